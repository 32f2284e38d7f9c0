/- Part of a proof. -/
import Derived.Test.YtbbbdejieenniaaGreatRA01
set_option linter.all false
set_option maxHeartbeats 8000000
set_option maxRecDepth 100000
namespace Go.Proofs.YtbbbdejieenniaaGreat
open Go.Vc
section
variable{b:ad}{e:E}{d g:N}{f:List jS}{c:Prop}{W:Nat}
def CA(O:∀c∈b,c<e.size){lt:N}{u:af}{D:List ab}(y:ir e d g u f)(hW:W<=1000000)(hk:CH u f c W)(ae:rJ e lt D)(aJ:D.length=f.length)(aq:∀c∈D,c.length<=3):
 zg 259 [.agg #[d.v,g.v],lt.v] e b u λz=>CH u z c W/\z.length=f.length:=by
 apply Hu
 simp -zeta only[dU]
 intro h a2
 let⟨H,Q⟩:=fN (a:=h) (c:=a2) rfl rfl
 have s1:=pz h
 clear_value a2
 have av:=y.lz.aS;have aL:=y.pF
 refine(jw (b:=h.size::b) (dC O H.aP (Q _ bO)) (y.le H.le).bQ y.dh).aO λ_ U⟨dd,j,ao,Z⟩=>?_
 subst j
 refine⟨Z.fq Q,_,rfl,?_⟩
 intro r aC ak
 have u2:=H.O Z
 let⟨x5,B0,g0,s3,s5⟩:=nY (b:=r.size::h.size::b) kZ.aO (d:=U) (a:=r) (c:=aC) (j:=ak) rfl rfl rfl
 clear_value ak
 have ad:∀c∈[h.size,e.size],c<U.size:=by grind [J.lt]
 have aG:∀c∈h.size::b,c<U.size:=λc v=>Z.lt (dC O H.aP (Q _ bO) c v)
 refine nO (R:=λk l M=>∃d g z,Value.agg #[k.v,l.v]=.agg #[d.v,g.v]/\ir (dg b M) d g u z/\(CH u z c W/\z.length=f.length)/\J e M) (q:=f.length) (f:=e) (b:=b) kZ.aO cH cH O ⟨V,ad _ bO⟩ u2 s3 ao av V x5 B0 g0 (λ_ q=>q.aX.length<=3/\q.cR.length<=3/\WB u f.length c q.aX.length q.eV/\q.eV.w<=W) (λl X ai m' h1 B k o p=>⟨l,X,ai,rfl,⟨h1,B,y.dh,V⟩,⟨Lz hk.iT k o,k⟩,p⟩) λah M s ai aE μ ap aI xM ac I aD=>?_
 let⟨q,hq⟩:=dY f ah ap
 let⟨au,aH,ay,hw⟩:=hk.eN q (aZ hq)
 have v6:=u2.O xM
 let⟨aN,aO,p,c1,c2,c3,e0,e1,e2,e3,e4⟩:=y.lz.D hq
 have G:∀{al:Value}{p x:Nat},aR e p x=some al->aR M p x=some al:=λL=>v6.aR L
 refine⟨V,V,_,G e0,_,G e1,_,G e2,_,G e3,_,G e4,?_⟩
 intro m7 l
 have hy:=ac.cD
 have aF:=I.lt
 have zM:=xM.aP
 have x8:J M l:=by grind [J.push,J.aV]
 have s8:l.size=M.size+1:=by grind [bD]
 clear_value l
 have C:∀c∈[M.size,h.size,e.size],c<l.size:=λc v=>by
  grind
 have A:=v6.O x8
 have o:∀{M1 M2:E},J l M1->J l M2->∀p,p<l.size->∀x,aR M2 p x=aR M1 p x:=λL h' p hb x=>bB cG x
 have w:M.size<l.size:=V
 have T:r.size<l.size:=V
 let⟨aa,ag⟩:=dY D ah
 let⟨yt,aA,K⟩:=ae.D ag
 have az:=aq aa (aZ ag)
 have aK:=ae.aS
 have P:∀{M':E},l.size<=M'.size->∀c∈s.bq::r.size::h.size::b,c<M'.size:=λL c v=>by
  grind
 refine⟨s,(I.ext x8).dz 1,V,V,yt,A.aR K,?_⟩
 refine(dA (s.bq::r.size::h.size::b) (c1.ext A) V).bK (J.cZ l) C λp' _ m9 gp j k _=>⟨_,rfl,o di k _ w _,o di k _ w _,o di k _ w _,((A.O k).aR K).trans (A.aR K).symm,o di k _ T _,?_⟩
 subst j
 refine(dA (s.bq::r.size::h.size::b) (aA.ext (A.O k)) V).bK k C λt' _ aB gt j am t=>⟨_,rfl,o k t _ w _,o k t _ w _,o k t _ w _,o k t _ T _,?_⟩
 subst j
 have z9:=k.aP;have CE:=am.aP
 refine(Av q.eV (s.bq::r.size::h.size::b) aB (P V) p (c3.le (A.O t).le) V).bK t C λss b' aj aw j an F=>⟨_,_,rfl,o t F _ w _,o t F _ T _,?_⟩
 subst j
 intro aM
 have Y:=x8.O F
 have aP:=F.aP
 have ar:bd (dg (s.bq::r.size::h.size::b) aj) p' q.aX:=(gp.cz (P V) V).le ((am.O an).eU)
 have ax:bd (dg (s.bq::r.size::h.size::b) aj) t' aa:=(gt.cz (P V) V).le an.eU
 exact Gr.bT (g:=[.s .nil,.s .nil,.i 0,.s .nil,.i 0]) (j:=1) (v:=88) (i:=[.s dd,.s s]) (u:=⟨q.aX,aa,q.bL,q.eV⟩) kZ.aO cH (ac.ext kZ.aO Y) ((xM.O Y).fz []) ⟨p',t',ss,rfl,ar,ax,aw⟩ V (I.ext Y) bO cH ⟨V,bO⟩ (λc v=>by have h1:=C c v;have B:=ad c;simp only[aY]at v B;rcases v with j|j|j|j<;>first|omega|(have:=B (by simp[j]);omega)|simp at j) λX m' g' B f' z' q'=>aD X m' _ g' B f'.ext ⟨au,az,ay,hw⟩
def NY(hS:∀c∈b,c<e.size){B:af}(hn:ir e d g B f)(hW:W<=1000000)(hk:CH B f c W):zg 244 [.agg #[N.v d,N.v g]] e b B λt=>CH B t c W:=by
 apply Ha;simp -zeta only[kd,nJ];intro p a2;let⟨x2,H⟩:=fN (a:=p) (c:=a2) rfl rfl;have s1:=pz p;clear_value a2;have aA:=hn.pF;have aj:∀c∈p.size::b,c<a2.size:=dC hS x2.aP (H _ bO);have k:∀{M q:E},J a2 M->J a2 q->∀ae,aR q e.size ae=aR M e.size ae:=λu h' ae=>bB (by rw[h'.bC _ (H _ bO),u.bC _ (H _ bO)]) ae;have tail:∀(Q:E)(a:Nat)(A y:N)(D:List jS),J a2 Q->a2.size<=a->dJ Q a qM [.s A,.s y]->ir (dg (a::p.size::b) Q) A y B D->CH B D c W->
  ∃(I0:Int->E->Prop)(μ0:Int->E->Nat),I0 (0:Int) Q/\(∀(l:Int)(x:E),I0 l x->
   ((decide (l<=(12:Int)))=true->
    let U:E:=x.push (.cells (de []) Ch)
    ∃(v:N->Int->E->Prop)(μ1:N->Int->E->Nat),v (N.mk x.size 0 0 0) (0:Int) U/\(∀(s:N)(w:Int)(h:E),v s w h->
     ∃C:N,aR h a 1=some (N.v C)/\
     ((decide (w<(C.len:Int)))=true->∃i:N,aR h a 0=some (N.v i)/\∃j:N,aR h a 1=some (N.v j)/\
      bJ dN 261 [.agg #[N.v i,N.v j],vi w] h λY P=>gL [p.size,e.size] h P/\∃aa:N,Y=N.v aa/\
       let ag:E:=P.push (.cells (de [.s aa]) Ch)
       lS ag Ch [.s N.nil] 24 s (N.mk P.size 0 1 1) λF z=>gL [p.size,e.size] ag z/\v F (eR (w+(1:Int))) z/\μ1 F (eR (w+(1:Int))) z<μ1 s w h)/\
     ((decide (w<(C.len:Int)))=false->∃i:N,aR h a 0=some (N.v i)/\∃j:N,aR h a 1=some (N.v j)/\
      bJ dN 259 [.agg #[N.v i,N.v j],N.v s] h λG L=>gL [p.size,e.size] h L/\∃z:N,∃F:N,G=.agg #[N.v z,N.v F]/\iQ L a 0 2/\
       let O:E:=aV L a 0 [.s z,.s F]
       gL [p.size,e.size] L O/\I0 (eR (l+(1:Int))) O/\μ0 (eR (l+(1:Int))) O<μ0 l x)))/\
   ((decide (l<=(12:Int)))=false->∃i:N,aR x a 0=some (N.v i)/\∃j:N,aR x a 1=some (N.v j)/\
    let ah:E:=aV x p.size 0 [.s i,.s j]
    ∃d g t,Value.agg #[N.v i,N.v j]=.agg #[N.v d,N.v g]/\ir (dg b ah) d g B t/\CH B t c W/\J e ah)):=by
  intro Q a A y D T aq hB hN R
  refine ik (n:=13) V (λ_ M=>J a2 M/\∃A y D,dJ M a qM [.s A,.s y]/\ir (dg (a::p.size::b) M) A y B D/\CH B D c W) ⟨T,A,y,D,hB,hN,R⟩ ?_
  rintro aD x ax μ az ⟨x6,A,y,D,I,z,K⟩ aw
  have ay:=I.lt
  have aC:=z.lz.aS
  have aB:=z.pF
  refine⟨λu=>?_,λu=>?_⟩
  .simp only[bh]at u
   intro U
   have ao:=px U
   have g0:GII [] x U (.mk x.size 0 0 0) []:=Gr.bI _ bW
   refine gP (n:=D.length) V (λw s M=>J x M/\∃l,GII [] x M s l/\l.length=w/\∀c∈l,c.length<=3) ⟨ao,[],g0,rfl,bO⟩ ?_
   rintro w s h I2 μ2 hf ⟨F,l,ac,ap,C⟩ am
   have u8:=x6.O F
   have N8:=z.le F.eU
   refine⟨y,(I.ext F).dz 1,dit (λG=>?_) λG=>?_⟩
   .let⟨X,Z⟩:=dY D w
    have an:=(K.eN X (aZ Z)).2.1
    have i:=ac.cD
    refine⟨A,(I.ext F).dz 0,y,(I.ext F).dz 1,?_⟩
    refine(NS (e:=[s.bq]) fj (N8.le fG) K Z).bK u8 H λaa ar P ak au x9 u9=>⟨_,rfl,?_⟩
    intro ag
    refine Gr.nA (g:=[.s .nil]) nm.aO cH (ac.ext nm.aO x9) ((F.O x9).fz []) ⟨aa,rfl,ak.cz fj V⟩ V λv q g' j _ _=>⟨J.sK (u9.cw _) (x6.O j.ext) H,am V _ _ ⟨j.ext,_,g',fj,λal i=>?_⟩⟩
    rcases bR.1 i with i|i
    .exact C al i
    .simp at i;subst i;omega
   .refine⟨A,(I.ext F).dz 0,y,(I.ext F).dz 1,?_⟩
    have ak:rJ h s l:=fU.le (ac.cz nm.aO bO cH V) fG (nm.le fG)
    have z8:=F.aP
    refine(CA (b:=a::p.size::b) (λc j=>?_) (N8.le fG) hW K ak V C).aO λ_ L⟨d2,Y,an,i,N2,⟨K2,_⟩,aa⟩=>?_
    .rcases aY.1 j with i|i
     .omega
     .have:=aj c i;omega
    subst i
    have ag:=(I.ext F).ext aa
    refine⟨u8.aaK H aa,_,_,rfl,ag.iQ bO,?_⟩
    intro O
    have al:∀P,P≠a->O[P]? =L[P]? :=λP hb=>cg _ _ _ _ hb
    refine⟨λc j=>al c (oh (H c j)),aw V _ ⟨(u8.O aa).aV aq _ _,d2,Y,an,dJ.aV (m:=L) (o:=0) (r:=[.s d2,.s Y]) ag,N2.le (dQ bO λ_ u=>u),K2⟩⟩
  .refine⟨A,I.dz 0,y,I.dz 1,?_⟩
   intro ah
   exact⟨A,y,D,rfl,(z.le (kO x λc j=>aW _ j)).le (dQ bO λc j=>aW _ j),K,(x2.O x6).aV V _ _⟩
 have ar:∀X∈f,X.aX.length<=3:=λX Z=>(hk.eN X Z).1;have al:∀(M:E)(O:ad)(K:ai),J a2 M->(∀c∈O,c<M.size)->(∀s l q,rJ q s l->l.length=f.length->(∀c∈l,c.length<=3)->J M q->K (N.v s) q)->bJ dN 260 [.agg #[N.v d,N.v g]] M λak U=>gL O M U/\K ak U:=λM O K T hL R=>
  (Kq (e:=[]) bO (hn.le (x2.O T).le) ar).aO λ_ q⟨s,l,i,L,G,C,Y⟩=>⟨Y.fq hL,i▸R s l q (fU.le L fG (nm.le fG)) G C Y⟩
 have cR:∀(M:E)(S' O:ad)(K:ai)(s:N)(l:List ab),J a2 M->(∀c∈O,c<M.size)->(∀c∈S',c<M.size)->rJ M s l->l.length=f.length->(∀c∈l,c.length<=3)->(∀w v t q,ir (dg S' q) w v B t->CH B t c W->J M q->K (.agg #[N.v w,N.v v]) q)->bJ dN 259 [.agg #[N.v d,N.v g],N.v s] M λak U=>gL O M U/\K ak U:=λM S' O K s l T hL ap L G C R=>
  (CA ap (hn.le (x2.O T).le) hW hk L G C).aO λ_ q⟨w,v,t,i,z,⟨K1,_⟩,Y⟩=>⟨Y.fq hL,i▸R w v t q z K1 Y⟩
 have am:∀{M:E}{a:Nat},J a2 M->a<M.size->∀c∈a::p.size::b,c<M.size:=λu hb c j=>by
  have:=u.aP;rcases aY.1 j with i|i
  .omega
  .have:=aj c i;omega
 have ah:∀{M:E}{a:Nat},J a2 M->a<M.size->∀c∈[a,p.size,e.size],c<M.size:=λu hb c j=>by
  rcases aY.1 j with i|i
  .omega
  .exact u.lt (H c i)
 refine⟨al a2 _ _ di H λs l ac L G C h=>⟨_,rfl,k di h _,k di h _,⟨?_,?_⟩⟩,?_⟩
 .refine cR ac (p.size::b) _ _ s l h (λc j=>h.lt (H c j)) (λc j=>h.lt (aj c j)) L G C λw v t m3 z K P=>⟨_,_,rfl,?_⟩;have F:=h.O P;intro m4;have u4:J a2 m4:=F.cw _;refine⟨k F u4 _,k F u4 _,k F u4 _,k F u4 _,?_⟩;intro m5;have aa:=py m5;exact tail m5 m3.size w v t (F.O aa) F.aP (dJ.aV (m:=m4) (o:=0) (r:=[.s w,.s v]) (dJ.push m3 _ _)) (z.le (aa.dg λc j=>by
   rcases aY.1 j with i|i
   .exact bG V
   .exact bu i)) K
 .intro aa;have F:J a2 aa:=h.cw _;refine⟨k h F _,k h F _,k h F _,k h F _,?_⟩;refine cR aa (ac.size::p.size::b) _ _ s l F (ah F (by simp[aa])) (am F (by simp[aa])) (rJ.ext (J.push _ _) L) G C λw v t ag z K P=>⟨_,_,rfl,?_⟩;intro an;exact tail an ac.size w v t ((F.O P).aV h.aP _ _) h.aP (dJ.aV (m:=ag) (o:=0) (r:=[.s w,.s v]) ((dJ.push ac _ _).ext P)) (z.le (dQ bO λ_ u=>u)) K
 .intro aa;have F:=px aa;refine⟨k di F _,k di F _,k di F _,k di F _,?_⟩;refine al aa _ _ F (ah F (by simp[aa])) λs l ao L G C h=>⟨_,rfl,k F (F.O h) _,k F (F.O h) _,?_⟩;have ag:=F.O h;have an:a2.size<ao.size:=h.lt (by simp[aa]);refine cR ao (a2.size::p.size::b) _ _ s l ag (ah ag an) (am ag an) L G C λw v t au z K P=>⟨_,_,rfl,?_⟩;intro av;exact tail av a2.size w v t ((ag.O P).aV bW _ _) bW (dJ.aV (m:=au) (o:=0) (r:=[.s w,.s v]) ((dJ.push a2 _ _).ext (h.O P))) (z.le (dQ bO λ_ u=>u)) K
end
section
variable{w:Int}{r:ab}
structure dD where
 ct:Int
 jJ:Int
 bU:ab
abbrev ah:=List dD
structure bS where
 fY:Int
 pc:Int
 br:Int
 aT:ab
 bF:ab
 cQ:ab
abbrev ak:=List bS
structure St where
 dT:Int
 je:Int
 df:Int
 dG:Int
 cC:ab
 aQ:ah
 bn:ak
def D(l:ab)(i:Int):Int:=l.getD i.toNat 0
def gT(l:ab)(i:Int)(v:Int):ab:=l.set i.toNat v
def ix(w:Int):Nat:=(w -1000).toNat
def mI(w:Int):Prop:=-999<=w/\w<=999
def jf(h:ah)(a:Nat):Prop:=∃c,h[a]? =some c/\0<c.ct
def iH(h:ah)(w:Int):Prop:=1000<=w/\jf h (ix w)
def zr(h:ah)(w:Int):Prop:=mI w\/iH h w
def kN:dD:=⟨0,0,[]⟩
def bt(h:ah)(w:Int):dD:=(h[ix w]?).getD kN
def afa:dP:=⟨[],[],0,0,[]⟩
def dy(a:cV)(n:Int):dP:=(a.cO[n.toNat]?).getD afa
def cJ(a:cV):Int:=(gJ a.bQ).length
def kC:ab->Nat->Int
 |[],_=>0
 |w::b,a=>(if w=1000+(a:Int)then 1 else 0)+kC b a
def qC:ah->Nat->Int
 |[],_=>0
 |c::h,a=>kC c.bU a+qC h a
def jg:ab->ab->Nat->Int
 |r::c,o::b,a=>(if r=1000+(a:Int)then o else 0)+jg c b a
 |_,_,_=>0
def oF:ak->Nat->Int
 |[],_=>0
 |f::b,a=>jg f.aT f.bF a+oF b a
def gG:ak->Nat->Int
 |[],_=>0
 |f::b,a=>kC f.cQ a+gG b a
def js(a:cV)(x:Instr)(k:Nat):Bool:=(dy a x.cE).cR.any (λy=>y==(k:Int))
def iN(a:cV)(x:Instr):Nat->ab->ab
 |_,[]=>[]
 |k,r::b=>if js a x k then iN a x (k+1) b else r::iN a x (k+1) b
def fe(a:cV)(x:Instr):Nat->ab->ab
 |_,[]=>[]
 |k,r::b=>if js a x k then r::fe a x (k+1) b else fe a x (k+1) b
def bY(a:cV)(x:Instr):ab:=
 if x.op=15\/x.op=6\/x.op=10\/x.op=11\/x.op=18\/x.op=23 then x.aN
 else if x.op=16\/x.op=17 then x.aN.take 1
 else if x.op=9\/x.op=24 then iN a x 0 x.aN
 else[]
def bV(aT bF:ab):ab->ab
 |[]=>bF
 |r::a=>bV aT (if 1000<=D aT r then gT bF r (D bF r -1)else bF) a
def dO(f:bS)(a:ab):ab:=a.map (D f.aT)
def nU(l:ab):ab:=l.filter (λw=>decide (1000<=w))
def oA(h:ah)(a:ab):Prop:=∀w∈a,1000<=w->(bt h w).ct+kC a (ix w)<=999999
def FQ(h:ah)(f:bS)(x:Instr):Prop:=
 let w:=D f.aT (D x.aN 0)
 iH h w/\nU (bt h w).bU=dO f (x.aN.drop 1)/\((bt h w).ct=1\/oA h (bt h w).bU)/\(x.op=17->D f.cQ (D x.aN 0)=0)
def tz(a:cV)(h:ah)(w:Int):Prop:=
 iH h w/\0<=(bt h w).jJ -cJ a/\(bt h w).jJ -cJ a<a.cO.length/\
  (dy a ((bt h w).jJ -cJ a)).aX.length=(bt h w).bU.length+1/\(dy a ((bt h w).jJ -cJ a)).cR.length=0/\
  ((bt h w).ct=1\/oA h (bt h w).bU)
def JH(h:ah)(f:bS)(x:Instr):Prop:=
 x.cY≠0->D f.cQ (x.cY -1)≠0->(bt h (D f.cQ (x.cY -1))).bU.length=x.aN.length
def tx(a:cV)(h:ah)(f:bS)(x:Instr):Prop:=∀r∈fe a x 0 x.aN,1000<=D f.aT r->iH h (D f.aT r)
def DG(l:ab):Prop:=∀n∈l,n=0
@[grind cases] structure iR (im:cV) (s:St) (f:bS) (x:Instr) (bF:ab):Prop where
 nn:∀o∈bF,0<=o
 br:kM x.op->D bF x.br<=0
 nL:(x.op=1\/x.op=2\/x.op=3\/x.op=4\/x.op=5\/x.op=20)->∀r∈x.aN,D f.aT r<1000
 jB:x.op=6->JH s.aQ f x
 cR:(x.op=9\/x.op=24)->tx im s.aQ f x
 mF:(x.op=24\/x.op=23)->DG bF/\DG f.cQ
 pU:x.op=23->1<s.bn.length\/D f.aT (D x.aN 0)<1000
 apply:x.op=11->tz im s.aQ (D f.aT (D x.aN 0))
 WU:x.op=14->iH s.aQ (D f.aT (D x.aN 0))/\(bt s.aQ (D f.aT (D x.aN 0))).ct<999999
 uD:x.op=15->1000<=D f.aT (D x.aN 0)
 Em:(x.op=16\/x.op=17)->FQ s.aQ f x
 pL:x.op=19->iH s.aQ (D f.aT (D x.aN 0))/\x.cE<(bt s.aQ (D f.aT (D x.aN 0))).bU.length
 sM:x.op=21->iH s.aQ (D f.aT (D x.aN 0))/\(bt s.aQ (D f.aT (D x.aN 0))).jJ∈cT im.bQ x.cE
def JO(n:Int):Int:=if n< -999 then -999 else if 999<n then 999 else n
def SS(c a b:Int):Int:=
 if c=1 then JO (a+b)else if c=2 then JO (a -b)else if c=3 then JO (a*b)else if c=4/\a<b then 1 else 0
def fD:ah->Nat
 |[]=>0
 |c::h=>if c.ct=0 then 0 else fD h+1
def jB(h:ah)(a:Nat)(c:dD):ah:=if a=h.length then h++[c]else h.set a c
def pX(h:ah)(w:Int):ah:=h.set (ix w) {bt h w with ct:=(bt h w).ct+1}
def iG(h:ah)(w:Int):ah:=h.set (ix w) {bt h w with ct:=(bt h w).ct -1}
def kK(h:ah):ab->ah
 |[]=>h
 |w::a=>kK (pX h w) a
def lB(h:ah):Nat->Nat
 |0=>0
 |n+1=>match h[n]? with
  |some c=>if c.ct=0 then lB h n else n+1
  |none=>lB h n
def pd(h:ah):ah:=h.take (lB h h.length)
def DL:ah->Nat
 |[]=>0
 |c::h=>(if 0<c.ct then c.ct.toNat+c.bU.length else 0)+DL h
def lY:∀{e:ah}{f:Nat}{b d:dD},e[f]? =some b->DL (e.set f d)+(if 0<b.ct then b.ct.toNat+b.bU.length else 0)=DL e+(if 0<d.ct then d.ct.toNat+d.bU.length else 0)
 |[],f,b,d,e=>by simp at e
 |i::e,0,b,d,g=>by simp at g;subst g;simp only[mW,DL];omega
 |i::e,f+1,b,d,g=>by
  have:=lY (e:=e) (f:=f) (b:=b) (d:=d) cG;grind [DL]
theorem dH{h:ah}(b:iH h w):h[ix w]? =some (bt h w)/\0<(bt h w).ct:=by
 obtain⟨_,d,a,c⟩:=b;simp[bt,a,c]
open Classical in
noncomputable def jx (h:ah) (c:ab):ah:=
 match c with
 |[]=>h
 |w::r=>
  if b:iH h w then
   if a:(bt h w).ct=1 then jx (h.set (ix w) kN) ((bt h w).bU.reverse++r)
   else jx (iG h w) r
  else jx h r
termination_by DL h+c.length
decreasing_by
 .let⟨e,a⟩:=dH b
  have:=lY (d:=kN) e
  simp only[kN,ba a]at this
  simp[kN]
  simp at this
  omega
 .let⟨e,a⟩:=dH b
  have b:=lY (d:={bt h w with ct:=(bt h w).ct -1}) e
  simp only[ba a]at b
  rw[ba V]at b
  simp[iG]
  omega
 .simp
def uB(h:ah):jx h []=h:=by rw[jx]
def uC{h:ah}(b:iH h w)(a:(bt h w).ct=1):jx h (w::r)=jx (h.set (ix w) kN) ((bt h w).bU.reverse++r):=by
 grind [jx]
def sB{h:ah}(b:iH h w)(a:(bt h w).ct≠1):jx h (w::r)=jx (iG h w) r:=by
 grind [jx]
def sC{h:ah}(a:¬iH h w):jx h (w::r)=jx h r:=by
 rw[jx,dif_neg a]
def bS.cB(f:bS)(r w o:Int):bS:={f with aT:=gT f.aT r w,bF:=gT f.bF r o}
def gE(w:Int):Int:=if 1000<=w then 1 else 0
def eY(bF:ab):ab->ab
 |[]=>bF
 |r::a=>eY (gT bF r (D bF r+1)) a
def eQ(n:Nat):ab:=List.replicate n 0
def fI(cR:ab):Nat->ab->ab
 |_,[]=>[]
 |k,w::a=>(if cR.any (λy=>y==(k:Int))then 0 else gE w)::fI cR (k+1) a
def cq(a:cV)(g c:Int)(b:ab):bS:=
 ⟨g,0,c,b++eQ ((dy a g).aT.toNat -b.length),fI (dy a g).cR 0 b++eQ ((dy a g).aT.toNat -b.length),eQ (dy a g).aT.toNat⟩
open Classical in
noncomputable def iO (h:ah) (w:Int):ah:=
 if(bt h w).ct=1 then pd (h.set (ix w) kN)else kK (iG h w) (nU (bt h w).bU)
def tJ(l:ab)(n:Int):Nat:=l.findIdx (λy=>y==n)
open Classical in
noncomputable def dI (b:cV) (s:St) (a:ak) (f:bS) (x:Instr) (bF:ab):St:=
 let g:bS:={f with bF:=bF,pc:=f.pc+1}
 let c:=D x.aN 0
 let w:=D f.aT c
 if x.op=0 then{s with bn:=a++[g.cB x.br x.cE 0]}
 else if x.op=1\/x.op=2\/x.op=3\/x.op=4 then{s with bn:=a++[g.cB x.br (SS x.op w (D f.aT (D x.aN 1))) 0]}
 else if x.op=5 then{s with cC:=s.cC++[w],bn:=a++[g.cB x.br w 0]}
 else if x.op=6 then
  if x.cY≠0/\D f.cQ (x.cY -1)≠0 then
   {s with aQ:=s.aQ.set (ix (D f.cQ (x.cY -1))) ⟨1,x.cE,dO f x.aN⟩,bn:=a++[{g with cQ:=gT f.cQ (x.cY -1) 0}.cB x.br (D f.cQ (x.cY -1)) 1]}
  else{s with aQ:=jB s.aQ (fD s.aQ) ⟨1,x.cE,dO f x.aN⟩,bn:=a++[g.cB x.br (1000+fD s.aQ) 1]}
 else if x.op=10 then{s with aQ:=jB s.aQ (fD s.aQ) ⟨1,cJ b+x.cE,dO f x.aN⟩,bn:=a++[g.cB x.br (1000+fD s.aQ) 1]}
 else if x.op=14 then{s with aQ:=pX s.aQ w,bn:=a++[{g with bF:=gT bF c (D bF c+1)}]}
 else if x.op=15 then{s with aQ:=pd (jx s.aQ [w]),bn:=a++[g]}
 else if x.op=16\/x.op=17 then
  let d:={g with bF:=eY bF (x.aN.drop 1)}
  if(bt s.aQ w).ct=1/\x.op=17 then{s with aQ:=s.aQ.set (ix w) ⟨-1,0,eQ (bt s.aQ w).bU.length⟩,bn:=a++[{d with cQ:=gT f.cQ c w}]}
  else{s with aQ:=iO s.aQ w,bn:=a++[d]}
 else if x.op=18 then{s with bn:=a++[g.cB x.br w (gE w)]}
 else if x.op=19 then{s with bn:=a++[g.cB x.br (D (bt s.aQ w).bU x.cE) 0]}
 else if x.op=20 then{s with bn:=a++[{g with pc:=if w=0 then x.cE else f.pc+1}]}
 else if x.op=21 then{s with bn:=a++[{g with pc:=D x.fQ (tJ (cT b.bQ x.cE) (bt s.aQ w).jJ)}]}
 else if x.op=22 then{s with bn:=a++[{g with pc:=x.cE}]}
 else if x.op=9 then{s with df:=s.df+1,bn:=a++[g,cq b x.cE x.br (dO f x.aN)]}
 else if x.op=24 then{s with df:=s.df+1,bn:=a++[cq b x.cE f.br (dO f x.aN)]}
 else if x.op=11 then
  {s with df:=s.df+1,aQ:=iO s.aQ w,bn:=a++[g,cq b ((bt s.aQ w).jJ -cJ b) x.br ((bt s.aQ w).bU++[D f.aT (D x.aN 1)])]}
 else -- 23
  match a.getLast? with
  |none=>{s with dT:=0,je:=w,bn:=[]}
  |some p=>{s with bn:=a.dropLast++[p.cB f.br w (gE w)]}
def me(a:Int):Prop:=a=9\/a=11\/a=24
instance(a:Int):Decidable (me a):=by unfold me;infer_instance
def bH(a:cV)(f:bS):Instr:=((dy a f.fY).cF[f.pc.toNat]?).getD ⟨0,0,0,0,[],[]⟩
open Classical in
noncomputable def ns (a:cV) (s:St):St:=
 if s.dT≠3 then s else
 match s.bn.getLast? with
 |none=>s
 |some f=>
  if me (bH a f).op/\s.df=s.dG then{s with dT:=1}
  else if iR a s f (bH a f) (bV f.aT f.bF (bY a (bH a f)))then
   dI a s s.bn.dropLast f (bH a f) (bV f.aT f.bF (bY a (bH a f)))
  else{s with dT:=2}
end
section
variable{f b:Nat}{h g:ah}{e e':Nat->Int}{w:Int}{c d:dD}
def qB:∀(l r:ab)(f:Nat),kC (l++r) f=kC l f+kC r f
 |[],r,f=>by simp[kC]
 |w::l,r,f=>by simp only[eT,kC,qB l r f];omega
def El:∀(l:ab)(f:Nat),kC l.reverse f=kC l f
 |[],f=>rfl
 |w::l,f=>by simp only[Vb,qB,El l f,kC];omega
def mR:∀(l:ab)(f:Nat),0<=kC l f
 |[],f=>by simp[kC]
 |w::l,f=>by have:=mR l f;simp only[kC];split<;>omega
theorem tT:∀{l:ab}{f:Nat},(1000+(f:Int))∉l->kC l f=0
 |[],f,_=>rfl
 |w::l,f,h=>by
  simp only[aY,Cj]at h;simp only[kC,tT h.2];grind
def yQ:∀{l:ab}{f:Nat},(1000+(f:Int))∈l->1<=kC l f
 |[],f,h=>by simp at h
 |w::l,f,h=>by
  simp only[kC];rcases aY.1 h with rfl|h
  .rw[ba rfl];have:=mR l f;omega
  .have:=yQ h;split<;>omega
theorem Xl{l:ab}(h:0<kC l f):(1000+(f:Int))∈l:=
 by grind [tT]
def Yj{n:Nat}:kC (eQ n) f=0:=tT λh=>by have:=aa5 h;omega
theorem Ek:∀(l:ab)(f:Nat),kC (nU l) f=kC l f
 |[],f=>rfl
 |w::l,f=>by
  have:=Ek l f;grind [nU,kC]
def Bn:∀(l:ab)(f:Nat),kC l f<=l.length
 |[],f=>by simp[kC]
 |w::l,f=>by have:=Bn l f;simp only[kC,dE];split<;>omega
def Ep:∀(h k:ah)(f:Nat),qC (h++k) f=qC h f+qC k f
 |[],k,f=>by simp[qC]
 |c::h,k,f=>by simp only[eT,qC,Ep h k f];omega
def Kg:∀(h:ah)(f:Nat),0<=qC h f
 |[],f=>by simp[qC]
 |c::h,f=>by have:=Kg h f;have:=mR c.bU f;simp only[qC];omega
theorem Er:∀{h:ah}{f:Nat}{c:dD}(e:dD)(_:h[f]? =some c)(b:Nat),qC (h.set f e) b=qC h b -kC c.bU b+kC e.bU b
 |[],f,c,e,h,b=>by simp at h
 |d::h,0,c,e,g,b=>by simp at g;subst g;simp only[mW,qC];omega
 |d::h,f+1,c,e,g,b=>by
  have:=Er (h:=h) (f:=f) e (sp g) b;grind [qC]
def PV:∀{h:ah}{f:Nat},0<qC h f->∃c∈h,(1000+(f:Int))∈c.bU
 |[],f,h=>by simp[qC]at h
 |c::h,f,e=>by
  simp only[qC]at e;rcases fP (0<kC c.bU f)with b|b
  .grind [Xl]
  .let⟨d,hd,g⟩:=PV (h:=h) (f:=f) (oh (mR c.bU f));grind
def Xo:∀{h:ah}{c:dD}(_:c∈h)(f:Nat),kC c.bU f<=qC h f
 |[],c,a,f=>by simp at a
 |d::h,c,a,f=>by
  simp only[qC];rcases aY.1 a with rfl|a
  .have:=Kg h f;omega
  .have:=Xo a f;have:=mR d.bU f;omega
@[grind cases] structure tv (h:ah) (c:dD):Prop where
 fl:c.bU.length<=3
 lo: -1<=c.ct
 hi:c.ct<=999999
 O5:c.ct<1->c.jJ=0/\(∀w∈c.bU,w=0)/\(c.ct=0->c.bU=[])
 yH:0<c.ct->(∀w∈c.bU,zr h w)/\0<=c.jJ/\c.jJ<=99
def ac7(h:ah):Prop:=∃a:ag,∀(i:Nat)(c:dD),h[i]? =some c->∀w∈c.bU,1000<=w->a (ix w)<a i
@[grind cases] structure iW (h:ah) (e:Nat->Int):Prop where
 iu:∀c∈h,tv h c
 Ib:ac7 h
 ex:∀(a:Nat)(c:dD),h[a]? =some c->0<c.ct->c.ct=qC h a+e a
 nn:∀a,0<=e a
 lv:∀a,0<e a->jf h a
theorem iW.congr(c:iW h e)(a:∀b,e' b=e b):iW h e':=by
 constructor<;>grind
theorem Ef(f:Nat):ix (1000+(f:Int))=f:=by unfold ix;omega
theorem nC(h:1000<=w):1000+((ix w:Nat):Int)=w:=by unfold ix;omega
def VX{v:Int}(a:1000<=v)(b:1000<=w)(h:ix v=ix w):v=w:=by grind [nC]
theorem iW.pQ(f:iW h e)(d:c∈h)(i:w∈c.bU)(j:1000<=w):iH h w:=by
 have g:=f.iu c d;rcases fP (0<c.ct)with b|b
 .rcases(g.yH b).1 w i with a|a
  .have:=a.2;omega
  .exact a
 .grind
def iW.acT(d:iW h e)(i:¬jf h f):qC h f=0:=by
 rcases fP (0<qC h f)with a|a
 .let⟨c,b,g⟩:=PV a;have:=(d.pQ b g V).2;grind [Ef]
 .have:=Kg h f;omega
def iW.adQ(a:iW h e)(b:¬jf h f):e f=0:=by
 grind
theorem oW(a:b≠f):(h.set f c)[b]? =h[b]? :=cG
theorem k8(hd:h[f]? =some d):(h.set f c)[f]? =some c:=by
 rw[ft (bA hd)]
theorem jf.ne(a:b≠f):jf (h.set f c) b<->jf h b:=by grind [jf]
theorem jf.Gu(hd:h[f]? =some d):jf (h.set f c) f<->0<c.ct:=by
 grind [jf]
theorem zr.aO(c:zr h w)(b:1000<=w->jf h (ix w)->jf g (ix w)):zr g w:=by
 rcases c with a|a
 .exact bu a
 .exact bG ⟨a.1,b a.1 a.2⟩
theorem tv.aO{h g:ah}{c:dD}(a:tv h c)(b:0<c.ct->∀w∈c.bU,1000<=w->jf h (ix w)->jf g (ix w)):tv g c:=
 by constructor<;>grind [zr.aO]
def rQ{x:dD}(a:x∈h.set f c):x=c\/∃b,b≠f/\h[b]? =some x:=by
 grind [List.mem_iff_getElem?]
def iW.Ov(k:iW h e)(a:h[f]? =some c)(g:0<c.ct){n:Int}(s:0<n)(r:n<=999999)
 (x:∀b,e' b=e b+if b=f then n -c.ct else 0)(u:0<=e' f):iW (h.set f {c with ct:=n}) e':=by
 have l:∀b,jf (h.set f {c with ct:=n}) b<->jf h b:=λb=>by
  by_cases i:b=f
  .subst i;rw[jf.Gu a];exact⟨λ_=>⟨c,a,g⟩,λ_=>s⟩
  .exact jf.ne i
 have y:∀b,qC (h.set f {c with ct:=n}) b=qC h b:=λb=>by rw[Er _ a];simp only[];omega
 refine⟨λz t=>?_,?_,λb d hd v=>?_,λb=>?_,λb p=>?_⟩
 .rcases rQ t with rfl|⟨b,_,p⟩
  .have j:=k.iu c (aZ a)
   exact⟨j.fl,by simp only[];omega,r,λo=>by simp only[]at o;omega,λ_=>⟨λw m=>((j.yH g).1 w m).aO λ_ q=>(l _).2 q,(j.yH g).2⟩⟩
  grind [tv.aO]
 .let⟨j,o⟩:=k.Ib
  refine⟨j,λq d hd w m g=>?_⟩
  grind
 .grind
 .grind
 .rw[l]
  by_cases i:b=f
  .subst i;exact⟨c,a,g⟩
  grind
def iW.VR(i:iW h e)(o:h[f]? =some c)(A:c.ct=1)(C:0<e f){c':dD}(v: -1<=c'.ct)(E:c'.ct<1)(y:c'.jJ=0)
 (r:∀w∈c'.bU,w=0)(t:c'.bU.length<=3)(s:c'.ct=0->c'.bU=[])
 (p:∀b,e' b=e b -(if b=f then 1 else 0)+kC c.bU b):iW (h.set f c') e':=by
 have j:=i.ex f c o V
 have I:=Kg h f
 have D:e f=1:=V
 have J:∀x∈h,(1000+(f:Int))∉x.bU:=λx j g=>by
  have:=Xo j f;have:=yQ g;omega
 have G:kC c.bU f=0:=by grind [tT]
 have H:∀b,kC c'.bU b=0:=λb=>tT λg=>by have:=r _ g;omega
 have u:∀b,b≠f->jf h b->jf (h.set f c') b:=by grind [jf.ne]
 have F:∀x∈h,∀w∈x.bU,1000<=w->ix w≠f:=λx j w g q z=>by
  grind [nC]
 refine⟨λx j=>?_,?_,λb d hd B=>?_,λb=>?_,λb k=>?_⟩
 .rcases rQ j with rfl|⟨b,_,k⟩
  .exact⟨t,v,V,λ_=>⟨y,r,s⟩,λq=>V⟩
  grind [tv.aO]
 .let⟨m,n⟩:=i.Ib
  refine⟨m,λK d hd w g q=>?_⟩
  grind
 .grind [Er]
 .rw[p]
  have:=i.nn b
  have:=mR c.bU b
  grind
 .rw[p]at k
  by_cases n:b=f
  .grind
  .rw[aU n]at k
   refine u b n ?_
   rcases fP (0<e b)with m|m
   .exact i.lv b m
   .have:=i.nn b
    have g:=Xl (l:=c.bU) (f:=b) V
    have:=(i.pQ (aZ o) g V).2
    rwa[Ef]at this
def iW.VY(j:iW h e){t:Int}{a:ab}(s:¬jf h f)(p:g[f]? =some ⟨1,t,a⟩)(u:∀b,b≠f->g[b]? =h[b]?)
 (L:∀b,qC g b=qC h b+kC a b)(v:∀w∈a,zr h w)(z:a.length<=3)(D:0<=t/\t<=99)(A:∀b,kC a b<=e b)
 (y:∀b,e' b=e b -kC a b+if b=f then 1 else 0):iW g e':=by
 have r:∀b,jf h b->jf g b:=λb c=>by
  grind [jf]
 have J:=j.adQ s
 have M:=j.acT s
 have K:kC a f=0:=by have:=mR a f;have:=A f;omega
 refine⟨λH F=>?_,?_,λb d hd I=>?_,λb=>?_,λb i=>?_⟩
 .let⟨b,i⟩:=cX.1 F
  by_cases l:b=f
  .subst l;rw[p]at i;simp at i;subst i
   exact⟨z,bO,bO,sx,λ_=>⟨λw m=>(v w m).aO λ_ c=>r _ c,D⟩⟩
  .rw[u b l]at i
   exact(j.iu H (aZ i)).aO λ_ w _ _ c=>r _ c
 .let⟨q,N⟩:=j.Ib
  refine⟨λk=>if k=f then(a.map λw=>q (ix w)).sum+1 else q k,λk d hd w m C=>?_⟩
  have E:ix w≠f:=λx=>by
   have B:iH h w:=by
    by_cases o:k=f
    .subst o;rw[p]at hd;simp at hd;subst hd;rcases v w m with n|n
     .have:=n.2;omega
     .exact n
    .rw[u k o]at hd;exact j.pQ (aZ hd) m C
   exact s (x▸B.2)
  simp only[aU E]
  by_cases o:k=f
  .subst o;rw[p]at hd;simp at hd;subst hd
   rw[ba rfl]
   have:∀(n:ab),w∈n->q (ix w)<=(n.map λw=>q (ix w)).sum:=by
    intro n c;induction n with
    |nil=>simp at c
    |cons O n G=>
     simp only[eI,List.sum_cons];rcases aY.1 c with rfl|c
     .omega
     .have:=G c;omega
   have:=this a m;omega
  grind
 .grind
 .grind
 .rw[y]at i
  by_cases l:b=f
  .subst l;exact⟨_,p,bO⟩
  .rw[aU l]at i
   exact r b (j.lv b (oh (mR a b)))
theorem iW.jx:∀(n:Nat)(h:ah)(k:ab)(e:Nat->Int),DL h+k.length<=n->iW h (λb=>e b+kC k b)->(∀b,0<=e b)->iW (jx h k) e
 |n,h,[],e,_,a,_=>by rw[uB];exact a.congr λb=>by simp[kC]
 |n,h,w::r,e,i,a,d=>by
  rcases fP (iH h w)with c|c
  .let⟨f,j⟩:=dH c;have q:=nC c.1;have o:∀b,kC (w::r) b=(if b=ix w then 1 else 0)+kC r b:=λb=>by
    grind [kC]
   have l:=lY (d:=kN) f;by_cases g:(bt h w).ct=1
   .rw[uC c g];simp only[ba j,kN]at l;simp at l;cases n with
    |zero=>simp at i
    |succ n=>
    refine iW.jx n _ _ e ?_ (iW.VR a f g ?_ cH cH rfl (by simp[kN]) (by simp[kN]) (λ_=>rfl) λb=>?_) d
    .grind [kN]
    .simp only[o,ba];have:=d (ix w);have:=mR r (ix w);omega
    .simp only[o,qB,El];omega
   .rw[sB c g];have m:=lY (d:={bt h w with ct:=(bt h w).ct -1}) f;simp only[ba j]at m;rw[ba V]at m;have p:=(a.iu _ (aZ f)).hi;cases n with
    |zero=>simp at i
    |succ n=>
    refine iW.jx n _ _ e ?_ (iW.Ov a f j V V (λb=>?_) ?_) d
    .grind [iG]
    .grind
    .have:=d (ix w);have:=mR r (ix w);omega
  .rw[sC c];cases n with
   |zero=>simp at i
   |succ n=>
   refine iW.jx n _ _ e cG (a.congr λb=>?_) d;simp only[kC];rw[aU]
   .omega
   .intro f;have:=a.lv b (by simp only[kC,ba f];have:=d b;have:=mR r b;omega);exact c ⟨V,by rw[f,Ef];exact this⟩
theorem xU(h:ah):∀n,lB h n<=n
 |0=>bW
 |n+1=>by
  simp only[lB];have:=xU h n;grind
theorem xT(h:ah):∀(n k:Nat)(c:dD),lB h n<=k->k<n->h[k]? =some c->c.ct=0
 |0,k,c,_,d,_=>V
 |n+1,k,c,a,e,b=>by
  simp only[lB]at a;by_cases d:k=n
  .grind
  .split at a
   .split at a
    .exact xT h n k c a V b
    .omega
   .exact xT h n k c a V b
def QD(h:ah):∀(n:Nat)(c:dD),n<=h.length->h[lB h n -1]? =some c->0<lB h n->c.ct≠0
 |0,c,_,_,a=>by simp[lB]at a
 |n+1,c,f,b,a=>by
  simp only[lB]at b a;let⟨d,hd⟩:=dY h n;rw[hd]at b a;simp only[]at b a;split at b
  .rename_i e;rw[ba e]at a;exact QD h n c V b a
  .grind
def qR(h:ah):Prop:=∀c,h[h.length -1]? =some c->c.ct≠0
def KZ:qR (pd h):=by
 intro c a;have d:=xU h h.length;unfold pd at a;rw[qO,my d]at a;rcases FK (lB h h.length)with b|b
 .grind
 .rw[pP V]at a;exact QD h _ c bW a b
def RN:∀{h:ah},(∀c∈h,c.bU=[])->∀f,qC h f=0
 |[],_,f=>rfl
 |c::h,a,f=>by simp only[qC,a c cK,kC,RN (λd hd=>a d (aW _ hd)) f];rfl
theorem iW.pd{h:ah}{e:Nat->Int}(d:iW h e):iW (pd h) e:=by
 have u:=xU h h.length;have q:∀(b:Nat)(c:dD),h[b]? =some c->c.ct≠0->b<lB h h.length:=λb c a i=>
  gA λv=>i (xT h h.length b c V (bA a) a)
 have k:∀(b:Nat)(c:dD),(Go.Proofs.YtbbbdejieenniaaGreat.pd h)[b]? =some c->h[b]? =some c:=λb c a=>by
  unfold Go.Proofs.YtbbbdejieenniaaGreat.pd at a;have:=bA a;rw[qO]at this;rwa[pP V]at a
 have l:∀b,jf h b->jf (Go.Proofs.YtbbbdejieenniaaGreat.pd h) b:=λb⟨c,a,j⟩=>⟨c,by
  unfold Go.Proofs.YtbbbdejieenniaaGreat.pd;rw[pP (q b c a V)];exact a,j⟩
 have s:∀b,qC (Go.Proofs.YtbbbdejieenniaaGreat.pd h) b=qC h b:=λb=>by
  have m:h=Go.Proofs.YtbbbdejieenniaaGreat.pd h++h.drop (lB h h.length):=(jT _ _).symm;have n:qC (h.drop (lB h h.length)) b=0:=RN (λc a=>by
   let⟨o,g⟩:=cX.1 a;rw[rC]at g;have i:=xT h h.length _ c V (bA g) g;exact((d.iu c (aZ g)).O5 V).2.2 i) b
  have o:=jO (λg=>qC g b) m;simp only[Ep,n]at o;omega
 refine⟨λc a=>?_,?_,λf c a j=>?_,d.nn,λf p=>l f (d.lv f p)⟩
 .let⟨b,g⟩:=cX.1 a;exact(d.iu c (aZ (k b c g))).aO λ_ w _ _ r=>l _ r
 .let⟨t,r⟩:=d.Ib;exact⟨t,λg c a=>r g c (k g c a)⟩
 .rw[s];exact d.ex f c (k f c a) j
end
section
variable{i x v:Int}{k:Nat}{c:cV}{f:bS}{s:St}
theorem jG{l:ab}(b:0<=i)(c:i<l.length):l[i.toNat]? =some (D l i):=by
 let⟨x,a⟩:=dY l i.toNat;simp[D,a]
theorem WH{l:ab}(h:l[k]? =some x):D l k=x:=by simp[D,h]
theorem OQ{l:ab}(h:l[i.toNat]? =some x):D l i=x:=by simp[D,h]
theorem gS{l:ab}(a:0<=i)(b:i<l.length):D l i∈l:=kv (jG a b)
theorem jC{l:ab}:(gT l i v).length=l.length:=by simp[gT]
def tQ{l:ab}(h:x∈gT l i v):x=v\/x∈l:=by
 rcases iS h with h|h
 .exact bG h
 .exact bu h
def Ew(l:ab)(i v:Int)(k:Nat):(gT l i v)[k]? =if k=i.toNat/\k<l.length then some v else l[k]? :=by
 unfold gT;by_cases h:k=i.toNat
 .subst h;by_cases a:i.toNat<l.length
  .rw[ft a,ba ⟨rfl,a⟩]
  .rw[aU V,JB V]
 .rw[aU V,iY (λe=>h e.symm)]
theorem mO{l:ab}(a:0<=i)(b:i<l.length)(j:Int)(c:0<=j):D (gT l i v) j=if j=i then v else D l j:=by
 unfold D;rw[fE,fE,Ew];by_cases h:j=i
 .subst h;rw[ba rfl,ba ⟨rfl,V⟩];rfl
 .rw[aU h,aU V]
def LD:∀(aT bF:ab)(k:Nat)(w o e d:Int)(a:Nat),aT[k]? =some e->bF[k]? =some d->
 jg (aT.set k w) (bF.set k o) a=jg aT bF a -(if e=1000+(a:Int)then d else 0)+(if w=1000+(a:Int)then o else 0)
 |[],bF,k,w,o,e,d,a,b,c=>by simp at b
 |r::f,[],k,w,o,e,d,a,b,c=>by simp at c
 |r::f,q::g,0,w,o,e,d,a,b,c=>by
  simp at b c;subst b;subst c;simp only[mW,jg];omega
 |r::f,q::g,k+1,w,o,e,d,a,b,c=>by
  have:=LD f g k w o e d a (sp b) (sp c);simp only[vZ,jg,this];omega
def ZQ{l:ab}(h:l[k]? =some x):l.set k x=l:=by
 apply ee;intro i;by_cases a:k=i
 .subst a;rw[ft (bA h),h]
 .rw[iY a]
def LC{aT bF:ab}{r:Int}(c:0<=r)(d:r<aT.length)(e:r<bF.length)(o:Int)(a:Nat):
 jg aT (gT bF r o) a=jg aT bF a+(if D aT r=1000+(a:Int)then o -D bF r else 0):=by
 have b:=jG c d
 have:=LD aT bF r.toNat (D aT r) o _ _ a b (jG c e)
 rw[ZQ b]at this
 rw[gT,this];split<;>omega
def RK{aT bF:ab}{r:Int}(b:0<=r)(c:r<aT.length)(d:r<bF.length)(e:D bF r=0)(w o:Int)(a:Nat):
 jg (gT aT r w) (gT bF r o) a=jg aT bF a+(if w=1000+(a:Int)then o else 0):=by
 have:=LD aT bF r.toNat w o _ _ a (jG b c) (jG b d)
 rw[gT,gT,this,e];split<;>omega
def Am:∀{aT bF:ab},(∀o∈bF,0<=o)->∀a,0<=jg aT bF a
 |[],bF,h,a=>by cases bF<;>simp[jg]
 |r::b,[],h,a=>by simp[jg]
 |r::b,o::d,h,a=>by
  have:=Am (aT:=b) (bF:=d) (λx c=>h x (aW _ c)) a;have:=h o cK;simp only[jg];split<;>omega
def xE:∀{aT bF:ab},DG bF->∀a,jg aT bF a=0
 |[],bF,h,a=>by cases bF<;>simp[jg]
 |r::b,[],h,a=>by simp[jg]
 |r::b,o::d,h,a=>by
  have:=xE (aT:=b) (bF:=d) (λx c=>h x (aW _ c)) a;have:=h o cK;simp only[jg,this];split<;>omega
def Kd:∀{c o1:ab}(b o2:ab),c.length=o1.length->∀a,jg (c++b) (o1++o2) a=jg c o1 a+jg b o2 a
 |[],[],b,o2,_,a=>by simp[jg]
 |[],_::_,_,_,h,_=>by simp at h
 |_::_,[],_,_,h,_=>by simp at h
 |r::e,o::d,b,o2,h,a=>by
  have:=Kd (c:=e) (o1:=d) b o2 (sp h) a;simp only[eT,jg,this];omega
def PK:∀{aT bF:ab}{k:Nat}{w o:Int}(_:∀o∈bF,0<=o)(_:aT[k]? =some w)(_:bF[k]? =some o){c:Nat}(_:w=1000+(c:Int)),o<=jg aT bF c
 |[],_,_,_,_,_,a,_,_,_=>by simp at a
 |_::_,[],_,_,_,_,_,b,_,_=>by simp at b
 |r::h,q::g,0,w,o,d,a,b,c,e=>by
  simp at a b;subst a;subst b;have:=Am (aT:=h) (bF:=g) (λx f=>d x (aW _ f)) c;simp only[jg,ba e];omega
 |r::h,q::g,k+1,w,o,d,a,b,c,e=>by
  have:=PK (aT:=h) (bF:=g) (k:=k) (λx f=>d x (aW _ f)) (sp a) (sp b) e;have:=d q cK;simp only[jg];split<;>omega
def jN:∀(l r:ak)(a:Nat),oF (l++r) a=oF l a+oF r a
 |[],r,a=>by simp[oF]
 |f::l,r,a=>by simp only[eT,oF,jN l r a];omega
theorem oG(f:bS)(a:Nat):oF [f] a=jg f.aT f.bF a:=by simp[oF]
def iU:∀(l r:ak)(a:Nat),gG (l++r) a=gG l a+gG r a
 |[],r,a=>by simp[gG]
 |f::l,r,a=>by simp only[eT,gG,iU l r a];omega
def mu(f:bS)(a:Nat):gG [f] a=kC f.cQ a:=by simp[gG]
def DW:∀(l:ak)(a:Nat),0<=gG l a
 |[],a=>by simp[gG]
 |f::l,a=>by have:=DW l a;have:=mR f.cQ a;simp only[gG];omega
theorem mh(aT:ab):∀(a bF:ab),(bV aT bF a).length=bF.length
 |[],bF=>rfl
 |r::a,bF=>by simp only[bV];rw[mh aT a];split<;>simp[jC]
def Cc{aT:ab}:∀(b bF:ab),(∀r∈b,0<=r/\r<aT.length)->aT.length=bF.length->∀a,jg aT (bV aT bF b) a=jg aT bF a -kC (b.map (D aT)) a
 |[],bF,_,_,a=>by simp[bV,kC]
 |r::b,bF,h,c,a=>by
  have e:=h r cK;have f:=λbF c=>Cc (aT:=aT) b bF (λx d=>h x (aW _ d)) c a;simp only[bV,eI,kC];by_cases d:1000<=D aT r
  .rw[ba d,f _ (by rw[jC];exact c),LC e.1 e.2 V];split<;>omega
  .rw[aU d,f _ c,aU V];omega
def oa{aT:ab}:∀(b bF:ab)(k:Nat)(o:Int),(bV aT bF b)[k]? =some o->∃q,bF[k]? =some q/\o<=q
 |[],bF,k,o,h=>⟨o,h,dR _⟩
 |r::b,bF,k,o,h=>by
  simp only[bV]at h;let⟨q,a,d⟩:=oa b _ k o h;split at a
  .rw[Ew]at a;split at a
   .rename_i c;let⟨y,e⟩:=jk c.2;have f:D bF r=y:=by rw[D,fE,<-c.1,e];rfl
    simp at a;exact⟨y,e,V⟩
   .exact⟨q,a,d⟩
  .exact⟨q,a,d⟩
theorem sW:∀(a bF:ab),(eY bF a).length=bF.length
 |[],bF=>rfl
 |r::a,bF=>by simp only[eY];rw[sW a,jC]
def JL{aT:ab}:∀(b bF:ab),(∀r∈b,0<=r/\r<aT.length)->aT.length=bF.length->∀a,jg aT (eY bF b) a=jg aT bF a+kC (b.map (D aT)) a
 |[],bF,_,_,a=>by simp[eY,kC]
 |r::b,bF,h,d,a=>by
  have c:=h r cK;simp only[eY,eI,kC];rw[JL (aT:=aT) b _ (λx e=>h x (aW _ e)) (by rw[jC];exact d) a,LC c.1 c.2 V];split<;>omega
def OW{aT:ab}:∀(c bF:ab),(∀r∈c,0<=r/\r<bF.length/\1000<=D aT r)->
 (∀(k:Nat)(o w:Int),bF[k]? =some o->aT[k]? =some w->0<=o/\(0<o->1000<=w))->∀(k:Nat)(o w:Int),(eY bF c)[k]? =some o->aT[k]? =some w->0<=o/\(0<o->1000<=w)
 |[],bF,_,h,k,o,w,a,b=>h k o w a b
 |r::c,bF,f,h,k,o,w,a,b=>by
  refine OW (aT:=aT) c (gT bF r (D bF r+1)) (λx d=>by rw[jC];exact f x (aW _ d)) (λk o w a b=>?_) k o w a b;rw[Ew]at a;split at a
  .rename_i e;have d:=f r cK;have g:D aT r=w:=by rw[D,fE,<-e.1,b];rfl
   have i:=h k (D bF r) w (by rw[e.1];exact jG d.1 d.2.1) b;simp at a;exact⟨V,λ_=>V⟩
  .exact h k o w a b
def jv(h:ah)(a:Nat):Prop:=∃c,h[a]? =some c/\c.ct<0
@[grind cases] structure fX (im:cV) (f:bS):Prop where
 fY:0<=f.fY/\f.fY<im.cO.length
 pc:0<=f.pc/\f.pc<(dy im f.fY).cF.length
 lr:(f.aT.length:Int)=(dy im f.fY).aT
 lo:(f.bF.length:Int)=(dy im f.fY).aT
 lh:(f.cQ.length:Int)=(dy im f.fY).aT
 YG:∀w∈f.aT,mI w\/1000<=w
 bF:∀(k:Nat)(o w:Int),f.bF[k]? =some o->f.aT[k]? =some w->0<=o/\(0<o->1000<=w)
 cQ:∀w∈f.cQ,w=0\/1000<=w
@[grind cases] structure eM (im:cV) (s:St):Prop where
 gW:gC im
 dT:0<=s.dT/\s.dT<=3
 cz:s.dT=0<->s.bn=[]
 je:mI s.je
 MH:s.je≠0->s.dT=0
 dG:0<=s.dG/\s.dG<=40
 df:0<=s.df/\s.df<=s.dG
 mQ:(s.bn.length:Int)<=s.df+1
 cC:∀n∈s.cC,mI n
 aQ:iW s.aQ (oF s.bn)
 nP:qR s.aQ
 bn:∀f∈s.bn,fX im f
 first:∀f,s.bn[0]? =some f->f.br=0
 tG:∀(k:Nat)(f g:bS),s.bn[k]? =some f->s.bn[k+1]? =some g->0<=g.br/\g.br<f.bF.length/\D f.bF g.br=0
 eG:∀a,jv s.aQ a->gG s.bn a=1
 ug:∀a,¬jv s.aQ a->gG s.bn a=0
def fX.Nd(h:fX c f):∀o∈f.bF,0<=o:=λo b=>by
 let⟨k,a⟩:=cX.1 b;have e:=bA a;have:=h.lo;have:=h.lr;let⟨w,d⟩:=dY f.aT k;exact(h.bF k o w a d).1
def Ke{c:cV}:∀{b:ak},(∀f∈b,fX c f)->∀a,0<=oF b a
 |[],_,a=>by simp[oF]
 |f::b,h,a=>by
  have:=Ke (λg d=>h g (aW _ d)) a;have:=Am (aT:=f.aT) (h f cK).Nd a;simp only[oF];omega
def eM.split(h:eM c s)(b:s.dT=3):∃a f,s.bn=a++[f]:=by
 have:s.bn≠[]:=λe=>by have:=h.cz.2 e;omega
 exact⟨s.bn.dropLast,s.bn.getLast this,(rY this).symm⟩
theorem fX.Aj(j:gC c)(h:fX c f):∃p,c.cO[f.fY.toNat]? =some p/\dy c f.fY=p/\ny c p/\p.cF[f.pc.toNat]? =some (bH c f)/\iB c p f.pc.toNat (bH c f):=by
 let⟨p,b⟩:=dY c.cO f.fY.toNat (oh h.fY);have e:dy c f.fY=p:=by simp[dy,b]
 have g:=j.eN p (aZ b);have k:=h.pc;rw[e]at k;let⟨i,a⟩:=dY p.cF f.pc.toNat;have d:bH c f=i:=by simp[bH,e,a]
 exact⟨p,b,e,g,d▸a,d▸g.eN _ _ a⟩
def YI(l:ak):Prop:=∀(k:Nat)(f g:bS),l[k]? =some f->l[k+1]? =some g->0<=g.br/\g.br<f.bF.length/\D f.bF g.br=0
section
variable{l r d:ak}{a b:bS}
def YI.C2(h:YI (l++[a]))(e:b.br=a.br):YI (l++[b]):=λk p q c d=>by
 have:=h k;grind
def YI.gZ(h:YI (l++[a]))(e:0<=b.br/\b.br<a.bF.length/\D a.bF b.br=0):YI (l++[a,b]):=λk p q c d=>by
 have:=h k;grind
def YI.rc(h:YI (l++[a]++[b])):YI (l++[a]):=λk p q c d=>by
 have:=h k;grind
def Pd(h:∀x,(l++a::r)[0]? =some x->x.br=0)(e:b.br=a.br)(x:bS)(c:(l++b::d)[0]? =some x):x.br=0:=by
 cases l<;>grind
end
def eM.jz(h:eM c s)(r:s.dT=3){b:ak}{g:bS}(e:s.bn=b++[f]){d:ah}{cC:ab}(q:fX c g)(hd:g.br=f.br)
 (k:iW d (oF (b++[g])))(n:qR d)(l:∀a,jv d a->gG (b++[g]) a=1)(o:∀a,¬jv d a->gG (b++[g]) a=0)(m:∀a∈cC,mI a){df:Int}(j:s.df<=df/\df<=s.dG):
 eM c {s with aQ:=d,cC:=cC,df:=df,bn:=b++[g]}:=by
 have p:=h.df
 have a:=h.mQ
 rw[e]at a
 refine⟨h.gW,h.dT,⟨λi=>by simp at i;omega,sx⟩,h.je,h.MH,h.dG,⟨by simp only[];omega,j.2⟩,by simp at a⊢;omega,m,k,n,λt i=>?_,Pd (e▸h.first) hd,YI.C2 (e▸h.tG) hd,l,o⟩
 grind [eM.bn,List.mem_append_left]
end
section
variable{h:ah}{a:Nat}{c d:dD}{w:Int}{e e':Nat->Int}
def jv.ne{b:Nat}(d:b≠a):jv (h.set a c) b<->jv h b:=by grind [jv,oW]
def jv.Gu(hd:h[a]? =some d):jv (h.set a c) a<->c.ct<0:=by grind [jv,k8]
theorem jv.eB(hd:h[a]? =some d)(g:0<=d.ct)(i:0<=c.ct)(b:Nat):jv (h.set a c) b<->jv h b:=by
 by_cases f:b=a
 .subst f;rw[jv.Gu hd];refine⟨λj=>V,λ⟨e,l,k⟩=>?_⟩;grind
 .exact jv.ne f
def jv.ZZ(b:jv h a):¬jf h a:=λ⟨c,e,g⟩=>by
 let⟨d,hd,f⟩:=b;grind
theorem jv.iG(c:iH h w)(b:Nat):jv (iG h w) b<->jv h b:=by
 let⟨a,d⟩:=dH c;exact jv.eB a V cG b
def jv.pX(c:iH h w)(b:Nat):jv (pX h w) b<->jv h b:=by
 let⟨a,d⟩:=dH c;exact jv.eB a V cG b
def jv.VR(a:iH h w)(b:Nat):jv (h.set (ix w) kN) b<->jv h b:=by
 let⟨c,d⟩:=dH a;grind [jv.eB,kN]
theorem jv.jx:∀(n:Nat)(h:ah)(i:ab),DL h+i.length<=n->∀b,jv (jx h i) b<->jv h b
 |n,h,[],_,b=>by rw[uB]
 |0,h,w::r,c,b=>by simp at c
 |n+1,h,w::r,c,b=>by
  simp only[dE]at c;rcases fP (iH h w)with a|a
  .let⟨f,g⟩:=dH a;by_cases d:(bt h w).ct=1
   .have e:=lY (d:=kN) f;simp only[ba g,kN]at e;simp at e;rw[uC a d,jv.jx n _ _ (by simp[kN];omega) b,jv.VR a]
   .have e:=lY (d:={bt h w with ct:=(bt h w).ct -1}) f;simp only[ba g]at e;rw[ba V]at e;rw[sB a d,jv.jx n _ _ (by simp only[Go.Proofs.YtbbbdejieenniaaGreat.iG];omega) b,jv.iG a]
  .rw[sC a,jv.jx n _ _ V b]
theorem jv.pd{h:ah}(b:Nat):jv (pd h) b<->jv h b:=by
 grind [xU,List.length,jv,pd,bA,List.length_take,List.getElem?_take_of_lt,xT]
def iW.pX(c:iW h e)(d:iH h w)(i:(bt h w).ct<999999)(g:∀b,e' b=e b+if b=ix w then 1 else 0):iW (pX h w) e':=by
 let⟨a,f⟩:=dH d;refine c.Ov a f V V (λb=>?_) ?_
 .grind
 .grind [ix]
def TP(a:iH h w){v:Int}(c:1000<=v):(bt (pX h w) v).ct=(bt h v).ct+(if v=w then 1 else 0):=by
 let⟨d,f⟩:=dH a;unfold pX;by_cases e:v=w
 .grind [bt,k8]
 .rw[aU e];conv=>lhs;unfold bt
  rw[oW (λb=>e (VX c a.1 b))];simp[bt]
theorem jf.pX{h:ah}{w:Int}(a:iH h w){b:Nat}:jf (pX h w) b<->jf h b:=by
 let⟨c,d⟩:=dH a;by_cases e:b=ix w
 .subst e;unfold Go.Proofs.YtbbbdejieenniaaGreat.pX;rw[jf.Gu c];exact⟨λ_=>a.2,λ_=>by simp only[];omega⟩
 .exact jf.ne e
def lT(a:1000<=w)(r:ab)(b:Nat):kC (w::r) b=(if b=ix w then 1 else 0)+kC r b:=by
 grind [kC,nC,ix,Ef]
def iW.kK:∀(a:ab)(h:ah)(e e':Nat->Int),iW h e->(∀w∈a,iH h w/\(bt h w).ct+kC a (ix w)<=999999)->(∀b,e' b=e b+kC a b)->iW (kK h a) e'/\(∀b,jv (kK h a) b<->jv h b)/\(kK h a).length=h.length
 |[],h,e,e',i,_,g=>⟨i.congr λb=>by rw[g];simp[kC],λ_=>MK,rfl⟩
 |w::a,h,e,e',i,k,g=>by
  let⟨c,p⟩:=k w cK;rw[lT c.1,ba rfl]at p;have:=mR a (ix w);let⟨m,n,o⟩:=iW.kK a (Go.Proofs.YtbbbdejieenniaaGreat.pX h w) (λb=>e b+if b=ix w then 1 else 0) e' (i.pX c V λb=>rfl) (λv q=>by
   let⟨d,j⟩:=k v (aW _ q);refine⟨⟨d.1,(jf.pX c).2 d.2⟩,?_⟩;rw[TP c d.1];rw[lT c.1]at j;split
   .rename_i f;subst f;rw[ba rfl]at j;omega
   .rename_i f;rw[aU (λl=>f (VX d.1 c.1 l))]at j;omega) (λb=>by rw[g,lT c.1];omega)
  refine⟨m,λb=>by rw[Go.Proofs.YtbbbdejieenniaaGreat.kK,n,jv.pX c],by rw[Go.Proofs.YtbbbdejieenniaaGreat.kK,o];simp[Go.Proofs.YtbbbdejieenniaaGreat.pX]⟩
theorem nN{l:ab}:w∈nU l<->w∈l/\1000<=w:=by simp[nU]
theorem iW.iO{h:ah}{e e':Nat->Int}(j:iW h e){w:Int}(o:iH h w)(H:0<e (ix w))(t:(bt h w).ct=1\/oA h (bt h w).bU)
 (A:∀b,e' b=e b -(if b=ix w then 1 else 0)+kC (bt h w).bU b)(K:qR h):iW (iO h w) e'/\(∀b,jv (iO h w) b<->jv h b)/\qR (iO h w):=by
 let⟨g,J⟩:=dH o
 unfold Go.Proofs.YtbbbdejieenniaaGreat.iO
 by_cases r:(bt h w).ct=1
 .rw[ba r]
  exact⟨(j.VR g r H (c':=kN) cH cH rfl (by simp[kN]) (by simp[kN]) (λ_=>rfl) A).pd,λb=>by rw[jv.pd,jv.VR o],KZ⟩
 .rw[aU r]
  have t:oA h (bt h w).bU:=by rcases t with m|m;exact absurd m r;exact m
  have Q:=(j.iu _ (aZ g)).hi
  have I:iW (Go.Proofs.YtbbbdejieenniaaGreat.iG h w) (λb=>e b -if b=ix w then 1 else 0):=j.Ov g J V V (λb=>by split<;>omega) fj
  have u:∀b,jf h b->jf (Go.Proofs.YtbbbdejieenniaaGreat.iG h w) b:=λb f=>by
   by_cases k:b=ix w
   .subst k;unfold Go.Proofs.YtbbbdejieenniaaGreat.iG;rw[jf.Gu g];simp only[];omega
   .exact(jf.ne k).2 f
  let⟨m,y,z⟩:=iW.kK (nU (bt h w).bU) _ _ e' I (λv x=>by
   let⟨s,p⟩:=nN.1 x;have a:=j.pQ (aZ g) s p;refine⟨⟨a.1,u _ a.2⟩,?_⟩;have:=t v s p;rw[Ek];have O:(bt (Go.Proofs.YtbbbdejieenniaaGreat.iG h w) v).ct<=(bt h v).ct:=by
    by_cases k:ix v=ix w
    .have i:=VX p o.1 k;subst i;unfold Go.Proofs.YtbbbdejieenniaaGreat.iG;conv=>lhs;unfold bt
     rw[k8 g];show(bt h v).ct -1<=(bt h v).ct;omega
    .unfold Go.Proofs.YtbbbdejieenniaaGreat.iG;conv=>lhs;unfold bt
     rw[oW k];exact dR _
   omega) (λb=>by rw[A,Ek])
  refine⟨m,λb=>by rw[y,jv.iG o],λc n=>?_⟩
  intro M
  rw[z]at n
  have B:(Go.Proofs.YtbbbdejieenniaaGreat.iG h w).length=h.length:=by simp[Go.Proofs.YtbbbdejieenniaaGreat.iG]
  rw[B]at n
  have f:=bA n
  rw[z,B]at f
  let⟨d,hd⟩:=dY h (h.length -1)
  have N:=K d hd
  have G:=j.iu d (aZ hd)
  have P:=G.lo
  rcases fP (0<d.ct)with C|C
  .have F:∀(q:ab)(l:ah),(∀v∈q,iH l v)->∀b,jf l b->jf (Go.Proofs.YtbbbdejieenniaaGreat.kK l q) b:=by
    intro q;induction q with
    |nil=>intro l _ b f;exact f
    |cons v q L=>
     intro l i b f;have a:=i v cK;exact L _ (λE D=>⟨(i E (aW _ D)).1,(jf.pX a).2 (i E (aW _ D)).2⟩) b ((jf.pX a).2 f)
   let⟨D,i,E⟩:=F (nU (bt h w).bU) (Go.Proofs.YtbbbdejieenniaaGreat.iG h w) (λv x=>by
    let⟨s,p⟩:=nN.1 x;have a:=j.pQ (aZ g) s p;exact⟨a.1,u _ a.2⟩) _ (u _ ⟨d,hd,C⟩)
   rw[n]at i;simp at i;subst i;omega
  .have l:jv h (h.length -1):=⟨d,hd,V⟩
   let⟨D,i,q⟩:=(y (h.length -1)).2 ((jv.iG o _).2 l)
   rw[n]at i;simp at i;subst i;omega
def sY:∀(h:ah),fD h<=h.length
 |[]=>bW
 |c::h=>by have:=sY h;simp only[fD,dE];split<;>omega
def Bb:∀(h:ah)(c:dD),h[fD h]? =some c->c.ct=0
 |[],c,a=>by simp[fD]at a
 |d::h,c,a=>by
  simp only[fD]at a;split at a
  .rename_i b;simp at a;subst a;exact b
  .exact Bb h c (sp a)
def iW.aal(k:iW h e){t:Int}{f:ab}(s:∀w∈f,zr h w)(m:f.length<=3)(r:0<=t/\t<=99)(n:∀b,kC f b<=e b)
 (l:∀b,e' b=e b -kC f b+if b=fD h then 1 else 0)(u:qR h):
 iW (jB h (fD h) ⟨1,t,f⟩) e'/\(∀b,jv (jB h (fD h) ⟨1,t,f⟩) b<->jv h b)/\qR (jB h (fD h) ⟨1,t,f⟩):=by
 unfold jB
 have o:¬jf h (fD h):=λ⟨c,a,v⟩=>by have:=Bb h c a;omega
 by_cases i:fD h=h.length
 .rw[ba i]
  have q:(h++[⟨1,t,f⟩])[fD h]? =some ⟨1,t,f⟩:=by rw[i];simp
  have p:∀b,b≠fD h->(h++[⟨1,t,f⟩])[b]? =h[b]? :=λb g=>by
   rcases eJ b h.length with j|j
   .rw[dX j]
   .rw[kX fj,kX j]
  refine⟨k.VY o q p (λb=>by rw[Ep];simp[qC]) s m r n l,λb=>?_,λc a=>?_⟩
  .by_cases g:b=fD h
   .rw[g];unfold jv;rw[q,i];simp
   .unfold jv;rw[p b g]
  .simp at a;subst a;simp
 .rw[aU i]
  have q:fD h<h.length:=by have:=sY h;omega
  let⟨d,hd⟩:=jk q
  have j:=Bb h d hd
  have p:=((k.iu d (aZ hd)).O5 V).2.2 j
  refine⟨k.VY o (k8 hd) (λb g=>oW g) (λb=>by rw[Er _ hd,p];simp[kC]) s m r n l,λb=>jv.eB hd V bO b,λc a=>?_⟩
  rw[YA]at a
  by_cases g:h.length -1=fD h
  .rw[g,k8 hd]at a;simp at a;subst a;simp
  .rw[oW g]at a;exact u c a
end
section
variable{c:cV}{w n g j:Int}{e:ab}{s:St}{d:ak}{f:bS}
theorem uQ{c:cV}{x:Instr}:∀{l:ab}{k:Nat}{r:Int},r∈iN c x k l->r∈l
 |[],k,r,h=>by simp[iN]at h
 |y::l,k,r,h=>by
  simp only[iN]at h;split at h
  .exact aW _ (uQ h)
  .rcases aY.1 h with rfl|h
   .exact cK
   .exact aW _ (uQ h)
def qW{x:Instr}{r:Int}(h:r∈bY c x):r∈x.aN:=by
 unfold bY at h;split at h
 .exact h
 split at h
 .exact jE h
 split at h
 .exact uQ h
 .simp at h
def DP{a:af}(h:eP a)(c:Int):(cW a c).length<=3:=by
 unfold cW;split
 .cases g:(gJ a)[c.toNat]? with
  |none=>simp
  |some f=>
   have d:=aZ g;unfold gJ at d;let⟨e,hd,b⟩:=List.mem_flatMap.1 d;let⟨k,i⟩:=cX.1 hd;have:=(h.eN k e i).iT (ac2 b);exact(this.2.2.2 f b).1
 .simp
def fX.cB{c:cV}{g:bS}(h:fX c g){r w o:Int}(f:mI w\/1000<=w)(d:0<=o)(e:0<o->1000<=w):fX c (g.cB r w o):=by
 refine⟨h.fY,h.pc,by simp only[bS.cB,jC];exact h.lr,by simp only[bS.cB,jC];exact h.lo,h.lh,λy a=>?_,λk q y b a=>?_,h.cQ⟩
 .rcases tQ a with rfl|a
  .exact f
  .exact h.YG y a
 .simp only[bS.cB]at b a;rw[Ew]at b a;have:=h.lr;have:=h.lo;split at b<;>split at a
  .simp at b a;subst b;subst a;exact⟨d,e⟩
  .omega
  .omega
  .exact h.bF k q y b a
def LG:0<=gE w:=by unfold gE;split<;>omega
def Iy(h:0<gE w):1000<=w:=by unfold gE at h;split at h<;>omega
def Bq(w:Int)(b:Nat):(if w=1000+(b:Int)then gE w else 0)=kC [w] b:=by
 simp only[kC,gE];split
 .rw[ba V];rfl
 .rfl
def Li:mI (JO n):=by unfold JO mI;split<;>(try split)<;>omega
def PM(c a b:Int):mI (SS c a b):=by
 unfold SS;split
 .exact Li
 split
 .exact Li
 split
 .exact Li
 split<;>(unfold mI;omega)
theorem lU(cR:ab):∀(e:ab)(k:Nat),(fI cR k e).length=e.length
 |[],k=>rfl
 |w::e,k=>by simp only[fI,dE,lU cR e]
def Ng(cR:ab):∀(e:ab)(k j:Nat)(o w:Int),(fI cR k e)[j]? =some o->e[j]? =some w->0<=o/\(0<o->1000<=w)
 |[],k,j,o,w,_,h=>by simp at h
 |v::e,k,0,o,w,a,b=>by
  simp[fI]at a b;subst b;split at a
  .subst a;omega
  .subst a;exact⟨LG,Iy⟩
 |v::e,k,j+1,o,w,a,b=>Ng cR e (k+1) j o w (by simpa[fI]using a) (sp b)
theorem lO(n:Nat):(eQ n).length=n:=by simp[eQ]
theorem pG{n:Nat}(h:w∈eQ n):w=0:=aa5 h
def yP{p:dP}(m:gC c)(l:0<=g)(h:c.cO[g.toNat]? =some p)(q:e.length=p.aX.length)(n:∀w∈e,mI w\/1000<=w):fX c (cq c g j e):=by
 have d:dy c g=p:=by simp[dy,h]
 have i:=m.eN p (aZ h);have t:=i.aT;have r:=i.aS;have s:=bA h;refine⟨⟨l,by simp only[cq];omega⟩,⟨by simp[cq],by simp only[cq,d];omega⟩,?_,?_,?_,λw a=>?_,λk o w b a=>?_,λw a=>bu (pG a)⟩
 .simp only[cq,d,dj,lO];omega
 .simp only[cq,d,dj,lO,lU];omega
 .simp only[cq,d,lO];omega
 .simp only[cq]at a;rcases bR.1 a with a|a
  .exact n w a
  .rw[pG a];exact bu (by unfold mI;omega)
 .simp only[cq]at b a;rcases eJ k e.length with f|f
  .rw[dX (by rw[lU];exact f)]at b;rw[dX f]at a;exact Ng _ e 0 k o w b a
  .rw[dL (by rw[lU];exact f)]at b;rw[pG (kv b)];omega
theorem uW(c:cV)(g j:Int)(e:ab)(b:Nat):jg (cq c g j e).aT (cq c g j e).bF b=jg e (fI (dy c g).cR 0 e) b:=by
 simp only[cq];rw[Kd _ _ (lU _ _ _).symm,xE (λn a=>pG a)];omega
def tR(b:Nat):gG [cq c g j e] b=0:=by
 rw[mu];exact Yj
def LF{c:cV}{d:Instr}(f:bS):∀(e:ab)(k:Nat)(b:Nat),jg (dO f e) (fI (dy c d.cE).cR k (dO f e)) b=kC ((iN c d k e).map (D f.aT)) b
 |[],k,b=>by simp[dO,jg,iN,kC]
 |r::h,k,b=>by
  have g:=LF (c:=c) (d:=d) f h (k+1) b;simp only[dO,eI,fI,jg,iN]at g⊢;rw[g];by_cases a:js c d k=true
  .rw[ba a];unfold js at a;rw[ba a];split<;>omega
  .rw[aU a];unfold js at a;rw[aU a];simp only[eI,kC];have:=Bq (D f.aT r) b;simp only[kC]at this;omega
def Nh:∀(e:ab)(k:Nat)(b:Nat),jg e (fI [] k e) b=kC e b
 |[],k,b=>by simp[jg,kC]
 |w::e,k,b=>by
  have:=Nh e (k+1) b;have a:=Bq w b;simp only[kC]at a;simp only[fI,jg,kC,this,U9,vY,mN];omega
def eM.uF{e:ah}{g:bS}(i:eM c s)(l:s.bn=d++[f])(m:g.cQ=f.cQ)(j:∀b,jv e b<->jv s.aQ b):
 (∀a,jv e a->gG (d++[g]) a=1)/\(∀a,¬jv e a->gG (d++[g]) a=0):=by
 have h:∀a,gG (d++[g]) a=gG s.bn a:=λa=>by rw[l,iU,iU,mu,mu,m]
 exact⟨λa b=>by rw[h];exact i.eG a ((j a).1 b),λa b=>by rw[h];exact i.ug a λk=>b ((j a).2 k)⟩
def SI:∀{a:ab}{k:Nat}{v:Int}(w:Int)(b:Nat),a[k]? =some v->kC (a.set k w) b=kC a b -(if v=1000+(b:Int)then 1 else 0)+(if w=1000+(b:Int)then 1 else 0)
 |[],k,v,w,b,h=>by simp at h
 |y::a,0,v,w,b,h=>by simp at h;subst h;simp only[mW,kC];omega
 |y::a,k+1,v,w,b,h=>by have:=SI (a:=a) w b (sp h);simp only[vZ,kC,this];omega
def qR.eB{h:ah}{a:Nat}{c:dD}(t:qR h)(b:c.ct≠0):qR (h.set a c):=by
 grind [qR]
def SK{b:Nat}(h:1000<=w):(if w=1000+(b:Int)then n else 0)=if b=ix w then n else 0:=by grind [nC,Ef]
def UR{l:ab}(h:1<=l.length):l.take 1=[D l 0]:=by
 cases l with
 |nil=>simp at h
 |cons v l=>rfl
def V9(j:eM c s)(P:s.dT=3)(u:s.bn=d++[f])
 (J:iR c s f (bH c f) (bV f.aT f.bF (bY c (bH c f))))(a4:¬(me (bH c f).op/\s.df=s.dG)):
 eM c (dI c s d f (bH c f) (bV f.aT f.bF (bY c (bH c f)))):=by
 have F:fX c f:=j.bn f (by rw[u];simp)
 let⟨Z,hp,aj,hP,aJ,hI⟩:=F.Aj j.gW
 generalize bH c f=x at*
 have⟨lr,lo,lh⟩:(f.aT.length:Int)=Z.aT/\(f.bF.length:Int)=Z.aT/\(f.cQ.length:Int)=Z.aT:=⟨aj▸F.lr,aj▸F.lo,aj▸F.lh⟩
 have aa:∀p∈x.aN,0<=p/\p<f.aT.length:=λp q=>by have:=hI.aN p q;omega
 have aH:∀m∈bY c x,0<=m/\m<f.aT.length:=λm P=>aa m (qW P)
 have a_:=Cc (aT:=f.aT) (bY c x) f.bF aH V
 have a9:=mh f.aT (bY c x) f.bF
 have a8:=oa (aT:=f.aT) (bY c x) f.bF
 generalize bV f.aT f.bF (bY c x)=bF at*
 have ay:∀N∈d,fX c N:=λN K=>j.bn N (by rw[u];exact dK _ K)
 have ac:∀e,0<=oF d e+jg f.aT bF e:=λe=>by
  have:=Ke ay e;have:=Am (aT:=f.aT) J.nn e;omega
 have C:iW s.aQ (λe=>oF d e+jg f.aT bF e+kC ((bY c x).map (D f.aT)) e):=j.aQ.congr λe=>by
  rw[u,jN,oG,a_];omega
 have aS:∀M:Int,0<=M->M<Z.cF.length->fX c {f with bF:=bF,pc:=M}:=λM h0 k=>
  ⟨F.fY,⟨h0,by rw[aj];exact k⟩,F.lr,by simp only[a9];exact F.lo,F.lh,F.YG,λX Y w T o=>by
   let⟨N,K,y⟩:=a8 X Y T;have z:=F.bF X N w K o;exact⟨J.nn Y (kv T),λv=>z.2 V⟩,F.cQ⟩
 have aw:=j.first
 have au:YI s.bn:=j.tG
 rw[u]at aw au
 have bb:=F.pc
 rw[aj]at bb
 have aP:x.op≠23->x.op≠24->f.pc+1<Z.cF.length:=λk z=>by
  rcases fP (f.pc+1<Z.cF.length)with E|E
  .exact E
  .have R:f.pc.toNat=Z.cF.length -1:=V;rw[R]at aJ;have:=hP.C2 x aJ;omega
 have W:x.op≠23->x.op≠24->fX c {f with bF:=bF,pc:=f.pc+1}:=λk z=>aS _ V (aP k z)
 have ae:∀m:Int,0<=m->m<f.aT.length->mI (D f.aT m)\/1000<=D f.aT m:=λm h0 k=>F.YG _ (gS h0 k)
 have aN:∀m:Int,0<=m->m<f.aT.length->D f.aT m<1000->mI (D f.aT m):=λm h0 k z=>by rcases ae m h0 k with E|E;exact E;omega
 have av:=hI.br
 have aK:kM x.op->D bF x.br=0:=λL=>by
  have k:=J.br L;have z:=J.nn _ (gS (l:=bF) av.1 V);omega
 have bd:∀m∈bY c x,zr s.aQ (D f.aT m):=λm aV=>by
  have aW:=aH m aV;rcases ae m aW.1 aW.2 with E|E
  .exact bu E
  .refine bG ⟨E,C.lv _ ?_⟩;have:=ac (ix (D f.aT m));have:=yQ (l:=(bY c x).map (D f.aT)) (f:=ix (D f.aT m)) (by rw[nC E];exact fu.2 ⟨m,aV,rfl⟩);omega
 have al:∀(M:Int)(aL:ab)(w Y:Int),kM x.op->∀e,oF (d++[bS.cB {f with bF:=bF,pc:=M,cQ:=aL} x.br w Y]) e=oF d e+jg f.aT bF e+(if w=1000+(e:Int)then Y else 0):=λM aL w Y L e=>by
  rw[jN,oG];simp only[bS.cB];rw[RK av.1 V V (aK L)];omega
 have ap:∀(w:Int)(cC:ab),kM x.op->x.op≠23->x.op≠24->bY c x=[]->(mI w\/1000<=w)->(∀n∈cC,mI n)->eM c {s with cC:=cC,bn:=d++[bS.cB {f with bF:=bF,pc:=f.pc+1} x.br w 0]}:=λw cC L k z v o T=>by
  let⟨G,O⟩:=j.uF u (g:=bS.cB {f with bF:=bF,pc:=f.pc+1} x.br w 0) rfl (λe=>MK);refine j.jz P u (hd:=rfl) ((W k z).cB o (dR _) (λE=>V)) (C.congr λe=>?_) j.nP G O T (df:=s.df) ⟨dR _,j.df.2⟩;rw[al _ _ _ _ L,v];simp[kC]
 have ar:∀M:Int,0<=M->M<Z.cF.length->bY c x=[]->eM c {s with bn:=d++[{f with bF:=bF,pc:=M}]}:=λM h0 k v=>by
  let⟨G,O⟩:=j.uF u (g:={f with bF:=bF,pc:=M}) rfl (λe=>MK);refine j.jz P u (hd:=rfl) (aS M h0 k) (C.congr λe=>?_) j.nP G O j.cC (df:=s.df) ⟨dR _,j.df.2⟩;rw[jN,oG,v];simp[kC]
 have y:=hI.op
 unfold kL at y
 by_cases e0:x.op=0
 .simp(disch:=omega) only[dI,aU,ba]at y⊢
  exact ap _ _ (by unfold kM;omega) V V (by simp[bY,e0]) (bu y.2) j.cC
 by_cases e1:x.op=1\/x.op=2\/x.op=3\/x.op=4
 .simp(disch:=omega) only[dI,aU,ba]
  exact ap _ _ (by unfold kM;omega) V V (by simp(disch:=omega) only[bY,aU]) (bu (PM _ _ _)) j.cC
 have af:1<=x.aN.length->0<=D x.aN 0/\D x.aN 0<f.aT.length:=λk=>aa _ (gS V V)
 by_cases e5:x.op=5
 .simp(disch:=omega) only[dI,aU,ba]at y⊢
  have q:=af V
  have ag:mI (D f.aT (D x.aN 0)):=aN _ q.1 q.2 (J.nL V _ (gS V V))
  refine ap _ _ (by unfold kM;omega) V V (by simp[bY,e5]) (bu ag) λn B=>?_
  rcases bR.1 B with B|B
  .exact j.cC n B
  .simp at B;subst B;exact ag
 have aX:(bY c x=x.aN)->∀w∈dO f x.aN,zr s.aQ w:=λv w o=>by
  obtain⟨m,U,rfl⟩:=fu.1 o;exact bd m (v▸U)
 have aC:∀ak,bY c x=x.aN->x.op≠23->x.op≠24->kM x.op->x.aN.length<=3->0<=ak/\ak<=99->eM c {s with aQ:=jB s.aQ (fD s.aQ) ⟨1,ak,dO f x.aN⟩,bn:=d++[bS.cB {f with bF:=bF,pc:=f.pc+1} x.br (1000+fD s.aQ) 1]}:=λak v k z L E aA=>by
  let⟨Q,k2,k3⟩:=C.aal (t:=ak) (f:=dO f x.aN) (e':=oF (d++[bS.cB {f with bF:=bF,pc:=f.pc+1} x.br (1000+fD s.aQ) 1])) (aX v) (by simpa[dO]using E) aA (λe=>by rw[v];have:=ac e;simp only[dO];omega) (λe=>by
   rw[al _ _ _ _ L,v];simp only[dO];have:(if(1000+(fD s.aQ:Int))=1000+(e:Int)then(1:Int)else 0)=if e=fD s.aQ then 1 else 0:=by
    by_cases A:e=fD s.aQ
    .rw[ba A,ba V]
    .rw[aU A,aU V]
   rw[this];omega) j.nP
  let⟨G,O⟩:=j.uF u (g:=bS.cB {f with bF:=bF,pc:=f.pc+1} x.br (1000+fD s.aQ) 1) rfl k2;exact j.jz P u (hd:=rfl) ((W k z).cB (bG V) V (λ_=>V)) Q k3 G O j.cC (df:=s.df) ⟨dR _,j.df.2⟩
 have bh:(gJ c.bQ).length<=12:=by
  have:=tI j.gW.kQ.dh c.bQ.length;rw[qu _ _ bW]at this;exact this
 have bj:=j.gW.kQ.aS
 by_cases e6:x.op=6
 .simp(disch:=omega) only[dI,aU,ba]at y⊢
  have v:bY c x=x.aN:=by simp(disch:=omega) only[bY,aU,ba]
  have L:kM x.op:=by unfold kM;omega
  have am:x.aN.length<=3:=by rw[y.2.1];exact DP j.gW.kQ.dh _
  split
  .rename_i aB
   have H:0<=x.cY -1/\x.cY -1<f.cQ.length:=V
   have hv:=F.cQ _ (gS (l:=f.cQ) H.1 H.2)
   have S:1000<=D f.cQ (x.cY -1):=V
   have az:0<gG s.bn (ix (D f.cQ (x.cY -1))):=by
    rw[u,iU,mu];have:=DW d (ix (D f.cQ (x.cY -1)));have:=yQ (l:=f.cQ) (f:=ix (D f.cQ (x.cY -1))) (by rw[nC S];exact gS H.1 H.2);omega
   have ai:jv s.aQ (ix (D f.cQ (x.cY -1))):=gA λB=>by have:=j.ug _ B;omega
   have ao:=j.eG _ ai
   let⟨ad,hd,aq⟩:=ai
   have ax:∀e,kC ad.bU e=0:=λe=>tT λo=>by
    have:=((C.iu ad (aZ hd)).O5 V).2.1 _ o;omega
   have Q:=C.VY (t:=x.cE) (a:=dO f x.aN) (e':=oF (d++[bS.cB {f with bF:=bF,pc:=f.pc+1,cQ:=gT f.cQ (x.cY -1) 0} x.br (D f.cQ (x.cY -1)) 1])) (f:=ix (D f.cQ (x.cY -1))) (g:=s.aQ.set (ix (D f.cQ (x.cY -1))) ⟨1,x.cE,dO f x.aN⟩)
    (jv.ZZ ⟨ad,hd,aq⟩) (k8 hd) (λe A=>oW A) (λe=>by rw[Er _ hd,ax];simp only[];omega) (aX v) (by simpa[dO]using am) V (λe=>by rw[v];have:=ac e;simp only[dO];omega) (λe=>by
     rw[al _ _ _ _ L,v];simp only[dO];rw[SK S];omega)
   have I:∀e,gG (d++[bS.cB {f with bF:=bF,pc:=f.pc+1,cQ:=gT f.cQ (x.cY -1) 0} x.br (D f.cQ (x.cY -1)) 1]) e=gG s.bn e -(if e=ix (D f.cQ (x.cY -1))then 1 else 0):=λe=>by
    rw[u,iU,iU,mu,mu];simp only[bS.cB,gT];rw[SI _ _ (jG H.1 H.2),SK S,aU (show¬0=1000+(e:Int)by omega)];omega
   have an:fX c {f with bF:=bF,pc:=f.pc+1,cQ:=gT f.cQ (x.cY -1) 0}:=by
    have k:=W V V;exact⟨k.fY,k.pc,k.lr,k.lo,by simp only[jC];exact k.lh,k.YG,k.bF,λw o=>by rcases tQ o with o|o;exact bu o;exact k.cQ w o⟩
   refine j.jz P u (hd:=rfl) (an.cB (bG S) V (λ_=>S)) Q (j.nP.eB bO) (λp q=>?_) (λp q=>?_) j.cC (df:=s.df) ⟨dR _,j.df.2⟩
   .rw[I]
    by_cases A:p=ix (D f.cQ (x.cY -1))
    .subst A;rw[jv.Gu hd]at q;simp at q
    .rw[aU A];rw[jv.ne A]at q;have:=j.eG p q;omega
   .rw[I]
    by_cases A:p=ix (D f.cQ (x.cY -1))
    .subst A;rw[ba rfl];omega
    .rw[aU A];rw[jv.ne A]at q;have:=j.ug p q;omega
  .exact aC _ v V V L am V
 by_cases be:x.op=10
 .simp(disch:=omega) only[dI,aU,ba]at y⊢
  obtain⟨⟨N,am,ad,an⟩,_⟩:=y
  have E:=(j.gW.kQ.eN N (aZ ad)).1
  have:=bA ad
  exact aC _ (by simp(disch:=omega) only[bY,aU,ba]) V V (by unfold kM;omega) V (by unfold cJ;omega)
 by_cases aD:x.op=14
 .simp(disch:=omega) only[dI,aU,ba]at y⊢
  have q:=af V
  have v:bY c x=[]:=by simp[bY,aD]
  let⟨B,aq⟩:=J.WU aD
  let⟨G,O⟩:=j.uF u (g:={f with bF:=gT bF (D x.aN 0) (D bF (D x.aN 0)+1),pc:=f.pc+1}) rfl (λe=>jv.pX B e)
  have k:=W V V
  refine j.jz P u (hd:=rfl) (g:={f with bF:=gT bF (D x.aN 0) (D bF (D x.aN 0)+1),pc:=f.pc+1}) ⟨k.fY,k.pc,k.lr,by simp only[jC];exact k.lo,k.lh,k.YG,λX Y w T o=>?_,k.cQ⟩ (C.pX B aq λe=>?_) ?_ G O j.cC (df:=s.df) ⟨dR _,j.df.2⟩
  .simp only[]at T o
   rw[Ew]at T
   split at T
   .rename_i H
    simp at T
    have R:D f.aT (D x.aN 0)=w:=by rw[D,fE,<-H.1,o];rfl
    have:=J.nn _ (gS (l:=bF) q.1 V)
    have:=B.1
    exact⟨V,λ_=>V⟩
   .exact k.bF X Y w T o
  .rw[jN,oG,v]
   simp only[]
   rw[LC q.1 q.2 V]
   have H:=nC B.1
   simp only[iZ,kC]
   rw[SK B.1];omega
  .let⟨S,ai⟩:=dH B
   exact j.nP.eB fj
 have aq:x.aN.length=1->x.aN=[D x.aN 0]:=λk=>by
  let⟨bl,hv⟩:=xY.1 k;rw[hv];rfl
 by_cases bf:x.op=15
 .simp(disch:=omega) only[dI,aU,ba]at y⊢
  have v:bY c x=[D x.aN 0]:=by simp(disch:=omega) only[bY,ba];exact aq V
  rw[v]at C
  have Q:=iW.jx _ s.aQ [D f.aT (D x.aN 0)] (λe=>oF d e+jg f.aT bF e) bW (C.congr λe=>rfl) ac
  let⟨G,O⟩:=j.uF u (g:={f with bF:=bF,pc:=f.pc+1}) rfl (λe=>(jv.pd (h:=jx s.aQ [D f.aT (D x.aN 0)]) e).trans (jv.jx _ _ _ bW e))
  exact j.jz P u (hd:=rfl) (W V V) (Q.pd.congr λe=>by rw[jN,oG]) KZ G O j.cC (df:=s.df) ⟨dR _,j.df.2⟩
 by_cases a0:x.op=16\/x.op=17
 .simp(disch:=omega) only[dI,aU,ba]at y⊢
  have q:=af V
  have v:bY c x=[D x.aN 0]:=by simp(disch:=omega) only[bY,aU,ba,UR]
  let⟨B,aF,ax,aO⟩:=J.Em a0
  let⟨S,ai⟩:=dH B
  have aG:∀m∈x.aN.drop 1,0<=m/\m<bF.length/\1000<=D f.aT m:=λm U=>by
   have k:=aa m (uj U);have z:D f.aT m∈nU (bt s.aQ (D f.aT (D x.aN 0))).bU:=by rw[aF];exact fu.2 ⟨m,U,rfl⟩
   exact⟨k.1,V,(nN.1 z).2⟩
  have k:=W V V
  have X:fX c {f with bF:=eY bF (x.aN.drop 1),pc:=f.pc+1}:=⟨k.fY,k.pc,k.lr,by simp only[sW];exact k.lo,k.lh,k.YG,OW (aT:=f.aT) _ bF aG k.bF,k.cQ⟩
  have aY:∀e,jg f.aT (eY bF (x.aN.drop 1)) e=jg f.aT bF e+kC (bt s.aQ (D f.aT (D x.aN 0))).bU e:=λe=>by
   rw[JL (aT:=f.aT) _ _ (λm U=>oh (aG m U)) V,<-Ek (bt s.aQ _).bU,aF];rfl
  have aB:0<oF d (ix (D f.aT (D x.aN 0)))+jg f.aT bF (ix (D f.aT (D x.aN 0)))+kC ((bY c x).map (D f.aT)) (ix (D f.aT (D x.aN 0))):=by
   rw[v];have:=ac (ix (D f.aT (D x.aN 0)));simp only[eI,iZ,lT B.1,ba,kC];omega
  have az:∀e,oF d e+jg f.aT (eY bF (x.aN.drop 1)) e=(oF d e+jg f.aT bF e+kC ((bY c x).map (D f.aT)) e) -(if e=ix (D f.aT (D x.aN 0))then 1 else 0)+kC (bt s.aQ (D f.aT (D x.aN 0))).bU e:=λe=>by
   rw[aY,v];simp only[eI,iZ,lT B.1,kC];omega
  split
  .rename_i ao
   have aM:=aO ao.2
   have Q:=C.VR S ao.1 aB (c':=⟨-1,0,eQ (bt s.aQ (D f.aT (D x.aN 0))).bU.length⟩) bO bO rfl (λw o=>pG o) (by simp only[lO];exact(C.iu _ (aZ S)).fl) sx (e':=oF (d++[{f with bF:=eY bF (x.aN.drop 1),pc:=f.pc+1,cQ:=gT f.cQ (D x.aN 0) (D f.aT (D x.aN 0))}])) (λe=>by rw[jN,oG];exact az e)
   have aI:D x.aN 0<f.cQ.length:=V
   have I:∀e,gG (d++[{f with bF:=eY bF (x.aN.drop 1),pc:=f.pc+1,cQ:=gT f.cQ (D x.aN 0) (D f.aT (D x.aN 0))}]) e=gG s.bn e+(if e=ix (D f.aT (D x.aN 0))then 1 else 0):=λe=>by
    rw[u,iU,iU,mu,mu];have aE:=jG (l:=f.cQ) q.1 aI;rw[aM]at aE;simp only[gT];rw[SI _ _ aE,SK B.1,aU V];omega
   have aR:¬jv s.aQ (ix (D f.aT (D x.aN 0))):=λG=>G.ZZ B.2
   refine j.jz P u (hd:=rfl) (g:={f with bF:=eY bF (x.aN.drop 1),pc:=f.pc+1,cQ:=gT f.cQ (D x.aN 0) (D f.aT (D x.aN 0))}) ⟨X.fY,X.pc,X.lr,X.lo,by simp only[jC];exact X.lh,X.YG,X.bF,λw o=>?_⟩ Q (j.nP.eB bO) (λp H=>?_) (λp H=>?_) j.cC (df:=s.df) ⟨dR _,j.df.2⟩
   .rcases tQ o with o|o
    .rw[o];exact bG B.1
    .exact F.cQ w o
   .rw[I]
    by_cases A:p=ix (D f.aT (D x.aN 0))
    .rw[ba A,A,j.ug _ aR];rfl
    .rw[aU A];rw[jv.ne A]at H;have:=j.eG p H;omega
   .rw[I]
    by_cases A:p=ix (D f.aT (D x.aN 0))
    .subst A;rw[jv.Gu S]at H;simp at H
    .rw[aU A];rw[jv.ne A]at H;have:=j.ug p H;omega
  .let⟨Q,k2,k3⟩:=C.iO B aB ax (e':=oF (d++[{f with bF:=eY bF (x.aN.drop 1),pc:=f.pc+1}])) (λe=>by rw[jN,oG];exact az e) j.nP
   let⟨G,O⟩:=j.uF u (g:={f with bF:=eY bF (x.aN.drop 1),pc:=f.pc+1}) rfl k2
   exact j.jz P u (hd:=rfl) X Q k3 G O j.cC (df:=s.df) ⟨dR _,j.df.2⟩
 by_cases bg:x.op=18
 .simp(disch:=omega) only[dI,aU,ba]at y⊢
  have q:=af V
  have v:bY c x=[D x.aN 0]:=by simp(disch:=omega) only[bY,ba];exact aq V
  have L:kM x.op:=by unfold kM;omega
  let⟨G,O⟩:=j.uF u (g:=bS.cB {f with bF:=bF,pc:=f.pc+1} x.br (D f.aT (D x.aN 0)) (gE (D f.aT (D x.aN 0)))) rfl (λe=>MK)
  refine j.jz P u (hd:=rfl) ((W V V).cB (ae _ q.1 q.2) LG Iy) (C.congr λe=>?_) j.nP G O j.cC (df:=s.df) ⟨dR _,j.df.2⟩
  rw[al _ _ _ _ L,v,Bq];rfl
 by_cases aE:x.op=19
 .simp(disch:=omega) only[dI,aU,ba]at y⊢
  let⟨B,A⟩:=J.pL aE
  let⟨S,ai⟩:=dH B
  refine ap _ _ (by unfold kM;omega) V V (by simp[bY,aE]) ?_ j.cC
  rcases((C.iu _ (aZ S)).yH ai).1 _ (gS y.2.1 A)with z|z
  .exact bu z
  .exact bG z.1
 by_cases a1:x.op=20
 .simp(disch:=omega) only[dI,aU,ba]at y⊢
  have:=aP V V
  exact ar _ (by split<;>omega) (by split<;>omega) (by simp[bY,a1])
 by_cases aF:x.op=21
 .simp(disch:=omega) only[dI,aU,ba]at y⊢
  let⟨B,aA⟩:=J.sM aF
  have X:tJ (cT c.bQ x.cE) (bt s.aQ (D f.aT (D x.aN 0))).jJ<(cT c.bQ x.cE).length:=mo ⟨_,aA,bO⟩
  let⟨ao,A⟩:=y.2.2
  have:=A _ (gS (l:=x.fQ) (i:=(tJ (cT c.bQ x.cE) (bt s.aQ (D f.aT (D x.aN 0))).jJ:Nat)) V V)
  exact ar _ V V (by simp[bY,aF])
 by_cases a2:x.op=22
 .simp(disch:=omega) only[dI,aU,ba]at y⊢
  exact ar _ V V (by simp[bY,a2])
 have aY:∀w∈dO f x.aN,mI w\/1000<=w:=λw o=>by
  obtain⟨m,U,rfl⟩:=fu.1 o;exact ae m (aa m U).1 (aa m U).2
 have az:me x.op->s.df<s.dG:=λS=>by
  have:=j.df;have:s.df≠s.dG:=λR=>a4 ⟨S,R⟩;omega
 have aO:∀(hp:ah),s.df<s.dG->x.op≠23->x.op≠24->∀(g:bS),fX c g->kM x.op->g.br=x.br->iW hp (oF (d++[{f with bF:=bF,pc:=f.pc+1},g]))->qR hp->(∀e,jv hp e<->jv s.aQ e)->(∀e,gG [g] e=0)->
  eM c {s with df:=s.df+1,aQ:=hp,bn:=d++[{f with bF:=bF,pc:=f.pc+1},g]}:=λhp bi k z g hg L a6 hH hT hK a7=>by
  have aI:=j.df
  have X:=j.mQ
  rw[u]at X
  have I:∀e,gG (d++[{f with bF:=bF,pc:=f.pc+1},g]) e=gG s.bn e:=λe=>by
   have:=a7 e;simp only[u,iU,gG]at this⊢;omega
  refine⟨j.gW,j.dT,⟨λR=>by simp at R;omega,sx⟩,j.je,j.MH,j.dG,⟨by simp only[];omega,by simp only[];omega⟩,by simp at X⊢;omega,j.cC,hH,hT,λN K=>?_,Pd aw rfl,(au.C2 (b:={f with bF:=bF,pc:=f.pc+1}) rfl).gZ (by rw[a6];exact⟨av.1,by simp only[];omega,aK L⟩),λp q=>by rw[I];exact j.eG p ((hK p).1 q),λp q=>by rw[I];exact j.ug p λE=>q ((hK p).2 E)⟩
  have:=W k z
  grind
 by_cases e9:x.op=9
 .simp(disch:=omega) only[dI,aU,ba]at y⊢
  let⟨N,am,ad,an⟩:=y
  have v:bY c x=iN c x 0 x.aN:=by simp(disch:=omega) only[bY,aU,ba]
  refine aO s.aQ (az (bu e9)) V V (cq c x.cE x.br (dO f x.aN)) (yP j.gW am ad (by simp[dO,an]) aY) (by unfold kM;omega) rfl (C.congr λe=>?_) j.nP (λ_=>MK) tR
  rw[jN,v]
  simp only[oF]
  rw[uW,LF];omega
 by_cases aG:x.op=24
 .simp(disch:=omega) only[dI,aU,ba]at y⊢
  let⟨N,am,ad,an⟩:=y
  have v:bY c x=iN c x 0 x.aN:=by simp(disch:=omega) only[bY,aU,ba]
  let⟨ao,aB⟩:=J.mF (bu aG)
  have I:∀e,gG (d++[cq c x.cE f.br (dO f x.aN)]) e=gG s.bn e:=λe=>by
   rw[u,iU,iU,tR,mu,tT (λo=>oh (aB _ o))]
  have A:=az (bG (bG aG))
  refine j.jz P u (hd:=rfl) (yP j.gW am ad (by simp[dO,an]) aY) (C.congr λe=>?_) j.nP (λp q=>by rw[I];exact j.eG p q) (λp q=>by rw[I];exact j.ug p q) j.cC (df:=s.df+1) V
  rw[jN,oG,uW,LF,v,xE ao];omega
 by_cases am:x.op=11
 .simp(disch:=omega) only[dI,aU,ba]at y⊢
  have v:bY c x=x.aN:=by simp(disch:=omega) only[bY,aU,ba]
  have a3:x.aN=[D x.aN 0,D x.aN 1]:=by
   cases A:x.aN with
   |nil=>rw[A]at y;simp at y
   |cons an ad=>cases ad with
    |nil=>rw[A]at y;simp at y
    |cons aM ad=>cases ad with
     |nil=>rfl
     |cons _ _=>rw[A]at y;simp at y
  have an:0<=D x.aN 1/\D x.aN 1<f.aT.length:=aa _ (gS V V)
  let⟨B,bc,bk,a5,aM,ax⟩:=J.apply am
  let⟨S,ai⟩:=dH B
  let⟨N,K⟩:=dY c.cO (((bt s.aQ (D f.aT (D x.aN 0))).jJ -cJ c).toNat)
  have aR:dy c ((bt s.aQ (D f.aT (D x.aN 0))).jJ -cJ c)=N:=by simp[dy,K]
  rw[aR]at a5 aM
  have ad:∀e,kC ((bY c x).map (D f.aT)) e=(if e=ix (D f.aT (D x.aN 0))then 1 else 0)+kC [D f.aT (D x.aN 1)] e:=λe=>by
   rw[v,a3];simp only[eI,iZ];rw[lT]
   .rfl
   .exact B.1
  let⟨Q,k2,k3⟩:=C.iO B (by simp only[ad,ba];have:=ac (ix (D f.aT (D x.aN 0)));have:=mR [D f.aT (D x.aN 1)] (ix (D f.aT (D x.aN 0)));omega) ax
   (e':=oF (d++[{f with bF:=bF,pc:=f.pc+1},cq c ((bt s.aQ (D f.aT (D x.aN 0))).jJ -cJ c) x.br ((bt s.aQ (D f.aT (D x.aN 0))).bU++[D f.aT (D x.aN 1)])])) (λe=>by
    rw[jN,ad];simp only[oF];rw[uW,aR,cr.1 aM,Nh,qB];omega) j.nP
  refine aO _ (az (bG (bu am))) V V _ (yP j.gW bc K fj λw o=>?_) (by unfold kM;omega) rfl Q k3 k2 tR
  rcases bR.1 o with o|o
  .rcases((C.iu _ (aZ S)).yH ai).1 w o with z|z
   .exact bu z
   .exact bG z.1
  .simp at o;subst o;exact ae _ an.1 an.2
 have ai:x.op=23:=gA λ_=>by simp(disch:=omega) only[aU]at y
 simp(disch:=omega) only[dI,aU,ba]at y⊢
 have q:=af V
 have v:bY c x=[D x.aN 0]:=by simp(disch:=omega) only[bY,ba];exact aq V
 let⟨ao,aB⟩:=J.mF (bG ai)
 have an:∀e,gG [f] e=0:=λe=>by rw[mu];exact tT (λo=>oh (aB _ o))
 split
 .rename_i A
  have ad:d=[]:=List.getLast?_eq_none_iff.1 A
  subst ad
  have B:=J.pU ai
  have ag:=aN _ q.1 q.2 (by rcases B with k|k;(rw[u]at k;simp at k);exact k)
  have aI:=j.df
  refine⟨j.gW,⟨bO,bO⟩,bO,ag,bO,j.dG,j.df,fj,j.cC,C.congr λe=>?_,j.nP,bO,bO,bO,λp H=>?_,λp H=>?_⟩
  .rw[v,xE ao]
   simp only[oF,eI,iZ]
   rw[tT (by simp;have:=ag.2;omega)];rfl
  .have k:=j.eG p H
   rw[u]at k
   have z:=an p
   simp only[gY]at k
   omega
  .simp[gG]
 .rename_i B A
  have ad:d=d.dropLast++[B]:=by
   have ax:d≠[]:=λR=>by rw[R]at A;simp at A
   rw[rf ax]at A;simp at A;rw[<-A];exact(rY ax).symm
  generalize d.dropLast=fs' at ad
  subst ad
  have ag:fX c B:=ay B bO
  let⟨aM,aR,a3⟩:=j.tG fs'.length B f (by rw[u];simp) (by rw[u];simp)
  have a5:f.br<B.aT.length:=by have:=ag.lr;have:=ag.lo;omega
  have aI:=j.df
  have X:=j.mQ
  rw[u]at X
  have I:∀e,gG (fs'++[B.cB f.br (D f.aT (D x.aN 0)) (gE (D f.aT (D x.aN 0)))]) e=gG s.bn e:=λe=>by
   rw[u,iU,iU,an,iU,mu,mu];simp[bS.cB]
  refine⟨j.gW,j.dT,⟨λR=>by simp at R;omega,sx⟩,j.je,j.MH,j.dG,j.df,by simp at X⊢;omega,j.cC,C.congr λe=>?_,j.nP,λN K=>?_,Pd (l:=fs') (a:=B) (r:=[f]) (sp aw) rfl,au.rc.C2 rfl,λp H=>by rw[I];exact j.eG p H,λp H=>by rw[I];exact j.ug p H⟩
  .rw[jN,oG,jN,oG,v,xE ao]
   simp only[bS.cB,eI,iZ]
   rw[RK aM a5 aR a3,Bq];omega
  .rcases bR.1 K with K|K
   .exact ay N (dK _ K)
   .simp at K;subst K
    exact ag.cB (ae _ q.1 q.2) LG Iy
def Ow(h:eM c s):eM c (ns c s):=by
 unfold ns;by_cases b:s.dT=3
 .rw[aU (sp b)];let⟨d,f,a⟩:=h.split b;have i:s.bn.getLast?=some f:=by rw[a];simp
  have j:s.bn.dropLast=d:=by rw[a];simp
  rw[i,j];simp only[];have g:∀n,1<=n->n<=2->eM c {s with dT:=n}:=λn l m=>
   ⟨h.gW,⟨by simp only[];omega,by simp only[];omega⟩,⟨λe=>by simp only[]at e;omega,λe=>by simp only[]at e;rw[a]at e;simp at e⟩,h.je,λe=>oh (h.MH e),h.dG,h.df,h.mQ,h.cC,h.aQ,h.nP,h.bn,h.first,h.tG,h.eG,h.ug⟩
  split
  .exact g 1 V V
  .rename_i e;split
   .rename_i k;exact V9 h b a k e
   .exact g 2 V V
 .rw[ba (sp b)];exact h
end
section
variable{a:cV}{s:St}
def wj(a:cV):ak->Int
 |[]=>0
 |f::b=>((dy a f.fY).cF.length -f.pc)+wj a b
def qD(a:cV):∀(l r:ak),wj a (l++r)=wj a l+wj a r
 |[],r=>by simp[wj]
 |f::l,r=>by simp only[eT,wj,qD a l r];omega
def AQ(a:cV)(s:St):Int:=wj a s.bn+(s.dG -s.df)*2000
def ZL{a:cV}:∀{b:ak},(∀f∈b,fX a f)->0<=wj a b
 |[],_=>by simp[wj]
 |f::b,h=>by
  have:=ZL (λg c=>h g (aW _ c));have:=(h f cK).pc;simp only[wj];omega
def aaR(h:eM a s):0<=AQ a s:=by
 have:=ZL h.bn;have:=h.df;unfold AQ;omega
def SN{d:ak}{f:bS}(J:eM a s)(m:s.bn=d++[f])
 (N:iR a s f (bH a f) (bV f.aT f.bF (bY a (bH a f)))):
 AQ a (dI a s d f (bH a f) (bV f.aT f.bF (bY a (bH a f))))<AQ a s:=by
 have L:fX a f:=by grind [eM.bn]
 let⟨ac,hp,O,hP,aa,T⟩:=L.Aj J.gW
 have U:=L.pc
 generalize bH a f=x at*
 generalize bV f.aT f.bF (bY a x)=bF at*
 rw[O]at U
 have lW:∀(g:bS)(b:St),b.bn=d++[g]->g.fY=f.fY->f.pc<g.pc->b.dG=s.dG->b.df=s.df->AQ a b<AQ a s:=λg b e K R h j=>by
  unfold AQ;rw[m,e,h,j,qD,qD];grind [wj]
 have cF:∀q:Int,0<=q->q<a.cO.length->((dy a q).cF.length:Int)<=2000:=λq Z K=>by
  let⟨P,W⟩:=dY a.cO q.toNat;have:=(J.gW.eN P (aZ W)).aS;have Q:dy a q=P:=by grind [dy]
  rw[Q];omega
 have MG:∀(g n:bS)(b:St),b.bn=d++[g,n]->g.fY=f.fY->f.pc<g.pc->0<=n.fY->n.fY<a.cO.length->n.pc=0->b.dG=s.dG->b.df=s.df+1->AQ a b<AQ a s:=λg n b e K R r t S h j=>by
  have:=cF n.fY r t;unfold AQ;rw[m,e,h,j,qD,qD];grind [wj]
 have tail:∀(n:bS)(b:St),b.bn=d++[n]->0<=n.fY->n.fY<a.cO.length->n.pc=0->b.dG=s.dG->b.df=s.df+1->AQ a b<AQ a s:=λn b e r t S h j=>by
  have:=cF n.fY r t;unfold AQ;rw[m,e,h,j,qD,qD];grind [wj]
 have c:=T.op
 unfold kL at c
 unfold dI
 simp only[]
 by_cases u:x.op=0
 .rw[ba u];exact lW _ _ rfl rfl (by show f.pc<f.pc+1;omega) rfl rfl
 rw[aU u]at c⊢
 by_cases v:x.op=1\/x.op=2\/x.op=3\/x.op=4
 .rw[ba v];exact lW _ _ rfl rfl (by show f.pc<f.pc+1;omega) rfl rfl
 rw[aU v]
 by_cases H:x.op=5
 .rw[ba H];exact lW _ _ rfl rfl (by show f.pc<f.pc+1;omega) rfl rfl
 rw[aU H]
 by_cases k:x.op=6
 .rw[ba k]
  split
  .exact lW _ _ rfl rfl (by show f.pc<f.pc+1;omega) rfl rfl
  .exact lW _ _ rfl rfl (by show f.pc<f.pc+1;omega) rfl rfl
 rw[aU k]
 by_cases w:x.op=10
 .rw[ba w];exact lW _ _ rfl rfl (by show f.pc<f.pc+1;omega) rfl rfl
 rw[aU w]
 by_cases y:x.op=14
 .rw[ba y];exact lW _ _ rfl rfl cG rfl rfl
 rw[aU y]
 by_cases z:x.op=15
 .rw[ba z];exact lW _ _ rfl rfl cG rfl rfl
 rw[aU z]
 by_cases A:x.op=16\/x.op=17
 .rw[ba A]
  split
  .exact lW _ _ rfl rfl cG rfl rfl
  .exact lW _ _ rfl rfl cG rfl rfl
 rw[aU A]
 by_cases B:x.op=18
 .rw[ba B];exact lW _ _ rfl rfl (by show f.pc<f.pc+1;omega) rfl rfl
 rw[aU B]
 by_cases C:x.op=19
 .rw[ba C];exact lW _ _ rfl rfl (by show f.pc<f.pc+1;omega) rfl rfl
 rw[aU C]
 by_cases E:x.op=20
 .rw[ba E]
  simp(disch:=omega) only[aU,ba]at c
  exact lW _ _ rfl rfl cG rfl rfl
 rw[aU E]
 by_cases p:x.op=21
 .rw[ba p]
  simp(disch:=omega) only[aU,ba]at c
  let⟨M,F⟩:=N.sM p
  have G:tJ (cT a.bQ x.cE) (bt s.aQ (D f.aT (D x.aN 0))).jJ<(cT a.bQ x.cE).length:=mo ⟨_,F,bO⟩
  let⟨I,o⟩:=c.2.2
  have:=o _ (gS (l:=x.fQ) (i:=(tJ (cT a.bQ x.cE) (bt s.aQ (D f.aT (D x.aN 0))).jJ:Nat)) V V)
  exact lW _ _ rfl rfl cG rfl rfl
 rw[aU p]
 by_cases F:x.op=22
 .rw[ba F]
  simp(disch:=omega) only[aU,ba]at c
  exact lW _ _ rfl rfl cG rfl rfl
 rw[aU F]
 by_cases I:x.op=9
 .rw[ba I]
  rw[aU V,aU V,aU k,ba V]at c
  let⟨q,X,o,Y⟩:=c
  have:=bA o
  exact MG _ _ _ rfl rfl cG (by simp only[cq];omega) (by simp only[cq];omega) rfl rfl rfl
 rw[aU I]
 by_cases G:x.op=24
 .rw[ba G]
  rw[aU V,aU V,aU k,ba V]at c
  let⟨q,X,o,Y⟩:=c
  have:=bA o
  exact tail _ _ rfl (by simp only[cq];omega) (by simp only[cq];omega) rfl rfl rfl
 rw[aU G]
 by_cases o:x.op=11
 .rw[ba o]
  obtain⟨M,X,Y,_⟩:=N.apply o
  exact MG _ _ _ rfl rfl cG (by simp only[cq];omega) (by simp only[cq];omega) rfl rfl rfl
 rw[aU o]
 split
 .grind [List.getLast?_eq_none_iff,AQ,wj]
 .rename_i X Y
  have M:d=d.dropLast++[X]:=by
   have ab:d≠[]:=cG;grind [List.getLast?_eq_some_getLast,List.dropLast_concat_getLast]
  generalize d.dropLast=fs' at M
  subst M
  unfold AQ
  rw[m]
  simp only[qD,wj,bS.cB,O];omega
def Yv(h:eM a s)(k:s.dT=3)(b:(ns a s).dT=3):AQ a (ns a s)<AQ a s:=by
 let⟨g,f,j⟩:=h.split k;have d:s.bn.getLast?=some f:=cG;have e:s.bn.dropLast=g:=cG;unfold ns at b⊢;rw[aU cG,d,e]at b⊢;simp only[]at b⊢;split at b
 .simp at b
 .rename_i i;rw[aU i];split at b
  .rename_i c;rw[ba c];exact SN h j c
  .simp at b
noncomputable def bz (a:cV):Nat->St->St
 |0,s=>s
 |n+1,s=>bz a n (ns a s)
theorem uP(a:cV):∀(n:Nat)(s:St),bz a (n+1) s=ns a (bz a n s)
 |0,s=>rfl
 |n+1,s=>by rw[bz,uP a n,bz]
def AP{a:cV}:∀(n:Nat){s:St},eM a s->eM a (bz a n s)
 |0,s,h=>h
 |n+1,s,h=>AP n (Ow h)
theorem o8(h:s.dT≠3):ns a s=s:=by grind [ns]
theorem pK{a:cV}:∀(n:Nat){s:St},s.dT≠3->bz a n s=s
 |0,s,_=>rfl
 |n+1,s,h=>by rw[bz,o8 h,pK n h]
def Qu{a:cV}:∀(n:Nat){s:St},eM a s->AQ a s<n->(bz a n s).dT≠3
 |0,s,h,d=>by have:=aaR h;omega
 |n+1,s,h,d=>by
  rcases fP (s.dT=3)with b|b
  .rcases fP ((ns a s).dT=3)with c|c
   .have:=Yv h b c;exact Qu n (Ow h) V
   grind [bz,pK]
  .grind [pK]
def iI(a:cV)(dG:Int):St:=⟨3,0,0,dG,[],[],[cq a 0 0 []]⟩
def FE{dG:Int}(b:gC a)(j:0<=dG/\dG<=40):eM a (iI a dG):=by
 have n:=b.kQ.aS;let⟨p,g⟩:=dY a.cO 0;have m:=b.kQ.first p g;have l:=yP (j:=0) (e:=[]) b (dR 0) g cG bO;have f:∀h,oF [cq a 0 0 []] h=0:=by grind [oG,uW,jg]
 refine⟨b,by simp[iI],by simp[iI],by simp[iI,mI],by simp[iI],j,by simp[iI];omega,by simp[iI],by simp[iI],⟨by simp[iI],⟨λ_=>0,by simp[iI]⟩,by simp[iI],λc=>by simp only[iI];rw[f];omega,λc d=>by simp only[iI]at d;rw[f]at d;omega⟩,?_,?_,?_,?_,λc⟨i,d,_⟩=>by simp[iI]at d,λc _=>tR _⟩
 .intro i d;simp[iI]at d
 .grind [iI]
 .intro k e;simp[iI]at e;subst e;rfl
 .grind [iI]
def Wq{dG:Int}(b:gC a)(c:0<=dG/\dG<=40):AQ a (iI a dG)<=82000:=by
 grind [gC.kQ,nh.aS,dY,gC.eN,aZ,ny.aS,dy,AQ,iI,wj,cq]
end
section
variable{k:Nat}{m:E}
theorem qt{a:af}{d:cL}:ze a k d<->((zQ a.length d.qd/\zQ a.length d.to/\d.dS.length<=3/\(0<d.dS.length->d.qd=0/\d.to=0))/\
 (∀f∈d.dS,f.length<=3/\Hw a.length f)/\∀e∈a.take k,¬(d.dS.length=0/\e.dS.length=0/\e.qd=d.qd/\e.to=d.to)):=by
 constructor
 .grind [Nat.eq_zero_or_pos,List.length,ze.PF,List.length_eq_zero_iff,ze.iT,zQ]
 .rintro⟨⟨f,g,h,c⟩,i,j⟩
  exact⟨λb=>⟨h,(c b).1,(c b).2,i⟩,λb=>⟨λe l m=>j e l ⟨b,m⟩,f,g⟩⟩
def Ik{bQ:N}{a:af}(hd:dq m bQ a):gK dN 42 [bQ.v] m (eP a):=by
 apply CO;simp -zeta only[dU];have s:=hd.aS;have aj:=hd.lZ;refine⟨λI=>?_,λI=>?_⟩
 .grind [eP.aS,J.cZ]
 simp only[dF]at I;refine ik (n:=a.length) V (λk b=>J m b/\∀(j:Nat)(d:cL),j<k->a[j]? =some d->ze a j d) ⟨di,bO⟩ ?_;rintro j D ag μ hj ⟨A,Z⟩ ae
 refine dit (λU=>?_) λU=>?_
 .let⟨d,X⟩:=dY a j;let⟨v,z,T,g1,g2⟩:=(dq.ext A hd).D X;have am:=z.aS;refine⟨V,V,_,T,_,g1,v,g2,?_⟩;intro m2 q;have B:J D q:=by grind [J.cZ,J.cw,J.aV]
  have M:∀i∈[D.size],i<q.size:=by grind [bD]
  clear_value q;have ab:=A.O B;have r:∀{b:E},J q b->¬ze a j d->∃G:Bool,vb false=.bool G/\(G=true<->eP a)/\J m b:=by grind [eP.eN,J.O]
  refine⟨λb=>J q b/\zQ a.length d.qd/\zQ a.length d.to/\d.dS.length<=3/\(0<d.dS.length->d.qd=0/\d.to=0),?_,?_⟩
  .refine(tK).bK di M λi m4 e K l=>⟨_,rfl,λc=>r l λg=>nb e c (s▸(qt.1 g).1.1),λc=>?_⟩;have u:=yb e c;refine(tK).bK l M λi t e w f=>⟨_,rfl,λh=>r f λg=>nb e h (s▸(qt.1 g).1.2.1),λh=>?_⟩;have x:=yb e h;rw[s]at u x;refine⟨λo=>?_,λo=>?_⟩
   .grind [qt]
   simp only[dF]at o;refine⟨λp=>?_,λp=>?_⟩
   .grind [qt,bne_eq_false_iff_eq]
   grind [decide_eq_false_iff_not]
  .rintro m4 ⟨P,al⟩;have ak:=rJ.ext (B.O P) z;refine ik (n:=d.dS.length) V (λk b=>J q b/\∀v∈d.dS.take k,v.length<=3/\Hw a.length v) ⟨P,bO⟩ ?_;rintro C t I2 μ2 hi ⟨o,O⟩ ac;refine dit (λK=>?_) λK=>?_
   .let⟨H,p⟩:=dY d.dS C;let⟨Q,L,R⟩:=(rJ.ext (B.O o) z).D p;have W:=L.aS;refine⟨V,V,Q,R,?_⟩;intro F y;have x:J t y:=by grind [J.cZ,J.cw,J.aV]
    have S:∀i∈[t.size,D.size],i<y.size:=by
     grind [J.lt,Array.size,bD]
    clear_value y;refine dit (λl=>?_) λl=>?_
    .exact r (o.O x) λg=>by have:=((qt.1 g).2.1 H (aZ p)).1;omega
    exact(zX (L.ext x)).bK di S λi u e c w=>⟨_,rfl,λf=>r ((o.O x).O c) λg=>nb e f (s▸((qt.1 g).2.1 H (aZ p)).2),λf=>ac V _ ⟨(o.O x).O c,eC p O ⟨V,s▸yb e f⟩⟩⟩
   .have ah:=ig V O;refine⟨V,V,V,?_⟩;have W:dq t (bQ.cut 0 j 3) (a.take j):=by grind [fU.Sj,dq.ext,J.O]
    have ai:(bQ.cut 0 j 3).len=j:=by grind [fU.aS]
    simp -zeta only[iD,Int.toNat_zero];refine ik (n:=j) V (λk b=>J t b/\∀e∈a.take k,¬(d.dS.length=0/\e.dS.length=0/\e.qd=d.qd/\e.to=d.to)) ⟨di,bO⟩ ?_;rintro p F R μ3 ao ⟨x,aa⟩ ad;refine dit (λl=>?_) λl=>?_
    .let⟨e,H⟩:=dY a p;have L:(a.take j)[p]? =some e:=by rw[lE,ba V];exact H
     let⟨S,Y,q0,q1,q2⟩:=(dq.ext x W).D L;have an:=Y.aS;refine⟨V,V,_,q0,_,q1,S,q2,?_⟩;intro y u;have Q:J F u:=by grind [J.cZ,J.cw,J.aV]
     clear_value u;have ap:¬(d.dS.length=0/\e.dS.length=0/\e.qd=d.qd/\e.to=d.to)->R (eR ((p:Int)+1)) u/\μ3 (eR ((p:Int)+1)) u<μ3 p F:=λhq=>ad V _ ⟨x.O Q,eC H aa hq⟩;refine⟨λc=>?_,λc=>?_⟩
     .simp only[bP]at c;refine⟨λw=>?_,λw=>?_⟩
      .simp only[bP]at w;refine⟨λf=>?_,λf=>?_⟩
       .simp only[bP]at f;refine⟨λh=>?_,λh=>?_⟩
        .simp only[bP]at h;exact r ((o.O x).O Q) λg=>(qt.1 g).2.2 e (aZ L) ⟨V,V,f,h⟩
        grind [beq_eq_false_iff_ne]
       grind [beq_eq_false_iff_ne]
      grind [beq_eq_false_iff_ne]
     grind [beq_eq_false_iff_ne]
    .have:p=j:=V;subst this;refine ae V _ ⟨(ab.O o).O x,λg c f e=>?_⟩
     grind [qt]
 .exact pw ⟨V,λC d dg=>Z C d (oh (bA dg)) dg⟩ A
def R1(m:E)(b:ae)(p:dP):Prop:=∃a l,b=[.s a,.s l,.i p.bL]/\bd m a p.aX/\bd m l p.cR
def R1.ext{m d:E}(b:J m d)(a:ae)(c:dP):R1 m a c->R1 d a c:=λ⟨f,g,e,h,i⟩=>⟨f,g,e,h.ext b,i.ext b⟩
abbrev oP(m:E)(s:N)(l:av):Prop:=fU m 3 (R1 m) s l
def oP.ext{m b:E}(a:J m b){s:N}{l:av}(h:oP m s l):oP b s l:=h.aO a (R1.ext a)
theorem oP.D{s:N}{l:av}(h:oP m s l){x:dP}(f:l[k]? =some x):
 ∃a b,bd m a x.aX/\bd m b x.cR/\aR m s.bq (s.off+k*3)=some a.v/\aR m s.bq (s.off+k*3+1)=some b.v/\aR m s.bq (s.off+k*3+2)=some (vi x.bL):=by
 obtain⟨g,⟨a,b,rfl,d,e⟩,c⟩:=h.kV k x f
 exact⟨a,b,d,e,c 0 (.s a) rfl,c 1 (.s b) rfl,c 2 (.i x.bL) rfl⟩
def J8{L M:N}{f:af}{b:av}(hd:dq m L f)(C:oP m M b):
 gK dN 78 [L.v,M.v] m (nh f b/\∀p∈b,DE p.aX p.cR):=by
 apply Ed
 simp -zeta only[dU]
 have B:=hd.aS
 have ax:=C.aS
 refine(Ik hd).bZ λh m1 c D=>⟨_,rfl,λu=>fW (λa=>nb c u a.1.dh) D,λu=>?_⟩
 have ht:=yb c u
 refine⟨λR=>?_,λR=>?_⟩
 .grind [nh.aS]
 simp only[dF]at R
 refine⟨λS=>?_,λS=>?_⟩
 .grind [nh.aS]
 simp only[dF]at S
 let⟨p0,ak⟩:=dY b 0
 let⟨a0,l0,aj,az,g0,g1,g2⟩:=(oP.ext D C).D ak
 have au:=aj.aS
 refine⟨V,V,a0,g0,λT=>?_,λT=>?_⟩
 .grind [nh.first]
 simp only[dF]at T
 refine⟨V,V,_,g2,λU=>?_,λU=>?_⟩
 .grind [nh.first]
 simp only[nR]at U
 refine ik (n:=b.length) V (λj F=>J m F/\∀p∈b.take j,(p.aX.length<=3/\Hw f.length p.aX/\zQ f.length p.bL)/\DE p.aX p.cR) ⟨D,bO⟩ ?_
 rintro j G aq μ hj ⟨q,Y⟩ ap
 refine dit (λh6=>?_) λh6=>?_
 .let⟨p,o⟩:=dY b j
  let⟨ae,an,A,l,q0,q1,q2⟩:=(oP.ext q C).D o
  have aw:=A.aS
  have aB:=l.aS
  have aA:=l.kA
  refine⟨V,V,ae,q0,an,q1,_,q2,?_⟩
  intro m3 H
  have r:J G H:=by grind [J.cZ,J.cw,J.aV]
  have X:∀h∈[G.size],h<H.size:=by grind [bD]
  clear_value H
  refine⟨λW=>?_,λW=>?_⟩
  .grind [nh.eN,aZ,J.O]
  simp only[dF]at W
  refine(zX (A.ext r)).bK di X λh m5 c h8 h9=>⟨_,rfl,λw=>fW (λa=>nb c w (B▸(a.1.eN p (aZ o)).2.1)) ((q.O r).O h8),λw=>?_⟩
  have ab:=yb c w
  refine(tK).bK h9 X λh I c ar O=>⟨_,rfl,λy=>fW (λa=>nb c y (B▸(a.1.eN p (aZ o)).2.2)) ((q.O r).O O),λy=>?_⟩
  have aa:=yb c y
  rw[B]at ab aa
  have am:J m I:=by grind [J.O]
  have E:J G I:=r.O O
  refine ik (n:=p.cR.length) V (λk F=>F=I/\∀(j:Nat)(v:Int),j<k->p.cR[j]? =some v->(∃t,0<=v/\p.aX[v.toNat]? =some t/\t≠0)/\(∀ac:Int,0<j->p.cR[j -1]? =some ac->ac<v)) ⟨rfl,bO⟩ ?_
  rintro k m7 I2 μ2 hk ⟨rfl,Z⟩ ao
  have i:¬DE p.aX p.cR->∃K:Bool,vb false=.bool K/\(K=true<->nh f b/\∀p∈b,DE p.aX p.cR)/\J m m7:=by grind [aZ]
  refine dit (λah=>?_) λah=>?_
  .let⟨x,e⟩:=dY p.cR k
   refine⟨V,V,x,by simpa using E.aR (l.D e),dit (λai=>?_) λai=>?_⟩
   .exact i λa=>by obtain⟨⟨t,P,_⟩,_⟩:=a k x e;omega
   refine dit (λP=>?_) λP=>?_
   .refine i λa=>?_
    obtain⟨⟨t,_,g,_⟩,_⟩:=a k x e
    have:=bA g;omega
   let⟨t,al⟩:=dY p.aX x.toNat
   refine⟨V,V,t,by simpa using E.aR (A.D al),λg=>?_,λg=>?_⟩
   .simp only[bP]at g
    refine i λa=>?_
    obtain⟨⟨d,_,z,Q⟩,_⟩:=a k x e
    grind
   simp only[a8]at g
   refine⟨λz=>?_,λz=>?_⟩
   .simp only[bh]at z
    have e2:eR ((k:Int) -1)=((k -1:Nat):Int):=by grind [dt]
    let⟨ad,hy⟩:=dY p.cR (k -1)
    rw[e2]
    refine⟨V,V,ad,by simpa using E.aR (l.D hy),dit (λQ=>?_) λQ=>?_⟩
    .exact i λa=>by have:=(a k x e).2 ad V hy;omega
    .refine ao V _ ⟨rfl,λs v ay d=>?_⟩
     by_cases ag:s=k
     .subst ag
      rw[e]at d;simp at d;subst d
      constructor<;>grind
     .exact Z s v V d
   grind [decide_eq_false_iff_not]
  .exact ap V _ ⟨am,eC o Y ⟨⟨V,ab,aa⟩,λs v d=>Z s v (oh (bA d)) d⟩⟩
 .have d:=ig V Y
  refine pw ⟨⟨ht,V,λp a=>(d p a).1,λp a=>?_⟩,λp a=>(d p a).2⟩ q
  grind
end
section
variable{c:E}{d f a j:N}{b:cV}{i:Instr}
def yN{G:N}(D:iF c d G b):
 bJ dN 47 [.agg #[N.v d,N.v G]] c λal s=>∃S f e,al=.tuple #[.agg #[N.v S,N.v f],vb e]/\(e=true<->nh b.bQ b.cO/\∀G∈b.cO,DE G.aX G.cR)/\
  (e=true->S=d/\oP s f b.cO)/\J c s:=by
 apply Eb
 simp -zeta only[kd,nJ]
 intro M h
 have ao:=D.cO.aS
 have s1:=pz M
 have s2:h.size=c.size+2:=by simp[h,M]
 have aa:J c h:=((J.cZ c).cw _).cw _
 refine dit (λh1=>?_) λh1=>?_
 .intro g
  exact⟨_,_,_,rfl,⟨sx,λD=>oh D.1.aS⟩,sx,aa.aV V _ _⟩
 intro m4 C
 have s5:C.size=c.size+3:=by simp[C,m4,bD,s2]
 have aj:J c C:=(aa.cw _).aV V _ _
 have af:dJ C h.size pe [.s d,.s .nil]:=dJ.aV (m:=m4) (o:=0) (r:=[.s d,.s .nil]) (dJ.push h _ _)
 clear_value C
 refine ik (n:=b.cO.length) V (λL s=>J c s/\C.size<=s.size/\∃g w,dJ s h.size pe [.s d,.s g]/\jo c s ue 3 g w.flatten/\fK 3 (R1 c) w (b.cO.take L)/\(g≠.nil->h.size<g.bq)/\g.len=L)
  ⟨aj,bW,.nil,[],af,jo.gD _ _ _ _,by simpa using fK.gD 3 (R1 c),bO,rfl⟩ ?_
 rintro L t am μ hk ⟨j,ap,g,w,q,I,K,Q,Z⟩ ak
 refine dit (λh2=>?_) λh2=>?_
 .let⟨O,X⟩:=dY b.cO L
  let⟨a,e,ab,ha,l,y,g0,g1,g2,g3,g4⟩:=D.cO.D X
  refine⟨V,V,a,by simpa using j.aR g0,e,by simpa using j.aR g1,_,by simpa using j.aR g2,_,by simpa using j.aR g3,ab,by simpa using j.aR g4,?_⟩
  intro m7 k
  obtain⟨F,s8⟩:=pv k
  clear_value k
  refine⟨g,(q.ext F).dz 1,?_⟩
  intro u
  have R:J t u:=F.cw _
  have s9:u.size=t.size+2:=by simp[u,s8]
  have np:jt u k.size 0 [.s a,.s e,.i O.bL]:=(dJ.push k _ _).kV
  clear_value u
  refine jo.fy (c:=[.s .nil,.s .nil,.i 0]) (h:=[.s a,.s e,.i O.bL]) (I.ext R) (j.O R) rfl np (by simp[Z];omega) ?_
  intro v A h7 h8 T an ac ad
  have Y:v≠.nil->h.size<v.bq:=by
   intro z;rcases ad with⟨_,x⟩|⟨ah,x,_⟩|x
   .exact absurd x z
   .have:=Q ah;omega
   .omega
  have H:∀i,i<u.size->i<=h.size\/i=t.size/\(g=.nil\/g.bq<t.size)->A[i]? =u[i]? :=by
   intro i p y;refine ac i p λz=>?_;have:=Q z;rcases y with y|⟨rfl,y|y⟩
   .omega
   .exact absurd y z
   .omega
  have ag:g=.nil\/g.bq<t.size:=I.lt
  have U:dJ A h.size pe [.s d,.s g]:=(q.ext R).congr (H _ V (bu bW))
  refine⟨λi p=>?_,U.iQ bO,?_⟩
  .simp at p
   rcases p with rfl|rfl|rfl
   .exact H _ V (bG ⟨rfl,ag⟩)
   .exact H _ V (bu V)
   .exact H _ V (bu V)
  intro B
  have aq:B.size=A.size:=by simp[B,bD]
  have ae:dJ B h.size pe [.s d,.s v]:=dJ.aV (m:=A) (o:=1) (r:=[.s v]) U
  have W:∀e,e≠h.size->B[e]? =A[e]? :=λe l=>cg _ _ _ _ l
  have ai:J c B:=h8.aV V _ _
  clear_value B
  refine⟨λi p=>?_,?_⟩
  .simp at p
   rcases p with rfl|rfl|rfl<;>exact W _ V
  refine ak V _ ⟨ai,V,v,w++[[.s a,.s e,.i O.bL]],ae,?_,?_,Y,by simp[T,Z]⟩
  .rw[uS]
   have P:jo c A ue 3 v (w.flatten++[[.s a,.s e,.i O.bL]].flatten):=sp h7
   rcases P.lt with x|x
   .subst x;exact⟨P.aS,bu rfl⟩
   .refine P.congr (W _ λe2=>?_)
    by_cases E:v=.nil
    .subst E
     have:=T
     simp at this
    .have:=Y E;omega
  .rw[bX X]
   exact K.By rfl ⟨a,e,rfl,ha,l⟩
 .rw[eW V]at K
  have x:oP t g b.cO:=(fU.jM I K V V).aO di (R1.ext j)
  refine⟨d,q.dz 0,g,q.dz 1,g,q.dz 1,?_⟩
  have u:∀e∈[M.size,c.size],e<t.size:=fj
  refine(J8 (dq.ext j D.bQ) x).bK di u λe m7 l i _=>⟨_,rfl,i.db (q.dz 0),i.db (q.dz 1),?_⟩
  intro k
  have z:∀e,e≠M.size->k[e]? =m7[e]? :=λe l=>cg _ _ _ _ l
  have F:J c k:=(j.O i).aV V _ _
  refine⟨d,g,e,rfl,l,λ_=>⟨rfl,?_⟩,F⟩
  have p:=I.ext i
  have v:jo c k ue 3 g w.flatten:=by
   by_cases E:g=.nil
   .subst E;exact⟨p.aS,bu rfl⟩
   .exact p.congr (z _ (oh (Q E)))
  exact(fU.jM v K V V).aO di (R1.ext F)
def tB(b:cV)(i:Instr)(a:Int->Prop):Prop:=
 if i.op=0 then -999<=i.cE/\i.cE<=999
 else if i.op=6 then 0<=i.cE/\i.cE<(gJ b.bQ).length
 else if i.op=9\/i.op=24 then 0<=i.cE/\i.cE<b.cO.length
 else if i.op=10 then 0<=i.cE/\∃q,b.cO[i.cE.toNat]? =some q/\q.cR.length=0
 else if i.op=19 then 0<=i.cE/\i.cE<3
 else if i.op=20\/i.op=22 then a i.cE
 else if i.op=21 then 0<(cT b.bQ i.cE).length/\i.fQ.length=(cT b.bQ i.cE).length
 else i.cE=0
def Lt(hd:dq c d b.bQ)(x:eP b.bQ)(z:oP c f b.cO)(K:bd c a i.aN)(E:bd c j i.fQ)(q:Nat)(v t:Array Value)(D:GL.elem q=true)(l:Int->Prop)
 (F:∀e,J c e->gK dN q (v.toList++[vi i.cE]++t.toList) e (l i.cE)):
 gK dN 83 [.agg #[d.v,f.v],.agg #[vi i.op,vi i.br,vi i.cE,vi i.cY,a.v,j.v],.func (.func q) v t] c (tB b i l):=by
 apply uI d f i.op i.br i.cE i.cY a j (.func q,v,t)
 simp -zeta only[dU]
 intro A r
 have e:J c r:=((J.cZ c).cw _).cw _
 have w:∀y∈[A.size,c.size],y<r.size:=cG
 have M:=z.aS
 have N:=E.aS
 have C:dJ r A.size dV [.i i.op,.i i.br,.i i.cE,.i i.cY,.s a,.s j]:=dJ.push _ _ _
 clear_value r
 refine⟨λm=>?_,λm=>?_⟩
 .grind [tB]
 simp only[a8]at m
 refine⟨λk=>?_,λk=>?_⟩
 .simp only[bP]at k
  rw[show tB b i l<->0<=i.cE/\i.cE<(gJ b.bQ).length by rw[tB,aU m,ba k]]
  refine⟨λh=>?_,λh=>fW ?_ e⟩<;>simp at h
  .refine(uG (dq.ext e hd) x.aS (Si x)).bK di w λB g _=>⟨_,rfl,g.db (C.dz 2),lg ?_ (e.O g)⟩
   simp;omega
  .omega
 simp only[a8]at k
 refine⟨λn=>?_,λn=>?_⟩
 .grind [tB,List.length]
 simp only[cU,a8]at n
 replace n:¬(i.op=9\/i.op=24):=V
 refine⟨λo=>?_,λo=>?_⟩
 .simp only[bP]at o
  rw[show tB b i l<->0<=i.cE/\∃p,b.cO[i.cE.toNat]? =some p/\p.cR.length=0 by rw[tB,aU m,aU k,aU n,ba o]]
  refine⟨λh=>⟨λs=>?_,λs=>?_⟩,λh=>fW ?_ e⟩<;>simp at h
  .simp at s
   let⟨p,G⟩:=dY b.cO i.cE.toNat
   let⟨H,O,L,u,I,g1,g2⟩:=(oP.ext e z).D G
   have:=u.aS
   constructor<;>grind
  .grind [bA]
  .omega
 simp only[a8]at o
 refine⟨λs=>?_,λs=>?_⟩
 .grind [tB]
 simp only[a8]at s
 refine⟨λp=>?_,λp=>?_⟩
 .simp only[eD,bP]at p
  rw[show tB b i l<->l i.cE by rw[tB,aU m,aU k,aU n,aU o,aU s,ba p]]
  exact⟨q,rfl,D,(F r e).bK di w λy B u g _=>⟨_,rfl,lg u (e.O g)⟩⟩
 simp only[cU,a8]at p
 replace p:¬(i.op=20\/i.op=22):=V
 refine⟨λu=>?_,λu=>?_⟩
 .simp only[bP]at u
  rw[show tB b i l<->0<(cT b.bQ i.cE).length/\i.fQ.length=(cT b.bQ i.cE).length by rw[tB,aU m,aU k,aU n,aU o,aU s,aU p,ba u]]
  refine(xl (dq.ext e hd) x _).bK di w ?_
  rintro _ B ⟨H,rfl,G,g⟩
  have:=G.aS
  refine⟨g,_,rfl,λh=>lg ?_ (e.O g),λh=>fW ?_ (e.O g)⟩<;>simp at h
  .grind
  .omega
 .grind [beq_eq_false_iff_ne,tB]
def wW(b:cV)(i:Instr)(c a:Int):Prop:=
 if i.op=0\/i.op=22 then c=0/\a=0
 else if i.op=1\/i.op=2\/i.op=3\/i.op=4\/i.op=11 then c=2/\a=2
 else if i.op=6 then c=(cW b.bQ i.cE).length/\a=(cW b.bQ i.cE).length
 else if i.op=9\/i.op=24 then∃q,b.cO[i.cE.toNat]? =some q/\c=q.aX.length/\a=q.aX.length
 else if i.op=10 then∃q,b.cO[i.cE.toNat]? =some q/\c=(q.aX.length:Int) -1/\a=(q.aX.length:Int) -1
 else if i.op=16\/i.op=17 then c=1/\a=4
 else c=1/\a=1
def Pk(hd:dq c d b.bQ)(u:eP b.bQ)(o:oP c f b.cO){D:Int->Prop}(l:tB b i D):
 bJ dN 84 [.agg #[d.v,f.v],.agg #[vi i.op,vi i.br,vi i.cE,vi i.cY,a.v,j.v]] c λG E=>∃v t:Int,G=.tuple #[vi v,vi t]/\wW b i v t/\J c E:=by
 apply vM
 simp -zeta only[dU]
 intro F q
 have p:J c q:=((J.cZ c).cw _).cw _
 have A:∀x∈[F.size,c.size],x<q.size:=cG
 have K:=o.aS
 clear_value q
 refine⟨λg=>?_,λg=>?_⟩
 .grind [wW]
 simp only[cU,a8]at g
 refine⟨λs=>?_,λs=>?_⟩
 .grind [wW]
 simp only[cU,a8]at s
 refine⟨λe=>?_,λe=>?_⟩
 .simp only[bP]at e
  rw[tB,aU g.1,ba e]at l
  have h:=tI u b.bQ.length
  rw[qu _ _ bW]at h
  refine(uH (dq.ext p hd) u V).bK di A ?_
  grind [fU.aS,wW,J.O]
 simp only[a8]at e
 refine⟨λh=>?_,λh=>?_⟩
 .simp only[eD,bP]at h
  rw[tB,aU g.1,aU e,ba h]at l
  let⟨w,m⟩:=dY b.cO i.cE.toNat
  let⟨r,C,k,B,z,g1,g2⟩:=(oP.ext p o).D m
  have:=k.aS
  grind [wW]
 simp only[cU,a8]at h
 have y:¬(i.op=9\/i.op=24):=V
 refine⟨λn=>?_,λn=>?_⟩
 .simp only[bP]at n
  rw[tB,aU g.1,aU e,aU y,ba n]at l
  obtain⟨I,w,m,_⟩:=l
  let⟨r,C,k,B,z,g1,g2⟩:=(oP.ext p o).D m
  have:=k.aS
  have:=k.kA
  have:=bA m
  have H:eR ((r.len:Int) -1)=(w.aX.length:Int) -1:=by grind [dt]
  grind [wW]
 grind [beq_eq_false_iff_ne,wW,Bool.or_eq_false_iff]
end
section
variable{m:E}{x k:Int}{a b1:Nat}{c:N}
def Cp(b:aR m a 0=some (vi k))(d:aR m b1 4=some c.v):
 gK dN 80 [vi x,vp a 0,vp b1 0] m (k+1<=x/\x<=(c.len:Int) -1):=by
 apply sF (a,0) (b1,0)
 refine⟨k,b,λh=>⟨c,d,lg ?_ di⟩,λh=>fW ?_ di⟩<;>simp at h
 .simp;omega
 .omega
def NC{b2:Nat}(b:aR m a 0=some (vi k))(d:aR m b1 4=some c.v)
 (e:aR m b2 0=some (.func (.func 80) #[] #[vp a 0,vp b1 0])):
 gK dN 82 [vi x,vp b2 0] m (¬(k+1<=x/\x<=(c.len:Int) -1)):=by
 apply sG (b2,0)
 refine⟨(.func 80,#[],#[vp a 0,vp b1 0]),e,_,rfl,rfl,?_⟩
 refine(Cp b d).bZ λh i f g=>⟨_,rfl,lg ?_ g⟩
 rw[<-f];simp
theorem MT{a:cV}{p:dP}{k:Nat}{i:Instr}(m:∀q∈a.cO,q.aX.length<=3):
 iB a p k i<->((0<=i.op/\i.op<=24/\i.op≠7/\i.op≠8/\i.op≠12/\i.op≠13)/\(0<=i.br/\i.br<p.aT/\(i.br=0\/kM i.op)/\0<=i.cY/\i.cY<=p.aT/\(i.cY=0\/i.op=6))/\
  (∀b∈i.aN,0<=b/\b<p.aT)/\(i.fQ.length=0\/i.op=21)/\(∀t∈i.fQ,(k:Int)+1<=t/\t<=(p.cF.length:Int) -1)/\
  tB a i (λt=>(k:Int)+1<=t/\t<=(p.cF.length:Int) -1)/\∀c b,wW a i c b->c<=i.aN.length/\(i.aN.length:Int)<=b):=by
 have L:=λq(h:a.cO[i.cE.toNat]? =some q)=>bA h
 have G:0<=i.cE/\i.cE<a.cO.length->∃q,a.cO[i.cE.toNat]? =some q:=λh=>jk V
 unfold tB wW
 constructor
 .rintro⟨e,a2,a3,a4,f,b⟩
  unfold kL pt JG at b
  refine⟨?_,?_,?_,?_,?_,?_,?_⟩<;>grind (splits:=24)
 .rintro⟨j,l,n,o,r,s,b⟩
  have g:=b 0 0
  have e:=b 1 1
  have a2:=b 2 2
  have a3:=b 1 4
  have a4:=b (cW a.bQ i.cE).length (cW a.bQ i.cE).length
  have f:∀q,a.cO[i.cE.toNat]? =some q->(i.op=9\/i.op=24->q.aX.length=i.aN.length)/\(i.op=10->q.aX.length=i.aN.length+1):=λq d=>by
   refine⟨λc=>?_,λc=>?_⟩
   .have:=b q.aX.length q.aX.length (by rw[aU V,aU V,aU V,ba c];exact⟨q,d,rfl,rfl⟩);omega
   .have:=b (q.aX.length -1) (q.aX.length -1) (by rw[aU V,aU V,aU V,aU V,ba c];exact⟨q,d,rfl,rfl⟩);omega
  refine⟨?_,?_,?_,?_,?_,?_⟩
  rotate_right
  .unfold kL pt JG
   grind (splits:=24)
  all_goals grind
end
section
variable{b:E}{d:N}{c:cV}
def Ir{Q ac ak P:N}(hd:dq b d c.bQ)(ht:eP c.bQ)(hf:oP b Q c.cO)(aE:c.cO.length<=4)(h3:∀q∈c.cO,q.aX.length<=3)
 {q:dP}(hc:gR b P q.cF)(hr:q.aT<=2000){l:Nat}{e:Instr}{G M:N}(R:bd b G e.aN)(Y:bd b M e.fQ):
 gK dN 48 [.agg #[d.v,Q.v],.agg #[ac.v,ak.v,vi q.bL,vi q.aT,P.v],vi l,.agg #[vi e.op,vi e.br,vi e.cE,vi e.cY,G.v,M.v]] b (iB c q l e):=by
 apply tL
 simp -zeta only[dU]
 intro B y E s
 have s1:=pz B
 have s2:y.size=b.size+2:=cG
 have s3:E.size=b.size+3:=cG
 have s4:s.size=b.size+4:=cG
 have v:J b s:=by grind [J.cZ,J.cw]
 have af:dJ s y.size bE [.i l]:=(dJ.push y _ _).ext (J.push _ _)
 have ag:dJ s B.size kJ [.s ac,.s ak,.i q.bL,.i q.aT,.s P]:=(dJ.push B _ _).ext ((J.push y _).cw _)
 have I:=MT (a:=c) (p:=q) (k:=l) (i:=e) h3
 have ao:=hc.aS
 have aA:=R.aS
 have aD:=Y.aS
 clear_value s
 clear_value E
 clear_value y
 clear_value B
 refine⟨λh=>fW (λf=>?_) v,λc0=>⟨λh=>fW (λf=>?_) v,λc1=>⟨λh=>fW (λf=>?_) v,λc2=>⟨λh=>fW (λf=>?_) v,λc3=>⟨λh=>fW (λf=>?_) v,λc4=>⟨λh=>fW (λf=>?_) v,λc5=>?_⟩⟩⟩⟩⟩⟩
 any_goals (have:=(I.1 f).1;simp at h;omega)
 simp at c0 c1 c2 c3 c4 c5
 have f1:0<=e.op/\e.op<=24/\e.op≠7/\e.op≠8/\e.op≠12/\e.op≠13:=V
 refine⟨λu=>J s u/\(0<=e.br/\e.br<q.aT/\(e.br=0\/kM e.op)/\0<=e.cY/\e.cY<=q.aT/\(e.cY=0\/e.op=6)),?_,?_⟩
 .refine⟨λh=>fW (λf=>?_) v,λA=>⟨λh=>fW (λf=>?_) v,λC=>?_⟩⟩
  .grind
  .grind
  simp at A C
  have tail:∀u,J s u->(e.br=0\/kM e.op)->((decide (e.cY<(0:Int)))=true->∃g:Bool,Value.bool false=.bool g/\(g=true<->iB c q l e)/\J b u)/\((decide (e.cY<(0:Int)))=false->
   ((decide (e.cY>q.aT))=true->∃g:Bool,Value.bool false=.bool g/\(g=true<->iB c q l e)/\J b u)/\((decide (e.cY>q.aT))=false->
   ((e.cY !=(0:Int))=true->((e.op !=(6:Int))=true->∃g:Bool,Value.bool false=.bool g/\(g=true<->iB c q l e)/\J b u)/\((e.op !=(6:Int))=false->J s u/\(0<=e.br/\e.br<q.aT/\(e.br=0\/kM e.op)/\0<=e.cY/\e.cY<=q.aT/\(e.cY=0\/e.op=6))))/\
   ((e.cY !=(0:Int))=false->J s u/\(0<=e.br/\e.br<q.aT/\(e.br=0\/kM e.op)/\0<=e.cY/\e.cY<=q.aT/\(e.cY=0\/e.op=6))))):=by
   intro u D L
   have t:=v.O D
   refine⟨λh=>fW (λf=>?_) t,λH=>⟨λh=>fW (λf=>?_) t,λK=>⟨λx=>⟨λh=>fW (λf=>?_) t,λF=>⟨D,?_⟩⟩,λx=>⟨D,?_⟩⟩⟩⟩
   .grind
   .grind
   .grind
   .grind
   .grind
  refine⟨λh=>?_,λh=>tail s di (bu cG)⟩
  refine(qA e.op s ⟨V,V⟩).bK di cG λz u hb D _=>⟨z,rfl,λw=>fW (λf=>?_) (v.O D),λw=>tail u D (bG (yb hb w))⟩
  have:=(I.1 f).2.1.2.2.1
  grind
 .rintro u ⟨D,f2⟩
  refine ik (n:=e.aN.length) (oh R.kA) (λZ T=>J s T/\∀C∈e.aN.take Z,0<=C/\C<q.aT) ⟨D,bO⟩ ?_
  rintro Z H az μ hn ⟨w,am⟩ ax
  have U:=v.O w
  refine dit (λh=>?_) λh=>?_
  .let⟨C,t⟩:=dY e.aN Z
   refine⟨V,V,C,by simpa using(R.ext U).D t,λx=>fW (λf=>?_) U,λx=>⟨λA=>fW (λf=>?_) U,λA=>ax V _ ⟨w,eC t am ?_⟩⟩⟩
   .have:=(I.1 f).2.2.1 C (aZ t);simp at x;omega
   .have:=(I.1 f).2.2.1 C (aZ t);simp at A;omega
   .simp at x A;omega
  .have an:∀C∈e.aN,0<=C/\C<q.aT:=cG
   intro m7 F
   have s8:F.size=H.size+1:=by grind [bD]
   have A:J H F:=by grind [J.cZ,J.cw,J.aV]
   have aj:=U.O A
   have ae:aR F H.size 0=some (.func (.func 80) #[] #[vp y.size 0,vp B.size 0]):=
    (dJ.aV (m:=m7) (o:=0) (r:=[.fn (.func 80) #[] #[vp y.size 0,vp B.size 0]]) (dJ.push H _ _)).dz 0
   have aF:=w.aP
   clear_value F
   have av:∀K,J F K->∀t,gK dN 80 [vi t,vp y.size 0,vp B.size 0] K ((l:Int)+1<=t/\t<=(q.cF.length:Int) -1):=λK x t=>by
    rw[<-ao];exact Cp (af.ext (w.O (A.O x))|>.dz 0) (ag.ext (w.O (A.O x))|>.dz 4)
   have mC:(e.fQ.length=0\/e.op=21)->bJ dN 81 [M.v,.func (.func 82) #[] #[vp H.size 0]] F λay O=>
    gL [E.size,b.size] F O/\∃aa:Bool,ay=vb aa/\(aa=true->∃g:Bool,Value.bool false=.bool g/\(g=true<->iB c q l e)/\J b O)/\
    (aa=false->∃L:Fn×Array Value×Array Value,aR O H.size 0=some (.func L.1 L.2.1 L.2.2)/\
    bJ dN 83 [.agg #[d.v,Q.v],.agg #[vi e.op,vi e.br,vi e.cE,vi e.cY,G.v,M.v],.func L.1 L.2.1 L.2.2] O λah S=>
    gL [E.size,b.size] O S/\∃X:Bool,ah=vb X/\((!X)=true->∃g:Bool,Value.bool false=.bool g/\(g=true<->iB c q l e)/\J b S)/\
    ((!X)=false->bJ dN 84 [.agg #[d.v,Q.v],.agg #[vi e.op,vi e.br,vi e.cE,vi e.cY,G.v,M.v]] S λai W=>
    gL [E.size,b.size] S W/\∃ab:Int,∃ad:Int,ai=.tuple #[vi ab,vi ad]/\
    ((decide ((G.len:Int)>=ab))=true->∃g:Bool,Value.bool (decide ((G.len:Int)<=ad))=.bool g/\(g=true<->iB c q l e)/\J b W)/\
    ((decide ((G.len:Int)>=ab))=false->∃g:Bool,Value.bool false=.bool g/\(g=true<->iB c q l e)/\J b W))):=by
    intro ap
    have hl:∀z∈[E.size,b.size],z<F.size:=cG
    refine(ln (Y.ext aj) 82 #[] #[vp H.size 0] cH (λt=>¬((l:Int)+1<=t/\t<=(P.len:Int) -1)) (λt _ K x=>NC (af.ext (w.O (A.O x))|>.dz 0) (ag.ext (w.O (A.O x))|>.dz 4) (x.aR ae))).bK di hl ?_
    intro z K hb x _
    have g:=aj.O x
    refine⟨z,rfl,λaC=>fW (λf=>?_) g,λaB=>?_⟩
    .grind
    have aq:∀t∈e.fQ,(l:Int)+1<=t/\t<=(q.cF.length:Int) -1:=λt aG=>by
     grind [N.len]
    refine⟨(.func 80,#[],#[vp y.size 0,vp B.size 0]),x.aR ae,?_⟩
    have au:∀z∈[E.size,b.size],z<K.size:=by grind [J.lt]
    refine(Lt (dq.ext g hd) ht (oP.ext g hf) (R.ext g) (Y.ext g) 80 #[] #[vp y.size 0,vp B.size 0] cH (λt=>(l:Int)+1<=t/\t<=(q.cF.length:Int) -1) (λT L=>by simpa using av T (x.O L) e.cE)).bK di au ?_
    intro b2 aw ad al _
    have T:=g.O al
    refine⟨b2,rfl,λh=>fW (λf=>nb ad h (I.1 f).2.2.2.2.2.1) T,λh=>?_⟩
    have ah:=yb ad h
    have ar:∀z∈[E.size,b.size],z<aw.size:=by grind [J.lt]
    refine(Pk (dq.ext T hd) ht (oP.ext T hf) (a:=G) (j:=M) ah).bK di ar ?_
    rintro _ aI ⟨lo,hi,rfl,X,ab⟩
    have ai:=T.O ab
    have aH:∀W S,wW c e W S->W=lo/\S=hi:=λW S L=>by
     unfold wW at X L;repeat' (split at X)
     all_goals simp_all
     all_goals (obtain⟨q1,e1,e2,e3⟩:=X;simp_all)
    refine⟨ab,lo,hi,rfl,λh=>lg ?_ ai,λh=>fW (λf=>?_) ai⟩
    .rw[I]
     simp only[bh]at h⊢
     refine⟨λL=>⟨f1,f2,an,ap,aq,ah,λW S h2=>?_⟩,λL=>?_⟩
     .grind
     grind
    .grind
   constructor<;>grind
def sD{aa:N}(s:iF b d aa c):gK dN 24 [.agg #[d.v,aa.v]] b (gC c):=by
 apply CM;simp -zeta only[dU];intro W;obtain⟨ai,s1⟩:=pu W;clear_value W;refine(yN (s.ext ai)).bK di cG ?_;rintro _ X ⟨d',ac,ab,rfl,O,ah,L⟩;refine⟨L,d',ac,ab,rfl,?_⟩;intro m3 x;have s4:x.size=X.size+1:=by grind [bD]
 have h4:J X x:=by grind [J.cZ,J.cw,J.aV]
 have T:J b x:=by grind [J.O]
 have:=L.aP;have az:=s.cO.aS;have aA:=s.cO.kA;clear_value x;refine⟨λQ=>fW (λe=>nb O Q ⟨e.kQ,λq u=>(e.eN q u).cR⟩) T,λhy=>?_⟩;let⟨A,ag⟩:=yb O hy;obtain⟨rfl,hf⟩:=ah cG;refine ik (n:=c.cO.length) V (λG w=>J x w/\∀q∈c.cO.take G,ny c q) ⟨di,bO⟩ ?_;rintro G Y an μ Q ⟨z,M⟩ am
 have D:=T.O z;refine dit (λax=>?_) λar=>?_
 .let⟨q,u⟩:=dY c.cO G;let⟨H,U,I,ha,hl,t,g0,g1,g2,g3,g4⟩:=(s.ext D).cO.D u;refine⟨V,V,H,sp g0,U,sp g1,_,sp g2,_,sp g3,I,sp g4,?_⟩;intro m6 y;have s7:y.size=Y.size+1:=by grind [bD]
  have o:J Y y:=by grind [J.cZ,J.cw,J.aV]
  have r:=D.O o;have ao:=ha.aS;have ap:=t.aS;have aq:=t.kA;have C:=aZ u;clear_value y;refine⟨λg=>fW (λe=>?_) r,λe1=>⟨λg=>fW (λe=>?_) r,λe2=>⟨λg=>fW (λe=>?_) r,λe3=>⟨λg=>fW (λe=>?_) r,λe4=>?_⟩⟩⟩⟩
  .grind [gC.eN,ny.aT]
  .grind [gC.eN,ny.aT]
  .grind [gC.eN,ny.aS]
  .grind [gC.eN,ny.aS]
  have R:(q.aX.length:Int)<=q.aT/\1<=q.aT/\q.aT<=2000:=by
   grind
  have af:1<=q.cF.length/\q.cF.length<=2000:=cG;let⟨B,P⟩:=dY q.cF (q.cF.length -1);obtain⟨a0,j0,_,_,E,_⟩:=(gR.ext o t).D P;refine⟨λw=>J y w/\(B.op=23\/B.op=24),?_,?_⟩
  .have g:eR ((I.len:Int) -1)=((q.cF.length -1:Nat):Int):=by grind [dt]
   rw[g];refine⟨V,V,B.op,sp E,λf=>⟨λh=>fW (λe=>?_) r,λh=>⟨di,bG cG⟩⟩,λf=>⟨di,bu cG⟩⟩;have:=(e.eN q C).C2 B P;simp at f h;omega
  .rintro m8 ⟨h8,aw⟩;refine ik (n:=q.cF.length) V (λv w=>J y w/\∀(j:Nat)(f:Instr),j<v->q.cF[j]? =some f->iB c q j f) ⟨h8,λj f hj=>V⟩ ?_;rintro v Z I2 μ2 hk ⟨h,ae⟩ al;refine dit (λay=>?_) λau=>?_
   .let⟨f,p⟩:=dY q.cF v;let⟨xa,xj,aj,ak,E,k1,k2,k3,k4,k5⟩:=(gR.ext (o.O h) t).D p;refine⟨V,V,_,sp E,_,sp k1,_,sp k2,_,sp k3,xa,sp k4,xj,sp k5,?_⟩;intro aB F;have aD:F.size=Z.size+1:=by grind [bD]
    have m:J Z F:=by grind [J.cZ,J.cw,J.aV]
    have S:=(r.O h).O m;have q1:=h.aP;have q2:=z.aP;clear_value F;refine(Ir (ac:=H) (ak:=U) (dq.ext S s.bQ) A.dh (oP.ext (h4.O (z.O (o.O (h.O m)))) hf) A.aS.2 (λq' K=>(A.eN q' K).1) (gR.ext (o.O (h.O m)) t) R.2.2 (l:=v) (e:=f) (aj.ext m) (ak.ext m)).bK di cG ?_;intro b' aC ad K _;refine⟨b',rfl,λg=>fW (λe=>nb ad g ((e.eN q C).eN v f p)) (S.O K),λg=>al V _ ⟨h.O (m.O K),λj i' hj av=>?_⟩⟩;grind [Nat.lt_succ_iff_lt_or_eq]
   .refine am V _ ⟨z.O (o.O h),eC u M ⟨ag q C,R,af,λj f p=>ae j f (oh (bA p)) p,λf p=>?_⟩⟩
    grind
 .exact pw ⟨A,ig V M⟩ D
end
section
variable{m:E}{s:N}{k:Nat}{γ:Type}
def Tw(m:E)(a:ae)(c:dD):Prop:=∃f,a=[.i c.ct,.i c.jJ,.s f]/\bd m f c.bU
def OC(m:E)(a:ae)(f:bS):Prop:=∃r o h,a=[.i f.fY,.i f.pc,.i f.br,.s r,.s o,.s h]/\bd m r f.aT/\bd m o f.bF/\bd m h f.cQ
abbrev jF(m:E)(s:N)(l:ah):Prop:=fU m 3 (Tw m) s l
abbrev oU(m:E)(s:N)(l:ak):Prop:=fU m 6 (OC m) s l
def Tw.ext{m b:E}(g:J m b)(a:ae)(c:dD):Tw m a c->Tw b a c:=λ⟨f,d,e⟩=>⟨f,d,e.ext g⟩
def jF.ext{m b:E}(a:J m b){s:N}{l:ah}(h:jF m s l):jF b s l:=h.aO a (Tw.ext a)
def OC.ext{m d:E}(a:J m d)(b:ae)(c:bS):OC m b c->OC d b c:=λ⟨r,o,h,e,f,g,i⟩=>⟨r,o,h,e,f.ext a,g.ext a,i.ext a⟩
def oU.ext{m b:E}(a:J m b){s:N}{l:ak}(h:oU m s l):oU b s l:=h.aO a (OC.ext a)
theorem jF.D{l:ah}(h:jF m s l){x:dD}(c:l[k]? =some x):
 ∃f,bd m f x.bU/\aR m s.bq (s.off+k*3)=some (vi x.ct)/\aR m s.bq (s.off+k*3+1)=some (vi x.jJ)/\aR m s.bq (s.off+k*3+2)=some f.v:=by
 obtain⟨d,⟨f,rfl,b⟩,a⟩:=h.kV k x c
 exact⟨f,b,a 0 (.i x.ct) rfl,a 1 (.i x.jJ) rfl,a 2 (.s f) rfl⟩
theorem oU.D{l:ak}(h:oU m s l){x:bS}(b:l[k]? =some x):
 ∃r o e,bd m r x.aT/\bd m o x.bF/\bd m e x.cQ/\aR m s.bq (s.off+k*6)=some (vi x.fY)/\aR m s.bq (s.off+k*6+1)=some (vi x.pc)/\aR m s.bq (s.off+k*6+2)=some (vi x.br)/\
  aR m s.bq (s.off+k*6+3)=some r.v/\aR m s.bq (s.off+k*6+4)=some o.v/\aR m s.bq (s.off+k*6+5)=some e.v:=by
 obtain⟨f,⟨r,o,e,rfl,d,c,a⟩,np⟩:=h.kV k x b
 exact⟨r,o,e,d,c,a,np 0 (.i x.fY) rfl,np 1 (.i x.pc) rfl,np 2 (.i x.br) rfl,np 3 (.s r) rfl,np 4 (.s o) rfl,np 5 (.s e) rfl⟩
theorem _root_.Go.Vc.fU.um{l:ab}(h:fU m 1 aai s l){i:Int}(a:0<=i)(b:i<l.length):aR m s.bq (s.off+i.toNat*1)=some (vi (D l i)):=bd.D h (jG a b)
@[grind cases] structure RV (m:E) (mb o:Nat) (d p cC hp fr:N) (im:cV) (s:St):Prop where
 gW:iF m d p im
 bQ:aR m mb 0=some d.v
 cO:aR m mb 1=some p.v
 dT:aR m mb o=some (vi s.dT)
 je:aR m mb (o+1)=some (vi s.je)
 df:aR m mb (o+2)=some (vi s.df)
 dG:aR m mb (o+3)=some (vi s.dG)
 ae9:aR m mb (o+4)=some cC.v
 wi:aR m mb (o+5)=some hp.v
 Su:aR m mb (o+6)=some fr.v
 cC:bd m cC s.cC
 aQ:jF m hp s.aQ
 bn:oU m fr s.bn
def RV.ext{m f:E}{g o:Nat}{d p cC c b:N}{e:cV}{s:St}(h:RV m g o d p cC c b e s)(a:J m f):RV f g o d p cC c b e s:=
 ⟨h.gW.ext a,a.aR h.bQ,a.aR h.cO,a.aR h.dT,a.aR h.je,a.aR h.df,a.aR h.dG,a.aR h.ae9,a.aR h.wi,a.aR h.Su,h.cC.ext a,jF.ext a h.aQ,oU.ext a h.bn⟩
def acS{P:Nat->Prop}:∀(n:Nat),P n->∃k,P k/\∀j,P j->k<=j:=by
 intro n;induction n using Nat.strongRecOn with
 |_ n c=>
  intro d;rcases fP (∃j,j<n/\P j)with⟨j,a,b⟩|e
  .exact c j a b
  .grind
def Tn{σ:Type}{p:σ}{j:(σ->E->Prop)->(σ->E->Nat)->σ->E->Prop}(J:γ->σ->E->Prop)(ν:γ->Nat)(l:γ)(r:J l p m)
 (q:∀(g:γ)(s:σ)(a:E)(I:σ->E->Prop)(μ:σ->E->Nat),J g s a->(∀b d c,J b d c->ν b<ν g->I d c/\μ d c<μ s a)->j I μ s a):
 ∃(I:σ->E->Prop)(μ:σ->E->Nat),I p m/\∀s a,I s a->j I μ s a:=by
 classical
 let I:σ->E->Prop:=λs m=>∃g,J g s m
 have h:∀s m,I s m->∃k,(∃g,J g s m/\ν g=k)/\∀o,(∃g,J g s m/\ν g=o)->k<=o:=λs m⟨g,i⟩=>acS (ν g) ⟨g,i,rfl⟩
 let μ:σ->E->Nat:=λs m=>if e:I s m then Classical.choose (h s m e)else 0
 refine⟨I,μ,⟨l,r⟩,λs a e=>?_⟩
 let⟨g,i,u⟩:=(jm (h s a e)).1
 refine q g s a I μ i λb d c f t=>⟨⟨b,f⟩,?_⟩
 have n:I d c:=⟨b,f⟩
 simp only[μ,dif_pos e,dif_pos n]
 exact wc ((jm (h d c n)).2 _ ⟨b,f,rfl⟩) (u▸t)
def aaW{d:(E->Prop)->(E->Nat)->E->Prop}(J:γ->E->Prop)(ν:γ->Nat)(e:γ)(f:J e m)
 (h:∀(g:γ)(a:E)(I:E->Prop)(μ:E->Nat),J g a->(∀c b,J c b->ν c<ν g->I b/\μ b<μ a)->d I μ a):
 ∃(I:E->Prop)(μ:E->Nat),I m/\∀a,I a->d I μ a:=by
 let⟨I,μ,i,j⟩:=Tn (σ:=Unit) (p:=()) (j:=λI μ _ a=>d (I ()) (μ ()) a) (λg _ m=>J g m) ν e f (λg _ a I μ k l=>h g a (I ()) (μ ()) k λc b=>l c () b)
 exact⟨I (),μ (),i,j ()⟩
end
section
variable{m g:E}{s d p a j t o e:N}{b r:ab}{f:Nat}{h:ap}{K:ai}{w:Int}{c:cV}{x:Instr}
def _root_.Go.Vc.fU.Eu(h:fU m 1 aai s b):jt m s.bq s.off (b.map Ce.i):=λi d a=>by
 rw[eu]at a;obtain⟨x,c,rfl⟩:=jI.1 a;have:=bd.D h c;rw[H4]at this;exact this
def sq(f:Nat)(h:ap)(m:E)(b:ab):Prop:=bJ dN f h m λv a=>∃s,v=s.v/\jo m a bE 1 s (b.map Ce.i)/\J m a
def sq.bZ(c:sq f h m b)(i:b.length<=1000000000)(e:∀s a,jo m a bE 1 s (b.map Ce.i)->bd a s b->J m a->K s.v a):bJ dN f h m K:=
 c.aO λ_ _⟨s,d,a,g⟩=>d▸e s _ a (bd.jM a V) g
def sq.bK{c:ad}(g:sq f h m b)(l:b.length<=1000000000)(i:∀a∈c,a<m.size)(k:∀s a,jo m a bE 1 s (b.map Ce.i)->bd a s b->J m a->K s.v a):bJ dN f h m λv a=>gL c m a/\K v a:=
 g.aO λ_ _⟨s,j,d,e⟩=>⟨e.fq i,j▸k s _ d (bd.jM d V) e⟩
def jd:gK dN 162 [vi w] m (1000<=w):=by
 apply EV;exact lg bO di
def oK{a:N}{h:ah}(j:jF m a h)(B: -9223372036854775808<=w/\w<=9223372036854775807):gK dN 171 [a.v,vi w] m (iH h w):=by
 apply KD;have y:=j.aS;have z:=j.kA;have o:eR ((a.len:Int) -1)=(a.len:Int) -1:=iC;rw[o];refine(dk).bZ λn C i c=>⟨n,rfl,λu=>?_,λt=>?_⟩
 .refine(jd).bZ λb2 D l g=>⟨b2,rfl,λs=>?_,λr=>fW (λb=>fb l r b.1) (c.O g)⟩;have k:=l.1 s;have p:eR (w -1000)=w -1000:=iC;rw[p]at i⊢;have A:=i.1 u;let⟨e,b⟩:=dY h ((w -1000).toNat);obtain⟨f,x,q,_⟩:=(jF.ext (c.O g) j).D b;refine⟨V,V,e.ct,q,lg ?_ (c.O g)⟩;simp only[bh];refine⟨λa=>⟨k,e,b,a⟩,λ⟨_,v,d,a⟩=>?_⟩;unfold ix at d;rw[b]at d;simp at d;subst d;exact a
 .refine fW (λ⟨k,e,b,_⟩=>fb i t ?_) c;have:=bA b;unfold ix at this;rw[iC];omega
def Ql{a:Int}:gK dN 115 [vi a] m (me a):=by
 apply KC;refine⟨λh=>pw ?_ di,λh=>⟨λb=>pw ?_ di,λb=>lg ?_ di⟩⟩<;>simp[me]at* <;>omega
def Pv{q:dP}(a:c.cO[x.cE.toNat]? =some q)(k:Nat):js c x k=true<->(k:Int)∈q.cR:=by
 grind [js,dy,List.any_eq_true]
def Dy(c:cV)(x:Instr):Prop:=(x.op=9\/x.op=24)->0<=x.cE/\∃q,c.cO[x.cE.toNat]? =some q
theorem iB.jr{p:dP}{k:Nat}(h:iB c p k x):Dy c x:=λe=>by
 have a:=h.op;unfold kL at a;rw[aU V,aU V,aU V,aU V,ba e]at a;obtain⟨q,b,d,_⟩:=a;exact⟨b,q,d⟩
def vT(h:iF m d p c)(z:Dy c x)(a j:N)(k:Nat):
 gK dN 164 [.agg #[d.v,p.v],.agg #[vi x.op,vi x.br,vi x.cE,vi x.cY,a.v,j.v],vi k] m ((x.op=9\/x.op=24)/\js c x k=true):=by
 apply Jc
 simp -zeta only[dU]
 intro o b
 have n:J m b:=((J.cZ m).cw _).cw _
 have A:∀f∈[o.size,m.size],f<b.size:=by simp[b,o];omega
 have L:=h.cO.aS
 clear_value b
 have q:∀e:x.op=9\/x.op=24,(0:Int)<=x.cE/\x.cE<(p.len:Int)/\∃u:N,aR b p.bq (p.off+x.cE.toNat*5+1)=some u.v/\
  bJ dN 174 [u.v,vi k] b λr s=>gL [o.size,m.size] b s/\∃t:Bool,r=vb t/\∃f:Bool,vb t=.bool f/\(f=true<->((x.op=9\/x.op=24)/\js c x k=true))/\J m s:=λe=>by
  let⟨v,O,l⟩:=z e
  let⟨D,C,E,I,B,K,F,g1,g2,G,H⟩:=(h.ext n).cO.D l
  have:=bA l
  refine⟨v,V,C,g1,(fF B _).bK di A λf M y w _=>⟨f,rfl,lg ?_ (n.O w)⟩⟩
  rw[y,Pv l]
  exact⟨λh=>⟨e,h⟩,λh=>h.2⟩
 refine⟨λi=>q (bu (sp i)),λi=>⟨λg=>q (bG (sp g)),λg=>fW (λ⟨e,_⟩=>?_) n⟩⟩
 simp at i g;omega
def LY{a:Int}:gK dN 163 [vi a] m (a=6\/a=9\/a=10\/a=11):=by
 apply wo;refine⟨λh=>pw ?_ di,λh=>⟨λb=>pw ?_ di,λb=>⟨λc=>pw ?_ di,λc=>lg ?_ di⟩⟩⟩<;>simp at* <;>omega
def lI(c:cV)(x:Instr)(n:Nat):ab:=iN c x 0 (x.aN.take n)
theorem rX(c:cV)(x:Instr):∀(b r:ab)(k:Nat),iN c x k (b++r)=iN c x k b++iN c x (k+b.length) r
 |[],r,k=>by simp[iN]
 |a::b,r,k=>by
  have:=rX c x b r (k+1);grind [iN,List.length_cons,List.length]
theorem xV(c:cV)(x:Instr):∀(b:ab)(k:Nat),(iN c x k b).length<=b.length
 |[],k=>bW
 |a::b,k=>by
  have:=xV c x b (k+1);grind [iN]
def MF(c:cV)(x:Instr):(bY c x).length<=x.aN.length:=by
 grind [bY,xV]
def J.wL{a c:E}(f:J g a)(h:J g c){b:ad}(d:∀x∈b,x<g.size):gL b a c:=λx e=>by rw[f.bC x (d x e),h.bC x (d x e)]
def rR{v:Int}{K:N->E->Prop}(c:jo g m bE 1 s (b.map Ce.i))(h:J g m)(n:b.length<1000000000)
 (f:∀r a,jo g a bE 1 r ((b++[v]).map Ce.i)->J g a->K r a):
 lS (m.push (.cells (de [.i v]) bE)) bE [.i (0:Int)] 8 s (N.mk m.size 0 1 1) K:=by
 have o:s.len=b.length:=by have:=c.aS;simp at this;omega
 refine jo.fy (c:=[.i 0]) (h:=[.i v]) (c.ext (J.push _ _)) (h.cw _) rfl (dJ.push m _ _).kV fj λr a d e i j k l=>?_
 exact f r a (sp d) e
def Om(aa:iF m d p c)(hc:Dy c x)(I:bd m a x.aN)(ai:x.aN.length<=1000000)(ab:(x.op=16\/x.op=17)->1<=x.aN.length):
 sq 117 [.agg #[d.v,p.v],.agg #[vi x.op,vi x.br,vi x.cE,vi x.cY,a.v,j.v]] m (bY c x):=by
 apply Jo
 simp -zeta only[dU]
 intro G f Q
 have B:J m f:=((J.cZ m).cw _).cw _
 have s2:f.size=m.size+2:=by simp[f,G]
 have h3:=px Q
 have u:jo f Q bE 1 (.mk f.size 0 0 0) []:=jo.bI (J.cZ f) bE 1 [] 0 bO
 have s1:=pz G
 have af:=I.aS
 have w:∀v∈[G.size,m.size],v<f.size:=λv t=>by simp at t;omega
 clear_value Q
 clear_value f
 have K:∀{o s b},jo f o bE 1 s b->jo m o bE 1 s b:=λu=>u.da B.aP
 refine⟨λZ o=>J f o/\jo f o bE 1 (.mk f.size 0 0 0) []/\(Z=true<->(x.op=15\/x.op=6\/x.op=10\/x.op=11\/x.op=18\/x.op=23\/x.op=9\/x.op=24)),?_,?_⟩
 .refine(LY).bK h3 w λv C t g i=>⟨v,rfl,λM=>⟨i,u.ext g,by have:=t.1 M;simp;omega⟩,λL=>?_⟩
  have h:=fb t L
  refine⟨λe=>⟨i,u.ext g,by simp at e;simp;omega⟩,λH=>⟨λe=>⟨i,u.ext g,by simp at e;simp;omega⟩,λq=>⟨λe=>⟨i,u.ext g,by simp at e;simp;omega⟩,λA=>⟨i,u.ext g,by simp at H q A;simp;omega⟩⟩⟩⟩
 .rintro Z C ⟨g,O,W⟩
  refine⟨λad=>?_,λac=>?_⟩
  .have hT:=W.1 ad
   refine gP (n:=x.aN.length) V (λk s o=>J f o/\jo f o bE 1 s ((if x.op=9\/x.op=24 then lI c x k else x.aN.take k).map Ce.i)) ⟨g,by simpa[lI,iN]using O⟩ ?_
   rintro k s m5 ae μ hk ⟨R,P⟩ Y
   have X:=B.O R
   refine dit (λah=>?_) λag=>?_
   .let⟨y,h⟩:=dY x.aN k
    have U:lI c x (k+1)=lI c x k++iN c x k [y]:=by
     unfold lI;rw[bX h,rX];simp;congr 2;omega
    refine(vT (aa.ext X) hc a j k).bK R w λv m6 t S E=>⟨v,rfl,λM=>?_,λL=>?_⟩
    .have F:=nb t M
     refine⟨V,V,y,by simpa using(I.ext (B.O E)).D h,?_⟩
     intro m7
     have T:(if x.op=9\/x.op=24 then lI c x k else x.aN.take k).length<=k:=by
      split
      .refine fA (xV _ _ _ _) ?_;simp;omega
      .simp;omega
     refine rR (P.ext S) E V λr m8 z D=>?_
     refine⟨J.wL (E.cw _) D w,Y V _ _ ⟨D,?_⟩⟩
     by_cases e:x.op=9\/x.op=24
     .rw[ba e]at z⊢
      rw[U]
      have:iN c x k [y]=[y]:=by
       simp only[iN];rw[aU (λw=>F ⟨e,w⟩)]
      rw[this];exact z
     .rw[aU e]at z⊢
      rw[bX h];exact z
    .have F:=yb t L
     refine Y V _ _ ⟨E,?_⟩
     have T:=P.ext S
     rw[ba F.1]at T⊢
     rw[U]
     have:iN c x k [y]=[]:=by
      simp only[iN];rw[ba F.2]
     rw[this,fH];exact T
   .refine⟨s,rfl,?_,X⟩
    have q:bY c x=if x.op=9\/x.op=24 then lI c x k else x.aN.take k:=by
     have A:x.aN.take k=x.aN:=eW V;unfold bY lI;rw[A];by_cases e:x.op=9\/x.op=24
     .rw[aU V,aU V,ba e,ba e]
     .rw[ba V,aU e]
    rw[q];exact K P
  .have hT:¬(x.op=15\/x.op=6\/x.op=10\/x.op=11\/x.op=18\/x.op=23\/x.op=9\/x.op=24):=λe=>by have:=W.2 e;rw[ac]at this;simp at this
   have i:=B.O g
   have lW:∀e:x.op=16\/x.op=17,(0:Int)<=(0:Int)/\(0:Int)<(a.len:Int)/\∃E:Int,aR C a.bq (a.off+Int.toNat (0:Int)*1)=some (vi E)/\
    lS (C.push (.cells (de [.i E]) 3)) 3 [.i (0:Int)] 8 (N.mk f.size 0 0 0) (N.mk C.size 0 1 1) λL k=>gL [G.size,m.size] (C.push (.cells (de [.i E]) 3)) k/\∃s,L.v=s.v/\jo m k bE 1 s ((bY c x).map Ce.i)/\J m k:=λe=>by
    have M:=ab e
    let⟨y,h⟩:=dY x.aN 0
    refine⟨V,V,y,by simpa using(I.ext i).D h,rR (b:=[]) O g bO λr m8 z D=>⟨J.wL (g.cw _) D w,r,rfl,?_,B.O D⟩⟩
    have q:bY c x=[y]:=by
     unfold bY;rw[aU V,ba e];cases F:x.aN with
     |nil=>rw[F]at h;simp at h
     |cons P b=>rw[F]at h;simp at h;subst h;rfl
    rw[q];exact K z
   refine⟨λe=>lW (bu (sp e)),λH=>⟨λe=>lW (bG (sp e)),λq=>⟨_,rfl,?_,i⟩⟩⟩
   have A:bY c x=[]:=by
    simp at H q;unfold bY;rw[aU V,aU V,aU V]
   rw[A];exact K O
def oJ(c:bd m s b)(l:b.length<=1000000000):sq 55 [s.v] m b:=by
 apply ru;intro d;have a:=px d;have g:jo m d bE 1 (.mk m.size 0 0 0) []:=jo.bI (J.cZ m) bE 1 [] 0 bO;have f:=c.aS;refine jo.fy (c:=[.i 0]) (h:=b.map Ce.i) g a (by simp[f]) (c.ext a).Eu fj λr n a e h i j k=>⟨r,rfl,sp a,e⟩
def Qh(h:bd m s b)(c:bd m t r)(p:b.length+r.length<=1000000000):sq 215 [s.v,t.v] m (b++r):=by
 apply yV;refine(oJ h V).bZ V λq w d e a=>⟨q,rfl,?_⟩;have i:=c.aS;have o:=e.aS;refine jo.fy (c:=[.i 0]) (h:=r.map Ce.i) d a (by simp[i]) (c.ext a).Eu V λu v f g j k l n=>⟨u,rfl,sp f,g⟩
def se(d:bd m s b):gK dN 169 [s.v] m (DG b):=by
 apply IK;have g:=d.aS;refine ik (n:=b.length) (g▸d.kA) (λk a=>J m a/\∀y∈b.take k,y=0) ⟨di,bO⟩ ?_;rintro k o I μ l ⟨a,f⟩ j
 refine⟨λh=>?_,λh=>pw (ig (by simp at h;omega) f) a⟩;simp only[bh]at h;let⟨x,e⟩:=dY b k;refine⟨V,V,x,by simpa using a.aR (d.D e),λc=>fW (λi=>?_) a,λc=>j V _ ⟨a,eC e f (sp c)⟩⟩;have:=i x (aZ e);simp at c;omega
def Fe(d:bd m s b):gK dN 165 [s.v] m (∀o∈b,0<=o):=by
 apply AJ;have g:=d.aS;refine ik (n:=b.length) (g▸d.kA) (λk a=>J m a/\∀y∈b.take k,0<=y) ⟨di,bO⟩ ?_;rintro k p I μ l ⟨a,f⟩ j
 refine⟨λh=>?_,λh=>pw (ig (by simp at h;omega) f) a⟩;simp only[bh]at h;let⟨x,e⟩:=dY b k;refine⟨V,V,x,by simpa using a.aR (d.D e),λc=>fW (λi=>?_) a,λc=>j V _ ⟨a,eC e f (sp c)⟩⟩;have:=i x (aZ e);simp at c;omega
def uO(f:bd m s b)(j:bd m t r):gK dN 210 [s.v,t.v] m (b=r):=by
 apply Hj;have l:=f.aS;have q:=j.aS;refine⟨λh=>fW (λe=>by subst e;simp at h;omega) di,λh=>?_⟩;simp at h;refine ik (n:=b.length) (l▸f.kA) (λk a=>J m a/\b.take k=r.take k) ⟨di,bO⟩ ?_;rintro k u I μ p ⟨c,i⟩ o
 refine⟨λh=>?_,λh=>pw (by simp at h;rwa[eW V,eW V]at i) c⟩;simp only[bh]at h;let⟨x,g⟩:=dY b k;let⟨y,d⟩:=dY r k;refine⟨V,V,x,by simpa using c.aR (f.D g),V,V,y,by simpa using c.aR (j.D d),λa=>fW (λe=>?_) c,λa=>o V _ ⟨c,?_⟩⟩
 .subst e;rw[g]at d;simp at d;simp at a;exact a d
 .rw[bX g,bX d,i];simp at a;rw[a]
abbrev fv(f:bS)(r o h:N):Value:=.agg #[vi f.fY,vi f.pc,vi f.br,r.v,o.v,h.v]
abbrev xv(x:Instr)(a j:N):Value:=.agg #[vi x.op,vi x.br,vi x.cE,vi x.cY,a.v,j.v]
def IJ{f:bS}{r:N}(t:bd m r f.aT)(g:bd m a x.aN)(C:∀y∈x.aN,0<=y/\y<f.aT.length):
 gK dN 166 [fv f r o e,xv x a j] m (∀y∈x.aN,D f.aT y<1000):=by
 apply C6
 simp -zeta only[dU]
 intro w b
 have v:J m b:=((J.cZ m).cw _).cw _
 have E:∀d∈[w.size,m.size],d<b.size:=by simp[b,w];omega
 have z:=g.aS
 have L:=t.aS
 clear_value b
 refine ik (n:=x.aN.length) (z▸g.kA) (λl c=>J b c/\∀y∈x.aN.take l,D f.aT y<1000) ⟨di,bO⟩ ?_
 rintro l M I μ K ⟨u,s⟩ G
 have i:=v.O u
 refine⟨λh=>?_,λh=>pw (ig (by simp at h;omega) s) i⟩
 simp only[bh]at h
 let⟨y,c⟩:=dY x.aN l
 have k:=C y (aZ c)
 refine⟨V,V,y,by simpa using i.aR (g.D c),k.1,V,D f.aT y,by simpa using i.aR (t.um k.1 k.2),?_⟩
 refine(jd).bK u E λd O q H p=>⟨d,rfl,λB=>fW (λF=>?_) (v.O p),λA=>G V _ ⟨p,eC c s ?_⟩⟩
 .have:=F y (aZ c);have:=q.1 B;omega
 .have:=fb q A;omega
def tc(b r:ab):nU (b++r)=nU b++nU r:=by simp[nU]
def rS(b:ab):(nU b).length<=b.length:=List.length_filter_le _ _
def sL(f:bd m s b)(A:b.length<=100000000):sq 209 [s.v] m (nU b):=by
 apply Dh;intro g;have p:=px g;have u:jo m g bE 1 (.mk m.size 0 0 0) []:=jo.bI (J.cZ m) bE 1 [] 0 bO;have z:=f.aS;clear_value g;refine gP (n:=b.length) V (λk s a=>J m a/\jo m a bE 1 s ((nU (b.take k)).map Ce.i)) ⟨p,by simpa[nU]using u⟩ ?_;rintro k s B I μ y ⟨d,c⟩ j
 refine dit (λo=>?_) λo=>?_
 .let⟨x,e⟩:=dY b k;refine⟨V,V,x,by simpa using d.aR (f.D e),?_⟩;refine(jd).bZ λl C h a=>⟨l,rfl,λt=>?_,λq=>?_⟩
  .have i:=d.O a;refine⟨V,V,x,by simpa using i.aR (f.D e),?_⟩;intro D;refine rR (c.ext a) i (by have:=rS (b.take k);simp at this;omega) λr E v w=>j V _ _ ⟨w,?_⟩
   rw[bX e,tc];have:nU [x]=[x]:=by simp[nU,h.1 t]
   rw[this];exact v
  .refine j V _ _ ⟨d.O a,?_⟩
   rw[bX e,tc];have:nU [x]=[]:=by simp[nU];have:=fb h q;omega
   rw[this,fH];exact c.ext a
 .rw[eW V]at c;exact⟨s,rfl,c,d⟩
def vW{f:bS}{r:N}(l:bd m r f.aT)(p:bd m s b)(x:∀y∈b,0<=y/\y<f.aT.length)(H:b.length<=100000000):
 sq 211 [fv f r o e,s.v] m (dO f b):=by
 apply Jw
 simp -zeta only[dU]
 intro a j
 have q:=px a
 have w:=px j
 have A:jo a j bE 1 (.mk a.size 0 0 0) []:=jo.bI (J.cZ a) bE 1 [] 0 bO
 have z:∀u∈[m.size],u<a.size:=by simp[a]
 have G:=p.aS
 have F:=l.aS
 clear_value j
 clear_value a
 refine gP (n:=b.length) V (λk s c=>J a c/\jo a c bE 1 s ((dO f (b.take k)).map Ce.i)) ⟨w,by simpa[dO]using A⟩ ?_
 rintro k s K I μ E ⟨d,c⟩ B
 have g:=q.O d
 refine dit (λv=>?_) λv=>?_
 .let⟨y,h⟩:=dY b k
  have i:=x y (aZ h)
  refine⟨V,V,y,by simpa using g.aR (p.D h),i.1,V,D f.aT y,by simpa using g.aR (l.um i.1 i.2),?_⟩
  intro L
  refine rR c d (by simp[dO];omega) λO M C t=>⟨J.wL (d.cw _) t z,B V _ _ ⟨t,?_⟩⟩
  rw[bX h]
  simpa[dO]using C
 .rw[eW V]at c
  exact⟨s,rfl,c.da q.aP,g⟩
end
section
variable{g:E}{b:bS}{t v d p h u j:N}{s:St}{c:ab}{q:Nat}{k:cV}{w:Int}{e:Nat->Int}{x:Instr}
def Mp{e:N}(R:bd g t b.aT)(ho:bd g v b.bF){s:N}(E:bd g s c)(af:∀y∈c,0<=y/\y<b.aT.length)(an:b.aT.length=b.bF.length)(aw:b.bF.length<=1000000)(au:c.length<=1000000)
 (O:∀w∈b.bF,-1000000000<=w/\w<=1000000000):sq 116 [fv b t v e,s.v] g (bV b.aT b.bF c):=by
 apply Hf
 simp -zeta only[dU]
 intro p
 have F:=px p
 have I:∀H∈[g.size],H<p.size:=by simp[p]
 have av:=E.aS
 have ar:=R.aS
 clear_value p
 refine(oJ (ho.ext F) V).bK V I λx m2 o2 i2 Z=>⟨x,rfl,?_⟩
 have Q:=i2.aS
 have nA:∀(d G bF:ab),bV b.aT bF (d++G)=bV b.aT (bV b.aT bF d) G:=by
  intro d;induction d with
  |nil=>intro G bF;rfl
  |cons y d k=>intro G bF;simp only[eT,bV,k]
 have lo:∀(d bF:ab)(A:Int),(∀w∈bF,A<=w)->∀w∈bV b.aT bF d,A -d.length<=w:=by
  intro d;induction d with
  |nil=>intro bF A h w q;have:=h w q;simp;omega
  |cons y d k=>
   intro bF A h w q;simp only[bV]at q;have:=k _ (A -1) (λu j=>by
    split at j
    .rcases fP (y.toNat<bF.length)with B|B
     .rcases tQ j with j|j
      .have:=h _ (kv (i:=y.toNat) (a:=D bF y) (by obtain⟨C,z⟩:=jk B;rw[OQ z];exact z));omega
      .have:=h u j;omega
     .have z:gT bF y (D bF y -1)=bF:=by unfold gT;rw[JB V]
      rw[z]at j;have:=h u j;omega
    .have:=h u j;omega) w q
   simp only[dE];omega
 refine ik (n:=c.length) V (λk j=>J p j/\jo p j bE 1 x ((bV b.aT b.bF (c.take k)).map Ce.i)) ⟨Z,o2⟩ ?_
 rintro k m3 ak μ hk ⟨S,C⟩ W
 have L:=F.O S
 refine dit (λh=>?_) λh=>?_
 .let⟨y,u⟩:=dY c k
  have j:=af y (aZ u)
  have ao:=mh b.aT (c.take k) b.bF
  refine⟨V,V,y,by simpa using L.aR (E.D u),j.1,V,D b.aT y,by simpa using L.aR (R.um j.1 j.2),?_⟩
  refine(jd).bK S I λH U P M B=>⟨H,rfl,λad=>?_,λaa=>?_⟩
  .have T:=F.O B
   have K:=C.ext M
   have i4:bd U x (bV b.aT b.bF (c.take k)):=bd.jM K V
   refine⟨V,V,y,by simpa using T.aR (E.D u),V,V,y,by simpa using T.aR (E.D u),j.1,V,D (bV b.aT b.bF (c.take k)) y,i4.um j.1 V,j.1,V,?_⟩
   have aq:=lo (c.take k) b.bF (-1000000000) (λw q=>(O w q).1) _ (gS (l:=bV b.aT b.bF (c.take k)) j.1 V)
   have al:D (bV b.aT b.bF (c.take k)) y<=1000000000:=by
    let⟨q',aj,am⟩:=oa (c.take k) b.bF y.toNat _ (jG (l:=bV b.aT b.bF (c.take k)) j.1 V);have:=(O q' (aZ aj)).2;omega
   have ap:(c.take k).length<=1000000:=fj
   rw[iC]
   rcases K.D with ah|⟨q,Y,tail,z,e2,e3,e4,e5⟩
   .rw[ah]at Q;simp at Q;omega
   .have ai:x.off=0:=by rw[z];rfl
    have ac:x.bq=q:=by rw[z];rfl
    rw[ai,ac]
    have ae:0+y.toNat*1=y.toNat:=V
    rw[ae]
    have ag:y.toNat<((bV b.aT b.bF (c.take k)).map Ce.i).length:=fj
    refine⟨e3.iQ (by simp only[dj];omega),?_⟩
    intro m5
    have X:J p m5:=B.aV e2 _ _
    refine⟨J.wL B X I,W V _ ⟨X,?_⟩⟩
    rw[bX u,nA]
    simp only[bV,ba (P.1 ad)]
    refine⟨by rw[jq,jC,<-jq (f:=Ce.i)];exact K.aS,bG ⟨q,Y,tail,z,e2,?_,?_,e5⟩⟩
    .have:=dJ.aV (m:=U) (o:=y.toNat) (r:=[.i (D (bV b.aT b.bF (c.take k)) y -1)]) e3
     have z:jh ((bV b.aT b.bF (c.take k)).map Ce.i++tail) y.toNat [.i (D (bV b.aT b.bF (c.take k)) y -1)]=(gT (bV b.aT b.bF (c.take k)) y (D (bV b.aT b.bF (c.take k)) y -1)).map Ce.i++tail:=by
      simp only[jh,gT,xZ];rw[QJ _ _ ag]
     rw[z]at this;exact this
    .simp only[dj,jq,jC]at e4⊢;exact e4
  .refine W V _ ⟨B,?_⟩
   rw[bX u,nA]
   simp only[bV,aU (fb P aa)]
   exact C.ext M
 .rw[eW V]at C
  exact⟨x,rfl,C.da F.aP,L⟩
def ju{cC t x:N}(a:RV g q 2 d p cC t x k s)(K:1000<=w){c:dD}(i:s.aQ[ix w]? =some c):
 bJ dN 172 [vp q 0,vi w] g λD v=>∃b,D=.agg #[vi c.ct,vi c.jJ,b.v]/\bd v b c.bU/\J g v:=by
 apply yx (q,0)
 simp -zeta only[dU]
 intro B
 have j:=px B
 have l:=jF.ext j a.aQ
 let⟨b,F,r,g1,g2⟩:=l.D i
 have H:=l.aS
 have I:=l.kA
 have A:=bA i
 unfold ix at A r g1 g2
 have e:eR (w -1000)=w -1000:=iC
 rw[e]
 refine⟨t,j.aR a.wi,V,V,c.ct,r,c.jJ,g1,b,g2,?_⟩
 intro C
 have m:J g C:=j.aV bW _ _
 let⟨o,y,L,M,u⟩:=(jF.ext m a.aQ).D i
 unfold ix at u
 have z:o=b:=by
  obtain⟨E,G,_,_,n⟩:=a.aQ.D i;unfold ix at n;have f:=j.aR n;have h:=m.aR n;rw[g2]at f;rw[u]at h;simp at f h;rw[N.XA]at f h;rw[f,h]
 subst z
 exact⟨o,rfl,y,m⟩
def yU{cC L D:N}(C:RV g q 2 d p cC L D k s)(G:iW s.aQ e){B:N}(o:bd g B c)(I:∀w∈c,iH s.aQ w)(Y:c.length<=1000000):
 gK dN 208 [vp q 0,B.v] g (oA s.aQ c):=by
 apply vV (q,0)
 have X:=o.aS
 refine ik (n:=c.length) V (λr a=>J g a/\∀w∈c.take r,1000<=w->(bt s.aQ w).ct+kC c (ix w)<=999999) ⟨di,bO⟩ ?_
 rintro r Z P μ T ⟨y,v⟩ O
 refine⟨λh=>?_,λh=>pw (ig (by simp at h;omega) v) y⟩
 simp only[bh]at h
 let⟨x,l⟩:=dY c r
 have m:=I x (aZ l)
 have M:=nC m.1
 refine gP (n:=c.length) V (λj(z:Int) a=>J g a/\z=kC (c.take j) (ix x)) ⟨y,by simp[kC]⟩ ?_
 rintro j z m2 Q μ2 S ⟨f,rfl⟩ A
 refine dit (λE=>?_) λE=>?_
 .let⟨u,t⟩:=dY c j
  have K:=Bn (c.take j) (ix x)
  have H:=mR (c.take j) (ix x)
  have F:(c.take j).length<=1000000:=fj
  have i:kC (c.take (j+1)) (ix x)=kC (c.take j) (ix x)+if u=x then 1 else 0:=by
   rw[bX t,qB];simp only[kC,M];omega
  refine⟨V,V,u,by simpa using f.aR (o.D t),V,V,x,by simpa using f.aR (o.D l),λa=>A V _ _ ⟨f,?_⟩,λa=>A V _ _ ⟨f,?_⟩⟩
  .simp at a;rw[i,ba a];exact iC
  .simp at a;rw[i,aU a];omega
 .rw[eW V]
  have K:=Bn c (ix x)
  have H:=mR c (ix x)
  let⟨u,W⟩:=dH m
  have U:=(G.iu _ (aZ u)).hi
  refine⟨V,V,x,by simpa using f.aR (o.D l),?_⟩
  refine(ju (C.ext f) m.1 u).aO ?_
  rintro _ m3 ⟨b,rfl,R,a⟩
  have t:eR ((bt s.aQ x).ct+kC c (ix x))=(bt s.aQ x).ct+kC c (ix x):=iC
  refine⟨_,_,_,rfl,λi=>fW (λF=>?_) (f.O a),λi=>O V _ ⟨f.O a,eC l v λ_=>?_⟩⟩
  .have:=F x (aZ l) m.1
   rw[t]at i;simp at i;omega
  .rw[t]at i;simp at i;omega
def xf{h:ah}:oA h (nU c)<->oA h c:=by
 grind [oA,nN,Ek]
theorem aav{s:N}(h:bd g s c)(p:1<=c.length):bd g (N.cut s 1 s.len 1) (c.drop 1):=by
 have b:=h.aS;have i:=h.lZ;have l:=h.kA;cases s with
 |nil=>simp at b;omega
 |Dx d v sp=>simp at b;omega
 |mk d v r o=>
  simp at b i l;refine⟨by simp[N.cut];omega,by simp[N.cut];omega,by simp[N.cut];omega,λn x a=>?_⟩;rw[rC]at a;have q:=bA a;let⟨f,j,np⟩:=h.kV (1+n) x a;refine⟨f,j,λm e k=>?_⟩;have:=np m e k;simp only[N.cut,N.mP,N.Bo]at this⊢;rw[aU V];rw[<-this];congr 1;omega
def fX.tV(h:fX k b){t:Int}(d:0<=t)(e:t<b.aT.length)(f:∀w∈b.aT,w<=9223372036854775807): -9223372036854775808<=D b.aT t/\D b.aT t<=9223372036854775807:=by
 have c:=gS (l:=b.aT) d e;refine⟨?_,f _ c⟩;rcases h.YG _ c with a|a
 .have:=a.1;omega
 .omega
def Oa{cC hp fr:N}(z:RV g q 2 d p cC hp fr k s)(O:iW s.aQ e)(Q:bd g t b.aT)(P:bd g h b.cQ)(r:bd g u x.aN)
 (M:fX k b)(aj:∀w∈b.aT,w<=9223372036854775807)(aa:∀l∈x.aN,0<=l/\l<b.aT.length)(av:1<=x.aN.length/\x.aN.length<=4)(aw:x.op=16\/x.op=17):
 gK dN 173 [vp q 0,fv b t v h,xv x u j] g (FQ s.aQ b x):=by
 apply xO (q,0)
 simp -zeta only[dU]
 intro m1 G
 have a:J g G:=((J.cZ g).cw _).cw _
 have m:∀i∈[m1.size,g.size],i<G.size:=by simp[G,m1];omega
 have ap:=r.aS
 have ay:=Q.aS
 have au:=P.aS
 have ao:=r.lZ
 clear_value G
 have c:0<=D x.aN 0/\D x.aN 0<b.aT.length:=aa _ (gS V V)
 have S:D x.aN 0<b.cQ.length:=by have:=M.lr;have:=M.lh;omega
 have al:=M.tV c.1 c.2 aj
 refine⟨V,V,D x.aN 0,(r.ext a).um V V,c.1,V,D b.aT (D x.aN 0),(Q.ext a).um c.1 c.2,hp,a.aR z.wi,?_⟩
 unfold FQ
 simp only[]
 generalize az:D b.aT (D x.aN 0)=w at*
 refine(oK (jF.ext a z.aQ) al).bK di m λi m3 y B _=>⟨i,rfl,λai=>fW (λf=>nb y ai f.1) (a.O B),λah=>?_⟩
 have n:=yb y ah
 let⟨C,ax⟩:=dH n
 have aq:=(O.iu _ (aZ C)).fl
 have am:=a.O B
 refine((ju (z.ext am) n.1 C)).bK B m ?_
 rintro _ m4 ⟨fl,rfl,ak,W⟩
 have T:=B.O W
 refine⟨W,_,_,_,rfl,(sL ak V).bK (oh (rS (bt s.aQ w).bU)) (λi y=>T.lt (m i y)) λps m5 o5 i5 h5=>⟨ps,rfl,V,V,V,?_⟩⟩
 have H:=T.O h5
 have ab:=a.O H
 have e1:(Int.toNat (1:Int))=1:=rfl
 have e2:(Int.toNat (u.len:Int))=u.len:=V
 rw[e1,e2]
 refine(vW (Q.ext ab) (aav (r.ext ab) V) (λl o=>aa l (uj o)) fj).bK (by simp[dO];omega) (λi y=>H.lt (m i y)) λqs m6 o6 i6 K=>⟨qs,rfl,?_⟩
 have ac:=H.O K
 refine(uO (i5.ext K) i6).bK ac m λb2 m7 X h7 A=>⟨b2,rfl,λae=>?_,λad=>fW (λf=>fb X ad f.2.1) (a.O A)⟩
 have E:=X.1 ae
 refine(ju (z.ext (a.O A)) n.1 C).bK A m ?_
 rintro _ m8 ⟨an,rfl,ar,L⟩
 have I:=A.O L
 refine⟨L,_,_,_,rfl,λo=>?_,λo=>?_⟩
 .simp at o
  have F:=a.O I
  refine⟨λl=>pw ⟨n,E,bu o,λe=>by simp at l;omega⟩ F,λl=>⟨V,V,D x.aN 0,(r.ext F).um V V,c.1,V,D b.cQ (D x.aN 0),(P.ext F).um c.1 S,lg ?_ F⟩⟩
  simp only[bP,a8,ne_eq]at l⊢
  exact⟨λR=>⟨n,E,bu o,λ_=>R⟩,λf=>f.2.2.2 V⟩
 .simp at o
  refine(yU (z.ext (a.O I)) O (i5.ext ((K.O h7).O L)) (λU F=>O.pQ (aZ C) (nN.1 F).1 (nN.1 F).2) (oh (rS (bt s.aQ w).bU))).bK I m λb3 m9 Y h9 U=>⟨b3,rfl,λag=>?_,λaf=>fW (λf=>?_) (a.O U)⟩
  .have Z:=xf.1 (Y.1 ag)
   have F:=a.O U
   refine⟨λl=>pw ⟨n,E,bG Z,λe=>by simp at l;omega⟩ F,λl=>⟨V,V,D x.aN 0,(r.ext F).um V V,c.1,V,D b.cQ (D x.aN 0),(P.ext F).um c.1 S,lg ?_ F⟩⟩
   simp only[bP,a8,ne_eq]at l⊢
   exact⟨λR=>⟨n,E,bG Z,λ_=>R⟩,λf=>f.2.2.2 V⟩
  .rcases f.2.2.1 with l|l
   .exact o l
   .exact fb Y af (xf.2 l)
def Mg{cC O X:N}(b:RV g q 2 d p cC O X k s)(F:gC k)(C:iW s.aQ e)(hw: -9223372036854775808<=w/\w<=9223372036854775807):
 gK dN 170 [vp q 0,vi w] g (tz k s.aQ w):=by
 apply wO (q,0)
 simp -zeta only[dU]
 refine⟨O,b.wi,(oK b.aQ hw).bZ λf m1 t A=>⟨f,rfl,λaf=>fW (λa=>nb t af a.1) A,λae=>?_⟩⟩
 have v:=yb t ae
 let⟨E,ai⟩:=dH v
 have J:=C.iu _ (aZ E)
 have ax:=(J.yH ai).2
 refine(ju (b.ext A) v.1 E).aO ?_
 rintro _ G ⟨z,rfl,M,h⟩
 refine⟨_,_,_,rfl,?_⟩
 intro m3 y
 have ak:=A.O h
 obtain⟨H,s4⟩:=pv y
 have hB:aR y G.size 1=some (vi (bt s.aQ w).jJ):=(dJ.aV (m:=m3) (o:=0) (r:=[.i (bt s.aQ w).ct,.i (bt s.aQ w).jJ,.s z]) (dJ.push G _ _)).dz 1
 have u:∀f∈[G.size],f<y.size:=by simp[s4]
 clear_value y
 have c:=ak.O H
 have K:=b.ext c
 have aw:=b.gW.cO.aS
 have av:=F.kQ.aS
 have an:(gJ k.bQ).length<=12:=by
  have:=tI F.kQ.dh k.bQ.length;rw[qu _ _ bW]at this;exact this
 refine⟨d,K.bQ,(uL K.gW.bQ F.kQ.dh).bK di u λm5 B _=>⟨_,rfl,B.db hB,p,(b.ext (c.O B)).cO,?_⟩⟩
 have T:eR ((bt s.aQ w).jJ -((gJ k.bQ).length:Int))=(bt s.aQ w).jJ -cJ k:=iC
 have U:eR ((p.len:Int) -1)=(p.len:Int) -1:=iC
 rw[T,U]
 refine(dk).bK B u λb2 m6 L h6 i=>⟨b2,rfl,λac=>?_,λab=>fW (λa=>fb L ab ⟨a.2.1,oh a.2.2.1⟩) (c.O i)⟩
 have Q:=L.1 ac
 have x:=c.O i
 have D:=b.ext x
 let⟨al,P⟩:=dY k.cO (((bt s.aQ w).jJ -cJ k).toNat)
 have aj:dy k ((bt s.aQ w).jJ -cJ k)=al:=by simp[dy,P]
 obtain⟨S,l',c',aa,ah,ap,Y,g1,_⟩:=D.gW.cO.D P
 have ao:=aa.aS
 have au:=ah.aS
 have ar:=M.aS
 have aq:=J.fl
 have W:eR ((z.len:Int)+1)=(z.len:Int)+1:=iC
 rw[W]
 unfold tz
 rw[aj]
 refine⟨p,D.cO,V,V,S,Y,λl=>⟨p,D.cO,V,V,l',g1,λn=>⟨λj=>?_,λj=>?_⟩,λn=>fW (λa=>?_) x⟩,λl=>fW (λa=>?_) x⟩
 .simp at l n j
  exact pw ⟨v,Q.1,V,V,V,bu j⟩ x
 .simp at l n j
  refine(sL (M.ext (H.O i)) V).bK (oh (rS (bt s.aQ w).bU)) (λf t=>i.lt (u f t)) λps m7 o7 i7 Z=>⟨ps,rfl,?_⟩
  have I:=i.O Z
  refine(yU (b.ext (c.O I)) C i7 (λad R=>C.pQ (aZ E) (nN.1 R).1 (nN.1 R).2) (oh (rS (bt s.aQ w).bU))).bK I u λb3 m8 ad am R=>⟨b3,rfl,lg ?_ (c.O R)⟩
  rw[ad,xf]
  refine⟨λag=>⟨v,Q.1,V,V,V,bG ag⟩,λa=>?_⟩
  rcases a.2.2.2.2.2 with h|h
  .exact absurd h j
  .exact h
 .have:=a.2.2.2.2.1;simp at n;omega
 .have:=a.2.2.2.1;simp at l;omega
def Mh{cC O F:N}(C:RV g q 2 d p cC O F k s)(B:bd g h b.cQ)(H:bd g u x.aN)(U:0<=x.cY/\x.cY<=b.cQ.length)(W:b.cQ.length<=1000000)
 (L:∀w∈b.cQ,w≠0->1000<=w/\∃o,s.aQ[ix w]? =some o):
 gK dN 167 [vp q 0,fv b t v h,xv x u j] g (JH s.aQ b x):=by
 apply wP (q,0)
 simp -zeta only[dU]
 intro n f
 have c:J g f:=((J.cZ g).cw _).cw _
 have M:∀E∈[n.size,g.size],E<f.size:=by simp[f,n];omega
 have G:aR f n.size 4=some u.v:=(dJ.push n _ _).dz 4
 have R:=H.aS
 have T:=B.aS
 clear_value f
 unfold JH
 refine⟨λm=>pw (λr=>absurd (sp m) r) c,λm=>?_⟩
 simp at m
 have e:eR (x.cY -1)=x.cY -1:=iC
 rw[e]
 have A:=(B.ext c).um (i:=x.cY -1) V V
 refine⟨V,V,D b.cQ (x.cY -1),A,λa=>pw (λ_ r=>absurd (sp a) r) c,λa=>?_⟩
 simp at a
 let⟨P,o,z⟩:=L _ (gS (l:=b.cQ) (i:=x.cY -1) V V) a
 refine⟨V,V,D b.cQ (x.cY -1),A,(ju (C.ext c) P z).bK di M ?_⟩
 rintro _ X ⟨Q,rfl,K,r⟩
 have S:=K.aS
 have I:bt s.aQ (D b.cQ (x.cY -1))=o:=by simp[bt,z]
 refine⟨r,_,_,_,rfl,r.db G,lg ?_ (c.O r)⟩
 rw[I]
 simp
 exact⟨λy _ _=>V,λy=>oh (y m a)⟩
theorem kW(k:cV)(x:Instr):∀(c t:ab)(a:Nat),fe k x a (c++t)=fe k x a c++fe k x (a+c.length) t
 |[],t,a=>by simp[fe]
 |u::c,t,a=>by
  have:=kW k x c t (a+1);grind [fe,List.length_cons,List.length]
def AF{cC l Z:N}(o:RV g q 2 d p cC l Z k s)(S:bd g t b.aT)(E:bd g u x.aN)(hF:fX k b)(af:∀w∈b.aT,w<=9223372036854775807)
 (ag:∀y∈x.aN,0<=y/\y<b.aT.length)(hc:Dy k x)(ai:x.op=9\/x.op=24):
 gK dN 168 [vp q 0,fv b t v h,xv x u j] g (tx k s.aQ b x):=by
 apply wN (q,0)
 simp -zeta only[dU]
 intro X i
 have H:J g i:=((J.cZ g).cw _).cw _
 have G:∀r∈[X.size,g.size],r<i.size:=by simp[i,X];omega
 have aa:=E.aS
 have ak:=S.aS
 clear_value i
 refine ik (n:=x.aN.length) (aa▸E.kA) (λa c=>J i c/\∀y∈fe k x 0 (x.aN.take a),1000<=D b.aT y->iH s.aQ (D b.aT y)) ⟨di,by simp[fe]⟩ ?_
 rintro a m3 aj μ hk ⟨U,R⟩ K
 have m:=H.O U
 refine⟨λh=>?_,λh=>pw (by simp at h;rwa[eW V]at R) m⟩
 simp only[bh]at h
 let⟨y,I⟩:=dY x.aN a
 have f:=ag y (aZ I)
 have C:=o.ext m
 have T:fe k x 0 (x.aN.take (a+1))=fe k x 0 (x.aN.take a)++fe k x a [y]:=by
  rw[bX I,kW];congr 2;simp;omega
 have F:(js k x a=true->1000<=D b.aT y->iH s.aQ (D b.aT y))->∀z∈fe k x 0 (x.aN.take (a+1)),1000<=D b.aT z->iH s.aQ (D b.aT z):=λhh z c=>by
  rw[T]at c;rcases bR.1 c with c|c
  .exact R z c
  .simp only[fe]at c;split at c
   .rename_i e;simp at c;subst c;exact hh e
   .simp at c
 have ah:js k x a=true->y∈fe k x 0 x.aN:=λe=>by
  have Y:x.aN=x.aN.take (a+1)++x.aN.drop (a+1):=(jT _ _).symm;rw[Y,kW,T];refine dK _ (mM _ ?_);simp only[fe];rw[ba e];simp
 refine⟨V,V,y,by simpa using m.aR (E.D I),f.1,V,D b.aT y,by simpa using m.aR (S.um f.1 f.2),d,C.bQ,p,C.cO,?_⟩
 refine(vT C.gW hc u j a).bK U G λr m4 O h4 L=>⟨r,rfl,λae=>?_,λad=>K V _ ⟨L,F λe=>absurd ⟨ai,e⟩ (fb O ad)⟩⟩
 have e:=(O.1 ae).2
 refine(jd).bK L G λb2 m5 P h5 A=>⟨b2,rfl,λac=>?_,λab=>K V _ ⟨A,F λ_ l=>absurd l (fb P ab)⟩⟩
 have W:=H.O A
 refine⟨l,(o.ext W).wi,(oK (jF.ext W o.aQ) (hF.tV f.1 f.2 af)).bK A G λb3 m6 Q h6 M=>⟨b3,rfl,λB=>fW (λhM=>nb Q B (hM y (ah e) (P.1 ac))) (H.O M),λB=>K V _ ⟨M,F λ_ _=>yb Q B⟩⟩⟩
end
section
@[grind cases] structure we (im:cV) (s:St) (fs:ak) (f:bS) (x:Instr):Prop where
 ok:eM im s
 afh:s.dT=3
 fr:s.bn=fs++[f]
 cur:bH im f=x
 Nw:∀g∈s.bn,∀w∈g.aT,w<=9223372036854775807
section
variable{b:cV}{s:St}{c:ak}{f:bS}{x:Instr}
theorem we.F(a:we b s c f x):fX b f:=a.ok.bn f (by rw[a.fr];simp)
def we.QV(a:we b s c f x):∀w∈f.aT,w<=9223372036854775807:=by grind [we.Nw,we.fr]
theorem we.I(a:we b s c f x):∃p,b.cO[f.fY.toNat]? =some p/\dy b f.fY=p/\ny b p/\p.cF[f.pc.toNat]? =some x/\iB b p f.pc.toNat x:=by
 have:=a.F.Aj a.ok.gW;rwa[a.cur]at this
def we.SD(a:we b s c f x):f.aT.length=f.bF.length/\f.cQ.length=f.bF.length/\1<=f.bF.length/\f.bF.length<=2000:=by
 grind [we.I,we.F,fX.lr,fX.lo,fX.lh,ny.aT]
theorem we.arg(a:we b s c f x):∀y∈x.aN,0<=y/\y<f.aT.length:=λy d=>by
 grind [we.I,we.F,fX.lr,iB.aN]
def we.br(a:we b s c f x):0<=x.br/\x.br<f.bF.length:=by
 grind [we.I,we.F,fX.lo,iB.br]
def we.jr(a:we b s c f x):Dy b x:=by grind [we.I,iB.jr]
def we.opc(a:we b s c f x):0<=x.op/\x.op<=24/\x.op≠7/\x.op≠8/\x.op≠12/\x.op≠13:=by
 obtain⟨p,_,_,e,_,d⟩:=a.I;grind [MT,ny.aT,we.ok,eM.gW,gC.kQ,nh.aS,nh.eN]
def we.oC(g:we b s c f x):x.aN.length<=4/\((x.op=5\/x.op=14\/x.op=15\/x.op=18\/x.op=23\/x.op=19\/x.op=20\/x.op=21)->x.aN.length=1)/\((x.op=1\/x.op=2\/x.op=3\/x.op=4\/x.op=11)->x.aN.length=2)/\
 ((x.op=16\/x.op=17)->1<=x.aN.length)/\(x.op=6->0<=x.cY/\x.cY<=f.cQ.length/\0<=x.cE/\x.cE<12/\x.aN.length<=3)/\(x.op=10->0<=x.cE/\x.cE<4/\x.aN.length<=3)/\(x.op=0->-999<=x.cE/\x.cE<=999):=by
 obtain⟨y,_,m,w,_,t⟩:=g.I
 have a:=t.op
 have p:=g.F.lh
 rw[m]at p
 have d:=g.ok.gW.kQ
 have u:(gJ b.bQ).length<=12:=by
  have:=tI d.dh b.bQ.length;grind [qu]
 have v:=DP d.dh x.cE
 unfold kL at a
 by_cases h:x.op=0
 .rw[ba h]at a;omega
 rw[aU h]at a
 by_cases i:x.op=1\/x.op=2\/x.op=3\/x.op=4\/x.op=11
 .rw[ba i]at a;omega
 rw[aU i]at a
 by_cases j:x.op=5\/x.op=14\/x.op=15\/x.op=18\/x.op=23
 .rw[ba j]at a;omega
 rw[aU j]at a
 by_cases n:x.op=6
 .grind
 rw[aU n]at a
 by_cases k:x.op=9\/x.op=24
 .rw[ba k]at a
  let⟨q,o,e,r⟩:=a
  have:=(d.eN q (aZ e)).1;omega
 rw[aU k]at a
 by_cases l:x.op=10
 .rw[ba l]at a
  obtain⟨⟨q,o,e,r⟩,_⟩:=a
  have:=(d.eN q (aZ e)).1
  have:=bA e
  have:=d.aS;omega
 rw[aU l]at a
 by_cases e:x.op=16\/x.op=17
 .grind
 rw[aU e]at a
 by_cases o:x.op=19
 .grind
 rw[aU o]at a
 by_cases q:x.op=20
 .grind
 grind
def we.Ps(d:we b s c f x):∀w∈f.cQ,w≠0->1000<=w/\∃e,s.aQ[ix w]? =some e/\e.ct<0:=λw h k=>by
 have g:1000<=w:=by have:=d.F.cQ w h;omega
 refine⟨g,?_⟩;have j:0<gG s.bn (ix w):=by
  rw[d.fr,iU,mu];have:=DW c (ix w);have:=yQ (l:=f.cQ) (f:=ix w) (by rw[nC g];exact h);omega
 exact gA λi=>by have:=d.ok.ug (ix w) i;omega
def we.SL(d:we b s c f x):∀o∈f.bF,0<=o/\o<=999999:=λo h=>by
 refine⟨(d.F.Nd o h),?_⟩;rcases fP (0<o)with i|i
 .let⟨k,e⟩:=cX.1 h;have:=d.SD;let⟨w,j⟩:=dY f.aT k (oh (bA e));have m:=PK d.F.Nd j e (c:=ix w) (by rw[nC ((d.F.bF k o w e j).2 i)]);have n:o<=oF s.bn (ix w):=by
   rw[d.fr,jN,oG];have:=Ke (b:=c) (λg l=>d.ok.bn g cG) (ix w);omega
  let⟨g,hd,l⟩:=d.ok.aQ.lv (ix w) V;have p:=d.ok.aQ.ex _ g hd l;have q:=Kg s.aQ (ix w);have r:=(d.ok.aQ.iu g (aZ hd)).hi;omega
 .omega
def we.Ox(a:we b s c f x):∀r∈bY b x,0<=r/\r<f.aT.length:=λr d=>a.arg r (qW d)
end
def Qn{o:E}{mb:Nat}{ag ar cC d fr:N}{im:cV}{Y:St}(O:RV o mb 2 ag ar cC d fr im Y){fs:ak}{n:bS}{x:Instr}(C:we im Y fs n x){X ad h R al ow:N}(Q:bd o X n.aT)(hh:bd o h n.cQ)(K:bd o R x.aN){bF:ab}(U:bd o ow bF)(aw:bF.length=n.bF.length):
 gK dN 118 [vp mb 0,fv n X ad h,xv x R al,ow.v] o (iR im Y n x bF):=by
 apply yy (mb,0)
 simp -zeta only[dU]
 intro W M
 have b:J o M:=((J.cZ o).cw _).cw _
 have i:∀g∈[W.size,o.size],g<M.size:=by simp[M,W];omega
 have ah:dJ M W.size dV [.i x.op,.i x.br,.i x.cE,.i x.cY,.s R,.s al]:=dJ.push W _ _
 have an:dJ M o.size iz [.i n.fY,.i n.pc,.i n.br,.s X,.s ad,.s h]:=(dJ.push o _ _).ext (J.push W _)
 have au:=K.aS
 have ay:=Q.aS
 have ax:=U.aS
 have hd:=C.br
 have av:=C.SD
 have H:=C.oC
 have hI:=C.ok.aQ
 clear_value M
 refine⟨λL=>J M L/\(∀ad∈bF,0<=ad)/\(kM x.op->D bF x.br<=0),?_,?_⟩
 .refine(Fe (U.ext b)).bK di i λg m3 c m _=>⟨g,rfl,λu=>fW (λl=>nb c u l.nn) (b.O m),λz=>?_⟩
  refine(BU _ _).bK m i λb2 A y w a=>⟨b2,rfl,λu=>?_,λv=>⟨a,yb c z,λe=>absurd e (fb y v)⟩⟩
  refine⟨hd.1,V,D bF x.br,(U.ext (b.O a)).um hd.1 V,λk=>fW (λl=>?_) (b.O a),λk=>⟨a,yb c z,λ_=>by simpa using k⟩⟩
  have:=l.br (y.1 u);simp at k;omega
 .rintro m3 ⟨m,q,p⟩
  have f:=b.O m
  have t:=O.ext f
  have B:1<=x.aN.length->0<=D x.aN 0/\D x.aN 0<n.aT.length:=λP=>C.arg _ (gS V V)
  have F:∀{L},J o L->1<=x.aN.length->aR L R.bq (R.off+Int.toNat (0:Int)*1)=some (vi (D x.aN 0)):=λhx P=>(K.ext hx).um V V
  have G:∀{L},J o L->1<=x.aN.length->aR L X.bq (X.off+Int.toNat (D x.aN 0)*1)=some (vi (D n.aT (D x.aN 0))):=λhx P=>(Q.ext hx).um (B P).1 (B P).2
  refine⟨λe=>?_,λe1=>?_⟩
  .simp only[eD,bP]at e
   refine(IJ (Q.ext f) (K.ext f) C.arg).bK m i λg A c w a=>⟨g,rfl,lg (c.trans ?_) (b.O a)⟩
   refine⟨λd=>?_,λh=>h.nL V⟩
   refine⟨q,p,?_,?_,?_,?_,?_,?_,?_,?_,?_,?_,?_⟩<;>intro r<;>first|(exfalso;omega)|exact d
  simp only[cU,a8]at e1
  refine⟨λe=>?_,λe2=>?_⟩
  .simp only[bP]at e
   have j:=H.2.2.2.2.1 e
   refine(Mh t (hh.ext f) (K.ext f) ⟨j.1,j.2.1⟩ V (λZ T S=>by obtain⟨P,s,I,_⟩:=C.Ps Z T S;exact⟨P,s,I⟩)).bK m i λg A c w a=>⟨g,rfl,lg (c.trans ?_) (b.O a)⟩
   refine⟨λd=>?_,λh=>h.jB e⟩
   refine⟨q,p,?_,?_,?_,?_,?_,?_,?_,?_,?_,?_,?_⟩<;>intro r<;>first|(exfalso;omega)|exact d
  simp only[a8]at e2
  refine⟨λe=>?_,λe3=>?_⟩
  .simp only[bP]at e
   refine(AF t (Q.ext f) (K.ext f) C.F C.QV C.arg C.jr (bu e)).bK m i λg A c w a=>⟨g,rfl,lg (c.trans ?_) (b.O a)⟩
   refine⟨λd=>?_,λh=>h.cR (bu e)⟩
   refine⟨q,p,?_,?_,?_,?_,?_,?_,?_,?_,?_,?_,?_⟩<;>intro r<;>first|(exfalso;omega)|exact d
  simp only[a8]at e3
  refine⟨λe=>?_,λe4=>?_⟩
  .simp only[bP]at e
   refine(AF t (Q.ext f) (K.ext f) C.F C.QV C.arg C.jr (bG e)).bK m i λg A c w a=>⟨g,rfl,λu=>?_,λz=>fW (λl=>fb c z (l.cR (bG e))) (b.O a)⟩
   refine(se (U.ext (b.O a))).bK a i λb2 m5 y k s=>⟨b2,rfl,λaf=>?_,λv=>fW (λl=>fb y v (l.mF (bu e)).1) (b.O s)⟩
   refine(se (hh.ext (b.O s))).bK s i λb3 m6 I S j=>⟨b3,rfl,lg (I.trans ?_) (b.O j)⟩
   refine⟨λd=>?_,λh=>(h.mF (bu e)).2⟩
   refine⟨q,p,?_,?_,?_,?_,?_,?_,?_,?_,?_,?_,?_⟩<;>intro r<;>first|(exfalso;omega)|exact c.1 u|exact⟨y.1 af,d⟩
  simp only[a8]at e4
  refine⟨λe=>?_,λe5=>?_⟩
  .simp only[bP]at e
   have T:=H.2.1 V
   refine(se (U.ext f)).bK m i λb2 m5 y k s=>⟨b2,rfl,λaf=>?_,λv=>fW (λl=>fb y v (l.mF (bG e)).1) (b.O s)⟩
   refine(se (hh.ext (b.O s))).bK s i λb3 m6 I S j=>⟨b3,rfl,λap=>?_,λao=>fW (λl=>fb I ao (l.mF (bG e)).2) (b.O j)⟩
   have ac:=b.O j
   have ai:=O.ext ac
   have aa:=ai.bn.aS
   have j7:∀d:1<Y.bn.length\/D n.aT (D x.aN 0)<1000,iR im Y n x bF:=λd=>by
    refine⟨q,p,?_,?_,?_,?_,?_,?_,?_,?_,?_,?_,?_⟩<;>intro r<;>first|(exfalso;omega)|exact⟨y.1 af,I.1 ap⟩|exact d
   refine⟨fr,ai.Su,λZ=>pw (j7 (bu (by simp at Z;omega))) ac,λZ=>?_⟩
   refine⟨V,V,_,F ac V,(B V).1,oh ((B V).2),_,G ac V,(jd).bK j i λb4 m7 aj h9 ae=>⟨b4,rfl,lg ?_ (b.O ae)⟩⟩
   simp at Z
   constructor
   .intro am
    exact j7 (bG (oh (nb aj am)))
   .intro l
    rcases l.pU e with am|am
    .omega
    .have:¬b4=true:=λaq=>by have:=aj.1 aq;omega
     simpa using this
  simp only[a8]at e5
  refine⟨λe=>?_,λe6=>?_⟩
  .simp only[bP]at e
   have T:=H.2.2.1 V
   have j:=B V
   refine⟨V,V,_,F f V,j.1,V,_,G f V,(Mg t C.ok.gW hI (C.F.tV j.1 j.2 C.QV)).bK m i λg A c w a=>⟨g,rfl,lg (c.trans ?_) (b.O a)⟩⟩
   refine⟨λd=>?_,λh=>h.apply e⟩
   refine⟨q,p,?_,?_,?_,?_,?_,?_,?_,?_,?_,?_,?_⟩<;>intro r<;>first|(exfalso;omega)|exact d
  simp only[a8]at e6
  refine⟨λe=>?_,λe7=>?_⟩
  .simp only[bP]at e
   have T:=H.2.1 V
   have j:=B V
   refine⟨V,V,_,F f V,j.1,V,_,G f V,d,t.wi,(oK t.aQ (C.F.tV j.1 j.2 C.QV)).bK m i λg A c w a=>⟨g,rfl,λu=>?_,λz=>fW (λl=>fb c z (l.WU e).1) (b.O a)⟩⟩
   have v:=c.1 u
   refine(ju (O.ext (b.O a)) v.1 (dH v).1).bK a i ?_
   rintro _ m5 ⟨fl,rfl,aa,k⟩
   refine⟨k,_,_,_,rfl,lg ?_ (b.O (a.O k))⟩
   simp only[bh]
   refine⟨λd=>?_,λh=>(h.WU e).2⟩
   refine⟨q,p,?_,?_,?_,?_,?_,?_,?_,?_,?_,?_,?_⟩<;>intro r<;>first|(exfalso;omega)|exact⟨v,d⟩
  simp only[a8]at e7
  refine⟨λe=>?_,λe8=>?_⟩
  .simp only[bP]at e
   have T:=H.2.1 V
   have j:=B V
   refine⟨V,V,_,F f V,j.1,V,_,G f V,(jd).bK m i λg A c w a=>⟨g,rfl,lg (c.trans ?_) (b.O a)⟩⟩
   refine⟨λd=>?_,λh=>h.uD e⟩
   refine⟨q,p,?_,?_,?_,?_,?_,?_,?_,?_,?_,?_,?_⟩<;>intro r<;>first|(exfalso;omega)|exact d
  simp only[a8]at e8
  refine⟨λe=>?_,λe9=>?_⟩
  .simp only[eD,bP]at e
   refine(Oa t hI (Q.ext f) (hh.ext f) (K.ext f) C.F C.QV C.arg ⟨H.2.2.2.1 e,H.1⟩ e).bK m i λg A c w a=>⟨g,rfl,lg (c.trans ?_) (b.O a)⟩
   refine⟨λd=>?_,λh=>h.Em e⟩
   refine⟨q,p,?_,?_,?_,?_,?_,?_,?_,?_,?_,?_,?_⟩<;>intro r<;>first|(exfalso;omega)|exact d
  simp only[cU,a8]at e9
  refine⟨λe=>?_,λac=>?_⟩
  .simp only[bP]at e
   have T:=H.2.1 V
   have j:=B V
   refine⟨d,t.wi,V,V,_,F f V,j.1,V,_,G f V,(oK t.aQ (C.F.tV j.1 j.2 C.QV)).bK m i λg A c w a=>⟨g,rfl,λu=>?_,λz=>fW (λl=>fb c z (l.pL e).1) (b.O a)⟩⟩
   have v:=c.1 u
   have I:=b.O a
   refine⟨V,V,_,F I V,j.1,V,_,G I V,(ju (O.ext I) v.1 (dH v).1).bK a i ?_⟩
   rintro _ m5 ⟨fl,rfl,aa,k⟩
   have af:=aa.aS
   refine⟨k,_,_,_,rfl,k.db ((ah.ext a).dz 2),lg ?_ (b.O (a.O k))⟩
   simp only[bh]
   refine⟨λd=>?_,λh=>oh ((h.pL e).2)⟩
   refine⟨q,p,?_,?_,?_,?_,?_,?_,?_,?_,?_,?_,?_⟩<;>intro r<;>first|(exfalso;omega)|exact⟨v,V⟩
  simp only[a8]at ac
  refine⟨λe=>?_,λaf=>?_⟩
  .simp only[bP]at e
   have T:=H.2.1 V
   have j:=B V
   refine⟨d,t.wi,V,V,_,F f V,j.1,V,_,G f V,(oK t.aQ (C.F.tV j.1 j.2 C.QV)).bK m i λg A c w a=>⟨g,rfl,λu=>?_,λz=>fW (λl=>fb c z (l.sM e).1) (b.O a)⟩⟩
   have v:=c.1 u
   have I:=b.O a
   have l:=O.ext I
   refine⟨ag,l.bQ,V,V,_,F I V,j.1,V,_,G I V,(EG l.gW.bQ C.ok.gW.kQ.dh).bK a i ?_⟩
   rintro _ m5 ⟨cs,rfl,ai,k⟩
   have s:=a.O k
   refine⟨k,cs,rfl,k.db (G I V),k.db (F I V),k.db ((ah.ext a).dz 4),k.db ((an.ext a).dz 3),(ju (O.ext (b.O s)) v.1 (dH v).1).bK s i ?_⟩
   rintro _ m6 ⟨fl,rfl,aa,S⟩
   refine⟨S,_,_,_,rfl,(fF (ai.ext S) _).bK (s.O S) i λb2 m7 y Z ae=>⟨b2,rfl,lg (y.trans ?_) (b.O ae)⟩⟩
   refine⟨λd=>?_,λh=>(h.sM e).2⟩
   refine⟨q,p,?_,?_,?_,?_,?_,?_,?_,?_,?_,?_,?_⟩<;>intro r<;>first|(exfalso;omega)|exact⟨v,d⟩
  .simp only[a8]at af
   refine pw ?_ f
   refine⟨q,p,?_,?_,?_,?_,?_,?_,?_,?_,?_,?_,?_⟩<;>intro r<;>exfalso<;>omega
end
section
variable{p:Nat->Prop}{o n:Nat}{new:ae}{i:Int}{f:N}
@[grind cases] structure dZ (p:Nat->Prop) (ro:ag) (m:E) (ro':ag) (m':E):Prop where
 aP:m.size<=m'.size
 j8:∀b,b<m.size->ro' b=ro b
 bI:∀b,m'.size<=b->ro' b=0
 fL:∀b,b<m.size->¬p (ro b)->m'[b]? =m[b]?
def dZ.cZ(p:Nat->Prop){a:ag}{m:E}(h:∀b,m.size<=b->a b=0):dZ p a m a m:=by constructor<;>grind
theorem dZ.O{g i j:ag}{d e f:E}(a:dZ p g d i e)(k:dZ p i e j f):dZ p g d j f:=
 ⟨fA a.aP k.aP,λb c=>by rw[k.j8 b (cp c a.aP),a.j8 b c],k.bI,λb c h=>by
  rw[k.fL b (cp c a.aP) (by rw[a.j8 b c];exact h),a.fL b c h]⟩
theorem dZ.aO{q:Nat->Prop}{a g:ag}{m d:E}(h:dZ p a m g d)(b:∀k,p k->q k):dZ q a m g d:=by constructor<;>grind [dZ.aP,dZ.j8,dZ.bI,dZ.fL]
def dZ.fV{a:ag}{m d:E}(h:J m d)(c:∀b,m.size<=b->a b=0):dZ p a m a d:=by constructor<;>grind [J.aP,J.bC]
theorem dZ.aV{a:ag}{m:E}(d:∀b,m.size<=b->a b=0){b:Nat}(c:p (a b))(o:Nat)(l:ae):dZ p a m a (aV m b o l):=
 by constructor<;>grind [Nat.le_of_eq,bD,cg]
abbrev HC:=dZ (λk=>k=3\/k=5\/k=6)
abbrev To:=dZ (λk=>k≠0/\k≠9)
theorem dZ.da{a g:ag}{j m d:E}(h:To a m g d)(e:J j m)(f:∀b,b<j.size->a b=0):J j d/\∀b,b<j.size->g b=0:=by
 have i:=e.aP;exact⟨⟨fA i h.aP,λb c=>by rw[h.fL b V cG,e.bC b c]⟩,λb c=>by rw[h.j8 b V,f b c]⟩
theorem dZ.fq{a g:ag}{m d:E}(h:To a m g d){l:ad}(e:∀b∈l,b<m.size/\a b=0):gL l m d:=λb c=>h.fL b (e b c).1 cG
@[grind cases] structure iJ (ro:ag) (m:E) (e sz k:Nat) (s:N) (l:ae):Prop where
 aS:l.length=s.len*sz
 le:s.len<=s.cap
 D:s.cap=0\/∃b c tail,s=.mk b 0 s.len c/\ro b=k/\dJ m b e (l++tail)/\(l++tail).length=c*sz
section
variable{a g:ag}{b d:E}{e c k:Nat}{s:N}{l:ae}
theorem iJ.zV(h:iJ a b e c k s l)(d:s.cap=0):l=[]/\s.len=0:=by
 grind [iJ.le,N.len,List.length_eq_zero_iff,iJ.aS]
def iJ.kV(h:iJ a b e c k s l):jt b s.bq s.off l:=by
 rcases h.D with f|⟨j,d,tail,h1,h2,h3,h4⟩
 .rw[(h.zV f).1];intro i d g;simp at g
 .rw[h1];exact h3.kV.QM
def iJ.wr(h:iJ a b e c k s l)(d:o+n<=l.length):iQ b s.bq (s.off+o) n:=by
 rcases h.D with f|⟨g,i,tail,h1,h2,h3,h4⟩
 .rw[(h.zV f).1]at d;intro m j;simp at d;omega
 .grind [N.mP,N.Bo,dJ.iQ]
theorem iJ.fL(h:iJ a b e c k s l)(p:s.cap≠0->d[s.bq]? =b[s.bq]?)(q:s.cap≠0->g s.bq=a s.bq):iJ g d e c k s l:=by
 refine⟨h.aS,h.le,?_⟩;rcases h.D with o|⟨m,n,tail,h1,h2,h3,h4⟩
 .exact bu o
 .by_cases f:s.cap=0
  .exact bu f
  .have i:=p f;have j:=q f;rw[h1]at i j;exact bG ⟨m,n,tail,h1,j.trans h2,h3.congr i,h4⟩
theorem iJ.bq(h:iJ a b e c k s l)(f:s.cap≠0):s.bq<b.size/\a s.bq=k:=by
 rcases h.D with d|⟨g,i,tail,h1,h2,h3,h4⟩
 .exact absurd d f
 .rw[h1];exact⟨h3.lt,h2⟩
theorem iJ.gX(h:iJ a b e c k s l)(f:dZ p a b g d)(i:¬p k):iJ g d e c k s l:=
 by grind [iJ.fL,dZ.fL,iJ.bq,dZ.j8]
def iJ.eB(h:iJ a b e c k s l)(q:o+new.length<=l.length):iJ a (aV b s.bq (s.off+o) new) e c k s (jh l o new):=by
 refine⟨by rw[mg];exact h.aS,h.le,?_⟩;rcases h.D with j|⟨d,f,tail,h1,h2,h3,h4⟩
 .exact bu j
 .refine bG ⟨d,f,tail,h1,h2,?_,by simp only[dj,mg]at h4⊢;exact h4⟩;have g:s.bq=d:=by rw[h1];rfl
  have i:s.off=0:=by rw[h1];rfl
  rw[g,i,fB];have:=dJ.aV (m:=b) (o:=o) (r:=new) h3;have n:jh (l++tail) o new=jh l o new++tail:=by
   have p:(jh l o new).length=l.length:=mg _ _ _;apply ee;grind [Nat.lt_or_ge,List.length,jh,List.getElem?_append_left,Ey,List.length_append,List.getElem?_append_right]
  grind
def iJ.rc(h:iJ a b e c k s l)(q:n<=s.len):iJ a b e c k (s.cut 0 n c) (l.take (n*c)):=by
 have j:=h.le;have p:=h.aS;rcases h.D with i|⟨f,g,tail,h1,h2,h3,h4⟩
 .have d:n=0:=V;cases s with
  |nil=>exact⟨by simp[d,N.cut],by simp[N.cut],bu rfl⟩
  |Dx f o sp=>exact⟨by simp[d,N.cut],by simp[N.cut],bu rfl⟩
  |mk f o r m=>simp at i;subst i;exact⟨by simp[d,N.cut],by simp[d,N.cut],bu (by simp[N.cut])⟩
 .rw[h1];have d:s.len<=g:=by rw[h1]at j;exact j
  refine⟨?_,by simp[N.cut];omega,bG ⟨f,g,l.drop (n*c)++tail,?_,h2,?_,?_⟩⟩
  .grind [N.cut,N.lJ,List.length_take,N.len,Nat.mul_le_mul_right]
  .simp[N.cut]
  .grind [List.append_assoc,List.take_append_drop]
  grind [List.append_assoc,List.take_append_drop]
end
def iJ.fy{a:ag}{m:E}{e l:Nat}{f:ae}{u:Nat}{s x:N}{n:ae}{K:N->E->Prop}(i:iJ a m e f.length l s n)(t:∀c,m.size<=c->a c=0)
 (k:new.length=x.len*f.length)(B:jt m x.bq x.off new)(j:(s.len+x.len)*u<=140737488355328)
 (q:∀g h d,iJ g d e f.length l h (n++new)->dZ (λy=>y=l) a m g d->K h d):lS m e f u s x K:=by
 have G:=i.le
 refine⟨new,k,B,λD=>?_,λF=>⟨j,n,i.aS,i.kV,λh v=>?_⟩⟩
 .rcases i.D with C|⟨c,h,tail,h1,h2,h3,h4⟩
  .have w:x.len=0:=V
   have A:new=[]:=cr.1 (by rw[k,w];simp)
   subst A
   refine⟨λy z=>by simp at z,?_⟩
   have p:=q a s _ (by rw[fH];exact i) (dZ.cZ _ t)
   cases s with
   |nil=>exact p
   |Dx c o sp=>exact p
   |mk c o H h=>simp only[w,uq];exact p
  .have w:=i.aS
   have A:s.cap=h:=by rw[h1];rfl
   rw[h1]
   simp only[N.mP,N.Bo,N.lJ,fB]
   simp only[dj]at h4
   have z:new.length<=tail.length:=by
    have y:(s.len+x.len)*f.length<=h*f.length:=fg _ V;rw[nl]at y;omega
   refine⟨h3.iQ (by simp only[dj];omega),?_⟩
   have p:=dJ.aV (m:=m) (b:=c) (e:=e) (r:=new) (o:=s.len*f.length) h3
   rw[<-w,Bv n new tail z]at p
   refine q a _ _ ⟨?_,?_,bG ⟨c,h,tail.drop new.length,rfl,h2,?_,?_⟩⟩ (dZ.aV t h2 _ _)
   .simp only[dj,N.lJ,nl];omega
   .simp only[N.lJ,N.Sc];omega
   .rw[<-w];exact p
   .simp only[dj,List.length_drop];omega
 .refine q (λc=>if c=m.size then l else a c) _ _ ⟨?_,?_,bG ⟨m.size,h,ng f (h -(s.len+x.len)),rfl,bO,dJ.push _ _ _,?_⟩⟩ ⟨bO,λc j=>aU V,λc j=>?_,λc j _=>by rw[uR,aU V]⟩
  .simp only[dj,N.lJ,nl,i.aS,k]
  .simpa using v
  .simp only[dj,vC,i.aS,k]
   rw[Nat.sub_mul,<-nl]
   have:(s.len+x.len)*f.length<=h*f.length:=fg _ v
   omega
  .simp at j;rw[aU V];exact t c V
def iJ.jM{a:ag}{j m:E}{e f k:Nat}{s:N}{l:ae}(h:jo j m e f s l)(g:s≠.nil->a s.bq=k):iJ a m e f k s l:=by
 refine⟨h.aS,?_,?_⟩
 .rcases h.D with b|⟨c,d,tail,b,h2,h3,h4,h5⟩
  .rw[b];exact bW
  .rw[b];exact h5
 .rcases h.D with b|⟨c,d,tail,b,h2,h3,h4,h5⟩
  .rw[b];exact bu rfl
  .refine bG ⟨c,d,tail,b,?_,h3,h4⟩;have:=g cG;rw[b]at this;exact this
def iJ.nL{a:ag}{m:E}{k:Nat}{s:N}{l:ab}(h:iJ a m bE 1 k s (l.map Ce.i))(g:l.length<=9223372036854775807):bd m s l:=by
 have e:s.len=l.length:=by have:=h.aS;simp at this;omega
 refine⟨e,h.le,V,λj x d=>⟨[.i x],rfl,λi f b=>?_⟩⟩;have c:i=0:=by have:=bA b;simp at this;omega
 subst c;simp at b;subst b;have:=h.kV j (.i x) (by simp[d]);simpa using this
theorem Kl(l:ab)(i:Nat)(v:Int):jh (l.map Ce.i) i [.i v]=(l.set i v).map Ce.i:=by simp[jh,xZ]
theorem iJ.gT{a:ag}{m:E}{k:Nat}{s:N}{l:ab}(h:iJ a m bE 1 k s (l.map Ce.i))(b:0<=i)(c:i<l.length)(v:Int):iJ a (aV m s.bq (s.off+i.toNat*1) [.i v]) bE 1 k s ((Go.Proofs.YtbbbdejieenniaaGreat.gT l i v).map Ce.i):=by
 have:=h.eB (o:=i.toNat) (new:=[.i v]) cG;rw[Kl]at this;rw[H4];exact this
theorem iJ.Tp{a:ag}{m:E}{k:Nat}{s:N}{l:ab}(h:iJ a m bE 1 k s (l.map Ce.i))(b:0<=i)(c:i<l.length):iQ m s.bq (s.off+i.toNat*1) 1:=by
 rw[H4];exact h.wr cG
def FB(m:E)(f:N)(l:ab):Prop:=∃c tail,f=.mk f.bq 0 f.len c/\dJ m f.bq bE (l.map Ce.i++tail)
def FN(b:Nat)(a:ag)(m:E)(f:N)(l:ab):Prop:=l≠[]->a f.bq=0/\b<=f.bq/\FB m f l
def MM(N:Nat)(a:ag)(m:E)(b:ae)(c:dD):Prop:=∃f,b=[.i c.ct,.i c.jJ,.s f]/\bd m f c.bU/\FN N a m f c.bU
def Sep(e:List ae):Prop:=∀(i j:Nat)(c d:ae)(a b:N),e[i]? =some c->e[j]? =some d->c[2]? =some (.s a)->d[2]? =some (.s b)->i≠j->a.len≠0->b.len≠0->a.bq≠b.bq
def Sep.gD:Sep []:=λi j c d a b h=>by simp at h
def gF(c:Nat)(a:ag)(m:E)(h:N)(d:ah):Prop:=∃b,iJ a m Cf 3 3 h b.flatten/\fK 3 (MM c a m) b d/\Sep b
def YB(a:ag)(m:E)(i:Nat)(b:ae)(f:bS):Prop:=
 ∃r o h,b=[.i f.fY,.i f.pc,.i f.br,.s r,.s o,.s h]/\iJ a m bE 1 (10+3*i) r (f.aT.map Ce.i)/\iJ a m bE 1 (11+3*i) o (f.bF.map Ce.i)/\iJ a m bE 1 (12+3*i) h (f.cQ.map Ce.i)
@[grind cases] structure acv (ro:ag) (m:E) (fr:N) (fs:ak) (css:List ae):Prop where
 rE:iJ ro m iz 6 4 fr css.flatten
 aS:css.length=fs.length
 aP:∀cs∈css,cs.length=6
 eN:∀(i:Nat)(cs:ae)(f:bS),css[i]? =some cs->fs[i]? =some f->YB ro m i cs f
def sk(a:ag)(m:E)(q:N)(c:ak):Prop:=∃b,acv a m q c b
theorem jV{m d:E}{l:ab}(h:bd m f l)(j:l≠[]->d[f.bq]? =m[f.bq]?):bd d f l:=by
 by_cases a:l=[]
 .subst a;exact⟨h.aS,h.lZ,h.kA,bO⟩
 .exact⟨h.aS,h.lZ,h.kA,λo x n=>let⟨b,e,g⟩:=h.kV o x n;⟨b,e,λi c k=>by rw[bB (j a)];exact g i c k⟩⟩
theorem lG{m:E}{l:ab}(h:bd m f l)(a:l≠[]):f.bq<m.size:=by
 cases l with
 |nil=>exact absurd rfl a
 |cons b l=>exact qv (h.D (k:=0) (x:=b) rfl)
def MM.gX{N:Nat}{a g:ag}{m d:E}(e:dZ p a m g d)(o:¬p 0)(i:ae)(h:dD):MM N a m i h->MM N g d i h:=λ⟨f,q,c,k⟩=>
 ⟨f,q,jV c λb=>e.fL _ (lG c b) (by rw[(k b).1];exact o),λb=>by
  let⟨g1,g2,l,tail,n,j⟩:=k b;exact⟨by rw[e.j8 _ (lG c b)];exact g1,g2,l,tail,n,j.congr (e.fL _ j.lt cG)⟩⟩
theorem gF.gX{b:Nat}{p:Nat->Prop}{a g:ag}{m d:E}{h:N}{c:ah}(o:gF b a m h c)(e:dZ p a m g d)(i:¬p 0)(l:¬p 3):gF b g d h c:=by
 let⟨f,j,k,n⟩:=o;exact⟨f,j.gX e l,k.aO (MM.gX e i),n⟩
theorem YB.gX{p:Nat->Prop}{a g:ag}{m d:E}(b:dZ p a m g d){i:Nat}(h:∀k,10+3*i<=k->k<=12+3*i->¬p k){c:ae}{f:bS}:YB a m i c f->YB g d i c f:=λ⟨r,o,e,j,k,l,n⟩=>
 ⟨r,o,e,j,k.gX b (h _ V V),l.gX b (h _ V V),n.gX b (h _ V V)⟩
def sk.gX{p:Nat->Prop}{a g:ag}{m d:E}{q:N}{c:ak}(r:sk a m q c)(e:dZ p a m g d)(h:∀k,(k=4\/10<=k)->¬p k):sk g d q c:=by
 let⟨l,b⟩:=r;exact⟨l,b.rE.gX e (h 4 V),b.aS,b.aP,λi j f n o=>(b.eN i j f n o).gX e λk s _=>h k V⟩
@[grind cases] structure zP (m0:E) (ro:ag) (m:E) (mb e:Nat) (bx:ae) (cC hp fr:N) (lo:ab) (lh:ah) (lf:ak):Prop where
 da:J m0 m
 ni:∀b,b<m0.size->ro b=0
 bI:∀b,m.size<=b->ro b=0
 bT:dJ m mb e bx
 Yp:ro mb=1
 cC:iJ ro m bE 1 2 cC (lo.map Ce.i)
 aQ:gF m0.size ro m hp lh
 bn:sk ro m fr lf
variable{j:E}{a g:ag}{m d:E}{t e:Nat}{u:ae}{cC h q:N}{y:ab}{w:ah}{v:ak}
def zP.ext(L:zP j a m t e u cC h q y w v)(c:J m d):zP j a d t e u cC h q y w v/\To a m a d:=by
 have b:∀p,dZ p a m a d:=λp=>dZ.fV (p:=p) c L.bI;exact⟨⟨L.da.O c,L.ni,(b (λ_=>False)).bI,L.bT.ext c,L.Yp,L.cC.gX (b (λ_=>False)) id,L.aQ.gX (b (λ_=>False)) id id,L.bn.gX (b (λ_=>False)) λ_ _=>id⟩,b _⟩
def zP.lL(L:zP j a m t e u cC h q y w v)(i:Nat)(b:ae):zP j a (aV m t i b) t e (jh u i b) cC h q y w v/\To a m a (aV m t i b):=by
 have c:dZ (λk=>k=1) a m a (aV m t i b):=dZ.aV L.bI L.Yp _ _;have d:To a m a (aV m t i b):=by grind [dZ.aO]
 let⟨b1,b2⟩:=d.da L.da L.ni;exact⟨⟨b1,b2,c.bI,dJ.aV (m:=m) L.bT,L.Yp,L.cC.gX c cH,L.aQ.gX c cH cH,L.bn.gX c λk f=>V⟩,d⟩
def zP.pE(L:zP j a m t e u cC h q y w v){i:Nat}(b:i+n<=u.length):iQ m t i n:=L.bT.iQ b
def zP.jK(L:zP j a m t e u cC h q y w v)(b:dZ (λk=>k=3\/k=5\/k=6) a m g d){c:N}{i:ah}(l:gF j.size g d c i):zP j g d t e u cC c q y i v/\To a m g d:=by
 have f:To a m g d:=b.aO λk n=>V;let⟨b1,b2⟩:=f.da L.da L.ni;exact⟨⟨b1,b2,b.bI,L.bT.congr (b.fL _ L.bT.lt cG),by rw[b.j8 _ L.bT.lt];exact L.Yp,L.cC.gX b cH,l,L.bn.gX b λk n=>V⟩,f⟩
def zP.P6(L:zP j a m t e u cC h q y w v)(b:dZ (λk=>k=2) a m g d){i:N}{f:ab}(l:iJ g d bE 1 2 i (f.map Ce.i)):zP j g d t e u i h q f w v/\To a m g d:=by
 have c:To a m g d:=by grind [dZ.aO]
 let⟨b1,b2⟩:=c.da L.da L.ni;exact⟨⟨b1,b2,b.bI,L.bT.congr (b.fL _ L.bT.lt cG),by rw[b.j8 _ L.bT.lt];exact L.Yp,l,L.aQ.gX b cH cH,L.bn.gX b λk n=>V⟩,c⟩
def zP.mw(L:zP j a m t e u cC h q y w v)(b:dZ (λk=>4<=k/\k≠9) a m g d){c:N}{i:ak}(k:sk g d c i):zP j g d t e u cC h c y w i/\To a m g d:=by
 have f:To a m g d:=by grind [dZ.aO]
 let⟨b1,b2⟩:=f.da L.da L.ni;exact⟨⟨b1,b2,b.bI,L.bT.congr (b.fL _ L.bT.lt cG),by rw[b.j8 _ L.bT.lt];exact L.Yp,L.cC.gX b cH,L.aQ.gX b cH cH,k⟩,f⟩
end
section
variable{k:Nat}
def up{α:Type}(f:Nat->α)(k:Nat)(x:α):Nat->α:=λj=>if j=k then x else f j
@[simp] theorem OA {α:Type} (f:Nat->α) (k:Nat) (x:α):up f k x k=x:=ba rfl
theorem Xx{α:Type}{f:Nat->α}{x:α}{j:Nat}(h:j≠k):up f k x j=f j:=aU h
def Uy(a:Nat->N):ae:=[.s (a 0),.s (a 1),.s (a 2),.s (a 3),.s (a 4),.s (a 5),.s (a 6)]
def Yt(a:Nat->N)(b:k<7):(Uy a)[k]? =some (.s (a k)):=by
 rcases k with _|_|_|_|_|_|_|k<;>first|rfl|omega
def RQ(a:Nat->N)(b:k<7)(r:N):jh (Uy a) k [.s r]=Uy (up a k r):=by
 rcases k with _|_|_|_|_|_|_|k<;>first|rfl|omega
@[grind cases] structure jR (ro:ag) (m:E) (lb:Nat) (sl:Nat->N) (L:Nat->ab):Prop where
 bI:∀b,m.size<=b->ro b=0
 j8:ro lb=8
 bT:dJ m lb FH (Uy sl)
 rE:∀k,k<7->iJ ro m bE 1 (k+1) (sl k) ((L k).map Ce.i)
section
variable{d h:ag}{a f:E}{c:Nat}{b:Nat->N}{L:Nat->ab}
def jR.dz(h:jR d a c b L){k:Nat}(e:k<7):aR a c k=some (N.v (b k)):=by
 rw[h.bT.dz,Yt b e];rfl
def jR.nL(h:jR d a c b L){k:Nat}(e:k<7)(f:(L k).length<=10^12):bd a (b k) (L k):=(h.rE k e).nL V
def jR.aS(h:jR d a c b L){k:Nat}(e:k<7):(b k).len=(L k).length:=by grind [jR.rE,iJ.aS]
def jR.to(h:jR d a c b L):To d a d a:=dZ.cZ _ h.bI
def jR.ext(h:jR d a c b L)(e:J a f):jR d f c b L:=
 by constructor<;>grind [jR.bI,J.aP,jR.j8,jR.bT,dJ.congr,J.bC,dJ.lt,jR.rE,iJ.fL,iJ.bq]
def jR.nA(p:jR d a c b L)(s:k<7)(C:(L k).length<=10^12)(j:Int){K:N->E->Prop}
 (B:∀h r f,To d a h (aV f c k [.s r])->jR h (aV f c k [.s r]) c (up b k r) (up L k (L k++[j]))->K r f):
 lS (a.push (.cells (de [.i j]) bE)) bE [.i 0] 8 (b k) (.mk a.size 0 1 1) λr f=>iQ f c k 1/\K r f:=by
 have z:=J.push a (.cells (de [.i j]) bE)
 have g:=p.ext z
 have D:=p.aS s
 refine iJ.fy (f:=[.i 0]) (new:=[.i j]) (g.rE k s) g.bI bO ((dJ.push a (e:=bE) (l:=[.i j])).kV) (by simp only[N.lJ];omega) λh r f v n=>?_
 have x:dJ f c FH (Uy b):=g.bT.congr (n.fL c g.bT.lt (by simp only[g.j8];omega))
 have o:h c=8:=by rw[n.j8 c g.bT.lt,g.j8]
 have A:To d a h f:=(dZ.fV z p.bI).O (n.aO λt y=>V)
 have u:To d a h (aV f c k [.s r]):=A.O (dZ.aV n.bI (by simp only[o];omega) _ _)
 refine⟨x.iQ (by show k+1<=7;omega),B h r f u ⟨u.bI,o,RQ b s r▸dJ.aV (m:=f) x,λt y=>?_⟩⟩
 by_cases i:t=k
 .subst i
  rw[OA,OA,kE]
  refine v.fL (λq=>cg _ _ _ _ λi=>?_) λ_=>rfl
  have:=(v.bq q).2
  rw[i,o]at this;omega
 .rw[Xx i,Xx i]
  have w:=(g.rE t y).gX n V
  refine w.fL (λq=>cg _ _ _ _ λi=>?_) λ_=>rfl
  have:=(w.bq q).2
  rw[i,o]at this;omega
def jR.cB(h:jR d a c b L){i:Nat}(l:k<7)(q:i<(L k).length)(x:Int):
 iQ a (b k).bq ((b k).off+i*1) 1/\jR d (aV a (b k).bq ((b k).off+i*1) [.i x]) c b (up L k ((L k).set i x))/\To d a d (aV a (b k).bq ((b k).off+i*1) [.i x]):=by
 have g:=h.rE k l
 have s:(L k).map Ce.i≠[]:=cG
 have j:(b k).cap≠0:=by grind [iJ.zV]
 let⟨p,m⟩:=g.bq j
 have f:To d a d (aV a (b k).bq ((b k).off+i*1) [.i x]):=by grind [dZ.aV,jR.bI]
 refine⟨g.wr cG,⟨f.bI,h.j8,h.bT.congr (cg _ _ _ _ λe=>by have:=h.j8;rw[e,m]at this;omega),λn r=>?_⟩,f⟩
 by_cases e:n=k
 .subst e
  rw[OA]
  have:=g.eB (o:=i*1) (new:=[.i x]) cG
  grind [Kl]
 .grind [Xx,jR.rE,iJ.fL,cg,iJ.bq]
theorem jR.acX(h:jR d a c b L)(f:k<7){r:N}{l:ab}(g:iJ d a bE 1 (k+1) r (l.map Ce.i)):
 iQ a c k 1/\jR d (aV a c k [.s r]) c (up b k r) (up L k l)/\To d a d (aV a c k [.s r]):=by
 have e:To d a d (aV a c k [.s r]):=by grind [dZ.aV,jR.bI,jR.j8]
 refine⟨h.bT.iQ (by show k+1<=7;omega),⟨e.bI,h.j8,RQ b f r▸dJ.aV (m:=a) h.bT,λn j=>?_⟩,e⟩
 have K:∀{i s l},iJ d a bE 1 (i+1) s l->i<7->iJ d (aV a c k [.s r]) bE 1 (i+1) s l:=λ{i s l} g' hk'=>by
  grind [iJ.fL,cg,iJ.bq,jR.j8]
 grind [OA,Xx,jR.rE]
def jR.rc(h:jR d a c b L){k n:Nat}(e:k<7)(l:n<=(L k).length):
 n<=(b k).cap/\iQ a c k 1/\jR d (aV a c k [.s ((b k).cut 0 n 1)]) c (up b k ((b k).cut 0 n 1)) (up L k ((L k).take n))/\To d a d (aV a c k [.s ((b k).cut 0 n 1)]):=by
 have g:=h.rE k e
 have i:=h.aS e
 have j:=g.le
 have f:=g.rc (n:=n) V
 grind [List.map_take,jR.acX]
end
@[grind cases] structure lP (ds:af) (n b:Nat) (L:Nat->ab):Prop where
 aS:∀k,k<6->(L k).length=n
 YE:∀(v:Nat)(p:Int),(L 2)[v]? =some p->p<v
 lx:∀(v:Nat)(c f:Int),(L 3)[v]? =some c->(L 4)[v]? =some f->0<=c->0<=f/\f+((cW ds c).length:Int)<=b
 cR:(L 6).length<=10^12
abbrev wB(a:af)(n:Nat)(L:Nat->ab):Prop:=lP a n n L
def Ph(L:Nat->ab)(t o p:Int):Nat->ab:=up (up (up (up (up (up L 0 (L 0++[t])) 1 (L 1++[o])) 2 (L 2++[p])) 3 (L 3++[-1])) 4 (L 4++[-1])) 5 (L 5++[-1])
def ER{j:ag}{m:E}{b:Nat}{x:Nat->N}{L:Nat->ab}(h:jR j m b x L)(a:∀k,k<6->(L k).length<=10^12)(t o p:Int):
 bJ dN 271 [vp b 0,vi t,vi o,vi p] m λ_ i=>∃l y,To j m l i/\jR l i b y (Ph L t o p):=by
 apply BK (b,0)
 simp -zeta only[fB]
 refine⟨_,h.dz (k:=0) cH,?_⟩
 intro z
 refine h.nA (k:=0) cH (a 0 cH) t λO U G n c=>⟨_,c.dz (k:=1) cH,?_⟩
 intro A
 refine c.nA (k:=1) cH (a 1 cH) o λP V H q d=>⟨_,d.dz (k:=2) cH,?_⟩
 intro B
 refine d.nA (k:=2) cH (a 2 cH) p λQ W I r e=>⟨_,e.dz (k:=3) cH,?_⟩
 intro C
 refine e.nA (k:=3) cH (a 3 cH) (-1) λR X J s f=>⟨_,f.dz (k:=4) cH,?_⟩
 intro D
 refine f.nA (k:=4) cH (a 4 cH) (-1) λS Y K u g=>⟨_,g.dz (k:=5) cH,?_⟩
 intro F
 exact g.nA (k:=5) cH (a 5 cH) (-1) λT Z M v w=>⟨_,_,((((n.O q).O r).O s).O u).O v,w⟩
end
section
variable{l:ab}{j:ag}{g:E}{P:(Nat->ab)->Prop}{b:Nat}{v:Int}
def GI.cC{S:ad}{h m:E}{s:N}(j:GI S h m s l):jo h m bE 1 s (l.map Ce.i):=by
 let⟨p,b,k,a⟩:=j;have t:b.flatten.length=l.length:=by rw[eE a.aP,a.aS];omega
 have n:b.flatten=l.map Ce.i:=by
  apply ee;intro d;rcases eJ d l.length with g|g
  .let⟨x,o⟩:=jk g;let⟨e,f⟩:=dY b d cG;have q:e=[.i x]:=a.eN d e x f o;have r:=jY (e:=1) a.aP f (i:=0) (c:=.i x) cG;grind
  .grind [List.getElem?_eq_none]
 rw[<-n];exact k
def Gj(e:ag)(m:E)(d:Nat)(P:(Nat->ab)->Prop)(v:Value)(g:E):Prop:=∃(b:Bool)(j:ag),v=vb b/\To e m j g/\(b=true->∃c a,jR j g d c a/\P a)
def Gj.no{e:ag}{m:E}{d:Nat}(h:To e m j g):Gj e m d P (vb false) g:=⟨false,j,rfl,h,bO⟩
def Gj.Tv{e:ag}{m:E}{d:Nat}{h:Nat->N}{L:Nat->ab}(a:To e m j g)(b:jR j g d h L)(c:P L):Gj e m d P (vb true) g:=⟨true,j,rfl,a,λ_=>⟨h,L,b,c⟩⟩
def Gj.aO{e:ag}{m:E}{d:Nat}{Q:(Nat->ab)->Prop}{v:Value}(a:Gj e m d P v g)(o:∀L,P L->Q L):Gj e m d Q v g:=let⟨b,j,c,f,i⟩:=a;⟨b,j,c,f,λn=>let⟨h,L,k,l⟩:=i n;⟨h,L,k,o L l⟩⟩
theorem lP.bF{f:af}{a:Nat}{L:Nat->ab}(h:lP f a b L)(c:l.length=a):lP f a b (up L 1 l):=
 by constructor<;>grind [up,lP.aS,lP.YE,lP.lx,lP.cR]
def lP.tok{f:af}{a:Nat}{L:Nat->ab}(h:lP f a b L)(c:l.length=a):lP f a b (up L 5 l):=
 by constructor<;>grind [up,lP.aS,lP.YE,lP.lx,lP.cR]
def Pf{a x:Int}{v:Nat}(h:(l++[a])[v]? =some x):l[v]? =some x\/v=l.length/\x=a:=by
 grind [Nat.lt_or_ge,List.length,List.getElem?_append_left,List.getElem?_append_right,bA]
def lP.HW{f:af}{a c:Nat}{L:Nat->ab}(h:lP f a b L)(d:b<=c):lP f a c L:=
 by constructor<;>grind [lP.aS,lP.YE,lP.lx,lP.cR]
def lP.VT{f:af}{a:Nat}{L:Nat->ab}(h:lP f a b L)(t r:Int){p:Int}(w:p<a):lP f (a+1) b (Ph L t r p):=by
 have g:=h.aS;refine⟨λk u=>?_,λv q o=>?_,λv d e j m s=>?_,by simpa[Ph,up]using h.cR⟩
 .rcases k with _|_|_|_|_|_|k<;>first|omega|(simp[Ph,up,g])
 .have i:(L 2++[p])[v]? =some q:=by simpa[Ph,up]using o
  rcases Pf i with c|⟨rfl,rfl⟩
  .exact h.YE v q c
  grind
 .have l:(L 3++[-1])[v]? =some d:=by simpa[Ph,up]using j
  have n:(L 4++[-1])[v]? =some e:=by simpa[Ph,up]using m
  rcases Pf l with c|⟨rfl,rfl⟩
  .rcases Pf n with i|⟨i,rfl⟩
   .grind [lP.lx]
   grind [bA]
  .omega
variable{e:ag}{m:E}{d:Nat}{h:Nat->N}{L:Nat->ab}{f:af}{a:Nat}
theorem jR.D(a:jR e m d h L){k:Nat}(c:k<7)(f:(L k).length<=10^12){i:Nat}{x:Int}(b:(L k)[i]? =some x):aR m (h k).bq ((h k).off+i*1)=some (vi x):=(a.nL c f).D b
def yX(b:jR e m d h L)(q:wB f a L)(u:a<=10^12)(c:0<=v)(s:v<a):bJ dN 272 [vp d 0,vi v] m (Gj e m d λg=>∃l:ab,l.length=a/\g=up L 1 l):=by
 apply BO (d,0);simp -zeta only[fB];have o:=q.aS 1 cH;have t:=b.aS (k:=1) cH;let⟨x,r⟩:=dY (L 1) v.toNat;have j:=b.D cH V r;have g:=b.dz (k:=1) cH;let⟨w,p,n⟩:=b.cB (k:=1) (i:=v.toNat) cH V (eR (x -1));exact⟨_,g,c,V,x,j,λ_=>.no b.to,λ_=>⟨_,g,_,g,c,V,x,j,c,V,w,.Tv n p ⟨_,by simp[o],rfl⟩⟩⟩
def wM(q:jR e m d h L)(j:wB f a L)(t:a<=10^12)(i:0<=v)(o:v<a):sU 226 [vp d 0,vi v] m:=by
 apply AB (d,0);refine⟨λv g=>0<=v/\v<(a:Int)/\J m g,λv _=>v.toNat,⟨i,o,di⟩,?_⟩;rintro v A ⟨i,o,c⟩;have H:=q.ext c;have w:=H.aS (k:=1) cH;have z:=H.aS (k:=2) cH;have C:=j.aS 1 cH;have D:=j.aS 2 cH;let⟨x,s⟩:=dY (L 1) v.toNat;let⟨y,p⟩:=dY (L 2) v.toNat;have u:=j.YE _ _ p;refine⟨_,H.dz (k:=1) cH,i,V,x,H.D cH V s,λ_=>⟨_,H.dz (k:=6) cH,?_⟩,λ_=>rA c⟩;refine(fF (H.nL (k:=6) cH j.cR) v).bZ λb B _ l=>⟨_,rfl,λ_=>?_,λ_=>rA (c.O l)⟩;have n:=H.ext l;refine⟨_,n.dz (k:=2) cH,i,V,y,n.D cH V p,λ_=>rA (c.O l),λr=>?_⟩;simp only[dF]at r;exact⟨⟨V,V,c.O l⟩,by show y.toNat<v.toNat;omega⟩
def Qe(i:jR e m d h L)(u:wB f a L)(R:a<=10^12){b:Nat}(H:b<=a):bJ dN 345 [vp d 0,vi b] m (Gj e m d λc=>(∀j,j<6->(c j).length=b)/\(c 6).length<=10^12):=by
 apply De (d,0);simp -zeta only[fB];refine⟨λv g=>(b:Int)<=v/\v<=a/\g=m,λv _=>((a:Int) -v).toNat,⟨V,V,rfl⟩,?_⟩;rintro v W ⟨P,p,rfl⟩;have o:=λj(G:j<6)=>i.aS (k:=j) V;have c:=u.aS;have S:=o 0 cH;have T:=o 1 cH;have U:=o 5 cH;have n0:=c 0 cH;have n1:=c 1 cH;have n5:=c 5 cH;refine⟨_,i.dz (k:=0) cH,λw=>?_,λw=>?_⟩
 .simp only[bh]at w;let⟨x,q⟩:=dY (L 1) v.toNat;let⟨y,r⟩:=dY (L 5) v.toNat;refine⟨_,i.dz (k:=1) cH,V,V,x,i.D cH V q,λ_=>.no i.to,λ_=>⟨_,i.dz (k:=5) cH,V,V,y,i.D cH V r,λ_=>.no i.to,λ_=>?_⟩⟩;rw[iC];exact⟨⟨V,V,rfl⟩,by show((a:Int) -(v+1)).toNat<((a:Int) -v).toNat;omega⟩
 .have tk:∀{l:ab},l.length=a->(l.take b).length=b:=λQ=>fj;have D:Int.toNat (0:Int)=0:=rfl;have E:Int.toNat (b:Int)=b:=V;rw[D,E];let⟨p1,I,p,x⟩:=i.rc (k:=0) (n:=b) cH (by rw[c 0 cH];exact H);refine⟨_,i.dz (k:=0) cH,V,V,V,I,?_⟩;intro X;let⟨p2,J,q,y⟩:=p.rc (k:=1) (n:=b) cH (by simp[up,c];omega);refine⟨_,p.dz (k:=1) cH,V,V,V,J,?_⟩;intro Y;let⟨p3,K,r,z⟩:=q.rc (k:=2) (n:=b) cH (by simp[up,c];omega);refine⟨_,q.dz (k:=2) cH,V,V,V,K,?_⟩;intro Z;let⟨p4,M,s,A⟩:=r.rc (k:=3) (n:=b) cH (by simp[up,c];omega);refine⟨_,r.dz (k:=3) cH,V,V,V,M,?_⟩;intro m5;let⟨p5,N,t,B⟩:=s.rc (k:=4) (n:=b) cH (by simp[up,c];omega);refine⟨_,s.dz (k:=4) cH,V,V,V,N,?_⟩;intro m6;let⟨p6,O,F,C⟩:=t.rc (k:=5) (n:=b) cH (by simp[up,c];omega);refine⟨_,t.dz (k:=5) cH,V,V,V,O,?_⟩;intro m7;refine Gj.Tv (((((x.O y).O z).O A).O B).O C) F ⟨λj G=>?_,?_⟩
  .rcases j with _|_|_|_|_|_|j<;>first|omega|(simp[up,c];omega)
  .simpa[up]using u.cR
end
section
variable{a:ag}{m d c:E}{X:ad}
def adf(m:E)(P:(Nat->ab)->Prop)(v:Value)(c:E):Prop:=∃d,v=vp d 0/\J m c/\∃a e L,(∀b,b<m.size->a b=0)/\jR a c d e L/\P L
def Q9{t:Nat}{sl:Nat->N}{L:Nat->ab}(h:jR a m t sl L)(S:∀b,b<7->(L b).length<=10^12):
 bJ dN 332 [vp t 0] m (adf m λc=>∀b,b<7->c b=L b):=by
 apply zE (t,0)
 simp -zeta only[fB]
 refine⟨_,h.dz (k:=0) cH,_,h.dz (k:=1) cH,_,h.dz (k:=2) cH,_,h.dz (k:=3) cH,_,h.dz (k:=4) cH,_,h.dz (k:=5) cH,_,h.dz (k:=6) cH,?_⟩
 have C:∀{M:E}(b:Nat),b<7->J m M->od 55 [N.v (sl b)] M [] (L b=·):=λb w x=>dA [] ((h.ext x).nL w (S b w)) (S b w)
 have c:∀{M H:E},J m M->J M H->∀y,aR H t y=aR M t y:=λx x' y=>bB (x'.bC t (x.lt h.bT.lt)) y
 have r:=J.cZ m
 refine(C 0 cH r).bZ λU _ m1 I e d=>⟨_,rfl,c r d _,c r d _,c r d _,c r d _,c r d _,c r d _,?_⟩
 subst e
 refine(C 1 cH d).bZ λW _ m2 g1 e i=>⟨_,rfl,c d i _,c d i _,c d i _,c d i _,c d i _,?_⟩
 subst e
 have u:=d.O i
 refine(C 2 cH u).bZ λX _ m3 g2 e j=>⟨_,rfl,c u j _,c u j _,c u j _,c u j _,?_⟩
 subst e
 have v:=u.O j
 refine(C 3 cH v).bZ λY _ m4 K e l=>⟨_,rfl,c v l _,c v l _,c v l _,?_⟩
 subst e
 have z:=v.O l
 refine(C 4 cH z).bZ λZ _ m5 O e n=>⟨_,rfl,c z n _,c z n _,?_⟩
 subst e
 have G:=z.O n
 refine(C 5 cH G).bZ λs5 _ m6 P e o=>⟨_,rfl,c G o _,?_⟩
 subst e
 have u6:=G.O o
 refine(C 6 cH u6).bZ λs6 _ B Q e p=>⟨_,rfl,?_⟩
 subst e
 intro D
 obtain⟨q,s8⟩:=pu D
 have z1:=d.aP;have z2:=i.aP;have z3:=j.aP;have z4:=l.aP;have z5:=n.aP;have z6:=o.aP;have z7:=p.aP
 have y0:=I.cD;have y1:=g1.cD;have y2:=g2.cD;have y3:=K.cD;have y4:=O.cD;have y5:=P.cD;have y6:=Q.cD
 let f:Nat->Nat:=λg=>if g<m.size then 0 else if g<m1.size then 1 else if g<m2.size then 2 else if g<m3.size then 3 else if g<m4.size then 4 else if g<m5.size then 5 else if g<m6.size then 6 else if g<B.size then 7 else if g=B.size then 8 else 0
 let ac:Nat->N:=λb=>if b=0 then U else if b=1 then W else if b=2 then X else if b=3 then Y else if b=4 then Z else if b=5 then s5 else s6
 have A:∀{m0 M:E}{F:N}{T:ab}{b:Nat},GI [] m0 M F T->J M D->f F.bq=b->iJ f D bE 1 b F (T.map Ce.i):=λaa x hr=>iJ.jM (aa.cC.ext x) λ_=>hr
 refine⟨B.size,rfl,u6.O (p.O q),f,ac,L,λg R=>ba R,⟨λg R=>?_,?_,dJ.push _ _ _,λb w=>?_⟩,λ_ _=>rfl⟩
 .simp only[f]
  repeat rw[aU V]
 .simp only[f]
  repeat rw[aU V]
  simp
 .rcases b with _|_|_|_|_|_|_|b
  .exact A (F:=U) (b:=1) I (i.O (j.O (l.O (n.O (o.O (p.O q)))))) (by simp only[f];rw[aU V,ba V])
  .exact A (F:=W) (b:=2) g1 (j.O (l.O (n.O (o.O (p.O q))))) (by simp only[f];rw[aU V,aU V,ba V])
  .exact A (F:=X) (b:=3) g2 (l.O (n.O (o.O (p.O q)))) (by simp only[f];rw[aU V,aU V,aU V,ba V])
  .exact A (F:=Y) (b:=4) K (n.O (o.O (p.O q))) (by simp only[f];simp(disch:=omega) only[aU,ba])
  .exact A (F:=Z) (b:=5) O (o.O (p.O q)) (by simp only[f];simp(disch:=omega) only[aU,ba])
  .exact A (F:=s5) (b:=6) P (p.O q) (by simp only[f];simp(disch:=omega) only[aU,ba])
  .exact A (F:=s6) (b:=7) Q q (by simp only[f];simp(disch:=omega) only[aU,ba])
  .omega
@[grind cases] structure Gi (mb:E) (X:ad) (ro:ag) (m:E):Prop where
 ext:J mb m
 jW:∀b,b<mb.size->ro b=0
 bT:∀b∈X,b<m.size/\ro b=0
def Gi.to{b:ag}(h:Gi d X a m)(e:To a m b c):Gi d X b c:=by
 constructor<;>grind [dZ.da,Gi.ext,Gi.jW,Gi.bT,dZ.aP,dZ.j8]
def Gi.fq{d m c:E}{X:ad}{a e:ag}(h:Gi d X a m)(b:To a m e c):gL X m c:=b.fq h.bT
def Gi.og(h:Gi d X a m)(x:J m c):Gi d X a c:=by constructor<;>grind [Gi.ext,J.O,Gi.jW,J.lt,Gi.bT]
def Mj{p K aa:N}{q:jS}(s:bd m p q.aX)(F:bd m K q.cR)(ae:q.aX.length<=3)(ad:q.cR.length<=3)(w:af):
 bJ dN 249 [.agg #[p.v,K.v,vi q.bL,aa.v,vi q.eV.bL]] m (adf m (wB w q.aX.length)):=by
 apply E8
 simp -zeta only[dU]
 intro e
 obtain⟨u,s1⟩:=pu e
 have W:∀b∈[m.size],b<e.size:=by simp[e]
 clear_value e
 refine(dA [] (F.ext u) V).bK (J.cZ e) W λs6 _ l D o O _=>⟨_,rfl,?_⟩
 subst o
 intro I
 obtain⟨P,s3⟩:=pu I
 have z2:=O.aP
 have y6:=D.cD
 let g:Nat->Nat:=λb=>if b<e.size then 0 else if b<l.size then 7 else if b=l.size then 8 else 0
 let d:Nat->ab:=λk=>if k<6 then[]else q.cR
 let r:Nat->N:=λk=>if k<6 then .nil else s6
 have R:jR g I l.size r d:=by
  refine⟨λb j=>?_,?_,dJ.push _ _ _,λk B=>?_⟩
  .simp only[g];repeat rw[aU V]
  .simp only[g];repeat rw[aU V]
   simp
  .by_cases f:k<6
   .simp only[r,d,ba f];exact⟨bO,bO,bu rfl⟩
   .have o:k=6:=V;subst o;simp only[r,d,aU f];refine iJ.jM (D.cC.ext P) λ_=>?_;simp only[g];rw[aU V,ba V]
 have T:wB w 0 d:=by
  refine⟨λk B=>by simp only[d,ba B];rfl,λv p s=>by simp[d]at s,λv i f z=>by simp[d]at z,by simp[d];omega⟩
 have jW:∀b,b<e.size->g b=0:=λb j=>ba j
 clear_value g d r
 have ag:=s.aS
 refine ik (n:=q.aX.length) V (λk M=>∃a C L,Gi e [m.size] a M/\jR a M l.size C L/\wB w k L) ⟨g,r,d,⟨O.O P,jW,λb j=>by simp at j;subst j;exact⟨V,jW _ V⟩⟩,R,T⟩ ?_
 rintro k M S μ B ⟨a,C,L,h,H,A⟩ Z
 refine dit (λU=>?_) λU=>?_
 .let⟨y,X⟩:=dY q.aX k
  have v:∀(t:Int){f:E},J M f->bJ dN 271 [vp l.size 0,vi y,vi t,vi (-1:Int)] f λ_ c=>gL [m.size] f c/\S (eR ((k:Int)+1)) c/\μ (eR ((k:Int)+1)) c<μ k M:=λt f x=>
   (ER (H.ext x) (λY Q=>by rw[A.aS Y Q];omega) y t (-1)).aO λ_ c⟨Y,ac,i,Q⟩=>⟨(h.og x).fq i,Z V _ ⟨Y,ac,_,(h.og x).to i,Q,(A.VT y t V).HW V⟩⟩
  have G:∀{f:E},J M f->aR f p.bq (p.off+Int.toNat (k:Int)*1)=some (vi y):=λx=>(s.ext (u.O (h.ext.O x))).D X
  refine⟨V,V,y,G di,λ_=>?_,λ_=>⟨V,V,y,G di,v 0 di⟩⟩
  refine(fF (F.ext (u.O h.ext)) (k:Int)).bZ λb M2 _ x=>⟨λi z=>x.bC i (h.bT i z).1,_,rfl,λ_=>⟨V,V,y,G x,v 1 x⟩,λ_=>⟨V,V,y,G x,v 0 x⟩⟩
 .have o:k=q.aX.length:=V
  subst o
  exact⟨l.size,rfl,u.O h.ext,a,C,L,λb j=>h.jW b V,H,A⟩
end
section
def jR.abb{e:ag}{b f:E}{g:Nat}{p:Nat->N}{L:Nat->ab}(h:jR e b g p L)(jW:∀a,a<f.size->e a=0){l j:Nat}(d:l<7)(m:j<(L l).length):f.size<=(p l).bq/\(p l).bq<b.size/\e (p l).bq=l+1:=by
 have a:=h.rE l d;have i:(L l).map Ce.i≠[]:=cG;let⟨k,n⟩:=a.bq λc=>i (a.zV c).1;constructor<;>grind [Nat.le_of_not_lt]
def Gi.Y0{f b c d:E}{e:ag}{o1 o2:Obj}(h:J f b)(jW:∀a,a<f.size->e a=0)(i:∀a,b.size<=a->e a=0)(a:c=b.push o1)(g:d=c.push o2):Gi f [c.size,b.size] e d:=by
 constructor<;>grind [fN,J.O]
variable{e:ag}{b f:E}{g:Nat}{p:Nat->N}{L:Nat->ab}{h:af}{q:List jS}{o:Nat}{d r a l:N}{x:eK}{c:Prop}{s:Nat}
def UC(hx:J f b)(jW:∀v,v<f.size->e v=0)(N:jR e b g p L)(O:wB h o L)(hn:o<=10^12)(hN:ir f d r h q)(ha:bd f a x.aN)(hf:XJ h s c o x)(an:14<=x.op):
 bJ dN 273 [vp g 0,.agg #[d.v,r.v],tr x a l] b (Gj e b g (wB h o)):=by
 apply BL (g,0)
 simp -zeta only[dU,fB]
 intro P Q
 have st:=Gi.Y0 (c:=P) (d:=Q) hx jW N.bI rfl rfl
 have x2:J b Q:=(fN (a:=P) (c:=Q) rfl rfl).1
 have W:To e b e Q:=dZ.fV x2 N.bI
 clear_value Q
 clear_value P
 have F:=N.ext x2
 have ax:=ha.aS
 have aw:=hf.lW (bu an)
 let⟨B,hy⟩:=dY x.aN 0
 let⟨H,y1⟩:=hf.aN B (aZ hy)
 have U:=O.aS
 have n1:=U 1 cH;have n3:=U 3 cH;have n4:=U 4 cH;have n5:=U 5 cH
 have l3:=F.aS (k:=3) cH;have l5:=F.aS (k:=5) cH
 let⟨C,ae⟩:=dY (L 3) B.toNat
 let⟨w,ag⟩:=dY (L 4) B.toNat
 let⟨tk,ap⟩:=dY (L 5) B.toNat
 refine⟨cH,V,B,(ha.ext st.ext).D hy,?_⟩
 refine⟨λM=>0<=C/\∃R af t,t.length=o/\To e b R M/\Gi f [P.size,b.size] R M/\jR R M g af (up L 1 t),?_,?_⟩
 .refine⟨_,F.dz (k:=3) cH,H,V,C,F.D cH V ae,λ_=>.no W,λy=>?_⟩
  simp only[dF]at y
  refine⟨λ_=>⟨_,F.dz (k:=5) cH,H,V,tk,F.D cH V ap,λ_=>.no W,λ_=>?_⟩,λ_=>?_⟩<;>
  .refine(yX F O hn H y1).aO λau m3⟨v,R,ac,I,z⟩=>⟨st.fq I,v,ac,λD=>.no (W.O I),λD=>?_⟩
   obtain⟨af,A,u,t,hl,rfl⟩:=z (sp D)
   exact⟨V,R,af,t,hl,W.O I,st.to I,u⟩
 .rintro m3 ⟨al,aa,G,t,hl,I,S,z⟩
  have e3:(up L 1 t) 3=L 3:=rfl
  have e5:(up L 1 t) 5=L 5:=rfl
  have e1:(up L 1 t) 1=t:=rfl
  have aq:=z.aS (k:=3) cH
  rw[e3]at aq
  let⟨f0,f1⟩:=O.lx B.toNat C w ae ag al
  refine⟨_,z.dz (k:=3) cH,H,V,C,z.D cH (by rw[e3];omega) ae,?_⟩
  have A1:=z.abb (f:=f) S.jW (l:=1) (j:=B.toNat) cH (by rw[e1];omega)
  have A5:=z.abb (f:=f) S.jW (l:=5) (j:=B.toNat) cH (by rw[e5];omega)
  have hS:∀v∈[(G 1).bq,(G 5).bq],v<m3.size:=λv D=>by simp at D;omega
  have ak:∀{M:E},J f M->Le f (dg [(G 1).bq,(G 5).bq] M):=λxx=>(Ej (m:=f)).O (xx.dg λv D=>bG (by simp at D;omega))
  refine(fS (hN.bQ.le (ak S.ext)) hN.dh C).aO λau m4⟨aj,fl,ac,hs,am,x4⟩=>⟨λv D=>x4.bC v (S.bT v D).1,aj,ac,?_⟩
  subst am
  have c4:To e b aa m4:=I.O (dZ.fV x4 z.bI)
  have az:=hs.aS
  have f3:=JU hN.dh C
  refine ik (n:=(cW h C).length) V (λA M=>∃t,t.length=o/\To e b aa M/\Gi f [P.size,b.size] aa M/\jR aa M g G (up L 1 t)/\Fz [(G 1).bq,(G 5).bq] m4 M) ⟨t,hl,c4,(S.og x4),(z.ext x4),nK⟩ ?_
  rintro A M av μ ay ⟨y,Z,X,ab,u,ad⟩ ai
  have ao:=hs.le (ad.eU λ_ N=>N)
  refine⟨λah=>?_,λah=>?_⟩
  .simp only[bh]at ah
   let⟨ar,hz⟩:=dY (cW h C) A
   refine⟨V,V,ar,(ao.le fG).D hz,λ_=>?_,λ_=>ai V _ ⟨y,Z,X,ab,u,ad⟩⟩
   have E3:(up L 1 y) 4=L 4:=rfl
   have E1:(up L 1 y) 1=y:=rfl
   have G1:=u.dz (k:=1) cH
   have G4:=u.dz (k:=4) cH
   have l4:=u.aS (k:=4) cH
   have l1:=u.aS (k:=1) cH
   rw[E3]at l4;rw[E1]at l1
   have V4:=u.D (k:=4) cH (by rw[E3];omega) ag
   have ew:eR (w+(A:Int))=w+A:=iC
   let⟨T,hw⟩:=dY y ((w+(A:Int)).toNat)
   let⟨wr,Y,K⟩:=u.cB (k:=1) (i:=(w+(A:Int)).toNat) cH (by rw[E1];omega) (eR (T+1))
   refine⟨_,G1,_,G4,H,V,w,V4,_,G1,_,G4,H,V,w,V4,?_⟩
   rw[ew]
   refine⟨V,V,T,u.D (k:=1) cH (by rw[E1];omega) hw,V,V,wr,ab.fq K,ai V _ ⟨y.set (w+(A:Int)).toNat (eR (T+1)),by simp[Z],X.O K,ab.to K,?_,ad.aV (bu bO) _ _⟩⟩
   have:up (up L 1 y) 1 ((up L 1 y) 1|>.set (w+(A:Int)).toNat (eR (T+1)))=up L 1 (y.set (w+(A:Int)).toNat (eR (T+1))):=by funext j;simp only[up];split<;>rfl
   rw[this]at Y;exact Y
  .refine⟨λ_=>?_,λ_=>.Tv X u (O.bF Z)⟩
   have T:(up L 1 y) 5=L 5:=rfl
   have ar:=u.aS (k:=5) cH
   rw[T]at ar
   let⟨wr,Y,K⟩:=u.cB (k:=5) (i:=B.toNat) cH (by rw[T];omega) (aj.len:Int)
   exact⟨_,u.dz (k:=5) cH,H,V,wr,ab.fq K,.Tv (X.O K) Y ((O.bF Z).tok (by rw[T];simp[n5]))⟩
def NO(hx:J f b)(jW:∀j,j<f.size->e j=0)(P:jR e b g p L)(hi:wB h o L)(hn:o<=10^12)(hN:ir f d r h q)(B:bd f a x.aN)(D:XJ h q.length c o x):
 bJ dN 275 [vp g 0,.agg #[d.v,r.v],tr x a l] b (Gj e b g (wB h o)):=by
 apply xL (g,0)
 simp -zeta only[dU,fB]
 intro K H
 have st:=Gi.Y0 (c:=K) (d:=H) hx jW P.bI rfl rfl
 have x2:J b H:=(fN (a:=K) (c:=H) rfl rfl).1
 have c2:To e b e H:=dZ.fV x2 P.bI
 clear_value H
 clear_value K
 have Z:=B.aS
 have Y:∀{M:E},J f M->At M d r a l h q x:=λxx=>⟨hN.le xx.le,B.ext xx,D.jr⟩
 refine ik (n:=x.aN.length) (Z▸B.kA) (λ_ M=>∃t S N,wB h o N/\To e b t M/\Gi f [K.size,b.size] t M/\jR t M g S N) ⟨e,p,L,hi,c2,st,(P.ext x2)⟩ ?_
 rintro aa M af μ ag ⟨R,ae,X,v,O,C,s⟩ ac
 refine⟨λF=>?_,λF=>?_⟩
 .simp only[bh]at F
  let⟨I,G⟩:=dY x.aN aa
  let⟨U,W⟩:=D.aN I (aZ G)
  have N0:=v.aS 0 cH
  refine⟨_,s.dz (k:=0) cH,?_⟩
  refine(pV (Y C.ext) (s.nL (k:=0) cH V) (by rw[N0];exact D.aN) (h:=aa) V).aO λT m4⟨j,z,m⟩=>⟨λj u=>m.bC j (C.bT j u).1,j,z,λ_=>⟨V,V,I,(B.ext (C.ext.O m)).D G,?_⟩,λ_=>ac V _ ⟨R,ae,X,v,O.O (dZ.fV m s.bI),C.og m,s.ext m⟩⟩
  have w:=C.og m
  have y:To e b R m4:=O.O (dZ.fV m s.bI)
  refine(yX (s.ext m) v hn U W).aO λT m5⟨j,t,z,A,h5⟩=>⟨w.fq A,j,z,λu=>.no (y.O A),λu=>?_⟩
  obtain⟨S,N,Q,ab,hl,rfl⟩:=h5 (sp u)
  exact ac V _ ⟨t,S,_,v.bF hl,y.O A,w.to A,Q⟩
 .refine ik (n:=x.aN.length) (Z▸B.kA) (λ_ t=>J M t) di ?_
  rintro S M4 I4 μ4 ah m ab
  have w:=C.og m
  have y:To e b R M4:=O.O (dZ.fV m s.bI)
  have t:=s.ext m
  refine⟨λF=>?_,λF=>⟨λad=>?_,λ_=>.Tv y t v⟩⟩
  .simp only[bh]at F
   let⟨I,G⟩:=dY x.aN S
   let⟨U,W⟩:=D.aN I (aZ G)
   refine(rV (Y w.ext) (S:Int)).aO λT m5⟨j,z,A⟩=>⟨λj u=>A.bC j (w.bT j u).1,j,z,λ_=>⟨V,V,I,(B.ext (w.ext.O A)).D G,?_⟩,λ_=>ab V _ (m.O A)⟩
   refine(wM (t.ext A) v hn U W).aO λT m6⟨j,z,N⟩=>⟨λj u=>N.bC j (A.lt (w.bT j u).1),j,z,λ_=>.no (y.O (dZ.fV (A.O N) t.bI)),λ_=>ab V _ ((m.O A).O N)⟩
  .simp only[bh]at ad
   have I:=D.cY
   have u:=v.aS 5 cH
   have N:=t.aS (k:=5) cH
   have z:eR (x.cY -1)=x.cY -1:=iC
   let⟨G,A⟩:=dY (X 5) ((x.cY -1).toNat)
   let⟨wr,Q,j⟩:=t.cB (k:=5) (i:=(x.cY -1).toNat) cH V (-1)
   rw[z]
   exact⟨_,t.dz (k:=5) cH,V,V,G,t.D (k:=5) cH V A,λ_=>.no y,λ_=>⟨_,t.dz (k:=5) cH,V,V,wr,w.fq j,.Tv (y.O j) Q (v.tok (by simp[u]))⟩⟩
end
section
variable{M:E}
def P2(g:ag)(b:E):ad:=(List.range b.size).filter λa=>g a≠0
def ZN(g:ag)(b:E):∀a∈P2 g b,a<b.size:=by grind [P2]
def Yq{g:ag}{b h:E}(jW:∀a,a<h.size->g a=0)(e:J h M):Le h (dg (P2 g b) M):=
 (Ej (m:=h)).O (e.dg λa c=>bG (by
  simp[P2]at c;exact Nat.le_of_not_lt λd=>c.2 (jW a d)))
def dZ.ae6{g d:ag}{b c:E}(h:To g c d M)(f:∀a,b.size<=a->g a=0):Le (dg (P2 g b) c) M:=λa o v e=>by
 grind [gV,qv,Nat.lt_or_ge,Array.size,P2,bB,dZ.fL]
def WD(f:af)(p:List jS)(c:Prop)(a:Bk):Prop:=∀(g:ag)(b h:E)(o:Nat)(j:Nat->N)(L:Nat->ab)(e l:Nat)(d r t:N),J h b->(∀a,a<h.size->g a=0)->jR g b o j L->wB f e L->WB f p.length c e a->e+4*a.w<=10^12->l<=e->ir h d r f p->iA h t a.bz->
 bJ dN 333 [vp o 0,.agg #[d.v,r.v],.agg #[t.v,vi a.bL],vi l] b (Gj g b o λi=>(∀k,k<6->(i k).length=l)/\(i 6).length<=10^12)
def acA(b:E)(e:Nat)(v:Value)(c:E):Prop:=∃(o:Nat)(d:Bool),v=.tuple #[vp o 0,vb d]/\J b c/\(d=true->∃g j L,(∀a,a<b.size->g a=0)/\jR g c o j L/\∀a,a<6->(L a).length=e)
def lP.bC{f:af}{e b:Nat}{L a:Nat->ab}(h:lP f e b L)(c:∀l,l<7->a l=L l):lP f e b a:=
 by constructor<;>grind [lP.aS,lP.YE,lP.lx,lP.cR]
variable{g:ag}{b h:E}{o:Nat}{j:Nat->N}{L:Nat->ab}{f:af}{p:List jS}{e:Nat}{d r a l:N}{x:eK}{c:Prop}
def Wo(hx:J h b)(az:jR g b o j L)(hi:wB f e L)(P:ir h d r f p)(ha:bd h a x.aN)(hk:rI h l x.dm)(hw:WS f p.length c e x)(t:e+4*x.w<=10^12){ad:Nat}{m:Bk}(ac:x.dm[ad]? =some m)(ih:WD f p c m):
 bJ dN 314 [vp o 0,.agg #[d.v,r.v],tr x a l,vi ad] b (acA b e):=by
 apply Df (o,0)
 simp -zeta only[dU]
 intro I D
 let⟨x2,hl⟩:=fN (a:=I) (c:=D) rfl rfl
 clear_value D
 clear_value I
 have h2:=az.ext x2
 have ao:=hi.aS
 have l0:=h2.aS (k:=0) cH
 have n0:=ao 0 cH
 have aS:=bA ac
 have aT:=hk.aS
 have aQ:=AZ ac
 have aW:=eK.pD x
 have Z:=hw.dm ad m ac
 have w:=hx.O x2
 let⟨ah,ht,f0,f1⟩:=hk.D ac
 refine⟨_,h2.dz (k:=0) cH,?_⟩
 refine(Q9 h2 (λu hj=>by
  by_cases A:u<6
  .rw[ao u A];omega
  .have:u=6:=V;subst this;exact hi.cR)).aO λv m3⟨C,z,H,K,aK,s,q,h3,y⟩=>⟨H.aaK hl di|>λ_=>λm t=>H.bC m (hl m t),(C,0),z,?_⟩
 have R:wB f e s:=hi.bC y
 have ak:Gi D [I.size,b.size] K m3:=⟨H,q,λm t=>⟨H.lt (hl m t),q m (hl m t)⟩⟩
 have j7:∀(M:E)(ae:ag)(aj:Nat->N)(Y:Nat->ab)(F:Nat),Gi D [I.size,b.size] ae M->jR ae M C aj Y->wB f F Y->WB f p.length c F m->F<=e+3->e<=F->
  bJ dN 333 [vp C 0,.agg #[d.v,r.v],.agg #[ah.v,vi m.bL],vi ((j 0).len:Int)] M λv m'=>gL [I.size,b.size] M m'/\∃T:Bool,v=vb T/\acA b e (.tuple #[vp C 0,vb T]) m':=λM ae aj Y F W ax an aA aV aB=>by
  have e0:(j 0).len=e:=V
  rw[e0]
  refine(ih ae M D C aj Y F e d r ah W.ext W.jW ax an aA V aB (P.le w.le) (ht.le w.le)).aO λv m'⟨T,G,z,c5,O⟩=>⟨W.fq c5,T,z,C,T,rfl,x2.O (W.to c5).ext,λaD=>?_⟩
  obtain⟨U,X,A,h7,_⟩:=O aD
  exact⟨G,U,X,λm t=>(W.to c5).jW m (x2.lt t),A,h7⟩
 refine⟨λB=>?_,λB=>?_⟩
 .simp only[bP]at B
  have au:=P.bQ.le w.le
  obtain⟨aP,_⟩:=hw.iL.lQ B
  refine(ku (ZN K m3) (au.le H.le) P.dh x.cE).aO λv m4⟨s4,l4,z,aE,e4,x4⟩=>⟨λm t=>x4.bC m (ak.bT m t).1,s4,z,?_⟩
  subst e4
  let⟨q,ar⟩:=dY (cT f x.cE) ad
  have av:=aE.le fG
  have l4:=av.aS
  refine⟨V,V,q,av.D ar,?_⟩
  have af:=ak.og x4
  have h4:=h3.ext x4
  refine(fS (e:=P2 K m4) (au.le (Yq af.jW af.ext)) P.dh q).aO λv m5⟨s5,l5,z,aw,e5,x5⟩=>⟨λm t=>x5.bC m (af.bT m t).1,s5,z,?_⟩
  subst e5
  have al:=af.og x5
  have O:=h4.ext x5
  have aN:=hw.iL.lW (bG (bG B))
  let⟨y,hy⟩:=dY x.aN 0
  let⟨y0,y1⟩:=hw.iL.aN y (aZ hy)
  have aO:=ha.aS
  have N5:=R.aS
  have aX:=O.aS (k:=3) cH
  have F:=N5 3 cH;have n4:=N5 4 cH
  have ai:∀{M:E},J D M->aR M a.bq (a.off+Int.toNat (0:Int)*1)=some (vi y):=λxx=>(ha.ext (w.O xx)).D hy
  let⟨w6,A,c6⟩:=O.cB (k:=3) (i:=y.toNat) cH V q
  refine⟨_,O.dz (k:=3) cH,V,V,y,ai al.ext,y0,V,w6,?_⟩
  intro m6
  have am:=al.to c6
  let⟨w7,h7,c7⟩:=A.cB (k:=4) (i:=y.toNat) cH (by show _<(s 4).length;omega) ((j 0).len:Int)
  have aF:=A.aS (k:=4) cH
  have ay:up s 3 ((s 3).set y.toNat q) 4=s 4:=rfl
  rw[ay]at aF
  refine⟨al.fq c6,_,A.dz (k:=4) cH,V,V,y,ai am.ext,y0,V,w7,?_⟩
  intro m7
  have aM:=am.to c7
  have F3:=JU P.dh q
  have e0:((j 0).len:Int)=e:=V
  have i7:lP f e (e+(cW f q).length) (up (up s 3 ((s 3).set y.toNat q)) 4 ((s 4).set y.toNat ((j 0).len:Int))):=by
   refine⟨λu hj=>?_,λv aH hp=>R.YE v aH (by simpa[up]using hp),λv c ap hc hf h1=>?_,by simpa[up]using R.cR⟩
   .rcases u with _|_|_|_|_|_|u<;>first|omega|(simp[up,N5])
   .have Q:((s 3).set y.toNat q)[v]? =some c:=by simpa[up]using hc
    have aa:((s 4).set y.toNat ((j 0).len:Int))[v]? =some ap:=by simpa[up]using hf
    by_cases ev:y.toNat=v
    .subst ev;rw[ft V]at Q aa;simp at Q aa;subst Q;omega
    .rw[iY ev]at Q aa;have:=R.lx v c ap Q aa h1;omega
  have aU:=aw.aS
  refine⟨am.fq c7,?_⟩
  refine ik (n:=(cW f q).length) V (λu M=>∃G U X,lP f (e+u) (e+(cW f q).length) X/\To K m5 G M/\Gi D [I.size,b.size] G M/\jR G M C U X) ⟨K,_,_,i7,c6.O c7,aM,h7⟩ ?_
  rintro u M an μ hj ⟨aJ,aL,L8,i8,c8,C,aq⟩ aG
  refine dit (λaC=>?_) λaC=>?_
  .let⟨aa,hz⟩:=dY (cW f q) u
   refine⟨V,V,aa,(aw.le (c8.ae6 h4.bI)).D hz,V,V,y,ai C.ext,?_⟩
   exact(ER aq (λaI Q=>by rw[i8.aS aI Q];omega) aa 0 y).aO λv M'⟨G,U,Q,h9⟩=>⟨C.fq Q,aG V _ ⟨G,U,_,by rw[<-jP];exact i8.VT aa 0 V,c8.O Q,C.to Q,h9⟩⟩
  .have Q:u=(cW f q).length:=V
   subst Q
   rw[OS B ar]at Z
   exact⟨V,V,ah,(w.O C.ext).aR f0,m.bL,(w.O C.ext).aR f1,j7 M aJ aL L8 _ C aq i8 Z V V⟩
 .simp only[a8]at B
  rw[OT B]at Z
  exact⟨V,V,ah,(w.O H).aR f0,m.bL,(w.O H).aR f1,j7 m3 K aK s e ak h3 R Z V V⟩
end
section
def _root_.Go.Vc.abv{e f:Nat}(h:f<=e)(k:e<=9223372036854775807){m:E}{d:(Int->E->Prop)->(Int->E->Nat)->Int->E->Prop}(Q:Nat->E->Prop)(g:Q f m)
 (j:∀(b:Nat)(a:E)(I:Int->E->Prop)(μ:Int->E->Nat),f<=b->b<=e->Q b a->
  (b<e->∀c,Q (b+1) c->I (eR ((b:Int)+1)) c/\μ (eR ((b:Int)+1)) c<μ b a)->d I μ b a):
 ∃(I:Int->E->Prop)(μ:Int->E->Nat),I f m/\∀i a,I i a->d I μ i a:=by
 refine⟨λi c=>∃b:Nat,i=b/\f<=b/\b<=e/\Q b c,λi _=>(e -i).toNat,⟨f,rfl,bW,h,g⟩,?_⟩
 grind [nQ,PB]
variable{g:ag}{m i:E}{h:Nat}{o:Nat->N}{L:Nat->ab}{j:af}{l:List jS}{e:Nat}{d r f b:N}{x:eK}{c:Prop}
def Q7(hx:J i m)(jW:∀p,p<i.size->g p=0)(t:jR g m h o L)(hi:wB j e L)(hN:ir i d r j l)(Z:bd i f x.aN)(hk:rI i b x.dm)(hw:WS j l.length c e x)(q:e+4*x.w<=10^12)(az:x.op=7\/x.op=8)(ih:∀p∈x.dm,WD j l c p):
 bJ dN 274 [vp h 0,.agg #[d.v,r.v],tr x f b] m (Gj g m h (wB j e)):=by
 apply zD (h,0)
 simp -zeta only[dU,fB]
 intro T H
 have st:=Gi.Y0 (c:=T) (d:=H) hx jW t.bI rfl rfl
 let⟨P,z⟩:=fN (a:=T) (c:=H) rfl rfl
 clear_value H
 clear_value T
 have ai:=hk.aS
 have ax:=Z.aS
 have av:=hw.iL.lW V
 have aj:0<x.dm.length:=by
  grind [WS.iL,XJ.MG,XJ.lQ]
 have O:∀{M:E},J H M->To g m g M:=λy=>dZ.fV (P.O y) t.bI
 have ac:∀(M:E)(F:Nat)(p:Bk),J H M->x.dm[F]? =some p->bJ dN 314 [vp h 0,.agg #[d.v,r.v],tr x f b,vi F] M (acA M e):=λM F p y ad=>
  Wo (hx.O (P.O y)) (t.ext (P.O y)) hi hN Z hk hw q ad (ih p (aZ ad))
 refine⟨λM=>J H M,⟨λ_=>?_,λ_=>di⟩,?_⟩
 .let⟨w,u⟩:=dY x.aN 0
  let⟨A,B⟩:=hw.iL.aN w (aZ u)
  refine⟨cH,V,w,(Z.ext st.ext).D u,?_⟩
  exact(wM (t.ext P) hi V A B).aO λW U⟨p,s,v⟩=>⟨λp q=>v.bC p (z p q),p,s,λ_=>.no (O v),λ_=>v⟩
 .intro U v
  let⟨b0,ah⟩:=jk aj
  refine(ac U 0 b0 v ah).aO λW m4⟨aa,aq,s,Q,Y⟩=>⟨λp q=>Q.bC p (v.lt (z p q)),(aa,0),aq,s,λ_=>.no (O (v.O Q)),λal=>?_⟩
  let⟨ar,ab,L1,ao,Y,n1⟩:=Y cG
  have am:=n1 1 cH;have an:=n1 5 cH
  refine abv (e:=x.dm.length) (f:=1) V (ai▸hk.kA) (λ_ M=>J m4 M) di ?_
  rintro F M au μ aw ay R ap
  have w:=(v.O Q).O R
  have B:=Y.ext R
  refine⟨λae=>?_,λae=>?_⟩
  .simp only[bh]at ae
   let⟨p,q⟩:=dY x.dm F
   refine(ac M F p w q).aO λW m6⟨af,ag,s,u,C⟩=>⟨λp q=>u.bC p (w.lt (z p q)),(af,0),ag,s,λ_=>.no (O (w.O u)),λal=>?_⟩
   let⟨aC,aD,L2,aB,C,n2⟩:=C cG
   have ak:=n2 1 cH;have aA:=n2 5 cH
   have D:=B.ext u
   refine⟨_,D.dz (k:=1) cH,_,C.dz (k:=1) cH,?_⟩
   refine(uO (D.nL (k:=1) cH V) (C.nL (k:=1) cH V)).aO λW m7⟨I,s,_,A⟩=>⟨λp q=>A.bC p (u.lt (w.lt (z p q))),I,s,λ_=>.no (O (w.O (u.O A))),λ_=>?_⟩
   have S:=D.ext A
   have X:=C.ext A
   refine⟨_,S.dz (k:=5) cH,_,X.dz (k:=5) cH,?_⟩
   refine(uO (S.nL (k:=5) cH V) (X.nL (k:=5) cH V)).aO λW m8⟨I,s,_,K⟩=>⟨λp q=>K.bC p (A.lt (u.lt (w.lt (z p q)))),I,s,λ_=>.no (O (w.O (u.O (A.O K)))),λ_=>?_⟩
   exact ap V _ (R.O (u.O (A.O K)))
  .let A:Nat->Nat:=λp=>if p<U.size then g p else ar p
   have uu:=P.O v
   have y:=uu.O (Q.O R)
   have z4:=Q.aP;have zM:=R.aP;have S:=uu.aP
   have I:∀p,p<U.size->A p=g p:=cG
   have H0:jR A M h o L:=by
    refine⟨λp q=>?_,by rw[I _ (cp t.bT.lt S)];exact t.j8,(t.ext y).bT,λu D=>(t.rE u D).fL (λK=>y.bC _ ((t.rE u D).bq K).1) λK=>I _ (cp ((t.rE u D).bq K).1 S)⟩;grind [jR.bI]
   have ag:∀u,u<7->iJ A M bE 1 (u+1) (ab u) ((L1 u).map Ce.i):=λu D=>(B.rE u D).fL (λ_=>rfl) λK=>by
    have C:=((B.rE u D).bq K).2;grind
   have c3:To g m A M:=⟨y.aP,λp q=>I p (cp q S),H0.bI,λp q _=>y.bC p q⟩
   have af:Gi i [T.size,m.size] A M:=⟨st.ext.O w,λp q=>by rw[I p (cp (cp q hx.aP) S)];exact jW p q,λp q=>⟨w.lt (z p q),by rw[I p (v.lt (z p q))];exact(st.bT p q).2⟩⟩
   clear_value A
   refine⟨_,B.dz (k:=1) cH,?_⟩
   let⟨w5,h5,X⟩:=H0.acX (k:=1) cH (ag 1 cH)
   refine⟨w5,?_⟩
   intro m9
   have ak:aa≠h:=λs=>by
    have h8:=B.j8;rw[s,ao _ (cp t.bT.lt S)]at h8;omega
   have G:aR m9 aa 5=some (N.v (ab 5)):=(bB (cg _ _ _ _ ak) _).trans (B.dz (k:=5) cH)
   have A5:iJ A m9 bE 1 (5+1) (ab 5) ((L1 5).map Ce.i):=by
    grind [iJ.fL,cg,iJ.bq,jR.j8]
   let⟨w6,h6,c6⟩:=h5.acX (k:=5) cH A5
   exact⟨af.fq X,_,G,w6,(af.to X).fq c6,.Tv ((c3.O X).O c6) h6 ((hi.bF am).tok an)⟩
end
section
section
variable{b:ag}{m g:E}{f:Nat}{l:Nat->N}{L:Nat->ab}{e:af}{h:List jS}{n:Nat}{d r a j:N}{x:eK}{c:Prop}
def KG(hx:J g m)(jW:∀o,o<g.size->b o=0)(Z:jR b m f l L)(z:wB e n L)(S:ir g d r e h)(D:bd g a x.aN)(hk:rI g j x.dm)(F:WS e h.length c n x)(u:n+4*x.w<=10^12)(ih:∀o∈x.dm,WD e h c o):
 bJ dN 250 [vp f 0,.agg #[d.v,r.v],tr x a j] m (Gj b m f (wB e (n+dn x))):=by
 apply BN (f,0)
 simp -zeta only[dU,fB]
 intro O T
 have P:=Gi.Y0 (c:=O) (d:=T) hx jW Z.bI rfl rfl
 have x2:J m T:=(fN (a:=O) (c:=T) rfl rfl).1
 clear_value T
 clear_value O
 have h2:=Z.ext x2
 have al:=D.aS
 have an:=eK.pD x
 have N0:=z.aS 0 cH
 refine⟨_,h2.dz (k:=0) cH,?_⟩
 refine(sg (S.le P.ext.le) (h2.nL (k:=0) cH V) (D.ext P.ext) (hk.le P.ext.le) V (λo _=>qV o)).aO λA m3⟨G,t,_,W⟩=>⟨λo u=>W.bC o (P.bT o u).1,G,t,?_⟩
 have s:=P.og W
 have C:=h2.ext W
 have N:To b m b m3:=dZ.fV (x2.O W) Z.bI
 have lW:14<=x.op\/x.op=7\/x.op=8->∃y:Int,x.aN[0]? =some y/\0<=y/\y<(n:Int):=λho=>by
  have:=F.iL.lW ho;let⟨y,K⟩:=dY x.aN 0;exact⟨y,K,F.iL.aN y (aZ K)⟩
 refine⟨λok M=>∃v,To b m v M/\Gi g [O.size,m.size] v M/\(ok=true->∃ag p,jR v M f ag p/\wB e n p),⟨λah=>?_,λao=>⟨λai=>?_,λap=>⟨λaj=>?_,λaq=>⟨λh7=>?_,λn7=>?_⟩⟩⟩⟩,?_⟩
 .simp only[bP]at ah
  let⟨y,K,B,R⟩:=lW V
  have X:=F.iL.lW V
  have Y:∀{M:E},J g M->aR M a.bq (a.off+Int.toNat (0:Int)*1)=some (vi y):=λQ=>(D.ext Q).D K
  refine⟨cH,V,y,Y s.ext,?_⟩
  refine(wM C z V B R).aO λA H⟨o,t,p⟩=>⟨λo u=>p.bC o (s.bT o u).1,o,t,?_⟩
  have q:=C.ext p
  have w:=s.og p
  have N1:=z.aS 1 cH
  have l1:=q.aS (k:=1) cH
  let⟨U,aa⟩:=dY (L 1) y.toNat
  let⟨wr,h5,I⟩:=q.cB (k:=1) (i:=y.toNat) cH V (eR (U+1))
  exact⟨_,q.dz (k:=1) cH,cH,V,y,Y w.ext,_,q.dz (k:=1) cH,cH,V,y,Y w.ext,B,V,U,q.D cH V aa,B,V,wr,w.fq I,b,(N.O (dZ.fV p C.bI)).O I,w.to I,λ_=>⟨l,_,h5,z.bF (by simp[N1])⟩⟩
 .simp only[bP]at ai
  let⟨y,K,B,R⟩:=lW V
  have X:=F.iL.lW V
  refine⟨cH,V,y,(D.ext s.ext).D K,?_⟩
  refine(yX C z V B R).aO λA H⟨o,v,t,p,q⟩=>⟨s.fq p,o,t,v,N.O p,s.to p,λu=>?_⟩
  grind [lP.bF]
 .simp only[eD,bP]at aj
  refine(UC s.ext s.jW C z V S D F.iL V).aO λA H⟨o,v,t,p,q⟩=>⟨s.fq p,o,t,v,N.O p,s.to p,q⟩
 .simp only[eD,bP]at h7
  refine(Q7 s.ext s.jW C z S D hk F u h7 ih).aO λA H⟨o,v,t,p,q⟩=>⟨s.fq p,o,t,v,N.O p,s.to p,q⟩
 .refine(NO s.ext s.jW C z V S D F.iL).aO λA H⟨o,v,t,p,q⟩=>⟨s.fq p,o,t,v,N.O p,s.to p,q⟩
 .rintro ok M ⟨ar,p,w,q⟩
  refine⟨λ_=>.no p,λam=>?_⟩
  let⟨au,L4,q,i4⟩:=q cG
  have Y:∀{X:E}(G U:Int),J M X->dn x=1->bJ dN 271 [vp f 0,vi G,vi U,vi (-1:Int)] X λ_ m'=>gL [O.size,m.size] X m'/\Gj b m f (wB e (n+dn x)) (vb true) m':=λG U Q hd=>
   (ER (q.ext Q) (λH B=>by rw[i4.aS H B];omega) G U (-1)).aO λ_ m'⟨v,ag,I,h5⟩=>⟨(w.og Q).fq I,.Tv ((p.O (dZ.fV Q q.bI)).O I) h5 (by rw[hd];exact(i4.VT G U V).HW V)⟩
  refine(mD x.op M).aO λA m5⟨o,t,aa,B⟩=>⟨λo u=>B.bC o (w.bT o u).1,o,t,λad=>⟨λ_=>Y G 1 B (by have:=zU x o aa;rw[ba ad]at this;exact this),λ_=>?_⟩,λak=>?_⟩
  .refine(mD x.op m5).aO λA m6⟨R,t,ab,H⟩=>⟨λo u=>H.bC o (B.lt (w.bT o u).1),R,t,λae=>Y 0 0 (B.O H) (by have:=zU x R ab;rw[ba ae]at this;exact this),λac=>?_⟩
   have:=ab.2 (aa.1 ad);rw[this]at ac;simp at ac
  .have af:=zU x o aa
   rw[aU (by simp[ak])]at af
   exact(mD x.op m5).aO λA m6⟨R,t,ab,H⟩=>⟨λo u=>H.bC o (B.lt (w.bT o u).1),R,t,λae=>Y 0 0 (B.O H) cG,λac=>.Tv (p.O (dZ.fV (B.O H) q.bI)) (q.ext (B.O H)) (by rw[af];exact i4)⟩
end
def Re{A:af}{rs:List jS}{H:Prop}:∀b:Bk,WD A rs H b:=by
 refine Bk.ind ?_;intro bz ac ih q o mb E sl L aa D ag am ap Y jW s Q W B hk O w;simp only[Bk.mL,Bk.lK,Bk.vB]at*;apply AE (E,0);simp -zeta only[dU];intro p m;have st:=Gi.Y0 (c:=p) (d:=m) Y jW s.bI rfl rfl;have F:J o m:=(fN (a:=p) (c:=m) rfl rfl).1;have I:To q o q m:=dZ.fV F s.bI;clear_value m;clear_value p;let⟨C,x,r1⟩:=W.cC;simp only[Bk.mL,Bk.lK]at C x r1;have U:=w.aS;have T:=FF bz;refine ik (n:=bz.length) (U▸w.kA) (λi M=>∃g r h,wB A (aa+dc (bz.take i)) h/\To q o g M/\Gi mb [p.size,o.size] g M/\jR g M E r h) ⟨q,sl,L,sp Q,I,st,s.ext F⟩ ?_;rintro i M ad μ ai ⟨an,ao,G,f,j,c,d⟩ ab
 have ah:=xg (bz.take i);have aj:=jH (bz.take i);refine dit (λS=>?_) λS=>?_
 .let⟨v,l⟩:=dY bz i;let⟨ae,kk,P,R,y,g1,g2,K,N⟩:=w.D l;have al:=ub l;have ak:=T (i+1);have X:=c.ext;refine⟨V,V,_,X.aR y,_,X.aR g1,_,X.aR g2,_,X.aR K,_,X.aR N,?_⟩;refine(KG X c.jW d f O P R (C i v l) V (ih v (aZ l))).aO λz m4⟨b,g,e,a,t⟩=>⟨c.fq a,b,e,λ_=>.no (j.O a),λB=>?_⟩;let⟨r,h,u,Z⟩:=t cG;exact ab V _ ⟨g,r,h,by rw[(uU l),<-jP];exact Z,j.O a,c.to a,u⟩
 .have K:i=bz.length:=V;rw[K,fx]at f;have ae:=xg bz;have ak:=jH bz;have Z:=f.aS 0 cH;have l0:=d.aS (k:=0) cH;let⟨X,P⟩:=dY (G 0) ac.toNat;refine⟨_,d.dz (k:=0) cH,x,V,X,d.D cH V P,λ_=>?_,λ_=>?_⟩
  .refine(yX d f V x V).aO λz m4⟨b,g,e,a,t⟩=>⟨c.fq a,b,e,λ_=>.no (j.O a),λB=>?_⟩;obtain⟨r,h,u,al,N,rfl⟩:=t cG;refine(Qe u (f.bF N) V (b:=D) V).aO λz R⟨b,y,e,l,v⟩=>⟨(c.to a).fq l,b,e,b,y,rfl,(j.O a).O l,v⟩
  .refine(Qe d f V (b:=D) V).aO λz R⟨b,y,e,l,v⟩=>⟨c.fq l,b,e,b,y,rfl,j.O l,v⟩
def ac8(m:E)(f:af)(q:jS)(j:Int)(v:Value)(c:E):Prop:=∃(a:Nat)(d:Bool),v=.tuple #[vp a 0,vb d]/\J m c/\(d=true->0<=j/\j<=q.eV.bz.length/\∃e g L,(∀b,b<m.size->e b=0)/\jR e c a g L/\wB f (q.aX.length+dc (q.eV.bz.take j.toNat)) L)
def Jb{m:E}{H S:N}{f:af}{y:List jS}{ab:Prop}{W:Nat}(p:ir m H S f y)(O:CH f y ab W)(hW:W<=200000000000){I:Nat}{a:jS}(v:y[I]? =some a){j:Int}(hj: -9000000000000000000<=j/\j<=9000000000000000000):
 bJ dN 225 [.agg #[H.v,S.v],vi I,vi j] m (ac8 m f a j):=by
 apply BJ
 simp -zeta only[dU]
 intro h
 have C:=px h
 have g:∀b∈[m.size],b<h.size:=by simp[h]
 clear_value h
 have aC:=p.lz.aS
 have aA:=bA v
 let⟨ai,ag,ak,hw⟩:=O.eN a (aZ v)
 let⟨aH,aI,b,c1,c2,G,e0,e1,e2,u,e4⟩:=p.lz.D v
 have w:∀{M:E}{an:Obj},J m M->ac8 m f a j (.tuple #[vp M.size 0,vb false]) (M.push an):=λxx=>⟨_,false,rfl,xx.cw _,bO⟩
 refine(Js (p.le C.le) (λd c=>oh (O.eN d c))).bK (J.cZ h) g λv1 m2 D _=>⟨_,rfl,λ_=>w (C.O D),λ_=>?_⟩
 have T:=C.O D
 refine(dk).bK D g λv2 m3 _ Y v3=>⟨_,rfl,λ_=>w (T.O Y),λ_=>?_⟩
 have A:=T.O Y
 have ax:=G.aS
 refine⟨V,V,_,A.aR u,?_⟩
 refine(dk).bK v3 g λv4 Q ac Z B=>⟨_,rfl,λ_=>w (A.O Z),λaF=>?_⟩
 have c:=A.O Z
 have hr:=ac.1 cG
 refine⟨V,V,_,c.aR e0,_,c.aR e1,_,c.aR e2,_,c.aR u,_,c.aR e4,?_⟩
 refine(Mj (q:=a) (c1.ext c) (c2.ext c) ai ag f).aO λar R⟨s,t,F,x,sl,aa,jW,K,i5⟩=>⟨λb d=>F.bC b (B.lt (g b d)),(s,0),t,?_⟩
 obtain⟨al,_,_⟩:=ak.cC
 have ay:=Bk.pD a.eV
 have aj:=FF a.eV.bz
 have aq:Gi Q [m.size] x R:=⟨F,jW,λb d=>⟨F.lt (B.lt (g b d)),jW b (B.lt (g b d))⟩⟩
 have e6:j=((j.toNat:Nat):Int):=V
 obtain⟨jn,ad⟩:∃jn:Nat,j=jn:=⟨j.toNat,e6⟩
 subst ad
 simp only[iD]
 refine ik (n:=jn) V (λi M=>∃k z l,wB f (a.aX.length+dc (a.eV.bz.take i)) l/\To x R k M/\Gi Q [m.size] k M/\jR k M s z l) ⟨x,sl,aa,sp i5,K.to,aq,K⟩ ?_
 rintro i M av μ aB ⟨ao,ap,L6,P,c6,e,L⟩ am
 have U:J m M:=c.O e.ext
 refine dit (λah=>?_) λah=>?_
 .let⟨au,r⟩:=dY a.eV.bz i
  let⟨aw,kk,ha,ae,g0,g1,g2,g3,g4⟩:=(G.le c.le).D r
  have X:=e.ext
  have aG:=ub r
  have aE:=aj (i+1)
  have az:=xg (a.eV.bz.take i)
  have aD:=jH (a.eV.bz.take i)
  refine⟨V,V,_,U.aR u,V,V,_,X.aR g0,_,X.aR g1,_,X.aR g2,_,X.aR g3,_,X.aR g4,?_⟩
  refine(KG X e.jW L P (p.le c.le) ha ae (al i au r) V (λb _=>Re b)).aO λar m7⟨b,k,t,o,h7⟩=>⟨e.fq o,b,t,λ_=>⟨s,false,rfl,c.O (e.to o).ext,bO⟩,λd=>?_⟩
  let⟨z,l,h8,i8⟩:=h7 cG
  exact am V _ ⟨k,z,l,by rw[uU r,<-jP];exact i8,c6.O o,e.to o,h8⟩
 .have k:i=jn:=V
  subst k
  exact⟨s,true,rfl,U,λ_=>⟨V,V,ao,ap,L6,λb d=>e.jW b (c.lt d),L,sp P⟩⟩
end
section
variable{e d:Int}{c P:Nat}{m:E}
def Xv(a:0<=e)(b:0<d):0<=e.tmod d/\e.tmod d<d:=⟨Int.tmod_nonneg _ a,Int.tmod_lt_of_pos _ b⟩
def RT(a:0<=e)(b:0<d):0<=e.tdiv d/\e.tdiv d<=e:=by
 rw[Z9 a];exact⟨Int.ediv_nonneg a V,Int.ediv_le_self _ a⟩
def aaZ{b:Int}(f:0<=e/\e<4611686018427387904)(g:0<=b/\b<4611686018427387904):0<=aaY e b:=by
 unfold aaY;have a:(e%18446744073709551616).toNat<2^62:=V;have c:(b%18446744073709551616).toNat<2^62:=V;have d:=Nat.xor_lt_two_pow a c;grind [dt]
def Rd(c:Nat)(a:N)(P:Nat)(m:E):Prop:=(∃p:Int,dJ m c uf [.s a,.i p]/\0<=p/\p<=P)/\a.len<=a.cap/\∀k:Nat,k<a.len->∃v:Int,0<=v/\v<=255/\aR (dg [c] m) a.bq (a.off+k*1)=some (.int .u8 v)
theorem Rd.aO{Q:Nat}{a:N}(h:Rd c a P m)(g:P<=Q):Rd c a Q m:=let⟨⟨p,b,d,f⟩,e⟩:=h;⟨⟨p,b,d,V⟩,e⟩
theorem Rd.lt{c P:Nat}{a:N}{m:E}(h:Rd c a P m):c<m.size:=let⟨⟨_,b,_⟩,_⟩:=h;b.lt
theorem Rd.Bj{f:Nat}{b:N}{e M a:E}(d:Rd c b f e)(h:Rd c b P M)(l:Fz [c] e a)(k:a[c]? =M[c]?):Rd c b P a:=by
 obtain⟨⟨p,g,i,j⟩,_⟩:=h;exact⟨⟨p,g.congr k,i,j⟩,d.2.1,λo m=>let⟨v,q,r,n⟩:=d.2.2 o m;⟨v,q,r,l.eU (λ_ h=>h) _ _ _ n⟩⟩
def Rd.ext{a:N}{d:E}(h:Rd c a P m)(b:J m d):Rd c a P d:=h.Bj h (b.fz _) (b.bC _ h.lt)
def Rd.aV{c e P:Nat}{a:N}{d M:E}(f:Rd c a e d)(h:Rd c a P M)(i:Fz [c] d M){b:Nat}(g:d.size<=b)(o:Nat)(l:ae):Rd c a P (aV M b o l):=
 by grind [Rd.Bj,Fz.aV,cg,Rd.lt]
def adg(c:Nat)(b:N)(P:Nat)(m:E)(d:Int)(v:Value)(a:E):Prop:=∃k:Int,v=vi k/\0<=k/\(k<d\/k=0)/\Rd c b (P+1) a/\Fz [c] m a
def dW{e:N}(s:Rd c e P m)(hP:P<=10^16)(d:Int):bJ dN 74 [vp c 0,vi d] m (adg c e P m d):=by
 let⟨⟨p,t,q,p1⟩,X,E⟩:=s;apply BR (c,0);simp -zeta only[fB];have g1:aR m c 1=some (vi p):=t.dz 1;refine⟨p,g1,t.iQ bO,?_⟩;intro g;have U:eR (p+1)=p+1:=iC;have T:eR (p+1 -1)=p:=by rw[show p+1 -1=p by omega];exact iC
 have w:dJ g c uf [.s e,.i (p+1)]:=by rw[<-U];exact dJ.aV (m:=m) (r:=[.i (eR (p+1))]) (o:=1) t
 have A:Fz [c] m g:=(Fz.cZ [c] m).aV (bu bO) _ _;have F:Le (dg [c] m) (dg [c] g):=A.eU λ_ s=>s;clear_value g;have R:∀k:Int,0<=k->(k<d\/k=0)->adg c e P m d (vi k) g:=λk C D=>⟨k,rfl,C,D,⟨⟨p+1,w,V,V⟩,X,λj f=>let⟨v,i,l,h⟩:=E j f;⟨v,i,l,F _ _ _ h⟩⟩,A⟩;have f:aR g c 0=some e.v:=w.dz 0;have g1:aR g c 1=some (vi (p+1)):=w.dz 1;have B:∀j:Int,0<=j->j<(e.len:Int)->∃v:Int,0<=v/\v<=255/\aR g e.bq (e.off+j.toNat*1)=some (.int .u8 v):=λj C D=>by
  let⟨v,i,l,h⟩:=E j.toNat V;exact⟨v,i,l,(gV.1 (F _ _ _ h)).2⟩
 refine⟨λ_=>R 0 (dR _) (bG rfl),λZ=>⟨_,f,λ_=>R 0 (dR _) (bG rfl),λY=>?_⟩⟩;simp only[dF]at Z;simp only[a8]at Y;have G:0<d:=V;refine⟨_,g1,_,f,?_⟩;rw[T];refine⟨λz=>?_,λ_=>?_⟩
 .simp only[bh]at z;let⟨v,i,l,h⟩:=B p q z;refine⟨_,f,q,z,v,h,V,?_⟩;rw[iC];have:=Xv i G;exact R _ this.1 (bu this.2)
 .have y:(0:Int)<(e.len:Int):=V;let⟨I,J⟩:=Xv q y;let⟨v,i,l,h⟩:=B _ I J;have S:eR (eR (p*7)+3)=p*7+3:=by rw[dt (b:=p*7) V V,iC]
  let⟨K,L⟩:=Xv (e:=p*7+3) V y;let⟨u,u0,u1,hu⟩:=B _ K L;let⟨d0,d1⟩:=RT q y;rw[S];refine⟨_,f,_,f,V,I,J,v,h,_,f,_,f,V,K,L,u,hu,_,f,V,cH,V,?_⟩;have M:eR (eR v*131)=v*131:=by rw[dt (b:=v) V V,iC]
  have O:eR (eR u*1117)=u*1117:=by rw[dt (b:=u) V V,iC]
  have E3:eR (p*29)=p*29:=iC;have Q:eR (eR (p.tdiv e.len)*53)=p.tdiv e.len*53:=by rw[dt (b:=p.tdiv e.len) V V,iC]
  rw[M,O,E3,Q,dt (b:=v*131+u*1117) V V,dt (b:=v*131+u*1117+p*29) V V,dt (b:=v*131+u*1117+p*29+p.tdiv e.len*53) V V];have H:0<=v*131+u*1117+p*29+p.tdiv e.len*53:=V;let⟨q0,q1⟩:=RT (d:=64) H cH;rw[dt (b:=Int.tdiv _ 64) V V];have W:=aaZ (e:=v*131+u*1117+p*29+p.tdiv e.len*53) (b:=(v*131+u*1117+p*29+p.tdiv e.len*53).tdiv 64) ⟨H,V⟩ ⟨q0,V⟩;let⟨z0,z1⟩:=Xv W G;exact R _ z0 (bu z1)
def nX{a:N}(h:Rd c a P m)(j:P<=10^16){s:N}{l:ab}(d:bd (dg [c] m) s l)(o:0<l.length):
 bJ dN 77 [vp c 0,s.v] m λv f=>∃k:Int,v=vi k/\k∈l/\Rd c a (P+1) f/\Fz [c] m f:=by
 apply Di (c,0)
 have p:=d.aS
 refine(dW h j (s.len:Int)).aO λv r⟨k,g,n,q,i,b⟩=>⟨k,g,n,V,?_⟩
 let⟨x,e⟩:=dY l k.toNat
 exact⟨x,(gV.1 ((b.eU (λ_ h=>h)) _ _ _ (d.D e))).2,x,rfl,aZ e,i,b⟩
end
section
variable{d:ad}{c:E}
def _root_.Go.Vc.Gr.eB{α:Type}{X:ad}{n:E}{v f:Nat}{R:E->ae->α->Prop}{s:N}{u:List α}(t:qj f R)(x:Gr d n c v f R s u)(K:Fz X n c){k:Nat}(M:k<u.length){cs:ae}{a:α}(A:R (dg (s.bq::d) c) cs a):
 iQ c s.bq (s.off+k*f) f/\Gr d n (aV c s.bq (s.off+k*f) cs) v f R s (u.set k a)/\Fz X n (aV c s.bq (s.off+k*f) cs)/\(∀g,g≠s.bq->(aV c s.bq (s.off+k*f) cs)[g]? =c[g]?):=by
 have T:=x.cD
 let⟨y,e,z,l⟩:=x
 have Q:∀g,g≠s.bq->(aV c s.bq (s.off+k*f) cs)[g]? =c[g]? :=by grind [cg]
 let⟨g,h,tail,q,G,H,W,I⟩:=z.D.resolve_left y
 have aa:=t.aS A
 let⟨p,C⟩:=dY e k cG
 have Z:=l.aP p (aZ C)
 have S:s.off+k*f=k*f:=by rw[q];simp
 have J:s.bq=g:=by rw[q];rfl
 have O:=bA C
 have ac:e=e.take k++p::e.drop (k+1):=by
  grind [List.getElem?_eq_some_iff,List.drop_eq_getElem_cons,List.take_append_drop]
 have af:(e.take k).flatten.length=k*f:=by rw[eE λh B=>l.aP h (jE B),qO,my V]
 have ab:e.set k cs=e.take k++cs::e.drop (k+1):=by
  grind [List.set_eq_take_append_cons_drop]
 have L:jh (e.flatten++tail) (k*f) cs=(e.set k cs).flatten++tail:=by
  have Y:e.flatten++tail=(e.take k).flatten++(p++((e.drop (k+1)).flatten++tail)):=by
   grind
  grind [Bv,List.length,List.drop_left]
 have P:(e.set k cs).flatten.length=e.flatten.length:=by
  grind [eE,fK.aP,List.length_set,List.mem_or_eq_of_mem_set]
 have D:Le (dg (s.bq::d) c) (dg (s.bq::d) (aV c s.bq (s.off+k*f) cs)):=by grind [dQ]
 refine⟨?_,⟨y,e.set k cs,⟨by rw[P];exact z.aS,bG ⟨g,h,tail,q,G,?_,?_,I⟩⟩,⟨by simp[l.aS],λh B=>?_,λF h U i j=>?_⟩⟩,K.aV (bG T.1) _ _,Q⟩
 .grind [dJ.iQ,List.take,List.flatten,List.length,List.length_append]
 .have w:=dJ.aV (m:=c) (b:=g) (r:=cs) (o:=k*f) H
  rw[S,J,<-L];exact w
 .grind [List.length_append]
 .grind [List.mem_or_eq_of_mem_set,fK.aP]
 .by_cases w:k=F
  .subst w
   rw[ft O]at i
   rw[ft M]at j
   simp at i j;subst i j
   exact t.le D A
  .rw[iY w]at i j
   exact t.le D (l.eN F h U i j)
def Fj(hS:∀a∈d,a<c.size){g B I:N}{R:Int}{bz:au}{q:eK}{e:Nat}(s:iA (dg d c) g bz)(ha:bd (dg d c) B q.aN)(hk:rI (dg d c) I q.dm)(hj:e<=bz.length)(hb:bz.length<=900000000000):
 bJ dN 227 [.agg #[g.v,vi R],vi e,tr q B I] c λaf K=>∃U,af=.agg #[U.v,vi R]/\iA (dg d K) U (bz.take e++[q]++bz.drop e)/\J c K:=by
 apply Ji
 simp -zeta only[dU]
 intro L h f m
 let⟨r,l,s1,s2,s3⟩:=uy (a:=L) (c:=h) (d:=f) rfl rfl rfl
 obtain⟨y,s4⟩:=pu m
 have Z:GS (h.size::d) f m (.mk f.size 0 0 0) []:=GS.bI _ _
 clear_value m
 clear_value f
 have u4:=r.O y
 have G:=s.aS
 have ah:=s.lZ
 have F:∀a∈[h.size,L.size,c.size],a<m.size:=λa b=>y.lt (l a b)
 have H:∀{M:E}{C:Nat},J c M->c.size<=C->Le (dg d c) (dg (C::h.size::d) M):=λxx ag=>xx.dg λa b=>by
  simp only[aY]at b;rcases b with k|k|k
  .exact bG V
  .exact bG V
  .exact bu k
 have W:Int.toNat (0:Int)=0:=rfl
 have X:Int.toNat (e:Int)=e:=V
 have Y:Int.toNat (g.len:Int)=g.len:=V
 rw[W,X,Y]
 refine⟨V,V,V,?_⟩
 have ac:iA (dg (f.size::h.size::d) m) (g.cut 0 e 5) (bz.take e):=by simpa using(s.le (H (C:=f.size) u4 V)).O3 (i:=0) (jb _) hj
 refine GS.lQ Z (y.fz []) ac fj λS O g1 D z1 q1=>⟨λa b=>q1 a (F a b) (by have:=l a b;simp;omega),V,V,V,?_⟩
 intro P
 have t:=px P
 have y1:=g1.cD
 have n:J f O:=D.ext
 have z:∀o,aR P c.size o=aR O c.size o:=λo=>bB (t.bC _ (oh (F c.size bO))) o
 refine⟨z 1,z 0,?_⟩
 refine GS.nA (x:=q) g1 D (ha.le (H (C:=S.bq) (r.O n) V)) (hk.le (H (C:=S.bq) (r.O n) V)) fj λT Q g2 v z2 q2=>⟨J.sK (n.O t) v.ext (λa b=>oh (l a b)),?_⟩
 have p:J f Q:=v.ext
 have y2:=g2.cD
 have u:∀{M A:E},J f M->J f A->∀o,aR A c.size o=aR M c.size o:=λaa h' o=>bB (by rw[h'.bC _ (l _ bO),aa.bC _ (l _ bO)]) o
 refine⟨u (n.O t) p 1,u (n.O t) p 0,?_⟩
 have ad:iA (dg (T.bq::h.size::d) Q) (g.cut e g.len 5) (bz.drop e):=by
  have:=(s.le (H (C:=T.bq) (r.O p) V)).O3 (i:=e) (j:=g.len) V V;rwa[G,eW bW,<-G]at this
 refine GS.lQ g2 v ad fj λr3 m8 g3 w z3 q3=>⟨J.sK p w.ext l,u p w.ext 1,?_⟩
 intro m9
 have ab:∀a∈h.size::d,a<f.size:=λa b=>by
  rcases aY.1 b with k|k
  .omega
  .have:=hS a k;omega
 refine⟨r3,rfl,?_,(r.O w.ext).aV V _ _⟩
 have hD:=g3.cz j9.aO ab cH fj
 have ae:Le (dg (h.size::d) m8) (dg d m9):=dQ bO λa b=>aW _ b
 exact iA.le ae (by simpa[nu]using hD)
def Ju(B:∀b∈d,b<c.size){u K p:N}{z:af}{w:List jS}{q:jS}{m:Nat}{j:Bk}(i:ir (dg d c) u K z w)(C:w[m]? =some q)(h3:q.aX.length<=3/\q.cR.length<=3)(ae:iA (dg d c) p j.bz):
 zg 229 [.agg #[u.v,K.v],vi m,.agg #[p.v,vi j.bL]] c d z λag=>ag=w.set m ⟨q.aX,q.cR,q.bL,j⟩:=by
 apply Cb
 simp -zeta only[dU]
 intro D g h o
 let⟨r,n,s1,s2,s3⟩:=uy (a:=D) (c:=g) (d:=h) rfl rfl rfl
 obtain⟨x,s4⟩:=pu o
 have g0:GR (g.size::d) h o (.mk h.size 0 0 0) []:=Gr.bI _ bW
 clear_value o
 clear_value h
 have u4:=r.O x
 have al:=i.lz.aS;have ak:=i.pF
 have ai:=bA C
 have ac:∀b∈[g.size,D.size,c.size],b<o.size:=λb e=>x.lt (n b e)
 have H:∀{M:E}{y:Nat},J c M->c.size<=y->Le (dg d c) (dg (y::g.size::d) M):=λxx ah=>xx.dg λb e=>by
  simp only[aY]at e;rcases e with f|f|f
  .exact bG V
  .exact bG V
  .exact bu f
 refine Gr.lQ (g:=[.s .nil,.s .nil,.i 0,.s .nil,.i 0]) kZ.aO cH g0 (x.fz []) (i.lz.le (H (y:=h.size) u4 V)) fj λl v g1 A z1 q1=>⟨λb e=>q1 b (ac b e) (by have:=n b e;simp;omega),V,V,?_⟩
 simp only[gY]at g1
 have P:J h v:=A.ext
 have y1:=g1.cD
 let⟨am,an,t,R,T,c3,U,W,X,Y,Z⟩:=(i.lz.le (H (y:=l.bq) (r.O P) V)).D C
 have jW:∀{O:Value}{t G:Nat},aR (dg (l.bq::g.size::d) v) t G=some O->aR v t G=some O:=λaa=>(gV.1 aa).2
 refine⟨_,jW U,_,jW W,_,jW X,_,jW Y,_,jW Z,?_⟩
 refine(Cz (b:=l.bq::g.size::d) (λb e=>?_) (R.le fG) (T.le fG) V).aO λrv m6⟨I,L,f,h1,h2,s⟩=>?_
 .simp only[aY]at e
  rcases e with f|f|f
  .omega
  .omega
  .have:=B b f;omega
 subst f
 have g2:=g1.ext kZ.aO s
 have aj:=g2.aS cH
 let⟨wr,g3,f3,q3⟩:=Gr.eB (k:=m) (cs:=[.s I,.s L,.i q.bL,.s p,.i j.bL]) (a:=⟨q.aX,q.cR,q.bL,j⟩) kZ.aO g2 (A.bZ s) V ⟨I,L,p,rfl,h1,h2,ae.le (H (y:=l.bq) ((r.O P).O s) V)⟩
 refine⟨λb e=>s.bC b (oh (n b e)),_,_,_,_,_,rfl,V,V,wr,?_⟩
 intro m7
 refine⟨λb e=>q3 b (oh (n b e)),?_⟩
 intro F
 have ab:∀b∈g.size::d,b<h.size:=λb e=>by
  rcases aY.1 e with f|f
  .omega
  .have:=B b f;omega
 have ad:Le (dg (g.size::d) m7) (dg d F):=dQ bO λb e=>aW _ e
 have Q:J c F:=(r.O f3.ext).aV V _ _
 exact⟨u,l,_,rfl,⟨i.bQ.le Q.eU,DF.le ad (g3.cz kZ.aO ab cH fj),i.dh,fj⟩,rfl,Q⟩
end
def Z5{c:af}{d b:Nat}{l:au}(k:WL c d True b l){j:Nat}{a v:Int}(e:14<=a/\a<=17)(m:0<=v/\v<((b+dc (l.take j):Nat):Int)):
 WL c d True b (l.take j++[iK a v]++l.drop j)/\dc (l.take j++[iK a v]++l.drop j)=dc l/\sw (l.take j++[iK a v]++l.drop j)=sw l+2:=by
 have f:dc [iK a v]=0:=nB e.1 [v]
 have g:sw [iK a v]=2:=uz a [v]
 have h:=eZ (l.take j) (l.drop j)
 have i:=gH (l.take j) (l.drop j)
 grind [List.take_append_drop,WL.ME,WL.By,Ig,WL.fy,eZ,WL.uD,gH]
def YK(h:Nat)(e:ap)(m:E)(S:ad)(b:Nat)(f:N)(P:Nat)(g:af)(Q:List jS->Prop):Prop:=
 bJ dN h e m λv a=>∃d r c,v=.agg #[d.v,r.v]/\ir (dg S a) d r g c/\Q c/\Rd b f P a/\Fz [b] m a
def UA{f:ad}{m:E}(hS:∀l∈f,l<m.size){c P:Nat}{L:N}(aw:c∈f)(h0:Rd c L P m)(hP:P+4<=10^16){s p:N}{u:af}{H:List jS}(hn:ir (dg f m) s p u H){Y:Nat}(O:CH u H True Y)(hW:Y<=200000000000):
 YK 194 [vp c 0,.agg #[s.v,p.v]] m f c L (P+4) u λT=>CH u T True (Y+4):=by
 apply NP (c,0)
 simp -zeta only[dU]
 intro d ai
 let⟨x2,hl⟩:=fN (a:=d) (c:=ai) rfl rfl
 have s1:=pz d
 have s2:ai.size=m.size+2:=cG
 clear_value ai
 have bM:=hn.lz.aS;have bL:=hn.pF
 have bN:=h0.lt
 have nb:∀a∈[d.size,m.size],a<ai.size/\a∉[c]:=λa h=>⟨hl a h,by have:=hl a h;simp at h⊢;omega⟩
 have Gu:CH u H True (Y+4):=⟨O.iT,λq B=>let⟨g,a,l,e⟩:=O.eN q B;⟨g,a,l,V⟩⟩
 refine(dW (h0.ext x2) V (p.len:Int)).aO λi g⟨aa,e,f0,f1,h3,z3⟩=>⟨z3.fq nb,aa,e,?_⟩
 have u3:Fz [c] m g:=(x2.fz _).O z3
 have bA:aa<(H.length:Int):=by have:=O.iT;omega
 let⟨q,B⟩:=dY H aa.toNat
 let⟨av,aq,a_,hw⟩:=O.eN q (aZ B)
 have Hn:∀{M:E},Fz [c] m M->ir (dg f M) s p u H:=by grind [ir.le,Fz.eU]
 have HS:∀{M:E}(Z:Nat),m.size<=Z->Fz [c] m M->Le (dg f m) (dg (Z::d.size::f) M):=λZ bu gg=>gg.dg (λa h=>by simp at h;subst h;exact aw) λl A=>by
  grind
 have b8:=z3.aP
 let⟨b1,b3,a,c1,c2,c3,e0,e1,e2,e3,e4⟩:=(hn.le (HS g.size V u3)).lz.D B
 have jW:∀{M:E}{f:ad}{i:Value}{a G:Nat},aR (dg f M) a G=some i->aR M a G=some i:=by grind [gV]
 refine⟨f0,V,a,jW e3,q.eV.bL,jW e4,?_⟩
 intro m4 m5
 have x5:J g m5:=by grind [J.push,J.aV]
 have s5:m5.size=g.size+1:=by grind [bD]
 clear_value m5
 have bv:=c3.aS
 have bI:=c3.kA
 have bw:=Bk.pD q.eV
 have bP:=jH q.eV.bz
 have aW:∀a∈[g.size,d.size,m.size],a<m5.size/\a∉[c]:=cG
 rw[iC]
 refine(dW (h3.ext x5) V _).aO λi m6⟨C,e,j0,j1,h6,z6⟩=>⟨z6.fq aW,C,e,?_⟩
 have u6:Fz [c] m m6:=(u3.bZ x5).O z6
 have b9:=z6.aP
 have a1:=(Hn u6).le fG
 obtain⟨fn,aN⟩:∃fn:Nat,aa=fn:=⟨aa.toNat,V⟩
 subst aN
 simp only[iD]at B
 have ar:∀a∈[g.size,d.size,m.size],a<m6.size/\a∉[c]:=cG
 have bf:∀{M:E},Rd c L (P+4) M->Fz [c] m M->∃d' R T,Value.agg #[s.v,p.v]=.agg #[d'.v,R.v]/\ir (dg f (aV M d.size 0 [.s s,.s p])) d' R u T/\CH u T True (Y+4)/\Rd c L (P+4) (aV M d.size 0 [.s s,.s p])/\Fz [c] m (aV M d.size 0 [.s s,.s p]):=λhr o=>
  have g':=o.aV (b:=d.size) (bG V) 0 [.s s,.s p]
  ⟨s,p,H,rfl,Hn g',Gu,h0.aV hr o V _ _,g'⟩
 refine(Jb a1 O hW B V).aO λi F⟨lb,ok,e,y,hA⟩=>⟨y.fq λa h=>(ar a h).1,(lb,0),ok,e,λ_=>?_,λbK=>?_⟩
 .intro m8
  exact bf ((h6.ext y).aO V) (u6.bZ y)
 obtain⟨_,jl,ro,sl,al,bV,h7,i7⟩:=hA cG
 intro m8
 have x8:=px m8
 have g8:GI f F m8 (.mk F.size 0 0 0) []:=GI.gD f F
 clear_value m8
 have z7:=y.aP
 have bx:=xg q.eV.bz
 have aM:=Y5 q.eV.bz C.toNat
 have N0:=i7.aS 0 cH
 have u7:Fz [c] m F:=u6.bZ y
 have aI:∀l∈f,l<F.size:=by grind [Fz.aP]
 refine gP (n:=(al 0).length) V (λah U M=>J F M/\∃D,GI f F M U D/\D.length<=ah/\∀I∈D,0<=I/\I<(((al 0).length:Nat):Int)) ⟨x8,[],g8,bW,bO⟩ ?_
 rintro ah U m9 br μ bF ⟨z,D,o,bJ,ag⟩ an
 have h9:=h7.ext z
 have l0:=h9.aS (k:=0) cH
 have au:∀a∈[g.size,d.size,m.size],a<m9.size/\a∉[c]:=by grind [J.lt]
 refine⟨_,h9.dz (k:=0) cH,λaX=>?_,λbC=>?_⟩
 .simp only[bh]at aX
  let⟨I,t⟩:=dY (al 0) ah
  refine⟨_,h9.dz (k:=0) cH,V,V,I,h9.D cH V t,λ_=>?_,λ_=>an V _ _ ⟨z,D,o,V,ag⟩⟩
  refine(wM h9 i7 V (v:=(ah:Int)) V V).aO λi aA⟨Z,e,w⟩=>⟨w.fq λa h=>(au a h).1,Z,e,λ_=>?_,λ_=>an V _ _ ⟨z.O w,D,o.ext w,V,ag⟩⟩
  intro Q
  have gy:=o.cD
  refine GI.nA (o.ext w) ((z.O w).fz []) V λR bb W K _ X=>⟨J.sK ((z.O w).cw _) K.ext (λa h=>y.lt (ar a h).1),an V _ _ ⟨K.ext,_,W,fj,λI t=>?_⟩⟩
  rcases bR.1 t with t|t
  .exact ag I t
  .simp at t;omega
 .have bE:=o.aS cH
  have u9:Fz [c] m m9:=u7.bZ z
  have r9:Rd c L (P+2) m9:=(h6.ext (y.O z)).aO V
  refine⟨λ_=>?_,λa2=>?_⟩
  .grind [Rd.aO]
  simp only[a8]at a2
  have gy:=o.cD
  have gb:U.bq∉[c]:=by simp;have:=u7.aP;omega
  refine(dW r9 V (U.len:Int)).aO λi aA⟨am,e,i0,i1,aG,CE⟩=>⟨CE.fq au,am,e,i0,V,?_⟩
  let⟨w,az⟩:=dY D am.toNat
  let⟨w0,w1⟩:=ag w (aZ az)
  have aO:aR m9 U.bq (U.off+am.toNat*1)=some (vi w):=((o.cz aI V).le fG).D az
  refine⟨w,(bB (CE.bC _ gy.2 gb) _).trans aO,?_⟩
  have bg:=u9.O CE
  have b_:=CE.aP
  have aU:∀a∈[g.size,d.size,m.size],a<aA.size/\a∉[c]:=cG
  have ew:eR (eR ((a.len:Int) -C)+1)=(a.len:Int) -C+1:=by rw[dt (b:=(a.len:Int) -C) V V,iC]
  rw[ew]
  refine(dW aG V _).aO λi Q⟨i2,e,bQ,bS,aH,ak⟩=>⟨ak.fq aU,i2,e,?_⟩
  have bi:=bg.O ak
  have ca:=ak.aP
  have ap:∀a∈[g.size,d.size,m.size],a<Q.size:=cG
  have ac:∀{M:E},Q.size<=M.size->∀l∈g.size::d.size::f,l<M.size:=λhz l A=>by
   simp only[aY]at A;grind [Fz.aP]
  have bk:Fz [c] g Q:=(((((x5.fz _).O z6).bZ y).bZ z).O CE).O ak
  have aL:=c3.le (bk.eU λl A=>by simp at A;subst A;simp[aw])
  obtain⟨jn,aP⟩:∃jn:Nat,C=jn:=⟨C.toNat,V⟩
  obtain⟨kn,aT⟩:∃kn:Nat,i2=kn:=⟨i2.toNat,V⟩
  subst aP aT
  have a9:jn+kn<=q.eV.bz.length:=V
  have aF:eR ((jn:Int)+(kn:Int))=((jn+kn:Nat):Int):=by grind [dt]
  simp only[iD]at N0 aM
  let⟨ba,r0,r1⟩:=a_.cC
  have bz:dc (q.eV.bz.take jn)<=dc (q.eV.bz.take (jn+kn)):=by
   have:=Y5 (q.eV.bz.take (jn+kn)) jn;rwa[aaa,my V]at this
  let⟨bn,bl,bp⟩:=Z5 (j:=jn+kn) (a:=15) (v:=w) ba cH ⟨w0,V⟩
  have a7:(q.eV.bz.take (jn+kn)++[iK 15 w]++q.eV.bz.drop (jn+kn)).take jn=q.eV.bz.take jn:=by
   rw[nu,rh fj,aaa,my V]
  let⟨bo,bm,bq⟩:=Z5 (j:=jn) (a:=14) (v:=w) bn cH ⟨w0,by rw[a7];omega⟩
  generalize ay:q.eV.bz.take (jn+kn)++[iK 15 w]++q.eV.bz.drop (jn+kn)=st1 at*
  have bH:st1.length=q.eV.bz.length+1:=by rw[<-ay];simp;omega
  have K:∀{M X:E},J M X->Q.size<=M.size->∀a∈[g.size,d.size,m.size],∀G,aR X a G=aR M a G:=λxx hz a h G=>bB (xx.bC a (cp (ap a h) hz)) G
  have kS:∀{M X:E},J M X->Q.size<=M.size->gL [g.size,d.size,m.size] M X:=λxx hz a h=>xx.bC a (cp (ap a h) hz)
  rw[aF]
  refine(lA (c:=g.size::d.size::f) (ac bW) 15 w).aO λi bb⟨bs,bT,e,aJ,aQ,I⟩=>⟨kS I bW,_,_,_,_,_,e,K I bW _ bO _,K I bW _ bO _,?_⟩
  have aE:=I.aP
  refine(Fj (d:=g.size::d.size::f) (R:=q.eV.bL) (q:=iK 15 w) (ac aE) (aL.le I.eU) aJ aQ a9 V).aO λi bc⟨be,e,ax,aj⟩=>⟨kS aj aE,_,_,e,?_⟩
  rw[ay]at ax
  intro ae
  have b4:=aj.aP
  have b5:ae.size=bc.size:=bD _ _ _ _
  have aB:=(bi.bZ I).bZ aj
  have bj:Fz [c] m ae:=aB.aV (bG V) _ _
  have bd:Rd c L (P+2+1+1) ae:=h0.aV ((aH.ext I).ext aj) aB V _ _
  have a5:iA (dg (g.size::d.size::f) ae) be st1:=ax.le (dQ bO λ_ ab=>ab)
  clear_value ae
  refine(lA (c:=g.size::d.size::f) (ac V) 14 w).aO λi bX⟨bt,bU,e,aK,aS,t⟩=>⟨kS t V,_,_,_,_,_,e,K t V _ bO _,K t V _ bO _,K t V _ bO _,K t V _ bO _,?_⟩
  have b6:=t.aP
  refine(Fj (d:=g.size::d.size::f) (R:=q.eV.bL) (q:=iK 14 w) (ac V) (a5.le t.eU) aK aS (e:=jn) V V).aO λi bY⟨b2,e,a6,W⟩=>⟨kS W V,_,_,e,K W V _ bO _,K W V _ bO _,?_⟩
  have b7:=W.aP
  have aC:=(bj.bZ t).bZ W
  refine(Ju (d:=g.size::d.size::f) (ac V) (j:=.mk (st1.take jn++[iK 14 w]++st1.drop jn) q.eV.bL) (hn.le (HS g.size V aC)) B ⟨av,aq⟩ a6).aO λi bZ⟨d',R,T,e,a0,a4,ao⟩=>⟨kS ao V,d',R,e,?_⟩
  intro b0
  have aD:=aC.bZ ao
  refine⟨d',R,T,rfl,a0.le (dQ bO λl A=>by simp[A]),?_,h0.aV (((bd.ext t).ext W).ext ao) aD V _ _,aD.aV (bG V) _ _⟩
  subst a4
  refine⟨by simp;exact O.iT,λq' a3=>?_⟩
  rw[YA]
  rcases iS a3 with ab|ab
  .exact Gu.eN q' ab
  .subst ab
   refine⟨av,aq,.of bo ⟨r0,by rw[bm,bl];exact r1⟩,?_⟩
   show Bk.w (.mk _ _)<=_
   rw[Bk.vB,bq,bp];omega
section
variable{f:E}{t:N}{d:Bk}{j e:Int}{g:ad}{l h c:Nat}
def ua(j:iA f t d.bz):wX 282 [.agg #[t.v,vi d.bL]] f λc=>0<=c/\c<=d.bz.length/\∀(i:Nat)(e:eK),d.bz[i]? =some e->(i:Int)<c->14<=e.op/\e.op<=17:=by
 apply Dd;simp -zeta only[dU];intro a;have w:=px a;have p:∀m∈[f.size],m<a.size:=by simp[a]
 clear_value a;have q:=j.aS;refine ik (n:=d.bz.length) (q▸j.kA) (λc M=>J a M/\∀(i:Nat)(e:eK),d.bz[i]? =some e->i<c->14<=e.op/\e.op<=17) ⟨di,λi e _ g=>V⟩ ?_;rintro c M I μ D ⟨l,B⟩ s
 have u:=w.O l;have R:∀{k:E},J f k->∃b:Int,vi (c:Int)=vi b/\(0<=b/\b<=d.bz.length/\∀(i:Nat)(e:eK),d.bz[i]? =some e->(i:Int)<b->14<=e.op/\e.op<=17)/\J f k:=cG;refine⟨λg=>?_,λg=>R u⟩;simp only[bh]at g;let⟨e,r⟩:=dY d.bz c;obtain⟨h,K,z,F,o,_⟩:=j.D r;refine⟨V,V,_,u.aR o,?_⟩;refine(xK e.op M).bK l p λy L A x v=>⟨_,rfl,λG=>s V _ ⟨v,λi N H C=>?_⟩,λ_=>R (u.O x)⟩;grind
def HQ(b:iA f t d.bz){q:Int}(G:0<=j/\j<=d.bz.length)(w:∀(o:Nat)(s:eK),d.bz[o]? =some s->(o:Int)<j->0<s.aN.length):
 wX 283 [.agg #[t.v,vi d.bL],vi j,vi q,vi e] f λc=>-1<=c/\(0<=c->c<j/\∃s:eK,d.bz[c.toNat]? =some s/\s.op=q/\s.aN[0]? =some e):=by
 apply KN
 simp -zeta only[dU]
 intro g
 have z:=px g
 clear_value g
 have K:=b.aS
 have F:=b.kA
 obtain⟨i,x⟩:∃i:Nat,j=i:=⟨j.toNat,V⟩
 subst x
 refine ik (n:=i) V (λc M=>J g M) di ?_
 rintro c M I μ D k p
 have u:=z.O k
 refine⟨λa=>?_,λa=>⟨-1,rfl,⟨V,λa=>V⟩,u⟩⟩
 simp only[bh]at a
 let⟨s,m⟩:=dY d.bz c
 let⟨h,N,l,E,r,g1,g2,v,B⟩:=b.D m
 have C:=l.aS
 have:=w c s m V
 let⟨A,y⟩:=dY s.aN 0
 refine⟨V,V,_,u.aR r,λH=>⟨V,V,_,u.aR v,cH,V,A,(l.ext u).D y,λL=>?_,λ_=>p V _ k⟩,λ_=>p V _ k⟩
 grind
def Tb(g:iA f t d.bz){b:Int}(A:0<=b/\b<=d.bz.length):wX 316 [.agg #[t.v,vi d.bL],vi b,vi j] f λc=>-1<=c/\c<d.bz.length:=by
 apply LX;simp -zeta only[dU];intro i;have r:=px i;clear_value i;have o:=g.aS;obtain⟨e,m⟩:∃e:Nat,b=e:=⟨b.toNat,V⟩;subst m;refine abv (e:=d.bz.length) (f:=e) V (o▸g.kA) (λc M=>J i M) di ?_;rintro c M I μ _ y l q
 have u:=r.O l;refine⟨λk=>?_,λk=>⟨-1,rfl,⟨V,V⟩,u⟩⟩;simp only[bh]at k;let⟨C,p⟩:=dY d.bz c;let⟨h,B,x,z,s,g1,g2,v,w⟩:=g.D p;have N:=q V _ l
 grind [J.aR]
def LZ(d:Bk)(hS:∀l∈g,l<f.size)(y:iA f t d.bz)(hw:d.w<=10^12):bJ dN 294 [.agg #[t.v,vi d.bL]] f λad z=>∃s,ad=.agg #[s.v,vi d.bL]/\GS g f z s d.bz/\J f z:=by
 let⟨bz,q⟩:=d;rw[Bk.vB]at hw;simp only[Bk.mL,Bk.lK]at*;apply vx;simp -zeta only[dU];intro h b j G p;let⟨x1,Z⟩:=fN (a:=h) (c:=b) rfl rfl;have s0:=pz h;have s1:b.size=f.size+2:=cG;have s2:=pz j;have s3:=pz G;have H:J j p:=by grind [J.push,J.aV]
 have ae:J b p:=(J.push b _).O H;have w:GS (j.size::h.size::g) b p (.mk b.size 0 0 0) []:=(GS.bI _ b).ext j9.aO H;have K:dJ p j.size fm [.s (.mk b.size 0 0 0),.i q]:=dJ.aV (m:=G) (o:=0) (r:=[.s (.mk b.size 0 0 0),.i q]) (dJ.push j _ _);clear_value p;have T:∀l∈h.size::g,l<b.size:=by grind [dC,J.aP]
 have ab:=y.aS;have ag:=jH bz;refine ik (n:=bz.length) (ab▸y.kA) (λc M=>J b M/\∃s,GS (j.size::h.size::g) b M s (bz.take c)/\dJ M j.size fm [.s s,.i q]) ⟨ae,_,w,K⟩ ?_;rintro c A af μ hk ⟨D,s,v,B⟩ ac
 have k:=x1.O D;have aa:∀d∈[h.size,f.size],d<A.size:=by grind [J.lt]
 have hy:=v.cD;have z5:=D.aP;have E:=B.lt;refine dit (λR=>?_) λR=>?_
 .let⟨e,F⟩:=dY bz c;let⟨pa,pk,U,Y,w,g1,g2,P,Q⟩:=y.D F;have ah:=Tj F;refine⟨s,B.dz 0,V,V,_,k.aR w,_,k.aR g1,_,k.aR g2,_,k.aR P,_,k.aR Q,?_⟩;refine(Cw (e:=s.bq::j.size::h.size::g) (dC (dC T z5 E) bW hy.2) (U.ext k) (Y.le k.le) V (λd _=>Av d)).bK (J.cZ A) aa λL M x' C W X N u _=>⟨_,_,_,_,_,rfl,bB (u.bC _ E) _,?_⟩;subst N;intro m7;refine Gr.bT (g:=[.i 0,.i 0,.i 0,.s .nil,.s .nil]) (j:=0) (i:=[.s s,.i q]) (u:=e) j9.aO cH (v.ext j9.aO u) ((D.O u).fz []) ⟨L,M,rfl,W,X⟩ cG (B.ext u) bO cH ⟨V,bO⟩ (λl x=>by have I:=Z l x;have O:=u.aP;omega) λr' z g' I O z' q'=>ac V _ ⟨O.ext,r',?_,I⟩
  grind [bX]
 .rw[eW V]at v;refine⟨s,B.dz 0,q,B.dz 1,?_⟩;intro C;have u:Fz [h.size] A C:=by grind [Fz.cZ,Fz.aV]
  have F:GS g b C s bz:=v.re j9.aO u bO cG λl x=>bu (by simp[x]);grind [Gr.da,j9.aO,J.aV]
def Z6{f:af}{d:Prop}{a:au}(j:WL f l d h a){e b:eK}(g:a[c]? =some e)(p:WS f l d (h+dc (a.take c)) b)(hd:dn b=dn e):
 WL f l d h (a.set c b)/\dc (a.set c b)=dc a/\sw (a.set c b)+e.w=sw a+b.w:=by
 have o:=bA g
 have k:a.set c b=a.take c++([b]++a.drop (c+1)):=by rw[List.set_eq_take_append_cons_drop,ba o];rfl
 have i:a=a.take c++([e]++a.drop (c+1)):=by
  let⟨m,n⟩:=ph.1 g;rw[<-n];show a=a.take c++(a[c]::a.drop (c+1));rw[<-aac m,jT]
 have q:dc a=dc (a.take c)+(dn e+dc (a.drop (c+1))):=by
  conv=>lhs;rw[i]
  rw[eZ,eZ,nH,xh];omega
 have r:sw a=sw (a.take c)+(e.w+sw (a.drop (c+1))):=by
  conv=>lhs;rw[i]
  rw[gH,gH,pW,zJ];omega
 rw[k]
 refine⟨(j.ME c).fy ((WL.lW p).fy ?_),?_,?_⟩
 .have:=j.uD (c+1)
  rw[uU g]at this
  rw[nH,xh,hd,uq,jP];exact this
 .rw[eZ,eZ,nH,xh];omega
 .rw[gH,gH,pW,zJ];omega
def _root_.Go.Vc.Gr.kG{α:Type}{r:E}{k b:Nat}{R:E->ae->α->Prop}{s:N}{l:List α}(m:Gr g r f k b R s l){e:α}(p:l[c]? =some e):∃a,R (dg (s.bq::g) f) a e/\jt f s.bq (s.off+c*b) a:=by
 let⟨t,j,n,d⟩:=m;let⟨a,h⟩:=dY j c cG;refine⟨a,d.eN c a e h p,λq i o=>?_⟩;have:=n.kV (c*b+q) i (jY d.aP h o);grind [Nat.add_assoc]
def Og(hS:∀c∈g,c<f.size)(w:iA f t d.bz){L:af}(aj:WB L l True h d)(hw:d.w<=10^12)(hx:0<=e/\e<(h:Int))(aX:h<=10^12)(j:Int):
 bJ dN 281 [.agg #[N.v t,vi d.bL],vi e,vi j] f λZ U=>∃s o,Z=.agg #[N.v s,vi o.bL]/\iA U s o.bz/\(iA (dg g f) t d.bz->iA (dg g U) s o.bz)/\(WB L l True h o/\o.w<=d.w)/\J f U:=by
 apply Hh
 simp -zeta only[kd]
 intro n u
 let⟨B,q⟩:=fN (a:=n) (c:=u) rfl rfl
 have s1:=pz n
 have s2:u.size=f.size+2:=by simp[u,s1]
 clear_value u
 let⟨R,aH⟩:=aj.cC
 have C:∀{ab M':E},J u ab->J u M'->∀D,aR M' f.size D=aR ab f.size D:=λp h' D=>bB (by rw[h'.bC _ (q _ bO),p.bC _ (q _ bO)]) D
 refine(ua (w.le B.le)).bK (J.cZ u) q λn1 m3 P K _=>⟨_,rfl,C di K _,C di K _,?_⟩
 refine(HQ (w.le (B.O K).le) (q:=16) (e:=e) ⟨P.1,P.2.1⟩ λak s hi aC=>?_).bK K q λn2 m4 aD x4 G=>⟨_,rfl,?_⟩
 .have:=P.2.2 ak s hi aC
  have:=(R ak s hi).iL.lW V
  omega
 refine(ua (w.le (B.O G).le)).bK G q λn3 m5 ai x5 H=>⟨_,rfl,C G H _,C G H _,?_⟩
 refine(Tb (w.le (B.O H).le) (j:=j) ⟨ai.1,ai.2.1⟩).bK H q λn4 z a4 x6 v6=>⟨_,rfl,?_⟩
 have Y:=B.O v6
 have ap:∃s o,Value.agg #[N.v t,vi d.bL]=.agg #[N.v s,vi o.bL]/\iA (aV z n.size 0 [.s t,.i d.bL]) s o.bz/\(iA (dg g f) t d.bz->iA (dg g (aV z n.size 0 [.s t,.i d.bL])) s o.bz)/\(WB L l True h o/\o.w<=d.w)/\J f (aV z n.size 0 [.s t,.i d.bL]):=
  have M:=Y.aV (b:=n.size) V 0 [.s t,.i d.bL]
  ⟨t,d,rfl,w.le M.le,λp=>p.le M.eU,⟨aj,bW⟩,M⟩
 refine⟨λ_=>ap,λh2=>⟨λ_=>ap,λh4=>?_⟩⟩
 simp only[dF]at h2 h4
 have z6:=v6.aP
 have ae:∀c∈n.size::g,c<z.size:=λc i=>by
  rcases aY.1 i with m|m
  .omega
  .have:=hS c m;omega
 refine(LZ d ae (w.le Y.le) hw).aO λZ m7⟨F,m,g7,x7⟩=>⟨λc i=>x7.bC c (oh (q c i)),_,_,m,?_⟩
 intro m8 W
 obtain⟨x9,s9⟩:=pv W
 clear_value W
 have y7:=g7.cD
 have z7:=x7.aP
 have g9:=g7.ext j9.aO x9
 have ah:∀c∈[m7.size,n.size,f.size],c<W.size/\c≠F.bq:=λc i=>by simp at i;omega
 refine(lA (c:=F.bq::n.size::g) (λc i=>?_) 17 e).aO λZ am⟨ac,al,m,aA,aB,A⟩=>⟨λc i=>A.bC c (ah c i).1,_,_,_,_,_,m,bB (A.bC _ V) _,?_⟩
 .rcases aY.1 i with m|m
  .omega
  .have:=ae c m;omega
 have ad:=g9.ext j9.aO A
 have a9:=ad.aS cH
 let⟨a3,X,Q,a5,aZ⟩:=aD.2 V
 have ar:J z am:=(x7.O x9).O A
 have aE:=bA Q
 let⟨aN,O,aw,aL⟩:=Gr.eB (k:=n2.toNat) (cs:=[.i 17,.i 0,.i 0,.s ac,.s al]) (a:=iK 17 e) j9.aO ad (ar.fz []) aE ⟨ac,al,rfl,aA,aB⟩
 refine⟨V,V,aN,?_⟩
 intro aJ
 have CE:=A.aP
 have ba:aJ.size=am.size:=bD _ _ _ _
 refine⟨λc i=>aL c (ah c i).2,V,V,?_⟩
 have aI:=R _ X Q
 have w1:=aI.iL.lW (bu V)
 have d1:dn (iK 17 e)=dn X:=by
  unfold dn;rw[aU (λp:tw _=>by have:=p.2;simp only[iK]at this;omega),aU (λp:tw _=>oh p.2)]
 let⟨aq,aP,bc⟩:=Z6 R Q (Ig (d:=17) (v:=e) cH ⟨hx.1,V⟩) d1
 have a7:=eK.pD X
 have a1:(iK 17 e).w=2:=rfl
 let⟨y,T⟩:=dY (d.bz.set n2.toNat (iK 17 e)) n4.toNat fj
 have a2:=O.aS cH
 obtain⟨aT,⟨pa,pk,rfl,aF,aG⟩,np⟩:=O.kG T
 have e0:=np 0 _ rfl;have e1:=np 1 _ rfl;have e2:=np 2 _ rfl;have e3:=np 3 _ rfl;have e4:=np 4 _ rfl
 refine⟨_,e0,_,e1,_,e2,_,e3,_,e4,?_⟩
 intro a_ an
 obtain⟨I,bb⟩:=pv an
 clear_value an
 have ay:=O.ext j9.aO I
 have av:eR (1+e)=1+e:=dt V V
 rw[av]
 have au:=(aw.bZ I)
 let⟨aO,az,ax,aM⟩:=Gr.eB (k:=n4.toNat) (cs:=[.i y.op,.i y.cE,.i (1+e),.s pa,.s pk]) (a:=⟨y.op,y.cE,1+e,y.aN,y.dm⟩) j9.aO ay au fj ⟨pa,pk,rfl,bd.le I.eU aF,rI.le I.eU aG⟩
 refine⟨V,V,aO,?_⟩
 intro ao
 have r:=aq _ y T
 let⟨aS,aQ,be⟩:=Z6 (b:=⟨y.op,y.cE,1+e,y.aN,y.dm⟩) aq T ⟨⟨r.iL.op,r.iL.aN,r.iL.lW,⟨by show 0<=1+e;omega,by show 1+e<=_;omega⟩,r.iL.MG,r.iL.lQ,r.iL.jr⟩,r.dm⟩ rfl
 refine⟨λc i=>aM c (by simp at i;omega),?_⟩
 intro aK
 have a8:(⟨y.op,y.cE,1+e,y.aN,y.dm⟩:eK).w=y.w:=rfl
 have a0:=Bk.pD d
 have a6:=jH d.bz
 have aa:iA (dg (n.size::g) ao) F _:=az.rO j9.aO (S:=n.size::g) (λi=>by
  rcases aY.1 i with m|m
  .omega
  .have:=hS _ m;omega) cH fj
 have ag:Le (dg (n.size::g) ao) (dg g aK):=dQ bO λc i=>aW _ i
 refine⟨F,.mk _ d.bL,rfl,(aa.le ag).le fG,λ_=>aa.le ag,⟨.of aS (by rw[aQ,aP];exact aH),?_⟩,(Y.O ax.ext).aV V _ _⟩
 rw[Bk.vB];omega
end
def YQ(c:af)(d:List jS)(g:Nat):Prop:=∀(b:Bk),b.w<=g->∀(S:ad)(m:E),(∀a∈S,a<m.size)->∀(f r t eG:N)(l:ab)(a:Nat),ir m f r c d->iA m t b.bz->bd m eG l->WB c d.length True a b->a+4*b.w<=10^12->l.length+4*b.w<=10^12->
 rl 233 [.agg #[f.v,r.v],.agg #[t.v,vi b.bL],eG.v] m S λe=>WB c d.length True a e/\e.w<=b.w
def Oh{B:ad}{f:E}(hS:∀c∈B,c<f.size){Q ac pa pk eG:N}{h:af}{y:List jS}{a:eK}{t:ab}{C:Nat}(p:ir f Q ac h y)(ha:bd f pa a.aN)(hk:rI f pk a.dm)(F:bd f eG t)(X:WS h y.length True C a)(hb:C+4*a.w<=10^12)(aS:t.length+4*a.w<=10^12){k:Nat}{i:Bk}(T:a.dm[k]? =some i)(ih:YQ h y i.w):
 rl 254 [.agg #[Q.v,ac.v],tr a pa pk,vi k,eG.v] f B λj=>WB h y.length True (C+FR h a.op a.cE k) j/\j.w<=i.w:=by
 apply Hi
 simp -zeta only[dU]
 intro aa r b
 let⟨d,hl,s1,g,s3⟩:=uy (a:=aa) (c:=r) (d:=b) rfl rfl rfl
 clear_value b
 let⟨ah,ht,f0,f1⟩:=hk.D T
 have aP:=bA T
 have aQ:=hk.aS
 have aM:=ha.aS
 have aX:=eK.pD a
 have aO:=AZ T
 have ae:=X.dm k i T
 have ay:∀{M:E},J b M->∀c∈r.size::B,c<M.size:=λxx c o=>by
  grind [J.aP]
 have j7:∀(M:E)(Y s:N)(Z:ab)(j:Bk)(Lx:ad),J f M->J b M->(∀c∈Lx,c<M.size)->iA M s j.bz->bd M Y Z->Z.length<=t.length+1->WB h y.length True (C+FR h a.op a.cE k) j->j.w<=i.w->
  bJ dN 233 [.agg #[Q.v,ac.v],.agg #[s.v,vi j.bL],Y.v] M λv q=>gL Lx M q/\∃(g:N)(b2:Bk),v=.agg #[g.v,vi b2.bL]/\∀P,P=aV q r.size 0 [.s g,.i b2.bL]->∃s3 b3,(Value.agg #[g.v,vi b2.bL])=.agg #[s3.v,vi b3.bL]/\iA (dg B P) s3 b3.bz/\(WB h y.length True (C+FR h a.op a.cE k) b3/\b3.w<=i.w)/\J f P:=λM Y s Z j Lx xm aK aw hs aC aT aH aG=>by
  have h3:=Vw p.dh a.op a.cE k
  refine(ih j aG (r.size::B) M (ay aK) Q ac s Y Z _ (p.le xm.le) hs aC aH V V).aO λv q⟨g,b2,e,aE,az,x'⟩=>⟨x'.fq aw,g,b2,e,λP ax=>⟨g,b2,rfl,?_,⟨az.1,V⟩,?_⟩⟩
  .rw[ax];exact aE.le (dQ bO λc o=>aW _ o)
  .grind [J.O,J.aV]
 refine⟨λR=>?_,λR=>?_⟩
 .refine⟨V,V,_,d.aR f0,_,d.aR f1,?_⟩
  refine(j7 b eG ah t i _ d di hl (ht.le d.le) (F.ext d) V ae bW).aO λv q⟨n,g,b2,e,h2⟩=>⟨n,_,_,e,?_⟩
  grind
 .have R:a.op=8:=cG
  obtain⟨aN,_⟩:=X.iL.lQ R
  have aL:=X.iL.lW (bG (bG R))
  let⟨z,hy⟩:=dY a.aN 0
  let⟨y0,y1⟩:=X.iL.aN z (aZ hy)
  refine⟨cH,V,z,(ha.ext d).D hy,V,V,_,d.aR f0,_,d.aR f1,?_⟩
  intro m4 w
  have x5:J b w:=by grind [J.push,J.aV]
  have s5:w.size=b.size+1:=by grind [bD]
  clear_value w
  have I:=d.O x5
  have H:∀{M:E},J w M->∀c∈[b.size,r.size,aa.size,f.size],c<M.size:=λxx c o=>by have:=xx.aP;simp at o;omega
  refine(fF (F.ext I) z).jQ.bK (J.cZ w) (H di) λbb m6 l _=>⟨_,rfl,λ_=>?_,λ_=>?_⟩
  .have K:=I.O l
   let⟨cn,aA⟩:=dY (cT h a.cE) k
   have A:∀{M M':E},J w M->J M M'->∀c∈[b.size,r.size,aa.size,f.size],∀ao,aR M' c ao=aR M c ao:=by grind [bB,J.bC]
   refine(ku (e:=[]) bO (p.bQ.le K.le) p.dh a.cE).bK l (H di) λs7 l7 m7 W e x7 v7=>⟨_,rfl,A l x7 _ bO _,A l x7 _ bO _,A l x7 _ bO _,?_⟩
   subst e
   have W:=W.le fG
   have l7:=W.aS
   refine⟨V,V,cn,W.D aA,?_⟩
   refine(fS (e:=[]) (p.bQ.le ((I.O v7).le.O Ej)) p.dh cn).bK v7 (H di) λs8 l8 m8 aU e x8 v8=>⟨_,rfl,A v7 x8 _ bO _,A v7 x8 _ bO _,?_⟩
   subst e
   have z8:=v8.aP
   have h3:=Vw p.dh a.op a.cE k
   have ak:iA (dg [b.size] m8) ah i.bz:=ht.le ((Ej (m:=f)).O ((I.O v8).dg λc o=>bG cG))
   refine(Og (g:=[b.size]) cG (ak.le fG) ae V (e:=z) ⟨y0,V⟩ V (s8.len:Int)).aO λv m9⟨s9,b9,e,_,aF,D,x9⟩=>⟨λc o=>x9.bC c (H v8 c o),_,_,e,?_⟩
   intro u
   have v9:=v8.O x9
   have aj:J b u:=by grind [J.O,J.aV]
   have U:iA u s9 b9.bz:=((aF ak).le (dQ (a:=[b.size]) bO λ_ G=>G)).le fG
   have a2:u.size=m9.size:=bD _ _ _ _
   have G:∀{M:E},u.size<=M.size->∀c∈[b.size,r.size,aa.size,f.size],c<M.size:=cG
   clear_value u
   refine(ua U).bK (J.cZ u) (G bW) λa0 aY ag au _=>⟨_,rfl,?_⟩
   obtain⟨aI,_⟩:=D.1.cC
   refine(HQ (U.le au.le) (q:=17) (e:=z) ⟨ag.1,ag.2.1⟩ λal s hj aD=>?_).bK au (G bW) λa1 aJ _ a3 L=>⟨_,rfl,λ_=>?_,λ_=>?_⟩
   .have:=ag.2.2 al s hj aD
    have:=(aI al s hj).iL.lW V
    omega
   .have O:=aj.O L
    refine(pJ (S:=[]) bO ((F.ext (d.O O)).le Ej) z V).bK L (G bW) λaq am an av ap a4 ai=>⟨_,rfl,?_⟩
    have ar:=aj.O ai
    have aB:bd an aq am:=(av.cz bO (oh ap.2)).le fG
    refine(j7 an aq s9 am b9 _ (d.O ar) ar (G ai.aP) (U.le ai.le) aB ap.2 D.1 D.2).aO λv q⟨n,g,b2,e,h2⟩=>⟨n,_,_,e,?_⟩
    grind
   .have O:=aj.O L
    refine(j7 aJ eG s9 t b9 _ (d.O O) O (G L.aP) (U.le L.le) (F.ext (d.O O)) V D.1 D.2).aO λv q⟨n,g,b2,e,h2⟩=>⟨n,_,_,e,?_⟩
    grind
  .have K:=I.O l
   refine(j7 m6 eG ah t i _ K (x5.O l) (H l) (ht.le K.le) (F.ext K) V ae bW).aO λv q⟨n,g,b2,e,h2⟩=>⟨n,_,_,e,?_⟩
   grind
section
variable{c:List jS}
theorem YQ.iG{b:af}{N a:Nat}(h:YQ b c N)(e:a<=N):YQ b c a:=λd f=>h d (fA f e)
def KJ{I:af}:∀N:Nat,YQ I c N:=by
 intro N;induction N with
 |zero=>intro u hb;have:=u.Nr;omega
 |succ N q=>
 intro u hb l ab hS aA aS aT eG aQ ae hn Z ao av aC aG;let⟨bz,z⟩:=u;have ai:=av.cC;rw[Bk.vB]at*;simp only[Bk.mL,Bk.lK]at*;apply Dj;simp -zeta only[kd,nJ];intro ac g h j m5 F;let⟨x3,hl,s1,s2,s3⟩:=uy (a:=ac) (c:=g) (d:=h) rfl rfl rfl;have s4:=pz j;have aj:=py F;have ay:J h F:=(J.push h _).O aj;have g0:GS (j.size::g.size::l) h F (.mk h.size 0 0 0) []:=(GS.bI _ h).ext j9.aO aj;have B0:dJ F j.size fm [.s (.mk h.size 0 0 0),.i z]:=dJ.aV (m:=m5) (o:=0) (r:=[.s (.mk h.size 0 0 0),.i z]) (dJ.push j _ _);have al:∀d∈g.size::l,d<h.size:=dC hS x3.aP (hl _ bO);clear_value F;clear_value h;have ap:=Z.aS;have ar:=FF bz;have aK:=jH bz;refine ik (n:=bz.length) (ap▸Z.kA) (λk M=>J h M/\∃s t,GS (j.size::g.size::l) h M s t/\dJ M j.size fm [.s s,.i z]/\t.length=k/\WL I c.length True ae t/\dc t=dc (bz.take k)/\sw t<=sw (bz.take k)) ⟨ay,_,[],g0,B0,rfl,WL.gD,bO,bO⟩ ?_;rintro k M az μ hk ⟨xM,s,t,K,B,aI,wl,P,au⟩ ax
 have w:=x3.O xM;have hy:=K.cD;have aB:=B.lt;refine dit (λO=>?_) λO=>?_
 .let⟨x,C⟩:=dY bz k;let⟨pa,pk,ha,W,e0,e1,e2,e3,e4⟩:=Z.D C;have aN:=Tj C;have aP:=eK.pD x;have aD:=xe x.dm;have aO:=ub C;have aM:=uU C;have aa:=ai.1 k x C;have aF:=xg (bz.take k);have aJ:=jH (bz.take k);have aL:=ar (k+1);refine⟨V,V,_,w.aR e0,_,w.aR e1,_,w.aR e2,_,w.aR e3,_,w.aR e4,?_⟩;intro m7 p m9;obtain⟨x8,s8⟩:=pv p;have x9:=px m9;have ak:GB (s.bq::j.size::g.size::l) p m9 (.mk p.size 0 0 0) []:=GB.bI p;clear_value m9;clear_value p;have U:∀d∈s.bq::j.size::g.size::l,d<p.size:=λd f=>by
   simp only[aY]at f;rcases f with e|e|e|e
   .omega
   .omega
   .omega
   .have:=hS d e;omega
  have X:=W.aS;refine gP (n:=x.dm.length) (X▸W.kA) (λD ks y=>J p y/\∃lk,GB (s.bq::j.size::g.size::l) p y ks lk/\lk.length=D/\(∀(v:Nat)(u:Bk),lk[v]? =some u->WB I c.length True (ae+dc (bz.take k)+FR I x.op x.cE v) u)/\bw lk<=bw (x.dm.take D)) ⟨x9,[],ak,rfl,bO,bO⟩ ?_;rintro D ks H I2 μ2 hj ⟨G,lk,T,aH,ah,an⟩ aw;have A:J ab H:=w.O (x8.O G);have yk:=T.cD;have z2:=G.aP;have Y:∀{y:E},p.size<=y.size->∀d∈[M.size,g.size,ac.size,ab.size],d<y.size:=λO d f=>by simp at f;omega
  refine dit (λh2=>?_) λh2=>?_
  .let⟨u,Q⟩:=dY x.dm D;have aE:=AZ Q;have am:=yL Q;refine(Oh (B:=ks.bq::s.bq::j.size::g.size::l) (λd f=>?_) (hn.le A.le) (ha.ext A) (W.le A.le) (ao.ext A) aa V V Q (q.iG V)).bK (J.cZ H) (Y z2) λss b' aR aq ag ad _=>⟨_,_,rfl,?_⟩
   .rcases aY.1 f with e|e
    .omega
    .have:=U d e;omega
   refine GB.nA (c:=b') (T.ext vD.aO ad) ((G.O ad).fz []) aq V λr' y g2 f2 aU q2=>⟨J.sK ((G.O ad).cw _) f2.ext (Y bW),aw V _ _ ⟨f2.ext,_,g2,fj,λv b2 q=>?_,?_⟩⟩
   .rcases eJ v lk.length with R|R
    .rw[dX R]at q;exact ah v b2 q
    .rw[dL R]at q;have:v -lk.length=0:=by have:=bA q;simp at this;omega
     rw[this]at q;simp at q;subst q;have:v=D:=V;subst this;exact ag.1
   .rw[sX,yK,DM,am];have:=ag.2;omega
  .have ad:lk.length=x.dm.length:=V;rw[eW V]at an;have R:J M H:=x8.O G;have Q:=B.ext R;have G2:=K.ext j9.aO R;refine⟨s,Q.dz 0,?_⟩;refine(dA (s.bq::j.size::g.size::l) (ha.ext A) V).bK (J.cZ H) (Y z2) λs' l' ag ga e q _=>⟨_,rfl,bB (q.bC _ V) _,bB (q.bC _ V) _,bB (q.bC _ V) _,bB (q.bC _ Q.lt) _,?_⟩;subst e;intro am;refine Gr.bT (g:=[.i 0,.i 0,.i 0,.s .nil,.s .nil]) (L:=[M.size,g.size,ac.size,ab.size]) (j:=0) (v:=72) (i:=[.s s,.i z]) (u:=⟨x.op,x.cE,x.cY,x.aN,lk⟩) j9.aO cH (G2.ext j9.aO q) (((xM.O R).O q).fz []) ⟨s',ks,rfl,(ga.cz (λd f=>oh (U d f)) V),rI.le q.eU (T.cz vD.aO U cH (by show lk.length<=_;omega))⟩ V (Q.ext q) bO cH ⟨V,bO⟩ (λd f=>by have h1:=q.aP;simp at f;omega) λr' m' g' B' f' z' q'=>ax V _ ⟨f'.ext,r',_,g',B',fj,wl.By (aa.Uj id aa.iL.cY ad ah|>λO=>by rw[P];exact O),?_,?_⟩
   .rw[eZ,nH,xh,P];have e:dn (⟨x.op,x.cE,x.cY,x.aN,lk⟩:eK)=dn x:=rfl;omega
   .rw[gH,pW,zJ];have h5:(⟨x.op,x.cE,x.cY,x.aN,lk⟩:eK).w=1+x.aN.length+bw lk:=eK.pD _;omega
 .have X:k=bz.length:=V;subst X;rw[fx]at P au;refine⟨s,B.dz 0,z,B.dz 1,?_⟩;intro m7;have p:Le (dg (j.size::g.size::l) M) (dg l m7):=dQ bO λd f=>aW _ (aW _ f);have q:=K.ne B cH;refine⟨s,.mk t z,rfl,iA.le p (K.rO j9.aO (λf=>?_) cH (by show t.length<=_;omega)),⟨.of wl (by rw[P];exact ai.2),by rw[Bk.vB];omega⟩,w.aV V _ _⟩;rcases aY.1 f with e|e
  .exact q e
  .have:=al _ e;omega
def Ri{f:ad}{d:E}(L:∀a∈f,a<d.size){p r:N}{i:af}(j:ir d p r i c){W:Nat}(hW:W<=200000000000)(hk:CH i c True W):zg 197 [.agg #[p.v,r.v]] d f i λA=>CH i A True W:=by
 apply KK;simp -zeta only[dU];intro g a2;let⟨B,O⟩:=fN (a:=g) (c:=a2) rfl rfl;have s1:=pz g;clear_value a2;have an:=j.lz.aS;have ax:=j.pF;refine(jw (b:=g.size::f) (dC L B.aP (O _ bO)) (j.le B.le).bQ j.dh).aO λ_ T⟨ae,ag,ai,X⟩=>?_;subst ag;refine⟨X.fq O,_,rfl,?_⟩;intro U ar ac;have u2:=B.O X;let⟨x5,B0,g0,s3,s5⟩:=nY (b:=U.size::g.size::f) kZ.aO (d:=T) (a:=U) (c:=ar) (j:=ac) rfl rfl rfl;clear_value ac;have P:∀a∈[g.size,d.size],a<T.size:=by grind [J.lt]
 have ah:∀a∈g.size::f,a<T.size:=λa z=>X.lt (dC L B.aP (O _ bO) a z);refine nO (R:=λb e M=>∃p r A,Value.agg #[b.v,e.v]=.agg #[p.v,r.v]/\ir (dg f M) p r i A/\CH i A True W/\J d M) (q:=c.length) (f:=d) (b:=f) kZ.aO cH cH L ⟨V,P _ bO⟩ u2 s3 ai an V x5 B0 g0 (λ_ q=>q.aX.length<=3/\q.cR.length<=3/\WB i c.length True q.aX.length q.eV/\q.eV.w<=W) (λb o Q s h1 h2 e h k=>⟨b,o,Q,rfl,⟨h1,h2,j.dh,V⟩,Lz hk.iT e h,k⟩) λaq M st Q av μ aj aw Y Z D au=>?_
 let⟨q,hq⟩:=dY c aq aj;let⟨am,al,ap,hw⟩:=hk.eN q (aZ hq);have y:=u2.O Y;let⟨ay,az,b,c1,c2,c3,F,H,I,u,w⟩:=j.lz.D hq;have G:∀{v:Value}{b o:Nat},aR d b o=some v->aR M b o=some v:=λK=>y.aR K;refine⟨st,D.dz 1,V,V,_,G F,_,G H,_,G I,_,G u,_,G w,V,V,_,G u,_,G w,?_⟩;intro k;have hy:=Z.cD;have aa:=D.lt;have zM:=Y.aP;obtain⟨e,s7⟩:=pu k;have ak:bd k (.mk M.size 0 0 0) []:=pN;clear_value k;have h:∀{v:Value}{b o:Nat},aR d b o=some v->aR k b o=aR M b o:=by grind [J.aR]
 have C:∀{b o:Nat},b<M.size->aR k b o=aR M b o:=λK=>bB (e.bC _ K) _;have x:d.size<M.size:=by grind [J.lt]
 refine⟨h u,h w,C x,C x,C x,h F,h H,h I,h u,h w,C x,C aa,?_⟩;refine(KJ q.eV.w q.eV bW (st.bq::U.size::g.size::f) k (λa z=>?_) p r b (.mk M.size 0 0 0) [] q.aX.length (j.le (y.O e).le) (c3.le (y.O e).le) ak ap V cG).bK (Y.O e) P λss b' M1 ao ab s u1=>⟨_,_,rfl,?_⟩
 .grind
 have t:∀{v:Value}{b o:Nat},aR d b o=some v->aR M1 b o=aR k b o:=by grind [J.aR]
 refine⟨t F,t H,t I,t u,t w,bB (s.bC _ (e.lt x)) _,bB (s.bC _ (e.lt aa)) _,?_⟩;exact Al (b:=g.size::f) (v:=ae) (x:=Q) ah (λa z=>by have h1:=P a z;have h2:=u1.aP;omega) u1 (Z.ext kZ.aO (e.O s)) (D.ext (e.O s)) V (c1.ext (y.O (e.O s))) (c2.ext (y.O (e.O s))) ao ⟨V,V⟩ V λs' M' g' B' x'=>au s' M' _ g' B' x' ⟨am,al,ab.1,fA ab.2 hw⟩
end
section
variable{a:E}{t:N}{b:Bk}{c:ad}
def WK(a:Int)(l:au):Nat:=l.countP λs=>s.op=a
def adq:∀l:au,WK 14 l+WK 15 l<=l.length
 |[]=>by simp[WK]
 |s::l=>by
  have:=adq l;grind [WK,List.length_cons]
def Y3(a:Int)(l:au)(s:eK):WK a (l++[s])=WK a l+(if s.op=a then 1 else 0):=by
 simp[WK,List.countP_append,List.countP_cons]
def Mu(f:iA a t b.bz):wX 278 [.agg #[t.v,vi b.bL]] a λk=>0<=k/\k<=b.bz.length/\∀(i:Nat)(c:eK),b.bz[i]? =some c->(i:Int)<k->c.op=14\/c.op=15:=by
 apply Fl;simp -zeta only[dU];intro d;have A:=px d;have r:∀m∈[a.size],m<d.size:=by simp[d]
 clear_value d;have s:=f.aS;refine ik (n:=b.bz.length) (s▸f.kA) (λk M=>J d M/\∀(i:Nat)(c:eK),b.bz[i]? =some c->i<k->c.op=14\/c.op=15) ⟨di,λi c _ h=>V⟩ ?_;rintro k M I μ K ⟨j,G⟩ y
 have u:=A.O j;have R:∀{g:E},J a g->∃e:Int,vi (k:Int)=vi e/\(0<=e/\e<=b.bz.length/\∀(i:Nat)(c:eK),b.bz[i]? =some c->(i:Int)<e->c.op=14\/c.op=15)/\J a g:=cG;refine⟨λh=>?_,λh=>R u⟩;simp only[bh]at h;let⟨c,v⟩:=dY b.bz k;let⟨l,w,D,L,o,g1,g2,p,q⟩:=f.D v;refine⟨V,V,_,u.aR o,_,u.aR g1,_,u.aR g2,_,u.aR p,_,u.aR q,?_⟩;refine(EU (x:=c) l w M).bK j r λC P F B z=>⟨_,rfl,λN=>y V _ ⟨z,λi Q O H=>?_⟩,λ_=>R (u.O B)⟩;grind
def Ct(X:∀j∈c,j<a.size)(A:iA a t b.bz){e:Nat}(hm:e<=b.bz.length)(f:Int)(H:∀(i:Nat)(s:eK),b.bz[i]? =some s->i<e->0<s.aN.length)(Z:b.bz.length<=10^12):
 od 279 [.agg #[t.v,vi b.bL],vi e,vi f] a c λl=>(∀y∈l,∃(i:Nat)(s:eK),i<e/\b.bz[i]? =some s/\y∈s.aN)/\l.length<=WK f (b.bz.take e):=by
 apply Gz
 simp -zeta only[dU]
 intro d v
 have C:=px d
 have K:∀j∈[a.size],j<d.size:=by simp[d]
 have O:=px v
 have G:GI c d v (.mk d.size 0 0 0) []:=GI.gD c d
 clear_value v
 clear_value d
 have ac:=A.aS
 refine gP (n:=e) V (λk s M=>J d M/\∃l,GI c d M s l/\(∀y∈l,∃(i:Nat)(s:eK),i<e/\b.bz[i]? =some s/\y∈s.aN)/\l.length<=WK f (b.bz.take k)) ⟨O,[],G,bO,bO⟩ ?_
 rintro k s M Q μ hk ⟨h,l,m,p,L⟩ B
 have u:=C.O h
 refine dit (λo=>?_) λo=>?_
 .let⟨x,r⟩:=dY b.bz k
  let⟨S,kk,z,ab,D,T,U,E,W⟩:=A.D r
  have Y:=z.aS
  have:=H k x r V
  let⟨y,N⟩:=dY x.aN 0
  have I:WK f (b.bz.take (k+1))=WK f (b.bz.take k)+(if x.op=f then 1 else 0):=by rw[bX r,Y3]
  have aa:WK f (b.bz.take k)<=(b.bz.take k).length:=List.countP_le_length
  have ad:=Rl k b.bz
  refine⟨V,V,_,u.aR D,λq=>⟨V,V,_,u.aR E,cH,V,y,(z.ext u).D N,?_⟩,λq=>B V _ _ ⟨h,l,m,p,?_⟩⟩
  .intro m3
   simp only[bP]at q
   rw[ba q]at I
   refine GI.nA m (h.fz []) V λae R F w _ _=>⟨J.sK (h.cw _) w.ext K,B V _ _ ⟨w.ext,_,F,λP g=>?_,fj⟩⟩
   rcases bR.1 g with g|g
   .exact p P g
   grind [aZ]
  grind [beq_eq_false_iff_ne]
 .have g:k=e:=V
  subst g
  exact⟨s,l,rfl,m.da (λ_ o=>o) C.aP,⟨p,L⟩,u⟩
def WQ:∀{l:au},(∀x∈l,dn x=0)->dc l=0
 |[],_=>rfl
 |x::l,h=>by rw[nH,h x cK,WQ λy a=>h y (aW _ a)]
def ZU:∀{l:au},(∀x∈l,2<=x.w)->2*l.length<=sw l
 |[],_=>bO
 |x::l,h=>by
  have b:=h x cK;have c:=ZU λy a=>h y (aW _ a);grind [pW,List.length_cons]
def Qo(hS:∀e∈c,e<a.size){P:N}{o:ab}{ds:af}{nr f:Nat}(p:iA (dg c a) t b.bz)(hf:bd a P o)(a5:o.length<=3)(ac:WB ds nr True (f+o.length) b)(hw:b.w<=100000000000)(ha:f<=10^12){g:Int}(hx:0<=g/\g<(f:Int)):
 rl 253 [.agg #[t.v,vi b.bL],vi g,P.v,vi f] a c λb'=>WB ds nr True (f+o.length) b'/\b'.w<=b.w+8:=by
 apply Jf
 simp -zeta only[dU]
 intro q ae
 let⟨w,B⟩:=fN (a:=q) (c:=ae) rfl rfl
 have s1:=pz q
 clear_value ae
 let⟨ad,ba⟩:=ac.cC
 have aa:=p.le fG
 have a1:=Bk.pD b
 have bf:=jH b.bz
 have bk:=p.aS
 have a3:=p.lZ
 have a6:=hf.aS
 refine(Mu (aa.le w.le)).bK (J.cZ ae) B λmn m3 a8 x3 _=>⟨_,rfl,?_⟩
 obtain⟨kn,aK⟩:∃kn:Nat,mn=kn:=⟨mn.toNat,V⟩
 subst aK
 have ap:∀(d:Nat)(s:eK),b.bz[d]? =some s->d<kn->s.op=14\/s.op=15:=cG
 have an:∀(d:Nat)(s:eK),b.bz[d]? =some s->d<kn->0<s.aN.length:=λd s T aM=>by
  have:=ap d s T aM;have:=(ad d s T).iL.lW V;omega
 refine(Ct (c:=[]) bO (aa.le (w.O x3).le) (e:=kn) V 14 an V).bK x3 B λsd C m4 gd hd x4 v4=>⟨_,rfl,?_⟩
 refine(Ct (c:=[]) bO (aa.le (w.O v4).le) (e:=kn) V 15 an V).bK v4 B λW I m5 gr hr x5 v5=>⟨_,rfl,?_⟩
 have a2:=adq (b.bz.take kn)
 have bj:(b.bz.take kn).length=kn:=cG
 have aq:bd m5 W I:=(gr.cz bO V).le fG
 refine(fF aq g).bK v5 B λbi m6 a0 x6 A=>⟨_,rfl,λ_=>⟨t,b,rfl,p.le (((w.O A).aV V _ _).eU),⟨ac,V⟩,(w.O A).aV V _ _⟩,λa7=>⟨λ_=>⟨t,b,rfl,p.le (((w.O A).aV V _ _).eU),⟨ac,V⟩,(w.O A).aV V _ _⟩,λa9=>?_⟩⟩
 have a_:0<o.length:=by grind [beq_eq_false_iff_ne]
 have aN:∀s∈b.bz.take kn,∃d:Nat,d<kn/\b.bz[d]? =some s:=λs p=>by
  let⟨d,T⟩:=cX.1 p;have:=bA T;grind [List.getElem?_take_of_lt]
 have aH:dc (b.bz.take kn)=0:=WQ λs p=>by
  let⟨d,h1,h2⟩:=aN s p;have:=ap d s h2 h1;exact aU λQ:tw s.op=>by have:=Q.2;omega
 have be:2*kn<=sw (b.bz.take kn):=by
  have:=ZU (l:=b.bz.take kn) λs p=>by
   grind [eK.pD]
  omega
 have bg:sw b.bz=sw (b.bz.take kn)+sw (b.bz.drop kn):=by rw[<-gH,jT]
 have a4:dc b.bz=dc (b.bz.take kn)+dc (b.bz.drop kn):=by rw[<-eZ,jT]
 have aw:∀y:Int,(∃(d:Nat)(s:eK),d<kn/\b.bz[d]? =some s/\y∈s.aN)->0<=y/\y<((f+o.length:Nat):Int):=λy⟨d,s,h1,h2,h3⟩=>by
  have h4:=(ad d s h2).iL.aN y h3;have h5:=Y5 (b.bz.take kn) d;grind [Nat.min_eq_left]
 refine(wy (S:=[]) bO ((aq.ext x6).le Ej) g V).bK A B λaX aQ m8 al ao x8 v8=>⟨_,rfl,?_⟩
 have y2:=al.cD
 have aO:bd (dg [aX.bq] m8) sd C:=((gd.cz bO V).le fG).le (((x5.O x6).le.O (Ej (m:=m6))).O (x8.dg λe h=>bG cG))
 refine Ba (j:=o.length) V (λk sd W M=>J m6 M/\∃C I,bd (dg [W.bq] M) sd C/\GI [] m6 M W I/\(∀y∈C,0<=y/\y<((f+o.length:Nat):Int))/\C.length<=WK 14 (b.bz.take kn)/\(∀y∈I,0<=y/\y<((f+o.length:Nat):Int))/\I.length<=WK 15 (b.bz.take kn)+k) ⟨x8,C,aQ,aO,al,λy H=>aw y (hd.1 y H),hd.2,λy H=>aw y (hr.1 y (ao.1 y H)),Xm ao.2 hr.2⟩ ?_
 rintro k D z r ak μ hk ⟨L,U,K,G,F,R,am,ar,bc⟩ ag
 have X:=(w.O A).O L
 have y3:=F.cD
 have v:∀e∈[q.size,a.size],e<r.size:=by grind [J.lt]
 refine⟨λQ=>?_,λQ=>?_⟩
 .simp only[bh]at Q
  let⟨y,H⟩:=dY o k
  have ew:eR ((f:Int)+(k:Int))=(f:Int)+k:=by grind [dt]
  rw[ew]
  have Z:∀{M:E},J r M->aR M P.bq (P.off+Int.toNat (k:Int)*1)=some (vi y):=λu=>(hf.ext (X.O u)).D H
  have au:∀{M:E},J r M->ak D z (eR ((k:Int)+1)) M/\μ D z (eR ((k:Int)+1)) M<μ D z k r:=λu=>ag V _ _ _ ⟨L.O u,U,K,G.le u.eU,F.ext u,R,am,ar,V⟩
  have VT:∀{M:E},J r M->lS (M.push (.cells (de [.i ((f:Int)+k)]) bE)) bE [.i 0] 8 z (.mk M.size 0 1 1) λai O=>gL [q.size,a.size] (M.push (.cells (de [.i ((f:Int)+k)]) bE)) O/\ak D ai (eR ((k:Int)+1)) O/\μ D ai (eR ((k:Int)+1)) O<μ D z k r:=λ{M} u=>by
   refine GI.nA (F.ext u) ((L.O u).fz []) V λai O g' f' z' q'=>⟨J.sK ((L.O u).cw _) f'.ext (λe h=>A.lt (B e h)),ag V _ _ _ ⟨f'.ext,U,_,(G.le u.eU).le (ms λe h hn=>?_),g',R,am,λaj hz=>?_,fj⟩⟩
   .grind
   .grind
  refine⟨V,V,y,Z di,λ_=>?_,λ_=>⟨V,V,y,Z di,λ_=>?_,λ_=>au di⟩⟩
  .refine(fF (G.le fG) _).bK (J.cZ r) v λbb az _ Y _=>⟨_,rfl,λ_=>?_,λ_=>⟨V,V,y,Z Y,λ_=>?_,λ_=>au Y⟩⟩
   .refine(wy (S:=[z.bq]) cG (G.le Y.eU) _ V).bK Y v λaB ay aA ax ah aC av=>⟨_,rfl,ag V _ _ _ ⟨L.O av,ay,K,ax.cz cG (oh ah.2),F.ext av,λaj hz=>R aj (ah.1 aj hz),oh ah.2,ar,V⟩⟩
   grind
  grind [J.cZ]
 .have aP:bd r z K:=(F.cz bO V).le fG
  have aj:∀{M:E},r.size<=M.size->∀e∈q.size::c,e<M.size:=λhz e h=>by
   grind [Array.size,J.aP]
  refine(iE (c:=q.size::c) (aj bW) 14 (G.le fG) V).bK (J.cZ r) v λaS bl bn Z aC ay _=>⟨_,rfl,?_⟩
  subst aC
  have bC:=Z.cD
  refine(lA (c:=aS.bq::q.size::c) (λe h=>?_) 16 g).aO λbz bo⟨aZ,bb,aB,aG,aJ,O⟩=>⟨λe h=>O.bC e (ay.lt (v e h)),_,_,_,_,_,aB,?_⟩
  .grind
  intro bp
  have az:=ay.O O
  refine GS.nA (x:=iK 16 g) (Z.ext j9.aO O) (az.fz []) aG aJ cG λaT bq ah H bH bu=>⟨J.sK (az.cw _) H.ext v,?_⟩
  have bD:=ah.cD
  refine(iE (c:=aT.bq::q.size::c) (λe h=>?_) 15 (aP.ext H.ext) V).bK H.ext v λbx bm br aE aD aY ax=>⟨_,rfl,?_⟩
  .grind
  subst aD
  refine GS.lQ (ah.ext j9.aO aY) (ax.fz []) (aE.cz j9.aO (λe h=>?_) cH cG) cG λav au ai u bI bv=>⟨J.sK ax u.ext v,V,V,V,?_⟩
  .grind
  have bF:=ai.cD
  have z9:=X.aP
  have aL:Le (dg c a) (dg (av.bq::q.size::c) au):=(X.O u.ext).dg λe h=>by
   grind
  have ek:Int.toNat (kn:Int)=kn:=V
  have el:Int.toNat (t.len:Int)=t.len:=V
  rw[ek,el]
  have aI:iA (dg (av.bq::q.size::c) au) (t.cut kn t.len 5) (b.bz.drop kn):=by
   have:=(p.le aL).O3 (i:=kn) (j:=t.len) V V;grind [eW]
  refine GS.lQ ai u aI fj λaV bs aF Y bJ bw=>⟨J.sK u.ext Y.ext v,bB cG _,?_⟩
  intro bt
  have aA:=aF.cz j9.aO (aj bW) cH fj
  have e1:dc [iK 16 g]=0:=nB cH [g]
  have e2:sw [iK 16 g]=2:=uz 16 [g]
  have W1:WL ds nr True (f+o.length) (U.map (iK 14)++[iK 16 g]++K.map (iK 15)++b.bz.drop kn):=by
   refine WL.fy (WL.fy ((vK cH R).By ?_) ?_) ?_
   .grind [nB,Ig]
   .grind [eZ,nB,vK]
   .rw[eZ,eZ,nB cH,nB cH,e1];have:=ad.uD kn;rwa[aH]at this
  refine⟨aV,.mk (U.map (iK 14)++[iK 16 g]++K.map (iK 15)++b.bz.drop kn) b.bL,rfl,iA.le (dQ bO λe h=>aW _ h) aA,⟨.of W1 ?_,?_⟩,(X.O Y.ext).aV V _ _⟩
  .grind [eZ,nB]
  grind [Bk.vB,gH,uz]
end
def aeW(c:af)(d:List jS)(b:Bk):Prop:=∀(S:ad)(m:E),(∀a∈S,a<m.size)->∀(f r t:N)(a:Nat),ir m f r c d->iA m t b.bz->WB c d.length True a b->a+4*b.w<=10^12->9*b.w<=100000000000->
 rl 232 [.agg #[f.v,r.v],.agg #[t.v,vi b.bL],vi a] m S λe=>WB c d.length True a e/\e.w+8<=9*b.w
def Hp{y:af}{rs:List jS}:∀B:Bk,aeW y rs B:=by
 refine Bk.ind ?_;intro bz W ih l ab hS ay aK bD p I hs a2 bg bh;have aF:=a2.cC;rw[Bk.vB]at*;simp only[Bk.mL,Bk.lK]at*;apply AL;simp -zeta only[kd,nJ];intro ac h t j m5 m6;let⟨x3,hl,s1,s2,s3⟩:=uy (a:=ac) (c:=h) (d:=t) rfl rfl rfl;have s4:=pz j;have aM:=py m6;have a7:J t m6:=(J.push t _).O aM;have g0:GS (j.size::h.size::l) t m6 (.mk t.size 0 0 0) []:=(GS.bI _ t).ext j9.aO aM;have B0:dJ m6 j.size fm [.s (.mk t.size 0 0 0),.i W]:=dJ.aV (m:=m5) (o:=0) (r:=[.s (.mk t.size 0 0 0),.i W]) (dJ.push j _ _);have aO:∀d∈h.size::l,d<t.size:=dC hS x3.aP (hl _ bO);clear_value m6;clear_value t;have aT:=hs.aS;have aX:=FF bz;have bq:=jH bz;refine gP (n:=bz.length) (aT▸hs.kA) (λk(v:Int) M=>v=((p+dc (bz.take k):Nat):Int)/\J t M/\∃s u,GS (j.size::h.size::l) t M s u/\dJ M j.size fm [.s s,.i W]/\u.length=k/\WL y rs.length True p u/\dc u=dc (bz.take k)/\sw u<=9*sw (bz.take k)) ⟨bO,a7,_,[],g0,B0,rfl,WL.gD,bO,bO⟩ ?_;rintro k v0 M ax μ hk ⟨a1,xM,s,u,ah,Y,bm,wl,ak,a0⟩ aJ
 subst a1;have v:=x3.O xM;have hy:=ah.cD;have be:=Y.lt;refine dit (λai=>?_) λai=>?_
 .let⟨c,O⟩:=dY bz k;let⟨pa,pk,ha,ar,e0,e1,e2,e3,e4⟩:=hs.D O;have bt:=Tj O;have bv:=eK.pD c;have bi:=xe c.dm;have bu:=ub O;have bs:=uU O;have T:=aF.1 k c O;have bk:=xg (bz.take k);have bp:=jH (bz.take k);have br:=aX (k+1);refine⟨V,V,_,v.aR e0,_,v.aR e1,_,v.aR e2,_,v.aR e3,_,v.aR e4,?_⟩;intro m7 z m9;obtain⟨x8,s8⟩:=pv z;obtain⟨x9,s9⟩:=pu m9;have aN:GB (s.bq::j.size::h.size::l) z m9 (.mk z.size 0 0 0) []:=GB.bI z;clear_value m9;clear_value z;have ap:∀d∈s.bq::j.size::h.size::l,d<z.size:=λd g=>by
   simp only[aY]at g;rcases g with e|e|e|e
   .omega
   .omega
   .omega
   .have:=hS d e;omega
  have au:=ar.aS;have D:∀{f:E},z.size<=f.size->∀d∈[M.size,h.size,ac.size,ab.size],d<f.size:=λai d g=>by simp at g;omega
  refine(ku (e:=[z.size]) fj (I.bQ.le (v.O (x8.O x9)).le) I.dh c.cE).bK (J.cZ m9) (D x9.aP) λsc lc bx aC e aL _=>⟨_,rfl,?_⟩;subst e;have bn:=aC.aS;refine gP (n:=c.dm.length) (au▸ar.kA) (λq ks f=>J z f/\bd (dg [ks.bq] f) sc (cT y c.cE)/\∃lk,GB (s.bq::j.size::h.size::l) z f ks lk/\lk.length=q/\(∀(P:Nat)(B:Bk),lk[P]? =some B->WB y rs.length True (p+dc (bz.take k)+FR y c.op c.cE P) B)/\bw lk<=9*bw (c.dm.take q)) ⟨x9.O aL,aC,[],aN.ext vD.aO aL,rfl,bO,bO⟩ ?_;rintro q ks A I2 μ2 hj ⟨ae,aD,lk,gk,bl,aA,aS⟩ a5;have F:J ab A:=v.O (x8.O ae);have yk:=gk.cD;have Q:=ae.aP;refine dit (λh2=>?_) λh2=>?_
  .let⟨B,R⟩:=dY c.dm q;let⟨tb,aE,f0,f1⟩:=ar.D R;have bj:=AZ R;have aQ:=yL R;have aj:=T.dm q B R;have h3:=Vw I.dh c.op c.cE q;have ao:∀{f:E},J A f->∀d∈ks.bq::s.bq::j.size::h.size::l,d<f.size:=λxx d g=>by
    have:=xx.aP;rcases aY.1 g with e|e
    .omega
    .have:=ap d e;omega
   have ag:∀{f:E}{X:N}{C:Bk},J A f->iA (dg (ks.bq::s.bq::j.size::h.size::l) f) X C.bz->WB y rs.length True (p+dc (bz.take k)+FR y c.op c.cE q) C->C.w<=9*B.w->
    lS (f.push (.cells (de [.s X,.i C.bL]) fm)) fm [.s .nil,.i 0] 32 ks (.mk f.size 0 1 1) λU M3=>gL [M.size,h.size,ac.size,ab.size] (f.push (.cells (de [.s X,.i C.bL]) fm)) M3/\I2 U (eR ((q:Int)+1)) M3/\μ2 U (eR ((q:Int)+1)) M3<μ2 ks q A:=λ{f X C} x11 aa hwb' hw'=>by
    refine GB.nA (c:=C) (gk.ext vD.aO x11) ((ae.O x11).fz []) aa V λU M3 g2 f2 a9 q2=>⟨J.sK ((ae.O x11).cw _) f2.ext (D bW),a5 V _ _ ⟨f2.ext,(aD.le x11.eU).le (ms λd g aB=>?_),_,g2,fj,λP b2 H=>?_,?_⟩⟩
    .simp at aB
     refine⟨?_,q2 d g aB⟩
     simp
     rcases a9.2 with e|e<;>omega
    .rcases eJ P lk.length with w|w
     .rw[dX w]at H;exact aA P b2 H
     .rw[dL w]at H
      have:P -lk.length=0:=by have:=bA H;simp at this;omega
      rw[this]at H;simp at H;subst H
      have:P=q:=V
      subst this;exact hwb'
    .rw[sX,yK,DM,aQ]
     omega
   refine⟨λG=>?_,λG=>?_⟩
   .simp only[bP]at G;obtain⟨bf,_⟩:=T.iL.lQ G;have a_:=T.iL.lW (bG (bG G));let⟨aw,aG⟩:=dY c.aN 0;let⟨y0,y1⟩:=T.iL.aN aw (aZ aG);have bb:=ha.aS;let⟨cn,az⟩:=dY (cT y c.cE) q;refine⟨V,V,cn,(aD.le fG).D az,?_⟩;refine(fS (e:=[]) (I.bQ.le (F.le.O Ej)) I.dh cn).bK (J.cZ A) (D Q) λsf lf aH al e am _=>⟨_,rfl,?_⟩;subst e;have al:=al.le fG;have bo:=al.aS;have Z:=F.O am;rw[OS G az]at aj h3 ag;have an:aR aH pa.bq (pa.off+Int.toNat (0:Int)*1)=some (vi aw):=(ha.ext Z).D aG;refine⟨V,V,_,Z.aR f0,_,Z.aR f1,cH,V,aw,an,?_⟩;have ew:eR (((p+dc (bz.take k):Nat):Int)+(sf.len:Int))=((p+dc (bz.take k)+(cW y cn).length:Nat):Int):=by rw[dt V V];omega
    rw[ew];refine(ih c (aZ O) B (aZ R) (ks.bq::s.bq::j.size::h.size::l) aH (ao am) ay aK tb _ (I.le Z.le) (aE.le Z.le) aj V V).bK am (D Q) λX C a3 aa aq ad av=>⟨_,_,rfl,?_⟩;refine⟨by rw[ad.aR an,an],bB (ad.bC _ (am.lt (D Q _ bO))) _,?_⟩;refine(Qo (c:=ks.bq::s.bq::j.size::h.size::l) (ao av) aa (al.ext ad) V aq.1 V V ⟨y0,y1⟩).bK av (D Q) λbC b2 aI aV aP w a6=>⟨_,_,rfl,?_⟩;intro a4;exact ag a6 aV aP.1 V
   .simp only[a8]at G;rw[OT G]at aj ag;refine⟨V,V,_,F.aR f0,_,F.aR f1,?_⟩;refine(ih c (aZ O) B (aZ R) (ks.bq::s.bq::j.size::h.size::l) A (ao di) ay aK tb _ (I.le F.le) (aE.le F.le) aj V V).bK (J.cZ A) (D Q) λX C a3 aa aq ad av=>⟨_,_,rfl,?_⟩;intro aI;exact ag ad aa aq.1 V
  .have al:lk.length=c.dm.length:=V;rw[eW V]at aS;have R:J M A:=x8.O ae;have H:=Y.ext R;have G2:=ah.ext j9.aO R;refine⟨s,H.dz 0,?_⟩;refine(dA (s.bq::j.size::h.size::l) (ha.ext F) V).bK (J.cZ A) (D Q) λs' l' aI ga e w _=>⟨_,rfl,bB (w.bC _ V) _,bB (w.bC _ V) _,bB (w.bC _ V) _,bB (w.bC _ H.lt) _,?_⟩;subst e;intro a4;refine Gr.bT (g:=[.i 0,.i 0,.i 0,.s .nil,.s .nil]) (K:=λf=>bJ dN 205 [vi c.op] f λv G=>gL [M.size,h.size,ac.size,ab.size] f G/\∃C:Bool,v=vb C/\
    (C=true->ax (eR (((p+dc (bz.take k):Nat):Int)+1)) (eR ((k:Int)+1)) G/\μ (eR (((p+dc (bz.take k):Nat):Int)+1)) (eR ((k:Int)+1)) G<μ ((p+dc (bz.take k):Nat):Int) (k:Int) M)/\
    (C=false->ax ((p+dc (bz.take k):Nat):Int) (eR ((k:Int)+1)) G/\μ ((p+dc (bz.take k):Nat):Int) (eR ((k:Int)+1)) G<μ ((p+dc (bz.take k):Nat):Int) (k:Int) M)) (L:=[M.size,h.size,ac.size,ab.size]) (j:=0) (v:=72) (i:=[.s s,.i W]) (u:=⟨c.op,c.cE,c.cY,c.aN,lk⟩) j9.aO cH (G2.ext j9.aO w) (((xM.O R).O w).fz []) ⟨s',ks,rfl,(ga.cz (λd g=>oh (ap d g)) V),rI.le w.eU (gk.cz vD.aO ap cH (by show lk.length<=_;omega))⟩ V (H.ext w) bO cH ⟨V,bO⟩ (λd g=>by have C:=w.aP;simp at g;omega) λU m' g' X f' z' q'=>?_
   have Z:WL y rs.length True p (u++[⟨c.op,c.cE,c.cY,c.aN,lk⟩]):=wl.By (T.Uj id T.iL.cY al aA|>λai=>by rw[ak];exact ai);have am:=w.aP;refine(mD c.op m').aO λv G⟨bb,e,aj,C⟩=>⟨λd g=>C.bC d (oh (D Q d g)),bb,e,?_⟩;have ad:=zU c bb aj;have aa:dc (u++[⟨c.op,c.cE,c.cY,c.aN,lk⟩])=dc (bz.take (k+1)):=by
    rw[eZ,nH,xh,ak];have e:dn (⟨c.op,c.cE,c.cY,c.aN,lk⟩:eK)=dn c:=rfl;omega
   have ag:sw (u++[⟨c.op,c.cE,c.cY,c.aN,lk⟩])<=9*sw (bz.take (k+1)):=by
    rw[gH,pW,zJ];have h5:(⟨c.op,c.cE,c.cY,c.aN,lk⟩:eK).w=1+c.aN.length+bw lk:=eK.pD _;omega
   refine⟨λht=>?_,λhf=>?_⟩
   .rw[ba ht]at ad;rw[dt (b:=((p+dc (bz.take k):Nat):Int)+1) V V];exact aJ V _ _ ⟨V,f'.ext.O C,U,_,g'.ext j9.aO C,X.ext C,fj,Z,aa,ag⟩
   .rw[aU (by simp[hf])]at ad;exact aJ V _ _ ⟨V,f'.ext.O C,U,_,g'.ext j9.aO C,X.ext C,fj,Z,aa,ag⟩
 .have au:k=bz.length:=V;subst au;rw[fx]at ak a0;refine⟨s,Y.dz 0,W,Y.dz 1,?_⟩;intro m7;have c:Le (dg (j.size::h.size::l) M) (dg l m7):=dQ bO λd g=>aW _ (aW _ g);have f:=ah.ne Y cH;refine⟨s,.mk u W,rfl,iA.le c (ah.rO j9.aO (λg=>?_) cH (by show u.length<=_;omega)),⟨.of wl (by rw[ak];exact aF.2),by rw[Bk.vB];omega⟩,v.aV V _ _⟩;rcases aY.1 g with e|e
  .exact f e
  .have:=aO _ e;omega
def Jl{b:ad}{f:E}(A:∀c∈b,c<f.size){i r:N}{g:af}{k:List jS}(h:ir f i r g k){W:Nat}(hW:9*W<=100000000000)(U:CH g k True W):zg 196 [.agg #[i.v,r.v]] f b g λu=>CH g u True (9*W):=by
 apply BW;simp -zeta only[dU];intro d a2;let⟨y,t⟩:=fN (a:=d) (c:=a2) rfl rfl;have s1:=pz d;clear_value a2;have ak:=h.lz.aS;have ax:=h.pF;refine(jw (b:=d.size::b) (dC A y.aP (t _ bO)) (h.le y.le).bQ h.dh).aO λ_ I⟨ab,e,ag,z⟩=>?_;subst e;refine⟨z.fq t,_,rfl,?_⟩;intro K ao Z;have u2:=y.O z;let⟨x5,B0,g0,s3,s5⟩:=nY (b:=K.size::d.size::b) kZ.aO (d:=I) (a:=K) (c:=ao) (j:=Z) rfl rfl rfl;clear_value Z;have F:∀c∈[d.size,f.size],c<I.size:=λc a=>z.lt (t c a);have D:∀c∈d.size::b,c<I.size:=λc a=>z.lt (dC A y.aP (t _ bO) c a);refine nO (R:=λj o M=>∃i r u,Value.agg #[j.v,o.v]=.agg #[i.v,r.v]/\ir (dg b M) i r g u/\CH g u True (9*W)/\J f M) (q:=k.length) (f:=f) (b:=b) kZ.aO cH cH A ⟨V,F _ bO⟩ u2 s3 ag ak V x5 B0 g0 (λ_ q=>q.aX.length<=3/\q.cR.length<=3/\WB g k.length True q.aX.length q.eV/\q.eV.w<=9*W) (λj w H x Q s o p v=>⟨j,w,H,rfl,⟨Q,s,h.dh,V⟩,Lz U.iT o p,v⟩) λan M st H ar μ ah av xM P B ap=>?_
 let⟨q,Y⟩:=dY k an ah;let⟨aj,ai,am,hw⟩:=U.eN q (aZ Y);have v:=u2.O xM;let⟨aq,ay,p,O,c2,c3,e0,e1,e2,e3,e4⟩:=h.lz.D Y;have G:∀{aa:Value}{p o:Nat},aR f p o=some aa->aR M p o=some aa:=λae=>v.aR ae;refine⟨V,V,_,G e0,_,G e1,_,G e2,_,G e3,_,G e4,?_⟩;intro m7 j;have hy:=P.cD;have au:=B.lt;obtain⟨L,s8⟩:=pv j;clear_value j;have X:∀c∈[M.size,d.size,f.size],c<j.size:=λc a=>by
  rcases aY.1 a with e|e
  .omega
  .have:=F c e;omega
 have w8:=v.O L;have aw:=O.aS;have ac:(aq.len:Int)=(q.aX.length:Nat):=V;refine⟨st,(B.ext L).dz 1,?_⟩;rw[ac];refine(Hp q.eV (st.bq::K.size::d.size::b) j (λc a=>?_) i r p q.aX.length (h.le w8.le) (c3.le w8.le) am V V).bK (J.cZ j) X λss b' M1 al T w _=>⟨_,_,rfl,?_⟩
 .simp only[aY]at a;rcases a with e|e|e|e
  .omega
  .omega
  .have:=D c (by simp[e]);omega
  .have:=D c (by simp[e]);omega
 have C:∀o,aR M1 M.size o=aR j M.size o:=λo=>bB (w.bC _ V) o;refine⟨C 0,C 1,C 2,C 3,C 4,bB (w.bC _ V) _,?_⟩;have x:=L.O w;have z1:=w.aP;exact Al (b:=d.size::b) (v:=ab) (x:=H) D (λc a=>by have Q:=X c a;have s:=F c;simp only[aY]at a s;rcases a with e|e|e|e<;>first|omega|(have:=s (by simp[e]);omega)|simp at e) (xM.O x) (P.ext kZ.aO x) (B.ext x) V (O.ext (v.O x)) (c2.ext (v.O x)) al ⟨V,V⟩ V λs' Q g' s x'=>ap s' Q _ g' s x' ⟨aj,ai,T.1,by have:=T.2;show b'.w<=_;omega⟩
section
variable{S:ad}{m:E}{c:N}{l:List Instr}
theorem eS.le{m b:E}(h:Le m b){a:ae}{x:Instr}:eS m a x->eS b a x:=λ⟨c,j,d,e,f⟩=>⟨c,j,d,e.le h,f.le h⟩
theorem eS.aO:qj 6 eS:=⟨λh=>eS.le h,λh=>by obtain⟨_,_,rfl,_⟩:=h;rfl⟩
def gR.le{m a:E}(b:Le m a){s:N}{l:List Instr}(h:gR m s l):gR a s l:=by grind [fU.le,eS.le]
theorem oB.le{m b:E}(h:Le m b){a:ae}{x:dP}:oB m a x->oB b a x:=λ⟨d,l,c,e,f,g,i⟩=>⟨d,l,c,e,f.le h,g.le h,gR.le h i⟩
def oB.aO:qj 5 oB:=⟨λh=>oB.le h,λh=>by obtain⟨_,_,_,rfl,_⟩:=h;rfl⟩
def kY.le{m a:E}(b:Le m a){s:N}{l:av}(h:kY m s l):kY a s l:=by grind [fU.le,oB.le]
def inV(x:Instr)(a j:N):Value:=.agg #[vi x.op,vi x.br,vi x.cE,vi x.cY,a.v,j.v]
def Ay(F:∀c∈S,c<m.size){o s:N}{x:Instr}(w:bd m o x.aN)(z:bd m s x.fQ)(h:x.aN.length<=10^12/\x.fQ.length<=10^12):
 bJ dN 199 [inV x o s] m λD k=>∃g i,D=inV x g i/\bd (dg S k) g x.aN/\bd (dg S k) i x.fQ/\J m k:=by
 apply vy
 simp -zeta only[dU]
 intro d e
 let⟨l,q⟩:=fN (a:=d) (c:=e) rfl rfl
 have H:=pz d
 clear_value e
 have p:∀c∈d.size::S,c<e.size:=by grind [dC,J.aP]
 have b:∀{M n:E},J e M->J M n->∀t,aR n m.size t=aR M m.size t:=by grind [bB,J.bC,J.lt]
 refine(dA (d.size::S) (w.ext l) h.1).bK (J.cZ e) q λg _ G u j a _=>⟨_,rfl,b di a _,b di a _,b di a _,b di a _,b di a _,?_⟩
 subst j
 refine(dA (d.size::S) (z.ext (l.O a)) h.2).bK a q λi _ A v j f C=>⟨_,rfl,b a f _,b a f _,b a f _,b a f _,?_⟩
 subst j
 intro B
 have r:Le (dg (d.size::S) A) (dg S B):=by grind [dQ,List.mem_cons_of_mem]
 exact⟨g,i,rfl,((u.cz p h.1).le f.eU).le r,(v.cz (λc y=>a.lt (p c y)) h.2).le r,(l.O C).aV V _ _⟩
def Rh(d:gR m c l)(s:Int):JF 192 [c.v,vi s] m:=by
 apply KI;have k:=d.aS;refine gP (n:=l.length) (k▸d.kA) (λ_ _ M=>J m M) di ?_;rintro q K M I μ F e u
 refine⟨λh=>?_,λ_=>rN e⟩;simp only[bh]at h;let⟨x,o⟩:=dY l q;let⟨z,H,b,E,A,g,B,C,f,D⟩:=(gR.ext e d).D o;have j:=b.aS;refine⟨V,V,_,g,?_⟩;refine gP (n:=x.aN.length) (j▸b.kA) (λ_ _ a=>J M a) di ?_;rintro r L w v μ2 G a t;refine⟨V,V,_,a.aR f,λi=>?_,λ_=>u V _ _ (e.O a)⟩;simp only[bh]at i;let⟨y,p⟩:=dY x.aN r;exact⟨V,V,_,a.aR f,V,V,y,(b.ext a).D p,t V _ _ a⟩
@[grind cases] structure QO (k:Nat) (x:Instr):Prop where
 ym:x.op=22->(k:Int)<x.cE
 arg:x.op=18\/x.op=23\/x.op=16\/x.op=17->0<x.aN.length
def XD(l:List Instr):Prop:=∀(k:Nat)(x:Instr),l[k]? =some x->QO k x
def Mt(e:gR m c l)(D:XD l){j:Int}(B:0<=j)(YG:Int):sU 234 [c.v,vi j,vi YG] m:=by
 apply Fk;simp -zeta only[dU];have H:=e.aS;have K:=e.kA;refine⟨λv _ M=>0<=v/\J m M,λv _ _=>((l.length:Int) -v).toNat,⟨B,di⟩,?_⟩;rintro v F M ⟨E,i⟩;refine⟨λh=>?_,λ_=>rA i⟩;simp only[bh]at h;let⟨x,n⟩:=dY l v.toNat;let⟨b,L,d,I,r,s,t,w,z,A⟩:=(gR.ext i e).D n;have G:=d.aS;have k:=D _ x n;refine⟨E,V,_,r,_,s,_,t,_,w,_,z,_,A,?_⟩;intro N a;have g:J M a:=by grind [J.push,J.aV]
 clear_value a;have u:=i.O g;have ym:(x.op==22)=true->(0<=x.cE/\J m a)/\((l.length:Int) -x.cE).toNat<((l.length:Int) -v).toNat:=λh=>by
  grind [QO.ym]
 have o:(x.op==23)=true->(0:Int)<=0/\(0:Int)<(b.len:Int)/\∃p:Int,aR a b.bq (b.off+Int.toNat (0:Int)*1)=some (vi p)/\∃q:Bool,vb (p==F)=.bool q/\J m a:=λh=>by
  simp only[bP]at h;have:=k.arg V;let⟨y,f⟩:=dY x.aN 0;exact⟨cH,V,y,(d.ext g).D f,rA u⟩
 refine⟨λC=>?_,λ_=>⟨ym,λ_=>⟨o,λ_=>rA u⟩⟩⟩;simp only[bP]at C;have:=k.arg V;let⟨y,f⟩:=dY x.aN 0;refine⟨cH,V,y,(d.ext g).D f,λ_=>?_,λ_=>⟨ym,λ_=>⟨o,λ_=>rA u⟩⟩⟩;grind [dt,List.length]
def OJ(l b:List Instr):Prop:=b.length=l.length/\∀(k:Nat)(a:Instr),b[k]? =some a->∃x,l[k]? =some x/\(a=x\/a=⟨24,0,x.cE,0,x.aN,x.fQ⟩)
def Vo(l:List Instr):Prop:=∀x∈l,x.aN.length<=10^12/\x.fQ.length<=10^12
abbrev GIn(S:ad)(a m:E)(s:N)(l:List Instr):Prop:=Gr S a m dV 6 eS s l
def Ol(hS:∀c∈S,c<m.size)(h:gR m c l)(ab:XD l)(ac:Vo l)(hb:l.length<=10^12):
 bJ dN 198 [c.v] m λH G=>∃s e,H=s.v/\GIn S m G s e/\OJ l e/\J m G:=by
 apply Hr
 simp -zeta only[dU]
 intro z
 have x1:=px z
 have U:GIn S m z (.mk m.size 0 0 0) []:=by grind [Gr.bI]
 clear_value z
 have aa:=h.aS
 refine gP (n:=l.length) (aa▸h.kA) (λk s M=>J m M/\∃e,GIn S m M s e/\OJ (l.take k) e) ⟨x1,[],U,by simp[OJ]⟩ ?_
 rintro k s M I μ hk ⟨t,e,v,C,D⟩ af
 refine dit (λX=>?_) λX=>?_
 .let⟨d,F⟩:=dY l k
  let⟨ag,aj,Z,hj,L,N,O,P,Q,R⟩:=(gR.ext t h).D F
  have ad:=ac d (aZ F)
  have hy:=v.cD
  have ai:e.length=k:=cG
  have Y:∀c∈s.bq::S,c<M.size:=λc h=>by
   grind
  refine⟨V,V,_,L,_,N,_,O,_,P,_,Q,_,R,?_⟩
  refine(Ay Y Z hj ad).aO λH A⟨q,r,K,w,y,x2⟩=>⟨_,_,_,_,_,_,K,?_⟩
  intro m3 o
  have g:J A o:=by grind [J.push,J.aV]
  have s4:o.size=A.size+1:=by grind [bD]
  clear_value o
  have j:=x2.O g
  have u:∀{f:E}{b:Instr},J o f->bd (dg (s.bq::S) f) q b.aN->bd (dg (s.bq::S) f) r b.fQ->(b=d\/b=⟨24,0,d.cE,0,d.aN,d.fQ⟩)->
   lS (f.push (.cells (de [.i b.op,.i b.br,.i b.cE,.i b.cY,.s q,.s r]) dV)) dV [.i 0,.i 0,.i 0,.i 0,.s .nil,.s .nil] 80 s (.mk f.size 0 1 1) λB p=>gL [A.size] (f.push (.cells (de [.i b.op,.i b.br,.i b.cE,.i b.cY,.s q,.s r]) dV)) p/\I B (eR ((k:Int)+1)) p/\μ B (eR ((k:Int)+1)) p<μ s k M:=λ{f b} xx h1 h2 h3=>by
   have z4:=j.aP
   have zx:=xx.aP
   refine Gr.nA (g:=[.i 0,.i 0,.i 0,.i 0,.s .nil,.s .nil]) (k:=b) eS.aO cH (v.ext eS.aO (j.O xx)) ((t.O (j.O xx)).fz []) ⟨q,r,rfl,h1,h2⟩ V λB p W T z3 q3=>⟨λc h=>?_,af V _ _ ⟨T.ext,_,W,fj,λae ak hi=>?_⟩⟩
   .grind [J.aP,J.push,J.bC]
   .rcases eJ ae e.length with i|i
    .grind [List.getElem?_append_left,List.getElem?_take_of_lt]
    grind [List.getElem?_append_right,List.length,bA,List.getElem?_take_of_lt]
  have z4:=j.aP
  refine⟨λh9=>?_,λ_=>?_⟩
  .rw[dt (b:=(k:Int)+1) V V]
   refine(Mt (gR.ext (t.O j) h) ab V d.br).bK (J.cZ o) cG λah m5 i _=>⟨_,rfl,λ_=>?_,λ_=>?_⟩
   .intro m6
    have:=u (b:=⟨24,0,d.cE,0,d.aN,d.fQ⟩) i ((w.le g.eU).le i.eU) ((y.le g.eU).le i.eU) (bG rfl)
    grind [dt]
   .intro m6
    have:=u (b:=d) i ((w.le g.eU).le i.eU) ((y.le g.eU).le i.eU) (bu rfl)
    grind [dt]
  .intro m5
   exact u (b:=d) di (w.le g.eU) (y.le g.eU) (bu rfl)
 .rw[eW V]at C D
  exact⟨s,e,rfl,v,⟨C,D⟩,t⟩
end
section
variable{b:av}
@[grind cases] structure YP (p:dP):Prop where
 aX:p.aX.length<=3
 cR:p.cR.length<=3
 iT:0<p.cF.length
 pF:p.cF.length<=10^12
 cF:XD p.cF
 rU:Vo p.cF
@[grind cases] structure CI (ps:av):Prop where
 iT:0<ps.length
 pF:ps.length<=4
 eN:∀p∈ps,YP p
def Vm(f:Nat)(c:ap)(m:E)(S:ad)(e:af)(Q:av->Prop):Prop:=bJ dN f c m λv a=>∃d p b,v=.agg #[d.v,p.v]/\dq (dg S a) d e/\kY (dg S a) p b/\Q b/\J m a
def OJ.ok{l d:List Instr}(h:OJ l d)(g:XD l)(f:Vo l):XD d/\Vo d:=by
 let⟨j,e⟩:=h;refine⟨λk a c=>?_,λa c=>?_⟩
 .obtain⟨x,b,rfl|rfl⟩:=e k a c
  .exact g k a b
  .exact⟨sx,sx⟩
 .let⟨k,i⟩:=cX.1 c;obtain⟨x,b,rfl|rfl⟩:=e k a i
  .exact f a (aZ b)
  .exact f x (aZ b)
def aaJ{a:av}(h:CI b)(d:a.length=b.length)(c:∀(i:Nat)(q:dP),a[i]? =some q->YP q):CI a:=
 by constructor<;>grind [CI.iT,CI.pF,List.mem_iff_getElem?]
def Mx{d:ad}{p:E}(T:∀c∈d,c<p.size){y z:N}{A:af}(hd:dq p y A)(ht:eP A)(hp:kY p z b)(W:CI b):Vm 130 [.agg #[y.v,z.v]] p d A CI:=by
 apply Fs;simp -zeta only[dU];intro f a2;let⟨K,F⟩:=fN (a:=f) (c:=a2) rfl rfl;have s1:=pz f;clear_value a2;have ao:=hp.aS;have aB:=W.pF;refine(jw (b:=f.size::d) (dC T K.aP (F _ bO)) (hd.le K.le) ht).aO λ_ Z⟨dd,e,am,L⟩=>?_;subst e;refine⟨L.fq F,_,rfl,?_⟩;intro k aq ai;have u2:=K.O L;let⟨x5,B0,g0,s3,s5⟩:=nY (b:=k.size::f.size::d) oB.aO (d:=Z) (a:=k) (c:=aq) (j:=ai) rfl rfl rfl;clear_value ai;have U:∀c∈[f.size,p.size],c<Z.size:=λc g=>L.lt (F c g);have ae:∀c∈f.size::d,c<Z.size:=λc g=>L.lt (dC T K.aP (F _ bO) c g);refine nO (R:=λj l M=>∃y z h,Value.agg #[j.v,l.v]=.agg #[y.v,z.v]/\dq (dg d M) y A/\kY (dg d M) z h/\CI h/\J p M) (q:=b.length) (f:=p) (b:=d) oB.aO cH cH T ⟨V,U _ bO⟩ u2 s3 am ao V x5 B0 g0 (λ_ r=>YP r) (λh r' ah m' h1 C j l o=>⟨h,r',ah,rfl,h1,C,aaJ W j l,o⟩) λap M s ah aw μ an az xM ac O ar=>?_
 let⟨r,hq⟩:=dY b ap an;have t:=W.eN r (aZ hq);have q3:=t.aX;have q4:=t.cR;have qf:=t.pF;have qs:=t.iT;have v6:=u2.O xM;let⟨ax,l,c,c1,c2,c3,e0,e1,e2,e3,e4⟩:=hp.D hq;have G:∀{aa:Value}{l v:Nat},aR p l v=some aa->aR M l v=some aa:=λB=>v6.aR B;refine⟨V,V,_,G e0,_,G e1,_,G e2,_,G e3,_,G e4,?_⟩;intro m7 q;have hy:=ac.cD;have ay:=O.lt;obtain⟨x8,s8⟩:=pv q;clear_value q;have H:∀c∈[M.size,f.size,p.size],c<q.size:=λc g=>by
  rcases aY.1 g with e|e
  .omega
  .have:=U c e;omega
 have w8:=v6.O x8;have D:∀{M':E},q.size<=M'.size->∀c∈s.bq::k.size::f.size::d,c<M'.size:=λB c g=>by
  simp only[aY]at g;rcases g with e|e|e|e
  .omega
  .omega
  .have:=ae c (by simp[e]);omega
  .have:=ae c (by simp[e]);omega
 have h:∀{P M2:E},J q P->J P M2->∀l,l<q.size->∀v,aR M2 l v=aR P l v:=λB h' l hb v=>bB (h'.bC l (B.lt hb)) v;have o:M.size<q.size:=V;have X:k.size<q.size:=V;refine⟨s,(O.ext x8).dz 1,?_⟩;refine(dA (s.bq::k.size::f.size::d) (c1.ext w8) V).bK (J.cZ q) H λa' _ m9 ga e j _=>⟨_,rfl,h di j _ o _,h di j _ o _,h di j _ o _,h di j _ o _,h di j _ X _,?_⟩;subst e;refine(dA (s.bq::k.size::f.size::d) (c2.ext (w8.O j)) V).bK j H λb' _ aC gb e x w=>⟨_,rfl,h j x _ o _,h j x _ o _,h j x _ o _,h j x _ X _,?_⟩;subst e;have z9:=j.aP;have CE:=x.aP;refine(Ol (S:=s.bq::k.size::f.size::d) (D V) (gR.ext (w8.O w) c3) t.cF t.rU qf).aO λaa Y⟨Q,I,e,gc,ag,u⟩=>⟨λc g=>u.bC c (w.lt (H c g)),Q,e,h w u _ o _,h w u _ o _,h w u _ X _,?_⟩;intro aD;have ab:=x8.O (w.O u);have aE:=u.aP;let⟨au,av⟩:=ag.ok t.cF t.rU;have aA:=ag.1;have aj:bd (dg (s.bq::k.size::f.size::d) Y) a' r.aX:=(ga.cz (D V) V).le ((x.O u).eU);have ak:bd (dg (s.bq::k.size::f.size::d) Y) b' r.cR:=(gb.cz (D V) V).le u.eU;have al:gR (dg (s.bq::k.size::f.size::d) Y) Q I:=gc.cz eS.aO (D V) cH V;exact Gr.bT (g:=[.s .nil,.s .nil,.i 0,.i 0,.s .nil]) (j:=1) (v:=88) (i:=[.s dd,.s s]) (u:=⟨r.aX,r.cR,r.bL,r.aT,I⟩) oB.aO cH (ac.ext oB.aO ab) ((xM.O ab).fz []) ⟨a',b',Q,rfl,aj,ak,al⟩ V (O.ext ab) bO cH ⟨V,bO⟩ (λc g=>by have h1:=H c g;have C:=U c;simp only[aY]at g C;rcases g with e|e|e|e<;>first|omega|(have:=C (by simp[e]);omega)|simp at e) λr' m' g' C f' z' q'=>ar r' m' _ g' C f'.ext ⟨q3,q4,by show 0<I.length;omega,by show I.length<=_;omega,au,av⟩
end
section
variable{S:ad}{d c:E}{b:Nat}{s:N}{l:List Instr}{x:Instr}
@[grind cases] structure Dz (S:ad) (m0 m:E) (eb:Nat) (s:N) (l:List Instr):Prop where
 bT:dJ m eb sj [.s s]
 gr:GIn (eb::S) m0 m s l
 up:m0.size<=eb
def Dz.ext{S:ad}{d c a:E}{b:Nat}{s:N}{l:List Instr}(h:Dz S d c b s l)(x:J c a):Dz S d a b s l:=⟨h.bT.ext x,h.gr.ext eS.aO x,h.up⟩
def Dz.ne{S:ad}{d c:E}{b:Nat}{s:N}{l:List Instr}(h:Dz S d c b s l):s.bq≠b:=h.gr.ne h.bT cH
def Tz(S:ad)(d c:E)(b:Nat)(s:N)(P:List Instr->Prop)(f:E):Prop:=∃a e,Dz S d f b a e/\P e/\Fz [b,s.bq] c f/\(a.bq=s.bq\/c.size<=a.bq)
def uN{t w:N}(k:Dz S d c b s l)(E:d.size<=c.size)(H:bd (dg (s.bq::b::S) c) t x.aN)(I:bd (dg (s.bq::b::S) c) w x.fQ)(n:l.length<=10^12):
 bJ dN 191 [vp b 0,inV x t w] c λP M=>P=vi (l.length:Nat)/\Tz S d c b s (l++[x]=·) M:=by
 apply BG (b,0)
 simp -zeta only[dU]
 intro y
 obtain⟨j,X⟩:=pu y
 clear_value y
 have h:=k.ext j
 have D:=h.bT.lt
 have T:=k.bT.lt
 have W:=k.gr.cD
 refine⟨s,h.bT.dz 0,?_⟩
 intro O
 have F:=px O
 refine⟨bB (F.bC _ D) _,?_⟩
 have U:(c.extract 0 d.size).size=d.size:=vr E
 have g1:GIn (b::S) (c.extract 0 d.size) y s l:=Gr.da eS.aO h.gr (λG n=>bu n) V
 refine Gr.nA (g:=[.i 0,.i 0,.i 0,.i 0,.s .nil,.s .nil]) (k:=x) eS.aO cH g1 ((((J.QM E).O j).fz [])) ⟨t,w,rfl,H.le j.eU,I.le j.eU⟩ V λg p A R Q z=>?_
 have v:dJ p b sj [.s s]:=h.bT.congr (z b D (ur h.ne))
 have L:=A.ne v cH
 refine⟨λe f=>?_,v.iQ bO,?_⟩
 .simp at f;subst f
  rw[z c.size V V,F.bC _ V]
 intro q
 have C:dJ q b sj [.s g]:=dJ.aV (m:=p) (o:=0) (r:=[.s g]) v
 have u:∀e,e≠b->q[e]? =p[e]? :=λe f=>cg _ _ _ _ f
 have Z:q.size=p.size:=bD _ _ _ _
 refine⟨λe f=>u e (by simp at f;omega),g,C.dz 0,?_⟩
 have B:GIn (b::S) d q g (l++[x]):=by
  refine Gr.da eS.aO (A.re eS.aO (Y:=[b]) ⟨V,λe f i=>u e (sp i)⟩ bO (by simp;exact L) λe f=>bu f) (λG n=>bu n) V
 have G:=B.aS cH
 have K:g.len=l.length+1:=by rw[G];simp
 refine⟨?_,g,_,⟨C,B,k.up⟩,rfl,⟨V,λe f i=>?_⟩,oh Q.2⟩
 .rw[K,iC];congr 1;omega
 .simp only[aY,mV,FO,Cj]at i
  rw[u e i.1,z e V i.2,j.bC e f]
def Wn{j:Nat}(h:Dz S d c b s l)(o:d.size<=c.size)(r:l[j]? =some x):
 bJ dN 240 [vp b 0,vi j] c λ_ K=>Tz S d c b s (l.set j ⟨x.op,0,l.length,0,x.aN,x.fQ⟩=·) K:=by
 apply BE (b,0)
 simp -zeta only[dU]
 have G:=bA r
 have I:=h.gr.aS cH
 obtain⟨L,⟨q,t,rfl,E,F⟩,np⟩:=h.gr.kG r
 have w:=np 0 _ rfl;have y:=np 1 _ rfl;have z:=np 2 _ rfl;have A:=np 3 _ rfl;have B:=np 4 _ rfl;have C:=np 5 _ rfl
 refine⟨s,h.bT.dz 0,V,V,_,w,_,y,_,z,_,A,_,B,_,C,?_⟩
 intro O g
 obtain⟨i,P⟩:=pv g
 clear_value g
 have f:=h.ext i
 have H:=f.ne
 have N:=h.gr.cD
 refine⟨s,f.bT.dz 0,s,f.bT.dz 0,V,V,?_⟩
 have g1:GIn (b::S) (c.extract 0 d.size) g s l:=Gr.da eS.aO f.gr (λv m=>bu m) (by rw[vr o];exact bW)
 rw[I]
 let⟨wr,D,M,p⟩:=Gr.eB (k:=j) (cs:=[.i x.op,.i 0,.i l.length,.i 0,.s q,.s t]) (a:=⟨x.op,0,l.length,0,x.aN,x.fQ⟩) eS.aO g1 (((J.QM o).O i).fz []) G ⟨q,t,rfl,E.le i.eU,F.le i.eU⟩
 refine⟨wr,?_⟩
 intro u
 have Q:u.size=g.size:=bD _ _ _ _
 refine⟨λe n=>p e (by simp at n;omega),s,_,⟨f.bT.congr (p b (ur H)),Gr.da eS.aO D (λv m=>bu m) (by rw[vr o];exact bW),h.up⟩,rfl,⟨V,λe n m=>?_⟩,bu rfl⟩
 simp only[aY,mV,FO,Cj]at m
 have v:u[e]? =g[e]? :=p e m.2
 rw[v,i.bC e n]
end
section
variable{n a:Nat}
def qh(l b:List Instr)(n:Nat):Prop:=∃a,b=l++a/\(∀(i:Nat)(x:Instr),a[i]? =some x->QO (l.length+i) x)/\Vo a/\a.length<=n
def qh.cZ(l:List Instr):qh l l 0:=⟨[],bO,bO,λ_ h=>by simp at h,bW⟩
theorem qh.iG{l b:List Instr}(h:qh l b n)(i:n<=a):qh l b a:=let⟨f,c,d,e,g⟩:=h;⟨f,c,d,e,V⟩
def qh.aS{l a:List Instr}(h:qh l a n):a.length<=l.length+n:=by obtain⟨b,rfl,_,_,d⟩:=h;simp;omega
def qh.O{l b c:List Instr}(h:qh l b n)(f:qh b c a):qh l c (n+a):=by
 obtain⟨i,rfl,k,d,o⟩:=h;obtain⟨j,rfl,m,e,p⟩:=f;refine⟨i++j,bO,λr x q=>?_,λx g=>?_,fj⟩
 .grind [Nat.lt_or_ge,List.length,List.getElem?_append_left,List.getElem?_append_right]
 .rcases bR.1 g with h|h
  .exact d x h
  .exact e x h
def qh.lW{l:List Instr}{x:Instr}(h:QO l.length x)(c:x.aN.length<=10^12/\x.fQ.length<=10^12):qh l (l++[x]) 1:=
 ⟨[x],rfl,λi y a=>by
  have:i=0:=by have:=bA a;simp at this;omega
  subst this;simp at a;subst a;exact h,λy b=>by simp at b;subst b;exact c,bO⟩
section
variable{S:ad}{d m c:E}{b:Nat}{s e:N}{l f:List Instr}
def Dz.jW(h:Dz S d m b s l)(e:J d m)(a:Fz [b,s.bq] m c):J d c:=by
 constructor<;>grind [Dz.gr,Gr.cD,Dz.up,Fz.ext,J.fz,N.bq,Fz.O,Fz.HW]
def VD(g:Fz [b,s.bq] m c)(d:e.bq=s.bq\/m.size<=e.bq):Le (dg [s.bq,b] m) (dg [e.bq,b] c):=ms λa f h=>by
 grind [Fz.bC]
def Tz.fq{L:ad}(f:Fz [b,s.bq] m c)(d:∀a∈L,a<m.size/\a≠b/\a≠s.bq):gL L m c:=λa e=>f.bC a (d a e).1 cG
end
@[grind cases] structure XE (S:ad) (mb m:E) (eb:Nat) (s:N) (l:List Instr) (cons first:N) (cl fl:ab):Prop where
 em:Dz S mb m eb s l
 x:J mb m
 jW:∀c∈S,c<m.size
 dS:bd (dg [s.bq,eb] m) cons cl
 first:bd (dg [s.bq,eb] m) first fl
 bC:fl.length=cl.length
 rU:∀y∈fl,0<=y/\y<=900000000000
def XE.ext{S:ad}{e m d:E}{b:Nat}{s:N}{l:List Instr}{cons first:N}{a c:ab}(h:XE S e m b s l cons first a c)(x:J m d):XE S e d b s l cons first a c:=
 ⟨h.em.ext x,h.x.O x,λf g=>x.lt (h.jW f g),h.dS.le x.eU,h.first.le x.eU,h.bC,h.rU⟩
def XE.zw{S:ad}{e m d:E}{a:Nat}{s c:N}{o j:List Instr}{cons first:N}{f g:ab}(h:XE S e m a s o cons first f g)(l:Dz S e d a c j)(b:Fz [a,s.bq] m d)(i:c.bq=s.bq\/m.size<=c.bq):XE S e d a c j cons first f g:=
 ⟨l,h.em.jW h.x b,λk n=>cp (h.jW k n) b.aP,h.dS.le (VD b i),h.first.le (VD b i),h.bC,h.rU⟩
def adb(f:af)(g:List jS)(x:eK):Prop:=∀(S:ad)(a m:E)(c:Nat)(s:N)(l:List Instr)(cons first:N)(b h:ab)(e r d k:N),XE S a m c s l cons first b h->WS f g.length True b.length x->b.length+4*x.w<=900000000000->l.length+6*x.w<=10^12->ir a e r f g->bd a d x.aN->rI a k x.dm->
 bJ dN 220 [vp c 0,.agg #[e.v,r.v],tr x d k,cons.v,first.v] m λ_ j=>Tz S a m c s (λi=>qh l i (6*x.w)) j
def acr(f:af)(g:List jS)(b:Bk):Prop:=∀(S:ad)(a m:E)(d:Nat)(s:N)(l:List Instr)(cons first:N)(c h:ab)(e r t:N),XE S a m d s l cons first c h->WB f g.length True c.length b->c.length+4*b.w<=900000000000->l.length+6*b.w<=10^12->ir a e r f g->iA a t b.bz->
 bJ dN 190 [vp d 0,.agg #[e.v,r.v],.agg #[t.v,vi b.bL],cons.v,first.v] m λ_ j=>Tz S a m d s (λi=>qh l i (6*(b.w -1))) j
end
def xC{m:E}:bd m .nil []:=⟨rfl,bW,bO,bO⟩
def Qf{ds:af}{rs:List jS}{bz:au}{aW:Int}(a:∀b∈bz,b.op=7\/b.op=8->adb ds rs b):acr ds rs (.mk bz aW):=by
 intro z mb N e ac ag cons first cl fl aC aV bm E0 aN a4 a5 hn hs
 have aO:=aN.cC;rw[Bk.vB]at*;simp only[Bk.mL,Bk.lK]at*;apply zC (e,0);simp -zeta only[dU];intro ab O;let⟨x2,hl⟩:=fN (a:=ab) (c:=O) rfl rfl;have s1:=pz ab;have s2:O.size=N.size+2:=cG;clear_value O;have aM:=hs.aS;have av:=FF bz;have bc:=jH bz;have a7:=E0.em.bT.lt;have bj:=E0.em.gr.cD;refine Ba (j:=bz.length) (aM▸hs.kA) (λp cons first M=>∃o L A H,XE z mb M e o L cons first A H/\A.length=cl.length+dc (bz.take p)/\qh ag L (6*sw (bz.take p))/\Fz [e,ac.bq] N M/\(o.bq=ac.bq\/O.size<=o.bq)/\O.size<=M.size) ⟨ac,ag,cl,fl,E0.ext x2,bO,(qh.cZ ag).iG (jb _),x2.fz _,bu rfl,bW⟩ ?_;rintro p cons first M aX μ hk ⟨o,L,A,H,Q,aJ,ae,fz,a_,hM⟩ az
 have a9:=ae.aS;have bf:=av p;have s:=Q.em.gr.cD;refine dit (λk=>?_) λk=>?_
 .let⟨b,Z⟩:=dY bz p;let⟨pa,pk,I,aK,e0,e1,e2,e3,e4⟩:=hs.D Z;have bh:=ub Z;have bg:=uU Z;have bi:=eK.pD b;have be:=av (p+1);have a6:=xg (bz.take p);have bb:=jH (bz.take p);have Y:=aO.1 p b Z;rw[<-aJ]at Y;have X:=Q.x;refine⟨V,V,_,X.aR e0,_,X.aR e1,_,X.aR e2,_,X.aR e3,_,X.aR e4,?_⟩;intro m3 r;have x4:J M r:=by grind [J.push,J.aV]
  have s4:r.size=M.size+1:=by grind [bD]
  clear_value r;have i:=Q.ext x4;have W:∀{R:E},r.size<=R.size->∀j∈[M.size,ab.size,N.size],j<R.size/\j≠e/\j≠o.bq:=cG;have kS:∀{y T:E},r.size<=y.size->J y T->gL [M.size,ab.size,N.size] y T:=λhz xx j K=>xx.bC j (W hz j K).1;have C:∀{y T:E},r.size<=y.size->J y T->∀ah,aR T M.size ah=aR y M.size ah:=λhz xx ah=>bB (xx.bC _ V) ah;have am:∀{R:E},r.size<=R.size->∀c∈o.bq::e::z,c<R.size:=λhz c a=>by
   simp only[aY]at a;rcases a with f|f|f
   .omega
   .omega
   .have:=Q.jW c f;have:=X.aP;omega
  refine⟨λF=>∃g t,XE z mb F e g t cons first A H/\qh L t (6*b.w)/\Fz [e,o.bq] r F/\(g.bq=o.bq\/r.size<=g.bq),⟨λh7=>?_,λn7=>⟨λaF=>?_,λaS=>⟨λaG=>?_,λaT=>?_⟩⟩⟩,?_⟩
  .simp only[eD,bP]at h7;refine(a b (aZ Z) h7 z mb r e o L cons first A H aC aV pa pk i Y V V hn I aK).aO λv m5⟨g,t,ad,p5,G,b5⟩=>⟨Tz.fq G (W bW),g,t,i.zw ad G b5,p5,G,b5⟩
  .simp only[eD,bP]at aF;refine(dA (o.bq::e::z) (I.ext i.x) V).aO λv m5⟨a',la,f,ga,ea,d⟩=>⟨kS bW d,a',f,C bW d _,?_⟩;subst ea;have m:=i.ext d;have u:=d.aP;refine(uN (x:=⟨b.op,0,0,0,b.aN,[]⟩) m.em m.x.aP (GI.cz ga (am bW) cG) xC V).aO λv P⟨ev,s6,l6,ai,p6,B,b6⟩=>⟨Tz.fq B (W u),_,ev,s6,l6,m.zw ai B b6,?_,(d.fz _).O B,V⟩;subst p6;exact(qh.lW ⟨λk=>by simp only at k;omega,λk=>by simp only at k;omega⟩ ⟨by show b.aN.length<=_;omega,bO⟩).iG V
  .simp only[eD,bP]at aG;have a1:=Y.iL.lW V;let⟨D,al⟩:=dY b.aN 0;let⟨y0,y1⟩:=Y.iL.aN D (aZ al);have a3:=I.aS;have c4:=(i.dS.le fG);have f4:=(i.first.le fG);have aI:=c4.aS;have aP:=f4.aS;have aL:=i.bC;let⟨cn,aA⟩:=dY A D.toNat;let⟨fn,ak⟩:=dY H D.toNat;let⟨aQ,a0⟩:=i.rU fn (aZ ak);have F4:=f4.D ak;refine⟨cH,V,D,(I.ext i.x).D al,y0,V,cn,c4.D aA,y0,V,fn,F4,?_⟩;refine(fS (e:=[]) (hn.bQ.le (i.x.le.O Ej)) hn.dh cn).aO λv m5⟨aE,bk,f,ax,ao,d⟩=>⟨kS bW d,aE,f,by rw[d.aR F4,F4],C bW d _,C bW d _,?_⟩;subst ao;have u:=d.aP;have F3:=JU hn.dh cn;obtain⟨fk,aB⟩:∃fk:Nat,fn=fk:=⟨fn.toNat,V⟩;subst aB;refine(vS (S:=[]) bO ax fk V).aO λv P⟨aH,bl,f,aq,aj,h⟩=>⟨kS u h,aH,f,C u h _,C u h _,?_⟩;have z6:=h.aP;refine(iy (S:=[]) bO ((I.ext (i.x.O (d.O h))).le Ej) (aq.cz ye.aO bO cH (oh aj.2)) (oh aj.2)).aO λv m7⟨an,aa,f,ar,aD,q⟩=>⟨kS V q,an,f,C V q _,?_⟩;have U:=(d.O h).O q;have w:=i.ext U;have z7:=q.aP;have aw:GI (o.bq::e::z) P m7 an aa:=GI.jQ ar;have a2:aa.length<=b.aN.length+3:=by rw[<-aD];simp;have:=aj.2;omega
   have ay:0<aa.length:=cG;refine(uN (x:=⟨b.op,0,0,0,aa,[]⟩) w.em w.x.aP (aw.cz (am V) V) xC V).aO λv m8⟨ev,s8,l8,ap,p8,f8,b8⟩=>⟨Tz.fq f8 (W V),_,ev,s8,l8,w.zw ap f8 b8,?_,(U.fz _).O f8,V⟩;subst p8;exact(qh.lW ⟨λk=>by simp only at k;omega,λ_=>ay⟩ ⟨by show aa.length<=_;omega,bO⟩).iG V
  .refine(dA (o.bq::e::z) (I.ext i.x) V).aO λv m5⟨a',la,f,ga,ea,d⟩=>⟨kS bW d,a',f,C bW d _,C bW d _,C bW d _,?_⟩;subst ea;simp only[cU,a8]at aS aT;have m:=i.ext d;have u:=d.aP;have aa:b.op<=11:=by
    rcases Y.iL.op with k|k
    .exact k.2
    .omega
   refine(uN (x:=⟨b.op,(cons.len:Int),b.cE,b.cY,b.aN,[]⟩) m.em m.x.aP (GI.cz ga (am bW) cG) xC V).aO λv P⟨ev,s6,l6,ai,p6,B,b6⟩=>⟨Tz.fq B (W u),_,ev,s6,l6,m.zw ai B b6,?_,(d.fz _).O B,V⟩;subst p6;exact(qh.lW ⟨λk=>by simp only at k;omega,λk=>by simp only at k;omega⟩ ⟨by show b.aN.length<=_;omega,bO⟩).iG V
  .rintro F ⟨g,t,m,p5,G,b5⟩;have u:=G.aP;have ad:qh ag t (6*sw (bz.take (p+1))):=(ae.O p5).iG V;have ap:Fz [e,ac.bq] N F:=(fz.bZ x4).vX G λD s=>by
    simp only[aY,mV,FO]at s⊢;grind
   have aq:g.bq=ac.bq\/O.size<=g.bq:=V;have a2:=m.em.gr.cD;have ak:∀j∈[M.size,ab.size,N.size],j<F.size:=cG;have ar:=λj K=>zU b j K;refine(mD b.op F).aO λv P⟨j,f,K,h⟩=>⟨λc a=>h.bC c (ak c a),j,f,λht=>?_,λhf=>?_⟩
   .have hd:=ar j K;rw[ba ht]at hd;intro m7;have q:=px m7;have a1:=m.em.bT.lt;have z6:=h.aP;have aa:∀c∈[g.bq,e],c<P.size:=λc a=>by simp at a;omega
    have aP:bd (dg [g.bq,e] m7) (.mk P.size 0 1 1) [0]:=bd.jU bE (l:=[0]) aa rfl rfl bO;have U:=h.O q;have w:=m.ext U;have a0:=w.dS.aS;refine(iy (S:=[g.bq,e]) (λc a=>q.lt (aa c a)) w.dS aP cG).aO λv m8⟨aA,aw,f,aD,an,B⟩=>⟨λc a=>B.bC c (q.lt (h.lt (ak c a))),aA,f,?_⟩;intro m9;have d:=px m9;have z7:=q.aP;have z8:=B.aP;have al:∀c∈[g.bq,e],c<m8.size:=λc a=>by have:=aa c a;omega
    have aQ:bd (dg [g.bq,e] m9) (.mk m8.size 0 1 1) [0]:=bd.jU bE (l:=[0]) al rfl rfl bO;have E9:=w.ext (B.O d);have aL:=E9.bC;refine(iy (S:=[g.bq,e]) (λc a=>d.lt (al c a)) E9.first aQ cG).aO λv ay⟨aB,ax,f,aE,ao,ai⟩=>⟨λc a=>ai.bC c (d.lt (B.lt (q.lt (h.lt (ak c a))))),aB,f,?_⟩;have aj:=E9.ext ai;have aH:bd (dg [g.bq,e] ay) aA aw:=(GI.cz aD (λc a=>q.lt (aa c a)) (by rw[<-an];simp;omega)).le ((d.O ai).eU);have aI:bd (dg [g.bq,e] ay) aB ax:=GI.cz aE (λc a=>d.lt (al c a)) (by rw[<-ao];simp;omega);refine az V _ _ _ ⟨g,t,aw,ax,⟨aj.em,aj.x,aj.jW,aH,aI,by rw[<-an,<-ao];simp;omega,λD s=>?_⟩,by rw[<-an];simp;omega,ad,ap.bZ (((U.O B).O d).O ai),aq,?_⟩
    .rw[<-ao]at s;rcases bR.1 s with s|s
     .exact m.rU D s
     .simp at s;omega
    grind [J.aP]
   .have hd:=ar j K;rw[aU (by simp[hf])]at hd;exact az V _ _ _ ⟨g,t,A,H,m.ext h,V,ad,ap.bZ h,aq,oh h.aP⟩
 .have b:p=bz.length:=V;subst b;rw[fx]at ae;exact⟨o,L,Q.em,ae.iG V,fz,V⟩
section
variable{m:E}
def JC(m:E)(s:N):Prop:=s.len<=s.cap/\∀k:Nat,k<s.len->∃v:Int,0<=v/\v<=255/\aR m s.bq (s.off+k*1)=some (.int .u8 v)
def Mk{cF:N}(h:JC m cF):bJ dN 44 [cF.v] m λv i=>∃a,v=vp m.size 0/\Rd m.size a 0 i/\J m i:=by
 let⟨g,f⟩:=h;apply Fa;have R:∀a:N,JC m a->∃l,vp m.size 0=vp m.size 0/\Rd m.size l 0 (m.push (.cells (de [.s a,.i 0]) uf))/\J m (m.push (.cells (de [.s a,.i 0]) uf)):=λa⟨n,o⟩=>by
  refine⟨a,rfl,⟨⟨0,dJ.push _ _ _,dR _,bO⟩,n,λk c=>?_⟩,J.push _ _⟩;let⟨v,d,e,b⟩:=o k c;have s:=qv b;exact⟨v,d,e,gV.2 ⟨fj,(J.push m _).aR b⟩⟩
 refine⟨λh=>?_,λ_=>R cF ⟨g,f⟩⟩;simp only[bh]at h;refine⟨cH,cH,V,?_⟩;refine R _ ?_;cases cF with
 |nil=>simp at h
 |Dx j p sp=>simp at h
 |mk j p t q=>
  simp only[N.lJ,N.Sc]at h g;refine⟨by simp[N.cut];omega,λk c=>?_⟩;have r:k<2000:=by simpa[N.cut]using c
  let⟨v,d,e,b⟩:=f k fj;exact⟨v,d,e,by simpa[N.cut]using b⟩
def OE(f:Nat)(b:ap)(m:E)(S:ad)(Q:Ex->Prop):Prop:=bJ dN f b m λv a=>∃s e,v=.agg #[vi e.op,vi e.cE,s.v]/\jc (dg S a) s e.dm/\Q e/\J m a
def ET(S:ad)(n:Int)(m:E):OE 287 [vi n] m S (.mk 0 n []=·):=by
 apply I8;simp -zeta only[dU];intro a b d;have c:J m b:=(J.push m _).O (J.push a _);exact⟨_,.mk 0 n [],rfl,pN,rfl,c.aV bW _ _⟩
def pC(S:ad)(n:Int)(m:E):OE 322 [vi n] m S (.mk 12 n []=·):=by
 apply Hs;simp -zeta only[dU];intro a b d;have c:J m b:=(J.push m _).O (J.push a _);exact⟨_,.mk 12 n [],rfl,pN,rfl,c.aV bW _ _⟩
def Nl{S:ad}{s:N}{dm:ax}(h:jc (dg S m) s dm)(a cE:Int):OE 320 [vi a,vi cE,s.v] m S (.mk a cE dm=·):=by
 apply Ob;simp -zeta only[dU];intro d c;have b:=py c;exact⟨s,.mk a cE dm,rfl,h.le b.eU,rfl,b⟩
def Fo{a P:Nat}{b:N}(q:Rd a b P m)(x:P+4<=10^16):bJ dN 339 [vp a 0] m λv h=>∃k:Int,v=vi k/\Rd a b (P+4) h/\Fz [a] m h:=by
 apply Jk (a,0);refine(dW q V 6).aO λv y⟨d,e,_,_,r,l⟩=>⟨d,e,?_⟩;refine(dW r V 6).aO λv z⟨f,e,_,_,s,n⟩=>⟨f,e,?_⟩;refine(dW s V 40).aO λv w⟨g,e,_,_,c,o⟩=>⟨g,e,?_⟩;intro i;have j:=px i;have u:bd (dg [a] i) (.mk w.size 0 10 10) [d,f,0,1,2,-1,3,g,999,-998]:=bd.jU bE (by have:=c.lt;simpa using this) rfl rfl bO;refine(nX (c.ext j) V u bO).aO λv A⟨k,e,_,t,p⟩=>⟨k,e,k,rfl,t,((l.O n).O o).bZ j|>.O p⟩
end
section
variable{m:E}
def aeT(e:Ex):Prop:=∀(m:E)(t:N),jc m t e.dm->∀left:Int,left<=600->wX 324 [.agg #[vi e.op,vi e.cE,t.v],vi left] m λk=>k= -1\/0<=k/\k+e.n=left
def Ml:∀e:Ex,aeT e:=by
 refine Ex.ind ?_;intro F cE dm r m G b left z;simp only[Ex.abA,Ex.ZH,Ex.Xc,Ex.Yf]at*;apply Fb;simp -zeta only[dU];intro a;have f:=px a;have o:∀i∈[m.size],i<a.size:=by simp[a]
 clear_value a;have d:∀{M:E},J m M->∃k:Int,vi (-1:Int)=vi k/\(k= -1\/0<=k/\k+((1+en dm:Nat):Int)=left)/\J m M:=cG;refine⟨λ_=>d f,λl=>?_⟩;simp only[dF]at l;have q:=b.aS;rw[dt (b:=left -1) V V];refine gP (n:=dm.length) (q▸b.kA) (λk(v:Int) M=>J a M/\0<=v/\v+1+en (dm.take k)=left) ⟨di,V,bO⟩ ?_;rintro k v M I μ y ⟨g,K,L⟩ D
 have u:=f.O g;refine⟨λh=>?_,λh=>?_⟩
 .simp only[bh]at h;let⟨e,c⟩:=dY dm k;let⟨s,p,j,g1,g2⟩:=b.D c;refine⟨V,V,_,u.aR j,_,u.aR g1,_,u.aR g2,?_⟩;refine(r e (aZ c) M s (jc.le u.le p) v V).bK g o λC B A t H=>⟨_,rfl,λ_=>d (u.O t),λw=>?_⟩;grind [decide_eq_false_iff_not,Oo]
 .grind [decide_eq_false_iff_not,eW]
def Fc{t:N}{e:Ex}(h:jc m t e.dm):wX 293 [.agg #[vi e.op,vi e.cE,t.v]] m λk=>k= -1\/k=e.n/\e.n<=30:=by
 apply Je;simp -zeta only[dU];intro a;have b:=px a;have g:∀d∈[m.size],d<a.size:=by simp[a]
 clear_value a;refine(Ml e a t (jc.le b.le h) 30 cH).bK (J.cZ a) g λn j i c l=>⟨_,rfl,λ_=>⟨-1,rfl,bu rfl,b.O c⟩,λf=>?_⟩;simp only[dF]at f;rw[dt (b:=30 -n) V V];exact⟨_,rfl,bG ⟨V,V⟩,b.O c⟩
def Qp{s:N}{l:ab}(h:bd m s l)(e:Int):wX 286 [s.v,vi e] m λk=>-1<=k/\k<l.length:=by
 apply Jh;have c:=h.aS;refine ik (n:=l.length) (c▸h.kA) (λ_ M=>J m M) di ?_;rintro k M I μ g a f
 refine⟨λb=>?_,λ_=>⟨-1,rfl,⟨V,V⟩,a⟩⟩;simp only[bh]at b;let⟨x,d⟩:=dY l k;exact⟨V,V,x,(h.ext a).D d,λ_=>⟨k,rfl,⟨V,V⟩,a⟩,λ_=>f V _ a⟩
def Qc(f:N)(m:E):bJ dN 201 [f.v] m λv a=>v=.agg #[f.v]/\J m a:=by
 apply Qb;simp -zeta only[dU];intro b c;exact⟨trivial,(J.push m _).aV bW _ _⟩
def Wp{p:N}(r:Int):bJ dN 257 [p.v,vi r] m λv a=>v=.agg #[p.v,vi r,vi 0,vi 0,N.v .nil]/\J m a:=by
 apply Qq;simp -zeta only[dU];intro b c;exact⟨trivial,(J.push m _).aV bW _ _⟩
end
end Go.Proofs.YtbbbdejieenniaaGreat
