/- Part of a proof, joined by a program. -/
import Derived.Test.YtakpkjhmbbfniaaGreatV08
import Derived.Test.YtakpkjhmbbfniaaGreatV09
set_option linter.unusedVariables false
set_option linter.unusedSimpArgs false
set_option linter.defProp false
set_option maxHeartbeats 8000000
set_option maxRecDepth 100000
namespace Go.Proofs.YtakpkjhmbbfniaaGreat
open Go.Vc
theorem vV{S:List Nat}{m:ah}(hS:∀c∈S,c<m.size){d r lt:Sl}{ds:List aS}{rs:List di}{ll:List (List Int)}(hn:cR m d r ds rs){c:Prop}{W:Nat}(hW:W<=1000000)(hk:xc ds rs c W)(cA:mV m lt ll)(ly:ll.length=rs.length)(tB:∀c∈ll,c.length<=3):
 tw 182 [.agg #[Sl.v d,Sl.v r],Sl.v lt] m S ds λmM=>xc ds mM c W/\mM.length=rs.length:=by
 apply AB
 simp -zeta only[aw,ax]
 intro a1 a2
 obtain⟨x2,hl⟩:=cv (m1:=a1) (m2:=a2) rfl rfl
 have s1:a1.size=m.size+1:=by simp[a1]
 clear_value a2
 have nL:=hn.fj.len;have Sz:=hn.lZ
 refine(dI (S:=a1.size::S) (bd hS x2.size (hl _ az)) (hn.le x2.le).aI hn.types).mono λ_ m2⟨dd,e,Hy,x3⟩=>?_
 subst e
 refine⟨x3.cg hl,_,rfl,?_⟩
 intro m3 m4 m5
 have u2:=x2.trans x3
 obtain⟨x5,B0,g0,s3,s5⟩:=iR (S:=m3.size::a1.size::S) fg.mono (m2:=m2) (m3:=m3) (m4:=m4) (m5:=m5) rfl rfl rfl
 clear_value m5
 have oC:∀c∈[a1.size,m.size],c<m2.size:=λc hc=>x3.lt (hl c hc)
 have kX:∀c∈a1.size::S,c<m2.size:=λc hc=>x3.lt (bd hS x2.size (hl _ az) c hc)
 refine iI (R:=λv0 v1 M=>∃d r mM,Value.agg #[Sl.v v0,Sl.v v1]=.agg #[Sl.v d,Sl.v r]/\cR (aY S M) d r ds mM/\(xc ds mM c W/\mM.length=rs.length)/\af m M) (n:=rs.length) (m:=m) (S:=S) fg.mono aO aO hS ⟨ab,oC _ az⟩ u2 s3 Hy nL ab x5 B0 g0 (λ_ q=>q.params.length<=3/\q.bX.length<=3/\WB ds rs.length c q.params.length q.body/\q.body.w<=W) (λd' r' l m' h1 h2 h3 h4 h5=>⟨d',r',l,rfl,⟨h1,h2,hn.types,ab⟩,⟨Gv hk.eZ h3 h4,h3⟩,h5⟩) λk M st l I μ Bj hlen xM g B next=>?_
 obtain⟨q,hq⟩:=ae (l:=rs) (k:=k) Bj
 obtain⟨Bn,azg,lP,hw⟩:=hk.cq q (ak hq)
 have v6:=u2.trans xM
 obtain⟨p,t,b,c1,c2,c3,e0,e1,e2,e3,e4⟩:=hn.fj.aE hq
 have G:∀{v:Value}{b o:Nat},ad m b o=some v->ad M b o=some v:=λh=>v6.ad h
 refine⟨ab,ab,_,G e0,_,G e1,_,G e2,_,G e3,_,G e4,?_⟩
 intro m7 m8
 have hy:=g.aN
 have MJ:=B.lt
 have zM:=xM.size
 have x8:af M m8:=(af.push M _).ag (aFR _) _ _
 have s8:m8.size=M.size+1:=by simp[m8,m7,aq]
 clear_value m8
 have mG:∀c∈[M.size,a1.size,m.size],c<m8.size:=λc hc=>by
  rcases List.mem_cons.1 hc with e|e
  ·omega
  ·have:=oC c e;omega
 have w8:=v6.trans x8
 have E:∀{M1 M2:ah},af m8 M1->af m8 M2->∀b,b<m8.size->∀o,ad M2 b o=ad M1 b o:=λh h' b hb o=>aA (by rw[h'.same b hb,h.same b hb]) o
 have i0:M.size<m8.size:=ab
 have i2:m3.size<m8.size:=ab
 obtain⟨y,lj⟩:=ae (l:=ll) (k:=k) ab
 obtain⟨yt,hyt,gy⟩:=cA.aE lj
 have hy3:=tB y (ak lj)
 have azh:=cA.len
 have OZ:∀{M':ah},m8.size<=M'.size->∀c∈st.ao::m3.size::a1.size::S,c<M'.size:=λh c hc=>by
  simp only[aF0]at hc;rcases hc with e|e|e|e
  ·omega
  ·omega
  ·have:=kX c (by simp[e]);omega
  ·have:=kX c (by simp[e]);omega
 refine⟨st,(B.ext x8).bH 1,ab,ab,yt,w8.ad gy,?_⟩
 refine(ba (st.ao::m3.size::a1.size::S) (c1.ext w8) ab).ay (af.av m8) mG λp' _ m9 gp e x9 _=>⟨_,rfl,E (af.av _) x9 _ i0 _,E (af.av _) x9 _ i0 _,E (af.av _) x9 _ i0 _,?_,E (af.av _) x9 _ i2 _,?_⟩
 ·exact((w8.trans x9).ad gy).trans (w8.ad gy).symm
 subst e
 refine(ba (st.ao::m3.size::a1.size::S) (hyt.ext (w8.trans x9)) ab).ay x9 mG λt' _ cK gt e cO xu=>⟨_,rfl,E x9 xu _ i0 _,E x9 xu _ i0 _,E x9 xu _ i0 _,E x9 xu _ i2 _,?_⟩
 subst e
 have z9:=x9.size;have wh:=cO.size
 have Vs:=w8.trans xu
 refine(uh q.body (st.ao::m3.size::a1.size::S) cK (OZ ab) b (c3.le Vs.le) ab).ay xu mG λss b' dm sk e eB Pg=>⟨_,_,rfl,E xu Pg _ i0 _,E xu Pg _ i2 _,?_⟩
 subst e
 intro df
 have x:=x8.trans Pg
 have xw:=Pg.size
 have Ac:aj (aY (st.ao::m3.size::a1.size::S) dm) p' q.params:=(gp.done (OZ ab) ab).le ((cO.trans eB).bO _)
 have ht':aj (aY (st.ao::m3.size::a1.size::S) dm) t' y:=(gt.done (OZ ab) ab).le (eB.bO _)
 exact Gr.box (zs:=[.s .nil,.s .nil,.i 0,.s .nil,.i 0]) (i:=1) (bytes:=88) (bc:=[.s dd,.s st]) (a:=⟨q.params,y,q.aH,q.body⟩) fg.mono aO (g.ext fg.mono x) ((xM.trans x).fz []) ⟨p',t',ss,rfl,Ac,ht',sk⟩ ab (B.ext x) az aO ⟨ab,az⟩ (λc hc=>by have h1:=mG c hc;have h2:=oC c;simp only[aF0]at hc h2;rcases hc with e|e|e|e<;>first|omega|(have:=h2 (by simp[e]);omega)|simp at e) λr' m' g' B' f' z' q'=>next r' m' _ g' B' f'.ext ⟨Bn,hy3,lP,hw⟩
theorem IJ{S:List Nat}{m:ah}(hS:∀c∈S,c<m.size){d r:Sl}{ds:List aS}{rs:List di}(hn:cR m d r ds rs){c:Prop}{W:Nat}(hW:W<=1000000)(hk:xc ds rs c W):tw 158 [.agg #[Sl.v d,Sl.v r]] m S ds λmM=>xc ds mM c W:=by
 apply Ax;simp -zeta only[aw,ax];intro a1 a2;obtain⟨x2,hl⟩:=cv (m1:=a1) (m2:=a2) rfl rfl;have s1:a1.size=m.size+1:=by simp[a1]
 have s2:a2.size=m.size+2:=by simp[a2,s1]
 clear_value a2;have nL:=hn.fj.len;have Sz:=hn.lZ;have lG:∀c∈a1.size::S,c<a2.size:=bd hS x2.size (hl _ az);have E4:∀{M M':ah},af a2 M->af a2 M'->∀o,ad M' m.size o=ad M m.size o:=λh h' o=>aA (by rw[h'.same _ (hl _ az),h.same _ (hl _ az)]) o;have tail:∀(M5:ah)(bb:Nat)(dd rr:Sl)(Y2:List di),af a2 M5->a2.size<=bb->bK M5 bb kd [.s dd,.s rr]->cR (aY (bb::a1.size::S) M5) dd rr ds Y2->xc ds Y2 c W->
  ∃(I0:Int->ah->Prop)(μ0:Int->ah->Nat),I0 (0:Int) M5/\(∀(round:Int)(m6:ah),I0 round m6->
   ((decide (round<=(12:Int)))=true->
    let m7:ah:=m6.push (.cells (aU []) uR)
    ∃(I1:Sl->Int->ah->Prop)(μ1:Sl->Int->ah->Nat),I1 (Sl.mk m6.size 0 0 0) (0:Int) m7/\(∀(nx:Sl)(f:Int)(m8:ah),I1 nx f m8->
     ∃v18:Sl,ad m8 bb 1=some (Sl.v v18)/\
     ((decide (f<(v18.len:Int)))=true->∃v0:Sl,ad m8 bb 0=some (Sl.v v0)/\∃v1:Sl,ad m8 bb 1=some (Sl.v v1)/\
      aD Tryz.prog 184 [.agg #[Sl.v v0,Sl.v v1],vi f] m8 λr2 m9=>da [a1.size,m.size] m8 m9/\∃r26:Sl,r2=Sl.v r26/\
       let cK:ah:=m9.push (.cells (aU [.s r26]) uR)
       gA cK uR [.s Sl.nil] 24 nx (Sl.mk m9.size 0 1 1) λr28 dm=>da [a1.size,m.size] cK dm/\I1 r28 (bS (f+(1:Int))) dm/\μ1 r28 (bS (f+(1:Int))) dm<μ1 nx f m8)/\
     ((decide (f<(v18.len:Int)))=false->∃v0:Sl,ad m8 bb 0=some (Sl.v v0)/\∃v1:Sl,ad m8 bb 1=some (Sl.v v1)/\
      aD Tryz.prog 182 [.agg #[Sl.v v0,Sl.v v1],Sl.v nx] m8 λr3 df=>da [a1.size,m.size] m8 df/\∃Bl:Sl,∃zC:Sl,r3=.agg #[Sl.v Bl,Sl.v zC]/\dW df bb 0 2/\
       let iC:ah:=ag df bb 0 [.s Bl,.s zC]
       da [a1.size,m.size] df iC/\I0 (bS (round+(1:Int))) iC/\μ0 (bS (round+(1:Int))) iC<μ0 round m6)))/\
   ((decide (round<=(12:Int)))=false->∃v0:Sl,ad m6 bb 0=some (Sl.v v0)/\∃v1:Sl,ad m6 bb 1=some (Sl.v v1)/\
    let gK:ah:=ag m6 a1.size 0 [.s v0,.s v1]
    ∃d r mM,Value.agg #[Sl.v v0,Sl.v v1]=.agg #[Sl.v d,Sl.v r]/\cR (aY S gK) d r ds mM/\xc ds mM c W/\af m gK)):=by
  intro M5 bb dd rr Y2 hx XN hB hN hK
  refine dg (n:=13) ab (λ_ M=>af a2 M/\∃dd rr Y2,bK M bb kd [.s dd,.s rr]/\cR (aY (bb::a1.size::S) M) dd rr ds Y2/\xc ds Y2 c W) ⟨hx,dd,rr,Y2,hB,hN,hK⟩ ?_
  rintro k m6 I μ hk6 ⟨x6,dd,rr,Y2,B,N,K⟩ next
  have MJ:=B.lt
  have azi:=N.fj.len
  have azj:=N.lZ
  refine⟨λh=>?_,λh=>?_⟩
  ·simp only[aFP]at h
   intro m7
   have x67:af m6 m7:=af.push _ _
   have g0:GII [] m6 m7 (.mk m6.size 0 0 0) []:=Gr.new _ (aFR _) _ _ _
   refine cN (n:=Y2.length) ab (λf s M=>af m6 M/\∃l,GII [] m6 M s l/\l.length=f/\∀c∈l,c.length<=3) ⟨x67,[],g0,rfl,az⟩ ?_
   rintro f s m8 I2 μ2 hf ⟨x8,l,g,hlen,h3⟩ eN
   have u8:=x6.trans x8
   have N8:=N.le (x8.bO _)
   refine⟨rr,(B.ext x8).bH 1,λh2=>?_,λh2=>?_⟩
   ·simp only[aFP]at h2
    obtain⟨q,hq⟩:=ae (l:=Y2) (k:=f) ab
    have hq3:=(K.cq q (ak hq)).2.1
    have hy:=g.aN
    refine⟨dd,(B.ext x8).bH 0,rr,(B.ext x8).bH 1,?_⟩
    refine(II (S:=[s.ao]) bg (N8.le (aV _ _)) K hq).ay u8 hl λr26 l26 m9 VT q26 x9 u9=>⟨_,rfl,?_⟩
    intro cK
    refine Gr.iN (zs:=[.s .nil]) ka.mono aO (g.ext ka.mono x9) ((x8.trans x9).fz []) ⟨r26,rfl,VT.done bg ab⟩ ab λr' M' g' f' _ _=>⟨af.me (u9.aC _) (x6.trans f'.ext) hl,eN ab _ _ ⟨f'.ext,_,g',bg,λy hy=>?_⟩⟩
    rcases List.mem_append.1 hy with hy|hy
    ·exact h3 y hy
    ·simp at hy;subst hy;omega
   ·simp only[aFQ]at h2
    refine⟨dd,(B.ext x8).bH 0,rr,(B.ext x8).bH 1,?_⟩
    have cA:mV m8 s l:=cY.le (g.done ka.mono az aO ab) (aV _ _) (ka.le (aV _ _))
    have z8:=x8.size;have z6:=x6.size
    refine(vV (S:=bb::a1.size::S) (λc hc=>?_) (N8.le (aV _ _)) hW K cA ab h3).mono λ_ df⟨d2,r2,rs2,e,N2,⟨K2,_⟩,fW⟩=>?_
    ·rcases List.mem_cons.1 hc with e|e
     ·omega
     ·have:=lG c e;omega
    subst e
    have VV:=(B.ext x8).ext fW
    refine⟨u8.aak hl fW,_,_,rfl,VV.dW az,?_⟩
    intro iC
    have cx:∀b,b≠bb->iC[b]? =df[b]? :=λb hb=>aP _ _ _ _ hb
    refine⟨λc hc=>cx c (by have:=hl c hc;omega),next ab _ ⟨(u8.trans fW).ag XN _ _,d2,r2,rs2,bK.ag (m:=df) (o:=0) (r:=[.s d2,.s r2]) VV,N2.le (bt az λ_ h=>h),K2⟩⟩
  ·refine⟨dd,B.bH 0,rr,B.bH 1,?_⟩
   intro gK
   exact⟨dd,rr,Y2,rfl,(N.le (eY m6 λc hc=>aFT _ hc)).le (bt az λc hc=>aFT _ hc),K,(x2.trans x6).ag ab _ _⟩
 have Bn:∀q∈rs,q.params.length<=3:=λq hq=>(hk.cq q hq).1;have akT:∀(M:ah)(L:List Nat)(K:Value->ah->Prop),af a2 M->(∀c∈L,c<M.size)->(∀s l M',mV M' s l->l.length=rs.length->(∀c∈l,c.length<=3)->af M M'->K (Sl.v s) M')->aD Tryz.prog 183 [.agg #[Sl.v d,Sl.v r]] M λv m'=>da L M m'/\K v m':=λM L K hx hL hK=>
  (Ew (S:=[]) az (hn.le (x2.trans hx).le) Bn).mono λ_ M'⟨s,l,e,h1,h2,h3,x⟩=>⟨x.cg hL,e▸hK s l M' (cY.le h1 (aV _ _) (ka.le (aV _ _))) h2 h3 x⟩
 have bX:∀(M:ah)(S' L:List Nat)(K:Value->ah->Prop)(s:Sl)(l:List (List Int)),af a2 M->(∀c∈L,c<M.size)->(∀c∈S',c<M.size)->mV M s l->l.length=rs.length->(∀c∈l,c.length<=3)->(∀d' r' mM M',cR (aY S' M') d' r' ds mM->xc ds mM c W->af M M'->K (.agg #[Sl.v d',Sl.v r']) M')->aD Tryz.prog 182 [.agg #[Sl.v d,Sl.v r],Sl.v s] M λv m'=>da L M m'/\K v m':=λM S' L K s l hx hL Q3 h1 h2 h3 hK=>
  (vV Q3 (hn.le (x2.trans hx).le) hW hk h1 h2 h3).mono λ_ M'⟨d',r',mM,e,N,⟨K1,_⟩,x⟩=>⟨x.cg hL,e▸hK d' r' mM M' N K1 x⟩
 have hSb:∀{M:ah}{bb:Nat},af a2 M->bb<M.size->∀c∈bb::a1.size::S,c<M.size:=λh hb c hc=>by
  have:=h.size;rcases List.mem_cons.1 hc with e|e
  ·omega
  ·have:=lG c e;omega
 have hLb:∀{M:ah}{bb:Nat},af a2 M->bb<M.size->∀c∈[bb,a1.size,m.size],c<M.size:=λh hb c hc=>by
  rcases List.mem_cons.1 hc with e|e
  ·omega
  ·exact h.lt (hl c e)
 refine⟨akT a2 _ _ (af.av _) hl λs l m2 h1 h2 h3 x3=>⟨_,rfl,E4 (af.av _) x3 _,E4 (af.av _) x3 _,⟨?_,?_⟩⟩,?_⟩
 ·refine bX m2 (a1.size::S) _ _ s l x3 (λc hc=>x3.lt (hl c hc)) (λc hc=>x3.lt (lG c hc)) h1 h2 h3 λd' r' mM m3 N K x4=>⟨_,_,rfl,?_⟩;have u3:=x3.trans x4;intro m4;have u4:af a2 m4:=u3.aC _;refine⟨E4 u3 u4 _,E4 u3 u4 _,E4 u3 u4 _,E4 u3 u4 _,?_⟩;intro m5;have ZJ:af m3 m5:=(af.push m3 _).ag (aFR _) _ _;exact tail m5 m3.size d' r' mM (u3.trans ZJ) u3.size (bK.ag (m:=m4) (o:=0) (r:=[.s d',.s r']) (bK.push m3 _ _)) (N.le (ZJ.aY λc hc=>by
   rcases List.mem_cons.1 hc with e|e
   ·exact Or.inr ab
   ·exact Or.inl e)) K
 ·intro kT;have Y3:af a2 kT:=x3.aC _;refine⟨E4 x3 Y3 _,E4 x3 Y3 _,E4 x3 Y3 _,E4 x3 Y3 _,?_⟩;refine bX kT (m2.size::a1.size::S) _ _ s l Y3 (hLb Y3 (by simp[kT])) (hSb Y3 (by simp[kT])) (mV.ext (af.push _ _) h1) h2 h3 λd' r' mM pV N K x4=>⟨_,_,rfl,?_⟩;intro oB;exact tail oB m2.size d' r' mM ((Y3.trans x4).ag x3.size _ _) x3.size (bK.ag (m:=pV) (o:=0) (r:=[.s d',.s r']) ((bK.push m2 _ _).ext x4)) (N.le (bt az λ_ h=>h)) K
 ·intro Q4;have Y4:af a2 Q4:=af.push _ _;refine⟨E4 (af.av _) Y4 _,E4 (af.av _) Y4 _,E4 (af.av _) Y4 _,E4 (af.av _) Y4 _,?_⟩;refine akT Q4 _ _ Y4 (hLb Y4 (by simp[Q4])) λs l m28 h1 h2 h3 x3=>⟨_,rfl,E4 Y4 (Y4.trans x3) _,E4 Y4 (Y4.trans x3) _,?_⟩;have u28:=Y4.trans x3;have akU:a2.size<m28.size:=x3.lt (by simp[Q4]);refine bX m28 (a2.size::a1.size::S) _ _ s l u28 (hLb u28 akU) (hSb u28 akU) h1 h2 h3 λd' r' mM m29 N K x4=>⟨_,_,rfl,?_⟩;intro m30;exact tail m30 a2.size d' r' mM ((u28.trans x4).ag (aFR _) _ _) (aFR _) (bK.ag (m:=m29) (o:=0) (r:=[.s d',.s r']) ((bK.push a2 _ _).ext (x3.trans x4))) (N.le (bt az λ_ h=>h)) K
section
structure aR where
 aG:Int
 jW:Int
 aB:List Int
structure aM where
 dJ:Int
 pc:Int
 dst:Int
 an:List Int
 aL:List Int
 aQ:List Int
structure St where
 bT:Int
 value:Int
 be:Int
 cV:Int
 aT:List Int
 heap:List aR
 ai:List aM
def aE(l:List Int)(i:Int):Int:=l.getD i.toNat 0
def fx(l:List Int)(i:Int)(v:Int):List Int:=l.set i.toNat v
def ix(w:Int):Nat:=(w -1000).toNat
def eT(w:Int):Prop:=-999<=w/\w<=999
def iJ(h:List aR)(a:Nat):Prop:=∃c,h[a]? =some c/\0<c.aG
def gJ(h:List aR)(w:Int):Prop:=1000<=w/\iJ h (ix w)
def nY(h:List aR)(w:Int):Prop:=eT w\/gJ h w
def iv:aR:=⟨0,0,[]⟩
def aK(h:List aR)(w:Int):aR:=(h[ix w]?).getD iv
def ao2:bY:=⟨[],[],0,0,[]⟩
def cP(im:bq)(n:Int):bY:=(im.bJ[n.toNat]?).getD ao2
def eD(im:bq):Int:=(dv im.aI).length
def cX:List Int->Nat->Int
 |[],_=>0
 |w::ws,a=>(if w=1000+(a:Int)then 1 else 0)+cX ws a
def cL:List aR->Nat->Int
 |[],_=>0
 |c::h,a=>cX c.aB a+cL h a
def bQ:List Int->List Int->Nat->Int
 |r::rs,o::os,a=>(if r=1000+(a:Int)then o else 0)+bQ rs os a
 |_,_,_=>0
def dz:List aM->Nat->Int
 |[],_=>0
 |f::fs,a=>bQ f.an f.aL a+dz fs a
def holds:List aM->Nat->Int
 |[],_=>0
 |f::fs,a=>cX f.aQ a+holds fs a
def mg(im:bq)(x:Instr)(k:Nat):Bool:=(cP im x.bh).bX.any (λy=>y==(k:Int))
def gE(im:bq)(x:Instr):Nat->List Int->List Int
 |_,[]=>[]
 |k,r::rs=>if mg im x k then gE im x (k+1) rs else r::gE im x (k+1) rs
def kv(im:bq)(x:Instr):Nat->List Int->List Int
 |_,[]=>[]
 |k,r::rs=>if mg im x k then r::kv im x (k+1) rs else kv im x (k+1) rs
def cz(im:bq)(x:Instr):List Int:=
 if x.op=15\/x.op=6\/x.op=10\/x.op=11\/x.op=18\/x.op=23 then x.args
 else if x.op=16\/x.op=17 then x.args.take 1
 else if x.op=9\/x.op=24 then gE im x 0 x.args
 else[]
def cF(an aL:List Int):List Int->List Int
 |[]=>aL
 |r::rs=>cF an (if 1000<=aE an r then fx aL r (aE aL r -1)else aL) rs
def cp(f:aM)(args:List Int):List Int:=args.map (aE f.an)
def pG(l:List Int):List Int:=l.filter (λw=>decide (1000<=w))
def mD(h:List aR)(ws:List Int):Prop:=∀w∈ws,1000<=w->(aK h w).aG+cX ws (ix w)<=999999
def Ot(h:List aR)(f:aM)(x:Instr):Prop:=
 let w:=aE f.an (aE x.args 0)
 gJ h w/\pG (aK h w).aB=cp f (x.args.drop 1)/\((aK h w).aG=1\/mD h (aK h w).aB)/\(x.op=17->aE f.aQ (aE x.args 0)=0)
def Ey(im:bq)(h:List aR)(w:Int):Prop:=
 gJ h w/\0<=(aK h w).jW -eD im/\(aK h w).jW -eD im<im.bJ.length/\
  (cP im ((aK h w).jW -eD im)).params.length=(aK h w).aB.length+1/\(cP im ((aK h w).jW -eD im)).bX.length=0/\
  ((aK h w).aG=1\/mD h (aK h w).aB)
def Kc(h:List aR)(f:aM)(x:Instr):Prop:=
 x.bA≠0->aE f.aQ (x.bA -1)≠0->(aK h (aE f.aQ (x.bA -1))).aB.length=x.args.length
def PY(im:bq)(h:List aR)(f:aM)(x:Instr):Prop:=∀r∈kv im x 0 x.args,1000<=aE f.an r->gJ h (aE f.an r)
def aal(l:List Int):Prop:=∀n∈l,n=0
structure tx(im:bq)(s:St)(f:aM)(x:Instr)(aL:List Int):Prop where
 nn:∀o∈aL,0<=o
 dst:jA x.op->aE aL x.dst<=0
 oX:(x.op=1\/x.op=2\/x.op=3\/x.op=4\/x.op=5\/x.op=20)->∀r∈x.args,aE f.an r<1000
 jQ:x.op=6->Kc s.heap f x
 bX:(x.op=9\/x.op=24)->PY im s.heap f x
 zero:(x.op=24\/x.op=23)->aal aL/\aal f.aQ
 ret:x.op=23->1<s.ai.length\/aE f.an (aE x.args 0)<1000
 apply:x.op=11->Ey im s.heap (aE f.an (aE x.args 0))
 dup:x.op=14->gJ s.heap (aE f.an (aE x.args 0))/\(aK s.heap (aE f.an (aE x.args 0))).aG<999999
 drop:x.op=15->1000<=aE f.an (aE x.args 0)
 WK:(x.op=16\/x.op=17)->Ot s.heap f x
 load:x.op=19->gJ s.heap (aE f.an (aE x.args 0))/\x.bh<(aK s.heap (aE f.an (aE x.args 0))).aB.length
 Ou:x.op=21->gJ s.heap (aE f.an (aE x.args 0))/\(aK s.heap (aE f.an (aE x.args 0))).jW∈bB im.aI x.bh
def Kd(n:Int):Int:=if n< -999 then -999 else if 999<n then 999 else n
def WM(op a b:Int):Int:=
 if op=1 then Kd (a+b)else if op=2 then Kd (a -b)else if op=3 then Kd (a*b)else if op=4/\a<b then 1 else 0
def dD:List aR->Nat
 |[]=>0
 |c::h=>if c.aG=0 then 0 else dD h+1
def jQ(h:List aR)(a:Nat)(c:aR):List aR:=if a=h.length then h++[c]else h.set a c
def nl(h:List aR)(w:Int):List aR:=h.set (ix w) {aK h w with aG:=(aK h w).aG+1}
def eE(h:List aR)(w:Int):List aR:=h.set (ix w) {aK h w with aG:=(aK h w).aG -1}
def jf(h:List aR):List Int->List aR
 |[]=>h
 |w::ws=>jf (nl h w) ws
def iW(h:List aR):Nat->Nat
 |0=>0
 |n+1=>match h[n]? with
  |some c=>if c.aG=0 then iW h n else n+1
  |none=>iW h n
def pH(h:List aR):List aR:=h.take (iW h h.length)
def IK:List aR->Nat
 |[]=>0
 |c::h=>(if 0<c.aG then c.aG.toNat+c.aB.length else 0)+IK h
theorem kA:∀{h:List aR}{a:Nat}{c c':aR},h[a]? =some c->IK (h.set a c')+(if 0<c.aG then c.aG.toNat+c.aB.length else 0)=IK h+(if 0<c'.aG then c'.aG.toNat+c'.aB.length else 0)
 |[],a,c,c',h=>by simp at h
 |d::h,0,c,c',hc=>by simp at hc;subst hc;simp only[aGK,IK];omega
 |d::h,a+1,c,c',hc=>by
  have:=kA (h:=h) (a:=a) (c:=c) (c':=c') (by simpa using hc);simp only[aGL,IK];omega
theorem bE{h:List aR}{w:Int}(hl:gJ h w):h[ix w]? =some (aK h w)/\0<(aK h w).aG:=by
 obtain⟨_,c,hc,hp⟩:=hl;simp[aK,hc,hp]
open Classical in
noncomputable def fR (h:List aR) (st:List Int):List aR:=
 match st with
 |[]=>h
 |w::r=>
  if hl:gJ h w then
   if h1:(aK h w).aG=1 then fR (h.set (ix w) iv) ((aK h w).aB.reverse++r)
   else fR (eE h w) r
  else fR h r
termination_by IK h+st.length
decreasing_by
 ·obtain⟨e,hp⟩:=bE hl
  have:=kA (c':=iv) e
  simp only[iv,aFW hp]at this
  simp[iv]
  simp at this
  omega
 ·obtain⟨e,hp⟩:=bE hl
  have h2:=kA (c':={aK h w with aG:=(aK h w).aG -1}) e
  simp only[aFW hp]at h2
  rw[aFW ab]at h2
  simp[eE]
  omega
 ·simp
theorem zU(h:List aR):fR h []=h:=by rw[fR]
theorem zV{h:List aR}{w:Int}{r:List Int}(hl:gJ h w)(h1:(aK h w).aG=1):fR h (w::r)=fR (h.set (ix w) iv) ((aK h w).aB.reverse++r):=by
 rw[fR,aIF hl,aIF h1]
theorem vz{h:List aR}{w:Int}{r:List Int}(hl:gJ h w)(h1:(aK h w).aG≠1):fR h (w::r)=fR (eE h w) r:=by
 rw[fR,aIF hl,dif_neg h1]
theorem vA{h:List aR}{w:Int}{r:List Int}(hl:¬gJ h w):fR h (w::r)=fR h r:=by
 rw[fR,dif_neg hl]
def aM.put(f:aM)(r w o:Int):aM:={f with an:=fx f.an r w,aL:=fx f.aL r o}
def gF(w:Int):Int:=if 1000<=w then 1 else 0
def dE(aL:List Int):List Int->List Int
 |[]=>aL
 |r::rs=>dE (fx aL r (aE aL r+1)) rs
def eF(n:Nat):List Int:=List.replicate n 0
def fm(bX:List Int):Nat->List Int->List Int
 |_,[]=>[]
 |k,w::ws=>(if bX.any (λy=>y==(k:Int))then 0 else gF w)::fm bX (k+1) ws
def bF(im:bq)(g dst:Int)(ws:List Int):aM:=
 ⟨g,0,dst,ws++eF ((cP im g).an.toNat -ws.length),fm (cP im g).bX 0 ws++eF ((cP im g).an.toNat -ws.length),eF (cP im g).an.toNat⟩
open Classical in
noncomputable def apart (h:List aR) (w:Int):List aR:=
 if(aK h w).aG=1 then pH (h.set (ix w) iv)else jf (eE h w) (pG (aK h w).aB)
def Ez(l:List Int)(n:Int):Nat:=l.findIdx (λy=>y==n)
open Classical in
noncomputable def gT (im:bq) (s:St) (fs:List aM) (f:aM) (x:Instr) (aL:List Int):St:=
 let g:aM:={f with aL:=aL,pc:=f.pc+1}
 let a0:=aE x.args 0
 let w:=aE f.an a0
 if x.op=0 then{s with ai:=fs++[g.put x.dst x.bh 0]}
 else if x.op=1\/x.op=2\/x.op=3\/x.op=4 then{s with ai:=fs++[g.put x.dst (WM x.op w (aE f.an (aE x.args 1))) 0]}
 else if x.op=5 then{s with aT:=s.aT++[w],ai:=fs++[g.put x.dst w 0]}
 else if x.op=6 then
  if x.bA≠0/\aE f.aQ (x.bA -1)≠0 then
   {s with heap:=s.heap.set (ix (aE f.aQ (x.bA -1))) ⟨1,x.bh,cp f x.args⟩,ai:=fs++[{g with aQ:=fx f.aQ (x.bA -1) 0}.put x.dst (aE f.aQ (x.bA -1)) 1]}
  else{s with heap:=jQ s.heap (dD s.heap) ⟨1,x.bh,cp f x.args⟩,ai:=fs++[g.put x.dst (1000+dD s.heap) 1]}
 else if x.op=10 then{s with heap:=jQ s.heap (dD s.heap) ⟨1,eD im+x.bh,cp f x.args⟩,ai:=fs++[g.put x.dst (1000+dD s.heap) 1]}
 else if x.op=14 then{s with heap:=nl s.heap w,ai:=fs++[{g with aL:=fx aL a0 (aE aL a0+1)}]}
 else if x.op=15 then{s with heap:=pH (fR s.heap [w]),ai:=fs++[g]}
 else if x.op=16\/x.op=17 then
  let g':={g with aL:=dE aL (x.args.drop 1)}
  if(aK s.heap w).aG=1/\x.op=17 then{s with heap:=s.heap.set (ix w) ⟨-1,0,eF (aK s.heap w).aB.length⟩,ai:=fs++[{g' with aQ:=fx f.aQ a0 w}]}
  else{s with heap:=apart s.heap w,ai:=fs++[g']}
 else if x.op=18 then{s with ai:=fs++[g.put x.dst w (gF w)]}
 else if x.op=19 then{s with ai:=fs++[g.put x.dst (aE (aK s.heap w).aB x.bh) 0]}
 else if x.op=20 then{s with ai:=fs++[{g with pc:=if w=0 then x.bh else f.pc+1}]}
 else if x.op=21 then{s with ai:=fs++[{g with pc:=aE x.cW (Ez (bB im.aI x.bh) (aK s.heap w).jW)}]}
 else if x.op=22 then{s with ai:=fs++[{g with pc:=x.bh}]}
 else if x.op=9 then{s with be:=s.be+1,ai:=fs++[g,bF im x.bh x.dst (cp f x.args)]}
 else if x.op=24 then{s with be:=s.be+1,ai:=fs++[bF im x.bh f.dst (cp f x.args)]}
 else if x.op=11 then
  {s with be:=s.be+1,heap:=apart s.heap w,ai:=fs++[g,bF im ((aK s.heap w).jW -eD im) x.dst ((aK s.heap w).aB++[aE f.an (aE x.args 1)])]}
 else -- 23
  match fs.getLast? with
  |none=>{s with bT:=0,value:=w,ai:=[]}
  |some p=>{s with ai:=fs.dropLast++[p.put f.dst w (gF w)]}
def vB(op:Int):Prop:=op=9\/op=11\/op=24
instance(op:Int):Decidable (vB op):=by unfold vB;infer_instance
def dR(im:bq)(f:aM):Instr:=((cP im f.dJ).bP[f.pc.toNat]?).getD ⟨0,0,0,0,[],[]⟩
open Classical in
noncomputable def qT (im:bq) (s:St):St:=
 if s.bT≠3 then s else
 match s.ai.getLast? with
 |none=>s
 |some f=>
  if vB (dR im f).op/\s.be=s.cV then{s with bT:=1}
  else if tx im s f (dR im f) (cF f.an f.aL (cz im (dR im f)))then
   gT im s s.ai.dropLast f (dR im f) (cF f.an f.aL (cz im (dR im f)))
  else{s with bT:=2}
end
theorem mh:∀(l r:List Int)(a:Nat),cX (l++r) a=cX l a+cX r a
 |[],r,a=>by simp[cX]
 |w::l,r,a=>by simp only[aGg,cX,mh l r a];omega
theorem yZ:∀(l:List Int)(a:Nat),cX l.reverse a=cX l a
 |[],a=>rfl
 |w::l,a=>by simp only[List.reverse_cons,mh,yZ l a,cX];omega
theorem fp:∀(l:List Int)(a:Nat),0<=cX l a
 |[],a=>by simp[cX]
 |w::l,a=>by have:=fp l a;simp only[cX];split<;>omega
theorem lD:∀{l:List Int}{a:Nat},(1000+(a:Int))∉l->cX l a=0
 |[],a,_=>rfl
 |w::l,a,h=>by
  simp only[aF0,aHO]at h;simp only[cX,lD h.2];rw[aFS (λe=>h.1 e.symm)];rfl
theorem sL:∀{l:List Int}{a:Nat},(1000+(a:Int))∈l->1<=cX l a
 |[],a,h=>by simp at h
 |w::l,a,h=>by
  simp only[cX];rcases List.mem_cons.1 h with rfl|h
  ·rw[aFW rfl];have:=fp l a;omega
  ·have:=sL h;split<;>omega
theorem Ov{l:List Int}{a:Nat}(h:0<cX l a):(1000+(a:Int))∈l:=
 aGo λhn=>by rw[lD hn]at h;omega
theorem UP(n:Nat)(a:Nat):cX (eF n) a=0:=lD λh=>by have:=aHW h;omega
theorem ui:∀(l:List Int)(a:Nat),cX (pG l) a=cX l a
 |[],a=>rfl
 |w::l,a=>by
  have:=ui l a;simp only[pG]at this⊢;rw[List.filter_cons];split
  ·simp only[cX,this]
  ·rename_i h;simp only[cX,this];rw[aFS (λe=>h bg)];omega
theorem iS:∀(l:List Int)(a:Nat),cX l a<=l.length
 |[],a=>by simp[cX]
 |w::l,a=>by have:=iS l a;simp only[cX,aF5];split<;>omega
theorem sM:∀(h k:List aR)(a:Nat),cL (h++k) a=cL h a+cL k a
 |[],k,a=>by simp[cL]
 |c::h,k,a=>by simp only[aGg,cL,sM h k a];omega
theorem oH:∀(h:List aR)(a:Nat),0<=cL h a
 |[],a=>by simp[cL]
 |c::h,a=>by have:=oH h a;have:=fp c.aB a;simp only[cL];omega
theorem y8:∀{h:List aR}{a:Nat}{c:aR}(c':aR)(_:h[a]? =some c)(b:Nat),cL (h.set a c') b=cL h b -cX c.aB b+cX c'.aB b
 |[],a,c,c',h,b=>by simp at h
 |d::h,0,c,c',hc,b=>by simp at hc;subst hc;simp only[aGK,cL];omega
 |d::h,a+1,c,c',hc,b=>by
  have:=y8 (h:=h) (a:=a) c' (by simpa using hc) b;simp only[aGL,cL,this];omega
theorem Ke:∀{h:List aR}{a:Nat},0<cL h a->∃c∈h,(1000+(a:Int))∈c.aB
 |[],a,h=>by simp[cL]at h
 |c::h,a,hp=>by
  simp only[cL]at hp;rcases aGM (0<cX c.aB a)with h1|h1
  ·exact⟨c,aF3,Ov h1⟩
  ·obtain⟨d,hd,hw⟩:=Ke (h:=h) (a:=a) (by have:=fp c.aB a;omega);exact⟨d,aFT _ hd,hw⟩
theorem Tq:∀{h:List aR}{c:aR}(_:c∈h)(a:Nat),cX c.aB a<=cL h a
 |[],c,hc,a=>by simp at hc
 |d::h,c,hc,a=>by
  simp only[cL];rcases List.mem_cons.1 hc with rfl|hc
  ·have:=oH h a;omega
  ·have:=Tq hc a;have:=fp d.aB a;omega
structure mj(h:List aR)(c:aR):Prop where
 fl:c.aB.length<=3
 lo: -1<=c.aG
 hi:c.aG<=999999
 vC:c.aG<1->c.jW=0/\(∀w∈c.aB,w=0)/\(c.aG=0->c.aB=[])
 nM:0<c.aG->(∀w∈c.aB,nY h w)/\0<=c.jW/\c.jW<=99
def WN(h:List aR):Prop:=∃rG:Nat->Nat,∀(i:Nat)(c:aR),h[i]? =some c->∀w∈c.aB,1000<=w->rG (ix w)<rG i
structure dZ(h:List aR)(e:Nat->Int):Prop where
 cell:∀c∈h,mj h c
 Ml:WN h
 ex:∀(a:Nat)(c:aR),h[a]? =some c->0<c.aG->c.aG=cL h a+e a
 nn:∀a,0<=e a
 lv:∀a,0<e a->iJ h a
theorem dZ.congr{h:List aR}{e e':Nat->Int}(hi:dZ h e)(he:∀b,e' b=e b):dZ h e':=by
 have:e'=e:=funext he;rw[this];exact hi
theorem jg(a:Nat):ix (1000+(a:Int))=a:=by unfold ix;omega
theorem fD{w:Int}(h:1000<=w):1000+((ix w:Nat):Int)=w:=by unfold ix;omega
theorem RF{v w:Int}(hv:1000<=v)(hw:1000<=w)(h:ix v=ix w):v=w:=by rw[<-fD hv,<-fD hw,h]
theorem dZ.field{h:List aR}{e:Nat->Int}(hi:dZ h e){c:aR}(hc:c∈h){w:Int}(hw:w∈c.aB)(hp:1000<=w):gJ h w:=by
 have ho:=hi.cell c hc;rcases aGM (0<c.aG)with h1|h1
 ·rcases(ho.nM h1).1 w hw with h2|h2
  ·have:=h2.2;omega
  ·exact h2
 ·have:=(ho.vC ab).2.1 w hw;omega
theorem dZ.afc{h:List aR}{e:Nat->Int}(hi:dZ h e){a:Nat}(hl:¬iJ h a):cL h a=0:=by
 rcases aGM (0<cL h a)with h1|h1
 ·obtain⟨c,hc,hw⟩:=Ke h1;have:=(hi.field hc hw ab).2;rw[jg]at this;exact absurd this hl
 ·have:=oH h a;omega
theorem dZ.ajr{h:List aR}{e:Nat->Int}(hi:dZ h e){a:Nat}(hl:¬iJ h a):e a=0:=by
 have:=hi.nn a;rcases aGM (0<e a)with hp|hp
 ·exact absurd (hi.lv a hp) hl
 ·omega
theorem eR{h:List aR}{a b:Nat}{c:aR}(pW:b≠a):(h.set a c)[b]? =h[b]? :=by rw[aGn (λe=>pW e.symm)]
theorem dw{h:List aR}{a:Nat}{c d:aR}(hd:h[a]? =some d):(h.set a c)[a]? =some c:=by
 rw[aGl (ap hd)]
theorem iJ.ne{h:List aR}{a b:Nat}{c:aR}(pW:b≠a):iJ (h.set a c) b<->iJ h b:=by unfold iJ;rw[eR pW]
theorem iJ.EA{h:List aR}{a:Nat}{c d:aR}(hd:h[a]? =some d):iJ (h.set a c) a<->0<c.aG:=by
 unfold iJ;rw[dw hd];simp
theorem nY.mono{h h':List aR}{w:Int}(hw:nY h w)(hl:1000<=w->iJ h (ix w)->iJ h' (ix w)):nY h' w:=by
 rcases hw with h1|h1
 ·exact Or.inl h1
 ·exact Or.inr ⟨h1.1,hl h1.1 h1.2⟩
theorem mj.mono{h h':List aR}{c:aR}(hc:mj h c)(hl:0<c.aG->∀w∈c.aB,1000<=w->iJ h (ix w)->iJ h' (ix w)):mj h' c:=
 ⟨hc.fl,hc.lo,hc.hi,hc.vC,λhp=>⟨λw hw=>((hc.nM hp).1 w hw).mono (hl hp w hw),(hc.nM hp).2⟩⟩
theorem oI{h:List aR}{a:Nat}{c x:aR}(hx:x∈h.set a c):x=c\/∃b,b≠a/\h[b]? =some x:=by
 obtain⟨b,hb⟩:=List.mem_iff_getElem?.1 hx;by_cases e:b=a
 ·subst e;rw[List.getElem?_set_self']at hb;cases h1:h[b]? with
  |none=>simp[h1]at hb
  |some d=>simp[h1]at hb;exact Or.inl hb.symm
 ·rw[eR e]at hb;exact Or.inr ⟨b,e,hb⟩
theorem dZ.Jq{h:List aR}{e e':Nat->Int}(hi:dZ h e){a:Nat}{c:aR}(hc:h[a]? =some c)(hp:0<c.aG){n:Int}(hn:0<n)(hm:n<=999999)
 (he:∀b,e' b=e b+if b=a then n -c.aG else 0)(h0:0<=e' a):dZ (h.set a {c with aG:=n}) e':=by
 have iz:∀b,iJ (h.set a {c with aG:=n}) b<->iJ h b:=λb=>by
  by_cases pW:b=a
  ·subst pW;rw[iJ.EA hc];exact⟨λ_=>⟨c,hc,hp⟩,λ_=>hn⟩
  ·exact iJ.ne pW
 have hr:∀b,cL (h.set a {c with aG:=n}) b=cL h b:=λb=>by rw[y8 _ hc];simp only[];omega
 refine⟨λx hx=>?_,?_,λb d hd hdp=>?_,λb=>?_,λb hb=>?_⟩
 ·rcases oI hx with rfl|⟨b,_,hb⟩
  ·have ho:=hi.cell c (ak hc)
   exact⟨ho.fl,by simp only[];omega,hm,λh1=>by simp only[]at h1;omega,λ_=>⟨λw hw=>((ho.nM hp).1 w hw).mono λ_ hl=>(iz _).2 hl,(ho.nM hp).2⟩⟩
  ·exact(hi.cell x (ak hb)).mono λ_ w _ _ hl=>(iz _).2 hl
 ·obtain⟨rG,Q5⟩:=hi.Ml
  refine⟨rG,λi d hd w hw hp=>?_⟩
  by_cases Q6:i=a
  ·subst Q6;rw[dw hc]at hd;simp at hd;subst hd;exact Q5 i c hc w hw hp
  ·rw[eR Q6]at hd;exact Q5 i d hd w hw hp
 ·rw[hr,he]
  by_cases pW:b=a
  ·subst pW;rw[dw hc]at hd;simp at hd;subst hd
   have:=hi.ex b c hc hp
   simp only[aFW];omega
  ·rw[eR pW]at hd
   have:=hi.ex b d hd hdp
   rw[aFS pW];omega
 ·by_cases pW:b=a
  ·subst pW;exact h0
  ·rw[he,aFS pW];have:=hi.nn b;omega
 ·rw[iz]
  by_cases pW:b=a
  ·subst pW;exact⟨c,hc,hp⟩
  ·rw[he,aFS pW]at hb;exact hi.lv b ab
theorem dZ.RG{h:List aR}{e e':Nat->Int}(hi:dZ h e){a:Nat}{c:aR}(hc:h[a]? =some c)(h1:c.aG=1)(hea:0<e a){c':aR}(Dz: -1<=c'.aG)(cA:c'.aG<1)(ML:c'.jW=0)
 (hz:∀w∈c'.aB,w=0)(tB:c'.aB.length<=3)(OR:c'.aG=0->c'.aB=[])
 (he:∀b,e' b=e b -(if b=a then 1 else 0)+cX c.aB b):dZ (h.set a c') e':=by
 have hx:=hi.ex a c hc ab
 have hrn:=oH h a
 have hra:cL h a=0:=ab
 have azn:e a=1:=ab
 have zH:∀x∈h,(1000+(a:Int))∉x.aB:=λx hx hw=>by
  have:=Tq hx a;have:=sL hw;omega
 have hoa:cX c.aB a=0:=lD (zH c (ak hc))
 have hoz:∀b,cX c'.aB b=0:=λb=>lD λhw=>by have:=hz _ hw;omega
 have iz:∀b,b≠a->iJ h b->iJ (h.set a c') b:=λb pW hl=>(iJ.ne pW).2 hl
 have cx:∀x∈h,∀w∈x.aB,1000<=w->ix w≠a:=λx hx w hw hp e2=>by
  have:=fD hp;rw[e2]at this;rw[<-this]at hw;exact zH x hx hw
 refine⟨λx hx=>?_,?_,λb d hd hdp=>?_,λb=>?_,λb hb=>?_⟩
 ·rcases oI hx with rfl|⟨b,_,hb⟩
  ·exact⟨tB,Dz,ab,λ_=>⟨ML,hz,OR⟩,λhp=>ab⟩
  ·exact(hi.cell x (ak hb)).mono λ_ w hw hp hl=>iz _ (cx x (ak hb) w hw hp) hl
 ·obtain⟨rG,Q5⟩:=hi.Ml
  refine⟨rG,λi d hd w hw hp=>?_⟩
  by_cases Q6:i=a
  ·subst Q6;rw[dw hc]at hd;simp at hd;subst hd;have:=hz w hw;omega
  ·rw[eR Q6]at hd;exact Q5 i d hd w hw hp
 ·rw[y8 _ hc,hoz,he]
  by_cases pW:b=a
  ·subst pW;rw[dw hc]at hd;simp at hd;subst hd;omega
  ·rw[eR pW]at hd
   have:=hi.ex b d hd hdp
   rw[aFS pW];omega
 ·rw[he]
  have:=hi.nn b
  have:=fp c.aB b
  split
  ·rename_i pW;subst pW;omega
  ·omega
 ·rw[he]at hb
  by_cases pW:b=a
  ·subst pW;rw[aFW rfl]at hb;omega
  ·rw[aFS pW]at hb
   refine iz b pW ?_
   rcases aGM (0<e b)with h2|h2
   ·exact hi.lv b h2
   ·have:=hi.nn b
    have hw:=Ov (l:=c.aB) (a:=b) ab
    have:=(hi.field (ak hc) hw ab).2
    rwa[jg]at this
theorem dZ.make{h h':List aR}{e e':Nat->Int}(hi:dZ h e){a:Nat}{t:Int}{fs:List Int}(Ju:¬iJ h a)(zH:h'[a]? =some ⟨1,t,fs⟩)(QJ:∀b,b≠a->h'[b]? =h[b]?)
 (hr:∀b,cL h' b=cL h b+cX fs b)(hw:∀w∈fs,nY h w)(tB:fs.length<=3)(ht:0<=t/\t<=99)(hle:∀b,cX fs b<=e b)
 (he:∀b,e' b=e b -cX fs b+if b=a then 1 else 0):dZ h' e':=by
 have iz:∀b,iJ h b->iJ h' b:=λb hl=>by
  by_cases pW:b=a
  ·subst pW;exact absurd hl Ju
  ·unfold iJ;rw[QJ b pW];exact hl
 have hea:=hi.ajr Ju
 have hra:=hi.afc Ju
 have hoa:cX fs a=0:=by have:=fp fs a;have:=hle a;omega
 refine⟨λx hx=>?_,?_,λb d hd hdp=>?_,λb=>?_,λb hb=>?_⟩
 ·obtain⟨b,hb⟩:=List.mem_iff_getElem?.1 hx
  by_cases pW:b=a
  ·subst pW;rw[zH]at hb;simp at hb;subst hb
   exact⟨tB,az,az,λh1=>by simp at h1,λ_=>⟨λw SD=>(hw w SD).mono λ_ hl=>iz _ hl,ht⟩⟩
  ·rw[QJ b pW]at hb
   exact(hi.cell x (ak hb)).mono λ_ w _ _ hl=>iz _ hl
 ·obtain⟨rG,Q5⟩:=hi.Ml
  refine⟨λi=>if i=a then(fs.map λw=>rG (ix w)).sum+1 else rG i,λi d hd w SD hp=>?_⟩
  have hwa:ix w≠a:=λe2=>by
   have hlw:gJ h w:=by
    by_cases Q6:i=a
    ·subst Q6;rw[zH]at hd;simp at hd;subst hd;rcases hw w SD with h2|h2
     ·have:=h2.2;omega
     ·exact h2
    ·rw[QJ i Q6]at hd;exact hi.field (ak hd) SD hp
   exact Ju (e2▸hlw.2)
  simp only[aFS hwa]
  by_cases Q6:i=a
  ·subst Q6;rw[zH]at hd;simp at hd;subst hd
   rw[aFW rfl]
   have:∀(l:List Int),w∈l->rG (ix w)<=(l.map λw=>rG (ix w)).sum:=by
    intro l hl;induction l with
    |nil=>simp at hl
    |cons y l ih=>
     simp only[aGf,List.sum_cons];rcases List.mem_cons.1 hl with rfl|hl
     ·omega
     ·have:=ih hl;omega
   have:=this fs SD;omega
  ·rw[aFS Q6];rw[QJ i Q6]at hd;exact Q5 i d hd w SD hp
 ·rw[hr,he]
  by_cases pW:b=a
  ·subst pW;rw[zH]at hd;simp at hd;subst hd
   rw[aFW rfl];simp only[];omega
  ·rw[QJ b pW]at hd
   have:=hi.ex b d hd hdp
   rw[aFS pW];omega
 ·rw[he];have:=hle b;split<;>omega
 ·rw[he]at hb
  by_cases pW:b=a
  ·subst pW;exact⟨_,zH,az⟩
  ·rw[aFS pW]at hb
   exact iz b (hi.lv b (by have:=fp fs b;omega))
theorem dZ.fR:∀(n:Nat)(h:List aR)(st:List Int)(e:Nat->Int),IK h+st.length<=n->dZ h (λb=>e b+cX st b)->(∀b,0<=e b)->dZ (fR h st) e
 |n,h,[],e,_,hi,_=>by rw[zU];exact hi.congr λb=>by simp[cX]
 |n,h,w::r,e,hn,hi,h0=>by
  rcases aGM (gJ h w)with hl|hl
  ·obtain⟨hc,hp⟩:=bE hl;have hwx:=fD hl.1;have hoc:∀b,cX (w::r) b=(if b=ix w then 1 else 0)+cX r b:=λb=>by
    simp only[cX];congr 1;by_cases hb:b=ix w
    ·subst hb;rw[aFW hwx.symm,aFW rfl]
    ·rw[aFS hb,aFS (λe2=>hb (by rw[e2,jg]))]
   have SE:=kA (c':=iv) hc;by_cases h1:(aK h w).aG=1
   ·rw[zV hl h1];simp only[aFW hp,iv]at SE;simp at SE;cases n with
    |zero=>simp at hn
    |succ n=>
    refine dZ.fR n _ _ e ?_ (dZ.RG hi hc h1 ?_ aO aO rfl (by simp[iv]) (by simp[iv]) (λ_=>rfl) λb=>?_) h0
    ·simp[iv]at hn⊢;omega
    ·simp only[hoc,aFW];have:=h0 (ix w);have:=fp r (ix w);omega
    ·simp only[hoc,mh,yZ];omega
   ·rw[vz hl h1];have Lu:=kA (c':={aK h w with aG:=(aK h w).aG -1}) hc;simp only[aFW hp]at Lu;rw[aFW ab]at Lu;have hm:=(hi.cell _ (ak hc)).hi;cases n with
    |zero=>simp at hn
    |succ n=>
    refine dZ.fR n _ _ e ?_ (dZ.Jq hi hc hp ab ab (λb=>?_) ?_) h0
    ·simp only[aF5]at hn;simp only[eE];omega
    ·simp only[hoc];split<;>omega
    ·have:=h0 (ix w);have:=fp r (ix w);omega
  ·rw[vA hl];cases n with
   |zero=>simp at hn
   |succ n=>
   refine dZ.fR n _ _ e (by simp at hn;omega) (hi.congr λb=>?_) h0;simp only[cX];rw[aFS]
   ·omega
   ·intro e2;have:=hi.lv b (by simp only[cX,aFW e2];have:=h0 b;have:=fp r b;omega);exact hl ⟨ab,by rw[e2,jg];exact this⟩
theorem qU(h:List aR):∀n,iW h n<=n
 |0=>aFR _
 |n+1=>by
  simp only[iW];have:=qU h n;split
  ·split<;>omega
  ·omega
theorem qV(h:List aR):∀(n k:Nat)(c:aR),iW h n<=k->k<n->h[k]? =some c->c.aG=0
 |0,k,c,_,hk,_=>ab
 |n+1,k,c,h1,h2,hc=>by
  simp only[iW]at h1;by_cases hk:k=n
  ·subst hk;rw[hc]at h1;simp only[]at h1;split at h1
   ·assumption
   ·omega
  ·split at h1
   ·split at h1
    ·exact qV h n k c h1 ab hc
    ·omega
   ·exact qV h n k c h1 ab hc
theorem Kf(h:List aR):∀(n:Nat)(c:aR),n<=h.length->h[iW h n -1]? =some c->0<iW h n->c.aG≠0
 |0,c,_,_,hp=>by simp[iW]at hp
 |n+1,c,hn,hc,hp=>by
  simp only[iW]at hc hp;obtain⟨d,hd⟩:=ae (l:=h) (k:=n) ab;rw[hd]at hc hp;simp only[]at hc hp;split at hc
  ·rename_i h0;rw[aFW h0]at hp;exact Kf h n c ab hc hp
  ·rename_i h0;simp at hc;rw[hd]at hc;simp at hc;subst hc;exact h0
def lK(h:List aR):Prop:=∀c,h[h.length -1]? =some c->c.aG≠0
theorem EB(h:List aR):lK (pH h):=by
 intro c hc;have hle:=qU h h.length;unfold pH at hc;rw[aGH,aGV hle]at hc;rcases aGT (iW h h.length)with h0|h0
 ·rw[h0]at hc;simp at hc
 ·rw[aGj ab]at hc;exact Kf h _ c (aFR _) hc h0
theorem Nd:∀{h:List aR},(∀c∈h,c.aB=[])->∀a,cL h a=0
 |[],_,a=>rfl
 |c::h,hf,a=>by simp only[cL,hf c aF3,cX,Nd (λd hd=>hf d (aFT _ hd)) a];rfl
theorem dZ.pH{h:List aR}{e:Nat->Int}(hi:dZ h e):dZ (pH h) e:=by
 have hle:=qU h h.length;have Vb:∀(b:Nat)(c:aR),h[b]? =some c->c.aG≠0->b<iW h h.length:=λb c hc h0=>
  aGo λhn=>h0 (qV h h.length b c ab (ap hc) hc)
 have af9:∀(b:Nat)(c:aR),(Go.Proofs.YtakpkjhmbbfniaaGreat.pH h)[b]? =some c->h[b]? =some c:=λb c hc=>by
  unfold Go.Proofs.YtakpkjhmbbfniaaGreat.pH at hc;have:=ap hc;rw[aGH]at this;rwa[aGj ab]at hc
 have iz:∀b,iJ h b->iJ (Go.Proofs.YtakpkjhmbbfniaaGreat.pH h) b:=λb⟨c,hc,hp⟩=>⟨c,by
  unfold Go.Proofs.YtakpkjhmbbfniaaGreat.pH;rw[aGj (Vb b c hc ab)];exact hc,hp⟩
 have hr:∀b,cL (Go.Proofs.YtakpkjhmbbfniaaGreat.pH h) b=cL h b:=λb=>by
  have e1:h=Go.Proofs.YtakpkjhmbbfniaaGreat.pH h++h.drop (iW h h.length):=(aGi _ _).symm;have e2:cL (h.drop (iW h h.length)) b=0:=Nd (λc hc=>by
   obtain⟨k,hk⟩:=List.mem_iff_getElem?.1 hc;rw[aHk]at hk;have h0:=qV h h.length _ c ab (ap hk) hk;exact((hi.cell c (ak hk)).vC ab).2.2 h0) b
  have e3:=aHB (λl=>cL l b) e1;simp only[sM,e2]at e3;omega
 refine⟨λc hc=>?_,?_,λa c hc hp=>?_,hi.nn,λa ha=>iz a (hi.lv a ha)⟩
 ·obtain⟨b,hb⟩:=List.mem_iff_getElem?.1 hc;exact(hi.cell c (ak (af9 b c hb))).mono λ_ w _ _ hl=>iz _ hl
 ·obtain⟨rG,Q5⟩:=hi.Ml;exact⟨rG,λi c hc=>Q5 i c (af9 i c hc)⟩
 ·rw[hr];exact hi.ex a c (af9 a c hc) hp
theorem qW{l:List Int}{i:Int}(h0:0<=i)(h1:i<l.length):l[i.toNat]? =some (aE l i):=by
 obtain⟨x,hx⟩:=ae (l:=l) (k:=i.toNat) ab;simp[aE,hx]
theorem Ow{l:List Int}{i x:Int}(h:l[i.toNat]? =some x):aE l i=x:=by simp[aE,h]
theorem fI{l:List Int}{i:Int}(h0:0<=i)(h1:i<l.length):aE l i∈l:=aGW (qW h0 h1)
theorem iK(l:List Int)(i v:Int):(fx l i v).length=l.length:=by simp[fx]
theorem qX{l:List Int}{i v x:Int}(h:x∈fx l i v):x=v\/x∈l:=by
 rcases aGd h with h|h
 ·exact Or.inr h
 ·exact Or.inl h
theorem EC(l:List Int)(i v:Int)(k:Nat):(fx l i v)[k]? =if k=i.toNat/\k<l.length then some v else l[k]? :=by
 unfold fx;by_cases h:k=i.toNat
 ·subst h;by_cases h2:i.toNat<l.length
  ·rw[aGl h2,aFW ⟨rfl,h2⟩]
  ·rw[aFS ab,aHs ab]
 ·rw[aFS ab,aGn (λe=>h e.symm)]
theorem GD:∀(an aL:List Int)(k:Nat)(w o w0 o0:Int)(a:Nat),an[k]? =some w0->aL[k]? =some o0->
 bQ (an.set k w) (aL.set k o) a=bQ an aL a -(if w0=1000+(a:Int)then o0 else 0)+(if w=1000+(a:Int)then o else 0)
 |[],aL,k,w,o,w0,o0,a,h1,h2=>by simp at h1
 |r::rs,[],k,w,o,w0,o0,a,h1,h2=>by simp at h2
 |r::rs,q::os,0,w,o,w0,o0,a,h1,h2=>by
  simp at h1 h2;subst h1;subst h2;simp only[aGK,bQ];omega
 |r::rs,q::os,k+1,w,o,w0,o0,a,h1,h2=>by
  have:=GD rs os k w o w0 o0 a (by simpa using h1) (by simpa using h2);simp only[aGL,bQ,this];omega
theorem WO{l:List Int}{k:Nat}{x:Int}(h:l[k]? =some x):l.set k x=l:=by
 apply aGC;intro i;by_cases hi:k=i
 ·subst hi;rw[aGl (ap h),h]
 ·rw[aGn hi]
theorem GF{an aL:List Int}{r:Int}(h0:0<=r)(h1:r<an.length)(h2:r<aL.length)(o:Int)(a:Nat):
 bQ an (fx aL r o) a=bQ an aL a+(if aE an r=1000+(a:Int)then o -aE aL r else 0):=by
 have e1:=qW h0 h1
 have:=GD an aL r.toNat (aE an r) o _ _ a e1 (qW h0 h2)
 rw[WO e1]at this
 rw[fx,this];split<;>omega
theorem Nf{an aL:List Int}{r:Int}(h0:0<=r)(h1:r<an.length)(h2:r<aL.length)(hz:aE aL r=0)(w o:Int)(a:Nat):
 bQ (fx an r w) (fx aL r o) a=bQ an aL a+(if w=1000+(a:Int)then o else 0):=by
 have:=GD an aL r.toNat w o _ _ a (qW h0 h1) (qW h0 h2)
 rw[fx,fx,this,hz];split<;>omega
theorem qY:∀{an aL:List Int},(∀o∈aL,0<=o)->∀a,0<=bQ an aL a
 |[],aL,h,a=>by cases aL<;>simp[bQ]
 |r::rs,[],h,a=>by simp[bQ]
 |r::rs,o::os,h,a=>by
  have:=qY (an:=rs) (aL:=os) (λx hx=>h x (aFT _ hx)) a;have:=h o aF3;simp only[bQ];split<;>omega
theorem qZ:∀{an aL:List Int},aal aL->∀a,bQ an aL a=0
 |[],aL,h,a=>by cases aL<;>simp[bQ]
 |r::rs,[],h,a=>by simp[bQ]
 |r::rs,o::os,h,a=>by
  have:=qZ (an:=rs) (aL:=os) (λx hx=>h x (aFT _ hx)) a;have:=h o aF3;simp only[bQ,this];split<;>omega
theorem ED:∀{r1 o1:List Int}(r2 o2:List Int),r1.length=o1.length->∀a,bQ (r1++r2) (o1++o2) a=bQ r1 o1 a+bQ r2 o2 a
 |[],[],r2,o2,_,a=>by simp[bQ]
 |[],_::_,_,_,h,_=>by simp at h
 |_::_,[],_,_,h,_=>by simp at h
 |r::rs,o::os,r2,o2,h,a=>by
  have:=ED (r1:=rs) (o1:=os) r2 o2 (by simpa using h) a;simp only[aGg,bQ,this];omega
theorem Kg:∀{an aL:List Int}{k:Nat}{w o:Int}(_:∀o∈aL,0<=o)(_:an[k]? =some w)(_:aL[k]? =some o){a:Nat}(_:w=1000+(a:Int)),o<=bQ an aL a
 |[],_,_,_,_,_,h1,_,_,_=>by simp at h1
 |_::_,[],_,_,_,_,_,h2,_,_=>by simp at h2
 |r::rs,q::os,0,w,o,hn,h1,h2,a,ha=>by
  simp at h1 h2;subst h1;subst h2;have:=qY (an:=rs) (aL:=os) (λx hx=>hn x (aFT _ hx)) a;simp only[bQ,aFW ha];omega
 |r::rs,q::os,k+1,w,o,hn,h1,h2,a,ha=>by
  have:=Kg (an:=rs) (aL:=os) (k:=k) (λx hx=>hn x (aFT _ hx)) (by simpa using h1) (by simpa using h2) ha;have:=hn q aF3;simp only[bQ];split<;>omega
theorem dL:∀(l r:List aM)(a:Nat),dz (l++r) a=dz l a+dz r a
 |[],r,a=>by simp[dz]
 |f::l,r,a=>by simp only[aGg,dz,dL l r a];omega
theorem iL(f:aM)(a:Nat):dz [f] a=bQ f.an f.aL a:=by simp[dz]
theorem cQ:∀(l r:List aM)(a:Nat),holds (l++r) a=holds l a+holds r a
 |[],r,a=>by simp[holds]
 |f::l,r,a=>by simp only[aGg,holds,cQ l r a];omega
theorem fw(f:aM)(a:Nat):holds [f] a=cX f.aQ a:=by simp[holds]
theorem uj:∀(l:List aM)(a:Nat),0<=holds l a
 |[],a=>by simp[holds]
 |f::l,a=>by have:=uj l a;have:=fp f.aQ a;simp only[holds];omega
theorem oY(an:List Int):∀(rs aL:List Int),(cF an aL rs).length=aL.length
 |[],aL=>rfl
 |r::rs,aL=>by simp only[cF];rw[oY an rs];split<;>simp[iK]
theorem vD{an:List Int}:∀(rs aL:List Int),(∀r∈rs,0<=r/\r<an.length)->an.length=aL.length->∀a,bQ an (cF an aL rs) a=bQ an aL a -cX (rs.map (aE an)) a
 |[],aL,_,_,a=>by simp[cF,cX]
 |r::rs,aL,h,hl,a=>by
  have hr:=h r aF3;have ih:=λaL hl=>vD (an:=an) rs aL (λx hx=>h x (aFT _ hx)) hl a;simp only[cF,aGf,cX];by_cases hp:1000<=aE an r
  ·rw[aFW hp,ih _ (by rw[iK];exact hl),GF hr.1 hr.2 ab];split<;>omega
  ·rw[aFS hp,ih _ hl,aFS ab];omega
theorem rc{an:List Int}:∀(rs aL:List Int)(k:Nat)(o:Int),(cF an aL rs)[k]? =some o->∃q,aL[k]? =some q/\o<=q
 |[],aL,k,o,h=>⟨o,h,aGw _⟩
 |r::rs,aL,k,o,h=>by
  simp only[cF]at h;obtain⟨q,hq,hle⟩:=rc rs _ k o h;split at hq
  ·rw[EC]at hq;split at hq
   ·rename_i hk;obtain⟨y,hy⟩:=ae hk.2;have e:aE aL r=y:=by rw[aE,aGJ,<-hk.1,hy];rfl
    simp at hq;exact⟨y,hy,ab⟩
   ·exact⟨q,hq,hle⟩
  ·exact⟨q,hq,hle⟩
theorem sN:∀(rs aL:List Int),(dE aL rs).length=aL.length
 |[],aL=>rfl
 |r::rs,aL=>by simp only[dE];rw[sN rs,iK]
theorem EE{an:List Int}:∀(rs aL:List Int),(∀r∈rs,0<=r/\r<an.length)->an.length=aL.length->∀a,bQ an (dE aL rs) a=bQ an aL a+cX (rs.map (aE an)) a
 |[],aL,_,_,a=>by simp[dE,cX]
 |r::rs,aL,h,hl,a=>by
  have hr:=h r aF3;simp only[dE,aGf,cX];rw[EE (an:=an) rs _ (λx hx=>h x (aFT _ hx)) (by rw[iK];exact hl) a,GF hr.1 hr.2 ab];split<;>omega
theorem Kh{an:List Int}:∀(rs aL:List Int),(∀r∈rs,0<=r/\r<aL.length/\1000<=aE an r)->
 (∀(k:Nat)(o w:Int),aL[k]? =some o->an[k]? =some w->0<=o/\(0<o->1000<=w))->∀(k:Nat)(o w:Int),(dE aL rs)[k]? =some o->an[k]? =some w->0<=o/\(0<o->1000<=w)
 |[],aL,_,h,k,o,w,ho,hw=>h k o w ho hw
 |r::rs,aL,hr,h,k,o,w,ho,hw=>by
  refine Kh (an:=an) rs (fx aL r (aE aL r+1)) (λx hx=>by rw[iK];exact hr x (aFT _ hx)) (λk o w ho hw=>?_) k o w ho hw;rw[EC]at ho;split at ho
  ·rename_i hk;have h1:=hr r aF3;have e:aE an r=w:=by rw[aE,aGJ,<-hk.1,hw];rfl
   have h2:=h k (aE aL r) w (by rw[hk.1];exact qW h1.1 h1.2.1) hw;simp at ho;exact⟨ab,λ_=>ab⟩
  ·exact h k o w ho hw
def dG(h:List aR)(a:Nat):Prop:=∃c,h[a]? =some c/\c.aG<0
structure eM(im:bq)(f:aM):Prop where
 dJ:0<=f.dJ/\f.dJ<im.bJ.length
 pc:0<=f.pc/\f.pc<(cP im f.dJ).bP.length
 lr:(f.an.length:Int)=(cP im f.dJ).an
 lo:(f.aL.length:Int)=(cP im f.dJ).an
 lh:(f.aQ.length:Int)=(cP im f.dJ).an
 Rz:∀w∈f.an,eT w\/1000<=w
 aL:∀(k:Nat)(o w:Int),f.aL[k]? =some o->f.an[k]? =some w->0<=o/\(0<o->1000<=w)
 aQ:∀w∈f.aQ,w=0\/1000<=w
structure bR(im:bq)(s:St):Prop where
 eG:kN im
 bT:0<=s.bT/\s.bT<=3
 done:s.bT=0<->s.ai=[]
 value:eT s.value
 pI:s.value≠0->s.bT=0
 cV:0<=s.cV/\s.cV<=40
 be:0<=s.be/\s.be<=s.cV
 jT:(s.ai.length:Int)<=s.be+1
 aT:∀n∈s.aT,eT n
 heap:dZ s.heap (dz s.ai)
 fE:lK s.heap
 ai:∀f∈s.ai,eM im f
 first:∀f,s.ai[0]? =some f->f.dst=0
 chain:∀(k:Nat)(f g:aM),s.ai[k]? =some f->s.ai[k+1]? =some g->0<=g.dst/\g.dst<f.aL.length/\aE f.aL g.dst=0
 ic:∀a,dG s.heap a->holds s.ai a=1
 jN:∀a,¬dG s.heap a->holds s.ai a=0
theorem eM.PZ{im:bq}{f:aM}(h:eM im f):∀o∈f.aL,0<=o:=λo ho=>by
 obtain⟨k,hk⟩:=List.mem_iff_getElem?.1 ho;have h1:=ap hk;have:=h.lo;have:=h.lr;obtain⟨w,hw⟩:=ae (l:=f.an) (k:=k) ab;exact(h.aL k o w hk hw).1
theorem Jr{im:bq}:∀{fs:List aM},(∀f∈fs,eM im f)->∀a,0<=dz fs a
 |[],_,a=>by simp[dz]
 |f::fs,h,a=>by
  have:=Jr (λg hg=>h g (aFT _ hg)) a;have:=qY (an:=f.an) (h f aF3).PZ a;simp only[dz];omega
theorem bR.split{im:bq}{s:St}(h:bR im s)(hr:s.bT=3):∃fs f,s.ai=fs++[f]:=by
 have:s.ai≠[]:=λe=>by have:=h.done.2 e;omega
 exact⟨s.ai.dropLast,s.ai.getLast this,(aGD this).symm⟩
theorem eM.Ki{im:bq}{f:aM}(hi:kN im)(h:eM im f):∃p,im.bJ[f.dJ.toNat]? =some p/\cP im f.dJ=p/\Gm im p/\p.bP[f.pc.toNat]? =some (dR im f)/\fe im p f.pc.toNat (dR im f):=by
 obtain⟨p,hp⟩:=ae (l:=im.bJ) (k:=f.dJ.toNat) (by have:=h.dJ;omega);have e:cP im f.dJ=p:=by simp[cP,hp]
 have hpo:=hi.cq p (ak hp);have Jz:=h.pc;rw[e]at Jz;obtain⟨i,iy⟩:=ae (l:=p.bP) (k:=f.pc.toNat) ab;have e2:dR im f=i:=by simp[dR,e,iy]
 exact⟨p,hp,e,hpo,e2▸iy,e2▸hpo.cq _ _ iy⟩
theorem bR.fC{im:bq}{s:St}(h:bR im s)(hr:s.bT=3){fs:List aM}{f g:aM}(hf:s.ai=fs++[f]){hp:List aR}{aT:List Int}(hg:eM im g)(hd:g.dst=f.dst)
 (hh:dZ hp (dz (fs++[g])))(ht:lK hp)(hk:∀a,dG hp a->holds (fs++[g]) a=1)(hu:∀a,¬dG hp a->holds (fs++[g]) a=0)(ho:∀n∈aT,eT n){be:Int}(hc:s.be<=be/\be<=s.cV):
 bR im {s with heap:=hp,aT:=aT,be:=be,ai:=fs++[g]}:=by
 have LN:=h.be
 have tC:=h.jT
 rw[hf]at tC
 refine⟨h.eG,h.bT,⟨λe=>by simp at e;omega,λe=>by simp at e⟩,h.value,h.pI,h.cV,⟨by simp only[];omega,hc.2⟩,by simp at tC⊢;omega,ho,hh,ht,λq hq=>?_,λq hq=>?_,λk p q hp hq=>?_,hk,hu⟩
 ·rcases List.mem_append.1 hq with hq|hq
  ·exact h.ai q (by rw[hf];exact aF7 _ hq)
  ·simp at hq;subst hq;exact hg
 ·have fu:=h.first
  rw[hf]at fu
  cases fs with
  |nil=>simp at hq;subst hq;rw[hd];exact fu f az
  |cons y ys=>simp at hq;subst hq;exact fu y az
 ·have Uh:=h.chain k
  rw[hf]at Uh
  simp only[]at hp hq
  have jk:=ap hq
  simp at jk
  rw[aFV ab]at hp
  rcases aF1 (k+1) fs.length with h1|h1
  ·rw[aFV h1]at hq
   exact Uh p q (by rw[aFV ab];exact hp) (by rw[aFV h1];exact hq)
  ·rw[aFX h1]at hq
   have e:k+1 -fs.length=0:=ab
   rw[e]at hq;simp at hq;subst hq
   rw[hd]
   exact Uh p f (by rw[aFV ab];exact hp) (by rw[aFX h1,e];rfl)
theorem dG.ne{h:List aR}{a b:Nat}{c:aR}(pW:b≠a):dG (h.set a c) b<->dG h b:=by unfold dG;rw[eR pW]
theorem dG.EA{h:List aR}{a:Nat}{c d:aR}(hd:h[a]? =some d):dG (h.set a c) a<->c.aG<0:=by unfold dG;rw[dw hd];simp
theorem dG.set{h:List aR}{a:Nat}{c d:aR}(hd:h[a]? =some d)(h0:0<=d.aG)(h1:0<=c.aG)(b:Nat):dG (h.set a c) b<->dG h b:=by
 by_cases pW:b=a
 ·subst pW;rw[dG.EA hd];refine⟨λh2=>ab,λ⟨e,he,hc⟩=>?_⟩;rw[hd]at he;simp at he;subst he;omega
 ·exact dG.ne pW
theorem dG.WQ{h:List aR}{a:Nat}(hk:dG h a):¬iJ h a:=λ⟨c,hc,hp⟩=>by
 obtain⟨d,hd,hn⟩:=hk;rw[hc]at hd;simp at hd;subst hd;omega
theorem dG.eE{h:List aR}{w:Int}(hl:gJ h w)(b:Nat):dG (eE h w) b<->dG h b:=by
 obtain⟨hc,hp⟩:=bE hl;exact dG.set hc ab (by simp only[];omega) b
theorem dG.nl{h:List aR}{w:Int}(hl:gJ h w)(b:Nat):dG (nl h w) b<->dG h b:=by
 obtain⟨hc,hp⟩:=bE hl;exact dG.set hc ab (by simp only[];omega) b
theorem dG.RG{h:List aR}{w:Int}(hl:gJ h w)(b:Nat):dG (h.set (ix w) iv) b<->dG h b:=by
 obtain⟨hc,hp⟩:=bE hl;exact dG.set hc ab (by simp[iv]) b
theorem dG.fR:∀(n:Nat)(h:List aR)(st:List Int),IK h+st.length<=n->∀b,dG (fR h st) b<->dG h b
 |n,h,[],_,b=>by rw[zU]
 |0,h,w::r,hn,b=>by simp at hn
 |n+1,h,w::r,hn,b=>by
  simp only[aF5]at hn;rcases aGM (gJ h w)with hl|hl
  ·obtain⟨hc,hp⟩:=bE hl;by_cases h1:(aK h w).aG=1
   ·have SE:=kA (c':=iv) hc;simp only[aFW hp,iv]at SE;simp at SE;rw[zV hl h1,dG.fR n _ _ (by simp[iv];omega) b,dG.RG hl]
   ·have Lu:=kA (c':={aK h w with aG:=(aK h w).aG -1}) hc;simp only[aFW hp]at Lu;rw[aFW ab]at Lu;rw[vz hl h1,dG.fR n _ _ (by simp only[Go.Proofs.YtakpkjhmbbfniaaGreat.eE];omega) b,dG.eE hl]
  ·rw[vA hl,dG.fR n _ _ ab b]
theorem dG.pH{h:List aR}(b:Nat):dG (pH h) b<->dG h b:=by
 have hle:=qU h h.length;unfold dG Go.Proofs.YtakpkjhmbbfniaaGreat.pH;constructor
 ·rintro⟨c,hc,hn⟩;have:=ap hc;rw[aGH]at this;rw[aGj ab]at hc;exact⟨c,hc,hn⟩
 ·rintro⟨c,hc,hn⟩;refine⟨c,?_,hn⟩;rw[aGj]
  ·exact hc
  ·exact aGo λh1=>by have:=qV h h.length b c ab (ap hc) hc;omega
theorem dZ.nl{h:List aR}{e e':Nat->Int}(hi:dZ h e){w:Int}(hl:gJ h w)(hm:(aK h w).aG<999999)(he:∀b,e' b=e b+if b=ix w then 1 else 0):dZ (nl h w) e':=by
 obtain⟨hc,hp⟩:=bE hl;refine hi.Jq hc hp ab ab (λb=>?_) ?_
 ·rw[he];split<;>omega
 ·rw[he];have:=hi.nn (ix w);split<;>omega
theorem P1{h:List aR}{w:Int}(hl:gJ h w){v:Int}(hv:1000<=v):(aK (nl h w) v).aG=(aK h v).aG+(if v=w then 1 else 0):=by
 obtain⟨hc,hp⟩:=bE hl;unfold nl;by_cases e:v=w
 ·subst e;rw[aFW rfl];conv=>lhs;unfold aK
  rw[dw hc];rfl
 ·rw[aFS e];conv=>lhs;unfold aK
  rw[eR (λe2=>e (RF hv hl.1 e2))];simp[aK]
theorem iJ.nl{h:List aR}{w:Int}(hl:gJ h w)(b:Nat):iJ (nl h w) b<->iJ h b:=by
 obtain⟨hc,hp⟩:=bE hl;by_cases e:b=ix w
 ·subst e;unfold Go.Proofs.YtakpkjhmbbfniaaGreat.nl;rw[iJ.EA hc];exact⟨λ_=>hl.2,λ_=>by simp only[];omega⟩
 ·exact iJ.ne e
theorem fq{w:Int}(hw:1000<=w)(r:List Int)(b:Nat):cX (w::r) b=(if b=ix w then 1 else 0)+cX r b:=by
 simp only[cX];congr 1;have hwx:=fD hw;by_cases hb:b=ix w
 ·subst hb;rw[aFW hwx.symm,aFW rfl]
 ·rw[aFS hb,aFS (λe2=>hb (by rw[e2,jg]))]
theorem dZ.jf:∀(ws:List Int)(h:List aR)(e e':Nat->Int),dZ h e->(∀w∈ws,gJ h w/\(aK h w).aG+cX ws (ix w)<=999999)->(∀b,e' b=e b+cX ws b)->dZ (jf h ws) e'/\(∀b,dG (jf h ws) b<->dG h b)/\(jf h ws).length=h.length
 |[],h,e,e',hi,_,he=>⟨hi.congr λb=>by rw[he];simp[cX],λ_=>aIT,rfl⟩
 |w::ws,h,e,e',hi,hw,he=>by
  obtain⟨hl,hm⟩:=hw w aF3;rw[fq hl.1,aFW rfl]at hm;have:=fp ws (ix w);obtain⟨h1,h2,h3⟩:=dZ.jf ws (Go.Proofs.YtakpkjhmbbfniaaGreat.nl h w) (λb=>e b+if b=ix w then 1 else 0) e' (hi.nl hl ab λb=>rfl) (λv hv=>by
   obtain⟨iO,hmv⟩:=hw v (aFT _ hv);refine⟨⟨iO.1,(iJ.nl hl _).2 iO.2⟩,?_⟩;rw[P1 hl iO.1];rw[fq hl.1]at hmv;split
   ·rename_i e2;subst e2;rw[aFW rfl]at hmv;omega
   ·rename_i e2;rw[aFS (λe3=>e2 (RF iO.1 hl.1 e3))]at hmv;omega) (λb=>by rw[he,fq hl.1];omega)
  refine⟨h1,λb=>by rw[Go.Proofs.YtakpkjhmbbfniaaGreat.jf,h2,dG.nl hl],by rw[Go.Proofs.YtakpkjhmbbfniaaGreat.jf,h3];simp[Go.Proofs.YtakpkjhmbbfniaaGreat.nl]⟩
theorem lE{l:List Int}{w:Int}:w∈pG l<->w∈l/\1000<=w:=by simp[pG]
theorem dZ.apart{h:List aR}{e e':Nat->Int}(hi:dZ h e){w:Int}(hl:gJ h w)(hea:0<e (ix w))(dp:(aK h w).aG=1\/mD h (aK h w).aB)
 (he:∀b,e' b=e b -(if b=ix w then 1 else 0)+cX (aK h w).aB b)(ht:lK h):dZ (apart h w) e'/\(∀b,dG (apart h w) b<->dG h b)/\lK (apart h w):=by
 obtain⟨hc,hp⟩:=bE hl
 unfold Go.Proofs.YtakpkjhmbbfniaaGreat.apart
 by_cases h1:(aK h w).aG=1
 ·rw[aFW h1]
  exact⟨(hi.RG hc h1 hea (c':=iv) aO aO rfl (by simp[iv]) (by simp[iv]) (λ_=>rfl) he).pH,λb=>by rw[dG.pH,dG.RG hl],EB _⟩
 ·rw[aFS h1]
  have dp:mD h (aK h w).aB:=by rcases dp with h2|h2;exact absurd h2 h1;exact h2
  have hmx:=(hi.cell _ (ak hc)).hi
  have QK:dZ (Go.Proofs.YtakpkjhmbbfniaaGreat.eE h w) (λb=>e b -if b=ix w then 1 else 0):=hi.Jq hc hp ab ab (λb=>by split<;>omega) bg
  have iz:∀b,iJ h b->iJ (Go.Proofs.YtakpkjhmbbfniaaGreat.eE h w) b:=λb hb=>by
   by_cases e2:b=ix w
   ·subst e2;unfold Go.Proofs.YtakpkjhmbbfniaaGreat.eE;rw[iJ.EA hc];simp only[];omega
   ·exact(iJ.ne e2).2 hb
  obtain⟨h2,h3,h4⟩:=dZ.jf (pG (aK h w).aB) _ _ e' QK (λv hv=>by
   obtain⟨Y5,JA⟩:=lE.1 hv;have iO:=hi.field (ak hc) Y5 JA;refine⟨⟨iO.1,iz _ iO.2⟩,?_⟩;have:=dp v Y5 JA;rw[ui];have hle:(aK (Go.Proofs.YtakpkjhmbbfniaaGreat.eE h w) v).aG<=(aK h v).aG:=by
    by_cases e2:ix v=ix w
    ·have hvw:=RF JA hl.1 e2;subst hvw;unfold Go.Proofs.YtakpkjhmbbfniaaGreat.eE;conv=>lhs;unfold aK
     rw[dw hc];show(aK h v).aG -1<=(aK h v).aG;omega
    ·unfold Go.Proofs.YtakpkjhmbbfniaaGreat.eE;conv=>lhs;unfold aK
     rw[eR e2];exact aGw _
   omega) (λb=>by rw[he,ui])
  refine⟨h2,λb=>by rw[h3,dG.eE hl],λc pt=>?_⟩
  intro h0
  rw[h4]at pt
  have hln:(Go.Proofs.YtakpkjhmbbfniaaGreat.eE h w).length=h.length:=by simp[Go.Proofs.YtakpkjhmbbfniaaGreat.eE]
  rw[hln]at pt
  have hb:=ap pt
  rw[h4,hln]at hb
  obtain⟨d,hd⟩:=ae (l:=h) (k:=h.length -1) ab
  have LP:=ht d hd
  have hcd:=hi.cell d (ak hd)
  have Dz:=hcd.lo
  rcases aGM (0<d.aG)with hpd|hpd
  ·have hLr:∀(ws:List Int)(g:List aR),(∀v∈ws,gJ g v)->∀b,iJ g b->iJ (Go.Proofs.YtakpkjhmbbfniaaGreat.jf g ws) b:=by
    intro ws;induction ws with
    |nil=>intro g _ b hb;exact hb
    |cons v ws ih=>
     intro g hg b hb;have iO:=hg v aF3;exact ih _ (λy hy=>⟨(hg y (aFT _ hy)).1,(iJ.nl iO _).2 (hg y (aFT _ hy)).2⟩) b ((iJ.nl iO _).2 hb)
   obtain⟨c2,ME,Q7⟩:=hLr (pG (aK h w).aB) (Go.Proofs.YtakpkjhmbbfniaaGreat.eE h w) (λv hv=>by
    obtain⟨Y5,JA⟩:=lE.1 hv;have iO:=hi.field (ak hc) Y5 JA;exact⟨iO.1,iz _ iO.2⟩) _ (iz _ ⟨d,hd,hpd⟩)
   rw[pt]at ME;simp at ME;subst ME;omega
  ·have hk:dG h (h.length -1):=⟨d,hd,ab⟩
   obtain⟨c2,ME,hn2⟩:=(h3 (h.length -1)).2 ((dG.eE hl _).2 hk)
   rw[pt]at ME;simp at ME;subst ME;omega
theorem um:∀(h:List aR),dD h<=h.length
 |[]=>aFR _
 |c::h=>by have:=um h;simp only[dD,aF5];split<;>omega
theorem CR:∀(h:List aR)(c:aR),h[dD h]? =some c->c.aG=0
 |[],c,hc=>by simp[dD]at hc
 |d::h,c,hc=>by
  simp only[dD]at hc;split at hc
  ·rename_i h0;simp at hc;subst hc;exact h0
  ·exact CR h c (by simpa using hc)
theorem dZ.alloc{h:List aR}{e e':Nat->Int}(hi:dZ h e){t:Int}{fs:List Int}(hw:∀w∈fs,nY h w)(tB:fs.length<=3)(ht:0<=t/\t<=99)(hle:∀b,cX fs b<=e b)
 (he:∀b,e' b=e b -cX fs b+if b=dD h then 1 else 0)(htr:lK h):
 dZ (jQ h (dD h) ⟨1,t,fs⟩) e'/\(∀b,dG (jQ h (dD h) ⟨1,t,fs⟩) b<->dG h b)/\lK (jQ h (dD h) ⟨1,t,fs⟩):=by
 unfold jQ
 have Ju:¬iJ h (dD h):=λ⟨c,hc,hp⟩=>by have:=CR h c hc;omega
 by_cases hx:dD h=h.length
 ·rw[aFW hx]
  have zH:(h++[⟨1,t,fs⟩])[dD h]? =some ⟨1,t,fs⟩:=by rw[hx];simp
  have QJ:∀b,b≠dD h->(h++[⟨1,t,fs⟩])[b]? =h[b]? :=λb hb=>by
   rcases aF1 b h.length with h1|h1
   ·rw[aFV h1]
   ·rw[aGc bg,aGc h1]
  refine⟨hi.make Ju zH QJ (λb=>by rw[sM];simp[cL]) hw tB ht hle he,λb=>?_,λc hc=>?_⟩
  ·by_cases hb:b=dD h
   ·rw[hb];unfold dG;rw[zH,hx];simp
   ·unfold dG;rw[QJ b hb]
  ·simp at hc;subst hc;simp
 ·rw[aFS hx]
  have cA:dD h<h.length:=by have:=um h;omega
  obtain⟨d,hd⟩:=ae cA
  have h0:=CR h d hd
  have hf:=((hi.cell d (ak hd)).vC ab).2.2 h0
  refine⟨hi.make Ju (dw hd) (λb hb=>eR hb) (λb=>by rw[y8 _ hd,hf];simp[cX]) hw tB ht hle he,λb=>dG.set hd ab az b,λc hc=>?_⟩
  rw[aGO]at hc
  by_cases hb:h.length -1=dD h
  ·rw[hb,dw hd]at hc;simp at hc;subst hc;simp
  ·rw[eR hb]at hc;exact htr c hc
theorem CS{im:bq}{x:Instr}:∀{l:List Int}{k:Nat}{r:Int},r∈gE im x k l->r∈l
 |[],k,r,h=>by simp[gE]at h
 |y::l,k,r,h=>by
  simp only[gE]at h;split at h
  ·exact aFT _ (CS h)
  ·rcases List.mem_cons.1 h with rfl|h
   ·exact aF3
   ·exact aFT _ (CS h)
theorem Ng{im:bq}{x:Instr}{r:Int}(h:r∈cz im x):r∈x.args:=by
 unfold cz at h;split at h
 ·exact h
 split at h
 ·exact aGk h
 split at h
 ·exact CS h
 ·simp at h
theorem HP{ds:List aS}(h:cE ds)(c:Int):(bz ds c).length<=3:=by
 unfold bz;split
 ·cases hg:(dv ds)[c.toNat]? with
  |none=>simp
  |some f=>
   have hm:=ak hg;unfold dv at hm;obtain⟨d,hd,hfd⟩:=List.mem_flatMap.1 hm;obtain⟨k,hk⟩:=List.mem_iff_getElem?.1 hd;have:=(h.cq k d hk).eZ (List.length_pos_of_mem hfd);exact(this.2.2.2 f hfd).1
 ·simp
theorem eM.put{im:bq}{g:aM}(h:eM im g){r w o:Int}(hr:0<=r)(hw:eT w\/1000<=w)(ho:0<=o)(hp:0<o->1000<=w):eM im (g.put r w o):=by
 refine⟨h.dJ,h.pc,by simp only[aM.put,iK];exact h.lr,by simp only[aM.put,iK];exact h.lo,h.lh,λy hy=>?_,λk q y hq hy=>?_,h.aQ⟩
 ·rcases qX hy with rfl|hy
  ·exact hw
  ·exact h.Rz y hy
 ·simp only[aM.put]at hq hy;rw[EC]at hq hy;have:=h.lr;have:=h.lo;split at hq<;>split at hy
  ·simp at hq hy;subst hq;subst hy;exact⟨ho,hp⟩
  ·omega
  ·omega
  ·exact h.aL k q y hq hy
theorem GG(w:Int):0<=gF w:=by unfold gF;split<;>omega
theorem CT{w:Int}(h:0<gF w):1000<=w:=by unfold gF at h;split at h<;>omega
theorem vE(w:Int)(b:Nat):(if w=1000+(b:Int)then gF w else 0)=cX [w] b:=by
 simp only[cX,gF];split
 ·rw[aFW ab];rfl
 ·rfl
theorem GH(n:Int):eT (Kd n):=by unfold Kd eT;split<;>(try split)<;>omega
theorem P2(op a b:Int):eT (WM op a b):=by
 unfold WM;split
 ·exact GH _
 split
 ·exact GH _
 split
 ·exact GH _
 split<;>(unfold eT;omega)
theorem kP(bX:List Int):∀(ws:List Int)(k:Nat),(fm bX k ws).length=ws.length
 |[],k=>rfl
 |w::ws,k=>by simp only[fm,aF5,kP bX ws]
theorem HQ(bX:List Int):∀(ws:List Int)(k j:Nat)(o w:Int),(fm bX k ws)[j]? =some o->ws[j]? =some w->0<=o/\(0<o->1000<=w)
 |[],k,j,o,w,_,h=>by simp at h
 |v::ws,k,0,o,w,ho,hw=>by
  simp[fm]at ho hw;subst hw;split at ho
  ·subst ho;omega
  ·subst ho;exact⟨GG _,CT⟩
 |v::ws,k,j+1,o,w,ho,hw=>HQ bX ws (k+1) j o w (by simpa[fm]using ho) (by simpa using hw)
theorem jI(n:Nat):(eF n).length=n:=by simp[eF]
theorem nZ{n:Nat}{w:Int}(h:w∈eF n):w=0:=aHW h
theorem sO{im:bq}{g dst:Int}{ws:List Int}{p:bY}(hi:kN im)(h0:0<=g)(hp:im.bJ[g.toNat]? =some p)(hl:ws.length=p.params.length)(hw:∀w∈ws,eT w\/1000<=w):eM im (bF im g dst ws):=by
 have e:cP im g=p:=by simp[cP,hp]
 have hpo:=hi.cq p (ak hp);have hr:=hpo.an;have hlen:=hpo.len;have cA:=ap hp;refine⟨⟨h0,by simp only[bF];omega⟩,⟨by simp[bF],by simp only[bF,e];omega⟩,?_,?_,?_,λw h1=>?_,λk o w ho h1=>?_,λw h1=>Or.inl (nZ h1)⟩
 ·simp only[bF,e,aF4,jI];omega
 ·simp only[bF,e,aF4,jI,kP];omega
 ·simp only[bF,e,jI];omega
 ·simp only[bF]at h1;rcases List.mem_append.1 h1 with h1|h1
  ·exact hw w h1
  ·rw[nZ h1];exact Or.inl (by unfold eT;omega)
 ·simp only[bF]at ho h1;rcases aF1 k ws.length with h2|h2
  ·rw[aFV (by rw[kP];exact h2)]at ho;rw[aFV h2]at h1;exact HQ _ ws 0 k o w ho h1
  ·rw[aFX (by rw[kP];exact h2)]at ho;rw[nZ (aGW ho)];omega
theorem oJ(im:bq)(g dst:Int)(ws:List Int)(b:Nat):bQ (bF im g dst ws).an (bF im g dst ws).aL b=bQ ws (fm (cP im g).bX 0 ws) b:=by
 simp only[bF];rw[ED _ _ (kP _ _ _).symm,qZ (λn hn=>nZ hn)];omega
theorem nm(im:bq)(g dst:Int)(ws:List Int)(b:Nat):holds [bF im g dst ws] b=0:=by
 rw[fw];exact UP _ _
theorem GJ{im:bq}{x:Instr}(f:aM):∀(args:List Int)(k:Nat)(b:Nat),bQ (cp f args) (fm (cP im x.bh).bX k (cp f args)) b=cX ((gE im x k args).map (aE f.an)) b
 |[],k,b=>by simp[cp,bQ,gE,cX]
 |r::rs,k,b=>by
  have ih:=GJ (im:=im) (x:=x) f rs (k+1) b;simp only[cp,aGf,fm,bQ,gE]at ih⊢;rw[ih];by_cases hl:mg im x k=true
  ·rw[aFW hl];unfold mg at hl;rw[aFW hl];split<;>omega
  ·rw[aFS hl];unfold mg at hl;rw[aFS hl];simp only[aGf,cX];have:=vE (aE f.an r) b;simp only[cX]at this;omega
theorem HR:∀(ws:List Int)(k:Nat)(b:Nat),bQ ws (fm [] k ws) b=cX ws b
 |[],k,b=>by simp[bQ,cX]
 |w::ws,k,b=>by
  have:=HR ws (k+1) b;have h2:=vE w b;simp only[cX]at h2;simp only[fm,bQ,cX,this,aH5,aGU,aHA];omega
theorem bR.oc{im:bq}{s:St}{hp:List aR}{fs:List aM}{f g:aM}(h:bR im s)(hf:s.ai=fs++[f])(hh:g.aQ=f.aQ)(hk:∀b,dG hp b<->dG s.heap b):
 (∀a,dG hp a->holds (fs++[g]) a=1)/\(∀a,¬dG hp a->holds (fs++[g]) a=0):=by
 have e:∀a,holds (fs++[g]) a=holds s.ai a:=λa=>by rw[hf,cQ,cQ,fw,fw,hh]
 exact⟨λa ha=>by rw[e];exact h.ic a ((hk a).1 ha),λa ha=>by rw[e];exact h.jN a λh2=>ha ((hk a).2 h2)⟩
theorem bR.push{im:bq}{s:St}(h:bR im s)(hr:s.bT=3){fs:List aM}{f g:aM}(hf:s.ai=fs++[f])(hg:eM im g)(hd:0<=g.dst/\g.dst<f.aL.length/\aE f.aL g.dst=0){hp:List aR}{be:Int}
 (hh:dZ hp (dz (fs++[f,g])))(ht:lK hp)(hk:∀a,dG hp a->holds (fs++[f,g]) a=1)(hu:∀a,¬dG hp a->holds (fs++[f,g]) a=0)(hc:be=s.be+1)(hm:s.be<s.cV):
 bR im {s with heap:=hp,be:=be,ai:=fs++[f,g]}:=by
 have LN:=h.be
 have tC:=h.jT
 rw[hf]at tC
 refine⟨h.eG,h.bT,⟨λe=>by simp at e;omega,λe=>by simp at e⟩,h.value,h.pI,h.cV,⟨by simp only[];omega,by simp only[];omega⟩,by simp at tC⊢;omega,h.aT,hh,ht,λq hq=>?_,λq hq=>?_,λk p q hp hq=>?_,hk,hu⟩
 ·rcases List.mem_append.1 hq with hq|hq
  ·exact h.ai q (by rw[hf];exact aF7 _ hq)
  ·simp at hq
   rcases hq with rfl|rfl
   ·exact h.ai _ (by rw[hf];simp)
   ·exact hg
 ·have fu:=h.first
  rw[hf]at fu
  cases fs with
  |nil=>simp at hq;subst hq;exact fu f az
  |cons y ys=>simp at hq;subst hq;exact fu y az
 ·have Uh:=h.chain k
  rw[hf]at Uh
  simp only[]at hp hq
  have e:fs++[f,g]=(fs++[f])++[g]:=az
  rw[e]at hp hq
  have jk:=ap hq
  simp at jk
  rw[aFV bg]at hp
  rcases aF1 (k+1) (fs++[f]).length with h1|h1
  ·rw[aFV h1]at hq
   exact Uh p q hp hq
  ·simp at h1
   rw[aFX bg]at hq
   have e2:k+1 -(fs++[f]).length=0:=bg
   rw[e2]at hq;simp at hq;subst hq
   rw[aFX ab]at hp
   have e3:k -fs.length=0:=ab
   rw[e3]at hp;simp at hp;subst hp;exact hd
theorem RH{im:bq}{s:St}{fs:List aM}{f:aM}(h:bR im s)(hr:s.bT=3)(hf:s.ai=fs++[f])
 (hm:tx im s f (dR im f) (cF f.an f.aL (cz im (dR im f))))(wg:¬(vB (dR im f).op/\s.be=s.cV)):
 bR im (gT im s fs f (dR im f) (cF f.an f.aL (cz im (dR im f)))):=by
 have hF:eM im f:=h.ai f (by rw[hf];simp)
 obtain⟨p,hp,ZQ,hP,QL,hI⟩:=hF.Ki h.eG
 generalize dR im f=x at*
 have⟨lr,lo,lh⟩:(f.an.length:Int)=p.an/\(f.aL.length:Int)=p.an/\(f.aQ.length:Int)=p.an:=⟨ZQ▸hF.lr,ZQ▸hF.lo,ZQ▸hF.lh⟩
 have Vt:∀a∈x.args,0<=a/\a<f.an.length:=λa ha=>by have:=hI.args a ha;omega
 have hTk:∀r∈cz im x,0<=r/\r<f.an.length:=λr hr=>Vt r (Ng hr)
 have ZR:=vD (an:=f.an) (cz im x) f.aL hTk ab
 have If:=oY f.an (cz im x) f.aL
 have hle:=rc (an:=f.an) (cz im x) f.aL
 generalize cF f.an f.aL (cz im x)=aL at*
 have Ui:∀q∈fs,eM im q:=λq hq=>h.ai q (by rw[hf];exact aF7 _ hq)
 have hEn:∀b,0<=dz fs b+bQ f.an aL b:=λb=>by
  have:=Jr Ui b;have:=qY (an:=f.an) hm.nn b;omega
 have HE:dZ s.heap (λb=>dz fs b+bQ f.an aL b+cX ((cz im x).map (aE f.an)) b):=h.heap.congr λb=>by
  rw[hf,dL,iL,ZR];omega
 have Y6:∀Uj:Int,0<=Uj->Uj<p.bP.length->eM im {f with aL:=aL,pc:=Uj}:=λUj h0 h1=>
  ⟨hF.dJ,⟨h0,by rw[ZQ];exact h1⟩,hF.lr,by simp only[If];exact hF.lo,hF.lh,hF.Rz,λk o w ho hw=>by
   obtain⟨q,hq,Uk⟩:=hle k o ho;have h2:=hF.aL k q w hq hw;exact⟨hm.nn o (aGW ho),λqB=>h2.2 ab⟩,hF.aQ⟩
 have Jz:=hF.pc
 rw[ZQ]at Jz
 have sW:x.op≠23->x.op≠24->f.pc+1<p.bP.length:=λh1 h2=>by
  rcases aGM (f.pc+1<p.bP.length)with h3|h3
  ·exact h3
  ·have e:f.pc.toNat=p.bP.length -1:=ab;rw[e]at QL;have:=hP.Mg x QL;omega
 have hG:x.op≠23->x.op≠24->eM im {f with aL:=aL,pc:=f.pc+1}:=λh1 h2=>Y6 _ ab (sW h1 h2)
 have DA:∀r:Int,0<=r->r<f.an.length->eT (aE f.an r)\/1000<=aE f.an r:=λr h0 h1=>hF.Rz _ (fI h0 h1)
 have Ul:∀r:Int,0<=r->r<f.an.length->aE f.an r<1000->eT (aE f.an r):=λr h0 h1 h2=>by rcases DA r h0 h1 with h3|h3;exact h3;omega
 have nG:=hI.dst
 have LP:jA x.op->aE aL x.dst=0:=λhs=>by
  have h1:=hm.dst hs;have h2:=hm.nn _ (fI (l:=aL) nG.1 ab);omega
 have akV:∀r∈cz im x,nY s.heap (aE f.an r):=λr hrm=>by
  have Q8:=hTk r hrm;rcases DA r Q8.1 Q8.2 with h3|h3
  ·exact Or.inl h3
  ·refine Or.inr ⟨h3,HE.lv _ ?_⟩;have:=hEn (ix (aE f.an r));have:=sL (l:=(cz im x).map (aE f.an)) (a:=ix (aE f.an r)) (by rw[fD h3];exact List.mem_map.2 ⟨r,hrm,rfl⟩);omega
 have Fx:∀(Uj:Int)(Um:List Int)(w o:Int),jA x.op->∀b,dz (fs++[aM.put {f with aL:=aL,pc:=Uj,aQ:=Um} x.dst w o]) b=dz fs b+bQ f.an aL b+(if w=1000+(b:Int)then o else 0):=λUj Um w o hs b=>by
  rw[dL,iL];simp only[aM.put];rw[Nf nG.1 ab ab (LP hs)];omega
 have O0:∀(w:Int)(aT:List Int),jA x.op->x.op≠23->x.op≠24->cz im x=[]->(eT w\/1000<=w)->(∀n∈aT,eT n)->bR im {s with aT:=aT,ai:=fs++[aM.put {f with aL:=aL,pc:=f.pc+1} x.dst w 0]}:=λw aT hs h1 h2 ht hw ho=>by
  obtain⟨hk,hu⟩:=h.oc hf (g:=aM.put {f with aL:=aL,pc:=f.pc+1} x.dst w 0) rfl (λb=>aIT);refine h.fC hr hf (hd:=rfl) ((hG h1 h2).put nG.1 hw (aGw _) (λh3=>ab)) (HE.congr λb=>?_) h.fE hk hu ho (be:=s.be) ⟨aGw _,h.be.2⟩;rw[Fx _ _ _ _ hs,ht];simp[cX]
 have goto:∀Uj:Int,0<=Uj->Uj<p.bP.length->cz im x=[]->bR im {s with ai:=fs++[{f with aL:=aL,pc:=Uj}]}:=λUj h0 h1 ht=>by
  obtain⟨hk,hu⟩:=h.oc hf (g:={f with aL:=aL,pc:=Uj}) rfl (λb=>aIT);refine h.fC hr hf (hd:=rfl) (Y6 Uj h0 h1) (HE.congr λb=>?_) h.fE hk hu h.aT (be:=s.be) ⟨aGw _,h.be.2⟩;rw[dL,iL,ht];simp[cX]
 have iX:=hI.op
 unfold kj at iX
 unfold gT
 simp only[]
 by_cases e0:x.op=0
 ·rw[aFW e0]at iX⊢
  exact O0 _ _ (by unfold jA;omega) ab ab (by simp[cz,e0]) (Or.inl iX.2) h.aT
 rw[aFS e0]at iX⊢
 by_cases e1:x.op=1\/x.op=2\/x.op=3\/x.op=4
 ·rw[aFW e1]
  exact O0 _ _ (by unfold jA;omega) ab ab (by unfold cz;rw[aFS ab,aFS ab,aFS ab]) (Or.inl (P2 _ _ _)) h.aT
 rw[aFS e1]
 have pO:1<=x.args.length->0<=aE x.args 0/\aE x.args 0<f.an.length:=λh1=>Vt _ (fI ab ab)
 by_cases e5:x.op=5
 ·rw[aFW e5]
  rw[aFS ab,aFW ab]at iX
  have ha:=pO ab
  have Y7:eT (aE f.an (aE x.args 0)):=Ul _ ha.1 ha.2 (hm.oX ab _ (fI ab ab))
  refine O0 _ _ (by unfold jA;omega) ab ab (by simp[cz,e5]) (Or.inl Y7) λn hn=>?_
  rcases List.mem_append.1 hn with hn|hn
  ·exact h.aT n hn
  ·simp at hn;subst hn;exact Y7
 rw[aFS e5]
 have Un:(cz im x=x.args)->∀w∈cp f x.args,nY s.heap w:=λht w hw=>by
  obtain⟨r,QB,rfl⟩:=List.mem_map.1 hw;exact akV r (ht▸QB)
 have alloc:∀t,cz im x=x.args->x.op≠23->x.op≠24->jA x.op->x.args.length<=3->0<=t/\t<=99->bR im {s with heap:=jQ s.heap (dD s.heap) ⟨1,t,cp f x.args⟩,ai:=fs++[aM.put {f with aL:=aL,pc:=f.pc+1} x.dst (1000+dD s.heap) 1]}:=λt ht h1 h2 hs h3 ML=>by
  obtain⟨k1,k2,k3⟩:=HE.alloc (t:=t) (fs:=cp f x.args) (e':=dz (fs++[aM.put {f with aL:=aL,pc:=f.pc+1} x.dst (1000+dD s.heap) 1])) (Un ht) (by simpa[cp]using h3) ML (λb=>by rw[ht];have:=hEn b;simp only[cp];omega) (λb=>by
   rw[Fx _ _ _ _ hs,ht];simp only[cp];have:(if(1000+(dD s.heap:Int))=1000+(b:Int)then(1:Int)else 0)=if b=dD s.heap then 1 else 0:=by
    by_cases hb:b=dD s.heap
    ·rw[aFW hb,aFW ab]
    ·rw[aFS hb,aFS ab]
   rw[this];omega) h.fE
  obtain⟨hk,hu⟩:=h.oc hf (g:=aM.put {f with aL:=aL,pc:=f.pc+1} x.dst (1000+dD s.heap) 1) rfl k2;exact h.fC hr hf (hd:=rfl) ((hG h1 h2).put nG.1 (Or.inr ab) ab (λ_=>ab)) k1 k3 hk hu h.aT (be:=s.be) ⟨aGw _,h.be.2⟩
 have nJ:(dv im.aI).length<=12:=by
  have:=qL h.eG.oQ.types im.aI.length;rw[lY _ _ (aFR _)]at this;exact this
 have Pe:=h.eG.oQ.len
 by_cases e6:x.op=6
 ·rw[aFW e6]
  rw[aFS ab,aFS ab,aFW e6]at iX
  have ht:cz im x=x.args:=by unfold cz;rw[aFW ab]
  have hs:jA x.op:=by unfold jA;omega
  have tB:x.args.length<=3:=by rw[iX.2.1];exact HP h.eG.oQ.types _
  split
  ·rename_i rI
   have So:0<=x.bA -1/\x.bA -1<f.aQ.length:=ab
   have hv:=hF.aQ _ (fI (l:=f.aQ) So.1 So.2)
   have JA:1000<=aE f.aQ (x.bA -1):=ab
   have hh1:0<holds s.ai (ix (aE f.aQ (x.bA -1))):=by
    rw[hf,cQ,fw];have:=uj fs (ix (aE f.aQ (x.bA -1)));have:=sL (l:=f.aQ) (a:=ix (aE f.aQ (x.bA -1))) (by rw[fD JA];exact fI So.1 So.2);omega
   have VW:dG s.heap (ix (aE f.aQ (x.bA -1))):=aGo λhn=>by have:=h.jN _ hn;omega
   have oD:=h.ic _ VW
   obtain⟨d,hd,Vo⟩:=VW
   have Vj:∀b,cX d.aB b=0:=λb=>lD λhw=>by
    have:=((HE.cell d (ak hd)).vC ab).2.1 _ hw;omega
   have k1:=HE.make (t:=x.bh) (fs:=cp f x.args) (e':=dz (fs++[aM.put {f with aL:=aL,pc:=f.pc+1,aQ:=fx f.aQ (x.bA -1) 0} x.dst (aE f.aQ (x.bA -1)) 1])) (a:=ix (aE f.aQ (x.bA -1))) (h':=s.heap.set (ix (aE f.aQ (x.bA -1))) ⟨1,x.bh,cp f x.args⟩)
    (dG.WQ ⟨d,hd,Vo⟩) (dw hd) (λb hb=>eR hb) (λb=>by rw[y8 _ hd,Vj];simp only[];omega) (Un ht) (by simpa[cp]using tB) ab (λb=>by rw[ht];have:=hEn b;simp only[cp];omega) (λb=>by
     rw[Fx _ _ _ _ hs,ht];simp only[cp];have:(if aE f.aQ (x.bA -1)=1000+(b:Int)then(1:Int)else 0)=if b=ix (aE f.aQ (x.bA -1))then 1 else 0:=by
      by_cases hb:b=ix (aE f.aQ (x.bA -1))
      ·rw[aFW hb,aFW (by rw[hb,fD JA])]
      ·rw[aFS hb,aFS (λe2=>hb (by rw[e2,jg]))]
     rw[this];omega)
   have Y8:∀b,cX (fx f.aQ (x.bA -1) 0) b=cX f.aQ b -(if b=ix (aE f.aQ (x.bA -1))then 1 else 0):=by
    intro b;have aga:∀(l:List Int)(k:Nat)(w:Int),l[k]? =some w->cX (l.set k 0) b=cX l b -(if w=1000+(b:Int)then 1 else 0):=by
     intro l;induction l with
     |nil=>intro k w hk;simp at hk
     |cons y l ih=>
      intro k w hk;cases k with
      |zero=>simp at hk;subst hk;simp only[aGK,cX];rw[aFS ab];omega
      |succ k=>have:=ih k w (by simpa using hk);simp only[aGL,cX,this];omega
    rw[fx,aga _ _ _ (qW So.1 So.2)];by_cases hb:b=ix (aE f.aQ (x.bA -1))
    ·rw[aFW hb,aFW (by rw[hb,fD JA])]
    ·rw[aFS hb,aFS (λe2=>hb (by rw[e2,jg]))]
   have sZ:∀b,holds (fs++[aM.put {f with aL:=aL,pc:=f.pc+1,aQ:=fx f.aQ (x.bA -1) 0} x.dst (aE f.aQ (x.bA -1)) 1]) b=holds s.ai b -(if b=ix (aE f.aQ (x.bA -1))then 1 else 0):=λb=>by
    rw[hf,cQ,cQ,fw,fw];simp only[aM.put];rw[Y8];omega
   have hG':eM im {f with aL:=aL,pc:=f.pc+1,aQ:=fx f.aQ (x.bA -1) 0}:=by
    have h1:=hG ab ab;exact⟨h1.dJ,h1.pc,h1.lr,h1.lo,by simp only[iK];exact h1.lh,h1.Rz,h1.aL,λw hw=>by rcases qX hw with hw|hw;exact Or.inl hw;exact h1.aQ w hw⟩
   refine h.fC hr hf (hd:=rfl) (hG'.put nG.1 (Or.inr JA) ab (λ_=>JA)) k1 ?_ (λa ha=>?_) (λa ha=>?_) h.aT (be:=s.be) ⟨aGw _,h.be.2⟩
   ·intro c hc
    rw[aGO]at hc
    by_cases hb:s.heap.length -1=ix (aE f.aQ (x.bA -1))
    ·rw[hb,dw hd]at hc;simp at hc;subst hc;simp
    ·rw[eR hb]at hc;exact h.fE c hc
   ·rw[sZ]
    by_cases hb:a=ix (aE f.aQ (x.bA -1))
    ·subst hb;rw[dG.EA hd]at ha;simp at ha
    ·rw[aFS hb];rw[dG.ne hb]at ha;have:=h.ic a ha;omega
   ·rw[sZ]
    by_cases hb:a=ix (aE f.aQ (x.bA -1))
    ·subst hb;rw[aFW rfl];omega
    ·rw[aFS hb];rw[dG.ne hb]at ha;have:=h.jN a ha;omega
  ·exact alloc _ ht ab ab hs tB ab
 rw[aFS e6]
 by_cases tE:x.op=10
 ·rw[aFW tE]
  rw[aFS ab,aFS ab,aFS e6,aFS ab,aFW tE]at iX
  obtain⟨⟨q,Pl,VX,YZ⟩,_⟩:=iX
  have h3:=(h.eG.oQ.cq q (ak VX)).1
  have:=ap VX
  exact alloc _ (by unfold cz;rw[aFW ab]) ab ab (by unfold jA;omega) ab (by unfold eD;omega)
 rw[aFS tE]
 by_cases Q9:x.op=14
 ·rw[aFW Q9]
  rw[aFS ab,aFW ab]at iX
  have ha:=pO ab
  have ht:cz im x=[]:=by simp[cz,Q9]
  obtain⟨hl,hmx⟩:=hm.dup Q9
  obtain⟨hk,hu⟩:=h.oc hf (g:={f with aL:=fx aL (aE x.args 0) (aE aL (aE x.args 0)+1),pc:=f.pc+1}) rfl (λb=>dG.nl hl b)
  have h1:=hG ab ab
  refine h.fC hr hf (hd:=rfl) (g:={f with aL:=fx aL (aE x.args 0) (aE aL (aE x.args 0)+1),pc:=f.pc+1}) ⟨h1.dJ,h1.pc,h1.lr,by simp only[iK];exact h1.lo,h1.lh,h1.Rz,λk o w ho hw=>?_,h1.aQ⟩ (HE.nl hl hmx λb=>?_) ?_ hk hu h.aT (be:=s.be) ⟨aGw _,h.be.2⟩
  ·simp only[]at ho hw
   rw[EC]at ho
   split at ho
   ·rename_i oO
    simp at ho
    have e:aE f.an (aE x.args 0)=w:=by rw[aE,aGJ,<-oO.1,hw];rfl
    have:=hm.nn _ (fI (l:=aL) ha.1 ab)
    have:=hl.1
    exact⟨ab,λ_=>ab⟩
   ·exact h1.aL k o w ho hw
  ·rw[dL,iL,ht]
   simp only[]
   rw[GF ha.1 ha.2 ab]
   have hwx:=fD hl.1
   simp only[aGx,cX]
   by_cases hb:b=ix (aE f.an (aE x.args 0))
   ·rw[aFW hb,aFW (by rw[hb,hwx])];omega
   ·rw[aFS hb,aFS (λe2=>hb (by rw[e2,jg]))];omega
  ·obtain⟨hc,Q7⟩:=bE hl
   intro c pw
   unfold nl at pw
   rw[aGO]at pw
   by_cases hb:s.heap.length -1=ix (aE f.an (aE x.args 0))
   ·rw[hb,dw hc]at pw;simp at pw;subst pw;simp only[];omega
   ·rw[eR hb]at pw;exact h.fE c pw
 rw[aFS Q9]
 have QM:x.args.length=1->x.args=[aE x.args 0]:=λh1=>by
  cases hx:x.args with
  |nil=>rw[hx]at h1;simp at h1
  |cons y l=>cases l with
   |nil=>rfl
   |cons z l=>rw[hx]at h1;simp at h1
 by_cases Pm:x.op=15
 ·rw[aFW Pm]
  rw[aFS ab,aFW ab]at iX
  have ht:cz im x=[aE x.args 0]:=by unfold cz;rw[aFW ab];exact QM ab
  rw[ht]at HE
  have k1:=dZ.fR _ s.heap [aE f.an (aE x.args 0)] (λb=>dz fs b+bQ f.an aL b) (aFR _) (HE.congr λb=>rfl) hEn
  obtain⟨hk,hu⟩:=h.oc hf (g:={f with aL:=aL,pc:=f.pc+1}) rfl (λb=>(dG.pH (h:=fR s.heap [aE f.an (aE x.args 0)]) b).trans (dG.fR _ _ _ (aFR _) b))
  exact h.fC hr hf (hd:=rfl) (hG ab ab) (k1.pH.congr λb=>by rw[dL,iL]) (EB _) hk hu h.aT (be:=s.be) ⟨aGw _,h.be.2⟩
 rw[aFS Pm]
 by_cases SF:x.op=16\/x.op=17
 ·rw[aFW SF]
  rw[aFS ab,aFS ab,aFS e6,aFS ab,aFS tE,aFW SF]at iX
  have ha:=pO ab
  have ht:cz im x=[aE x.args 0]:=by
   unfold cz;rw[aFS ab,aFW SF];cases hx:x.args with
   |nil=>rw[hx]at iX;simp at iX
   |cons y l=>rfl
  obtain⟨hl,akW,dp,Y9⟩:=hm.WK SF
  obtain⟨hc,Q7⟩:=bE hl
  have aeo:∀r∈x.args.drop 1,0<=r/\r<aL.length/\1000<=aE f.an r:=λr QB=>by
   have h1:=Vt r (aH9 QB);have h2:aE f.an r∈pG (aK s.heap (aE f.an (aE x.args 0))).aB:=by rw[akW];exact List.mem_map.2 ⟨r,QB,rfl⟩
   exact⟨h1.1,ab,(lE.1 h2).2⟩
  have h1:=hG ab ab
  have hGb:eM im {f with aL:=dE aL (x.args.drop 1),pc:=f.pc+1}:=⟨h1.dJ,h1.pc,h1.lr,by simp only[sN];exact h1.lo,h1.lh,h1.Rz,Kh (an:=f.an) _ aL aeo h1.aL,h1.aQ⟩
  have hob:∀b,bQ f.an (dE aL (x.args.drop 1)) b=bQ f.an aL b+cX (aK s.heap (aE f.an (aE x.args 0))).aB b:=λb=>by
   rw[EE (an:=f.an) _ _ (λr QB=>by have:=aeo r QB;omega) ab,<-ui (aK s.heap _).aB,akW];rfl
  have hea:0<dz fs (ix (aE f.an (aE x.args 0)))+bQ f.an aL (ix (aE f.an (aE x.args 0)))+cX ((cz im x).map (aE f.an)) (ix (aE f.an (aE x.args 0))):=by
   rw[ht];have:=hEn (ix (aE f.an (aE x.args 0)));simp only[aGf,aGx,fq hl.1,aFW,cX];omega
  have hE':∀b,dz fs b+bQ f.an (dE aL (x.args.drop 1)) b=(dz fs b+bQ f.an aL b+cX ((cz im x).map (aE f.an)) b) -(if b=ix (aE f.an (aE x.args 0))then 1 else 0)+cX (aK s.heap (aE f.an (aE x.args 0))).aB b:=λb=>by
   rw[hob,ht];simp only[aGf,aGx,fq hl.1,cX];omega
  split
  ·rename_i oD
   have hh0:=Y9 oD.2
   have k1:=HE.RG hc oD.1 hea (c':=⟨-1,0,eF (aK s.heap (aE f.an (aE x.args 0))).aB.length⟩) az az rfl (λw hw=>nZ hw) (by simp only[jI];exact(HE.cell _ (ak hc)).fl) (λh2=>by simp at h2) (e':=dz (fs++[{f with aL:=dE aL (x.args.drop 1),pc:=f.pc+1,aQ:=fx f.aQ (aE x.args 0) (aE f.an (aE x.args 0))}])) (λb=>by rw[dL,iL];exact hE' b)
   have aga:∀(b:Nat)(w:Int)(l:List Int)(k:Nat),l[k]? =some 0->cX (l.set k w) b=cX l b+(if w=1000+(b:Int)then 1 else 0):=by
    intro b w l;induction l with
    |nil=>intro k hk;simp at hk
    |cons y l ih=>
     intro k hk;cases k with
     |zero=>simp at hk;subst hk;simp only[aGK,cX];split<;>simp_all<;>omega
     |succ k=>have:=ih k (by simpa using hk);simp only[aGL,cX,this];omega
   have hah:aE x.args 0<f.aQ.length:=ab
   have sZ:∀b,holds (fs++[{f with aL:=dE aL (x.args.drop 1),pc:=f.pc+1,aQ:=fx f.aQ (aE x.args 0) (aE f.an (aE x.args 0))}]) b=holds s.ai b+(if b=ix (aE f.an (aE x.args 0))then 1 else 0):=λb=>by
    rw[hf,cQ,cQ,fw,fw];have hgg:=qW (l:=f.aQ) ha.1 hah;rw[hh0]at hgg;simp only[fx];rw[aga b _ _ _ hgg];by_cases hb:b=ix (aE f.an (aE x.args 0))
    ·rw[aFW hb,aFW (by rw[hb,fD hl.1])];omega
    ·rw[aFS hb,aFS (λe2=>hb (by rw[e2,jg]))];omega
   have hnk:¬dG s.heap (ix (aE f.an (aE x.args 0))):=λhk=>hk.WQ hl.2
   refine h.fC hr hf (hd:=rfl) (g:={f with aL:=dE aL (x.args.drop 1),pc:=f.pc+1,aQ:=fx f.aQ (aE x.args 0) (aE f.an (aE x.args 0))}) ⟨hGb.dJ,hGb.pc,hGb.lr,hGb.lo,by simp only[iK];exact hGb.lh,hGb.Rz,hGb.aL,λw hw=>?_⟩ k1 ?_ (λa Ra=>?_) (λa Ra=>?_) h.aT (be:=s.be) ⟨aGw _,h.be.2⟩
   ·rcases qX hw with hw|hw
    ·rw[hw];exact Or.inr hl.1
    ·exact hF.aQ w hw
   ·intro c pw
    rw[aGO]at pw
    by_cases hb:s.heap.length -1=ix (aE f.an (aE x.args 0))
    ·rw[hb,dw hc]at pw;simp at pw;subst pw;simp
    ·rw[eR hb]at pw;exact h.fE c pw
   ·rw[sZ]
    by_cases hb:a=ix (aE f.an (aE x.args 0))
    ·rw[aFW hb,hb,h.jN _ hnk];rfl
    ·rw[aFS hb];rw[dG.ne hb]at Ra;have:=h.ic a Ra;omega
   ·rw[sZ]
    by_cases hb:a=ix (aE f.an (aE x.args 0))
    ·subst hb;rw[dG.EA hc]at Ra;simp at Ra
    ·rw[aFS hb];rw[dG.ne hb]at Ra;have:=h.jN a Ra;omega
  ·obtain⟨k1,k2,k3⟩:=HE.apart hl hea dp (e':=dz (fs++[{f with aL:=dE aL (x.args.drop 1),pc:=f.pc+1}])) (λb=>by rw[dL,iL];exact hE' b) h.fE
   obtain⟨hk,hu⟩:=h.oc hf (g:={f with aL:=dE aL (x.args.drop 1),pc:=f.pc+1}) rfl k2
   exact h.fC hr hf (hd:=rfl) hGb k1 k3 hk hu h.aT (be:=s.be) ⟨aGw _,h.be.2⟩
 rw[aFS SF]
 by_cases e18:x.op=18
 ·rw[aFW e18]
  rw[aFS ab,aFW ab]at iX
  have ha:=pO ab
  have ht:cz im x=[aE x.args 0]:=by unfold cz;rw[aFW ab];exact QM ab
  have hs:jA x.op:=by unfold jA;omega
  obtain⟨hk,hu⟩:=h.oc hf (g:=aM.put {f with aL:=aL,pc:=f.pc+1} x.dst (aE f.an (aE x.args 0)) (gF (aE f.an (aE x.args 0)))) rfl (λb=>aIT)
  refine h.fC hr hf (hd:=rfl) ((hG ab ab).put nG.1 (DA _ ha.1 ha.2) (GG _) CT) (HE.congr λb=>?_) h.fE hk hu h.aT (be:=s.be) ⟨aGw _,h.be.2⟩
  rw[Fx _ _ _ _ hs,ht,vE];rfl
 rw[aFS e18]
 by_cases QN:x.op=19
 ·rw[aFW QN]
  rw[aFS ab,aFS ab,aFS e6,aFS ab,aFS tE,aFS SF,aFW QN]at iX
  obtain⟨hl,mK⟩:=hm.load QN
  obtain⟨hc,Q7⟩:=bE hl
  refine O0 _ _ (by unfold jA;omega) ab ab (by simp[cz,QN]) ?_ h.aT
  rcases((HE.cell _ (ak hc)).nM Q7).1 _ (fI iX.2.1 mK)with h2|h2
  ·exact Or.inl h2
  ·exact Or.inr h2.1
 rw[aFS QN]
 by_cases Vu:x.op=20
 ·rw[aFW Vu]
  rw[aFS ab,aFS ab,aFS e6,aFS ab,aFS tE,aFS SF,aFS QN,aFW Vu]at iX
  have:=sW ab ab
  exact goto _ (by split<;>omega) (by split<;>omega) (by simp[cz,Vu])
 rw[aFS Vu]
 by_cases VY:x.op=21
 ·rw[aFW VY]
  rw[aFS ab,aFS ab,aFS e6,aFS ab,aFS tE,aFS SF,aFS QN,aFS Vu,aFS ab,aFW VY]at iX
  obtain⟨hl,ML⟩:=hm.Ou VY
  have Uo:Ez (bB im.aI x.bh) (aK s.heap (aE f.an (aE x.args 0))).jW<(bB im.aI x.bh).length:=aHx ⟨_,ML,az⟩
  obtain⟨hj1,hj2⟩:=iX.2.2
  have:=hj2 _ (fI (l:=x.cW) (i:=(Ez (bB im.aI x.bh) (aK s.heap (aE f.an (aE x.args 0))).jW:Nat)) ab ab)
  exact goto _ ab ab (by simp[cz,VY])
 rw[aFS VY]
 by_cases ZS:x.op=22
 ·rw[aFW ZS]
  rw[aFS ab,aFS ab,aFS e6,aFS ab,aFS tE,aFS SF,aFS QN,aFS Vu,aFW ZS]at iX
  exact goto _ ab ab (by simp[cz,ZS])
 rw[aFS ZS]
 have aes:∀w∈cp f x.args,eT w\/1000<=w:=λw hw=>by
  obtain⟨r,QB,rfl⟩:=List.mem_map.1 hw;exact DA r (Vt r QB).1 (Vt r QB).2
 have QK:vB x.op->s.be<s.cV:=λhc=>by
  have:=h.be;have:s.be≠s.cV:=λe=>wg ⟨hc,e⟩;omega
 have akX:∀(hp:List aR),s.be<s.cV->x.op≠23->x.op≠24->∀(g:aM),eM im g->jA x.op->g.dst=x.dst->dZ hp (dz (fs++[{f with aL:=aL,pc:=f.pc+1},g]))->lK hp->(∀b,dG hp b<->dG s.heap b)->(∀b,holds [g] b=0)->
  bR im {s with be:=s.be+1,heap:=hp,ai:=fs++[{f with aL:=aL,pc:=f.pc+1},g]}:=λhp VZ h1 h2 g hg hs hgd hH hT hK hhz=>by
  have LN:=h.be
  have tC:=h.jT
  rw[hf]at tC
  have ee:fs++[{f with aL:=aL,pc:=f.pc+1},g]=(fs++[{f with aL:=aL,pc:=f.pc+1}])++[g]:=az
  have sZ:∀b,holds (fs++[{f with aL:=aL,pc:=f.pc+1},g]) b=holds s.ai b:=λb=>by
   rw[ee,cQ,hhz,hf,cQ,cQ,fw,fw];simp
  refine⟨h.eG,h.bT,⟨λe=>by simp at e;omega,λe=>by simp at e⟩,h.value,h.pI,h.cV,⟨by simp only[];omega,by simp only[];omega⟩,by simp at tC⊢;omega,h.aT,hH,hT,λq hq=>?_,λq hq=>?_,λk p1 q sX hq=>?_,λa ha=>?_,λa ha=>?_⟩
  ·rcases List.mem_append.1 hq with hq|hq
   ·exact Ui q hq
   ·simp at hq
    rcases hq with rfl|rfl
    ·exact hG h1 h2
    ·exact hg
  ·have fu:=h.first
   rw[hf]at fu
   cases fs with
   |nil=>simp at hq;subst hq;exact fu f az
   |cons y ys=>simp at hq;subst hq;exact fu y az
  ·have Uh:=h.chain k
   rw[hf]at Uh
   simp only[]at sX hq
   rw[ee]at sX hq
   have jk:=ap hq
   simp at jk
   rw[aFV bg]at sX
   rcases aF1 (k+1) (fs.length+1)with h3|h3
   ·rw[aFV bg]at hq
    rw[aFV ab]at sX
    rcases aF1 (k+1) fs.length with h4|h4
    ·rw[aFV h4]at hq
     exact Uh p1 q (by rw[aFV ab];exact sX) (by rw[aFV h4];exact hq)
    ·rw[aFX h4]at hq
     have e2:k+1 -fs.length=0:=ab
     rw[e2]at hq;simp at hq;subst hq
     exact Uh p1 f (by rw[aFV ab];exact sX) (by rw[aFX h4,e2];rfl)
   ·rw[aFX bg]at hq
    have e2:k+1 -(fs++[{f with aL:=aL,pc:=f.pc+1}]).length=0:=bg
    rw[e2]at hq;simp at hq;subst hq
    rw[aFX ab]at sX
    have e3:k -fs.length=0:=ab
    rw[e3]at sX;simp at sX;subst sX
    rw[hgd]
    exact⟨nG.1,by simp only[];omega,LP hs⟩
  ·rw[sZ];exact h.ic a ((hK a).1 ha)
  ·rw[sZ];exact h.jN a λh3=>ha ((hK a).2 h3)
 by_cases e9:x.op=9
 ·rw[aFW e9]
  rw[aFS ab,aFS ab,aFS e6,aFW ab]at iX
  obtain⟨q,Pl,VX,YZ⟩:=iX
  have ht:cz im x=gE im x 0 x.args:=by unfold cz;rw[aFS ab,aFS ab,aFW ab]
  refine akX s.heap (QK (Or.inl e9)) ab ab (bF im x.bh x.dst (cp f x.args)) (sO h.eG Pl VX (by simp[cp,YZ]) aes) (by unfold jA;omega) rfl (HE.congr λb=>?_) h.fE (λ_=>aIT) (nm _ _ _ _)
  rw[dL,ht]
  simp only[dz]
  rw[oJ,GJ];omega
 rw[aFS e9]
 by_cases V0:x.op=24
 ·rw[aFW V0]
  rw[aFS ab,aFS ab,aFS e6,aFW ab]at iX
  obtain⟨q,Pl,VX,YZ⟩:=iX
  have ht:cz im x=gE im x 0 x.args:=by unfold cz;rw[aFS ab,aFS ab,aFW ab]
  obtain⟨hz1,hz2⟩:=hm.zero (Or.inl V0)
  have sZ:∀b,holds (fs++[bF im x.bh f.dst (cp f x.args)]) b=holds s.ai b:=λb=>by
   rw[hf,cQ,cQ,nm,fw,lD (λhw=>by have:=hz2 _ hw;omega)]
  have hls:=QK (Or.inr (Or.inr V0))
  refine h.fC hr hf (hd:=rfl) (sO h.eG Pl VX (by simp[cp,YZ]) aes) (HE.congr λb=>?_) h.fE (λa ha=>by rw[sZ];exact h.ic a ha) (λa ha=>by rw[sZ];exact h.jN a ha) h.aT (be:=s.be+1) ab
  rw[dL,iL,oJ,GJ,ht,qZ hz1];omega
 rw[aFS V0]
 by_cases O1:x.op=11
 ·rw[aFW O1]
  rw[aFW ab]at iX
  have ht:cz im x=x.args:=by unfold cz;rw[aFW ab]
  have fV:x.args=[aE x.args 0,aE x.args 1]:=by
   cases hx:x.args with
   |nil=>rw[hx]at iX;simp at iX
   |cons y l=>cases l with
    |nil=>rw[hx]at iX;simp at iX
    |cons z l=>cases l with
     |nil=>rfl
     |cons _ _=>rw[hx]at iX;simp at iX
  have ha1:0<=aE x.args 1/\aE x.args 1<f.an.length:=Vt _ (fI ab ab)
  obtain⟨hl,ZD,Vv,agc,hlen,dp⟩:=hm.apply O1
  obtain⟨hc,Q7⟩:=bE hl
  obtain⟨q,hq⟩:=ae (l:=im.bJ) (k:=((aK s.heap (aE f.an (aE x.args 0))).jW -eD im).toNat) ab
  have xy:cP im ((aK s.heap (aE f.an (aE x.args 0))).jW -eD im)=q:=by simp[cP,hq]
  rw[xy]at agc hlen
  have hEt:∀b,cX ((cz im x).map (aE f.an)) b=(if b=ix (aE f.an (aE x.args 0))then 1 else 0)+cX [aE f.an (aE x.args 1)] b:=λb=>by
   rw[ht,fV];simp only[aGf,aGx];rw[fq]
   ·rfl
   ·exact hl.1
  obtain⟨k1,k2,k3⟩:=HE.apart hl (by simp only[hEt,aFW];have:=hEn (ix (aE f.an (aE x.args 0)));have:=fp [aE f.an (aE x.args 1)] (ix (aE f.an (aE x.args 0)));omega) dp
   (e':=dz (fs++[{f with aL:=aL,pc:=f.pc+1},bF im ((aK s.heap (aE f.an (aE x.args 0))).jW -eD im) x.dst ((aK s.heap (aE f.an (aE x.args 0))).aB++[aE f.an (aE x.args 1)])])) (λb=>by
    rw[dL,hEt];simp only[dz];rw[oJ,xy,List.length_eq_zero_iff.1 hlen,HR,mh];omega) h.fE
  refine akX _ (QK (Or.inr (Or.inl O1))) ab ab _ (sO h.eG ZD hq bg λw hw=>?_) (by unfold jA;omega) rfl k1 k3 k2 (nm _ _ _ _)
  rcases List.mem_append.1 hw with hw|hw
  ·rcases((HE.cell _ (ak hc)).nM Q7).1 w hw with h2|h2
   ·exact Or.inl h2
   ·exact Or.inr h2.1
  ·simp at hw;subst hw;exact DA _ ha1.1 ha1.2
 rw[aFS O1]
 have e23:x.op=23:=by
  rw[aFS ab]at iX;by_cases e23:x.op=23
  ·exact e23
  ·rw[aFS ab,aFS e6,aFS ab,aFS tE,aFS SF,aFS QN,aFS Vu,aFS ZS,aFS VY]at iX;exact iX.elim
 rw[aFS ab,aFW ab]at iX
 have ha:=pO ab
 have ht:cz im x=[aE x.args 0]:=by unfold cz;rw[aFW ab];exact QM ab
 obtain⟨hz1,hz2⟩:=hm.zero (Or.inr e23)
 have Za:∀b,holds [f] b=0:=λb=>by rw[fw];exact lD (λhw=>by have:=hz2 _ hw;omega)
 split
 ·rename_i uF
  have Dr:fs=[]:=List.getLast?_eq_none_iff.1 uF
  subst Dr
  have ara:=hm.ret e23
  have Y7:=Ul _ ha.1 ha.2 (by rcases ara with h1|h1;(rw[hf]at h1;simp at h1);exact h1)
  have LN:=h.be
  refine⟨h.eG,⟨az,az⟩,az,Y7,az,h.cV,h.be,bg,h.aT,HE.congr λb=>?_,h.fE,az,az,az,λa Ra=>?_,λa Ra=>?_⟩
  ·rw[ht,qZ hz1]
   simp only[dz,aGf,aGx]
   rw[lD (by simp;have:=Y7.2;omega)];rfl
  ·have h1:=h.ic a Ra
   rw[hf]at h1
   have h2:=Za a
   simp only[aGp]at h1
   omega
  ·simp[holds]
 ·rename_i pf uF
  have Dr:fs=fs.dropLast++[pf]:=by
   have cx:fs≠[]:=λe=>by rw[e]at uF;simp at uF
   rw[aG3 cx]at uF;simp at uF;rw[<-uF];exact(aGD cx).symm
  generalize fs.dropLast=fs' at Dr
  subst Dr
  have hPF:eM im pf:=Ui pf az
  obtain⟨ak0,arc,ard⟩:=h.chain fs'.length pf f (by rw[hf];simp) (by rw[hf];simp)
  have hdr:f.dst<pf.an.length:=by have:=hPF.lr;have:=hPF.lo;omega
  have LN:=h.be
  have tC:=h.jT
  rw[hf]at tC
  have sZ:∀b,holds (fs'++[pf.put f.dst (aE f.an (aE x.args 0)) (gF (aE f.an (aE x.args 0)))]) b=holds s.ai b:=λb=>by
   rw[hf,cQ,cQ,Za,cQ,fw,fw];simp[aM.put]
  refine⟨h.eG,h.bT,⟨λe=>by simp at e;omega,λe=>by simp at e⟩,h.value,h.pI,h.cV,h.be,by simp at tC⊢;omega,h.aT,HE.congr λb=>?_,h.fE,λq hq=>?_,λq hq=>?_,λk p1 q sX hq=>?_,λa Ra=>by rw[sZ];exact h.ic a Ra,λa Ra=>by rw[sZ];exact h.jN a Ra⟩
  ·rw[dL,iL,dL,iL,ht,qZ hz1]
   simp only[aM.put,aGf,aGx]
   rw[Nf ak0 hdr arc ard,vE];omega
  ·rcases List.mem_append.1 hq with hq|hq
   ·exact Ui q (aF7 _ hq)
   ·simp at hq;subst hq
    exact hPF.put ak0 (DA _ ha.1 ha.2) (GG _) CT
  ·have fu:=h.first
   rw[hf]at fu
   cases fs' with
   |nil=>simp at hq;subst hq;exact fu pf az
   |cons y ys=>simp at hq;subst hq;exact fu y az
  ·have Uh:=h.chain k
   rw[hf]at Uh
   simp only[]at sX hq
   have jk:=ap hq
   simp at jk
   rw[aFV ab]at sX
   have e1:(fs'++[pf]++[f])[k]? =some p1:=by rw[aFV bg,aFV ab];exact sX
   rcases aF1 (k+1) fs'.length with h3|h3
   ·rw[aFV h3]at hq
    exact Uh p1 q e1 (by rw[aFV bg,aFV h3];exact hq)
   ·rw[aFX h3]at hq
    have e2:k+1 -fs'.length=0:=ab
    rw[e2]at hq;simp at hq;subst hq
    exact Uh p1 pf e1 (by rw[aFV bg,aFX h3,e2];rfl)
theorem Ts{im:bq}{s:St}(h:bR im s):bR im (qT im s):=by
 unfold qT;by_cases hr:s.bT=3
 ·rw[aFS (by simpa using hr)];obtain⟨fs,f,hf⟩:=h.split hr;have e1:s.ai.getLast?=some f:=by rw[hf];simp
  have e2:s.ai.dropLast=fs:=by rw[hf];simp
  rw[e1,e2];simp only[];have other:∀n,1<=n->n<=2->bR im {s with bT:=n}:=λn h1 h2=>
   ⟨h.eG,⟨by simp only[];omega,by simp only[];omega⟩,⟨λe=>by simp only[]at e;omega,λe=>by simp only[]at e;rw[hf]at e;simp at e⟩,h.value,λhv=>by have:=h.pI hv;omega,h.cV,h.be,h.jT,h.aT,h.heap,h.fE,h.ai,h.first,h.chain,h.ic,h.jN⟩
  split
  ·exact other 1 ab ab
  ·rename_i wg;split
   ·rename_i hm;exact RH h hr hf hm wg
   ·exact other 2 ab ab
 ·rw[aFW (by simpa using hr)];exact h
def rem(im:bq):List aM->Int
 |[]=>0
 |f::fs=>((cP im f.dJ).bP.length -f.pc)+rem im fs
noncomputable def ar (im:bq):Nat->St->St
 |0,s=>s
 |n+1,s=>ar im n (qT im s)
theorem Kj(im:bq):∀(n:Nat)(s:St),ar im (n+1) s=qT im (ar im n s)
 |0,s=>rfl
 |n+1,s=>by rw[ar,Kj im n,ar]
theorem Kk{im:bq}:∀(n:Nat){s:St},bR im s->bR im (ar im n s)
 |0,s,h=>h
 |n+1,s,h=>Kk n (Ts h)
theorem vF{im:bq}{s:St}(h:s.bT≠3):qT im s=s:=by unfold qT;rw[aFW h]
theorem BA{im:bq}:∀(n:Nat){s:St},s.bT≠3->ar im n s=s
 |0,s,_=>rfl
 |n+1,s,h=>by rw[ar,vF h,BA n h]
def jq(im:bq)(cV:Int):St:=⟨3,0,0,cV,[],[],[bF im 0 0 []]⟩
theorem Kl{im:bq}{cV:Int}(hi:kN im)(hm:0<=cV/\cV<=40):bR im (jq im cV):=by
 have hl:=hi.oQ.len;obtain⟨p,hp⟩:=ae (l:=im.bJ) (k:=0) ab;have are:=hi.oQ.first p hp;have hF:=sO (dst:=0) (ws:=[]) hi (aGw 0) hp (by simp[are.1]) az;have ho:∀b,dz [bF im 0 0 []] b=0:=λb=>by rw[iL,oJ];simp[bQ]
 refine⟨hi,by simp[jq],by simp[jq],by simp[jq,eT],by simp[jq],hm,by simp[jq];omega,by simp[jq],by simp[jq],⟨by simp[jq],⟨λ_=>0,by simp[jq]⟩,by simp[jq],λa=>by simp only[jq];rw[ho];omega,λa ha=>by simp only[jq]at ha;rw[ho]at ha;omega⟩,?_,?_,?_,?_,λa⟨c,hc,_⟩=>by simp[jq]at hc,λa _=>nm _ _ _ _ _⟩
 ·intro c hc;simp[jq]at hc
 ·intro f hf;simp[jq]at hf;subst hf;exact hF
 ·intro f hf;simp[jq]at hf;subst hf;rfl
 ·intro k f g hf hg;simp[jq]at hg
theorem ju{ds:List aS}{k:Nat}{d:aS}:Gk ds k d<->((yL ds.length d.rH/\yL ds.length d.to/\d.cons.length<=3/\(0<d.cons.length->d.rH=0/\d.to=0))/\
 (∀f∈d.cons,f.length<=3/\El ds.length f)/\∀e∈ds.take k,¬(d.cons.length=0/\e.cons.length=0/\e.rH=d.rH/\e.to=d.to)):=by
 constructor
 ·intro h
  rcases aGT d.cons.length with h0|h0
  ·obtain⟨h1,h2,h3⟩:=h.Ti h0
   refine⟨⟨h2,h3,ab,λh=>ab⟩,λf hf=>?_,λe he hq=>h1 e he hq.2⟩
   rw[List.length_eq_zero_iff.1 h0]at hf;cases hf
  ·obtain⟨h1,h2,h3,h4⟩:=h.eZ h0
   exact⟨⟨by unfold yL;omega,by unfold yL;omega,h1,λ_=>⟨h2,h3⟩⟩,h4,λe he hq=>ab⟩
 ·rintro⟨⟨h1,h2,h3,h4⟩,h5,h6⟩
  exact⟨λh0=>⟨h3,(h4 h0).1,(h4 h0).2,h5⟩,λh0=>⟨λe he hq=>h6 e he ⟨h0,hq⟩,h1,h2⟩⟩
theorem CU{m:ah}{aI:Sl}{ds:List aS}(hd:br m aI ds):cB Tryz.prog 76 [Sl.v aI] m (cE ds):=by
 apply wJ;simp -zeta only[aw,ax];have kU:=hd.len;have Hx:=hd.cap;refine⟨λh=>?_,λh=>?_⟩
 ·simp only[aFP]at h;exact bC (λhp=>by have:=hp.len;omega) (af.av _)
 simp only[aFQ]at h;refine dg (n:=ds.length) ab (λk m'=>af m m'/\∀(j:Nat)(d:aS),j<k->ds[j]? =some d->Gk ds j d) ⟨af.av _,az⟩ ?_;rintro j m1 I μ hj ⟨hx,hn⟩ next
 refine⟨λh1=>?_,λh1=>?_⟩
 ·simp only[aFP]at h1;obtain⟨d,nK⟩:=ae (l:=ds) (k:=j) ab;obtain⟨f,hf,g0,g1,g2⟩:=(br.ext hx hd).aE nK;have gL:=hf.len;refine⟨ab,ab,_,g0,_,g1,f,g2,?_⟩;intro m2 m3;have lO:af m1 m3:=((af.av m1).aC _).ag (aFR _) _ _;have hl:∀b∈[m1.size],b<m3.size:=by simp[m3,m2,aq]
  clear_value m3;have tD:=hx.trans lO;have bad:∀{m':ah},af m3 m'->¬Gk ds j d->∃b':Bool,vb false=.bool b'/\(b'=true<->cE ds)/\af m m':=λph LO=>bC (λhp=>LO (hp.cq j d nK)) (tD.trans ph);refine⟨λm'=>af m3 m'/\yL ds.length d.rH/\yL ds.length d.to/\d.cons.length<=3/\(0<d.cons.length->d.rH=0/\d.to=0),?_,?_⟩
  ·refine(nk _ _ _).ay (af.av _) hl λb m4 hb h2 h3=>⟨_,rfl,λh4=>?_,λh4=>?_⟩
   ·exact bad h3 λhp=>nb hb h4 (kU▸(ju.1 hp).1.1)
   have SG:=yb hb h4;refine(nk _ _ _).ay h3 hl λb m5 hb h5 h6=>⟨_,rfl,λh7=>?_,λh7=>?_⟩
   ·exact bad h6 λhp=>nb hb h7 (kU▸(ju.1 hp).1.2.1)
   have QO:=yb hb h7;rw[kU]at SG QO;refine⟨λh8=>?_,λh8=>?_⟩
   ·simp only[aFP]at h8;exact bad h6 λhp=>by have:=(ju.1 hp).1.2.2.1;omega
   simp only[aFQ]at h8;refine⟨λh9=>?_,λh9=>?_⟩
   ·simp only[aFP]at h9;refine⟨λln=>?_,λln=>?_⟩
    ·simp only[aHG]at ln;exact bad h6 λhp=>ln ((ju.1 hp).1.2.2.2 ab).1
    simp only[aGF]at ln;refine⟨λjV=>?_,λjV=>?_⟩
    ·simp only[aHG]at jV;exact bad h6 λhp=>jV ((ju.1 hp).1.2.2.2 ab).2
    simp only[aGF]at jV;exact⟨h6,SG,QO,ab,λ_=>⟨ln,jV⟩⟩
   ·simp only[aFQ]at h9;exact⟨h6,SG,QO,ab,λh0=>ab⟩
  ·rintro m4 ⟨kK,fu⟩;have hf4:=mV.ext (lO.trans kK) hf;refine dg (n:=d.cons.length) ab (λk m'=>af m3 m'/\∀f∈d.cons.take k,f.length<=3/\El ds.length f) ⟨kK,az⟩ ?_;rintro i m5 I2 μ2 hi ⟨vP,hn5⟩ ak1;refine⟨λh2=>?_,λh2=>?_⟩
   ·simp only[aFP]at h2;obtain⟨c,hc⟩:=ae (l:=d.cons) (k:=i) ab;obtain⟨g,hg,gg⟩:=(mV.ext (lO.trans vP) hf).aE hc;have hgl:=hg.len;refine⟨ab,ab,g,gg,?_⟩;intro m6 m7;have T9:af m5 m7:=((af.av m5).aC _).ag (aFR _) _ _;have hl7:∀b∈[m5.size,m1.size],b<m7.size:=by
     have:=vP.lt (hl m1.size az);simp[m7,m6,aq];omega
    clear_value m7;refine⟨λh3=>?_,λh3=>?_⟩
    ·simp only[aFP]at h3;exact bad (vP.trans T9) λhp=>by have:=((ju.1 hp).2.1 c (ak hc)).1;omega
    simp only[aFQ]at h3;refine(ub (hg.ext T9) _).ay (af.av _) hl7 λb m8 hb h4 h5=>⟨_,rfl,λh6=>?_,λh6=>?_⟩
    ·exact bad ((vP.trans T9).trans h4) λhp=>nb hb h6 (kU▸((ju.1 hp).2.1 c (ak hc)).2)
    ·exact ak1 ab _ ⟨(vP.trans T9).trans h4,aZ hc hn5 ⟨ab,kU▸yb hb h6⟩⟩
   ·simp only[aFQ]at h2;have gZ:=bM ab hn5;refine⟨ab,ab,ab,?_⟩;have Jf:br m5 (aI.cut 0 j 3) (ds.take j):=cY.aaj (br.ext (tD.trans vP) hd) ab;have pt:(aI.cut 0 j 3).len=j:=by rw[Jf.len];simp;omega
    simp -zeta only[aHo,Int.toNat_zero];refine dg (n:=j) ab (λk m'=>af m5 m'/\∀e∈ds.take k,¬(d.cons.length=0/\e.cons.length=0/\e.rH=d.rH/\e.to=d.to)) ⟨af.av _,az⟩ ?_;rintro i2 m6 I3 μ3 hi2 ⟨Fw,hn6⟩ Lv;refine⟨λh3=>?_,λh3=>?_⟩
    ·simp only[aFP]at h3;obtain⟨e,he⟩:=ae (l:=ds) (k:=i2) ab;have MF:(ds.take j)[i2]? =some e:=by rw[aHb,aFW ab];exact he
     obtain⟨f',OO,q0,q1,q2⟩:=(br.ext Fw Jf).aE MF;have Va:=OO.len;refine⟨ab,ab,_,q0,_,q1,f',q2,?_⟩;intro m7 m8;have xg:af m6 m8:=((af.av m6).aC _).ag (aFR _) _ _;clear_value m8;have sW:¬(d.cons.length=0/\e.cons.length=0/\e.rH=d.rH/\e.to=d.to)->I3 (bS ((i2:Int)+1)) m8/\μ3 (bS ((i2:Int)+1)) m8<μ3 i2 m6:=λhq=>Lv ab _ ⟨Fw.trans xg,aZ he hn6 hq⟩;refine⟨λh4=>?_,λh4=>?_⟩
     ·simp only[aFZ]at h4;refine⟨λh5=>?_,λh5=>?_⟩
      ·simp only[aFZ]at h5;refine⟨λh6=>?_,λh6=>?_⟩
       ·simp only[aFZ]at h6;refine⟨λh7=>?_,λh7=>?_⟩
        ·simp only[aFZ]at h7;exact bad ((vP.trans Fw).trans xg) λhp=>(ju.1 hp).2.2 e (ak MF) ⟨ab,ab,h6,h7⟩
        ·simp only[aFU]at h7;exact sW λhq=>h7 hq.2.2.2
       ·simp only[aFU]at h6;exact sW λhq=>h6 hq.2.2.1
      ·simp only[aFU]at h5;exact sW λhq=>h5 ab
     ·simp only[aFU]at h4;exact sW λhq=>h4 ab
    ·simp only[aFQ]at h3;have:i2=j:=ab;subst this;refine next ab _ ⟨(tD.trans vP).trans Fw,λi' d' iy Je=>?_⟩
     by_cases ei:i'=i2
     ·subst ei;rw[nK]at Je;simp at Je;subst Je;exact ju.2 ⟨fu,gZ,hn6⟩
     ·exact hn i' d' ab Je
 ·simp only[aFQ]at h1;exact gP ⟨ab,λi d aY=>hn i d (by have:=ap aY;omega) aY⟩ hx
def Ox(m:ah)(cs:List Ce)(p:bY):Prop:=∃a l,cs=[.s a,.s l,.i p.aH]/\aj m a p.params/\aj m l p.bX
theorem Ox.ext{m m':ah}(hm:af m m')(cs:List Ce)(c:bY):Ox m cs c->Ox m' cs c:=λ⟨f,g,h1,h2,h3⟩=>⟨f,g,h1,h2.ext hm,h3.ext hm⟩
abbrev np(m:ah)(s:Sl)(l:List bY):Prop:=cY m 3 (Ox m) s l
theorem np.ext{m m':ah}(hm:af m m'){s:Sl}{l:List bY}(h:np m s l):np m' s l:=h.mono hm (Ox.ext hm)
theorem np.aE{m:ah}{s:Sl}{l:List bY}(h:np m s l){k:Nat}{x:bY}(hk:l[k]? =some x):
 ∃a b,aj m a x.params/\aj m b x.bX/\ad m s.ao (s.off+k*3)=some (Sl.v a)/\ad m s.ao (s.off+k*3+1)=some (Sl.v b)/\ad m s.ao (s.off+k*3+2)=some (vi x.aH):=by
 obtain⟨cs,⟨a,b,rfl,ha,hb⟩,hr⟩:=h.iu k x hk
 exact⟨a,b,ha,hb,hr 0 (.s a) rfl,hr 1 (.s b) rfl,hr 2 (.i x.aH) rfl⟩
theorem EF{m:ah}{d f:Sl}{ds:List aS}{ps:List bY}(hd:br m d ds)(hf:np m f ps):
 cB Tryz.prog 45 [Sl.v d,Sl.v f] m (J4 ds ps/\∀p∈ps,CI p.params p.bX):=by
 apply xU
 simp -zeta only[aw,ax]
 have kU:=hd.len
 have gL:=hf.len
 refine(CU hd).then λb m1 hb dF=>⟨_,rfl,λh1=>?_,λh1=>?_⟩
 ·exact bC (λhp=>nb hb h1 hp.1.types) dF
 have ht:=yb hb h1
 refine⟨λh2=>?_,λh2=>?_⟩
 ·simp only[aFP]at h2
  exact bC (λhp=>by have:=hp.1.len;omega) dF
 simp only[aFQ]at h2
 refine⟨λh3=>?_,λh3=>?_⟩
 ·simp only[aFP]at h3
  exact bC (λhp=>by have:=hp.1.len;omega) dF
 simp only[aFQ]at h3
 obtain⟨p0,hp0⟩:=ae (l:=ps) (k:=0) ab
 obtain⟨a0,l0,pP,hl0,g0,g1,g2⟩:=(np.ext dF hf).aE hp0
 have azB:=pP.len
 refine⟨ab,ab,a0,g0,λh4=>?_,λh4=>?_⟩
 ·simp only[aFP]at h4
  exact bC (λhp=>by have:=(hp.1.first p0 hp0).1;omega) dF
 simp only[aFQ]at h4
 refine⟨ab,ab,_,g2,λh5=>?_,λh5=>?_⟩
 ·simp only[aHG]at h5
  exact bC (λhp=>h5 (hp.1.first p0 hp0).2) dF
 simp only[aGF]at h5
 refine dg (n:=ps.length) ab (λj m'=>af m m'/\∀p∈ps.take j,(p.params.length<=3/\El ds.length p.params/\yL ds.length p.aH)/\CI p.params p.bX) ⟨dF,az⟩ ?_
 rintro j m2 I μ hj ⟨hx,hn⟩ next
 refine⟨λh6=>?_,λh6=>?_⟩
 ·simp only[aFP]at h6
  obtain⟨p,sX⟩:=ae (l:=ps) (k:=j) ab
  obtain⟨a,l,ha,hl,q0,q1,q2⟩:=(np.ext hx hf).aE sX
  have jK:=ha.len
  have ly:=hl.len
  have zG:=hl.eP
  refine⟨ab,ab,a,q0,l,q1,_,q2,?_⟩
  intro m3 m4
  have kK:af m2 m4:=((af.av m2).aC _).ag (aFR _) _ _
  have xr:∀b∈[m2.size],b<m4.size:=by simp[m4,m3,aq]
  clear_value m4
  refine⟨λh7=>?_,λh7=>?_⟩
  ·simp only[aFP]at h7
   exact bC (λhp=>by have:=(hp.1.cq p (ak sX)).1;omega) (hx.trans kK)
  simp only[aFQ]at h7
  refine(ub (ha.ext kK) _).ay (af.av _) xr λb m5 hb h8 h9=>⟨_,rfl,λln=>?_,λln=>?_⟩
  ·exact bC (λhp=>nb hb ln (kU▸(hp.1.cq p (ak sX)).2.1)) ((hx.trans kK).trans h8)
  have hty:=yb hb ln
  refine(nk _ _ _).ay h9 xr λb m6 hb jV nJ=>⟨_,rfl,λuJ=>?_,λuJ=>?_⟩
  ·exact bC (λhp=>nb hb uJ (kU▸(hp.1.cq p (ak sX)).2.2)) ((hx.trans kK).trans nJ)
  have Ht:=yb hb uJ
  rw[kU]at hty Ht
  have Fw:af m m6:=(hx.trans kK).trans nJ
  have agf:af m2 m6:=kK.trans nJ
  refine dg (n:=p.bX.length) ab (λk m'=>m'=m6/\∀(j:Nat)(v:Int),j<k->p.bX[j]? =some v->(∃t,0<=v/\p.params[v.toNat]? =some t/\t≠0)/\(∀u:Int,0<j->p.bX[j -1]? =some u->u<v)) ⟨rfl,az⟩ ?_
  rintro k m7 I2 μ2 hk ⟨rfl,hn7⟩ aet
  have bad:¬CI p.params p.bX->∃b':Bool,vb false=.bool b'/\(b'=true<->J4 ds ps/\∀p∈ps,CI p.params p.bX)/\af m m7:=λLO=>bC (λhp=>LO (hp.2 p (ak sX))) Fw
  refine⟨λxh=>?_,λxh=>?_⟩
  ·simp only[aFP]at xh
   obtain⟨x,SH⟩:=ae (l:=p.bX) (k:=k) ab
   refine⟨ab,ab,x,by simpa using agf.ad (hl.aE SH),λJB=>?_,λJB=>?_⟩
   ·simp only[aFP]at JB
    exact bad λhp=>by obtain⟨⟨t,FI,_⟩,_⟩:=hp k x SH;omega
   simp only[aFQ]at JB
   refine⟨λFI=>?_,λFI=>?_⟩
   ·simp only[aHK,aFP]at FI
    refine bad λhp=>?_
    obtain⟨⟨t,_,LU,_⟩,_⟩:=hp k x SH
    have:=ap LU;omega
   simp only[aHK,aFQ]at FI
   obtain⟨t,Vv⟩:=ae (l:=p.params) (k:=x.toNat) ab
   refine⟨ab,ab,t,by simpa using agf.ad (ha.aE Vv),λLU=>?_,λLU=>?_⟩
   ·simp only[aFZ]at LU
    refine bad λhp=>?_
    obtain⟨⟨t',_,Vw,h19⟩,_⟩:=hp k x SH
    rw[Vv]at Vw;simp at Vw;exact h19 (Vw▸LU)
   simp only[aFU]at LU
   refine⟨λVw=>?_,λVw=>?_⟩
   ·simp only[aFP]at Vw
    have e2:bS ((k:Int) -1)=((k -1:Nat):Int):=by rw[aF ab ab];omega
    obtain⟨y,hy⟩:=ae (l:=p.bX) (k:=k -1) ab
    rw[e2]
    refine⟨ab,ab,y,by simpa using agf.ad (hl.aE hy),λh19=>?_,λh19=>?_⟩
    ·simp only[aFP]at h19
     exact bad λhp=>by have:=(hp k x SH).2 y ab hy;omega
    ·simp only[aFQ]at h19
     refine aet ab _ ⟨rfl,λj' v NB hv=>?_⟩
     by_cases e:j'=k
     ·subst e
      rw[SH]at hv;simp at hv;subst hv
      refine⟨⟨t,ab,Vv,LU⟩,λu _ hu=>?_⟩
      rw[hy]at hu;simp at hu;subst hu;omega
     ·exact hn7 j' v ab hv
   ·simp only[aFQ]at Vw
    refine aet ab _ ⟨rfl,λj' v NB hv=>?_⟩
    by_cases e:j'=k
    ·subst e
     rw[SH]at hv;simp at hv;subst hv
     exact⟨⟨t,ab,Vv,LU⟩,λu h0 _=>ab⟩
    ·exact hn7 j' v ab hv
  ·simp only[aFQ]at xh
   exact next ab _ ⟨Fw,aZ sX hn ⟨⟨ab,hty,Ht⟩,λj' v hv=>hn7 j' v (by have:=ap hv;omega) hv⟩⟩
 ·simp only[aFQ]at h6
  have gZ:=bM ab hn
  refine gP ⟨⟨ht,ab,λp hp=>(gZ p hp).1,λp hp=>?_⟩,λp hp=>(gZ p hp).2⟩ hx
  rw[hp0]at hp;simp at hp;subst hp
  exact⟨ab,h5⟩
end Go.Proofs.YtakpkjhmbbfniaaGreat
