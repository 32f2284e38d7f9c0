/- Part of a proof, joined by a program. -/
import Derived.Test.YtgnjacfobdjeeaaGreatO10
set_option linter.unusedVariables false
set_option linter.unusedSimpArgs false
set_option linter.defProp false
set_option linter.constructorNameAsVariable false
set_option maxHeartbeats 8000000
set_option maxRecDepth 100000
namespace Go.Proofs.YtgnjacfobdjeeaaGreat
open Go.Vc
section
variable{M:I}
def K6(a:Nat->Nat)(m:I):List Nat:=(List.range m.size).filter λb=>a b≠0
def Nr(c:Nat->Nat)(m:I):∀b∈K6 c m,b<m.size:=λb a=>by simp[K6]at a;exact a.1
def PY{d:Nat->Nat}{m a:I}(fq:∀b,b<a.size->d b=0)(e:J a M):Le a (bA (K6 d m) M):=
 (xB a).trans (e.bA λb c=>Or.inr (by
  simp[K6]at c;exact Es λh=>c.2 (fq b h)))
def dy.Xl{a l:Nat->Nat}{m f:I}(h:To a f l M)(k:∀b,m.size<=b->a b=0):Le (bA (K6 a m) f) M:=λb o v j=>by
 obtain⟨d,e⟩:=dP.1 j;have i:=lC e;have g:a b=0:=by
  rcases aV b m.size with c|c
  ·simp[K6]at d;exact d c
  ·exact k b c
 rw[aI (h.fu b i (by simp[g]))];exact e
def OQ(c:List bq)(h:List fD)(i:Prop)(b:Bk):Prop:=∀(e:Nat->Nat)(m a:I)(d:Nat)(l:Nat->O)(L:Nat->List Int)(n k:Nat)(g r t:O),J a m->(∀b,b<a.size->e b=0)->iu e m d l L->qx c n L->WB c h.length i n b->n+4*b.w<=1000000000000->k<=n->dJ a g r c h->dN a t b.aA->
 aN bY 324 [vp d 0,.agg #[O.v g,O.v r],.agg #[O.v t,vi b.aR],vi k] m (zA e m d λf=>(∀j,j<6->(f j).length=k)/\(f 6).length<=1000000000000)
def Uc(m:I)(n:Nat)(v:Value)(c:I):Prop:=∃(a:Nat)(d:Bool),v=.tuple #[vp a 0,vb d]/\J m c/\(d=true->∃e f L,(∀b,b<m.size->e b=0)/\iu e c a f L/\∀j,j<6->(L j).length=n)
def oB.same{c:List bq}{n b:Nat}{L a:Nat->List Int}(h:oB c n b L)(e:∀k,k<7->a k=L k):oB c n b a:=
 ⟨λk d=>by rw[e k V];exact h.len k d,by rw[e 2 bd];exact h.Us,by rw[e 3 bd,e 4 bd];exact h.Mx,by rw[e 6 bd];exact h.cW⟩
section
variable{p:Nat->Nat}{m g:I}{j:Nat}{f:Nat->O}{L:Nat->List Int}{e:List bq}{h:List fD}{b:Nat}{d r a o:O}{x:cq}{c:Prop}
def OH(hx:J g m)(aF:iu p m j f L)(hi:qx e b L)(R:dJ g d r e h)(ha:ar g a x.args)(hk:mo g o x.bu)(hw:WS e h.length c b x)(u:b+4*x.w<=1000000000000){ad:Nat}{q:Bk}(ac:x.bu[ad]? =some q)(ih:OQ e h c q):
 aN bY 305 [vp j 0,.agg #[O.v d,O.v r],nv x a o,vi ad] m (Uc m b):=by
 apply wz (j,0)
 simp -zeta only[aE,aD,bN]
 intro N F
 obtain⟨x2,hl⟩:=di (a:=N) (c:=F) rfl rfl
 clear_value F
 clear_value N
 have h2:=aF.ext x2
 have ap:=hi.len
 have l0:=h2.len (k:=0) bd
 have n0:=ap 0 bd
 have aZ:=ax ac
 have a0:=hk.len
 have aY:=uE ac
 have a3:=cq.kN x
 have aa:=hw.bu ad q ac
 have z:=hx.trans x2
 obtain⟨ah,ht,f0,f1⟩:=hk.u ac
 refine⟨_,h2.cy (k:=0) bd,?_⟩
 refine(Kh h2 (λw hj=>by
  by_cases B:w<6
  ·rw[ap w B];omega
  ·have:w=6:=V;subst this;exact hi.cW)).mono λv m3⟨E,A,K,P,aS,t,s,h3,y⟩=>⟨K.Si hl (J.aC _)|>λ_=>λq u=>K.same q (hl q u),(E,0),A,?_⟩
 have T:qx e b t:=hi.same y
 have ak:Ez F [N.size,m.size] P m3:=⟨K,s,λq u=>⟨K.lt (hl q u),s q (hl q u)⟩⟩
 have il:∀(M:I)(ae:Nat->Nat)(aj:Nat->O)(Z:Nat->List Int)(G:Nat),Ez F [N.size,m.size] ae M->iu ae M E aj Z->qx e G Z->WB e h.length c G q->G<=b+3->b<=G->
  aN bY 324 [vp E 0,.agg #[O.v d,O.v r],.agg #[O.v ah,vi q.aR],vi ((f 0).len:Int)] M λv m'=>dV [N.size,m.size] M m'/\∃U:Bool,v=vb U/\Uc m b (.tuple #[vp E 0,vb U]) m':=λM ae aj Z G X aB ao aG a2 aH=>by
  have e0:(f 0).len=b:=V
  rw[e0]
  refine(ih ae M F E aj Z G b d r ah X.ext X.fq aB ao aG V aH (R.le z.le) (ht.le z.le)).mono λv m'⟨U,H,A,c5,Q⟩=>⟨X.da c5,U,A,E,U,rfl,x2.trans (X.to c5).ext,λaJ=>?_⟩
  obtain⟨W,Y,B,h7,_⟩:=Q aJ
  exact⟨H,W,Y,λq u=>(X.to c5).fq q (x2.lt u),B,h7⟩
 refine⟨λC=>?_,λC=>?_⟩
 ·simp only[aL]at C
  have ay:=R.aT.le z.le
  obtain⟨aX,_⟩:=hw.dY.all C
  refine(fR (Nr P m3) (ay.le K.le) R.types x.bL).mono λv m4⟨s4,l4,A,aK,e4,x4⟩=>⟨λq u=>x4.same q (ak.box q u).1,s4,A,?_⟩
  subst e4
  obtain⟨s,aw⟩:=ag (l:=bU e x.bL) (k:=ad) V
  have az:=aK.le (bt _ _)
  have l4:=az.len
  refine⟨V,V,s,az.u aw,?_⟩
  have af:=ak.fw x4
  have h4:=h3.ext x4
  refine(dk (Nr P m4) (ay.le (PY af.fq af.ext)) R.types s).mono λv m5⟨s5,l5,A,aA,e5,x5⟩=>⟨λq u=>x5.same q (af.box q u).1,s5,A,?_⟩
  subst e5
  have al:=af.fw x5
  have Q:=h4.ext x5
  have aV:=hw.dY.kj (Or.inr (Or.inr C))
  obtain⟨y,hy⟩:=ag (l:=x.args) (k:=0) V
  obtain⟨y0,y1⟩:=hw.dY.args y (au hy)
  have aW:=ha.len
  have N5:=T.len
  have a4:=Q.len (k:=3) bd
  have G:=N5 3 bd;have n4:=N5 4 bd
  have ai:∀{M:I},J F M->D M a.F (a.off+Int.toNat (0:Int)*1)=some (vi y):=λxx=>(ha.ext (z.trans xx)).u hy
  obtain⟨w6,B,c6⟩:=Q.put (k:=3) (i:=y.toNat) bd V s
  refine⟨_,Q.cy (k:=3) bd,V,V,y,ai al.ext,y0,V,w6,?_⟩
  intro m6
  have am:=al.to c6
  obtain⟨w7,h7,c7⟩:=B.put (k:=4) (i:=y.toNat) bd (by show _<(t 4).length;omega) ((f 0).len:Int)
  have aM:=B.len (k:=4) bd
  have aC:up t 3 ((t 3).set y.toNat s) 4=t 4:=rfl
  rw[aC]at aM
  refine⟨al.da c6,_,B.cy (k:=4) bd,V,V,y,ai am.ext,y0,V,w7,?_⟩
  intro m7
  have aU:=am.to c7
  have F3:=CY R.types s
  have e0:((f 0).len:Int)=b:=V
  have i7:oB e b (b+(bT e s).length) (up (up t 3 ((t 3).set y.toNat s)) 4 ((t 4).set y.toNat ((f 0).len:Int))):=by
   refine⟨λw hj=>?_,λv aP hp=>?_,λv c aq hc hf h1=>?_,by simpa[up]using T.cW⟩
   ·rcases w with _|_|_|_|_|_|w<;>first|omega|(simp[up,N5])
   ·exact T.Us v aP (by simpa[up]using hp)
   ·have S:((t 3).set y.toNat s)[v]? =some c:=by simpa[up]using hc
    have ab:((t 4).set y.toNat ((f 0).len:Int))[v]? =some aq:=by simpa[up]using hf
    by_cases ev:y.toNat=v
    ·subst ev;rw[dA V]at S ab;simp at S ab;subst S;omega
    ·rw[dQ ev]at S ab;have:=T.Mx v c aq S ab h1;omega
  have a1:=aA.len
  refine⟨am.da c7,?_⟩
  refine dO (n:=(bT e s).length) V (λw M=>∃H W Y,oB e (b+w) (b+(bT e s).length) Y/\To P m5 H M/\Ez F [N.size,m.size] H M/\iu H M E W Y) ⟨P,_,_,i7,c6.trans c7,aU,h7⟩ ?_
  rintro w M ao μ hj ⟨aR,aT,L8,i8,c8,E,av⟩ aO
  refine dit (λaI=>?_) λaI=>?_
  ·obtain⟨ab,hz⟩:=ag (l:=bT e s) (k:=w) V
   refine⟨V,V,ab,(aA.le (c8.Xl h4.new)).u hz,V,V,y,ai E.ext,?_⟩
   exact(yl av (λaQ S=>by rw[i8.len aQ S];omega) ab 0 y).mono λv M'⟨H,W,S,h9⟩=>⟨E.da S,aO V _ ⟨H,W,_,by rw[<-dB];exact i8.LQ ab 0 V,c8.trans S,E.to S,h9⟩⟩
  ·have S:w=(bT e s).length:=V
   subst S
   rw[Ih C aw]at aa
   exact⟨V,V,ah,(z.trans E.ext).D f0,q.aR,(z.trans E.ext).D f1,il M aR aT L8 _ E av i8 aa V V⟩
 ·simp only[an]at C
  rw[Ii C]at aa
  exact⟨V,V,ah,(z.trans K).D f0,q.aR,(z.trans K).D f1,il m3 P aS t b ak h3 T aa V V⟩
end
end
section
def _root_.Go.Vc.SW{n c:Nat}(j:c<=n)(p:n<=9223372036854775807){m:I}{f:(Int->I->Prop)->(Int->I->Nat)->Int->I->Prop}(Q:Nat->I->Prop)(g:Q c m)
 (h:∀(k:Nat)(a:I)(b:Int->I->Prop)(μ:Int->I->Nat),c<=k->k<=n->Q k a->
  (k<n->∀d,Q (k+1) d->b (cK ((k:Int)+1)) d/\μ (cK ((k:Int)+1)) d<μ k a)->f b μ k a):
 ∃(b:Int->I->Prop)(μ:Int->I->Nat),b c m/\∀i a,b i a->f b μ i a:=by
 refine⟨λi d=>∃k:Nat,i=k/\c<=k/\k<=n/\Q k d,λi _=>(n -i).toNat,⟨c,rfl,ad _,j,g⟩,?_⟩
 rintro i a ⟨k,rfl,l,o,q⟩
 refine h k a _ _ l o q λe d r=>?_
 rw[jJ e p]
 exact⟨⟨k+1,rfl,V,e,r⟩,AM e⟩
section
variable{b:Nat->Nat}{m f:I}{e:Nat}{p:Nat->O}{L:Nat->List Int}{g:List bq}{o:List fD}{h:Nat}{d r i j:O}{x:cq}{c:Prop}
def Kf(hx:J f m)(fq:∀q,q<f.size->b q=0)(u:iu b m e p L)(hi:qx g h L)(hN:dJ f d r g o)(ha:ar f i x.args)(hk:mo f j x.bu)(R:WS g o.length c h x)(s:h+4*x.w<=1000000000000)(aw:x.op=7\/x.op=8)(ih:∀q∈x.bu,OQ g o c q):
 aN bY 265 [vp e 0,.agg #[O.v d,O.v r],nv x i j] m (zA b m e (qx g h)):=by
 apply tj (e,0)
 simp -zeta only[aE,aD,bN]
 intro Z N
 have st:=Ez.Qt (a:=Z) (g:=N) hx fq u.new rfl rfl
 obtain⟨S,F⟩:=di (a:=Z) (c:=N) rfl rfl
 clear_value N
 clear_value Z
 have an:=hk.len
 have aK:=ha.len
 have aG:=R.dY.kj V
 have ap:0<x.bu.length:=by
  rcases aw with X|h8
  ·have:=R.dY.HO X;omega
  ·exact(R.dY.all h8).2
 have Q:∀{M:I},J N M->To b m b M:=λA=>dy.fe _ (S.trans A) u.new
 have ah:∀(M:I)(K:Nat)(q:Bk),J N M->x.bu[K]? =some q->aN bY 305 [vp e 0,.agg #[O.v d,O.v r],nv x i j,vi K] M (Uc M h):=λM K q A ai=>
  OH (hx.trans (S.trans A)) (u.ext (S.trans A)) hi hN ha hk R s ai (ih q (au ai))
 refine⟨λM=>J N M,⟨λ_=>?_,λ_=>J.aC _⟩,?_⟩
 ·obtain⟨y,v⟩:=ag (l:=x.args) (k:=0) V
  obtain⟨z,B⟩:=R.dY.args y (au v)
  refine⟨bd,V,y,(ha.ext st.ext).u v,?_⟩
  exact(qC (u.ext S) hi V z B).mono λaa m3⟨q,t,w⟩=>⟨λq s=>w.same q (F q s),q,t,λ_=>.no (Q w),λ_=>w⟩
 ·intro m3 w
  obtain⟨b0,am⟩:=ag ap
  refine(ah m3 0 b0 w am).mono λaa m4⟨ad,aA,t,T,h1⟩=>⟨λq s=>T.same q (w.lt (F q s)),(ad,0),aA,t,λ_=>.no (Q (w.trans T)),λac=>?_⟩
  obtain⟨aC,af,L1,aj,h1,n1⟩:=h1 (by simpa using ac)
  have u4:=w.trans T
  have ax:=n1 1 bd;have ay:=n1 5 bd
  refine SW (n:=x.bu.length) (c:=1) V (an▸hk.fL) (λ_ M=>J m4 M) (J.aC _) ?_
  rintro K M aF μ aH aL U az
  have z:=u4.trans U
  have B:=h1.ext U
  refine⟨λY=>?_,λY=>?_⟩
  ·simp only[ao]at Y
   obtain⟨q,s⟩:=ag (l:=x.bu) (k:=K) V
   refine(ah M K q z s).mono λaa m6⟨ab,ak,t,v,E⟩=>⟨λq s=>v.same q (z.lt (F q s)),(ab,0),ak,t,λ_=>.no (Q (z.trans v)),λac=>?_⟩
   obtain⟨aO,aP,L2,aM,E,n2⟩:=E (by simpa using ac)
   have al:=n2 1 bd;have av:=n2 5 bd
   have C:=B.ext v
   refine⟨_,C.cy (k:=1) bd,_,E.cy (k:=1) bd,?_⟩
   refine(oT (C.ov (k:=1) bd V) (E.ov (k:=1) bd V)).mono λaa m7⟨H,t,_,y⟩=>⟨λq s=>y.same q (v.lt (z.lt (F q s))),H,t,λ_=>.no (Q (z.trans (v.trans y))),λ_=>?_⟩
   have W:=C.ext y
   have X:=E.ext y
   refine⟨_,W.cy (k:=5) bd,_,X.cy (k:=5) bd,?_⟩
   refine(oT (W.ov (k:=5) bd V) (X.ov (k:=5) bd V)).mono λaa m8⟨H,t,_,P⟩=>⟨λq s=>P.same q (y.lt (v.lt (z.lt (F q s)))),H,t,λ_=>.no (Q (z.trans (v.trans (y.trans P)))),λ_=>?_⟩
   exact az V _ (U.trans (v.trans (y.trans P)))
  ·let y:Nat->Nat:=λq=>if q<m3.size then b q else aC q
   have uu:=S.trans w
   have A:=uu.trans (T.trans U)
   have z4:=T.size;have zM:=U.size;have W:=uu.size
   have P:∀q,q<m3.size->y q=b q:=λq s=>aq s
   have H0:iu y M e p L:=by
    have al:=u.ext A;refine⟨λq s=>?_,by rw[P _ (aJ u.box.lt W)];exact u.iW,al.box,λv H=>(u.qQ v H).fu (λC=>A.same _ ((u.qQ v H).F C).1) λC=>P _ (aJ ((u.qQ v H).F C).1 W)⟩;simp only[y];rw[ae V];exact B.new q s
   have ab:∀v,v<7->gX y M aB 1 (v+1) (af v) ((L1 v).map Ce.i):=λv H=>(B.qQ v H).fu (λ_=>rfl) λC=>by
    have E:=((B.qQ v H).F C).2;simp only[y];rw[ae λY=>by rw[aj _ Y]at E;omega]
   have c3:To b m y M:=⟨A.size,λq s=>P q (aJ s W),H0.new,λq s _=>A.same q s⟩
   have ak:Ez f [Z.size,m.size] y M:=⟨st.ext.trans z,λq s=>by rw[P q (aJ (aJ s hx.size) W)];exact fq q s,λq s=>⟨z.lt (F q s),by rw[P q (w.lt (F q s))];exact(st.box q s).2⟩⟩
   clear_value y
   refine⟨_,B.cy (k:=1) bd,?_⟩
   obtain⟨w5,h5,c5⟩:=H0.Uu (k:=1) bd (ab 1 bd)
   refine⟨w5,?_⟩
   intro m9
   have av:ad≠e:=λt=>by
    have h8:=B.iW;rw[t,aj _ (aJ u.box.lt W)]at h8;omega
   have G:D m9 ad 5=some (O.v (af 5)):=(aI (bh _ _ _ _ av) _).trans (B.cy (k:=5) bd)
   have A5:gX y m9 aB 1 (5+1) (af 5) ((L1 5).map Ce.i):=by
    refine(ab 5 bd).fu (λC=>bh _ _ _ _ λt=>?_) λ_=>rfl;have:=((ab 5 bd).F C).2;rw[t,H0.iW]at this;omega
   obtain⟨w6,h6,c6⟩:=h5.Uu (k:=5) bd A5
   exact⟨ak.da c5,_,G,w6,(ak.to c5).da c6,.Mz ((c3.trans c5).trans c6) h6 ((hi.aW ax).XN ay)⟩
end
end
section
section
variable{b:Nat->Nat}{m g:I}{f:Nat}{o:Nat->O}{L:Nat->List Int}{e:List bq}{h:List fD}{n:Nat}{d r a j:O}{x:cq}{c:Prop}
def DT(hx:J g m)(fq:∀p,p<g.size->b p=0)(ac:iu b m f o L)(z:qx e n L)(X:dJ g d r e h)(F:ar g a x.args)(hk:mo g j x.bu)(G:WS e h.length c n x)(v:n+4*x.w<=1000000000000)(ih:∀p∈x.bu,OQ e h c p):
 aN bY 242 [vp f 0,.agg #[O.v d,O.v r],nv x a j] m (zA b m f (qx e (n+dn x))):=by
 apply vf (f,0)
 simp -zeta only[aE,aD,bN]
 intro T Z
 have U:=Ez.Qt (a:=T) (g:=Z) hx fq ac.new rfl rfl
 have x2:J m Z:=(di (a:=T) (c:=Z) rfl rfl).1
 clear_value Z
 clear_value T
 have h2:=ac.ext x2
 have ap:=F.len
 have av:=cq.kN x
 have N0:=z.len 0 bd
 refine⟨_,h2.cy (k:=0) bd,?_⟩
 refine(mF (X.le U.ext.le) (h2.ov (k:=0) bd V) (F.ext U.ext) (hk.le U.ext.le) V (λp _=>lQ p)).mono λB m3⟨H,u,_,x3⟩=>⟨λp v=>x3.same p (U.box p v).1,H,u,?_⟩
 have t:=U.fw x3
 have E:=h2.ext x3
 have R:To b m b m3:=dy.fe _ (x2.trans x3) ac.new
 have kj:14<=x.op\/x.op=7\/x.op=8->∃y:Int,x.args[0]? =some y/\0<=y/\y<(n:Int):=λho=>by
  have:=G.dY.kj ho;obtain⟨y,P⟩:=ag (l:=x.args) (k:=0) V;exact⟨y,P,G.dY.args y (au P)⟩
 refine⟨λok M=>∃w,To b m w M/\Ez g [T.size,m.size] w M/\(ok=true->∃ab Q,iu w M f ab Q/\qx e n Q),⟨λak=>?_,λaw=>⟨λal=>?_,λax=>⟨λam=>?_,λay=>⟨λh7=>?_,λn7=>?_⟩⟩⟩⟩,?_⟩
 ·simp only[aL]at ak
  obtain⟨y,P,C,y1⟩:=kj V
  have ad:=G.dY.kj V
  have Y:∀{M:I},J g M->D M a.F (a.off+Int.toNat (0:Int)*1)=some (vi y):=λW=>(F.ext W).u P
  refine⟨bd,V,y,Y t.ext,?_⟩
  refine(qC E z V C y1).mono λB K⟨p,u,s⟩=>⟨λp v=>s.same p (t.box p v).1,p,u,?_⟩
  have q:=E.ext s
  have A:=t.fw s
  have N1:=z.len 1 bd
  have l1:=q.len (k:=1) bd
  obtain⟨aa,af⟩:=ag (l:=L 1) (k:=y.toNat) V
  obtain⟨wr,S,N⟩:=q.put (k:=1) (i:=y.toNat) bd V (cK (aa+1))
  exact⟨_,q.cy (k:=1) bd,bd,V,y,Y A.ext,_,q.cy (k:=1) bd,bd,V,y,Y A.ext,C,V,aa,q.u bd V af,C,V,wr,A.da N,b,(R.trans (dy.fe _ s E.new)).trans N,A.to N,λ_=>⟨o,_,S,z.aW (by simp[N1])⟩⟩
 ·simp only[aL]at al
  obtain⟨y,P,C,y1⟩:=kj V
  have ad:=G.dY.kj V
  refine⟨bd,V,y,(F.ext t.ext).u P,?_⟩
  refine(sR E z V C y1).mono λB K⟨p,w,u,s,q⟩=>⟨t.da s,p,u,w,R.trans s,t.to s,λv=>?_⟩
  obtain⟨ab,Q,S,aa,Y,rfl⟩:=q v
  exact⟨ab,_,S,z.aW Y⟩
 ·simp only[cv,aL]at am
  refine(Ny t.ext t.fq E z V X F G.dY V).mono λB K⟨p,w,u,s,q⟩=>⟨t.da s,p,u,w,R.trans s,t.to s,q⟩
 ·simp only[cv,aL]at h7
  refine(Kf t.ext t.fq E z X F hk G v h7 ih).mono λB K⟨p,w,u,s,q⟩=>⟨t.da s,p,u,w,R.trans s,t.to s,q⟩
 ·refine(Hm t.ext t.fq E z V X F G.dY).mono λB K⟨p,w,u,s,q⟩=>⟨t.da s,p,u,w,R.trans s,t.to s,q⟩
 ·rintro ok M ⟨az,s,A,q⟩
  refine⟨λ_=>.no s,λao=>?_⟩
  obtain⟨aA,L4,q,i4⟩:=q (by simpa using ao)
  have gr:∀{M':I}(H aa:Int),J M M'->dn x=1->aN bY 262 [vp f 0,vi H,vi aa,vi (-1:Int)] M' λ_ m'=>dV [T.size,m.size] M' m'/\zA b m f (qx e (n+dn x)) (vb true) m':=λH aa W hd=>
   (yl (q.ext W) (λK C=>by rw[i4.len K C];omega) H aa (-1)).mono λ_ m'⟨w,ab,N,S⟩=>⟨(A.fw W).da N,.Mz ((s.trans (dy.fe _ W q.new)).trans N) S (by rw[hd];exact(i4.LQ H aa V).AZ V)⟩
  refine(iX x.op M).mono λB m5⟨p,u,ad,C⟩=>⟨λp v=>C.same p (A.box p v).1,p,u,λai=>⟨λ_=>?_,λ_=>?_⟩,λan=>?_⟩
  ·exact gr H 1 C (by have:=qV x p ad;rw[aq ai]at this;exact this)
  ·refine(iX x.op m5).mono λB m6⟨Q,u,Y,K⟩=>⟨λp v=>K.same p (C.lt (A.box p v).1),Q,u,λah=>?_,λaf=>?_⟩
   ·exact gr 0 0 (C.trans K) (by have:=qV x Q Y;rw[aq ah]at this;exact this)
   ·have:=Y.2 (ad.1 ai);rw[this]at af;simp at af
  ·have aj:=qV x p ad
   rw[ae (by simp[an])]at aj
   refine(iX x.op m5).mono λB m6⟨Q,u,Y,K⟩=>⟨λp v=>K.same p (C.lt (A.box p v).1),Q,u,λah=>?_,λaf=>?_⟩
   ·exact gr 0 0 (C.trans K) (by have:=qV x Q Y;rw[aq ah]at this;exact this)
   ·exact .Mz (s.trans (dy.fe _ (C.trans K) q.new)) (q.ext (C.trans K)) (by rw[aj];exact i4)
end
def Kl{C:List bq}{rs:List fD}{I:Prop}:∀b:Bk,OQ C rs I b:=by
 refine Bk.ind ?_;intro aA ae ih s q mb F sl L ac E ai ap av hx fq u U ab p hk R y;simp only[Bk.jd,Bk.iy,Bk.oV]at*;apply uh (F,0);simp -zeta only[aE,aD,bN];intro r o;have st:=Ez.Qt (a:=r) (g:=o) hx fq u.new rfl rfl;have G:J q o:=(di (a:=r) (c:=o) rfl rfl).1;have K:To s q s o:=dy.fe _ G u.new;clear_value o;clear_value r;obtain⟨D,z,r1⟩:=ab.bo;simp only[Bk.jd,Bk.iy]at D z r1;have aa:=y.len;have Z:=yY aA;refine dO (n:=aA.length) (aa▸y.fL) (λi M=>∃g t h,qx C (ac+dc (aA.take i)) h/\To s q g M/\Ez mb [r.size,q.size] g M/\iu g M F t h) ⟨s,sl,L,by simpa using U,K,st,u.ext G⟩ ?_;rintro i M af μ ak ⟨aq,ar,H,f,j,c,d⟩ ad
 have aj:=qT (aA.take i);have al:=oW i aA;have am:=eW (aA.take i);refine dit (λY=>?_) λY=>?_
 ·obtain⟨x,m⟩:=ag (l:=aA) (k:=i) V;obtain⟨ah,kk,S,W,A,N,O,P,Q⟩:=y.u m;have ao:=od m;have an:=Z (i+1);have T:=oY m;have X:=c.ext;refine⟨V,V,_,X.D A,_,X.D N,_,X.D O,_,X.D P,_,X.D Q,?_⟩;refine(DT X c.fq d f R S W (D i x m) V (ih x (au m))).mono λB m4⟨b,g,e,a,v⟩=>⟨c.da a,b,e,λ_=>.no (j.trans a),λp=>?_⟩;obtain⟨t,h,w,i5⟩:=v (by simpa using p);exact ad V _ ⟨g,t,h,by rw[T,<-dB];exact i5,j.trans a,c.to a,w⟩
 ·have N:i=aA.length:=V;rw[N,fZ]at f;have W:=qT aA;have X:=eW aA;have T:=f.len 0 bd;have l0:=d.len (k:=0) bd;obtain⟨S,P⟩:=ag (l:=H 0) (k:=ae.toNat) V;refine⟨_,d.cy (k:=0) bd,z,V,S,d.u bd V P,λ_=>?_,λ_=>?_⟩
  ·refine(sR d f V z V).mono λB m4⟨b,g,e,a,v⟩=>⟨c.da a,b,e,λ_=>.no (j.trans a),λp=>?_⟩;obtain⟨t,h,w,ah,O,rfl⟩:=v (by simpa using p);refine(Jt w (f.aW O) V (b:=E) V).mono λB Q⟨b,A,e,m,x⟩=>⟨(c.to a).da m,b,e,b,A,rfl,(j.trans a).trans m,x⟩
  ·refine(Jt d f V (b:=E) V).mono λB Q⟨b,A,e,m,x⟩=>⟨c.da m,b,e,b,A,rfl,j.trans m,x⟩
def UX(m:I)(f:List bq)(q:fD)(j:Int)(v:Value)(c:I):Prop:=∃(a:Nat)(d:Bool),v=.tuple #[vp a 0,vb d]/\J m c/\(d=true->0<=j/\j<=q.body.aA.length/\∃e g L,(∀b,b<m.size->e b=0)/\iu e c a g L/\qx f (q.params.length+dc (q.body.aA.take j.toNat)) L)
def Ca{m:I}{N aa:O}{f:List bq}{B:List fD}{ac:Prop}{W:Nat}(h:dJ m N aa f B)(S:vS f B ac W)(hW:W<=200000000000){P:Nat}{a:fD}(y:B[P]? =some a){j:Int}(hj: -9000000000000000000<=j/\j<=9000000000000000000):
 aN bY 222 [.agg #[O.v N,O.v aa],vi P,vi j] m (UX m f a j):=by
 apply va
 simp -zeta only[aE,aD]
 intro o
 have G:J m o:=J.push _ _
 have g:∀b∈[m.size],b<o.size:=by simp[o]
 clear_value o
 have aJ:=h.gQ.len;have aI:=h.mN
 have aG:=ax y
 obtain⟨aj,ah,am,hw⟩:=S.df a (au y)
 obtain⟨aO,aP,b,c1,c2,L,e0,e1,e2,x,e4⟩:=h.gQ.u y
 have z:∀{M:I}{ap:Obj},J m M->UX m f a j (.tuple #[vp M.size 0,vb false]) (M.push ap):=λxx=>⟨_,false,rfl,xx.aM _,E⟩
 refine(Ct (h.le G.le) (λd c=>by have:=S.df d c;omega)).aG (J.aC o) g λv1 m2 H _=>⟨_,rfl,λ_=>z (G.trans H),λ_=>?_⟩
 have u2:=G.trans H
 refine(aU _ _ _ _).aG H g λv2 m3 _ x3 v3=>⟨_,rfl,λ_=>z (u2.trans x3),λ_=>?_⟩
 have D:=u2.trans x3
 have aB:=L.len
 refine⟨V,V,_,D.D x,?_⟩
 refine(aU _ _ _ _).aG v3 g λv4 Y ad x4 F=>⟨_,rfl,λ_=>z (D.trans x4),λal=>?_⟩
 have c:=D.trans x4
 have hr:=ad.1 (by simpa using al)
 refine⟨V,V,_,c.D e0,_,c.D e1,_,c.D e2,_,c.D x,_,c.D e4,?_⟩
 refine(FD (q:=a) (c1.ext c) (c2.ext c) aj ah f).mono λaw Z⟨v,w,K,A,sl,ab,fq,Q,i5⟩=>⟨λb d=>K.same b (F.lt (g b d)),(v,0),w,?_⟩
 obtain⟨an,_,_⟩:=am.bo
 have aC:=Bk.kN a.body
 have ak:=yY a.body.aA
 have av:Ez Y [m.size] A Z:=⟨K,fq,λb d=>⟨K.lt (F.lt (g b d)),fq b (F.lt (g b d))⟩⟩
 have e6:j=((j.toNat:Nat):Int):=V
 obtain⟨u,ae⟩:∃u:Nat,j=u:=⟨j.toNat,e6⟩
 subst ae
 simp only[rO]
 refine dO (n:=u) V (λi M=>∃p C r,qx f (a.params.length+dc (a.body.aA.take i)) r/\To A Z p M/\Ez Y [m.size] p M/\iu p M v C r) ⟨A,sl,ab,by simpa using i5,Q.to,av,Q⟩ ?_
 rintro i M az μ aH ⟨aq,ar,L6,T,c6,e,R⟩ ao
 have U:J m M:=c.trans e.ext
 refine dit (λai=>?_) λai=>?_
 ·obtain⟨ay,t⟩:=ag (l:=a.body.aA) (k:=i) V
  obtain⟨aA,kk,ha,af,g0,g1,g2,g3,g4⟩:=(L.le c.le).u t
  have X:=e.ext
  have aM:=od t
  have aL:=ak (i+1)
  have aF:=qT (a.body.aA.take i)
  have aK:=eW (a.body.aA.take i)
  refine⟨V,V,_,U.D x,V,V,_,X.D g0,_,X.D g1,_,X.D g2,_,X.D g3,_,X.D g4,?_⟩
  refine(DT X e.fq R T (h.le c.le) ha af (an i ay t) V (λb _=>Kl b)).mono λaw m7⟨b,p,w,s,h7⟩=>⟨e.da s,b,w,λ_=>⟨v,false,rfl,c.trans (e.to s).ext,E⟩,λd=>?_⟩
  obtain⟨C,r,h8,i8⟩:=h7 (by simpa using d)
  exact ao V _ ⟨p,C,r,by rw[oY t,<-dB];exact i8,c6.trans s,e.to s,h8⟩
 ·have p:i=u:=V
  subst p
  exact⟨v,true,rfl,U,λ_=>⟨V,V,aq,ar,L6,λb d=>e.fq b (c.lt d),R,by simpa using T⟩⟩
end
section
variable{f d:Int}{c P:Nat}{m:I}
def Py(a:0<=f)(b:0<d):0<=f.tmod d/\f.tmod d<d:=⟨Int.tmod_nonneg _ a,Int.tmod_lt_of_pos _ b⟩
def Lf(a:0<=f)(b:0<d):0<=f.tdiv d/\f.tdiv d<=f:=by
 rw[ou a];exact⟨Int.ediv_nonneg a V,Int.ediv_le_self _ a⟩
def Sp{b:Int}(e:0<=f/\f<4611686018427387904)(g:0<=b/\b<4611686018427387904):0<=So f b:=by
 unfold So;have a:(f%18446744073709551616).toNat<2^62:=V;have c:(b%18446744073709551616).toNat<2^62:=V;have d:=Nat.xor_lt_two_pow a c;rw[aP V V];omega
def Rd(c:Nat)(a:O)(P:Nat)(m:I):Prop:=(∃p:Int,cB m c om [.s a,.i p]/\0<=p/\p<=P)/\a.len<=a.cap/\∀k:Nat,k<a.len->∃v:Int,0<=v/\v<=255/\D (bA [c] m) a.F (a.off+k*1)=some (.int .u8 v)
def Rd.mono{Q:Nat}{a:O}(h:Rd c a P m)(g:P<=Q):Rd c a Q m:=let⟨⟨p,b,d,f⟩,e⟩:=h;⟨⟨p,b,d,V⟩,e⟩
def Rd.lt{c P:Nat}{a:O}{m:I}(h:Rd c a P m):c<m.size:=let⟨⟨_,b,_⟩,_⟩:=h;b.lt
def Rd.J6{f:Nat}{b:O}{e M a:I}(d:Rd c b f e)(h:Rd c b P M)(l:Fz [c] e a)(k:a[c]? =M[c]?):Rd c b P a:=by
 obtain⟨⟨p,g,i,j⟩,_⟩:=h;exact⟨⟨p,g.congr k,i,j⟩,d.2.1,λo m=>let⟨v,q,r,n⟩:=d.2.2 o m;⟨v,q,r,l.cJ (λ_ h=>h) _ _ _ n⟩⟩
def Rd.ext{a:O}{d:I}(h:Rd c a P m)(b:J m d):Rd c a P d:=h.J6 h (b.fz _) (b.same _ h.lt)
def Rd.aj{c g P:Nat}{a:O}{d M:I}(f:Rd c a g d)(h:Rd c a P M)(j:Fz [c] d M){b:Nat}(i:d.size<=b)(o:Nat)(l:List Ce):Rd c a P (aj M b o l):=
 f.J6 h (j.aj (Or.inr i) o l) (bh _ _ _ _ λe=>by have:=f.lt;omega)
def Va(c:Nat)(b:O)(P:Nat)(m:I)(d:Int)(v:Value)(a:I):Prop:=∃k:Int,v=vi k/\0<=k/\(k<d\/k=0)/\Rd c b (P+1) a/\Fz [c] m a
def bO{e:O}(t:Rd c e P m)(hP:P<=10000000000000000)(d:Int):aN bY 81 [vp c 0,vi d] m (Va c e P m d):=by
 obtain⟨⟨p,w,q,p1⟩,hc,H⟩:=t;apply vk (c,0);simp -zeta only[bN];have s:D m c 1=some (vi p):=w.cy 1;refine⟨p,s,w.fm E,?_⟩;intro g;have Z:cK (p+1)=p+1:=aP V V;have Y:cK (p+1 -1)=p:=by rw[show p+1 -1=p by omega];exact aP V V
 have y:cB g c om [.s e,.i (p+1)]:=by rw[<-Z];exact cB.aj (m:=m) (r:=[.i (cK (p+1))]) (o:=1) w
 have C:Fz [c] m g:=(Fz.aC [c] m).aj (Or.inl E) _ _;have I:Le (bA [c] m) (bA [c] g):=C.cJ λ_ t=>t;clear_value g;have R:∀k:Int,0<=k->(k<d\/k=0)->Va c e P m d (vi k) g:=λk F G=>⟨k,rfl,F,G,⟨⟨p+1,y,V,V⟩,hc,λj f=>let⟨v,i,l,h⟩:=H j f;⟨v,i,l,I _ _ _ h⟩⟩,C⟩;have f:D g c 0=some (O.v e):=y.cy 0;have s:D g c 1=some (vi (p+1)):=y.cy 1;have B:∀j:Int,0<=j->j<(e.len:Int)->∃v:Int,0<=v/\v<=255/\D g e.F (e.off+j.toNat*1)=some (.int .u8 v):=λj F G=>by
  obtain⟨v,i,l,h⟩:=H j.toNat V;exact⟨v,i,l,(dP.1 (I _ _ _ h)).2⟩
 refine⟨λ_=>R 0 (dZ _) (Or.inr rfl),λhn=>⟨_,f,λ_=>R 0 (dZ _) (Or.inr rfl),λaa=>?_⟩⟩;simp only[bP]at hn;simp only[an]at aa;have J:0<d:=V;refine⟨_,s,_,f,?_⟩;rw[Y];refine⟨λA=>?_,λ_=>?_⟩
 ·simp only[ao]at A;obtain⟨v,i,l,h⟩:=B p q A;refine⟨_,f,q,A,v,h,V,?_⟩;rw[aP V V];have:=Py i J;exact R _ this.1 (Or.inl this.2)
 ·have z:(0:Int)<(e.len:Int):=V;obtain⟨L,M⟩:=Py q z;obtain⟨v,i,l,h⟩:=B _ L M;have X:cK (cK (p*7)+3)=p*7+3:=by rw[aP (b:=p*7) V V,aP V V]
  obtain⟨N,Q⟩:=Py (f:=p*7+3) V z;obtain⟨u,u0,u1,hu⟩:=B _ N Q;obtain⟨d0,d1⟩:=Lf q z;rw[X];refine⟨_,f,_,f,V,L,M,v,h,_,f,_,f,V,N,Q,u,hu,_,f,V,bd,V,?_⟩;have S:cK (cK v*131)=v*131:=by rw[aP (b:=v) V V,aP V V]
  have T:cK (cK u*1117)=u*1117:=by rw[aP (b:=u) V V,aP V V]
  have U:cK (p*29)=p*29:=aP V V;have W:cK (cK (p.tdiv e.len)*53)=p.tdiv e.len*53:=by rw[aP (b:=p.tdiv e.len) V V,aP V V]
  rw[S,T,U,W,aP (b:=v*131+u*1117) V V,aP (b:=v*131+u*1117+p*29) V V,aP (b:=v*131+u*1117+p*29+p.tdiv e.len*53) V V];have K:0<=v*131+u*1117+p*29+p.tdiv e.len*53:=V;obtain⟨q0,q1⟩:=Lf (d:=64) K bd;rw[aP (b:=Int.tdiv _ 64) V V];have hX:=Sp (f:=v*131+u*1117+p*29+p.tdiv e.len*53) (b:=(v*131+u*1117+p*29+p.tdiv e.len*53).tdiv 64) ⟨K,V⟩ ⟨q0,V⟩;obtain⟨z0,z1⟩:=Py hX J;exact R _ z0 (Or.inl z1)
def jw{d:O}(h:Rd c d P m)(o:P<=10000000000000000){s:O}{b:List Int}(f:ar (bA [c] m) s b)(q:0<b.length):
 aN bY 84 [vp c 0,O.v s] m λv i=>∃a:Int,v=vi a/\a∈b/\Rd c d (P+1) i/\Fz [c] m i:=by
 apply wC (c,0)
 have r:=f.len
 refine(bO h o (s.len:Int)).mono λv u⟨a,j,p,t,n,e⟩=>⟨a,j,p,V,?_⟩
 obtain⟨x,g⟩:=ag (l:=b) (k:=a.toNat) V
 exact⟨x,(dP.1 ((e.cJ (λ_ h=>h)) _ _ _ (f.u g))).2,x,rfl,au g,n,e⟩
end
section
variable{d:List Nat}{c:I}
def _root_.Go.Vc.Gr.set{α:Type}{d X:List Nat}{u c:I}{A f:Nat}{R:I->List Ce->α->Prop}{s:O}{z:List α}(x:mK f R)(h:Gr d u c A f R s z)(hf:Fz X u c){k:Nat}(K:k<z.length){cs:List Ce}{a:α}(G:R (bA (s.F::d) c) cs a):
 fm c s.F (s.off+k*f) f/\Gr d u (aj c s.F (s.off+k*f) cs) A f R s (z.set k a)/\Fz X u (aj c s.F (s.off+k*f) cs)/\(∀g,g≠s.F->(aj c s.F (s.off+k*f) cs)[g]? =c[g]?):=by
 have hy:=h.aY
 obtain⟨D,e,F,j⟩:=h
 have ab:∀g,g≠s.F->(aj c s.F (s.off+k*f) cs)[g]? =c[g]? :=λg hb=>bh _ _ _ _ hb
 obtain⟨g,i,tail,v,T,B,U,W⟩:=F.u.resolve_left D
 have J:=x.len G
 obtain⟨n,y⟩:=ag (l:=e) (k:=k) (by rw[j.len];exact K)
 have af:=j.size n (au y)
 have P:s.off+k*f=k*f:=by rw[v];simp
 have H:s.F=g:=by rw[v];rfl
 have L:=ax y
 have Q:e=e.take k++n::e.drop (k+1):=by
  have w:=List.getElem?_eq_some_iff.1 y;obtain⟨Z,h7⟩:=w;rw[<-h7,<-oD Z,de]
 have ad:(e.take k).flatten.length=k*f:=by rw[cX λi p=>j.size i (cT p),fY,iR V]
 have ac:e.set k cs=e.take k++cs::e.drop (k+1):=by
  rw[MA,aq L]
 have aa:iE (e.flatten++tail) (k*f) cs=(e.set k cs).flatten++tail:=by
  have Y:e.flatten++tail=(e.take k).flatten++(n++((e.drop (k+1)).flatten++tail)):=by
   conv=>lhs;rw[Q]
   simp
  rw[Y,<-ad,zr _ _ _ bK,ac];rw[show cs.length=n.length by omega,List.drop_left];simp
 have N:(e.set k cs).flatten.length=e.flatten.length:=by
  rw[cX (b:=f) λi p=>?_,cX j.size,gW];rcases cx p with h|h
  ·exact j.size i h
  ·rw[h];exact J
 have M:Le (bA (s.F::d) c) (bA (s.F::d) (aj c s.F (s.off+k*f) cs)):=bS E λ_ h=>h
 refine⟨?_,⟨D,e.set k cs,⟨by rw[N];exact F.len,Or.inr ⟨g,i,tail,v,T,?_,?_,W⟩⟩,⟨by simp[j.len],λi p=>?_,λS i ae q t=>?_⟩⟩,hf.aj (Or.inr hy.1) _ _,ab⟩
 ·rw[P,H]
  refine B.fm ?_
  have:(e.take k).flatten.length+n.length<=e.flatten.length:=by
   conv=>rhs;rw[Q]
   simp
  simp only[a9];omega
 ·have w:=cB.aj (m:=c) (b:=g) (r:=cs) (o:=k*f) B
  rw[P,H,<-aa];exact w
 ·rw[<-U,a9,a9,N]
 ·rcases cx p with h|h
  ·exact j.size i h
  ·rw[h];exact J
 ·by_cases C:k=S
  ·subst C
   rw[dA L]at q
   rw[dA K]at t
   simp at q t;subst q t
   exact x.le M G
  ·rw[dQ C]at q t
   exact x.le M (j.df S i ae q t)
def yG(hS:∀a∈d,a<c.size){g C R:O}{X:Int}{aA:List cq}{q:cq}{f:Nat}(s:dN (bA d c) g aA)(ha:ar (bA d c) C q.args)(hk:mo (bA d c) R q.bu)(hj:f<=aA.length)(hb:aA.length<=900000000000):
 aN bY 224 [.agg #[O.v g,vi X],vi f,nv q C R] c λag S=>∃s',ag=.agg #[O.v s',vi X]/\dN (bA d S) s' (aA.take f++[q]++aA.drop f)/\J c S:=by
 apply Cj
 simp -zeta only[aE,aD]
 intro T h e k
 obtain⟨r,m,s1,s2,s3⟩:=oF (a:=T) (b:=h) (c:=e) rfl rfl rfl
 have z:J e k:=J.push _ _
 have s4:k.size=e.size+1:=by simp[k]
 have g0:GS (h.size::d) e k (.mk e.size 0 0 0) []:=GS.new _ _
 clear_value k
 clear_value e
 have u4:=r.trans z
 have Q:=s.len
 have aj:=s.cap
 have P:∀a∈[h.size,T.size,c.size],a<k.size:=λa b=>z.lt (m a b)
 have H:∀{M:I}{F:Nat},J c M->c.size<=F->Le (bA d c) (bA (F::h.size::d) M):=λxx ah=>xx.bA λa b=>by
  simp only[aS]at b;rcases b with l|l|l
  ·exact Or.inr V
  ·exact Or.inr V
  ·exact Or.inl l
 have e0:Int.toNat (0:Int)=0:=rfl
 have ej:Int.toNat (f:Int)=f:=V
 have el:Int.toNat (g.len:Int)=g.len:=V
 rw[e0,ej,el]
 refine⟨V,V,V,?_⟩
 have ac:dN (bA (e.size::h.size::d) k) (g.cut 0 f 5) (aA.take f):=by simpa using(s.le (H (F:=e.size) u4 V)).It (i:=0) (dH _) hj
 refine GS.all g0 (z.fz []) ac bK λY y K G z1 q1=>⟨λa b=>q1 a (P a b) (by have:=m a b;simp;omega),V,V,V,?_⟩
 intro U
 have t:J y U:=J.push _ _
 have y1:=K.aY
 have n:J e y:=G.ext
 have A:∀o,D U c.size o=D y c.size o:=λo=>aI (t.same _ (by have:=P c.size E;omega)) o
 refine⟨A 1,A 0,?_⟩
 refine GS.jK (x:=q) K G (ha.le (H (F:=Y.F) (r.trans n) V)) (hk.le (H (F:=Y.F) (r.trans n) V)) bK λZ W L v z2 q2=>⟨J.mU (n.trans t) v.ext (λa b=>by have:=m a b;omega),?_⟩
 have p:J e W:=v.ext
 have y2:=L.aY
 have u:∀{M B:I},J e M->J e B->∀o,D B c.size o=D M c.size o:=λaa h' o=>aI (by rw[h'.same _ (m _ E),aa.same _ (m _ E)]) o
 refine⟨u (n.trans t) p 1,u (n.trans t) p 0,?_⟩
 have ae:dN (bA (Z.F::h.size::d) W) (g.cut f g.len 5) (aA.drop f):=by
  have:=(s.le (H (F:=Z.F) (r.trans p) V)).It (i:=f) (j:=g.len) V V;rwa[Q,bZ (ad _),<-Q]at this
 refine GS.all L v ae bK λr3 m8 N w z3 q3=>⟨J.mU p w.ext m,u p w.ext 1,?_⟩
 intro m9
 have y3:=N.aY
 have ab:∀a∈h.size::d,a<e.size:=λa b=>by
  rcases List.mem_cons.1 b with l|l
  ·omega
  ·have:=hS a l;omega
 refine⟨r3,rfl,?_,(r.trans w.ext).aj V _ _⟩
 have hD:=N.done ft.mono ab bd bK
 have af:Le (bA (h.size::d) m8) (bA d m9):=bS E λa b=>ai _ b
 exact dN.le af (by simpa[eH]using hD)
def Cw(G:∀b∈d,b<c.size){u R p:O}{B:List bq}{x:List fD}{q:fD}{n:Nat}{l:Bk}(i:dJ (bA d c) u R B x)(K:x[n]? =some q)(h3:q.params.length<=3/\q.cW.length<=3)(af:dN (bA d c) p l.aA):
 sW 226 [.agg #[O.v u,O.v R],vi n,.agg #[O.v p,vi l.aR]] c d B λag=>ag=x.set n ⟨q.params,q.cW,q.aR,l⟩:=by
 apply vw
 simp -zeta only[aE,aD]
 intro L h g j
 obtain⟨r,o,s1,s2,s3⟩:=oF (a:=L) (b:=h) (c:=g) rfl rfl rfl
 have z:J g j:=J.push _ _
 have s4:j.size=g.size+1:=by simp[j]
 have g0:GR (h.size::d) g j (.mk g.size 0 0 0) []:=Gr.new _ (ad _) _ _ _
 clear_value j
 clear_value g
 have u4:=r.trans z
 have am:=i.gQ.len;have al:=i.mN
 have aj:=ax K
 have ac:∀b∈[h.size,L.size,c.size],b<j.size:=λb e=>z.lt (o b e)
 have H:∀{M:I}{A:Nat},J c M->c.size<=A->Le (bA d c) (bA (A::h.size::d) M):=λxx ah=>xx.bA λb e=>by
  simp only[aS]at e;rcases e with f|f|f
  ·exact Or.inr V
  ·exact Or.inr V
  ·exact Or.inl f
 refine Gr.all (g:=[.s .nil,.s .nil,.i 0,.s .nil,.i 0]) gH.mono bd g0 (z.fz []) (i.gQ.le (H (A:=g.size) u4 V)) bK λm w v C z1 q1=>⟨λb e=>q1 b (ac b e) (by have:=o b e;simp;omega),V,V,?_⟩
 simp only[dT]at v
 have y:J g w:=C.ext
 have y1:=v.aY
 obtain⟨an,ao,t,X,Y,c3,Z,e1,e2,e3,e4⟩:=(i.gQ.le (H (A:=m.F) (r.trans y) V)).u K
 have fq:∀{U:Value}{t P:Nat},D (bA (m.F::h.size::d) w) t P=some U->D w t P=some U:=λaa=>(dP.1 aa).2
 refine⟨_,fq Z,_,fq e1,_,fq e2,_,fq e3,_,fq e4,?_⟩
 have z5:=y.size
 refine(vJ (b:=m.F::h.size::d) (λb e=>?_) (X.le (bt _ _)) (Y.le (bt _ _)) V).mono λrv m6⟨Q,T,f,h1,h2,s⟩=>?_
 ·simp only[aS]at e
  rcases e with f|f|f
  ·omega
  ·omega
  ·have:=G b f;omega
 subst f
 have F:=v.ext gH.mono s
 have ak:=F.len bd
 obtain⟨wr,g3,f3,q3⟩:=Gr.set (k:=n) (cs:=[.s Q,.s T,.i q.aR,.s p,.i l.aR]) (a:=⟨q.params,q.cW,q.aR,l⟩) gH.mono F (C.then s) V ⟨Q,T,p,rfl,h1,h2,af.le (H (A:=m.F) ((r.trans y).trans s) V)⟩
 refine⟨λb e=>s.same b (by have:=o b e;omega),_,_,_,_,_,rfl,V,V,wr,?_⟩
 intro m7
 refine⟨λb e=>q3 b (by have:=o b e;omega),?_⟩
 intro N
 have ab:∀b∈h.size::d,b<g.size:=λb e=>by
  rcases List.mem_cons.1 e with f|f
  ·omega
  ·have:=G b f;omega
 have ae:Le (bA (h.size::d) m7) (bA d N):=bS E λb e=>ai _ e
 have W:J c N:=(r.trans f3.ext).aj V _ _
 exact⟨u,m,_,rfl,⟨i.aT.le (W.cJ _),wV.le ae (g3.done gH.mono ab bd bK),i.types,bK⟩,rfl,W⟩
end
def Rk{c:List bq}{f b:Nat}{l:List cq}(h:WL c f True b l){j:Nat}{a v:Int}(e:14<=a/\a<=17)(m:0<=v/\v<((b+dc (l.take j):Nat):Int)):
 WL c f True b (l.take j++[dX a v]++l.drop j)/\dc (l.take j++[dX a v]++l.drop j)=dc l/\sw (l.take j++[dX a v]++l.drop j)=sw l+2:=by
 have d:dc [dX a v]=0:=jf e.1 [v]
 have g:sw [dX a v]=2:=mL a [v]
 have i:=cr (l.take j) (l.drop j)
 have k:=db (l.take j) (l.drop j)
 rw[de]at i k
 refine⟨((h.take j).xK (Bh e m)).append ?_,?_,?_⟩
 ·rw[cr,d];exact h.drop j
 ·rw[cr,cr,d];omega
 ·rw[db,db,g];omega
def Qf(h:Nat)(e:List Value)(m:I)(S:List Nat)(b:Nat)(f:O)(P:Nat)(g:List bq)(Q:List fD->Prop):Prop:=
 aN bY h e m λv a=>∃d r c,v=.agg #[O.v d,O.v r]/\dJ (bA S a) d r g c/\Q c/\Rd b f P a/\Fz [b] m a
def Nw{h:List Nat}{m:I}(hS:∀o∈h,o<m.size){d P:Nat}{W:O}(aA:d∈h)(h0:Rd d W P m)(hP:P+4<=10000000000000000){A y:O}{F:List bq}{T:List fD}(hn:dJ (bA h m) A y F T){ae:Nat}(X:vS F T True ae)(hW:ae<=200000000000):
 Qf 194 [vp d 0,.agg #[O.v A,O.v y]] m h d W (P+4) F λaa=>vS F aa True (ae+4):=by
 apply Ho (d,0)
 simp -zeta only[aE,aD,bN]
 intro f ak
 obtain⟨x2,hl⟩:=di (a:=f) (c:=ak) rfl rfl
 have s1:f.size=m.size+1:=by simp[f]
 have s2:ak.size=m.size+2:=by simp[ak,s1]
 clear_value ak
 have b3:=hn.gQ.len;have b2:=hn.mN
 have b4:=h0.lt
 have nb:∀a∈[f.size,m.size],a<ak.size/\a∉[d]:=λa c=>⟨hl a c,by have:=hl a c;simp at c⊢;omega⟩
 have Du:vS F T True (ae+4):=⟨X.gR,λq L=>let⟨g,a,o,e⟩:=X.df q L;⟨g,a,o,V⟩⟩
 refine(bO (h0.ext x2) V (y.len:Int)).mono λp g⟨af,e,f0,f1,h3,z3⟩=>⟨z3.da nb,af,e,?_⟩
 have u3:Fz [d] m g:=(x2.fz _).trans z3
 have bV:af<(T.length:Int):=by have:=X.gR;omega
 obtain⟨q,L⟩:=ag (l:=T) (k:=af.toNat) V
 obtain⟨aM,aL,bn,hw⟩:=X.df q (au L)
 have Hn:∀{M:I},Fz [d] m M->dJ (bA h M) A y F T:=λs=>hn.le (s.cJ λa c=>by simp at c;subst c;exact aA)
 have HS:∀{M:I}(bb:Nat),m.size<=bb->Fz [d] m M->Le (bA h m) (bA (bb::f.size::h) M):=λbb bP gg=>gg.bA (λa c=>by simp at c;subst c;exact aA) λo t=>by
  simp only[aS]at t;rcases t with e|e|e
  ·exact Or.inr V
  ·exact Or.inr V
  ·exact Or.inl e
 have cl:=z3.size
 obtain⟨ce,cg,a,c1,c2,c3,e0,e1,e2,e3,e4⟩:=(hn.le (HS g.size V u3)).gQ.u L
 have fq:∀{M:I}{h:List Nat}{p:Value}{a R:Nat},D (bA h M) a R=some p->D M a R=some p:=λH=>(dP.1 H).2
 refine⟨f0,V,a,fq e3,q.body.aR,fq e4,?_⟩
 intro m4 m5
 have x5:J g m5:=(J.push g _).aj (ad _) _ _
 have s5:m5.size=g.size+1:=by simp[m5,m4,az]
 clear_value m5
 have bQ:=c3.len
 have b0:=c3.fL
 have bR:=Bk.kN q.body
 have b5:=eW q.body.aA
 have ay:∀a∈[g.size,f.size,m.size],a<m5.size/\a∉[d]:=λa c=>by simp at c⊢;omega
 rw[aP V V]
 refine(bO (h3.ext x5) V _).mono λp m6⟨N,e,j0,j1,h6,z6⟩=>⟨z6.da ay,N,e,?_⟩
 have u6:Fz [d] m m6:=(u3.then x5).trans z6
 have bG:=z6.size
 have be:=(Hn u6).le (bt _ _)
 obtain⟨fn,a5⟩:∃fn:Nat,af=fn:=⟨af.toNat,V⟩
 subst a5
 simp only[rO]at L
 have ap:∀a∈[g.size,f.size,m.size],a<m6.size/\a∉[d]:=λa c=>⟨aJ (ay a c).1 bG,(ay a c).2⟩
 have aR:∀{M:I},Rd d W (P+4) M->Fz [d] m M->∃d' Z aa,Value.agg #[O.v A,O.v y]=.agg #[O.v d',O.v Z]/\dJ (bA h (aj M f.size 0 [.s A,.s y])) d' Z F aa/\vS F aa True (ae+4)/\Rd d W (P+4) (aj M f.size 0 [.s A,.s y])/\Fz [d] m (aj M f.size 0 [.s A,.s y]):=λhr s=>
  have g':=s.aj (b:=f.size) (Or.inr V) 0 [.s A,.s y]
  ⟨A,y,T,rfl,Hn g',Du,h0.aj hr s V _ _,g'⟩
 refine(Ca be X hW L V).mono λp G⟨lb,ok,e,C,hA⟩=>⟨C.da λa c=>(ap a c).1,(lb,0),ok,e,λ_=>?_,λbg=>?_⟩
 ·intro m8
  exact aR ((h6.ext C).mono V) (u6.then C)
 obtain⟨_,jl,ro,sl,ax,b_,h7,i7⟩:=hA (by simpa using bg)
 intro m8
 have x8:J G m8:=J.push _ _
 have g8:GI h G m8 (.mk G.size 0 0 0) []:=GI.nil h G
 clear_value m8
 have z7:=C.size
 have bT:=qT q.body.aA
 have a4:=Qw q.body.aA N.toNat
 have N0:=i7.len 0 bd
 have u7:Fz [d] m G:=u6.then C
 have aH:∀o∈h,o<G.size:=λo t=>aJ (hS o t) u7.size
 refine dC (n:=(ax 0).length) V (λar ab M=>J G M/\∃Q,GI h G M ab Q/\Q.length<=ar/\∀w∈Q,0<=w/\w<(((ax 0).length:Nat):Int)) ⟨x8,[],g8,ad _,E⟩ ?_
 rintro ar ab m9 bJ μ bY ⟨z,Q,s,b1,al⟩ aF
 have h9:=h7.ext z
 have l0:=h9.len (k:=0) bd
 have aq:∀a∈[g.size,f.size,m.size],a<m9.size/\a∉[d]:=λa c=>⟨z.lt (C.lt (ap a c).1),(ap a c).2⟩
 refine⟨_,h9.cy (k:=0) bd,λba=>?_,λbW=>?_⟩
 ·simp only[ao]at ba
  obtain⟨w,i⟩:=ag (l:=ax 0) (k:=ar) V
  refine⟨_,h9.cy (k:=0) bd,V,V,w,h9.u bd V i,λ_=>?_,λ_=>aF V _ _ ⟨z,Q,s,V,al⟩⟩
  refine(qC h9 i7 V (v:=(ar:Int)) V V).mono λp aC⟨bb,e,u⟩=>⟨u.da λa c=>(aq a c).1,bb,e,λ_=>?_,λ_=>aF V _ _ ⟨z.trans u,Q,s.ext u,V,al⟩⟩
  intro Y
  have gy:=s.aY
  refine GI.jK (s.ext u) ((z.trans u).fz []) aH V λZ bp K B _ U=>⟨J.mU ((z.trans u).aM _) B.ext (λa c=>C.lt (ap a c).1),aF V _ _ ⟨B.ext,_,K,bK,λw i=>?_⟩⟩
  rcases List.mem_append.1 i with i|i
  ·exact al w i
  ·simp at i;omega
 ·have bX:=s.len bd
  have u9:Fz [d] m m9:=u7.then z
  have r9:Rd d W (P+2) m9:=(h6.ext (C.trans z)).mono V
  refine⟨λ_=>?_,λbf=>?_⟩
  ·intro aC
   exact aR (r9.mono V) u9
  simp only[an]at bf
  have gy:=s.aY
  have gb:ab.F∉[d]:=by simp;have:=u7.size;omega
  refine(bO r9 V (ab.len:Int)).mono λp aC⟨aB,e,i0,i1,aZ,vP⟩=>⟨vP.da aq,aB,e,i0,V,?_⟩
  obtain⟨w,aQ⟩:=ag (l:=Q) (k:=aB.toNat) V
  obtain⟨w0,w1⟩:=al w (au aQ)
  have a6:D m9 ab.F (ab.off+aB.toNat*1)=some (vi w):=((s.done aH V).le (bt _ _)).u aQ
  refine⟨w,(aI (vP.same _ gy.2 gb) _).trans a6,?_⟩
  have bv:=u9.trans vP
  have cm:=z.size;have bH:=vP.size
  have aK:∀a∈[g.size,f.size,m.size],a<aC.size/\a∉[d]:=λa c=>⟨aJ (aq a c).1 bH,(aq a c).2⟩
  have ew:cK (cK ((a.len:Int) -N)+1)=(a.len:Int) -N+1:=by rw[aP (b:=(a.len:Int) -N) V V,aP V V]
  rw[ew]
  refine(bO aZ V _).mono λp Y⟨i2,e,b6,b7,a0,aw⟩=>⟨aw.da aK,i2,e,?_⟩
  have aT:=bv.trans aw
  have bI:=aw.size
  have am:∀a∈[g.size,f.size,m.size],a<Y.size:=λa c=>aJ (aK a c).1 bI
  have ah:∀{M:I},Y.size<=M.size->∀o∈g.size::f.size::h,o<M.size:=λhz o t=>by
   simp only[aS]at t;have h1:=am g.size E;have h2:=am f.size E;rcases t with e|e|e
   ·omega
   ·omega
   ·have:=hS o e;have:=aT.size;omega
  have bx:Fz [d] g Y:=(((((x5.fz _).trans z6).then C).then z).trans vP).trans aw
  have a3:=c3.le (bx.cJ λo t=>by simp at t;subst t;simp[aA])
  obtain⟨i,a7⟩:∃i:Nat,N=i:=⟨N.toNat,V⟩
  obtain⟨u,a_⟩:∃u:Nat,i2=u:=⟨i2.toNat,V⟩
  subst a7 a_
  have bm:i+u<=q.body.aA.length:=V
  have aY:cK ((i:Int)+(u:Int))=((i+u:Nat):Int):=by rw[aP V V];omega
  simp only[rO]at N0 a4
  obtain⟨bo,r0,r1⟩:=bn.bo
  have bU:dc (q.body.aA.take i)<=dc (q.body.aA.take (i+u)):=by
   have:=Qw (q.body.aA.take (i+u)) i;rwa[JT,iR V]at this
  obtain⟨bC,bz,bE⟩:=Rk (j:=i+u) (a:=15) (v:=w) bo bd ⟨w0,V⟩
  have bl:(q.body.aA.take (i+u)++[dX 15 w]++q.body.aA.drop (i+u)).take i=q.body.aA.take i:=by
   rw[eH,lW bK,JT,iR V]
  obtain⟨bD,bB,bF⟩:=Rk (j:=i) (a:=14) (v:=w) bC bd ⟨w0,by rw[bl];omega⟩
  generalize aO:q.body.aA.take (i+u)++[dX 15 w]++q.body.aA.drop (i+u)=st1 at*
  have bZ:st1.length=q.body.aA.length+1:=by rw[<-aO];simp;omega
  have K:∀{M M':I},J M M'->Y.size<=M.size->∀a∈[g.size,f.size,m.size],∀R,D M' a R=D M a R:=λxx hz a c R=>aI (xx.same a (aJ (am a c) hz)) R
  have kS:∀{M M':I},J M M'->Y.size<=M.size->dV [g.size,f.size,m.size] M M':=λxx hz a c=>xx.same a (aJ (am a c) hz)
  rw[aY]
  refine(gZ (c:=g.size::f.size::h) (ah (ad _)) 15 w).mono λp bp⟨bL,b8,e,a1,a8,U⟩=>⟨kS U (ad _),_,_,_,_,_,e,K U (ad _) _ E _,K U (ad _) _ E _,?_⟩
  have aX:=U.size
  refine(yG (d:=g.size::f.size::h) (X:=q.body.aR) (q:=dX 15 w) (ah aX) (a3.le (U.cJ _)) a1 a8 bm V).mono λp br⟨bu,e,aN,av⟩=>⟨kS av aX,_,_,e,?_⟩
  rw[aO]at aN
  intro ai
  have ch:=av.size
  have ci:ai.size=br.size:=az _ _ _ _
  have aU:=(aT.then U).then av
  have bw:Fz [d] m ai:=aU.aj (Or.inr V) _ _
  have bs:Rd d W (P+2+1+1) ai:=h0.aj ((a0.ext U).ext av) aU V _ _
  have bj:dN (bA (g.size::f.size::h) ai) bu st1:=aN.le (bS E λ_ H=>H)
  clear_value ai
  refine(gZ (c:=g.size::f.size::h) (ah V) 14 w).mono λp ca⟨bM,b9,e,a2,a9,B⟩=>⟨kS B V,_,_,_,_,_,e,K B V _ E _,K B V _ E _,K B V _ E _,K B V _ E _,?_⟩
  have cj:=B.size
  refine(yG (d:=g.size::f.size::h) (X:=q.body.aR) (q:=dX 14 w) (ah V) (bj.le (B.cJ _)) a2 a9 (f:=i) V V).mono λp cb⟨cf,e,bk,ac⟩=>⟨kS ac V,_,_,e,K ac V _ E _,K ac V _ E _,?_⟩
  have ck:=ac.size
  have aV:=(bw.then B).then ac
  refine(Cw (d:=g.size::f.size::h) (ah V) (l:=.mk (st1.take i++[dX 14 w]++st1.drop i) q.body.aR) (hn.le (HS g.size V aV)) L ⟨aM,aL⟩ bk).mono λp cc⟨d',Z,aa,e,bc,bi,aG⟩=>⟨kS aG V,d',Z,e,?_⟩
  intro cd
  have aW:=aV.then aG
  refine⟨d',Z,aa,rfl,bc.le (bS E λo t=>by simp[t]),?_,h0.aj (((bs.ext B).ext ac).ext aG) aW V _ _,aW.aj (Or.inr V) _ _⟩
  subst bi
  refine⟨by simp;exact X.gR,λq' bh=>?_⟩
  rw[gW]
  rcases cx bh with H|H
  ·exact Du.df q' H
  ·subst H
   refine⟨aM,aL,.of bD ⟨r0,by rw[bB,bz];exact r1⟩,?_⟩
   show Bk.w (.mk _ _)<=_
   rw[Bk.oV,bF,bE];omega
section
variable{f:I}{t:O}{d:Bk}{j e:Int}{g:List Nat}{p h c:Nat}
def oc(o:dN f t d.aA):qM 273 [.agg #[O.v t,vi d.aR]] f λc=>0<=c/\c<=d.aA.length/\∀(i:Nat)(e:cq),d.aA[i]? =some e->(i:Int)<c->14<=e.op/\e.op<=17:=by
 apply wu;simp -zeta only[aE,aD];intro a;have D:J f a:=J.push _ _;have y:∀s∈[f.size],s<a.size:=by simp[a]
 clear_value a;have z:=o.len;refine dO (n:=d.aA.length) (z▸o.fL) (λc M=>J a M/\∀(i:Nat)(e:cq),d.aA[i]? =some e->i<c->14<=e.op/\e.op<=17) ⟨J.aC _,λi e _ b=>V⟩ ?_;rintro c M H μ P ⟨r,q⟩ B
 have u:=D.trans r;have R:∀{p:I},J f p->∃m:Int,vi (c:Int)=vi m/\(0<=m/\m<=d.aA.length/\∀(i:Nat)(e:cq),d.aA[i]? =some e->(i:Int)<m->14<=e.op/\e.op<=17)/\J f p:=λF=>⟨c,rfl,⟨V,V,λi e g b=>q i e g V⟩,F⟩;refine⟨λb=>?_,λb=>R u⟩;simp only[ao]at b;obtain⟨e,g⟩:=ag (l:=d.aA) (k:=c) V;obtain⟨h,S,L,Q,w,_⟩:=o.u g;refine⟨V,V,_,u.D w,?_⟩;refine(rq e.op M).aG r y λK T x E C=>⟨_,rfl,λA=>B V _ ⟨C,λi G j N=>?_⟩,λ_=>R (u.trans E)⟩;by_cases v:i=c
 ·subst v;rw[g]at j;simp at j;subst j;exact x.1 A
 ·exact q i G j V
def AQ(b:dN f t d.aA){y:Int}(Q:0<=j/\j<=d.aA.length)(B:∀(w:Nat)(s:cq),d.aA[w]? =some s->(w:Int)<j->0<s.args.length):
 qM 274 [.agg #[O.v t,vi d.aR],vi j,vi y,vi e] f λc=>-1<=c/\(0<=c->c<j/\∃s:cq,d.aA[c.toNat]? =some s/\s.op=y/\s.args[0]? =some e):=by
 apply Ea
 simp -zeta only[aE,aD]
 intro i
 have D:J f i:=J.push _ _
 clear_value i
 have R:=b.len
 have P:=b.fL
 obtain⟨m,C⟩:∃m:Nat,j=m:=⟨j.toNat,V⟩
 subst C
 refine dO (n:=m) V (λc M=>J i M) (J.aC _) ?_
 rintro c M I μ L o x
 have u:=D.trans o
 refine⟨λa=>?_,λa=>⟨-1,rfl,⟨V,λa=>V⟩,u⟩⟩
 simp only[ao]at a
 obtain⟨s,g⟩:=ag (l:=d.aA) (k:=c) V
 obtain⟨h,S,p,N,z,F,G,A,H⟩:=b.u g
 have K:=p.len
 have:=B c s g V
 obtain⟨E,v⟩:=ag (l:=s.args) (k:=0) V
 refine⟨V,V,_,u.D z,λq=>⟨V,V,_,u.D A,bd,V,E,(p.ext u).u v,λr=>?_,λ_=>x V _ o⟩,λ_=>x V _ o⟩
 simp only[aL]at q r
 refine⟨c,rfl,⟨V,λ_=>⟨V,s,?_,q,by rw[<-r];exact v⟩⟩,u⟩
 simpa using g
def Mf(g:dN f t d.aA){b:Int}(E:0<=b/\b<=d.aA.length):qM 307 [.agg #[O.v t,vi d.aR],vi b,vi j] f λc=>-1<=c/\c<d.aA.length:=by
 apply Fk;simp -zeta only[aE,aD];intro i;have y:J f i:=J.push _ _;clear_value i;have v:=g.len;obtain⟨e,s⟩:∃e:Nat,b=e:=⟨b.toNat,V⟩;subst s;refine SW (n:=d.aA.length) (c:=e) V (v▸g.fL) (λc M=>J i M) (J.aC _) ?_;rintro c M I μ _ C o x
 have u:=y.trans o;refine⟨λm=>?_,λm=>⟨-1,rfl,⟨V,V⟩,u⟩⟩;simp only[ao]at m;obtain⟨G,w⟩:=ag (l:=d.aA) (k:=c) V;obtain⟨h,F,B,D,p,z,q,r,A⟩:=g.u w;have N:=x V _ o
 exact⟨V,V,_,u.D p,λ_=>⟨V,V,_,u.D q,λ_=>⟨V,V,_,u.D r,λ_=>⟨c,rfl,⟨V,V⟩,u⟩,λ_=>N⟩,λ_=>N⟩,λ_=>N⟩
def Fm(d:Bk)(hS:∀q∈g,q<f.size)(F:dN f t d.aA)(hw:d.w<=1000000000000):aN bY 285 [.agg #[O.v t,vi d.aR]] f λak H=>∃s,ak=.agg #[O.v s,vi d.aR]/\GS g f H s d.aA/\J f H:=by
 obtain⟨aA,v⟩:=d;rw[Bk.oV]at hw;simp only[Bk.jd,Bk.iy]at*;apply pE;simp -zeta only[aE,aD];intro j b h I u;obtain⟨N,D⟩:=di (a:=j) (c:=b) rfl rfl;have s0:j.size=f.size+1:=by simp[j]
 have s1:b.size=f.size+2:=by simp[b,s0]
 have s2:h.size=b.size+1:=by simp[h]
 have s3:I.size=h.size+1:=by simp[I]
 have P:J h u:=(J.push h _).aj (ad _) _ _;have al:J b u:=(J.push b _).trans P;have z:GS (h.size::j.size::g) b u (.mk b.size 0 0 0) []:=(GS.new _ b).ext ft.mono P;have R:cB u h.size cO [.s (.mk b.size 0 0 0),.i v]:=cB.aj (m:=I) (o:=0) (r:=[.s (.mk b.size 0 0 0),.i v]) (cB.push h _ _);clear_value u;have ab:∀q∈j.size::g,q<b.size:=bG hS N.size (D _ E);have ai:=F.len;have an:=eW aA;refine dO (n:=aA.length) (ai▸F.fL) (λc M=>J b M/\∃s,GS (h.size::j.size::g) b M s (aA.take c)/\cB M h.size cO [.s s,.i v]) ⟨al,_,z,R⟩ ?_;rintro c K am μ hk ⟨y,s,x,B⟩ aj
 have p:=N.trans y;have ah:∀d∈[j.size,f.size],d<K.size:=λd A=>y.lt (D d A);have hy:=x.aY;have z5:=y.size;have M:=B.lt;refine dit (λaa=>?_) λaa=>?_
 ·obtain⟨e,G⟩:=ag (l:=aA) (k:=c) V;obtain⟨pa,pk,ha,af,z,Z,g2,g3,g4⟩:=F.u G;have ao:=Ml G;refine⟨s,B.cy 0,V,V,_,p.D z,_,p.D Z,_,p.D g2,_,p.D g3,_,p.D g4,?_⟩;refine(vG (e:=s.F::h.size::j.size::g) (bG (bG ab z5 M) (ad _) hy.2) (ha.ext p) (af.le p.le) V (λd _=>ua d)).aG (J.aC K) ah λT U x' L ac ae W w _=>⟨_,_,_,_,_,rfl,aI (w.same _ M) _,?_⟩;subst W;intro m7;refine Gr.box (g:=[.i 0,.i 0,.i 0,.s .nil,.s .nil]) (j:=0) (o:=[.s s,.i v]) (y:=e) ft.mono bd (x.ext ft.mono w) ((y.trans w).fz []) ⟨T,U,rfl,ac,ae⟩ bK (B.ext w) E bd ⟨V,E⟩ (λq C=>by have Q:=D q C;have X:=w.size;omega) λr' H Y Q X z' q'=>aj V _ ⟨X.ext,r',?_,Q⟩
  rw[bH G];exact Y
 ·rw[bZ V]at x;refine⟨s,B.cy 0,v,B.cy 1,?_⟩;intro L;have w:Fz [j.size] K L:=(Fz.aC _ _).aj (Or.inl E) _ _;have G:GS g b L s aA:=x.re ft.mono w E bK λq C=>Or.inl (by simp[C]);exact⟨s,rfl,Gr.cG ft.mono G (λd A=>Or.inl A) V,p.aj V _ _⟩
def Rl{d:List bq}{b:Prop}{l:List cq}(i:WL d p b h l){e a:cq}(f:l[c]? =some e)(q:WS d p b (h+dc (l.take c)) a)(n:dn a=dn e):
 WL d p b h (l.set c a)/\dc (l.set c a)=dc l/\sw (l.set c a)+e.w=sw l+a.w:=by
 have o:=ax f
 have j:l.set c a=l.take c++([a]++l.drop (c+1)):=by rw[MA,aq o];rfl
 have g:l=l.take c++([e]++l.drop (c+1)):=by
  obtain⟨k,m⟩:=List.getElem?_eq_some_iff.1 f;rw[<-m];show l=l.take c++(l[c]::l.drop (c+1));rw[<-oD k,de]
 have r:dc l=dc (l.take c)+(dn e+dc (l.drop (c+1))):=by
  conv=>lhs;rw[g]
  rw[cr,cr,jD,qU];omega
 have s:sw l=sw (l.take c)+(e.w+sw (l.drop (c+1))):=by
  conv=>lhs;rw[g]
  rw[db,db,ln,tr];omega
 rw[j]
 refine⟨(i.take c).append ((WL.kj q).append ?_),?_,?_⟩
 ·have:=i.drop (c+1)
  rw[oY f]at this
  rw[jD,qU,n,iJ,dB];exact this
 ·rw[cr,cr,jD,qU];omega
 ·rw[db,db,ln,tr];omega
def _root_.Go.Vc.Gr.cells{α:Type}{u:I}{o d:Nat}{R:I->List Ce->α->Prop}{s:O}{j:List α}(p:Gr g u f o d R s j){e:α}(i:j[c]? =some e):∃a,R (bA (s.F::g) f) a e/\fQ f s.F (s.off+c*d) a:=by
 obtain⟨v,n,q,b⟩:=p;obtain⟨a,h⟩:=ag (l:=n) (k:=c) (by rw[b.len];exact ax i);refine⟨a,b.df c a e h i,λt m r=>?_⟩;have:=q.je (c*d+t) m (gY b.size h r);rwa[<-dB]at this
def HH(hS:∀c∈g,c<f.size)(z:dN f t d.aA){U:List bq}(ap:WB U p True h d)(hw:d.w<=1000000000000)(hx:0<=e/\e<(h:Int))(a6:h<=1000000000000)(j:Int):
 aN bY 272 [.agg #[O.v t,vi d.aR],vi e,vi j] f λab m'=>∃s o,ab=.agg #[O.v s,vi o.aR]/\dN m' s o.aA/\(dN (bA g f) t d.aA->dN (bA g m') s o.aA)/\(WB U p True h o/\o.w<=d.w)/\J f m':=by
 apply Ap
 simp -zeta only[aE,aD]
 intro m w
 obtain⟨F,r⟩:=di (a:=m) (c:=w) rfl rfl
 have s1:m.size=f.size+1:=by simp[m]
 have s2:w.size=f.size+2:=by simp[w,s1]
 clear_value w
 obtain⟨aa,aU⟩:=ap.bo
 have G:∀{af M':I},J w af->J w M'->∀M,D M' f.size M=D af f.size M:=λq h' M=>aI (by rw[h'.same _ (r _ E),q.same _ (r _ E)]) M
 refine(oc (z.le F.le)).aG (J.aC w) r λn1 m3 Y T _=>⟨_,rfl,G (J.aC _) T _,G (J.aC _) T _,?_⟩
 refine(AQ (z.le (F.trans T).le) (y:=16) (e:=e) ⟨Y.1,Y.2.1⟩ λaq s hi aO=>?_).aG T r λn2 m4 aQ x4 P=>⟨_,rfl,?_⟩
 ·have:=Y.2.2 aq s hi aO
  have:=(aa aq s hi).dY.kj V
  omega
 refine(oc (z.le (F.trans P).le)).aG P r λn3 m5 ao x5 Q=>⟨_,rfl,G P Q _,G P Q _,?_⟩
 refine(Mf (z.le (F.trans Q).le) (j:=j) ⟨ao.1,ao.2.1⟩).aG Q r λn4 A bb x6 v6=>⟨_,rfl,?_⟩
 have u6:=F.trans v6
 have ay:∃s o,Value.agg #[O.v t,vi d.aR]=.agg #[O.v s,vi o.aR]/\dN (aj A m.size 0 [.s t,.i d.aR]) s o.aA/\(dN (bA g f) t d.aA->dN (bA g (aj A m.size 0 [.s t,.i d.aR])) s o.aA)/\(WB U p True h o/\o.w<=d.w)/\J f (aj A m.size 0 [.s t,.i d.aR]):=
  have W:=u6.aj (b:=m.size) V 0 [.s t,.i d.aR]
  ⟨t,d,rfl,z.le W.le,λq=>q.le (W.cJ _),⟨ap,ad _⟩,W⟩
 refine⟨λ_=>ay,λh2=>⟨λ_=>ay,λh4=>?_⟩⟩
 simp only[bP]at h2 h4
 have z6:=v6.size
 have al:∀c∈m.size::g,c<A.size:=λc i=>by
  rcases List.mem_cons.1 i with n|n
  ·omega
  ·have:=hS c n;omega
 refine(Fm d al (z.le u6.le) hw).mono λab L⟨N,n,g7,x7⟩=>⟨λc i=>x7.same c (by have:=r c i;omega),_,_,n,?_⟩
 intro m8 B
 have x9:J L B:=(J.push L _).aj (ad _) _ _
 have s9:B.size=L.size+1:=by simp[B,m8,az]
 clear_value B
 have y7:=g7.aY
 have z7:=x7.size
 have g9:=g7.ext ft.mono x9
 have an:∀c∈[L.size,m.size,f.size],c<B.size/\c≠N.F:=λc i=>by simp at i;omega
 refine(gZ (c:=N.F::m.size::g) (λc i=>?_) 17 e).mono λab av⟨ah,au,n,aL,aM,C⟩=>⟨λc i=>C.same c (an c i).1,_,_,_,_,_,n,aI (C.same _ V) _,?_⟩
 ·rcases List.mem_cons.1 i with n|n
  ·omega
  ·have:=al c n;omega
 have ak:=g9.ext ft.mono C
 have bh:=ak.len bd
 obtain⟨ba,so,Z,bc,a7⟩:=aQ.2 V
 have aB:J A av:=(x7.trans x9).trans C
 have aR:=ax Z
 obtain⟨a0,X,aG,aY⟩:=Gr.set (k:=n2.toNat) (cs:=[.i 17,.i 0,.i 0,.s ah,.s au]) (a:=dX 17 e) ft.mono ak (aB.fz []) aR ⟨ah,au,rfl,aL,aM⟩
 refine⟨V,V,a0,?_⟩
 intro H
 have vP:=C.size
 have bi:H.size=av.size:=az _ _ _ _
 refine⟨λc i=>aY c (an c i).2,V,V,?_⟩
 have aV:=aa _ so Z
 have w1:=aV.dY.kj (Or.inl V)
 have d1:dn (dX 17 e)=dn so:=by
  unfold dn;rw[ae (λq:nB _=>by have:=q.2;simp only[dX]at this;omega),ae (λq:nB _=>by have:=q.2;omega)]
 obtain⟨aA,a2,bk⟩:=Rl aa Z (Bh (c:=17) (v:=e) bd ⟨hx.1,V⟩) d1
 have bf:=cq.kN so
 have a9:(dX 17 e).w=2:=rfl
 obtain⟨y,hy⟩:=ag (l:=d.aA.set n2.toNat (dX 17 e)) (k:=n4.toNat) bK
 have a_:=X.len bd
 obtain⟨a5,⟨pa,pk,rfl,aS,aT⟩,kd⟩:=X.cells hy
 have e0:=kd 0 _ rfl;have e1:=kd 1 _ rfl;have e2:=kd 2 _ rfl;have e3:=kd 3 _ rfl;have e4:=kd 4 _ rfl
 refine⟨_,e0,_,e1,_,e2,_,e3,_,e4,?_⟩
 intro aW K
 have R:J H K:=(J.push H _).aj (ad _) _ _
 have bj:K.size=H.size+1:=by simp[K,aW,az]
 clear_value K
 have aJ:=X.ext ft.mono R
 have aF:cK (1+e)=1+e:=aP V V
 rw[aF]
 have aC:=(aG.then R)
 obtain⟨a1,aK,aH,aZ⟩:=Gr.set (k:=n4.toNat) (cs:=[.i y.op,.i y.bL,.i (1+e),.s pa,.s pk]) (a:=⟨y.op,y.bL,1+e,y.args,y.bu⟩) ft.mono aJ aC bK ⟨pa,pk,rfl,ar.le (R.cJ _) aS,mo.le (R.cJ _) aT⟩
 refine⟨V,V,a1,?_⟩
 intro aw
 have u:=aA _ y hy
 obtain⟨a4,a3,bl⟩:=Rl (a:=⟨y.op,y.bL,1+e,y.args,y.bu⟩) aA hy ⟨⟨u.dY.op,u.dY.args,u.dY.kj,⟨by show 0<=1+e;omega,by show 1+e<=_;omega⟩,u.dY.HO,u.dY.all,u.dY.call⟩,u.bu⟩ rfl
 refine⟨λc i=>aZ c (by simp at i;omega),?_⟩
 intro aX
 have bg:(⟨y.op,y.bL,1+e,y.args,y.bu⟩:cq).w=y.w:=rfl
 have a8:=Bk.kN d
 have be:=eW d.aA
 have ac:dN (bA (m.size::g) aw) N _:=aK.mq ft.mono (S:=m.size::g) (λi=>by
  rcases List.mem_cons.1 i with n|n
  ·omega
  ·have:=hS _ n;omega) bd bK
 have am:Le (bA (m.size::g) aw) (bA g aX):=bS E λc i=>ai _ i
 refine⟨N,.mk _ d.aR,rfl,(ac.le am).le (bt _ _),λ_=>ac.le am,⟨.of a4 (by rw[a3,a2];exact aU),?_⟩,(u6.trans aH.ext).aj V _ _⟩
 rw[Bk.oV];omega
end
def Qk(c:List bq)(d:List fD)(N:Nat):Prop:=∀(b:Bk),b.w<=N->∀(S:List Nat)(m:I),(∀a∈S,a<m.size)->∀(f r t jy:O)(l:List Int)(a:Nat),dJ m f r c d->dN m t b.aA->ar m jy l->WB c d.length True a b->a+4*b.w<=1000000000000->l.length+4*b.w<=1000000000000->
 lX 230 [.agg #[O.v f,O.v r],.agg #[O.v t,vi b.aR],O.v jy] m S λe=>WB c d.length True a e/\e.w<=b.w
def HI{K:List Nat}{m:I}(hS:∀c∈K,c<m.size){Z ak pa pk jy:O}{n:List bq}{F:List fD}{a:cq}{B:List Int}{L:Nat}(t:dJ m Z ak n F)(ha:ar m pa a.args)(hk:mo m pk a.bu)(Q:ar m jy B)(hw:WS n F.length True L a)(hb:L+4*a.w<=1000000000000)(a5:B.length+4*a.w<=1000000000000){p:Nat}{i:Bk}(ab:a.bu[p]? =some i)(ih:Qk n F i.w):
 lX 246 [.agg #[O.v Z,O.v ak],nv a pa pk,vi p,O.v jy] m K λo=>WB n F.length True (L+ze n a.op a.bL p) o/\o.w<=i.w:=by
 apply Aq
 simp -zeta only[aE,aD]
 intro af v b
 obtain⟨f,hl,s1,h,s3⟩:=oF (a:=af) (b:=v) (c:=b) rfl rfl rfl
 clear_value b
 obtain⟨ao,ht,f0,f1⟩:=hk.u ab
 have a3:=ax ab
 have a4:=hk.len
 have aZ:=ha.len
 have a8:=cq.kN a
 have a1:=uE ab
 have al:=hw.bu p i ab
 have a2:=i.Eo
 have aL:∀{M:I},J b M->∀c∈v.size::K,c<M.size:=λxx c d=>by
  have:=xx.size;rcases List.mem_cons.1 d with e|e
  ·omega
  ·have:=hS c e;omega
 have il:∀(M:I)(kp y:O)(l':List Int)(o:Bk)(Lx:List Nat),J m M->J b M->(∀c∈Lx,c<M.size)->dN M y o.aA->ar M kp l'->l'.length<=B.length+1->WB n F.length True (L+ze n a.op a.bL p) o->o.w<=i.w->
  aN bY 230 [.agg #[O.v Z,O.v ak],.agg #[O.v y,vi o.aR],O.v kp] M λz u=>dV Lx M u/\∃(h:O)(j:Bk),z=.agg #[O.v h,vi j.aR]/\∀g,g=aj u v.size 0 [.s h,.i j.aR]->∃s3 Y,(Value.agg #[O.v h,vi j.aR])=.agg #[O.v s3,vi Y.aR]/\dN (bA K g) s3 Y.aA/\(WB n F.length True (L+ze n a.op a.bL p) Y/\Y.w<=i.w)/\J m g:=λM kp y l' o Lx xm aX aK hs aQ a6 aU aT=>by
  have h3:=NY t.types a.op a.bL p
  refine(ih o aT (v.size::K) M (aL aX) Z ak y kp l' _ (t.le xm.le) hs aQ aU V V).mono λz u⟨h,j,e,aS,aM,x'⟩=>⟨x'.da aK,h,j,e,λg av=>⟨h,j,rfl,?_,⟨aM.1,V⟩,?_⟩⟩
  ·rw[av];exact aS.le (bS E λc d=>ai _ d)
  ·rw[av];exact(xm.trans x').aj V _ _
 refine⟨λN=>?_,λN=>?_⟩
 ·refine⟨V,V,_,f.D f0,_,f.D f1,?_⟩
  refine(il b jy ao B i _ f (J.aC _) hl (ht.le f.le) (Q.ext f) V al (ad _)).mono λz u⟨r,h,j,e,s⟩=>⟨r,_,_,e,?_⟩
  intro g
  exact s g rfl
 ·have N:a.op=8:=by simpa using N
  obtain⟨a0,_⟩:=hw.dY.all N
  have aY:=hw.dY.kj (Or.inr (Or.inr N))
  obtain⟨G,hy⟩:=ag (l:=a.args) (k:=0) V
  obtain⟨y0,y1⟩:=hw.dY.args G (au hy)
  refine⟨bd,V,G,(ha.ext f).u hy,V,V,_,f.D f0,_,f.D f1,?_⟩
  intro m4 w
  have x5:J b w:=(J.push b _).aj (ad _) _ _
  have s5:w.size=b.size+1:=by simp[w,m4,az]
  clear_value w
  have T:=f.trans x5
  have A:∀{M:I},J w M->∀c∈[b.size,v.size,af.size,m.size],c<M.size:=λxx c d=>by have:=xx.size;simp at d;omega
  refine(cU (Q.ext T) G).any.aG (J.aC w) (A (J.aC _)) λbb m6 q _=>⟨_,rfl,λ_=>?_,λ_=>?_⟩
  ·have U:=T.trans q
   obtain⟨cn,aO⟩:=ag (l:=bU n a.bL) (k:=p) V
   have H:∀{M M':I},J w M->J M M'->∀c∈[b.size,v.size,af.size,m.size],∀ah,D M' c ah=D M c ah:=λaa h' c d ah=>aI (h'.same c (A aa c d)) ah
   refine(fR (e:=[]) E (t.aT.le U.le) t.types a.bL).aG q (A (J.aC _)) λs7 l7 m7 ae e x7 v7=>⟨_,rfl,H q x7 _ E _,H q x7 _ E _,H q x7 _ E _,?_⟩
   subst e
   have ae:=ae.le (bt _ _)
   have l7:=ae.len
   refine⟨V,V,cn,ae.u aO,?_⟩
   refine(dk (e:=[]) E (t.aT.le ((T.trans v7).le.trans (xB _))) t.types cn).aG v7 (A (J.aC _)) λs8 l8 m8 a7 e x8 v8=>⟨_,rfl,H v7 x8 _ E _,H v7 x8 _ E _,?_⟩
   subst e
   have u8:=T.trans v8
   have z8:=v8.size
   have h3:=NY t.types a.op a.bL p
   have aw:dN (bA [b.size] m8) ao i.aA:=ht.le ((xB m).trans (u8.bA λc d=>Or.inr (by simp at d;omega)))
   refine(HH (g:=[b.size]) bK (aw.le (bt _ _)) al V (e:=G) ⟨y0,V⟩ V (s8.len:Int)).mono λz m9⟨s9,b9,e,_,an,P,x9⟩=>⟨λc d=>x9.same c (A v8 c d),_,_,e,?_⟩
   have an:=an aw
   intro C
   have v9:=v8.trans x9
   have aq:J b C:=(x5.trans v9).aj V _ _
   have ac:dN C s9 b9.aA:=(an.le (bS (a:=[b.size]) E λ_ aa=>aa)).le (bt _ _)
   have bc:C.size=m9.size:=az _ _ _ _
   have z9:=v9.size
   have R:∀{M:I},C.size<=M.size->∀c∈[b.size,v.size,af.size,m.size],c<M.size:=λaa c d=>by simp at d;omega
   clear_value C
   refine(oc ac).aG (J.aC C) (R (ad _)) λa_ a9 am aH _=>⟨_,rfl,?_⟩
   obtain⟨aV,_⟩:=P.1.bo
   refine(AQ (ac.le aH.le) (y:=17) (e:=G) ⟨am.1,am.2.1⟩ λay y hj aR=>?_).aG aH (R (ad _)) λba aW _ be W=>⟨_,rfl,λ_=>?_,λ_=>?_⟩
   ·have:=am.2.2 ay y hj aR
    have:=(aV ay y hj).dY.kj V
    omega
   ·have X:=aq.trans W
    refine(kT (S:=[]) E ((Q.ext (f.trans X)).le (xB _)) G V).aG W (R (ad _)) λaF aA aB aJ aC bf ap=>⟨_,rfl,?_⟩
    have aG:=aq.trans ap
    have aP:ar aB aF aA:=(aJ.done E (by have:=aC.2;omega)).le (bt _ _)
    refine(il aB aF s9 aA b9 _ (f.trans aG) aG (R ap.size) (ac.le ap.le) aP aC.2 P.1 P.2).mono λz u⟨r,h,j,e,s⟩=>⟨r,_,_,e,?_⟩
    intro g
    exact s g rfl
   ·have X:=aq.trans W
    refine(il aW jy s9 B b9 _ (f.trans X) X (R W.size) (ac.le W.le) (Q.ext (f.trans X)) V P.1 P.2).mono λz u⟨r,h,j,e,s⟩=>⟨r,_,_,e,?_⟩
    intro g
    exact s g rfl
  ·have U:=T.trans q
   refine(il m6 jy ao B i _ U (x5.trans q) (A q) (ht.le U.le) (Q.ext U) V al (ad _)).mono λz u⟨r,h,j,e,s⟩=>⟨r,_,_,e,?_⟩
   intro g
   exact s g rfl
section
variable{c:List fD}
def Qk.fG{b:List bq}{N a:Nat}(h:Qk b c N)(e:a<=N):Qk b c a:=λd f=>h d (bJ f e)
def DW{R:List bq}:∀Q:Nat,Qk R c Q:=by
 intro Q;induction Q with
 |zero=>intro z hb;have:=z.Eo;omega
 |succ Q w=>
 intro z hb u X hS aO a9 a_ jy a7 ak hn hs av aH aQ aX;obtain⟨aA,D⟩:=z;have an:=aH.bo;rw[Bk.oV]at*;simp only[Bk.jd,Bk.iy]at*;apply wD;simp -zeta only[aE,aD];intro Y p h f m5 N;obtain⟨x3,hl,s1,s2,s3⟩:=oF (a:=Y) (b:=p) (c:=h) rfl rfl rfl;have s4:f.size=h.size+1:=by simp[f]
 have ao:J f N:=(J.push f _).aj (ad _) _ _;have aM:J h N:=(J.push h _).trans ao;have g0:GS (f.size::p.size::u) h N (.mk h.size 0 0 0) []:=(GS.new _ h).ext ft.mono ao;have B0:cB N f.size cO [.s (.mk h.size 0 0 0),.i D]:=cB.aj (m:=m5) (o:=0) (r:=[.s (.mk h.size 0 0 0),.i D]) (cB.push f _ _);have aq:∀d∈p.size::u,d<h.size:=bG hS x3.size (hl _ E);clear_value N;clear_value h;have ay:=hs.len;have aC:=yY aA;have a1:=eW aA;refine dO (n:=aA.length) (ay▸hs.fL) (λt M=>J h M/\∃s y,GS (f.size::p.size::u) h M s y/\cB M f.size cO [.s s,.i D]/\y.length=t/\WL R c.length True ak y/\dc y=dc (aA.take t)/\sw y<=sw (aA.take t)) ⟨aM,_,[],g0,B0,rfl,WL.nil _ _ _ _,E,E⟩ ?_;rintro t M aN μ hk ⟨xM,s,y,T,F,aZ,wl,U,aG⟩ aL
 have B:=x3.trans xM;have aW:∀{v:I},h.size<=v.size->∀d∈[p.size,Y.size,X.size],d<v.size:=λC d e=>aJ (hl d e) C;have hy:=T.aY;have zM:=xM.size;have aP:=F.lt;refine dit (λC=>?_) λC=>?_
 ·obtain⟨x,H⟩:=ag (l:=aA) (k:=t) V;obtain⟨pa,pk,ha,ac,e0,e1,e2,e3,e4⟩:=hs.u H;have a4:=Ml H;have a6:=cq.kN x;have aR:=oG x.bu;have a5:=od H;have a3:=oY H;have ah:=an.1 t x H;have aU:=qT (aA.take t);have a0:=eW (aA.take t);have a2:=aC (t+1);refine⟨V,V,_,B.D e0,_,B.D e1,_,B.D e2,_,B.D e3,_,B.D e4,?_⟩;intro m7 q m9;have x8:J M q:=(J.push M _).aj (ad _) _ _;have s8:q.size=M.size+1:=by simp[q,m7,az]
  have x9:J q m9:=J.push _ _;have ap:GB (s.F::f.size::p.size::u) q m9 (.mk q.size 0 0 0) []:=GB.new _ q;clear_value m9;clear_value q;have aa:∀d∈s.F::f.size::p.size::u,d<q.size:=λd e=>by
   simp only[aS]at e;rcases e with g|g|g|g
   ·omega
   ·omega
   ·omega
   ·have:=hS d g;omega
  have ae:=ac.len;refine dC (n:=x.bu.length) (ae▸ac.fL) (λK W v=>J q v/\∃j,GB (s.F::f.size::p.size::u) q v W j/\j.length=K/\(∀(A:Nat)(z:Bk),j[A]? =some z->WB R c.length True (ak+dc (aA.take t)+ze R x.op x.bL A) z)/\bw j<=bw (x.bu.take K)) ⟨x9,[],ap,rfl,E,E⟩ ?_;rintro K W P I2 μ2 hj ⟨O,j,gk,aY,am,au⟩ aK;have G:J X P:=B.trans (x8.trans O);have yk:=gk.aY;have z2:=O.size;have af:∀{v:I},q.size<=v.size->∀d∈[M.size,p.size,Y.size,X.size],d<v.size:=λC d e=>by simp at e;omega
  refine dit (λh2=>?_) λh2=>?_
  ·obtain⟨z,Z⟩:=ag (l:=x.bu) (k:=K) V;have aT:=uE Z;have ar:=sF Z;refine(HI (K:=W.F::s.F::f.size::p.size::u) (λd e=>?_) (hn.le G.le) (ha.ext G) (ac.le G.le) (av.ext G) ah V V Z (w.fG V)).aG (J.aC P) (af z2) λss b' a8 aB al aj _=>⟨_,_,rfl,?_⟩
   ·rcases List.mem_cons.1 e with g|g
    ·omega
    ·have:=aa d g;omega
   refine GB.jK (c:=b') (gk.ext pM.mono aj) ((O.trans aj).fz []) aB V λr' v g2 f2 ba q2=>⟨J.mU ((O.trans aj).aM _) f2.ext (af (ad _)),aK V _ _ ⟨f2.ext,_,g2,bK,λA b2 w=>?_,?_⟩⟩
   ·rcases aV A j.length with ab|ab
    ·rw[aw ab]at w;exact am A b2 w
    ·rw[aF ab]at w;have:A -j.length=0:=by have:=ax w;simp at this;omega
     rw[this]at w;simp at w;subst w;have:A=K:=V;subst this;exact al.1
   ·rw[nj,sE,xe,ar];have:=al.2;omega
  ·have ab:j.length=x.bu.length:=V;rw[bZ V]at au;have X8:J M P:=x8.trans O;have Z:=F.ext X8;have G2:=T.ext ft.mono X8;refine⟨s,Z.cy 0,?_⟩;refine(bE (s.F::f.size::p.size::u) (ha.ext G) V).aG (J.aC P) (af z2) λs' l' aj ga g w _=>⟨_,rfl,aI (w.same _ V) _,aI (w.same _ V) _,aI (w.same _ V) _,aI (w.same _ Z.lt) _,?_⟩;subst g;intro al;refine Gr.box (g:=[.i 0,.i 0,.i 0,.s .nil,.s .nil]) (L:=[M.size,p.size,Y.size,X.size]) (j:=0) (z:=72) (o:=[.s s,.i D]) (y:=⟨x.op,x.bL,x.bV,x.args,j⟩) ft.mono bd (G2.ext ft.mono w) (((xM.trans X8).trans w).fz []) ⟨s',W,rfl,(ga.done (λd e=>by have:=aa d e;omega) V),mo.le (w.cJ _) (gk.done pM.mono aa bd (by show j.length<=_;omega))⟩ V (Z.ext w) E bd ⟨V,E⟩ (λd e=>by have h1:=w.size;simp at e;omega) λr' m' g' B' f' z' q'=>aL V _ ⟨f'.ext,r',_,g',B',bK,wl.xK (ah.Ng id ah.dY.bV ab am|>λC=>by rw[U];exact C),?_,?_⟩
   ·rw[cr,jD,qU,U];have g:dn (⟨x.op,x.bL,x.bV,x.args,j⟩:cq)=dn x:=rfl;omega
   ·rw[db,ln,tr];have h5:(⟨x.op,x.bL,x.bV,x.args,j⟩:cq).w=1+x.args.length+bw j:=cq.kN _;omega
 ·have ae:t=aA.length:=V;subst ae;rw[fZ]at U aG;refine⟨s,F.cy 0,D,F.cy 1,?_⟩;intro m7;have j:Le (bA (f.size::p.size::u) M) (bA u m7):=bS E λd e=>ai _ (ai _ e);have q:=T.ne F bd;refine⟨s,.mk y D,rfl,dN.le j (T.mq ft.mono (λe=>?_) bd (by show y.length<=_;omega)),⟨.of wl (by rw[U];exact an.2),by rw[Bk.oV];omega⟩,B.aj V _ _⟩;rcases List.mem_cons.1 e with g|g
  ·exact q g
  ·have:=aq _ g;omega
def Kp{f:List Nat}{e:I}(Z:∀a∈f,a<e.size){v w:O}{r:List bq}(t:dJ e v w r c){W:Nat}(hW:W<=200000000000)(hk:vS r c True W):sW 197 [.agg #[O.v v,O.v w]] e f r λL=>vS r L True W:=by
 apply DX;simp -zeta only[aE,aD];intro g a2;obtain⟨N,H⟩:=di (a:=g) (c:=a2) rfl rfl;have s1:g.size=e.size+1:=by simp[g]
 clear_value a2;have aq:=t.gQ.len;have aC:=t.mN;refine(eT (b:=g.size::f) (bG Z N.size (H _ E)) (t.le N.le).aT t.types).mono λ_ ac⟨ak,s,al,P⟩=>?_;subst s;refine⟨P.da H,_,rfl,?_⟩;intro ae ay aj;have u2:=N.trans P;obtain⟨x5,B0,g0,s3,s5⟩:=jO (b:=ae.size::g.size::f) gH.mono (d:=ac) (a:=ae) (c:=ay) (h:=aj) rfl rfl rfl;clear_value aj;have K:∀a∈[g.size,e.size],a<ac.size:=λa j=>P.lt (H a j);have aa:∀a∈g.size::f,a<ac.size:=λa j=>P.lt (bG Z N.size (H _ E) a j);refine jI (R:=λb d M=>∃v w L,Value.agg #[O.v b,O.v d]=.agg #[O.v v,O.v w]/\dJ (bA f M) v w r L/\vS r L True W/\J e M) (t:=c.length) (f:=e) (b:=f) gH.mono bd bd Z ⟨V,K _ E⟩ u2 s3 al aq V x5 B0 g0 (λ_ q=>q.params.length<=3/\q.cW.length<=3/\WB r c.length True q.params.length q.body/\q.body.w<=W) (λb o ab p h1 h2 d h i=>⟨b,o,ab,rfl,⟨h1,h2,t.types,V⟩,ET hk.gR d h,i⟩) λax M st ab aA μ am aB Q af T az=>?_
 obtain⟨q,hq⟩:=ag (l:=c) (k:=ax) am;obtain⟨ap,ao,aw,hw⟩:=hk.df q (au hq);have F:=u2.trans Q;obtain⟨aF,aG,b,c1,c2,c3,U,X,Y,z,A⟩:=t.gQ.u hq;have G:∀{x:Value}{b o:Nat},D e b o=some x->D M b o=some x:=λh=>F.D h;refine⟨st,T.cy 1,V,V,_,G U,_,G X,_,G Y,_,G z,_,G A,V,V,_,G z,_,G A,?_⟩;intro i;have hy:=af.aY;have ah:=T.lt;have zM:=Q.size;have d:J M i:=J.push _ _;have s7:i.size=M.size+1:=by simp[i]
 have an:ar i (.mk M.size 0 0 0) []:=kY _ _ _ _ _ _;clear_value i;have p:∀{x:Value}{b o:Nat},D e b o=some x->D i b o=D M b o:=λh=>by rw[d.D (G h),G h]
 have C:∀{b o:Nat},b<M.size->D i b o=D M b o:=λh=>aI (d.same _ h) _;have B:e.size<M.size:=Q.lt (K _ E);refine⟨p z,p A,C B,C B,C B,p U,p X,p Y,p z,p A,C B,C ah,?_⟩;refine(DW q.body.w q.body (ad _) (st.F::ae.size::g.size::f) i (λa j=>?_) v w b (.mk M.size 0 0 0) [] q.params.length (t.le (F.trans d).le) (c3.le (F.trans d).le) an aw V bK).aG (Q.trans d) K λss b' M1 av ai u u1=>⟨_,_,rfl,?_⟩
 ·simp only[aS]at j;rcases j with s|s|s|s
  ·omega
  ·omega
  ·have:=aa a (by simp[s]);omega
  ·have:=aa a (by simp[s]);omega
 have y:∀{x:Value}{b o:Nat},D e b o=some x->D M1 b o=D i b o:=λh=>by rw[u.D (d.D (G h)),d.D (G h)]
 refine⟨y U,y X,y Y,y z,y A,aI (u.same _ (d.lt B)) _,aI (u.same _ (d.lt ah)) _,?_⟩;exact tR (b:=g.size::f) (v:=ak) (x:=ab) aa (λa j=>by have h1:=K a j;have h2:=u1.size;omega) u1 (af.ext gH.mono (d.trans u)) (T.ext (d.trans u)) V (c1.ext (F.trans (d.trans u))) (c2.ext (F.trans (d.trans u))) av ⟨V,V⟩ V λs' M' g' B' x'=>az s' M' _ g' B' x' ⟨ap,ao,ai.1,bJ ai.2 hw⟩
end
section
variable{m:I}{t:O}{b:Bk}{a:List Nat}
def OX(a:Int)(l:List cq):Nat:=l.countP λs=>s.op=a
def Vf:∀l:List cq,OX 14 l+OX 15 l<=l.length
 |[]=>by simp[OX]
 |s::l=>by
  have:=Vf l;simp only[OX,YX,bg]at this⊢;by_cases h:s.op=14
  ·simp[h];omega
  ·by_cases a:s.op=15
   ·simp[a];omega
   ·simp[h,a];omega
def Qv(a:Int)(l:List cq)(s:cq):OX a (l++[s])=OX a l+(if s.op=a then 1 else 0):=by
 simp[OX,List.countP_append,YX]
def FQ(j:dN m t b.aA):qM 269 [.agg #[O.v t,vi b.aR]] m λc=>0<=c/\c<=b.aA.length/\∀(i:Nat)(a:cq),b.aA[i]? =some a->(i:Int)<c->a.op=14\/a.op=15:=by
 apply yJ;simp -zeta only[aE,aD];intro d;have L:J m d:=J.push _ _;have D:∀s∈[m.size],s<d.size:=by simp[d]
 clear_value d;have E:=j.len;refine dO (n:=b.aA.length) (E▸j.fL) (λc M=>J d M/\∀(i:Nat)(a:cq),b.aA[i]? =some a->i<c->a.op=14\/a.op=15) ⟨J.aC _,λi a _ h=>V⟩ ?_;rintro c M S μ X ⟨q,p⟩ H
 have u:=L.trans q;have R:∀{o:I},J m o->∃g:Int,vi (c:Int)=vi g/\(0<=g/\g<=b.aA.length/\∀(i:Nat)(a:cq),b.aA[i]? =some a->(i:Int)<g->a.op=14\/a.op=15)/\J m o:=λP=>⟨c,rfl,⟨V,V,λi a e h=>p i a e V⟩,P⟩;refine⟨λh=>?_,λh=>R u⟩;simp only[ao]at h;obtain⟨a,e⟩:=ag (l:=b.aA) (k:=c) V;obtain⟨r,G,U,Y,w,y,z,A,B⟩:=j.u e;refine⟨V,V,_,u.D w,_,u.D y,_,u.D z,_,u.D A,_,u.D B,?_⟩;refine(yp (x:=a) r G M).aG q D λT Z C N K=>⟨_,rfl,λF=>H V _ ⟨K,λi Q f W=>?_⟩,λ_=>R (u.trans N)⟩;by_cases v:i=c
 ·subst v;rw[e]at f;simp at f;subst f;exact C.1 F
 ·exact p i Q f V
def vD(Q:∀j∈a,j<m.size)(F:dN m t b.aA){f:Nat}(hm:f<=b.aA.length)(g:Int)(P:∀(i:Nat)(s:cq),b.aA[i]? =some s->i<f->0<s.args.length)(hb:b.aA.length<=1000000000000):
 jR 270 [.agg #[O.v t,vi b.aR],vi f,vi g] m a λe=>(∀y∈e,∃(i:Nat)(s:cq),i<f/\b.aA[i]? =some s/\y∈s.args)/\e.length<=OX g (b.aA.take f):=by
 apply zK
 simp -zeta only[aE,aD]
 intro d A
 have B:J m d:=J.push _ _
 have R:∀j∈[m.size],j<d.size:=by simp[d]
 have T:J d A:=J.push _ _
 have N:GI a d A (.mk d.size 0 0 0) []:=GI.nil a d
 clear_value A
 clear_value d
 have ad:=F.len
 refine dC (n:=f) V (λc s M=>J d M/\∃e,GI a d M s e/\(∀y∈e,∃(i:Nat)(s:cq),i<f/\b.aA[i]? =some s/\y∈s.args)/\e.length<=OX g (b.aA.take c)) ⟨T,[],N,E,E⟩ ?_
 rintro c s M W μ hk ⟨r,e,v,z,S⟩ H
 have u:=B.trans r
 refine dit (λw=>?_) λw=>?_
 ·obtain⟨x,q⟩:=ag (l:=b.aA) (k:=c) V
  obtain⟨Y,kk,D,ac,I,Z,e2,K,e4⟩:=F.u q
  have aa:=D.len
  have:=P c x q V
  obtain⟨y,G⟩:=ag (l:=x.args) (k:=0) V
  have p:OX g (b.aA.take (c+1))=OX g (b.aA.take c)+(if x.op=g then 1 else 0):=by rw[bH q,Qv]
  have ab:OX g (b.aA.take c)<=(b.aA.take c).length:=List.countP_le_length
  have af:=oW c b.aA
  refine⟨V,V,_,u.D I,λo=>⟨V,V,_,u.D K,bd,V,y,(D.ext u).u G,?_⟩,λo=>H V _ _ ⟨r,e,v,z,?_⟩⟩
  ·intro m3
   simp only[aL]at o
   rw[aq o]at p
   refine GI.jK v (r.fz []) (λj p=>B.lt (Q j p)) V λah X L C _ _=>⟨J.mU (r.aM _) C.ext R,H V _ _ ⟨C.ext,_,L,λU h=>?_,bK⟩⟩
   rcases List.mem_append.1 h with h|h
   ·exact z U h
   ·simp at h;subst h;exact⟨c,x,V,q,au G⟩
  ·simp only[an]at o
   rw[ae o]at p;omega
 ·have h:c=f:=V
  subst h
  exact⟨s,e,rfl,v.cG (λ_ w=>w) B.size,⟨z,S⟩,u⟩
def OZ:∀{l:List cq},(∀x∈l,dn x=0)->dc l=0
 |[],_=>rfl
 |x::l,h=>by rw[jD,h x ba,OZ λy a=>h y (ai _ a)]
def Q9:∀{l:List cq},(∀x∈l,2<=x.w)->2*l.length<=sw l
 |[],_=>E
 |x::l,h=>by
  have b:=h x ba;have c:=Q9 λy a=>h y (ai _ a);rw[ln,bg];omega
def JE(hS:∀d∈a,d<m.size){aa:O}{u:List Int}{ds:List bq}{nr o:Nat}(q:dN (bA a m) t b.aA)(hf:ar m aa u)(bp:u.length<=3)(ap:WB ds nr True (o+u.length) b)(hw:b.w<=100000000000)(ha:o<=1000000000000){p:Int}(hx:0<=p/\p<(o:Int)):
 lX 245 [.agg #[O.v t,vi b.aR],vi p,O.v aa,vi o] m a λb'=>WB ds nr True (o+u.length) b'/\b'.w<=b.w+8:=by
 apply Cf
 simp -zeta only[aE,aD]
 intro r Y
 obtain⟨F,G⟩:=di (a:=r) (c:=Y) rfl rfl
 have s1:r.size=m.size+1:=by simp[r]
 have s2:Y.size=m.size+2:=by simp[Y,s1]
 clear_value Y
 obtain⟨aq,aN⟩:=ap.bo
 have am:=q.le (bt _ _)
 have bm:=Bk.kN b
 have bz:=eW b.aA
 have aQ:=q.len
 have bo:=q.cap
 have bs:=hf.len
 refine(FQ (am.le F.le)).aG (J.aC Y) G λmn m3 a7 x3 _=>⟨_,rfl,?_⟩
 obtain⟨c,a5⟩:∃c:Nat,mn=c:=⟨mn.toNat,V⟩
 subst a5
 have aM:∀(e:Nat)(s:cq),b.aA[e]? =some s->e<c->s.op=14\/s.op=15:=λe s A aJ=>a7.2.2 e s A V
 have al:∀(e:Nat)(s:cq),b.aA[e]? =some s->e<c->0<s.args.length:=λe s A aJ=>by
  have:=aM e s A aJ;have:=(aq e s A).dY.kj V;omega
 have u3:=F.trans x3
 refine(vD (a:=[]) E (am.le u3.le) (f:=c) V 14 al V).aG x3 G λsd L m4 gd hd x4 v4=>⟨_,rfl,?_⟩
 refine(vD (a:=[]) E (am.le (F.trans v4).le) (f:=c) V 15 al V).aG v4 G λsr W m5 gr hr x5 v5=>⟨_,rfl,?_⟩
 have bn:=Vf (b.aA.take c)
 have bC:(b.aA.take c).length=c:=bK
 have aO:ar m5 sr W:=(gr.done E V).le (bt _ _)
 refine(cU aO p).aG v5 G λbk m6 bl x6 C=>⟨_,rfl,λ_=>?_,λbu=>⟨λ_=>?_,λa8=>?_⟩⟩
 ·exact⟨t,b,rfl,q.le (((F.trans C).aj V _ _).cJ _),⟨ap,V⟩,(F.trans C).aj V _ _⟩
 ·exact⟨t,b,rfl,q.le (((F.trans C).aj V _ _).cJ _),⟨ap,V⟩,(F.trans C).aj V _ _⟩
 have bv:0<u.length:=by simp only[an]at a8;omega
 have aK:∀s∈b.aA.take c,∃e:Nat,e<c/\b.aA[e]? =some s:=λs q=>by
  obtain⟨e,A⟩:=List.mem_iff_getElem?.1 q;have:=ax A;rw[dj V]at A;exact⟨e,V,A⟩
 have aG:dc (b.aA.take c)=0:=OZ λs q=>by
  obtain⟨e,h1,R⟩:=aK s q;have:=aM e s R h1;exact ae λab:nB s.op=>by have:=ab.2;omega
 have bx:2*c<=sw (b.aA.take c):=by
  have:=Q9 (l:=b.aA.take c) λs q=>by
   obtain⟨e,h1,R⟩:=aK s q;have:=al e s R h1;have:=cq.kN s;omega
  omega
 have bB:sw b.aA=sw (b.aA.take c)+sw (b.aA.drop c):=by rw[<-db,de]
 have a2:dc b.aA=dc (b.aA.take c)+dc (b.aA.drop c):=by rw[<-cr,de]
 have UQ:∀y:Int,(∃(e:Nat)(s:cq),e<c/\b.aA[e]? =some s/\y∈s.args)->0<=y/\y<((o+u.length:Nat):Int):=λy⟨e,s,h1,R,h3⟩=>by
  have h4:=(aq e s R).dY.args y h3;have h5:=Qw (b.aA.take c) e;rw[JT,iR V]at h5;omega
 refine(qt (S:=[]) E ((aO.ext x6).le (xB _)) p V).aG C G λbf ba m8 aF aL x8 v8=>⟨_,rfl,?_⟩
 have y2:=aF.aY
 have u6:=F.trans C
 have bY:=x8.size
 have a9:ar (bA [bf.F] m8) sd L:=((gd.done E V).le (bt _ _)).le (((x5.trans x6).le.trans (xB m6)).trans (x8.bA λd f=>Or.inr (by simp at f;omega)))
 refine uL (n:=u.length) V (λh sd sr M=>J m6 M/\∃L W,ar (bA [sr.F] M) sd L/\GI [] m6 M sr W/\(∀y∈L,0<=y/\y<((o+u.length:Nat):Int))/\L.length<=OX 14 (b.aA.take c)/\(∀y∈W,0<=y/\y<((o+u.length:Nat):Int))/\W.length<=OX 15 (b.aA.take c)+h) ⟨x8,L,ba,a9,aF,λy U=>UQ y (hd.1 y U),hd.2,λy U=>UQ y (hr.1 y (aL.1 y U)),by have:=aL.2;have:=hr.2;omega⟩ ?_
 rintro h N H w ay μ hk ⟨P,ah,X,T,Q,ac,aH,af,bw⟩ au
 have Z:=u6.trans P
 have y3:=Q.aY
 have v:∀d∈[r.size,m.size],d<w.size:=λd f=>P.lt (C.lt (G d f))
 refine⟨λab=>?_,λab=>?_⟩
 ·simp only[ao]at ab
  obtain⟨y,U⟩:=ag (l:=u) (k:=h) V
  have ew:cK ((o:Int)+(h:Int))=(o:Int)+h:=aP V V
  rw[ew]
  have ak:∀{M:I},J w M->D M aa.F (aa.off+Int.toNat (h:Int)*1)=some (vi y):=λz=>(hf.ext (Z.trans z)).u U
  have aA:∀{M:I},J w M->ay N H (cK ((h:Int)+1)) M/\μ N H (cK ((h:Int)+1)) M<μ N H h w:=λz=>au V _ _ _ ⟨P.trans z,ah,X,T.le (z.cJ _),Q.ext z,ac,aH,af,V⟩
  have LQ:∀{M:I},J w M->iS (M.push (.cells (br [.i ((o:Int)+h)]) aB)) aB [.i 0] 8 H (.mk M.size 0 1 1) λaw M'=>dV [r.size,m.size] (M.push (.cells (br [.i ((o:Int)+h)]) aB)) M'/\ay N aw (cK ((h:Int)+1)) M'/\μ N aw (cK ((h:Int)+1)) M'<μ N H h w:=λ{M} z=>by
   refine GI.jK (Q.ext z) ((P.trans z).fz []) E V λaw M' g' f' z' q'=>⟨J.mU ((P.trans z).aM _) f'.ext (λd f=>C.lt (G d f)),au V _ _ _ ⟨f'.ext,ah,_,(T.le (z.cJ _)).le (nM λd f hn=>?_),g',ac,aH,λaj B=>?_,bK⟩⟩
   ·simp at hn;refine⟨?_,q' d f hn⟩;simp;rcases z'.2 with g|g<;>omega
   ·rcases List.mem_append.1 B with B|B
    ·exact af aj B
    ·simp at B;omega
  refine⟨V,V,y,ak (J.aC _),λ_=>?_,λ_=>⟨V,V,y,ak (J.aC _),λ_=>?_,λ_=>aA (J.aC _)⟩⟩
  ·refine(cU (T.le (bt _ _)) _).aG (J.aC w) v λbb aU _ K _=>⟨_,rfl,λ_=>?_,λ_=>⟨V,V,y,ak K,λ_=>?_,λ_=>aA K⟩⟩
   ·refine(qt (S:=[H.F]) (by have:=K.size;simp;omega) (T.le (K.cJ _)) _ V).aG K v λaV aT az aR av aW aC=>⟨_,rfl,au V _ _ _ ⟨P.trans aC,aT,X,aR.done (by have:=K.size;simp;omega) (by have:=av.2;omega),Q.ext aC,λaj B=>ac aj (av.1 aj B),by have:=av.2;omega,af,V⟩⟩
   ·intro az
    exact LQ K
  ·intro az
   exact LQ (J.aC _)
 ·have a_:ar w H X:=(Q.done E V).le (bt _ _)
  have K:∀{M:I},w.size<=M.size->∀d∈r.size::a,d<M.size:=λB d f=>by
   rcases List.mem_cons.1 f with g|g
   ·have:=v r.size E;omega
   ·have:=hS d g;have:=Z.size;omega
  refine(dU (c:=r.size::a) (K (ad _)) 14 (T.le (bt _ _)) V).aG (J.aC w) v λbb bE bG az aX ak _=>⟨_,rfl,?_⟩
  subst aX
  have bU:=az.aY
  have bi:=ak.size
  refine(gZ (c:=bb.F::r.size::a) (λd f=>?_) 16 p).mono λbT bH⟨bj,bD,g,a1,a4,av⟩=>⟨λd f=>av.same d (ak.lt (v d f)),_,_,_,_,_,g,?_⟩
  ·rcases List.mem_cons.1 f with g|g
   ·omega
   ·exact K bi d g
  intro bI
  have aw:=ak.trans av
  refine GS.jK (x:=dX 16 p) (az.ext ft.mono av) (aw.fz []) a1 a4 bK λbc bJ aA U b0 bO=>⟨J.mU (aw.aM _) U.ext v,?_⟩
  have bV:=aA.aY
  have bX:=aw.size
  have aV:=U.size
  refine(dU (c:=bc.F::r.size::a) (λd f=>?_) 15 (a_.ext U.ext) V).aG U.ext v λbR bF bL aZ aY bh aU=>⟨_,rfl,?_⟩
  ·rcases List.mem_cons.1 f with g|g
   ·omega
   ·exact K aV d g
  subst aY
  refine GS.all (aA.ext ft.mono bh) (aU.fz []) (aZ.done ft.mono (λd f=>?_) bd bK) bK λaT aR aC z b1 bP=>⟨J.mU aU z.ext v,V,V,V,?_⟩
  ·rcases List.mem_cons.1 f with g|g
   ·omega
   ·exact K aV d g
  have bW:=aC.aY
  have z9:=Z.size
  have bg:=Z.trans z.ext
  have a6:Le (bA a m) (bA (aT.F::r.size::a) aR):=bg.bA λd f=>by
   simp only[aS]at f;rcases f with g|g|g
   ·exact Or.inr V
   ·exact Or.inr V
   ·exact Or.inl g
  have ek:Int.toNat (c:Int)=c:=V
  have el:Int.toNat (t.len:Int)=t.len:=V
  rw[ek,el]
  have a3:dN (bA (aT.F::r.size::a) aR) (t.cut c t.len 5) (b.aA.drop c):=by
   have:=(q.le a6).It (i:=c) (j:=t.len) V V;rwa[aQ,bZ (ad _),<-aQ]at this
  refine GS.all aC z a3 bK λbe bM a0 aj b2 bQ=>⟨J.mU z.ext aj.ext v,aI (by rw[aj.ext.same _ (v _ E),z.ext.same _ (v _ E)]) _,?_⟩
  intro bN
  have aW:=a0.done ft.mono (K (ad _)) bd bK
  have e1:dc [dX 16 p]=0:=jf bd [p]
  have e2:sw [dX 16 p]=2:=mL 16 [p]
  have W1:WL ds nr True (o+u.length) (ah.map (dX 14)++[dX 16 p]++X.map (dX 15)++b.aA.drop c):=by
   refine WL.append (WL.append ((pP bd ac).xK ?_) ?_) ?_
   ·rw[jf bd];exact Bh bd ⟨hx.1,V⟩
   ·rw[cr,jf bd,e1];exact pP bd af
   ·rw[cr,cr,jf bd,jf bd,e1];have:=aq.drop c;rwa[aG]at this
  refine⟨be,.mk (ah.map (dX 14)++[dX 16 p]++X.map (dX 15)++b.aA.drop c) b.aR,rfl,dN.le (bS E λd f=>ai _ f) aW,⟨.of W1 ?_,?_⟩,(Z.trans aj.ext).aj V _ _⟩
  ·rw[cr,cr,cr,jf bd,jf bd,e1]
   rw[a2,aG]at aN
   simpa using aN
  ·rw[Bk.oV,db,db,db,mL,mL,e2];omega
end
def WV(c:List bq)(d:List fD)(b:Bk):Prop:=∀(S:List Nat)(m:I),(∀a∈S,a<m.size)->∀(f r t:O)(a:Nat),dJ m f r c d->dN m t b.aA->WB c d.length True a b->a+4*b.w<=1000000000000->9*b.w<=100000000000->
 lX 229 [.agg #[O.v f,O.v r],.agg #[O.v t,vi b.aR],vi a] m S λe=>WB c d.length True a e/\e.w+8<=9*b.w
def Ax{F:List bq}{rs:List fD}:∀H:Bk,WV F rs H:=by
 refine Bk.ind ?_;intro aA ac ih u ak hS aX a9 b5 v U hs bn bF bH;have a4:=bn.bo;rw[Bk.oV]at*;simp only[Bk.jd,Bk.iy]at*;apply uw;simp -zeta only[aE,aD];intro al p w h m5 m6;obtain⟨x3,hl,s1,s2,s3⟩:=oF (a:=al) (b:=p) (c:=w) rfl rfl rfl;have s4:h.size=w.size+1:=by simp[h]
 have ba:J h m6:=(J.push h _).aj (ad _) _ _;have bv:J w m6:=(J.push w _).trans ba;have g0:GS (h.size::p.size::u) w m6 (.mk w.size 0 0 0) []:=(GS.new _ w).ext ft.mono ba;have B0:cB m6 h.size cO [.s (.mk w.size 0 0 0),.i ac]:=cB.aj (m:=m5) (o:=0) (r:=[.s (.mk w.size 0 0 0),.i ac]) (cB.push h _ _);have bf:∀f∈p.size::u,f<w.size:=bG hS x3.size (hl _ E);clear_value m6;clear_value w;have bi:=hs.len;have bk:=yY aA;have bR:=eW aA;refine dC (n:=aA.length) (bi▸hs.fL) (λd(y:Int) M=>y=((v+dc (aA.take d):Nat):Int)/\J w M/\∃s B,GS (h.size::p.size::u) w M s B/\cB M h.size cO [.s s,.i ac]/\B.length=d/\WL F rs.length True v B/\dc B=dc (aA.take d)/\sw B<=9*sw (aA.take d)) ⟨E,bv,_,[],g0,B0,rfl,WL.nil _ _ _ _,E,E⟩ ?_;rintro d v0 M aW μ hk ⟨bm,xM,s,B,av,af,bN,wl,aC,bl⟩ a8
 subst bm;have y:=x3.trans xM;have hy:=av.aY;have zM:=xM.size;have bB:=af.lt;refine dit (λay=>?_) λay=>?_
 ·obtain⟨c,W⟩:=ag (l:=aA) (k:=d) V;obtain⟨pa,pk,ha,aQ,e0,e1,e2,e3,e4⟩:=hs.u W;have bX:=Ml W;have b1:=cq.kN c;have bI:=oG c.bu;have b0:=od W;have bW:=oY W;have ab:=a4.1 d c W;have bL:=qT (aA.take d);have bQ:=eW (aA.take d);have bV:=bk (d+1);refine⟨V,V,_,y.D e0,_,y.D e1,_,y.D e2,_,y.D e3,_,y.D e4,?_⟩;intro m7 t Y;have x8:J M t:=(J.push M _).aj (ad _) _ _;have s8:t.size=M.size+1:=by simp[t,m7,az]
  have x9:J t Y:=J.push _ _;have s9:Y.size=t.size+1:=by simp[Y]
  have be:GB (s.F::h.size::p.size::u) t Y (.mk t.size 0 0 0) []:=GB.new _ t;clear_value Y;clear_value t;have aM:∀f∈s.F::h.size::p.size::u,f<t.size:=λf j=>by
   simp only[aS]at j;rcases j with e|e|e|e
   ·omega
   ·omega
   ·omega
   ·have:=hS f e;omega
  have aR:=aQ.len;have P:∀{g:I},t.size<=g.size->∀f∈[M.size,p.size,al.size,ak.size],f<g.size:=λay f j=>by simp at j;omega
  have z9:Y.size=t.size+1:=s9;refine(fR (e:=[t.size]) bK (U.aT.le (y.trans (x8.trans x9)).le) U.types c.bL).aG (J.aC Y) (P x9.size) λsc lc b3 a1 e a_ _=>⟨_,rfl,?_⟩;subst e;have bO:=a1.len;refine dC (n:=c.bu.length) (aR▸aQ.fL) (λz A g=>J t g/\ar (bA [A.F] g) sc (bU F c.bL)/\∃q,GB (s.F::h.size::p.size::u) t g A q/\q.length=z/\(∀(X:Nat)(H:Bk),q[X]? =some H->WB F rs.length True (v+dc (aA.take d)+ze F c.op c.bL X) H)/\bw q<=9*bw (c.bu.take z)) ⟨x9.trans a_,a1,[],be.ext pM.mono a_,rfl,E,E⟩ ?_;rintro z A G I2 μ2 hj ⟨ao,a2,q,gk,bM,aZ,bh⟩ bs;have Q:J ak G:=y.trans (x8.trans ao);have yk:=gk.aY;have Z:=ao.size;refine dit (λh2=>?_) λh2=>?_
  ·obtain⟨H,aa⟩:=ag (l:=c.bu) (k:=z) V;obtain⟨tb,a3,f0,f1⟩:=aQ.u aa;have bJ:=uE aa;have bg:=sF aa;have aB:=ab.bu z H aa;have h3:=NY U.types c.op c.bL z;have aK:∀{g:I},J G g->∀f∈A.F::s.F::h.size::p.size::u,f<g.size:=λxx f j=>by
    have:=xx.size;rcases List.mem_cons.1 j with e|e
    ·omega
    ·have:=aM f e;omega
   have ap:∀{g:I}{ss:O}{N:Bk},J G g->dN (bA (A.F::s.F::h.size::p.size::u) g) ss N.aA->WB F rs.length True (v+dc (aA.take d)+ze F c.op c.bL z) N->N.w<=9*H.w->
    iS (g.push (.cells (br [.s ss,.i N.aR]) cO)) cO [.s .nil,.i 0] 32 A (.mk g.size 0 1 1) λr' M3=>dV [M.size,p.size,al.size,ak.size] (g.push (.cells (br [.s ss,.i N.aR]) cO)) M3/\I2 r' (cK ((z:Int)+1)) M3/\μ2 r' (cK ((z:Int)+1)) M3<μ2 A z G:=λ{g ss N} x11 aj hwb' hw'=>by
    refine GB.jK (c:=N) (gk.ext pM.mono x11) ((ao.trans x11).fz []) aj V λr' M3 g2 f2 bx q2=>⟨J.mU ((ao.trans x11).aM _) f2.ext (P (ad _)),bs V _ _ ⟨f2.ext,(a2.le (x11.cJ _)).le (nM λf j a0=>?_),_,g2,bK,λX b2 T=>?_,?_⟩⟩
    ·simp at a0
     refine⟨?_,q2 f j a0⟩
     simp
     rcases bx.2 with e|e<;>omega
    ·rcases aV X q.length with C|C
     ·rw[aw C]at T;exact aZ X b2 T
     ·rw[aF C]at T
      have:X -q.length=0:=by have:=ax T;simp at this;omega
      rw[this]at T;simp at T;subst T
      have:X=z:=V
      subst this;exact hwb'
    ·rw[nj,sE,xe,bg]
     omega
   refine⟨λR=>?_,λR=>?_⟩
   ·simp only[aL]at R;obtain⟨bD,_⟩:=ab.dY.all R;have bz:=ab.dY.kj (Or.inr (Or.inr R));obtain⟨aU,a5⟩:=ag (l:=c.args) (k:=0) V;obtain⟨y0,y1⟩:=ab.dY.args aU (au a5);have bC:=ha.len;obtain⟨cn,aY⟩:=ag (l:=bU F c.bL) (k:=z) V;refine⟨V,V,cn,(a2.le (bt _ _)).u aY,?_⟩;refine(dk (e:=[]) E (U.aT.le (Q.le.trans (xB _))) U.types cn).aG (J.aC G) (P Z) λsf lf a6 aG e aH _=>⟨_,rfl,?_⟩;subst e;have aG:=aG.le (bt _ _);have bP:=aG.len;have ah:=Q.trans aH;rw[Ih R aY]at aB h3 ap;have aJ:D a6 pa.F (pa.off+Int.toNat (0:Int)*1)=some (vi aU):=(ha.ext ah).u a5;refine⟨V,V,_,ah.D f0,_,ah.D f1,bd,V,aU,aJ,?_⟩;have ew:cK (((v+dc (aA.take d):Nat):Int)+(sf.len:Int))=((v+dc (aA.take d)+(bT F cn).length:Nat):Int):=by rw[aP V V];omega
    rw[ew];refine(ih c (au W) H (au aa) (A.F::s.F::h.size::p.size::u) a6 (aK aH) aX a9 tb _ (U.le ah.le) (a3.le ah.le) aB V V).aG aH (P Z) λss N bo aj aO am aT=>⟨_,_,rfl,?_⟩;refine⟨by rw[am.D aJ,aJ],aI (am.same _ (aH.lt (P Z _ E))) _,?_⟩;refine(JE (a:=A.F::s.F::h.size::p.size::u) (aK aT) aj (aG.ext am) V aO.1 V V ⟨y0,y1⟩).aG aT (P Z) λb4 b2 a7 bj bb C bu=>⟨_,_,rfl,?_⟩;intro bp;exact ap bu bj bb.1 V
   ·simp only[an]at R;rw[Ii R]at aB ap;refine⟨V,V,_,Q.D f0,_,Q.D f1,?_⟩;refine(ih c (au W) H (au aa) (A.F::s.F::h.size::p.size::u) G (aK (J.aC _)) aX a9 tb _ (U.le Q.le) (a3.le Q.le) aB V V).aG (J.aC G) (P Z) λss N bo aj aO am aT=>⟨_,_,rfl,?_⟩;intro a7;exact ap am aj aO.1 V
  ·have ap:q.length=c.bu.length:=V;rw[bZ V]at bh;have X8:J M G:=x8.trans ao;have T:=af.ext X8;have G2:=av.ext ft.mono X8;refine⟨s,T.cy 0,?_⟩;refine(bE (s.F::h.size::p.size::u) (ha.ext Q) V).aG (J.aC G) (P Z) λs' l' a7 ga e C _=>⟨_,rfl,aI (C.same _ V) _,aI (C.same _ V) _,aI (C.same _ V) _,aI (C.same _ T.lt) _,?_⟩;subst e;intro bp;refine Gr.box (g:=[.i 0,.i 0,.i 0,.s .nil,.s .nil]) (K:=λg=>aN bY 205 [vi c.op] g λy R=>dV [M.size,p.size,al.size,ak.size] g R/\∃N:Bool,y=vb N/\
    (N=true->aW (cK (((v+dc (aA.take d):Nat):Int)+1)) (cK ((d:Int)+1)) R/\μ (cK (((v+dc (aA.take d):Nat):Int)+1)) (cK ((d:Int)+1)) R<μ ((v+dc (aA.take d):Nat):Int) (d:Int) M)/\
    (N=false->aW ((v+dc (aA.take d):Nat):Int) (cK ((d:Int)+1)) R/\μ ((v+dc (aA.take d):Nat):Int) (cK ((d:Int)+1)) R<μ ((v+dc (aA.take d):Nat):Int) (d:Int) M)) (L:=[M.size,p.size,al.size,ak.size]) (j:=0) (z:=72) (o:=[.s s,.i ac]) (y:=⟨c.op,c.bL,c.bV,c.args,q⟩) ft.mono bd (G2.ext ft.mono C) (((xM.trans X8).trans C).fz []) ⟨s',A,rfl,(ga.done (λf j=>by have:=aM f j;omega) V),mo.le (C.cJ _) (gk.done pM.mono aM bd (by show q.length<=_;omega))⟩ V (T.ext C) E bd ⟨V,E⟩ (λf j=>by have N:=C.size;simp at j;omega) λr' m' g' B' f' z' q'=>?_
   have W':WL F rs.length True v (B++[⟨c.op,c.bL,c.bV,c.args,q⟩]):=wl.xK (ab.Ng id ab.dY.bV ap aZ|>λay=>by rw[aC];exact ay);have aB:=C.size;refine(iX c.op m').mono λy R⟨bb,e,am,N⟩=>⟨λf j=>N.same f (by have:=P Z f j;omega),bb,e,?_⟩;have ah:=qV c bb am;have aa:dc (B++[⟨c.op,c.bL,c.bV,c.args,q⟩])=dc (aA.take (d+1)):=by
    rw[cr,jD,qU,aC];have e:dn (⟨c.op,c.bL,c.bV,c.args,q⟩:cq)=dn c:=rfl;omega
   have aj:sw (B++[⟨c.op,c.bL,c.bV,c.args,q⟩])<=9*sw (aA.take (d+1)):=by
    rw[db,ln,tr];have h5:(⟨c.op,c.bL,c.bV,c.args,q⟩:cq).w=1+c.args.length+bw q:=cq.kN _;omega
   refine⟨λht=>?_,λhf=>?_⟩
   ·rw[aq ht]at ah;rw[aP (b:=((v+dc (aA.take d):Nat):Int)+1) V V];exact a8 V _ _ ⟨V,f'.ext.trans N,r',_,g'.ext ft.mono N,B'.ext N,bK,W',aa,aj⟩
   ·rw[ae (by simp[hf])]at ah;exact a8 V _ _ ⟨V,f'.ext.trans N,r',_,g'.ext ft.mono N,B'.ext N,bK,W',aa,aj⟩
 ·have aR:d=aA.length:=V;subst aR;rw[fZ]at aC bl;refine⟨s,af.cy 0,ac,af.cy 1,?_⟩;intro m7;have c:Le (bA (h.size::p.size::u) M) (bA u m7):=bS E λf j=>ai _ (ai _ j);have g:=av.ne af bd;refine⟨s,.mk B ac,rfl,dN.le c (av.mq ft.mono (λj=>?_) bd (by show B.length<=_;omega)),⟨.of wl (by rw[aC];exact a4.2),by rw[Bk.oV];omega⟩,y.aj V _ _⟩;rcases List.mem_cons.1 j with e|e
  ·exact g e
  ·have:=bf _ e;omega
def Cm{d:List Nat}{f:I}(F:∀c∈d,c<f.size){j r:O}{h:List bq}{p:List fD}(i:dJ f j r h p){W:Nat}(hW:9*W<=100000000000)(hk:vS h p True W):sW 196 [.agg #[O.v j,O.v r]] f d h λv=>vS h v True (9*W):=by
 apply vr;simp -zeta only[aE,aD];intro b U;obtain⟨z,u⟩:=di (a:=b) (c:=U) rfl rfl;have s1:b.size=f.size+1:=by simp[b]
 clear_value U;have an:=i.gQ.len;have aC:=i.mN;refine(eT (b:=b.size::d) (bG F z.size (u _ E)) (i.le z.le).aT i.types).mono λ_ N⟨af,e,aj,A⟩=>?_;subst e;refine⟨A.da u,_,rfl,?_⟩;intro P ar ac;have u2:=z.trans A;obtain⟨x5,B0,g0,s3,s5⟩:=jO (b:=P.size::b.size::d) gH.mono (d:=N) (a:=P) (c:=ar) (h:=ac) rfl rfl rfl;clear_value ac;have K:∀c∈[b.size,f.size],c<N.size:=λc a=>A.lt (u c a);have H:∀c∈b.size::d,c<N.size:=λc a=>A.lt (bG F z.size (u _ E) c a);refine jI (R:=λg o M=>∃j r v,Value.agg #[O.v g,O.v o]=.agg #[O.v j,O.v r]/\dJ (bA d M) j r h v/\vS h v True (9*W)/\J f M) (t:=p.length) (f:=f) (b:=d) gH.mono bd bd F ⟨V,K _ E⟩ u2 s3 aj an V x5 B0 g0 (λ_ q=>q.params.length<=3/\q.cW.length<=3/\WB h p.length True q.params.length q.body/\q.body.w<=9*W) (λg x L y Z t o s w=>⟨g,x,L,rfl,⟨Z,t,i.types,V⟩,ET hk.gR o s,w⟩) λaq M st L ax μ ak aA T Y B av=>?_
 obtain⟨q,hq⟩:=ag (l:=p) (k:=aq) ak;obtain⟨am,al,ap,hw⟩:=hk.df q (au hq);have w:=u2.trans T;obtain⟨aw,aF,s,X,c2,c3,e0,e1,e2,e3,e4⟩:=i.gQ.u hq;have G:∀{ae:Value}{s o:Nat},D f s o=some ae->D M s o=some ae:=λai=>w.D ai;refine⟨V,V,_,G e0,_,G e1,_,G e2,_,G e3,_,G e4,?_⟩;intro m7 g;have hy:=Y.aY;have ay:=B.lt;have zM:=T.size;have Q:J M g:=(J.push M _).aj (ad _) _ _;have s8:g.size=M.size+1:=by simp[g,m7,az]
 clear_value g;have ab:∀c∈[M.size,b.size,f.size],c<g.size:=λc a=>by
  rcases List.mem_cons.1 a with e|e
  ·omega
  ·have:=K c e;omega
 have w8:=w.trans Q;have aB:=X.len;have ah:(aw.len:Int)=(q.params.length:Nat):=V;refine⟨st,(B.ext Q).cy 1,?_⟩;rw[ah];refine(Ax q.body (st.F::P.size::b.size::d) g (λc a=>?_) j r s q.params.length (i.le w8.le) (c3.le w8.le) ap V V).aG (J.aC g) ab λss b' M1 ao aa y _=>⟨_,_,rfl,?_⟩
 ·simp only[aS]at a;rcases a with e|e|e|e
  ·omega
  ·omega
  ·have:=H c (by simp[e]);omega
  ·have:=H c (by simp[e]);omega
 have C:∀o,D M1 M.size o=D g M.size o:=λo=>aI (y.same _ V) o;refine⟨C 0,C 1,C 2,C 3,C 4,aI (y.same _ V) _,?_⟩;have x:=Q.trans y;have z1:=y.size;exact tR (b:=b.size::d) (v:=af) (x:=L) H (λc a=>by have Z:=ab c a;have t:=K c;simp only[aS]at a t;rcases a with e|e|e|e<;>first|omega|(have:=t (by simp[e]);omega)|simp at e) (T.trans x) (Y.ext gH.mono x) (B.ext x) V (X.ext (w.trans x)) (c2.ext (w.trans x)) ao ⟨V,V⟩ V λs' Z g' t x'=>av s' Z _ g' t x' ⟨am,al,aa.1,by have:=aa.2;show b'.w<=_;omega⟩
section
variable{S:List Nat}{m:I}{c:O}{b:List Instr}
def dt.le{m b:I}(h:Le m b){a:List Ce}{x:Instr}:dt m a x->dt b a x:=λ⟨c,j,d,e,f⟩=>⟨c,j,d,e.le h,f.le h⟩
def dt.mono:mK 6 dt:=⟨λh=>dt.le h,λh=>by obtain⟨_,_,rfl,_⟩:=h;rfl⟩
def eB.le{m c:I}(a:Le m c){s:O}{b:List Instr}(h:eB m s b):eB c s b:=dW.le h a λ_ _=>dt.le a
def jU.le{m d:I}(h:Le m d){a:List Ce}{x:cY}:jU m a x->jU d a x:=λ⟨e,b,c,f,g,i,j⟩=>⟨e,b,c,f,g.le h,i.le h,eB.le h j⟩
def jU.mono:mK 5 jU:=⟨λh=>jU.le h,λh=>by obtain⟨_,_,_,rfl,_⟩:=h;rfl⟩
def gB.le{m c:I}(a:Le m c){s:O}{b:List cY}(h:gB m s b):gB c s b:=dW.le h a λ_ _=>jU.le a
def SY(x:Instr)(a j:O):Value:=.agg #[vi x.op,vi x.dst,vi x.bL,vi x.bV,O.v a,O.v j]
def ud(A:∀c∈S,c<m.size){r u:O}{x:Instr}(B:ar m r x.args)(C:ar m u x.dR)(h:x.args.length<=1000000000000/\x.dR.length<=1000000000000):
 aN bY 199 [SY x r u] m λK p=>∃g j,K=SY x g j/\ar (bA S p) g x.args/\ar (bA S p) j x.dR/\J m p:=by
 apply pF
 simp -zeta only[aE,aD]
 intro d e
 obtain⟨k,i⟩:=di (a:=d) (c:=e) rfl rfl
 have N:d.size=m.size+1:=by simp[d]
 clear_value e
 have s:∀c∈d.size::S,c<e.size:=bG A k.size (i _ E)
 have b:∀{M q:I},J e M->J M q->∀o,D q m.size o=D M m.size o:=λy z o=>aI (z.same _ (y.lt (i _ E))) o
 refine(bE (d.size::S) (B.ext k) h.1).aG (J.aC e) i λg _ L v l a _=>⟨_,rfl,b (J.aC _) a _,b (J.aC _) a _,b (J.aC _) a _,b (J.aC _) a _,b (J.aC _) a _,?_⟩
 subst l
 refine(bE (d.size::S) (C.ext (k.trans a)) h.2).aG a i λj _ F w l f H=>⟨_,rfl,b a f _,b a f _,b a f _,b a f _,?_⟩
 subst l
 intro G
 have t:Le (bA (d.size::S) F) (bA S G):=bS E λc n=>ai _ n
 exact⟨g,j,rfl,((v.done s h.1).le (f.cJ _)).le t,(w.done (λc n=>a.lt (s c n)) h.2).le t,(k.trans H).aj V _ _⟩
def Ko(e:eB m c b)(u:Int):CK 192 [O.v c,vi u] m:=by
 apply DV;have p:=e.len;refine dC (n:=b.length) (p▸e.fL) (λ_ _ M=>J m M) (J.aC _) ?_;rintro s N M I μ H f w
 refine⟨λi=>?_,λ_=>rN f⟩;simp only[ao]at i;obtain⟨x,q⟩:=ag (l:=b) (k:=s) V;obtain⟨B,L,d,G,C,h,D,E,g,F⟩:=(eB.ext f e).u q;have o:=d.len;refine⟨V,V,_,h,?_⟩;refine dC (n:=x.args.length) (o▸d.fL) (λ_ _ a=>J M a) (J.aC _) ?_;rintro t P A z μ2 K a v;refine⟨V,V,_,a.D g,λj=>?_,λ_=>w V _ _ (f.trans a)⟩;simp only[ao]at j;obtain⟨y,r⟩:=ag (l:=x.args) (k:=t) V;exact⟨V,V,_,a.D g,V,V,y,(d.ext a).u r,v V _ _ a⟩
structure MG(k:Nat)(x:Instr):Prop where
 J7:x.op=22->(k:Int)<x.bL
 arg:x.op=18\/x.op=23\/x.op=16\/x.op=17->0<x.args.length
def PA(b:List Instr):Prop:=∀(k:Nat)(x:Instr),b[k]? =some x->MG k x
def FO(g:eB m c b)(H:PA b){p:Int}(F:0<=p)(OA:Int):ng 231 [O.v c,vi p,vi OA] m:=by
 apply yI;simp -zeta only[aE,aD];have N:=g.len;have Q:=g.fL;refine⟨λv _ M=>0<=v/\J m M,λv _ _=>((b.length:Int) -v).toNat,⟨F,J.aC _⟩,?_⟩;rintro v K M ⟨I,o⟩;refine⟨λh=>?_,λ_=>rA o⟩;simp only[ao]at h;obtain⟨a,q⟩:=ag (l:=b) (k:=v.toNat) V;obtain⟨e,R,f,P,w,z,A,B,C,E⟩:=(eB.ext o g).u q;have L:=f.len;have i:=H _ a q;refine⟨I,V,_,w,_,z,_,A,_,B,_,C,_,E,?_⟩;intro S d;have n:J M d:=(J.push M _).aj (ad _) _ _;clear_value d;have u:=o.trans n;have J7:(a.op==22)=true->(0<=a.bL/\J m d)/\((b.length:Int) -a.bL).toNat<((b.length:Int) -v).toNat:=λh=>by
  simp only[aL]at h;have:=i.J7 h;exact⟨⟨V,u⟩,V⟩
 have r:(a.op==23)=true->(0:Int)<=0/\(0:Int)<(e.len:Int)/\∃s:Int,D d e.F (e.off+Int.toNat (0:Int)*1)=some (vi s)/\∃t:Bool,vb (s==K)=.bool t/\J m d:=λh=>by
  simp only[aL]at h;have:=i.arg V;obtain⟨y,j⟩:=ag (l:=a.args) (k:=0) V;exact⟨bd,V,y,(f.ext n).u j,rA u⟩
 refine⟨λG=>?_,λ_=>⟨J7,λ_=>⟨r,λ_=>rA u⟩⟩⟩;simp only[aL]at G;have:=i.arg V;obtain⟨y,j⟩:=ag (l:=a.args) (k:=0) V;refine⟨bd,V,y,(f.ext n).u j,λ_=>?_,λ_=>⟨J7,λ_=>⟨r,λ_=>rA u⟩⟩⟩;rw[aP (b:=v+1) V V];exact⟨⟨V,u⟩,by show((b.length:Int) -(v+1)).toNat<((b.length:Int) -v).toNat;omega⟩
def Ie(b c:List Instr):Prop:=c.length=b.length/\∀(k:Nat)(a:Instr),c[k]? =some a->∃x,b[k]? =some x/\(a=x\/a=⟨24,0,x.bL,0,x.args,x.dR⟩)
def NS(b:List Instr):Prop:=∀x∈b,x.args.length<=1000000000000/\x.dR.length<=1000000000000
abbrev Sv(S:List Nat)(a m:I)(s:O)(b:List Instr):Prop:=Gr S a m dz 6 dt s b
def HL(hS:∀c∈S,c<m.size)(h:eB m c b)(ae:PA b)(af:NS b)(hb:b.length<=1000000000000):
 aN bY 198 [O.v c] m λQ P=>∃s g,Q=O.v s/\Sv S m P s g/\Ie b g/\J m P:=by
 apply Az
 simp -zeta only[aE,aD]
 intro K
 have x1:J m K:=J.push _ _
 have g0:Sv S m K (.mk m.size 0 0 0) []:=Gr.new S (ad _) _ _ _
 clear_value K
 have ac:=h.len
 refine dC (n:=b.length) (ac▸h.fL) (λf s M=>J m M/\∃g,Sv S m M s g/\Ie (b.take f) g) ⟨x1,[],g0,by simp[Ie]⟩ ?_
 rintro f s M T μ hk ⟨t,g,C,F,G⟩ aj
 refine dit (λaa=>?_) λaa=>?_
 ·obtain⟨e,H⟩:=ag (l:=b) (k:=f) V
  obtain⟨am,ao,ha,hj,U,W,X,Y,Z,e5⟩:=(eB.ext t h).u H
  have ah:=af e (au H)
  have hy:=C.aY
  have zM:=t.size
  have an:g.length=f:=by rw[F];simp;omega
  have ab:∀c∈s.F::S,c<M.size:=λc h=>by
   rcases List.mem_cons.1 h with w|w
   ·omega
   ·have:=hS c w;omega
  refine⟨V,V,_,U,_,W,_,X,_,Y,_,Z,_,e5,?_⟩
  refine(ud ab ha hj ah).mono λQ A⟨v,z,w,D,E,R⟩=>⟨_,_,_,_,_,_,w,?_⟩
  intro m3 p
  have o:J A p:=(J.push A _).aj (ad _) _ _
  have s4:p.size=A.size+1:=by simp[p,m3,az]
  clear_value p
  have r:=R.trans o
  have B:∀{i:I}{d:Instr},J p i->ar (bA (s.F::S) i) v d.args->ar (bA (s.F::S) i) z d.dR->(d=e\/d=⟨24,0,e.bL,0,e.args,e.dR⟩)->
   iS (i.push (.cells (br [.i d.op,.i d.dst,.i d.bL,.i d.bV,.s v,.s z]) dz)) dz [.i 0,.i 0,.i 0,.i 0,.s .nil,.s .nil] 80 s (.mk i.size 0 1 1) λL u=>dV [A.size] (i.push (.cells (br [.i d.op,.i d.dst,.i d.bL,.i d.bV,.s v,.s z]) dz)) u/\T L (cK ((f:Int)+1)) u/\μ L (cK ((f:Int)+1)) u<μ s f M:=λ{i d} xx h1 h2 h3=>by
   have z4:=r.size
   have zx:=xx.size
   refine Gr.jK (g:=[.i 0,.i 0,.i 0,.i 0,.s .nil,.s .nil]) (k:=d) dt.mono bd (C.ext dt.mono (r.trans xx)) ((t.trans (r.trans xx)).fz []) ⟨v,z,rfl,h1,h2⟩ V λL u g3 f3 z3 q3=>⟨λc h=>?_,aj V _ _ ⟨f3.ext,_,g3,bK,λy ak j=>?_⟩⟩
   ·have q:=R.size
    simp at h;subst h
    rw[q3 _ V V,(J.push i _).same _ V]
   ·rcases aV y g.length with q|q
    ·rw[aw q]at j
     obtain⟨al,N,ai⟩:=G y ak j
     rw[dj V]at N⊢
     exact⟨al,N,ai⟩
    ·rw[aF q]at j
     have:y -g.length=0:=by have:=ax j;simp at this;omega
     rw[this]at j;simp at j;subst j
     have:y=f:=V
     subst this
     exact⟨e,by rw[dj V];exact H,h3⟩
  have z4:=r.size
  refine⟨λh9=>?_,λ_=>?_⟩
  ·rw[aP (b:=(f:Int)+1) V V]
   refine(FO (eB.ext (t.trans r) h) ae V e.dst).aG (J.aC p) bK λai N q _=>⟨_,rfl,λ_=>?_,λ_=>?_⟩
   ·intro m6
    have:=B (d:=⟨24,0,e.bL,0,e.args,e.dR⟩) q ((D.le (o.cJ _)).le (q.cJ _)) ((E.le (o.cJ _)).le (q.cJ _)) (Or.inr rfl)
    rw[aP (b:=(f:Int)+1) V V]at this
    exact this
   ·intro m6
    have:=B (d:=e) q ((D.le (o.cJ _)).le (q.cJ _)) ((E.le (o.cJ _)).le (q.cJ _)) (Or.inl rfl)
    rw[aP (b:=(f:Int)+1) V V]at this
    exact this
  ·intro N
   exact B (d:=e) (J.aC _) (D.le (o.cJ _)) (E.le (o.cJ _)) (Or.inl rfl)
 ·rw[bZ V]at F G
  exact⟨s,g,rfl,C,⟨F,G⟩,t⟩
end
section
variable{b:List cY}
structure Qj(p:cY):Prop where
 params:p.params.length<=3
 cW:p.cW.length<=3
 gR:0<p.cE.length
 mN:p.cE.length<=1000000000000
 cE:PA p.cE
 iQ:NS p.cE
structure Bg(b:List cY):Prop where
 gR:0<b.length
 mN:b.length<=4
 df:∀p∈b,Qj p
def NR(f:Nat)(c:List Value)(m:I)(S:List Nat)(e:List bq)(Q:List cY->Prop):Prop:=aN bY f c m λv a=>∃d p b,v=.agg #[O.v d,O.v p]/\bR (bA S a) d e/\gB (bA S a) p b/\Q b/\J m a
def Ie.ok{l d:List Instr}(h:Ie l d)(g:PA l)(f:NS l):PA d/\NS d:=by
 obtain⟨j,e⟩:=h;refine⟨λk a c=>?_,λa c=>?_⟩
 ·obtain⟨x,b,rfl|rfl⟩:=e k a c
  ·exact g k a b
  ·exact⟨λh=>by simp at h,λh=>by simp at h⟩
 ·obtain⟨k,i⟩:=List.mem_iff_getElem?.1 c;obtain⟨x,b,rfl|rfl⟩:=e k a i
  ·exact f a (au b)
  ·exact f x (au b)
def Sg{a:List cY}(h:Bg b)(f:a.length=b.length)(c:∀(i:Nat)(q:cY),a[i]? =some q->Qj q):Bg a:=
 ⟨by have:=h.gR;omega,by have:=h.mN;omega,λq e=>by obtain⟨i,d⟩:=List.mem_iff_getElem?.1 e;exact c i q d⟩
def FT{d:List Nat}{p:I}(Y:∀c∈d,c<p.size){A B:O}{C:List bq}(hd:bR p A C)(ht:dv C)(hp:gB p B b)(aa:Bg b):NR 135 [.agg #[O.v A,O.v B]] p d C Bg:=by
 apply yN;simp -zeta only[aE,aD];intro f a2;obtain⟨Q,L⟩:=di (a:=f) (c:=a2) rfl rfl;have s1:f.size=p.size+1:=by simp[f]
 clear_value a2;have av:=hp.len;have aM:=aa.mN;refine(eT (b:=f.size::d) (bG Y Q.size (L _ E)) (hd.le Q.le) ht).mono λ_ ac⟨dd,e,ap,T⟩=>?_;subst e;refine⟨T.da L,_,rfl,?_⟩;intro q ax al;have u2:=Q.trans T;obtain⟨x5,B0,g0,s3,s5⟩:=jO (b:=q.size::f.size::d) jU.mono (d:=ac) (a:=q) (c:=ax) (h:=al) rfl rfl rfl;clear_value al;have Z:∀c∈[f.size,p.size],c<ac.size:=λc g=>T.lt (L c g);have ai:∀c∈f.size::d,c<ac.size:=λc g=>T.lt (bG Y Q.size (L _ E) c g);refine jI (R:=λj o M=>∃A B h,Value.agg #[O.v j,O.v o]=.agg #[O.v A,O.v B]/\bR (bA d M) A C/\gB (bA d M) B h/\Bg h/\J p M) (t:=b.length) (f:=p) (b:=d) jU.mono bd bd Y ⟨V,Z _ E⟩ u2 s3 ap av V x5 B0 g0 (λ_ t=>Qj t) (λh r' ak m' h1 H j o r=>⟨h,r',ak,rfl,h1,H,Sg aa j o,r⟩) λaw M u ak aG μ aq aK xM ah U ay=>?_
 obtain⟨t,hq⟩:=ag (l:=b) (k:=aw) aq;have v:=aa.df t (au hq);have q3:=v.params;have q4:=v.cW;have qf:=v.mN;have qs:=v.gR;have v6:=u2.trans xM;obtain⟨aH,r,c,c1,c2,c3,e0,e1,e2,e3,e4⟩:=hp.u hq;have G:∀{ae:Value}{r x:Nat},D p r x=some ae->D M r x=some ae:=λF=>v6.D F;refine⟨V,V,_,G e0,_,G e1,_,G e2,_,G e3,_,G e4,?_⟩;intro m7 o;have hy:=ah.aY;have aJ:=U.lt;have zM:=xM.size;have x8:J M o:=(J.push M _).aj (ad _) _ _;have s8:o.size=M.size+1:=by simp[o,m7,az]
 clear_value o;have N:∀c∈[M.size,f.size,p.size],c<o.size:=λc g=>by
  rcases List.mem_cons.1 g with e|e
  ·omega
  ·have:=Z c e;omega
 have w8:=v6.trans x8;have K:∀{M':I},o.size<=M'.size->∀c∈u.F::q.size::f.size::d,c<M'.size:=λF c g=>by
  simp only[aS]at g;rcases g with e|e|e|e
  ·omega
  ·omega
  ·have:=ai c (by simp[e]);omega
  ·have:=ai c (by simp[e]);omega
 have h:∀{W M2:I},J o W->J W M2->∀r,r<o.size->∀x,D M2 r x=D W r x:=λF h' r hb x=>aI (h'.same r (F.lt hb)) x;have s:M.size<o.size:=V;have i2:q.size<o.size:=V;refine⟨u,(U.ext x8).cy 1,?_⟩;refine(bE (u.F::q.size::f.size::d) (c1.ext w8) V).aG (J.aC o) N λa' _ m9 ga e j _=>⟨_,rfl,h (J.aC _) j _ s _,h (J.aC _) j _ s _,h (J.aC _) j _ s _,h (J.aC _) j _ s _,h (J.aC _) j _ i2 _,?_⟩;subst e;refine(bE (u.F::q.size::f.size::d) (c2.ext (w8.trans j)) V).aG j N λb' _ aN gb e z y=>⟨_,rfl,h j z _ s _,h j z _ s _,h j z _ s _,h j z _ i2 _,?_⟩;subst e;have z9:=j.size;have vP:=z.size;have aF:=w8.trans y;refine(HL (S:=u.F::q.size::f.size::d) (K V) (eB.ext aF c3) v.cE v.iQ qf).mono λae ab⟨X,P,e,gc,aj,w⟩=>⟨λc g=>w.same c (y.lt (N c g)),X,e,h y w _ s _,h y w _ s _,h y w _ i2 _,?_⟩;intro aO;have aC:=y.trans w;have af:=x8.trans aC;have aP:=w.size;obtain⟨aA,aB⟩:=aj.ok v.cE v.iQ;have aL:=aj.1;have am:ar (bA (u.F::q.size::f.size::d) ab) a' t.params:=(ga.done (K V) V).le ((z.trans w).cJ _);have an:ar (bA (u.F::q.size::f.size::d) ab) b' t.cW:=(gb.done (K V) V).le (w.cJ _);have ao:eB (bA (u.F::q.size::f.size::d) ab) X P:=gc.done dt.mono (K V) bd V;exact Gr.box (g:=[.s .nil,.s .nil,.i 0,.i 0,.s .nil]) (j:=1) (z:=88) (o:=[.s dd,.s u]) (y:=⟨t.params,t.cW,t.aR,t.av,P⟩) jU.mono bd (ah.ext jU.mono af) ((xM.trans af).fz []) ⟨a',b',X,rfl,am,an,ao⟩ V (U.ext af) E bd ⟨V,E⟩ (λc g=>by have h1:=N c g;have H:=Z c;simp only[aS]at g H;rcases g with e|e|e|e<;>first|omega|(have:=H (by simp[e]);omega)|simp at e) λr' m' g' H f' z' q'=>ay r' m' _ g' H f'.ext ⟨q3,q4,by show 0<P.length;omega,by show P.length<=_;omega,aA,aB⟩
end
end Go.Proofs.YtgnjacfobdjeeaaGreat
