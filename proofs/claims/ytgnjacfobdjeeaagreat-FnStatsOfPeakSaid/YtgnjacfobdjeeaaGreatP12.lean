/- Part of a proof, joined by a program. -/
import Derived.Test.YtgnjacfobdjeeaaGreatP11
set_option linter.unusedVariables false
set_option linter.unusedSimpArgs false
set_option linter.defProp false
set_option linter.constructorNameAsVariable false
set_option maxHeartbeats 8000000
set_option maxRecDepth 100000
namespace Go.Proofs.YtgnjacfobdjeeaaGreat
open Go.Vc
section
variable{M:J}
def LJ(a:Nat->Nat)(m:J):List Nat:=(List.range m.size).filter λb=>a b≠0
def Ow(c:Nat->Nat)(m:J):∀b∈LJ c m,b<m.size:=λb a=>by simp[LJ]at a;exact a.1
def QT{d:Nat->Nat}{m a:J}(fW:∀b,b<a.size->d b=0)(e:N a M):Le a (bM (LJ d m) M):=
 (zc a).trans (e.bM λb c=>Or.inr (by
  simp[LJ]at c;exact uL λh=>c.2 (fW b h)))
def eC.Yw{a l:Nat->Nat}{m f:J}(h:To a f l M)(k:∀b,m.size<=b->a b=0):Le (bM (LJ a m) f) M:=λb o v j=>by
 obtain⟨d,e⟩:=dV.1 j;have i:=mB e;have g:a b=0:=by
  rcases bA b m.size with c|c
  ·simp[LJ]at d;exact d c
  ·exact k b c
 rw[aM (h.dO b i (by simp[g]))];exact e
def PV(c:List bu)(h:List gB)(i:Prop)(b:Bk):Prop:=∀(e:Nat->Nat)(m a:J)(d:Nat)(l:Nat->O)(L:Nat->List Int)(n k:Nat)(g r t:O),N a m->(∀b,b<a.size->e b=0)->iE e m d l L->rG c n L->WB c h.length i n b->n+4*b.w<=1000000000000->k<=n->eg a g r c h->eD a t b.ar->
 aL cp 324 [vp d 0,.agg #[O.v g,O.v r],.agg #[O.v t,vi b.aV],vi k] m (AY e m d λf=>(∀j,j<6->(f j).length=k)/\(f 6).length<=1000000000000)
def Vh(m:J)(n:Nat)(v:Value)(c:J):Prop:=∃(a:Nat)(d:Bool),v=.tuple #[vp a 0,vb d]/\N m c/\(d=true->∃e f L,(∀b,b<m.size->e b=0)/\iE e c a f L/\∀j,j<6->(L j).length=n)
def pF.same{c:List bu}{n b:Nat}{L a:Nat->List Int}(h:pF c n b L)(e:∀k,k<7->a k=L k):pF c n b a:=
 ⟨λk d=>by rw[e k V];exact h.len k d,by rw[e 2 bh];exact h.Vw,by rw[e 3 bh,e 4 bh];exact h.Nq,by rw[e 6 bh];exact h.cG⟩
section
variable{p:Nat->Nat}{m g:J}{j:Nat}{f:Nat->O}{L:Nat->List Int}{e:List bu}{h:List gB}{b:Nat}{d r a o:O}{x:cK}{c:Prop}
def PJ(hx:N g m)(aG:iE p m j f L)(hi:rG e b L)(Q:eg g d r e h)(ha:aq g a x.args)(hk:np g o x.bD)(hw:WS e h.length c b x)(u:b+4*x.w<=1000000000000){ac:Nat}{q:Bk}(ab:x.bD[ac]? =some q)(ih:PV e h c q):
 aL cp 305 [vp j 0,.agg #[O.v d,O.v r],oG x a o,vi ac] m (Vh m b):=by
 apply yf (j,0)
 simp -zeta only[aC,aB,cO]
 intro I E
 obtain⟨x2,hl⟩:=dF (a:=I) (c:=E) rfl rfl
 clear_value E
 clear_value I
 have h2:=aG.ext x2
 have ap:=hi.len
 have l0:=h2.len (k:=0) bh
 have n0:=ap 0 bh
 have aZ:=aD ab
 have a0:=hk.len
 have aY:=we ab
 have a3:=cK.lO x
 have Z:=hw.bD ac q ab
 have z:=hx.trans x2
 obtain⟨ah,ht,f0,f1⟩:=hk.D ab
 refine⟨_,h2.bV (k:=0) bh,?_⟩
 refine(KX h2 (λw hj=>by
  by_cases B:w<6
  ·rw[ap w B];omega
  ·have:w=6:=V;subst this;exact hi.cG)).mono λv m3⟨D,A,H,K,aS,t,s,h3,y⟩=>⟨H.Tv hl (N.az _)|>λ_=>λq u=>H.same q (hl q u),(D,0),A,?_⟩
 have S:rG e b t:=hi.same y
 have al:FC E [I.size,m.size] K m3:=⟨H,s,λq u=>⟨H.lt (hl q u),s q (hl q u)⟩⟩
 have gW:∀(M:J)(ad:Nat->Nat)(aj:Nat->O)(Y:Nat->List Int)(F:Nat),FC E [I.size,m.size] ad M->iE ad M D aj Y->rG e F Y->WB e h.length c F q->F<=b+3->b<=F->
  aL cp 324 [vp D 0,.agg #[O.v d,O.v r],.agg #[O.v ah,vi q.aV],vi ((f 0).len:Int)] M λv m'=>dR [I.size,m.size] M m'/\∃T:Bool,v=vb T/\Vh m b (.tuple #[vp D 0,vb T]) m':=λM ad aj Y F W aA ao aH a2 aI=>by
  have e0:(f 0).len=b:=V
  rw[e0]
  refine(ih ad M E D aj Y F b d r ah W.ext W.fW aA ao aH V aI (Q.le z.le) (ht.le z.le)).mono λv m'⟨T,G,A,c5,P⟩=>⟨W.dv c5,T,A,D,T,rfl,x2.trans (W.to c5).ext,λaK=>?_⟩
  obtain⟨U,X,B,h7,_⟩:=P aK
  exact⟨G,U,X,λq u=>(W.to c5).fW q (x2.lt u),B,h7⟩
 refine⟨λC=>?_,λC=>?_⟩
 ·simp only[aE]at C
  have ax:=Q.aT.le z.le
  obtain⟨aX,_⟩:=hw.eO.all C
  refine(gN (Ow K m3) (ax.le H.le) Q.types x.bL).mono λv m4⟨s4,l4,A,aM,e4,x4⟩=>⟨λq u=>x4.same q (al.box q u).1,s4,A,?_⟩
  subst e4
  obtain⟨s,aw⟩:=ag (l:=cg e x.bL) (k:=ac) V
  have ay:=aM.le (bG _ _)
  have l4:=ay.len
  refine⟨V,V,s,ay.D aw,?_⟩
  have ae:=al.jB x4
  have h4:=h3.ext x4
  refine(dC (Ow K m4) (ax.le (QT ae.fW ae.ext)) Q.types s).mono λv m5⟨s5,l5,A,az,e5,x5⟩=>⟨λq u=>x5.same q (ae.box q u).1,s5,A,?_⟩
  subst e5
  have am:=ae.jB x5
  have P:=h4.ext x5
  have aV:=hw.eO.jZ (Or.inr (Or.inr C))
  obtain⟨y,hy⟩:=ag (l:=x.args) (k:=0) V
  obtain⟨y0,y1⟩:=hw.eO.args y (av hy)
  have aW:=ha.len
  have N5:=S.len
  have a4:=P.len (k:=3) bh
  have F:=N5 3 bh;have n4:=N5 4 bh
  have ai:∀{M:J},N E M->af M a.E (a.off+Int.toNat (0:Int)*1)=some (vi y):=λxx=>(ha.ext (z.trans xx)).D hy
  obtain⟨w6,B,c6⟩:=P.put (k:=3) (i:=y.toNat) bh V s
  refine⟨_,P.bV (k:=3) bh,V,V,y,ai am.ext,y0,V,w6,?_⟩
  intro m6
  have an:=am.to c6
  obtain⟨w7,h7,c7⟩:=B.put (k:=4) (i:=y.toNat) bh (by show _<(t 4).length;omega) ((f 0).len:Int)
  have aN:=B.len (k:=4) bh
  have aF:up t 3 ((t 3).set y.toNat s) 4=t 4:=rfl
  rw[aF]at aN
  refine⟨am.dv c6,_,B.bV (k:=4) bh,V,V,y,ai an.ext,y0,V,w7,?_⟩
  intro m7
  have aU:=an.to c7
  have F3:=Ek Q.types s
  have e0:((f 0).len:Int)=b:=V
  have i7:pF e b (b+(cz e s).length) (up (up t 3 ((t 3).set y.toNat s)) 4 ((t 4).set y.toNat ((f 0).len:Int))):=by
   refine⟨λw hj=>?_,λv aP hp=>?_,λv c ar hc hf h1=>?_,by simpa[up]using S.cG⟩
   ·rcases w with _|_|_|_|_|_|w<;>first|omega|(simp[up,N5])
   ·exact S.Vw v aP (by simpa[up]using hp)
   ·have R:((t 3).set y.toNat s)[v]? =some c:=by simpa[up]using hc
    have aa:((t 4).set y.toNat ((f 0).len:Int))[v]? =some ar:=by simpa[up]using hf
    by_cases ev:y.toNat=v
    ·subst ev;rw[eA V]at R aa;simp at R aa;subst R;omega
    ·rw[fK ev]at R aa;have:=S.Nq v c ar R aa h1;omega
  have a1:=az.len
  refine⟨an.dv c7,?_⟩
  refine fB (n:=(cz e s).length) V (λw M=>∃G U X,pF e (b+w) (b+(cz e s).length) X/\To K m5 G M/\FC E [I.size,m.size] G M/\iE G M D U X) ⟨K,_,_,i7,c6.trans c7,aU,h7⟩ ?_
  rintro w M ao μ hj ⟨aR,aT,L8,i8,c8,D,au⟩ aO
  refine dit (λaJ=>?_) λaJ=>?_
  ·obtain⟨aa,hz⟩:=ag (l:=cz e s) (k:=w) V
   refine⟨V,V,aa,(az.le (c8.Yw h4.new)).D hz,V,V,y,ai D.ext,?_⟩
   exact(zO au (λaQ R=>by rw[i8.len aQ R];omega) aa 0 y).mono λv M'⟨G,U,R,h9⟩=>⟨D.dv R,aO V _ ⟨G,U,_,by rw[<-dQ];exact i8.Mx aa 0 V,c8.trans R,D.to R,h9⟩⟩
  ·have R:w=(cz e s).length:=V
   subst R
   rw[Jb C aw]at Z
   exact⟨V,V,ah,(z.trans D.ext).af f0,q.aV,(z.trans D.ext).af f1,gW M aR aT L8 _ D au i8 Z V V⟩
 ·simp only[ak]at C
  rw[Jc C]at Z
  exact⟨V,V,ah,(z.trans H).af f0,q.aV,(z.trans H).af f1,gW m3 K aS t b al h3 S Z V V⟩
end
end
section
def _root_.Go.Vc.Ue{n b:Nat}(g:b<=n)(o:n<=9223372036854775807){m:J}{e:(Int->J->Prop)->(Int->J->Nat)->Int->J->Prop}(Q:Nat->J->Prop)(f:Q b m)
 (h:∀(k:Nat)(a:J)(I:Int->J->Prop)(μ:Int->J->Nat),b<=k->k<=n->Q k a->
  (k<n->∀c,Q (k+1) c->I (cR ((k:Int)+1)) c/\μ (cR ((k:Int)+1)) c<μ k a)->e I μ k a):
 ∃(I:Int->J->Prop)(μ:Int->J->Nat),I b m/\∀i a,I i a->e I μ i a:=by
 refine⟨λi c=>∃k:Nat,i=k/\b<=k/\k<=n/\Q k c,λi _=>(n -i).toNat,⟨b,rfl,ad _,g,f⟩,?_⟩
 rintro i a ⟨k,rfl,j,l,p⟩
 refine h k a _ _ j l p λd c q=>?_
 rw[kV d o]
 exact⟨⟨k+1,rfl,V,d,q⟩,EB d⟩
section
variable{b:Nat->Nat}{m f:J}{e:Nat}{p:Nat->O}{L:Nat->List Int}{g:List bu}{o:List gB}{h:Nat}{d r i j:O}{x:cK}{c:Prop}
def KV(hx:N f m)(fW:∀q,q<f.size->b q=0)(u:iE b m e p L)(hi:rG g h L)(hN:eg f d r g o)(ha:aq f i x.args)(hk:np f j x.bD)(Q:WS g o.length c h x)(s:h+4*x.w<=1000000000000)(ax:x.op=7\/x.op=8)(ih:∀q∈x.bD,PV g o c q):
 aL cp 265 [vp e 0,.agg #[O.v d,O.v r],oG x i j] m (AY b m e (rG g h)):=by
 apply uC (e,0)
 simp -zeta only[aC,aB,cO]
 intro Y I
 have st:=FC.Rt (a:=Y) (g:=I) hx fW u.new rfl rfl
 obtain⟨R,E⟩:=dF (a:=Y) (c:=I) rfl rfl
 clear_value I
 clear_value Y
 have ap:=hk.len
 have aJ:=ha.len
 have aG:=Q.eO.jZ V
 have ar:0<x.bD.length:=by
  rcases ax with W|h8
  ·have:=Q.eO.IK W;omega
  ·exact(Q.eO.all h8).2
 have P:∀{M:J},N I M->To b m b M:=λA=>eC.fP _ (R.trans A) u.new
 have ai:∀(M:J)(H:Nat)(q:Bk),N I M->x.bD[H]? =some q->aL cp 305 [vp e 0,.agg #[O.v d,O.v r],oG x i j,vi H] M (Vh M h):=λM H q A aj=>
  PJ (hx.trans (R.trans A)) (u.ext (R.trans A)) hi hN ha hk Q s aj (ih q (av aj))
 refine⟨λM=>N I M,⟨λ_=>?_,λ_=>N.az _⟩,?_⟩
 ·obtain⟨y,v⟩:=ag (l:=x.args) (k:=0) V
  obtain⟨z,B⟩:=Q.eO.args y (av v)
  refine⟨bh,V,y,(ha.ext st.ext).D v,?_⟩
  exact(rR (u.ext R) hi V z B).mono λaa Z⟨q,t,w⟩=>⟨λq s=>w.same q (E q s),q,t,λ_=>.no (P w),λ_=>w⟩
 ·intro Z w
  obtain⟨b0,ao⟩:=ag ar
  refine(ai Z 0 b0 w ao).mono λaa m4⟨ad,aD,t,S,h1⟩=>⟨λq s=>S.same q (w.lt (E q s)),(ad,0),aD,t,λ_=>.no (P (w.trans S)),λac=>?_⟩
  obtain⟨aE,ah,L1,ak,h1,n1⟩:=h1 (by simpa using ac)
  have u4:=w.trans S
  have ay:=n1 1 bh;have az:=n1 5 bh
  refine Ue (n:=x.bD.length) (b:=1) V (ap▸hk.gV) (λ_ M=>N m4 M) (N.az _) ?_
  rintro H M aF μ aH aK T aA
  have z:=u4.trans T
  have B:=h1.ext T
  refine⟨λX=>?_,λX=>?_⟩
  ·simp only[au]at X
   obtain⟨q,s⟩:=ag (l:=x.bD) (k:=H) V
   refine(ai M H q z s).mono λaa m6⟨ab,al,t,v,D⟩=>⟨λq s=>v.same q (z.lt (E q s)),(ab,0),al,t,λ_=>.no (P (z.trans v)),λac=>?_⟩
   obtain⟨aP,aQ,L2,aN,D,n2⟩:=D (by simpa using ac)
   have am:=n2 1 bh;have aw:=n2 5 bh
   have C:=B.ext v
   refine⟨_,C.bV (k:=1) bh,_,D.bV (k:=1) bh,?_⟩
   refine(pU (C.nu (k:=1) bh V) (D.nu (k:=1) bh V)).mono λaa m7⟨F,t,_,y⟩=>⟨λq s=>y.same q (v.lt (z.lt (E q s))),F,t,λ_=>.no (P (z.trans (v.trans y))),λ_=>?_⟩
   have U:=C.ext y
   have W:=D.ext y
   refine⟨_,U.bV (k:=5) bh,_,W.bV (k:=5) bh,?_⟩
   refine(pU (U.nu (k:=5) bh V) (W.nu (k:=5) bh V)).mono λaa m8⟨F,t,_,K⟩=>⟨λq s=>K.same q (y.lt (v.lt (z.lt (E q s)))),F,t,λ_=>.no (P (z.trans (v.trans (y.trans K)))),λ_=>?_⟩
   exact aA V _ (T.trans (v.trans (y.trans K)))
  ·let y:Nat->Nat:=λq=>if q<Z.size then b q else aE q
   have uu:=R.trans w
   have A:=uu.trans (S.trans T)
   have z4:=S.size;have zM:=T.size;have U:=uu.size
   have K:∀q,q<Z.size->y q=b q:=λq s=>an s
   have H0:iE y M e p L:=by
    have am:=u.ext A;refine⟨λq s=>?_,by rw[K _ (aO u.box.lt U)];exact u.jU,am.box,λv F=>(u.p7 v F).dO (λC=>A.same _ ((u.p7 v F).E C).1) λC=>K _ (aO ((u.p7 v F).E C).1 U)⟩;simp only[y];rw[ae V];exact B.new q s
   have ab:∀v,v<7->iD y M aI 1 (v+1) (ah v) ((L1 v).map Ce.i):=λv F=>(B.p7 v F).dO (λ_=>rfl) λC=>by
    have D:=((B.p7 v F).E C).2;simp only[y];rw[ae λX=>by rw[ak _ X]at D;omega]
   have c3:To b m y M:=⟨A.size,λq s=>K q (aO s U),H0.new,λq s _=>A.same q s⟩
   have al:FC f [Y.size,m.size] y M:=⟨st.ext.trans z,λq s=>by rw[K q (aO (aO s hx.size) U)];exact fW q s,λq s=>⟨z.lt (E q s),by rw[K q (w.lt (E q s))];exact(st.box q s).2⟩⟩
   clear_value y
   refine⟨_,B.bV (k:=1) bh,?_⟩
   obtain⟨w5,h5,c5⟩:=H0.Vy (k:=1) bh (ab 1 bh)
   refine⟨w5,?_⟩
   intro m9
   have aw:ad≠e:=λt=>by
    have h8:=B.jU;rw[t,ak _ (aO u.box.lt U)]at h8;omega
   have G:af m9 ad 5=some (O.v (ah 5)):=(aM (bt _ _ _ _ aw) _).trans (B.bV (k:=5) bh)
   have A5:iD y m9 aI 1 (5+1) (ah 5) ((L1 5).map Ce.i):=by
    refine(ab 5 bh).dO (λC=>bt _ _ _ _ λt=>?_) λ_=>rfl;have:=((ab 5 bh).E C).2;rw[t,H0.jU]at this;omega
   obtain⟨w6,h6,c6⟩:=h5.Vy (k:=5) bh A5
   exact⟨al.dv c5,_,G,w6,(al.to c5).dv c6,.Nt ((c3.trans c5).trans c6) h6 ((hi.aQ ay).YR az)⟩
end
end
section
section
variable{b:Nat->Nat}{m g:J}{f:Nat}{o:Nat->O}{L:Nat->List Int}{e:List bu}{h:List gB}{n:Nat}{d r a j:O}{x:cK}{c:Prop}
def E8(hx:N g m)(fW:∀p,p<g.size->b p=0)(ab:iE b m f o L)(z:rG e n L)(W:eg g d r e h)(E:aq g a x.args)(hk:np g j x.bD)(F:WS e h.length c n x)(v:n+4*x.w<=1000000000000)(ih:∀p∈x.bD,PV e h c p):
 aL cp 242 [vp f 0,.agg #[O.v d,O.v r],oG x a j] m (AY b m f (rG e (n+dn x))):=by
 apply wM (f,0)
 simp -zeta only[aC,aB,cO]
 intro S Y
 have T:=FC.Rt (a:=S) (g:=Y) hx fW ab.new rfl rfl
 have x2:N m Y:=(dF (a:=S) (c:=Y) rfl rfl).1
 clear_value Y
 clear_value S
 have h2:=ab.ext x2
 have ar:=E.len
 have au:=cK.lO x
 have N0:=z.len 0 bh
 refine⟨_,h2.bV (k:=0) bh,?_⟩
 refine(nJ (W.le T.ext.le) (h2.nu (k:=0) bh V) (E.ext T.ext) (hk.le T.ext.le) V (λp _=>mR p)).mono λB m3⟨G,u,_,x3⟩=>⟨λp v=>x3.same p (T.box p v).1,G,u,?_⟩
 have t:=T.jB x3
 have D:=h2.ext x3
 have Q:To b m b m3:=eC.fP _ (x2.trans x3) ab.new
 have jZ:14<=x.op\/x.op=7\/x.op=8->∃y:Int,x.args[0]? =some y/\0<=y/\y<(n:Int):=λho=>by
  have:=F.eO.jZ ho;obtain⟨y,K⟩:=ag (l:=x.args) (k:=0) V;exact⟨y,K,F.eO.args y (av K)⟩
 refine⟨λok M=>∃w,To b m w M/\FC g [S.size,m.size] w M/\(ok=true->∃aa P,iE w M f aa P/\rG e n P),⟨λak=>?_,λaw=>⟨λal=>?_,λax=>⟨λam=>?_,λay=>⟨λh7=>?_,λn7=>?_⟩⟩⟩⟩,?_⟩
 ·simp only[aE]at ak
  obtain⟨y,K,C,Z⟩:=jZ V
  have ad:=F.eO.jZ V
  have X:∀{M:J},N g M->af M a.E (a.off+Int.toNat (0:Int)*1)=some (vi y):=λU=>(E.ext U).D K
  refine⟨bh,V,y,X t.ext,?_⟩
  refine(rR D z V C Z).mono λB H⟨p,u,s⟩=>⟨λp v=>s.same p (t.box p v).1,p,u,?_⟩
  have q:=D.ext s
  have A:=t.jB s
  have N1:=z.len 1 bh
  have l1:=q.len (k:=1) bh
  obtain⟨ac,ah⟩:=ag (l:=L 1) (k:=y.toNat) V
  obtain⟨wr,R,I⟩:=q.put (k:=1) (i:=y.toNat) bh V (cR (ac+1))
  exact⟨_,q.bV (k:=1) bh,bh,V,y,X A.ext,_,q.bV (k:=1) bh,bh,V,y,X A.ext,C,V,ac,q.D bh V ah,C,V,wr,A.dv I,b,(Q.trans (eC.fP _ s D.new)).trans I,A.to I,λ_=>⟨o,_,R,z.aQ (by simp[N1])⟩⟩
 ·simp only[aE]at al
  obtain⟨y,K,C,Z⟩:=jZ V
  have ad:=F.eO.jZ V
  refine⟨bh,V,y,(E.ext t.ext).D K,?_⟩
  refine(tY D z V C Z).mono λB H⟨p,w,u,s,q⟩=>⟨t.dv s,p,u,w,Q.trans s,t.to s,λv=>?_⟩
  obtain⟨aa,P,R,ac,X,rfl⟩:=q v
  exact⟨aa,_,R,z.aQ X⟩
 ·simp only[bT,aE]at am
  refine(OF t.ext t.fW D z V W E F.eO V).mono λB H⟨p,w,u,s,q⟩=>⟨t.dv s,p,u,w,Q.trans s,t.to s,q⟩
 ·simp only[bT,aE]at h7
  refine(KV t.ext t.fW D z W E hk F v h7 ih).mono λB H⟨p,w,u,s,q⟩=>⟨t.dv s,p,u,w,Q.trans s,t.to s,q⟩
 ·refine(Ih t.ext t.fW D z V W E F.eO).mono λB H⟨p,w,u,s,q⟩=>⟨t.dv s,p,u,w,Q.trans s,t.to s,q⟩
 ·rintro ok M ⟨az,s,A,q⟩
  refine⟨λ_=>.no s,λap=>?_⟩
  obtain⟨aA,L4,q,i4⟩:=q (by simpa using ap)
  have gr:∀{M':J}(G Z:Int),N M M'->dn x=1->aL cp 262 [vp f 0,vi G,vi Z,vi (-1:Int)] M' λ_ m'=>dR [S.size,m.size] M' m'/\AY b m f (rG e (n+dn x)) (vb true) m':=λG Z U hd=>
   (zO (q.ext U) (λH C=>by rw[i4.len H C];omega) G Z (-1)).mono λ_ m'⟨w,aa,I,R⟩=>⟨(A.jB U).dv I,.Nt ((s.trans (eC.fP _ U q.new)).trans I) R (by rw[hd];exact(i4.Mx G Z V).CD V)⟩
  refine(je x.op M).mono λB m5⟨p,u,ac,C⟩=>⟨λp v=>C.same p (A.box p v).1,p,u,λai=>⟨λ_=>?_,λ_=>?_⟩,λao=>?_⟩
  ·exact gr G 1 C (by have:=sB x p ac;rw[an ai]at this;exact this)
  ·refine(je x.op m5).mono λB m6⟨P,u,X,H⟩=>⟨λp v=>H.same p (C.lt (A.box p v).1),P,u,λah=>?_,λad=>?_⟩
   ·exact gr 0 0 (C.trans H) (by have:=sB x P X;rw[an ah]at this;exact this)
   ·have:=X.2 (ac.1 ai);rw[this]at ad;simp at ad
  ·have aj:=sB x p ac
   rw[ae (by simp[ao])]at aj
   refine(je x.op m5).mono λB m6⟨P,u,X,H⟩=>⟨λp v=>H.same p (C.lt (A.box p v).1),P,u,λah=>?_,λad=>?_⟩
   ·exact gr 0 0 (C.trans H) (by have:=sB x P X;rw[an ah]at this;exact this)
   ·exact .Nt (s.trans (eC.fP _ (C.trans H) q.new)) (q.ext (C.trans H)) (by rw[aj];exact i4)
end
def K5{C:List bu}{rs:List gB}{I:Prop}:∀b:Bk,PV C rs I b:=by
 refine Bk.ind ?_;intro ar ac ih s q mb F sl L aa E af an aq hx fW u S Z p hk P y;simp only[Bk.jq,Bk.iH,Bk.pW]at*;apply vH (F,0);simp -zeta only[aC,aB,cO];intro r o;have st:=FC.Rt (a:=r) (g:=o) hx fW u.new rfl rfl;have G:N q o:=(dF (a:=r) (c:=o) rfl rfl).1;have J:To s q s o:=eC.fP _ G u.new;clear_value o;clear_value r;obtain⟨D,z,r1⟩:=Z.bd;simp only[Bk.jq,Bk.iH]at D z r1;have Y:=y.len;have W:=Aw ar;refine fB (n:=ar.length) (Y▸y.gV) (λi M=>∃g t h,rG C (aa+dc (ar.take i)) h/\To s q g M/\FC mb [r.size,q.size] g M/\iE g M F t h) ⟨s,sl,L,by simpa using S,J,st,u.ext G⟩ ?_;rintro i M ad μ ai ⟨ao,ap,H,f,j,c,d⟩ ab
 have ah:=sq (ar.take i);have aj:=pX i ar;have ak:=fH (ar.take i);refine dit (λU=>?_) λU=>?_
 ·obtain⟨x,m⟩:=ag (l:=ar) (k:=i) V;obtain⟨ae,kk,Q,T,A,g1,g2,K,O⟩:=y.D m;have am:=pu m;have al:=W (i+1);have R:=qd m;have X:=c.ext;refine⟨V,V,_,X.af A,_,X.af g1,_,X.af g2,_,X.af K,_,X.af O,?_⟩;refine(E8 X c.fW d f P Q T (D i x m) V (ih x (av m))).mono λB m4⟨b,g,e,a,v⟩=>⟨c.dv a,b,e,λ_=>.no (j.trans a),λp=>?_⟩;obtain⟨t,h,w,i5⟩:=v (by simpa using p);exact ab V _ ⟨g,t,h,by rw[R,<-dQ];exact i5,j.trans a,c.to a,w⟩
 ·have K:i=ar.length:=V;rw[K,fE]at f;have ae:=sq ar;have al:=fH ar;have X:=f.len 0 bh;have l0:=d.len (k:=0) bh;obtain⟨T,Q⟩:=ag (l:=H 0) (k:=ac.toNat) V;refine⟨_,d.bV (k:=0) bh,z,V,T,d.D bh V Q,λ_=>?_,λ_=>?_⟩
  ·refine(tY d f V z V).mono λB m4⟨b,g,e,a,v⟩=>⟨c.dv a,b,e,λ_=>.no (j.trans a),λp=>?_⟩;obtain⟨t,h,w,am,O,rfl⟩:=v (by simpa using p);refine(J7 w (f.aQ O) V (b:=E) V).mono λB R⟨b,A,e,m,x⟩=>⟨(c.to a).dv m,b,e,b,A,rfl,(j.trans a).trans m,x⟩
  ·refine(J7 d f V (b:=E) V).mono λB R⟨b,A,e,m,x⟩=>⟨c.dv m,b,e,b,A,rfl,j.trans m,x⟩
def V0(m:J)(f:List bu)(q:gB)(j:Int)(v:Value)(c:J):Prop:=∃(a:Nat)(d:Bool),v=.tuple #[vp a 0,vb d]/\N m c/\(d=true->0<=j/\j<=q.body.ar.length/\∃e g L,(∀b,b<m.size->e b=0)/\iE e c a g L/\rG f (q.params.length+dc (q.body.ar.take j.toNat)) L)
def Dq{m:J}{K Z:O}{f:List bu}{B:List gB}{ab:Prop}{W:Nat}(h:eg m K Z f B)(R:xH f B ab W)(hW:W<=200000000000){L:Nat}{a:gB}(y:B[L]? =some a){j:Int}(hj: -9000000000000000000<=j/\j<=9000000000000000000):
 aL cp 222 [.agg #[O.v K,O.v Z],vi L,vi j] m (V0 m f a j):=by
 apply wJ
 simp -zeta only[aC,aB]
 intro o
 have F:N m o:=N.push _ _
 have g:∀b∈[m.size],b<o.size:=by simp[o]
 clear_value o
 have aI:=h.ir.len;have aH:=h.nR
 have aF:=aD y
 obtain⟨ai,af,al,hw⟩:=R.dz a (av y)
 obtain⟨aO,aP,b,c1,c2,I,e0,e1,e2,x,e4⟩:=h.ir.D y
 have z:∀{M:J}{ao:Obj},N m M->V0 m f a j (.tuple #[vp M.size 0,vb false]) (M.push ao):=λxx=>⟨_,false,rfl,xx.aN _,aJ⟩
 refine(DJ (h.le F.le) (λd c=>by have:=R.dz d c;omega)).aK (N.az o) g λv1 m2 G _=>⟨_,rfl,λ_=>z (F.trans G),λ_=>?_⟩
 have u2:=F.trans G
 refine(bF _ _ _ _).aK G g λv2 m3 _ x3 v3=>⟨_,rfl,λ_=>z (u2.trans x3),λ_=>?_⟩
 have D:=u2.trans x3
 have az:=I.len
 refine⟨V,V,_,D.af x,?_⟩
 refine(bF _ _ _ _).aK v3 g λv4 T ac x4 E=>⟨_,rfl,λ_=>z (D.trans x4),λak=>?_⟩
 have c:=D.trans x4
 have hr:=ac.1 (by simpa using ak)
 refine⟨V,V,_,c.af e0,_,c.af e1,_,c.af e2,_,c.af x,_,c.af e4,?_⟩
 refine(GK (q:=a) (c1.ext c) (c2.ext c) ai af f).mono λau Y⟨v,w,H,A,sl,aa,fW,P,i5⟩=>⟨λb d=>H.same b (E.lt (g b d)),(v,0),w,?_⟩
 obtain⟨am,_,_⟩:=al.bd
 have aA:=Bk.lO a.body
 have aj:=Aw a.body.ar
 have ar:FC T [m.size] A Y:=⟨H,fW,λb d=>⟨H.lt (E.lt (g b d)),fW b (E.lt (g b d))⟩⟩
 have e6:j=((j.toNat:Nat):Int):=V
 obtain⟨u,ad⟩:∃u:Nat,j=u:=⟨j.toNat,e6⟩
 subst ad
 simp only[tg]
 refine fB (n:=u) V (λi M=>∃p C r,rG f (a.params.length+dc (a.body.ar.take i)) r/\To A Y p M/\FC T [m.size] p M/\iE p M v C r) ⟨A,sl,aa,by simpa using i5,P.to,ar,P⟩ ?_
 rintro i M ax μ aG ⟨ap,aq,L6,S,c6,e,Q⟩ an
 have U:N m M:=c.trans e.ext
 refine dit (λah=>?_) λah=>?_
 ·obtain⟨aw,t⟩:=ag (l:=a.body.ar) (k:=i) V
  obtain⟨ay,kk,ha,ae,g0,g1,g2,g3,g4⟩:=(I.le c.le).D t
  have X:=e.ext
  have aN:=pu t
  have aM:=aj (i+1)
  have aE:=sq (a.body.ar.take i)
  have aK:=fH (a.body.ar.take i)
  refine⟨V,V,_,U.af x,V,V,_,X.af g0,_,X.af g1,_,X.af g2,_,X.af g3,_,X.af g4,?_⟩
  refine(E8 X e.fW Q S (h.le c.le) ha ae (am i aw t) V (λb _=>K5 b)).mono λau m7⟨b,p,w,s,h7⟩=>⟨e.dv s,b,w,λ_=>⟨v,false,rfl,c.trans (e.to s).ext,aJ⟩,λd=>?_⟩
  obtain⟨C,r,h8,i8⟩:=h7 (by simpa using d)
  exact an V _ ⟨p,C,r,by rw[qd t,<-dQ];exact i8,c6.trans s,e.to s,h8⟩
 ·have p:i=u:=V
  subst p
  exact⟨v,true,rfl,U,λ_=>⟨V,V,ap,aq,L6,λb d=>e.fW b (c.lt d),Q,by simpa using S⟩⟩
end
section
variable{g f:Int}{c P:Nat}{d:O}{m:J}
def Qt(a:0<=g)(b:0<f):0<=g.tmod f/\g.tmod f<f:=⟨Int.tmod_nonneg _ a,Int.tmod_lt_of_pos _ b⟩
def LU(a:0<=g)(b:0<f):0<=g.tdiv f/\g.tdiv f<=g:=by
 rw[pA a];exact⟨Int.ediv_nonneg a V,Int.ediv_le_self _ a⟩
def TD{b:Int}(e:0<=g/\g<4611686018427387904)(f:0<=b/\b<4611686018427387904):0<=TC g b:=by
 unfold TC;have a:(g%18446744073709551616).toNat<2^62:=V;have c:(b%18446744073709551616).toNat<2^62:=V;have d:=Nat.xor_lt_two_pow a c;rw[aP V V];omega
def Rd(c:Nat)(d:O)(P:Nat)(m:J):Prop:=(∃p:Int,cx m c pw [.s d,.i p]/\0<=p/\p<=P)/\d.len<=d.cap/\∀k:Nat,k<d.len->∃v:Int,0<=v/\v<=255/\af (bM [c] m) d.E (d.off+k*1)=some (.int .u8 v)
def Rd.mono{Q:Nat}(h:Rd c d P m)(g:P<=Q):Rd c d Q m:=let⟨⟨p,a,b,f⟩,e⟩:=h;⟨⟨p,a,b,V⟩,e⟩
def Rd.lt{c P:Nat}{d:O}{m:J}(h:Rd c d P m):c<m.size:=let⟨⟨_,a,_⟩,_⟩:=h;a.lt
def Rd.MC{f:Nat}{e M a:J}(b:Rd c d f e)(h:Rd c d P M)(l:Fz [c] e a)(k:a[c]? =M[c]?):Rd c d P a:=by
 obtain⟨⟨p,g,i,j⟩,_⟩:=h;exact⟨⟨p,g.congr k,i,j⟩,b.2.1,λo m=>let⟨v,q,r,n⟩:=b.2.2 o m;⟨v,q,r,l.cW (λ_ h=>h) _ _ _ n⟩⟩
def Rd.ext{b:J}(h:Rd c d P m)(a:N m b):Rd c d P b:=h.MC h (a.fz _) (a.same _ h.lt)
def Rd.ah{c g P:Nat}{d:O}{a M:J}(f:Rd c d g a)(h:Rd c d P M)(j:Fz [c] a M){b:Nat}(i:a.size<=b)(o:Nat)(l:List Ce):Rd c d P (ah M b o l):=
 f.MC h (j.ah (Or.inr i) o l) (bt _ _ _ _ λe=>by have:=f.lt;omega)
def V9(c:Nat)(d:O)(P:Nat)(m:J)(f:Int)(v:Value)(a:J):Prop:=∃k:Int,v=vi k/\0<=k/\(k<f\/k=0)/\Rd c d (P+1) a/\Fz [c] m a
def cw(s:Rd c d P m)(hP:P<=10000000000000000)(f:Int):aL cp 81 [vp c 0,vi f] m (V9 c d P m f):=by
 obtain⟨⟨p,t,q,p1⟩,X,E⟩:=s;apply wP (c,0);simp -zeta only[cO];have g1:af m c 1=some (vi p):=t.bV 1;refine⟨p,g1,t.dZ aJ,?_⟩;intro g;have U:cR (p+1)=p+1:=aP V V;have T:cR (p+1 -1)=p:=by rw[show p+1 -1=p by omega];exact aP V V
 have w:cx g c pw [.s d,.i (p+1)]:=by rw[<-U];exact cx.ah (m:=m) (r:=[.i (cR (p+1))]) (o:=1) t
 have A:Fz [c] m g:=(Fz.az [c] m).ah (Or.inl aJ) _ _;have F:Le (bM [c] m) (bM [c] g):=A.cW λ_ s=>s;clear_value g;have R:∀k:Int,0<=k->(k<f\/k=0)->V9 c d P m f (vi k) g:=λk C D=>⟨k,rfl,C,D,⟨⟨p+1,w,V,V⟩,X,λj e=>let⟨v,i,l,h⟩:=E j e;⟨v,i,l,F _ _ _ h⟩⟩,A⟩;have e:af g c 0=some (O.v d):=w.bV 0;have g1:af g c 1=some (vi (p+1)):=w.bV 1;have B:∀j:Int,0<=j->j<(d.len:Int)->∃v:Int,0<=v/\v<=255/\af g d.E (d.off+j.toNat*1)=some (.int .u8 v):=λj C D=>by
  obtain⟨v,i,l,h⟩:=E j.toNat V;exact⟨v,i,l,(dV.1 (F _ _ _ h)).2⟩
 refine⟨λ_=>R 0 (cC _) (Or.inr rfl),λZ=>⟨_,e,λ_=>R 0 (cC _) (Or.inr rfl),λY=>?_⟩⟩;simp only[bU]at Z;simp only[ak]at Y;have G:0<f:=V;refine⟨_,g1,_,e,?_⟩;rw[T];refine⟨λz=>?_,λ_=>?_⟩
 ·simp only[au]at z;obtain⟨v,i,l,h⟩:=B p q z;refine⟨_,e,q,z,v,h,V,?_⟩;rw[aP V V];have:=Qt i G;exact R _ this.1 (Or.inl this.2)
 ·have y:(0:Int)<(d.len:Int):=V;obtain⟨I,J⟩:=Qt q y;obtain⟨v,i,l,h⟩:=B _ I J;have S:cR (cR (p*7)+3)=p*7+3:=by rw[aP (b:=p*7) V V,aP V V]
  obtain⟨K,L⟩:=Qt (g:=p*7+3) V y;obtain⟨u,u0,u1,hu⟩:=B _ K L;obtain⟨d0,d1⟩:=LU q y;rw[S];refine⟨_,e,_,e,V,I,J,v,h,_,e,_,e,V,K,L,u,hu,_,e,V,bh,V,?_⟩;have M:cR (cR v*131)=v*131:=by rw[aP (b:=v) V V,aP V V]
  have N:cR (cR u*1117)=u*1117:=by rw[aP (b:=u) V V,aP V V]
  have E3:cR (p*29)=p*29:=aP V V;have Q:cR (cR (p.tdiv d.len)*53)=p.tdiv d.len*53:=by rw[aP (b:=p.tdiv d.len) V V,aP V V]
  rw[M,N,E3,Q,aP (b:=v*131+u*1117) V V,aP (b:=v*131+u*1117+p*29) V V,aP (b:=v*131+u*1117+p*29+p.tdiv d.len*53) V V];have H:0<=v*131+u*1117+p*29+p.tdiv d.len*53:=V;obtain⟨q0,q1⟩:=LU (f:=64) H bh;rw[aP (b:=Int.tdiv _ 64) V V];have W:=TD (g:=v*131+u*1117+p*29+p.tdiv d.len*53) (b:=(v*131+u*1117+p*29+p.tdiv d.len*53).tdiv 64) ⟨H,V⟩ ⟨q0,V⟩;obtain⟨z0,z1⟩:=Qt W G;exact R _ z0 (Or.inl z1)
def j9(h:Rd c d P m)(o:P<=10000000000000000){s:O}{b:List Int}(f:aq (bM [c] m) s b)(q:0<b.length):
 aL cp 84 [vp c 0,O.v s] m λv i=>∃a:Int,v=vi a/\a∈b/\Rd c d (P+1) i/\Fz [c] m i:=by
 apply yi (c,0)
 have r:=f.len
 refine(cw h o (s.len:Int)).mono λv u⟨a,j,p,t,n,e⟩=>⟨a,j,p,V,?_⟩
 obtain⟨x,g⟩:=ag (l:=b) (k:=a.toNat) V
 exact⟨x,(dV.1 ((e.cW (λ_ h=>h)) _ _ _ (f.D g))).2,x,rfl,av g,n,e⟩
end
section
variable{d:List Nat}{c:J}
def _root_.Go.Vc.Gr.set{α:Type}{d X:List Nat}{u c:J}{A f:Nat}{R:J->List Ce->α->Prop}{s:O}{z:List α}(x:nM f R)(h:Gr d u c A f R s z)(hf:Fz X u c){k:Nat}(I:k<z.length){cs:List Ce}{a:α}(F:R (bM (s.E::d) c) cs a):
 dZ c s.E (s.off+k*f) f/\Gr d u (ah c s.E (s.off+k*f) cs) A f R s (z.set k a)/\Fz X u (ah c s.E (s.off+k*f) cs)/\(∀g,g≠s.E->(ah c s.E (s.off+k*f) cs)[g]? =c[g]?):=by
 have hy:=h.be
 obtain⟨D,e,E,j⟩:=h
 have ab:∀g,g≠s.E->(ah c s.E (s.off+k*f) cs)[g]? =c[g]? :=λg hb=>bt _ _ _ _ hb
 obtain⟨g,i,tail,v,S,B,T,U⟩:=E.D.resolve_left D
 have H:=x.len F
 obtain⟨n,y⟩:=ag (l:=e) (k:=k) (by rw[j.len];exact I)
 have af:=j.size n (av y)
 have N:s.off+k*f=k*f:=by rw[v];simp
 have G:s.E=g:=by rw[v];rfl
 have K:=aD y
 have P:e=e.take k++n::e.drop (k+1):=by
  have w:=List.getElem?_eq_some_iff.1 y;obtain⟨Y,Z⟩:=w;rw[<-Z,<-Ci Y,cT]
 have ad:(e.take k).flatten.length=k*f:=by rw[df λi p=>j.size i (jL p),gU,jc V]
 have ac:e.set k cs=e.take k++cs::e.drop (k+1):=by
  rw[Nu,an K]
 have aa:iK (e.flatten++tail) (k*f) cs=(e.set k cs).flatten++tail:=by
  have W:e.flatten++tail=(e.take k).flatten++(n++((e.drop (k+1)).flatten++tail)):=by
   conv=>lhs;rw[P]
   simp
  rw[W,<-ad,AQ _ _ _ bR,ac];rw[show cs.length=n.length by omega,List.drop_left];simp
 have M:(e.set k cs).flatten.length=e.flatten.length:=by
  rw[df (b:=f) λi p=>?_,df j.size,jO];rcases dE p with h|h
  ·exact j.size i h
  ·rw[h];exact H
 have L:Le (bM (s.E::d) c) (bM (s.E::d) (ah c s.E (s.off+k*f) cs)):=cv aJ λ_ h=>h
 refine⟨?_,⟨D,e.set k cs,⟨by rw[M];exact E.len,Or.inr ⟨g,i,tail,v,S,?_,?_,U⟩⟩,⟨by simp[j.len],λi p=>?_,λQ i ae q t=>?_⟩⟩,hf.ah (Or.inr hy.1) _ _,ab⟩
 ·rw[N,G]
  refine B.dZ ?_
  have:(e.take k).flatten.length+n.length<=e.flatten.length:=by
   conv=>rhs;rw[P]
   simp
  simp only[a8];omega
 ·have w:=cx.ah (m:=c) (b:=g) (r:=cs) (o:=k*f) B
  rw[N,G,<-aa];exact w
 ·rw[<-T,a8,a8,M]
 ·rcases dE p with h|h
  ·exact j.size i h
  ·rw[h];exact H
 ·by_cases C:k=Q
  ·subst C
   rw[eA K]at q
   rw[eA I]at t
   simp at q t;subst q t
   exact x.le L F
  ·rw[fK C]at q t
   exact x.le L (j.dz Q i ae q t)
def Af(hS:∀a∈d,a<c.size){g C K:O}{S:Int}{ar:List cK}{q:cK}{f:Nat}(s:eD (bM d c) g ar)(ha:aq (bM d c) C q.args)(hk:np (bM d c) K q.bD)(hj:f<=ar.length)(hb:ar.length<=900000000000):
 aL cp 224 [.agg #[O.v g,vi S],vi f,oG q C K] c λah L=>∃W,ah=.agg #[O.v W,vi S]/\eD (bM d L) W (ar.take f++[q]++ar.drop f)/\N c L:=by
 apply Dx
 simp -zeta only[aC,aB]
 intro P h e k
 obtain⟨r,m,s1,s2,s3⟩:=pH (a:=P) (b:=h) (c:=e) rfl rfl rfl
 have z:N e k:=N.push _ _
 have s4:k.size=e.size+1:=by simp[k]
 have g0:GS (h.size::d) e k (.mk e.size 0 0 0) []:=GS.new _ _
 clear_value k
 clear_value e
 have u4:=r.trans z
 have I:=s.len
 have ak:=s.cap
 have G:∀a∈[h.size,P.size,c.size],a<k.size:=λa b=>z.lt (m a b)
 have H:∀{M:J}{D:Nat},N c M->c.size<=D->Le (bM d c) (bM (D::h.size::d) M):=λxx aj=>xx.bM λa b=>by
  simp only[aU]at b;rcases b with l|l|l
  ·exact Or.inr V
  ·exact Or.inr V
  ·exact Or.inl l
 have X:Int.toNat (0:Int)=0:=rfl
 have Y:Int.toNat (f:Int)=f:=V
 have Z:Int.toNat (g.len:Int)=g.len:=V
 rw[X,Y,Z]
 refine⟨V,V,V,?_⟩
 have ac:eD (bM (e.size::h.size::d) k) (g.cut 0 f 5) (ar.take f):=by simpa using(s.le (H (D:=e.size) u4 V)).Jk (i:=0) (eY _) hj
 refine GS.all g0 (z.fz []) ac bR λT y g1 E z1 q1=>⟨λa b=>q1 a (G a b) (by have:=m a b;simp;omega),V,V,V,?_⟩
 intro Q
 have t:N y Q:=N.push _ _
 have y1:=g1.be
 have n:N e y:=E.ext
 have A:∀o,af Q c.size o=af y c.size o:=λo=>aM (t.same _ (by have:=G c.size aJ;omega)) o
 refine⟨A 1,A 0,?_⟩
 refine GS.jY (x:=q) g1 E (ha.le (H (D:=T.E) (r.trans n) V)) (hk.le (H (D:=T.E) (r.trans n) V)) bR λU R g2 v z2 q2=>⟨N.nW (n.trans t) v.ext (λa b=>by have:=m a b;omega),?_⟩
 have p:N e R:=v.ext
 have y2:=g2.be
 have u:∀{M B:J},N e M->N e B->∀o,af B c.size o=af M c.size o:=λaa h' o=>aM (by rw[h'.same _ (m _ aJ),aa.same _ (m _ aJ)]) o
 refine⟨u (n.trans t) p 1,u (n.trans t) p 0,?_⟩
 have ae:eD (bM (U.E::h.size::d) R) (g.cut f g.len 5) (ar.drop f):=by
  have:=(s.le (H (D:=U.E) (r.trans p) V)).Jk (i:=f) (j:=g.len) V V;rwa[I,cN (ad _),<-I]at this
 refine GS.all g2 v ae bR λr3 m8 F w z3 q3=>⟨N.nW p w.ext m,u p w.ext 1,?_⟩
 intro m9
 have y3:=F.be
 have ab:∀a∈h.size::d,a<e.size:=λa b=>by
  rcases List.mem_cons.1 b with l|l
  ·omega
  ·have:=hS a l;omega
 refine⟨r3,rfl,?_,(r.trans w.ext).ah V _ _⟩
 have hD:=F.done gG.mono ab bh bR
 have ag:Le (bM (h.size::d) m8) (bM d m9):=cv aJ λa b=>ai _ b
 exact eD.le ag (by simpa[eW]using hD)
def DL(C:∀b∈d,b<c.size){u K p:O}{A:List bu}{w:List gB}{q:gB}{n:Nat}{l:Bk}(i:eg (bM d c) u K A w)(D:w[n]? =some q)(h3:q.params.length<=3/\q.cG.length<=3)(ag:eD (bM d c) p l.ar):
 ue 226 [.agg #[O.v u,O.v K],vi n,.agg #[O.v p,vi l.aV]] c d A λah=>ah=w.set n ⟨q.params,q.cG,q.aV,l⟩:=by
 apply wX
 simp -zeta only[aC,aB]
 intro E h g j
 obtain⟨r,o,s1,s2,s3⟩:=pH (a:=E) (b:=h) (c:=g) rfl rfl rfl
 have y:N g j:=N.push _ _
 have s4:j.size=g.size+1:=by simp[j]
 have g0:GR (h.size::d) g j (.mk g.size 0 0 0) []:=Gr.new _ (ad _) _ _ _
 clear_value j
 clear_value g
 have u4:=r.trans y
 have an:=i.ir.len;have am:=i.nR
 have ak:=aD D
 have ac:∀b∈[h.size,E.size,c.size],b<j.size:=λb e=>y.lt (o b e)
 have H:∀{M:J}{z:Nat},N c M->c.size<=z->Le (bM d c) (bM (z::h.size::d) M):=λxx aj=>xx.bM λb e=>by
  simp only[aU]at e;rcases e with f|f|f
  ·exact Or.inr V
  ·exact Or.inr V
  ·exact Or.inl f
 refine Gr.all (g:=[.s .nil,.s .nil,.i 0,.s .nil,.i 0]) ik.mono bh g0 (y.fz []) (i.ir.le (H (z:=g.size) u4 V)) bR λm v g1 B z1 q1=>⟨λb e=>q1 b (ac b e) (by have:=o b e;simp;omega),V,V,?_⟩
 simp only[dN]at g1
 have x:N g v:=B.ext
 have y1:=g1.be
 obtain⟨ao,ap,t,R,T,c3,U,W,X,Y,Z⟩:=(i.ir.le (H (z:=m.E) (r.trans x) V)).D D
 have fW:∀{P:Value}{t G:Nat},af (bM (m.E::h.size::d) v) t G=some P->af v t G=some P:=λaa=>(dV.1 aa).2
 refine⟨_,fW U,_,fW W,_,fW X,_,fW Y,_,fW Z,?_⟩
 have z5:=x.size
 refine(xB (b:=m.E::h.size::d) (λb e=>?_) (R.le (bG _ _)) (T.le (bG _ _)) V).mono λrv m6⟨I,L,f,h1,h2,s⟩=>?_
 ·simp only[aU]at e
  rcases e with f|f|f
  ·omega
  ·omega
  ·have:=C b f;omega
 subst f
 have g2:=g1.ext ik.mono s
 have al:=g2.len bh
 obtain⟨wr,g3,f3,q3⟩:=Gr.set (k:=n) (cs:=[.s I,.s L,.i q.aV,.s p,.i l.aV]) (a:=⟨q.params,q.cG,q.aV,l⟩) ik.mono g2 (B.then s) V ⟨I,L,p,rfl,h1,h2,ag.le (H (z:=m.E) ((r.trans x).trans s) V)⟩
 refine⟨λb e=>s.same b (by have:=o b e;omega),_,_,_,_,_,rfl,V,V,wr,?_⟩
 intro m7
 refine⟨λb e=>q3 b (by have:=o b e;omega),?_⟩
 intro F
 have ab:∀b∈h.size::d,b<g.size:=λb e=>by
  rcases List.mem_cons.1 e with f|f
  ·omega
  ·have:=C b f;omega
 have ae:Le (bM (h.size::d) m7) (bM d F):=cv aJ λb e=>ai _ e
 have Q:N c F:=(r.trans f3.ext).ah V _ _
 exact⟨u,m,_,rfl,⟨i.aT.le (Q.cW _),yH.le ae (g3.done ik.mono ab bh bR),i.types,bR⟩,rfl,Q⟩
end
def Ss{c:List bu}{f b:Nat}{l:List cK}(h:WL c f True b l){j:Nat}{a v:Int}(e:14<=a/\a<=17)(m:0<=v/\v<((b+dc (l.take j):Nat):Int)):
 WL c f True b (l.take j++[eN a v]++l.drop j)/\dc (l.take j++[eN a v]++l.drop j)=dc l/\sw (l.take j++[eN a v]++l.drop j)=sw l+2:=by
 have d:dc [eN a v]=0:=js e.1 [v]
 have g:sw [eN a v]=2:=nO a [v]
 have i:=cL (l.take j) (l.drop j)
 have k:=dq (l.take j) (l.drop j)
 rw[cT]at i k
 refine⟨((h.take j).zp (CL e m)).append ?_,?_,?_⟩
 ·rw[cL,d];exact h.drop j
 ·rw[cL,cL,d];omega
 ·rw[dq,dq,g];omega
def Rb(h:Nat)(e:List Value)(m:J)(S:List Nat)(b:Nat)(f:O)(P:Nat)(g:List bu)(Q:List gB->Prop):Prop:=
 aL cp h e m λv a=>∃d r c,v=.agg #[O.v d,O.v r]/\eg (bM S a) d r g c/\Q c/\Rd b f P a/\Fz [b] m a
def OD{h:List Nat}{m:J}(hS:∀o∈h,o<m.size){d P:Nat}{R:O}(ax:d∈h)(h0:Rd d R P m)(hP:P+4<=10000000000000000){z u:O}{C:List bu}{L:List gB}(hn:eg (bM h m) z u C L){aa:Nat}(T:xH C L True aa)(hW:aa<=200000000000):
 Rb 194 [vp d 0,.agg #[O.v z,O.v u]] m h d R (P+4) C λX=>xH C X True (aa+4):=by
 apply Ii (d,0)
 simp -zeta only[aC,aB,cO]
 intro f ai
 obtain⟨x2,hl⟩:=dF (a:=f) (c:=ai) rfl rfl
 have s1:f.size=m.size+1:=by simp[f]
 have s2:ai.size=m.size+2:=by simp[ai,s1]
 clear_value ai
 have bZ:=hn.ir.len;have bY:=hn.nR
 have b0:=h0.lt
 have nb:∀a∈[f.size,m.size],a<ai.size/\a∉[d]:=λa c=>⟨hl a c,by have:=hl a c;simp at c⊢;omega⟩
 have Bf:xH C L True (aa+4):=⟨T.iu,λq F=>let⟨g,a,o,e⟩:=T.dz q F;⟨g,a,o,V⟩⟩
 refine(cw (h0.ext x2) V (u.len:Int)).mono λp g⟨ab,e,f0,f1,h3,z3⟩=>⟨z3.dv nb,ab,e,?_⟩
 have u3:Fz [d] m g:=(x2.fz _).trans z3
 have bQ:ab<(L.length:Int):=by have:=T.iu;omega
 obtain⟨q,F⟩:=ag (l:=L) (k:=ab.toNat) V
 obtain⟨aI,aH,bm,hw⟩:=T.dz q (av F)
 have Hn:∀{M:J},Fz [d] m M->eg (bM h M) z u C L:=λs=>hn.le (s.cW λa c=>by simp at c;subst c;exact ax)
 have HS:∀{M:J}(bb:Nat),m.size<=bb->Fz [d] m M->Le (bM h m) (bM (bb::f.size::h) M):=λbb bK gg=>gg.bM (λa c=>by simp at c;subst c;exact ax) λo t=>by
  simp only[aU]at t;rcases t with e|e|e
  ·exact Or.inr V
  ·exact Or.inr V
  ·exact Or.inl e
 have ch:=z3.size
 obtain⟨ca,cc,a,c1,c2,c3,e0,e1,e2,e3,e4⟩:=(hn.le (HS g.size V u3)).ir.D F
 have fW:∀{M:J}{h:List Nat}{p:Value}{a I:Nat},af (bM h M) a I=some p->af M a I=some p:=λE=>(dV.1 E).2
 refine⟨f0,V,a,fW e3,q.body.aV,fW e4,?_⟩
 intro m4 m5
 have x5:N g m5:=(N.push g _).ah (ad _) _ _
 have s5:m5.size=g.size+1:=by simp[m5,m4,ay]
 clear_value m5
 have bL:=c3.len
 have bW:=c3.gV
 have bN:=Bk.lO q.body
 have b1:=fH q.body.ar
 have aw:∀a∈[g.size,f.size,m.size],a<m5.size/\a∉[d]:=λa c=>by simp at c⊢;omega
 rw[aP V V]
 refine(cw (h3.ext x5) V _).mono λp m6⟨G,e,j0,j1,h6,z6⟩=>⟨z6.dv aw,G,e,?_⟩
 have u6:Fz [d] m m6:=(u3.then x5).trans z6
 have bD:=z6.size
 have bc:=(Hn u6).le (bG _ _)
 obtain⟨fn,a4⟩:∃fn:Nat,ab=fn:=⟨ab.toNat,V⟩
 subst a4
 simp only[tg]at F
 have am:∀a∈[g.size,f.size,m.size],a<m6.size/\a∉[d]:=λa c=>⟨aO (aw a c).1 bD,(aw a c).2⟩
 have aQ:∀{M:J},Rd d R (P+4) M->Fz [d] m M->∃d' W X,Value.agg #[O.v z,O.v u]=.agg #[O.v d',O.v W]/\eg (bM h (ah M f.size 0 [.s z,.s u])) d' W C X/\xH C X True (aa+4)/\Rd d R (P+4) (ah M f.size 0 [.s z,.s u])/\Fz [d] m (ah M f.size 0 [.s z,.s u]):=λhr s=>
  have g':=s.ah (b:=f.size) (Or.inr V) 0 [.s z,.s u]
  ⟨z,u,L,rfl,Hn g',Bf,h0.ah hr s V _ _,g'⟩
 refine(Dq bc T hW F V).mono λp D⟨lb,ok,e,B,hA⟩=>⟨B.dv λa c=>(am a c).1,(lb,0),ok,e,λ_=>?_,λbe=>?_⟩
 ·intro m8
  exact aQ ((h6.ext B).mono V) (u6.then B)
 obtain⟨_,jl,ro,sl,ar,b6,h7,i7⟩:=hA (by simpa using be)
 intro m8
 have x8:N D m8:=N.push _ _
 have g8:GI h D m8 (.mk D.size 0 0 0) []:=GI.nil h D
 clear_value m8
 have z7:=B.size
 have bO:=sq q.body.ar
 have a3:=Rx q.body.ar G.toNat
 have N0:=i7.len 0 bh
 have u7:Fz [d] m D:=u6.then B
 have aF:∀o∈h,o<D.size:=λo t=>aO (hS o t) u7.size
 refine dS (n:=(ar 0).length) V (λao Y M=>N D M/\∃H,GI h D M Y H/\H.length<=ao/\∀A∈H,0<=A/\A<(((ar 0).length:Nat):Int)) ⟨x8,[],g8,ad _,aJ⟩ ?_
 rintro ao Y m9 bH μ bU ⟨y,H,s,bX,aj⟩ aD
 have h9:=h7.ext y
 have l0:=h9.len (k:=0) bh
 have an:∀a∈[g.size,f.size,m.size],a<m9.size/\a∉[d]:=λa c=>⟨y.lt (B.lt (am a c).1),(am a c).2⟩
 refine⟨_,h9.bV (k:=0) bh,λa_=>?_,λbS=>?_⟩
 ·simp only[au]at a_
  obtain⟨A,i⟩:=ag (l:=ar 0) (k:=ao) V
  refine⟨_,h9.bV (k:=0) bh,V,V,A,h9.D bh V i,λ_=>?_,λ_=>aD V _ _ ⟨y,H,s,V,aj⟩⟩
  refine(rR h9 i7 V (v:=(ao:Int)) V V).mono λp aA⟨bb,e,w⟩=>⟨w.dv λa c=>(an a c).1,bb,e,λ_=>?_,λ_=>aD V _ _ ⟨y.trans w,H,s.ext w,V,aj⟩⟩
  intro U
  have gy:=s.be
  refine GI.jY (s.ext w) ((y.trans w).fz []) aF V λW bo Q K _ Z=>⟨N.nW ((y.trans w).aN _) K.ext (λa c=>B.lt (am a c).1),aD V _ _ ⟨K.ext,_,Q,bR,λA i=>?_⟩⟩
  rcases List.mem_append.1 i with i|i
  ·exact aj A i
  ·simp at i;omega
 ·have bT:=s.len bh
  have u9:Fz [d] m m9:=u7.then y
  have r9:Rd d R (P+2) m9:=(h6.ext (B.trans y)).mono V
  refine⟨λ_=>?_,λbd=>?_⟩
  ·intro aA
   exact aQ (r9.mono V) u9
  simp only[ak]at bd
  have gy:=s.be
  have gb:Y.E∉[d]:=by simp;have:=u7.size;omega
  refine(cw r9 V (Y.len:Int)).mono λp aA⟨az,e,i0,i1,aY,yz⟩=>⟨yz.dv an,az,e,i0,V,?_⟩
  obtain⟨w,aN⟩:=ag (l:=H) (k:=az.toNat) V
  obtain⟨w0,w1⟩:=aj w (av aN)
  have a5:af m9 Y.E (Y.off+az.toNat*1)=some (vi w):=((s.done aF V).le (bG _ _)).D aN
  refine⟨w,(aM (yz.same _ gy.2 gb) _).trans a5,?_⟩
  have bs:=u9.trans yz
  have ci:=y.size;have bE:=yz.size
  have aG:∀a∈[g.size,f.size,m.size],a<aA.size/\a∉[d]:=λa c=>⟨aO (an a c).1 bE,(an a c).2⟩
  have ew:cR (cR ((a.len:Int) -G)+1)=(a.len:Int) -G+1:=by rw[aP (b:=(a.len:Int) -G) V V,aP V V]
  rw[ew]
  refine(cw aY V _).mono λp U⟨i2,e,b2,b3,aZ,aq⟩=>⟨aq.dv aG,i2,e,?_⟩
  have aR:=bs.trans aq
  have bF:=aq.size
  have al:∀a∈[g.size,f.size,m.size],a<U.size:=λa c=>aO (aG a c).1 bF
  have ac:∀{M:J},U.size<=M.size->∀o∈g.size::f.size::h,o<M.size:=λhz o t=>by
   simp only[aU]at t;have h1:=al g.size aJ;have h2:=al f.size aJ;rcases t with e|e|e
   ·omega
   ·omega
   ·have:=hS o e;have:=aR.size;omega
  have bv:Fz [d] g U:=(((((x5.fz _).trans z6).then B).then y).trans yz).trans aq
  have a2:=c3.le (bv.cW λo t=>by simp at t;subst t;simp[ax])
  obtain⟨i,a6⟩:∃i:Nat,G=i:=⟨G.toNat,V⟩
  obtain⟨kn,a9⟩:∃kn:Nat,i2=kn:=⟨i2.toNat,V⟩
  subst a6 a9
  have bl:i+kn<=q.body.ar.length:=V
  have aX:cR ((i:Int)+(kn:Int))=((i+kn:Nat):Int):=by rw[aP V V];omega
  simp only[tg]at N0 a3
  obtain⟨bn,r0,r1⟩:=bm.bd
  have bP:dc (q.body.ar.take i)<=dc (q.body.ar.take (i+kn)):=by
   have:=Rx (q.body.ar.take (i+kn)) i;rwa[KA,jc V]at this
  obtain⟨bz,bw,bB⟩:=Ss (j:=i+kn) (a:=15) (v:=w) bn bh ⟨w0,V⟩
  have bk:(q.body.ar.take (i+kn)++[eN 15 w]++q.body.ar.drop (i+kn)).take i=q.body.ar.take i:=by
   rw[eW,mV bR,KA,jc V]
  obtain⟨bA,bx,bC⟩:=Ss (j:=i) (a:=14) (v:=w) bz bh ⟨w0,by rw[bk];omega⟩
  generalize aL:q.body.ar.take (i+kn)++[eN 15 w]++q.body.ar.drop (i+kn)=st1 at*
  have bV:st1.length=q.body.ar.length+1:=by rw[<-aL];simp;omega
  have K:∀{M M':J},N M M'->U.size<=M.size->∀a∈[g.size,f.size,m.size],∀I,af M' a I=af M a I:=λxx hz a c I=>aM (xx.same a (aO (al a c) hz)) I
  have kS:∀{M M':J},N M M'->U.size<=M.size->dR [g.size,f.size,m.size] M M':=λxx hz a c=>xx.same a (aO (al a c) hz)
  rw[aX]
  refine(iz (c:=g.size::f.size::h) (ac (ad _)) 15 w).mono λp bo⟨bI,b4,e,a0,a7,Q⟩=>⟨kS Q (ad _),_,_,_,_,_,e,K Q (ad _) _ aJ _,K Q (ad _) _ aJ _,?_⟩
  have aW:=Q.size
  refine(Af (d:=g.size::f.size::h) (S:=q.body.aV) (q:=eN 15 w) (ac aW) (a2.le (Q.cW _)) a0 a7 bl V).mono λp bp⟨br,e,aK,ap⟩=>⟨kS ap aW,_,_,e,?_⟩
  rw[aL]at aK
  intro ae
  have cd:=ap.size
  have ce:ae.size=bp.size:=ay _ _ _ _
  have aS:=(aR.then Q).then ap
  have bt:Fz [d] m ae:=aS.ah (Or.inr V) _ _
  have bq:Rd d R (P+2+1+1) ae:=h0.ah ((aZ.ext Q).ext ap) aS V _ _
  have bi:eD (bM (g.size::f.size::h) ae) br st1:=aK.le (cv aJ λ_ E=>E)
  clear_value ae
  refine(iz (c:=g.size::f.size::h) (ac V) 14 w).mono λp b7⟨bJ,b5,e,a1,a8,A⟩=>⟨kS A V,_,_,_,_,_,e,K A V _ aJ _,K A V _ aJ _,K A V _ aJ _,K A V _ aJ _,?_⟩
  have cf:=A.size
  refine(Af (d:=g.size::f.size::h) (S:=q.body.aV) (q:=eN 14 w) (ac V) (bi.le (A.cW _)) a1 a8 (f:=i) V V).mono λp b8⟨cb,e,bj,Z⟩=>⟨kS Z V,_,_,e,K Z V _ aJ _,K Z V _ aJ _,?_⟩
  have cg:=Z.size
  have aT:=(bt.then A).then Z
  refine(DL (d:=g.size::f.size::h) (ac V) (l:=.mk (st1.take i++[eN 14 w]++st1.drop i) q.body.aV) (hn.le (HS g.size V aT)) F ⟨aI,aH⟩ bj).mono λp b9⟨d',W,X,e,ba,bg,aE⟩=>⟨kS aE V,d',W,e,?_⟩
  intro b_
  have aV:=aT.then aE
  refine⟨d',W,X,rfl,ba.le (cv aJ λo t=>by simp[t]),?_,h0.ah (((bq.ext A).ext Z).ext aE) aV V _ _,aV.ah (Or.inr V) _ _⟩
  subst bg
  refine⟨by simp;exact T.iu,λq' bf=>?_⟩
  rw[jO]
  rcases dE bf with E|E
  ·exact Bf.dz q' E
  ·subst E
   refine⟨aI,aH,.of bA ⟨r0,by rw[bx,bw];exact r1⟩,?_⟩
   show Bk.w (.mk _ _)<=_
   rw[Bk.pW,bC,bB];omega
section
variable{f:J}{t:O}{d:Bk}{j e:Int}{g:List Nat}{p h c:Nat}
def pt(o:eD f t d.ar):sg 273 [.agg #[O.v t,vi d.aV]] f λc=>0<=c/\c<=d.ar.length/\∀(i:Nat)(e:cK),d.ar[i]? =some e->(i:Int)<c->14<=e.op/\e.op<=17:=by
 apply yd;simp -zeta only[aC,aB];intro a;have D:N f a:=N.push _ _;have y:∀s∈[f.size],s<a.size:=by simp[a]
 clear_value a;have z:=o.len;refine fB (n:=d.ar.length) (z▸o.gV) (λc M=>N a M/\∀(i:Nat)(e:cK),d.ar[i]? =some e->i<c->14<=e.op/\e.op<=17) ⟨N.az _,λi e _ b=>V⟩ ?_;rintro c M I μ P ⟨r,q⟩ B
 have u:=D.trans r;have R:∀{p:J},N f p->∃m:Int,vi (c:Int)=vi m/\(0<=m/\m<=d.ar.length/\∀(i:Nat)(e:cK),d.ar[i]? =some e->(i:Int)<m->14<=e.op/\e.op<=17)/\N f p:=λF=>⟨c,rfl,⟨V,V,λi e g b=>q i e g V⟩,F⟩;refine⟨λb=>?_,λb=>R u⟩;simp only[au]at b;obtain⟨e,g⟩:=ag (l:=d.ar) (k:=c) V;obtain⟨h,S,K,Q,w,_⟩:=o.D g;refine⟨V,V,_,u.af w,?_⟩;refine(sR e.op M).aK r y λH T x E C=>⟨_,rfl,λA=>B V _ ⟨C,λi G j L=>?_⟩,λ_=>R (u.trans E)⟩;by_cases v:i=c
 ·subst v;rw[g]at j;simp at j;subst j;exact x.1 A
 ·exact q i G j V
def Cy(b:eD f t d.ar){y:Int}(L:0<=j/\j<=d.ar.length)(B:∀(w:Nat)(s:cK),d.ar[w]? =some s->(w:Int)<j->0<s.args.length):
 sg 274 [.agg #[O.v t,vi d.aV],vi j,vi y,vi e] f λc=>-1<=c/\(0<=c->c<j/\∃s:cK,d.ar[c.toNat]? =some s/\s.op=y/\s.args[0]? =some e):=by
 apply Fg
 simp -zeta only[aC,aB]
 intro i
 have D:N f i:=N.push _ _
 clear_value i
 have P:=b.len
 have K:=b.gV
 obtain⟨m,C⟩:∃m:Nat,j=m:=⟨j.toNat,V⟩
 subst C
 refine fB (n:=m) V (λc M=>N i M) (N.az _) ?_
 rintro c M I μ H o x
 have u:=D.trans o
 refine⟨λa=>?_,λa=>⟨-1,rfl,⟨V,λa=>V⟩,u⟩⟩
 simp only[au]at a
 obtain⟨s,g⟩:=ag (l:=d.ar) (k:=c) V
 obtain⟨h,Q,p,J,z,g1,g2,A,F⟩:=b.D g
 have G:=p.len
 have:=B c s g V
 obtain⟨E,v⟩:=ag (l:=s.args) (k:=0) V
 refine⟨V,V,_,u.af z,λq=>⟨V,V,_,u.af A,bh,V,E,(p.ext u).D v,λr=>?_,λ_=>x V _ o⟩,λ_=>x V _ o⟩
 simp only[aE]at q r
 refine⟨c,rfl,⟨V,λ_=>⟨V,s,?_,q,by rw[<-r];exact v⟩⟩,u⟩
 simpa using g
def MT(i:eD f t d.ar){b:Int}(D:0<=b/\b<=d.ar.length):sg 307 [.agg #[O.v t,vi d.aV],vi b,vi j] f λc=>-1<=c/\c<d.ar.length:=by
 apply Gt;simp -zeta only[aC,aB];intro m;have y:N f m:=N.push _ _;clear_value m;have v:=i.len;obtain⟨g,s⟩:∃g:Nat,b=g:=⟨b.toNat,V⟩;subst s;refine Ue (n:=d.ar.length) (b:=g) V (v▸i.gV) (λc M=>N m M) (N.az _) ?_;rintro c M I μ _ B p x
 have u:=y.trans p;refine⟨λo=>?_,λo=>⟨-1,rfl,⟨V,V⟩,u⟩⟩;simp only[au]at o;obtain⟨F,w⟩:=ag (l:=d.ar) (k:=c) V;obtain⟨h,E,A,C,q,g1,g2,r,z⟩:=i.D w;have e:=x V _ p
 exact⟨V,V,_,u.af q,λ_=>⟨V,V,_,u.af g2,λ_=>⟨V,V,_,u.af r,λ_=>⟨c,rfl,⟨V,V⟩,u⟩,λ_=>e⟩,λ_=>e⟩,λ_=>e⟩
def Gv(d:Bk)(hS:∀q∈g,q<f.size)(E:eD f t d.ar)(hw:d.w<=1000000000000):aL cp 285 [.agg #[O.v t,vi d.aV]] f λak G=>∃s,ak=.agg #[O.v s,vi d.aV]/\GS g f G s d.ar/\N f G:=by
 obtain⟨ar,v⟩:=d;rw[Bk.pW]at hw;simp only[Bk.jq,Bk.iH]at*;apply qI;simp -zeta only[aC,aB];intro j b h H u;obtain⟨L,D⟩:=dF (a:=j) (c:=b) rfl rfl;have s0:j.size=f.size+1:=by simp[j]
 have s1:b.size=f.size+2:=by simp[b,s0]
 have s2:h.size=b.size+1:=by simp[h]
 have s3:H.size=h.size+1:=by simp[H]
 have P:N h u:=(N.push h _).ah (ad _) _ _;have al:N b u:=(N.push b _).trans P;have z:GS (h.size::j.size::g) b u (.mk b.size 0 0 0) []:=(GS.new _ b).ext gG.mono P;have Q:cx u h.size da [.s (.mk b.size 0 0 0),.i v]:=cx.ah (m:=H) (o:=0) (r:=[.s (.mk b.size 0 0 0),.i v]) (cx.push h _ _);clear_value u;have ab:∀q∈j.size::g,q<b.size:=bP hS L.size (D _ aJ);have ai:=E.len;have an:=fH ar;refine fB (n:=ar.length) (ai▸E.gV) (λc M=>N b M/\∃s,GS (h.size::j.size::g) b M s (ar.take c)/\cx M h.size da [.s s,.i v]) ⟨al,_,z,Q⟩ ?_;rintro c I am μ hk ⟨y,s,x,B⟩ aj
 have p:=L.trans y;have ah:∀d∈[j.size,f.size],d<I.size:=λd A=>y.lt (D d A);have hy:=x.be;have z5:=y.size;have K:=B.lt;refine dit (λaa=>?_) λaa=>?_
 ·obtain⟨e,F⟩:=ag (l:=ar) (k:=c) V;obtain⟨pa,pk,ha,af,z,g1,g2,Y,Z⟩:=E.D F;have ao:=Nd F;refine⟨s,B.bV 0,V,V,_,p.af z,_,p.af g1,_,p.af g2,_,p.af Y,_,p.af Z,?_⟩;refine(xy (e:=s.E::h.size::j.size::g) (bP (bP ab z5 K) (ad _) hy.2) (ha.ext p) (af.le p.le) V (λd _=>vA d)).aK (N.az I) ah λR T x' J ac ae U w _=>⟨_,_,_,_,_,rfl,aM (w.same _ K) _,?_⟩;subst U;intro m7;refine Gr.box (g:=[.i 0,.i 0,.i 0,.s .nil,.s .nil]) (j:=0) (i:=[.s s,.i v]) (w:=e) gG.mono bh (x.ext gG.mono w) ((y.trans w).fz []) ⟨R,T,rfl,ac,ae⟩ bR (B.ext w) aJ bh ⟨V,aJ⟩ (λq C=>by have M:=D q C;have W:=w.size;omega) λr' G X M W z' q'=>aj V _ ⟨W.ext,r',?_,M⟩
  rw[bn F];exact X
 ·rw[cN V]at x;refine⟨s,B.bV 0,v,B.bV 1,?_⟩;intro J;have w:Fz [j.size] I J:=(Fz.az _ _).ah (Or.inl aJ) _ _;have F:GS g b J s ar:=x.re gG.mono w aJ bR λq C=>Or.inl (by simp[C]);exact⟨s,rfl,Gr.ct gG.mono F (λd A=>Or.inl A) V,p.ah V _ _⟩
def Su{d:List bu}{b:Prop}{l:List cK}(i:WL d p b h l){e a:cK}(f:l[c]? =some e)(o:WS d p b (h+dc (l.take c)) a)(hd:dn a=dn e):
 WL d p b h (l.set c a)/\dc (l.set c a)=dc l/\sw (l.set c a)+e.w=sw l+a.w:=by
 have n:=aD f
 have j:l.set c a=l.take c++([a]++l.drop (c+1)):=by rw[Nu,an n];rfl
 have g:l=l.take c++([e]++l.drop (c+1)):=by
  obtain⟨k,m⟩:=List.getElem?_eq_some_iff.1 f;rw[<-m];show l=l.take c++(l[c]::l.drop (c+1));rw[<-Ci k,cT]
 have q:dc l=dc (l.take c)+(dn e+dc (l.drop (c+1))):=by
  conv=>lhs;rw[g]
  rw[cL,cL,jR,sA];omega
 have r:sw l=sw (l.take c)+(e.w+sw (l.drop (c+1))):=by
  conv=>lhs;rw[g]
  rw[dq,dq,mh,uH];omega
 rw[j]
 refine⟨(i.take c).append ((WL.jZ o).append ?_),?_,?_⟩
 ·have:=i.drop (c+1)
  rw[qd f]at this
  rw[jR,sA,hd,jF,dQ];exact this
 ·rw[cL,cL,jR,sA];omega
 ·rw[dq,dq,mh,uH];omega
def _root_.Go.Vc.Gr.cells{α:Type}{u:J}{o d:Nat}{R:J->List Ce->α->Prop}{s:O}{j:List α}(p:Gr g u f o d R s j){e:α}(i:j[c]? =some e):∃a,R (bM (s.E::g) f) a e/\fZ f s.E (s.off+c*d) a:=by
 obtain⟨v,n,q,b⟩:=p;obtain⟨a,h⟩:=ag (l:=n) (k:=c) (by rw[b.len];exact aD i);refine⟨a,b.dz c a e h i,λt m r=>?_⟩;have:=q.iv (c*d+t) m (iy b.size h r);rwa[<-dQ]at this
def IA(hS:∀c∈g,c<f.size)(z:eD f t d.ar){R:List bu}(ap:WB R p True h d)(hw:d.w<=1000000000000)(hx:0<=e/\e<(h:Int))(a7:h<=1000000000000)(j:Int):
 aL cp 272 [.agg #[O.v t,vi d.aV],vi e,vi j] f λaa m'=>∃s o,aa=.agg #[O.v s,vi o.aV]/\eD m' s o.ar/\(eD (bM g f) t d.ar->eD (bM g m') s o.ar)/\(WB R p True h o/\o.w<=d.w)/\N f m':=by
 apply BR
 simp -zeta only[aC,aB]
 intro m w
 obtain⟨D,r⟩:=dF (a:=m) (c:=w) rfl rfl
 have s1:m.size=f.size+1:=by simp[m]
 have s2:w.size=f.size+2:=by simp[w,s1]
 clear_value w
 obtain⟨Y,aV⟩:=ap.bd
 have E:∀{ac M':J},N w ac->N w M'->∀I,af M' f.size I=af ac f.size I:=λq h' I=>aM (by rw[h'.same _ (r _ aJ),q.same _ (r _ aJ)]) I
 refine(pt (z.le D.le)).aK (N.az w) r λn1 m3 W Q _=>⟨_,rfl,E (N.az _) Q _,E (N.az _) Q _,?_⟩
 refine(Cy (z.le (D.trans Q).le) (y:=16) (e:=e) ⟨W.1,W.2.1⟩ λar s hi aQ=>?_).aK Q r λn2 m4 aR x4 L=>⟨_,rfl,?_⟩
 ·have:=W.2.2 ar s hi aQ
  have:=(Y ar s hi).eO.jZ V
  omega
 refine(pt (z.le (D.trans L).le)).aK L r λn3 m5 ao x5 M=>⟨_,rfl,E L M _,E L M _,?_⟩
 refine(MT (z.le (D.trans M).le) (j:=j) ⟨ao.1,ao.2.1⟩).aK M r λn4 A bc x6 v6=>⟨_,rfl,?_⟩
 have u6:=D.trans v6
 have ax:∃s o,Value.agg #[O.v t,vi d.aV]=.agg #[O.v s,vi o.aV]/\eD (ah A m.size 0 [.s t,.i d.aV]) s o.ar/\(eD (bM g f) t d.ar->eD (bM g (ah A m.size 0 [.s t,.i d.aV])) s o.ar)/\(WB R p True h o/\o.w<=d.w)/\N f (ah A m.size 0 [.s t,.i d.aV]):=
  have T:=u6.ah (b:=m.size) V 0 [.s t,.i d.aV]
  ⟨t,d,rfl,z.le T.le,λq=>q.le (T.cW _),⟨ap,ad _⟩,T⟩
 refine⟨λ_=>ax,λh2=>⟨λ_=>ax,λh4=>?_⟩⟩
 simp only[bU]at h2 h4
 have z6:=v6.size
 have al:∀c∈m.size::g,c<A.size:=λc i=>by
  rcases List.mem_cons.1 i with n|n
  ·omega
  ·have:=hS c n;omega
 refine(Gv d al (z.le u6.le) hw).mono λaa H⟨K,n,g7,x7⟩=>⟨λc i=>x7.same c (by have:=r c i;omega),_,_,n,?_⟩
 intro m8 B
 have x9:N H B:=(N.push H _).ah (ad _) _ _
 have s9:B.size=H.size+1:=by simp[B,m8,ay]
 clear_value B
 have y7:=g7.be
 have z7:=x7.size
 have g9:=g7.ext gG.mono x9
 have an:∀c∈[H.size,m.size,f.size],c<B.size/\c≠K.E:=λc i=>by simp at i;omega
 refine(iz (c:=K.E::m.size::g) (λc i=>?_) 17 e).mono λaa av⟨aj,au,n,aN,aO,C⟩=>⟨λc i=>C.same c (an c i).1,_,_,_,_,_,n,aM (C.same _ V) _,?_⟩
 ·rcases List.mem_cons.1 i with n|n
  ·omega
  ·have:=al c n;omega
 have ak:=g9.ext gG.mono C
 have bi:=ak.len bh
 obtain⟨bb,so,X,bd,a8⟩:=aR.2 V
 have aA:N A av:=(x7.trans x9).trans C
 have aS:=aD X
 obtain⟨a1,U,aG,aZ⟩:=Gr.set (k:=n2.toNat) (cs:=[.i 17,.i 0,.i 0,.s aj,.s au]) (a:=eN 17 e) gG.mono ak (aA.fz []) aS ⟨aj,au,rfl,aN,aO⟩
 refine⟨V,V,a1,?_⟩
 intro F
 have yz:=C.size
 have bj:F.size=av.size:=ay _ _ _ _
 refine⟨λc i=>aZ c (an c i).2,V,V,?_⟩
 have aW:=Y _ so X
 have w1:=aW.eO.jZ (Or.inl V)
 have d1:dn (eN 17 e)=dn so:=by
  unfold dn;rw[ae (λq:oI _=>by have:=q.2;simp only[eN]at this;omega),ae (λq:oI _=>by have:=q.2;omega)]
 obtain⟨az,a3,bl⟩:=Su Y X (CL (c:=17) (v:=e) bh ⟨hx.1,V⟩) d1
 have bf:=cK.lO so
 have a_:(eN 17 e).w=2:=rfl
 obtain⟨y,Z⟩:=ag (l:=d.ar.set n2.toNat (eN 17 e)) (k:=n4.toNat) bR
 have ba:=U.len bh
 obtain⟨a6,⟨pa,pk,rfl,aT,aU⟩,jk⟩:=U.cells Z
 have e0:=jk 0 _ rfl;have e1:=jk 1 _ rfl;have e2:=jk 2 _ rfl;have e3:=jk 3 _ rfl;have e4:=jk 4 _ rfl
 refine⟨_,e0,_,e1,_,e2,_,e3,_,e4,?_⟩
 intro aX G
 have P:N F G:=(N.push F _).ah (ad _) _ _
 have bk:G.size=F.size+1:=by simp[G,aX,ay]
 clear_value G
 have aI:=U.ext gG.mono P
 have aF:cR (1+e)=1+e:=aP V V
 rw[aF]
 have aE:=(aG.then P)
 obtain⟨a2,aK,aH,a0⟩:=Gr.set (k:=n4.toNat) (cs:=[.i y.op,.i y.bL,.i (1+e),.s pa,.s pk]) (a:=⟨y.op,y.bL,1+e,y.args,y.bD⟩) gG.mono aI aE bR ⟨pa,pk,rfl,aq.le (P.cW _) aT,np.le (P.cW _) aU⟩
 refine⟨V,V,a2,?_⟩
 intro aw
 have u:=az _ y Z
 obtain⟨a5,a4,bm⟩:=Su (a:=⟨y.op,y.bL,1+e,y.args,y.bD⟩) az Z ⟨⟨u.eO.op,u.eO.args,u.eO.jZ,⟨by show 0<=1+e;omega,by show 1+e<=_;omega⟩,u.eO.IK,u.eO.all,u.eO.call⟩,u.bD⟩ rfl
 refine⟨λc i=>a0 c (by simp at i;omega),?_⟩
 intro aY
 have bg:(⟨y.op,y.bL,1+e,y.args,y.bD⟩:cK).w=y.w:=rfl
 have a9:=Bk.lO d
 have be:=fH d.ar
 have ab:eD (bM (m.size::g) aw) K _:=aK.ns gG.mono (S:=m.size::g) (λi=>by
  rcases List.mem_cons.1 i with n|n
  ·omega
  ·have:=hS _ n;omega) bh bR
 have am:Le (bM (m.size::g) aw) (bM g aY):=cv aJ λc i=>ai _ i
 refine⟨K,.mk _ d.aV,rfl,(ab.le am).le (bG _ _),λ_=>ab.le am,⟨.of a5 (by rw[a4,a3];exact aV),?_⟩,(u6.trans aH.ext).ah V _ _⟩
 rw[Bk.pW];omega
end
def Rh(c:List bu)(d:List gB)(N:Nat):Prop:=∀(b:Bk),b.w<=N->∀(S:List Nat)(m:J),(∀a∈S,a<m.size)->∀(f r t kD:O)(l:List Int)(a:Nat),eg m f r c d->eD m t b.ar->aq m kD l->WB c d.length True a b->a+4*b.w<=1000000000000->l.length+4*b.w<=1000000000000->
 mX 230 [.agg #[O.v f,O.v r],.agg #[O.v t,vi b.aV],O.v kD] m S λe=>WB c d.length True a e/\e.w<=b.w
def IC{F:List Nat}{m:J}(hS:∀c∈F,c<m.size){U ac pa pk kD:O}{j:List bu}{C:List gB}{a:cK}{A:List Int}{G:Nat}(s:eg m U ac j C)(ha:aq m pa a.args)(hk:np m pk a.bD)(K:aq m kD A)(hw:WS j C.length True G a)(hb:G+4*a.w<=1000000000000)(a3:A.length+4*a.w<=1000000000000){o:Nat}{i:Bk}(X:a.bD[o]? =some i)(ih:Rh j C i.w):
 mX 246 [.agg #[O.v U,O.v ac],oG a pa pk,vi o,O.v kD] m F λn=>WB j C.length True (G+AG j a.op a.bL o) n/\n.w<=i.w:=by
 apply BT
 simp -zeta only[aC,aB]
 intro aa u b
 obtain⟨f,hl,s1,h,s3⟩:=pH (a:=aa) (b:=u) (c:=b) rfl rfl rfl
 clear_value b
 obtain⟨al,ht,f0,f1⟩:=hk.D X
 have a1:=aD X
 have a2:=hk.len
 have aX:=ha.len
 have a6:=cK.lO a
 have aZ:=we X
 have ae:=hw.bD o i X
 have a0:=i.Fu
 have aH:∀{M:J},N b M->∀c∈u.size::F,c<M.size:=λxx c d=>by
  have:=xx.size;rcases List.mem_cons.1 d with e|e
  ·omega
  ·have:=hS c e;omega
 have gW:∀(M:J)(kp w:O)(l':List Int)(n:Bk)(Lx:List Nat),N m M->N b M->(∀c∈Lx,c<M.size)->eD M w n.ar->aq M kp l'->l'.length<=A.length+1->WB j C.length True (G+AG j a.op a.bL o) n->n.w<=i.w->
  aL cp 230 [.agg #[O.v U,O.v ac],.agg #[O.v w,vi n.aV],O.v kp] M λy t=>dR Lx M t/\∃(h:O)(b2:Bk),y=.agg #[O.v h,vi b2.aV]/\∀g,g=ah t u.size 0 [.s h,.i b2.aV]->∃s3 b3,(Value.agg #[O.v h,vi b2.aV])=.agg #[O.v s3,vi b3.aV]/\eD (bM F g) s3 b3.ar/\(WB j C.length True (G+AG j a.op a.bL o) b3/\b3.w<=i.w)/\N m g:=λM kp w l' n Lx xm aV aG hs aO a4 aS aR=>by
  have h3:=O8 s.types a.op a.bL o
  refine(ih n aR (u.size::F) M (aH aV) U ac w kp l' _ (s.le xm.le) hs aO aS V V).mono λy t⟨h,b2,e,aQ,aI,x'⟩=>⟨x'.dv aG,h,b2,e,λg ao=>⟨h,b2,rfl,?_,⟨aI.1,V⟩,?_⟩⟩
  ·rw[ao];exact aQ.le (cv aJ λc d=>ai _ d)
  ·rw[ao];exact(xm.trans x').ah V _ _
 refine⟨λH=>?_,λH=>?_⟩
 ·refine⟨V,V,_,f.af f0,_,f.af f1,?_⟩
  refine(gW b kD al A i _ f (N.az _) hl (ht.le f.le) (K.ext f) V ae (ad _)).mono λy t⟨q,h,b2,e,r⟩=>⟨q,_,_,e,?_⟩
  intro g
  exact r g rfl
 ·have H:a.op=8:=by simpa using H
  obtain⟨aY,_⟩:=hw.eO.all H
  have aW:=hw.eO.jZ (Or.inr (Or.inr H))
  obtain⟨D,hy⟩:=ag (l:=a.args) (k:=0) V
  obtain⟨y0,y1⟩:=hw.eO.args D (av hy)
  refine⟨bh,V,D,(ha.ext f).D hy,V,V,_,f.af f0,_,f.af f1,?_⟩
  intro m4 v
  have x5:N b v:=(N.push b _).ah (ad _) _ _
  have s5:v.size=b.size+1:=by simp[v,m4,ay]
  clear_value v
  have P:=f.trans x5
  have z:∀{M:J},N v M->∀c∈[b.size,u.size,aa.size,m.size],c<M.size:=λxx c d=>by have:=xx.size;simp at d;omega
  refine(dj (K.ext P) D).any.aK (N.az v) (z (N.az _)) λbb m6 p _=>⟨_,rfl,λ_=>?_,λ_=>?_⟩
  ·have Q:=P.trans p
   obtain⟨cn,aK⟩:=ag (l:=cg j a.bL) (k:=o) V
   have E:∀{M M':J},N v M->N M M'->∀c∈[b.size,u.size,aa.size,m.size],∀ab,af M' c ab=af M c ab:=λW h' c d ab=>aM (h'.same c (z W c d)) ab
   refine(gN (e:=[]) aJ (s.aT.le Q.le) s.types a.bL).aK p (z (N.az _)) λs7 l7 m7 Z e x7 v7=>⟨_,rfl,E p x7 _ aJ _,E p x7 _ aJ _,E p x7 _ aJ _,?_⟩
   subst e
   have Z:=Z.le (bG _ _)
   have l7:=Z.len
   refine⟨V,V,cn,Z.D aK,?_⟩
   refine(dC (e:=[]) aJ (s.aT.le ((P.trans v7).le.trans (zc _))) s.types cn).aK v7 (z (N.az _)) λs8 l8 m8 a5 e x8 v8=>⟨_,rfl,E v7 x8 _ aJ _,E v7 x8 _ aJ _,?_⟩
   subst e
   have u8:=P.trans v8
   have z8:=v8.size
   have h3:=O8 s.types a.op a.bL o
   have ap:eD (bM [b.size] m8) al i.ar:=ht.le ((zc m).trans (u8.bM λc d=>Or.inr (by simp at d;omega)))
   refine(IA (g:=[b.size]) bR (ap.le (bG _ _)) ae V (e:=D) ⟨y0,V⟩ V (s8.len:Int)).mono λy m9⟨s9,b9,e,_,ak,I,x9⟩=>⟨λc d=>x9.same c (z v8 c d),_,_,e,?_⟩
   have ak:=ak ap
   intro B
   have v9:=v8.trans x9
   have an:N b B:=(x5.trans v9).ah V _ _
   have Y:eD B s9 b9.ar:=(ak.le (cv (a:=[b.size]) aJ λ_ W=>W)).le (bG _ _)
   have a_:B.size=m9.size:=ay _ _ _ _
   have z9:=v9.size
   have L:∀{M:J},B.size<=M.size->∀c∈[b.size,u.size,aa.size,m.size],c<M.size:=λW c d=>by simp at d;omega
   clear_value B
   refine(pt Y).aK (N.az B) (L (ad _)) λa8 a7 aj aE _=>⟨_,rfl,?_⟩
   obtain⟨aT,_⟩:=I.1.bd
   refine(Cy (Y.le aE.le) (y:=17) (e:=D) ⟨aj.1,aj.2.1⟩ λar w hj aP=>?_).aK aE (L (ad _)) λa9 aU _ ba R=>⟨_,rfl,λ_=>?_,λ_=>?_⟩
   ·have:=aj.2.2 ar w hj aP
    have:=(aT ar w hj).eO.jZ V
    omega
   ·have T:=an.trans R
    refine(lT (S:=[]) aJ ((K.ext (f.trans T)).le (zc _)) D V).aK R (L (ad _)) λaz au aw aF ax bc am=>⟨_,rfl,?_⟩
    have aA:=an.trans am
    have aN:aq aw az au:=(aF.done aJ (by have:=ax.2;omega)).le (bG _ _)
    refine(gW aw az s9 au b9 _ (f.trans aA) aA (L am.size) (Y.le am.le) aN ax.2 I.1 I.2).mono λy t⟨q,h,b2,e,r⟩=>⟨q,_,_,e,?_⟩
    intro g
    exact r g rfl
   ·have T:=an.trans R
    refine(gW aU kD s9 A b9 _ (f.trans T) T (L R.size) (Y.le R.le) (K.ext (f.trans T)) V I.1 I.2).mono λy t⟨q,h,b2,e,r⟩=>⟨q,_,_,e,?_⟩
    intro g
    exact r g rfl
  ·have Q:=P.trans p
   refine(gW m6 kD al A i _ Q (x5.trans p) (z p) (ht.le Q.le) (K.ext Q) V ae (ad _)).mono λy t⟨q,h,b2,e,r⟩=>⟨q,_,_,e,?_⟩
   intro g
   exact r g rfl
section
variable{c:List gB}
def Rh.eQ{b:List bu}{N a:Nat}(h:Rh b c N)(e:a<=N):Rh b c a:=λd f=>h d (bX f e)
def Fb{P:List bu}:∀O:Nat,Rh P c O:=by
 intro O;induction O with
 |zero=>intro y hb;have:=y.Fu;omega
 |succ O v=>
 intro y hb t T hS aL a7 a8 kD a5 ah hn hs au aE aP aV;obtain⟨ar,C⟩:=y;have al:=aE.bd;rw[Bk.pW]at*;simp only[Bk.jq,Bk.iH]at*;apply yl;simp -zeta only[aC,aB];intro U j h f m5 H;obtain⟨x3,hl,s1,s2,s3⟩:=pH (a:=U) (b:=j) (c:=h) rfl rfl rfl;have s4:f.size=h.size+1:=by simp[f]
 have am:N f H:=(N.push f _).ah (ad _) _ _;have aI:N h H:=(N.push h _).trans am;have g0:GS (f.size::j.size::t) h H (.mk h.size 0 0 0) []:=(GS.new _ h).ext gG.mono am;have B0:cx H f.size da [.s (.mk h.size 0 0 0),.i C]:=cx.ah (m:=m5) (o:=0) (r:=[.s (.mk h.size 0 0 0),.i C]) (cx.push f _ _);have ao:∀d∈j.size::t,d<h.size:=bP hS x3.size (hl _ aJ);clear_value H;clear_value h;have av:=hs.len;have az:=Aw ar;have aZ:=fH ar;refine fB (n:=ar.length) (av▸hs.gV) (λq M=>N h M/\∃s w,GS (f.size::j.size::t) h M s w/\cx M f.size da [.s s,.i C]/\w.length=q/\WL P c.length True ah w/\dc w=dc (ar.take q)/\sw w<=sw (ar.take q)) ⟨aI,_,[],g0,B0,rfl,WL.nil _ _ _ _,aJ,aJ⟩ ?_;rintro q M aK μ hk ⟨xM,s,w,Q,D,aX,wl,R,aA⟩ aH
 have A:=x3.trans xM;have aT:∀{u:J},h.size<=u.size->∀d∈[j.size,U.size,T.size],d<u.size:=λB d e=>aO (hl d e) B;have hy:=Q.be;have zM:=xM.size;have aN:=D.lt;refine dit (λB=>?_) λB=>?_
 ·obtain⟨x,F⟩:=ag (l:=ar) (k:=q) V;obtain⟨pa,pk,ha,aa,e0,e1,e2,e3,e4⟩:=hs.D F;have a2:=Nd F;have a4:=cK.lO x;have aQ:=pI x.bD;have a3:=pu F;have a1:=qd F;have ae:=al.1 q x F;have aS:=sq (ar.take q);have aY:=fH (ar.take q);have a0:=az (q+1);refine⟨V,V,_,A.af e0,_,A.af e1,_,A.af e2,_,A.af e3,_,A.af e4,?_⟩;intro m7 p m9;have x8:N M p:=(N.push M _).ah (ad _) _ _;have s8:p.size=M.size+1:=by simp[p,m7,ay]
  have x9:N p m9:=N.push _ _;have an:GB (s.E::f.size::j.size::t) p m9 (.mk p.size 0 0 0) []:=GB.new _ p;clear_value m9;clear_value p;have Z:∀d∈s.E::f.size::j.size::t,d<p.size:=λd e=>by
   simp only[aU]at e;rcases e with g|g|g|g
   ·omega
   ·omega
   ·omega
   ·have:=hS d g;omega
  have ab:=aa.len;refine dS (n:=x.bD.length) (ab▸aa.gV) (λG ks u=>N p u/\∃lk,GB (s.E::f.size::j.size::t) p u ks lk/\lk.length=G/\(∀(z:Nat)(y:Bk),lk[z]? =some y->WB P c.length True (ah+dc (ar.take q)+AG P x.op x.bL z) y)/\bw lk<=bw (x.bD.take G)) ⟨x9,[],an,rfl,aJ,aJ⟩ ?_;rintro G ks K I2 μ2 hj ⟨I,lk,Y,aW,ak,aq⟩ aG;have E:N T K:=A.trans (x8.trans I);have yk:=Y.be;have z2:=I.size;have ac:∀{u:J},p.size<=u.size->∀d∈[M.size,j.size,U.size,T.size],d<u.size:=λB d e=>by simp at e;omega
  refine dit (λh2=>?_) λh2=>?_
  ·obtain⟨y,W⟩:=ag (l:=x.bD) (k:=G) V;have aR:=we W;have ap:=tL W;refine(IC (F:=ks.E::s.E::f.size::j.size::t) (λd e=>?_) (hn.le E.le) (ha.ext E) (aa.le E.le) (au.ext E) ae V V W (v.eQ V)).aK (N.az K) (ac z2) λss b' a6 ax aj af _=>⟨_,_,rfl,?_⟩
   ·rcases List.mem_cons.1 e with g|g
    ·omega
    ·have:=Z d g;omega
   refine GB.jY (c:=b') (Y.ext qO.mono af) ((I.trans af).fz []) ax V λr' u g2 f2 a9 q2=>⟨N.nW ((I.trans af).aN _) f2.ext (ac (ad _)),aG V _ _ ⟨f2.ext,_,g2,bR,λz b2 v=>?_,?_⟩⟩
   ·rcases bA z lk.length with X|X
    ·rw[aw X]at v;exact ak z b2 v
    ·rw[aF X]at v;have:z -lk.length=0:=by have:=aD v;simp at this;omega
     rw[this]at v;simp at v;subst v;have:z=G:=V;subst this;exact aj.1
   ·rw[oh,tK,yN,ap];have:=aj.2;omega
  ·have af:lk.length=x.bD.length:=V;rw[cN V]at aq;have X:N M K:=x8.trans I;have W:=D.ext X;have G2:=Q.ext gG.mono X;refine⟨s,W.bV 0,?_⟩;refine(bN (s.E::f.size::j.size::t) (ha.ext E) V).aK (N.az K) (ac z2) λs' l' aj ga g v _=>⟨_,rfl,aM (v.same _ V) _,aM (v.same _ V) _,aM (v.same _ V) _,aM (v.same _ W.lt) _,?_⟩;subst g;intro ap;refine Gr.box (g:=[.i 0,.i 0,.i 0,.s .nil,.s .nil]) (L:=[M.size,j.size,U.size,T.size]) (j:=0) (y:=72) (i:=[.s s,.i C]) (w:=⟨x.op,x.bL,x.bH,x.args,lk⟩) gG.mono bh (G2.ext gG.mono v) (((xM.trans X).trans v).fz []) ⟨s',ks,rfl,(ga.done (λd e=>by have:=Z d e;omega) V),np.le (v.cW _) (Y.done qO.mono Z bh (by show lk.length<=_;omega))⟩ V (W.ext v) aJ bh ⟨V,aJ⟩ (λd e=>by have h1:=v.size;simp at e;omega) λr' m' g' B' f' z' q'=>aH V _ ⟨f'.ext,r',_,g',B',bR,wl.zp (ae.Od id ae.eO.bH af ak|>λB=>by rw[R];exact B),?_,?_⟩
   ·rw[cL,jR,sA,R];have g:dn (⟨x.op,x.bL,x.bH,x.args,lk⟩:cK)=dn x:=rfl;omega
   ·rw[dq,mh,uH];have h5:(⟨x.op,x.bL,x.bH,x.args,lk⟩:cK).w=1+x.args.length+bw lk:=cK.lO _;omega
 ·have ab:q=ar.length:=V;subst ab;rw[fE]at R aA;refine⟨s,D.bV 0,C,D.bV 1,?_⟩;intro m7;have p:Le (bM (f.size::j.size::t) M) (bM t m7):=cv aJ λd e=>ai _ (ai _ e);have v:=Q.ne D bh;refine⟨s,.mk w C,rfl,eD.le p (Q.ns gG.mono (λe=>?_) bh (by show w.length<=_;omega)),⟨.of wl (by rw[R];exact al.2),by rw[Bk.pW];omega⟩,A.ah V _ _⟩;rcases List.mem_cons.1 e with g|g
  ·exact v g
  ·have:=ao _ g;omega
def K9{f:List Nat}{e:J}(X:∀a∈f,a<e.size){v w:O}{r:List bu}(t:eg e v w r c){W:Nat}(hW:W<=200000000000)(hk:xH r c True W):ue 197 [.agg #[O.v v,O.v w]] e f r λH=>xH r H True W:=by
 apply Fc;simp -zeta only[aC,aB];intro g a2;obtain⟨I,E⟩:=dF (a:=g) (c:=a2) rfl rfl;have s1:g.size=e.size+1:=by simp[g]
 clear_value a2;have ap:=t.ir.len;have aD:=t.nR;refine(fG (b:=g.size::f) (bP X I.size (E _ aJ)) (t.le I.le).aT t.types).mono λ_ aa⟨aj,s,ak,K⟩=>?_;subst s;refine⟨K.dv E,_,rfl,?_⟩;intro ab ax ai;have u2:=I.trans K;obtain⟨x5,B0,g0,s3,s5⟩:=ka (b:=ab.size::g.size::f) ik.mono (d:=aa) (a:=ab) (c:=ax) (h:=ai) rfl rfl rfl;clear_value ai;have F:∀a∈[g.size,e.size],a<aa.size:=λa j=>K.lt (E a j);have Y:∀a∈g.size::f,a<aa.size:=λa j=>K.lt (bP X I.size (E _ aJ) a j);refine jW (R:=λb d M=>∃v w H,Value.agg #[O.v b,O.v d]=.agg #[O.v v,O.v w]/\eg (bM f M) v w r H/\xH r H True W/\N e M) (r:=c.length) (f:=e) (b:=f) ik.mono bh bh X ⟨V,F _ aJ⟩ u2 s3 ak ap V x5 B0 g0 (λ_ q=>q.params.length<=3/\q.cG.length<=3/\WB r c.length True q.params.length q.body/\q.body.w<=W) (λb o Z p h1 h2 d h i=>⟨b,o,Z,rfl,⟨h1,h2,t.types,V⟩,Ga hk.iu d h,i⟩) λaw M st Z az μ al aA L ac P ay=>?_
 obtain⟨q,hq⟩:=ag (l:=c) (k:=aw) al;obtain⟨ao,an,au,hw⟩:=hk.dz q (av hq);have D:=u2.trans L;obtain⟨aE,aF,b,c1,c2,c3,Q,T,U,z,A⟩:=t.ir.D hq;have G:∀{x:Value}{b o:Nat},af e b o=some x->af M b o=some x:=λh=>D.af h;refine⟨st,P.bV 1,V,V,_,G Q,_,G T,_,G U,_,G z,_,G A,V,V,_,G z,_,G A,?_⟩;intro i;have hy:=ac.be;have ae:=P.lt;have zM:=L.size;have d:N M i:=N.push _ _;have s7:i.size=M.size+1:=by simp[i]
 have am:aq i (.mk M.size 0 0 0) []:=lZ _ _ _ _ _ _;clear_value i;have p:∀{x:Value}{b o:Nat},af e b o=some x->af i b o=af M b o:=λh=>by rw[d.af (G h),G h]
 have C:∀{b o:Nat},b<M.size->af i b o=af M b o:=λh=>aM (d.same _ h) _;have B:e.size<M.size:=L.lt (F _ aJ);refine⟨p z,p A,C B,C B,C B,p Q,p T,p U,p z,p A,C B,C ae,?_⟩;refine(Fb q.body.w q.body (ad _) (st.E::ab.size::g.size::f) i (λa j=>?_) v w b (.mk M.size 0 0 0) [] q.params.length (t.le (D.trans d).le) (c3.le (D.trans d).le) am au V bR).aK (L.trans d) F λss b' M1 ar ah u u1=>⟨_,_,rfl,?_⟩
 ·simp only[aU]at j;rcases j with s|s|s|s
  ·omega
  ·omega
  ·have:=Y a (by simp[s]);omega
  ·have:=Y a (by simp[s]);omega
 have y:∀{x:Value}{b o:Nat},af e b o=some x->af M1 b o=af i b o:=λh=>by rw[u.af (d.af (G h)),d.af (G h)]
 refine⟨y Q,y T,y U,y z,y A,aM (u.same _ (d.lt B)) _,aM (u.same _ (d.lt ae)) _,?_⟩;exact vr (b:=g.size::f) (w:=aj) (y:=Z) Y (λa j=>by have h1:=F a j;have h2:=u1.size;omega) u1 (ac.ext ik.mono (d.trans u)) (P.ext (d.trans u)) V (c1.ext (D.trans (d.trans u))) (c2.ext (D.trans (d.trans u))) ar ⟨V,V⟩ V λs' M' g' B' x'=>ay s' M' _ g' B' x' ⟨ao,an,ah.1,bX ah.2 hw⟩
end
section
variable{m:J}{t:O}{b:Bk}{a:List Nat}
def NM(a:Int)(l:List cK):Nat:=l.countP λs=>s.op=a
def We:∀l:List cK,NM 14 l+NM 15 l<=l.length
 |[]=>by simp[NM]
 |s::l=>by
  have:=We l;simp only[NM,ZU,aZ]at this⊢;by_cases h:s.op=14
  ·simp[h];omega
  ·by_cases a:s.op=15
   ·simp[a];omega
   ·simp[h,a];omega
def Rv(a:Int)(l:List cK)(s:cK):NM a (l++[s])=NM a l+(if s.op=a then 1 else 0):=by
 simp[NM,List.countP_append,ZU]
def G5(j:eD m t b.ar):sg 269 [.agg #[O.v t,vi b.aV]] m λc=>0<=c/\c<=b.ar.length/\∀(i:Nat)(a:cK),b.ar[i]? =some a->(i:Int)<c->a.op=14\/a.op=15:=by
 apply Ah;simp -zeta only[aC,aB];intro d;have H:N m d:=N.push _ _;have B:∀s∈[m.size],s<d.size:=by simp[d]
 clear_value d;have C:=j.len;refine fB (n:=b.ar.length) (C▸j.gV) (λc M=>N d M/\∀(i:Nat)(a:cK),b.ar[i]? =some a->i<c->a.op=14\/a.op=15) ⟨N.az _,λi a _ h=>V⟩ ?_;rintro c M P μ U ⟨q,p⟩ F
 have u:=H.trans q;have R:∀{o:J},N m o->∃g:Int,vi (c:Int)=vi g/\(0<=g/\g<=b.ar.length/\∀(i:Nat)(a:cK),b.ar[i]? =some a->(i:Int)<g->a.op=14\/a.op=15)/\N m o:=λK=>⟨c,rfl,⟨V,V,λi a e h=>p i a e V⟩,K⟩;refine⟨λh=>?_,λh=>R u⟩;simp only[au]at h;obtain⟨a,e⟩:=ag (l:=b.ar) (k:=c) V;obtain⟨r,E,S,W,w,g1,g2,y,z⟩:=j.D e;refine⟨V,V,_,u.af w,_,u.af g1,_,u.af g2,_,u.af y,_,u.af z,?_⟩;refine(zQ (x:=a) r E M).aK q B λQ X A I G=>⟨_,rfl,λD=>F V _ ⟨G,λi L f T=>?_⟩,λ_=>R (u.trans I)⟩;by_cases v:i=c
 ·subst v;rw[e]at f;simp at f;subst f;exact A.1 D
 ·exact p i L f V
def xt(P:∀j∈a,j<m.size)(E:eD m t b.ar){f:Nat}(hm:f<=b.ar.length)(g:Int)(L:∀(i:Nat)(s:cK),b.ar[i]? =some s->i<f->0<s.args.length)(hb:b.ar.length<=1000000000000):
 ku 270 [.agg #[O.v t,vi b.aV],vi f,vi g] m a λe=>(∀y∈e,∃(i:Nat)(s:cK),i<f/\b.ar[i]? =some s/\y∈s.args)/\e.length<=NM g (b.ar.take f):=by
 apply Bl
 simp -zeta only[aC,aB]
 intro d A
 have B:N m d:=N.push _ _
 have Q:∀j∈[m.size],j<d.size:=by simp[d]
 have S:N d A:=N.push _ _
 have K:GI a d A (.mk d.size 0 0 0) []:=GI.nil a d
 clear_value A
 clear_value d
 have ad:=E.len
 refine dS (n:=f) V (λc s M=>N d M/\∃e,GI a d M s e/\(∀y∈e,∃(i:Nat)(s:cK),i<f/\b.ar[i]? =some s/\y∈s.args)/\e.length<=NM g (b.ar.take c)) ⟨S,[],K,aJ,aJ⟩ ?_
 rintro c s M U μ hk ⟨r,e,v,z,R⟩ G
 have u:=B.trans r
 refine dit (λw=>?_) λw=>?_
 ·obtain⟨x,q⟩:=ag (l:=b.ar) (k:=c) V
  obtain⟨X,kk,D,ac,H,Y,Z,I,e4⟩:=E.D q
  have aa:=D.len
  have:=L c x q V
  obtain⟨y,F⟩:=ag (l:=x.args) (k:=0) V
  have p:NM g (b.ar.take (c+1))=NM g (b.ar.take c)+(if x.op=g then 1 else 0):=by rw[bn q,Rv]
  have ab:NM g (b.ar.take c)<=(b.ar.take c).length:=List.countP_le_length
  have af:=pX c b.ar
  refine⟨V,V,_,u.af H,λo=>⟨V,V,_,u.af I,bh,V,y,(D.ext u).D F,?_⟩,λo=>G V _ _ ⟨r,e,v,z,?_⟩⟩
  ·intro m3
   simp only[aE]at o
   rw[an o]at p
   refine GI.jY v (r.fz []) (λj p=>B.lt (P j p)) V λah W J C _ _=>⟨N.nW (r.aN _) C.ext Q,G V _ _ ⟨C.ext,_,J,λT h=>?_,bR⟩⟩
   rcases List.mem_append.1 h with h|h
   ·exact z T h
   ·simp at h;subst h;exact⟨c,x,V,q,av F⟩
  ·simp only[ak]at o
   rw[ae o]at p;omega
 ·have h:c=f:=V
  subst h
  exact⟨s,e,rfl,v.ct (λ_ w=>w) B.size,⟨z,R⟩,u⟩
def P1:∀{l:List cK},(∀x∈l,dn x=0)->dc l=0
 |[],_=>rfl
 |x::l,h=>by rw[jR,h x aX,P1 λy a=>h y (ai _ a)]
def Si:∀{l:List cK},(∀x∈l,2<=x.w)->2*l.length<=sw l
 |[],_=>aJ
 |x::l,h=>by
  have b:=h x aX;have c:=Si λy a=>h y (ai _ a);rw[mh,aZ];omega
def Kh(hS:∀c∈a,c<m.size){Y:O}{r:List Int}{ds:List bu}{nr h:Nat}(p:eD (bM a m) t b.ar)(hf:aq m Y r)(bp:r.length<=3)(an:WB ds nr True (h+r.length) b)(hw:b.w<=100000000000)(ha:h<=1000000000000){o:Int}(hx:0<=o/\o<(h:Int)):
 mX 245 [.agg #[O.v t,vi b.aV],vi o,O.v Y,vi h] m a λb'=>WB ds nr True (h+r.length) b'/\b'.w<=b.w+8:=by
 apply Du
 simp -zeta only[aC,aB]
 intro q U
 obtain⟨C,D⟩:=dF (a:=q) (c:=U) rfl rfl
 have s1:q.size=m.size+1:=by simp[q]
 have s2:U.size=m.size+2:=by simp[U,s1]
 clear_value U
 obtain⟨ao,aN⟩:=an.bd
 have am:=p.le (bG _ _)
 have bm:=Bk.lO b
 have bw:=fH b.ar
 have aQ:=p.len
 have bo:=p.cap
 have bq:=hf.len
 refine(G5 (am.le C.le)).aK (N.az U) D λmn m3 a7 x3 _=>⟨_,rfl,?_⟩
 obtain⟨kn,a5⟩:∃kn:Nat,mn=kn:=⟨mn.toNat,V⟩
 subst a5
 have aL:∀(d:Nat)(s:cK),b.ar[d]? =some s->d<kn->s.op=14\/s.op=15:=λd s z aG=>a7.2.2 d s z V
 have al:∀(d:Nat)(s:cK),b.ar[d]? =some s->d<kn->0<s.args.length:=λd s z aG=>by
  have:=aL d s z aG;have:=(ao d s z).eO.jZ V;omega
 have u3:=C.trans x3
 refine(xt (a:=[]) aJ (am.le u3.le) (f:=kn) V 14 al V).aK x3 D λsd G m4 gd hd x4 v4=>⟨_,rfl,?_⟩
 refine(xt (a:=[]) aJ (am.le (C.trans v4).le) (f:=kn) V 15 al V).aK v4 D λsr R m5 gr hr x5 v5=>⟨_,rfl,?_⟩
 have bn:=We (b.ar.take kn)
 have bz:(b.ar.take kn).length=kn:=bR
 have aO:aq m5 sr R:=(gr.done aJ V).le (bG _ _)
 refine(dj aO o).aK v5 D λbk m6 bl x6 B=>⟨_,rfl,λ_=>?_,λbr=>⟨λ_=>?_,λa8=>?_⟩⟩
 ·exact⟨t,b,rfl,p.le (((C.trans B).ah V _ _).cW _),⟨an,V⟩,(C.trans B).ah V _ _⟩
 ·exact⟨t,b,rfl,p.le (((C.trans B).ah V _ _).cW _),⟨an,V⟩,(C.trans B).ah V _ _⟩
 have bs:0<r.length:=by simp only[ak]at a8;omega
 have aH:∀s∈b.ar.take kn,∃d:Nat,d<kn/\b.ar[d]? =some s:=λs p=>by
  obtain⟨d,z⟩:=List.mem_iff_getElem?.1 p;have:=aD z;rw[dP V]at z;exact⟨d,V,z⟩
 have aE:dc (b.ar.take kn)=0:=P1 λs p=>by
  obtain⟨d,h1,L⟩:=aH s p;have:=aL d s L h1;exact ae λZ:oI s.op=>by have:=Z.2;omega
 have bv:2*kn<=sw (b.ar.take kn):=by
  have:=Si (l:=b.ar.take kn) λs p=>by
   obtain⟨d,h1,L⟩:=aH s p;have:=al d s L h1;have:=cK.lO s;omega
  omega
 have bx:sw b.ar=sw (b.ar.take kn)+sw (b.ar.drop kn):=by rw[<-dq,cT]
 have a2:dc b.ar=dc (b.ar.take kn)+dc (b.ar.drop kn):=by rw[<-cL,cT]
 have VU:∀y:Int,(∃(d:Nat)(s:cK),d<kn/\b.ar[d]? =some s/\y∈s.args)->0<=y/\y<((h+r.length:Nat):Int):=λy⟨d,s,h1,L,h3⟩=>by
  have h4:=(ao d s L).eO.args y h3;have h5:=Rx (b.ar.take kn) d;rw[KA,jc V]at h5;omega
 refine(rB (S:=[]) aJ ((aO.ext x6).le (zc _)) o V).aK B D λbe ba m8 aA aK x8 v8=>⟨_,rfl,?_⟩
 have y2:=aA.be
 have u6:=C.trans B
 have bX:=x8.size
 have a9:aq (bM [be.E] m8) sd G:=((gd.done aJ V).le (bG _ _)).le (((x5.trans x6).le.trans (zc m6)).trans (x8.bM λc e=>Or.inr (by simp at e;omega)))
 refine wi (n:=r.length) V (λg sd sr M=>N m6 M/\∃G R,aq (bM [sr.E] M) sd G/\GI [] m6 M sr R/\(∀y∈G,0<=y/\y<((h+r.length:Nat):Int))/\G.length<=NM 14 (b.ar.take kn)/\(∀y∈R,0<=y/\y<((h+r.length:Nat):Int))/\R.length<=NM 15 (b.ar.take kn)+g) ⟨x8,G,ba,a9,aA,λy Q=>VU y (hd.1 y Q),hd.2,λy Q=>VU y (hr.1 y (aK.1 y Q)),by have:=aK.2;have:=hr.2;omega⟩ ?_
 rintro g H E v aw μ hk ⟨I,ac,T,P,K,aa,aF,ab,bt⟩ ap
 have W:=u6.trans I
 have y3:=K.be
 have u:∀c∈[q.size,m.size],c<v.size:=λc e=>I.lt (B.lt (D c e))
 refine⟨λZ=>?_,λZ=>?_⟩
 ·simp only[au]at Z
  obtain⟨y,Q⟩:=ag (l:=r) (k:=g) V
  have ew:cR ((h:Int)+(g:Int))=(h:Int)+g:=aP V V
  rw[ew]
  have aj:∀{M:J},N v M->af M Y.E (Y.off+Int.toNat (g:Int)*1)=some (vi y):=λw=>(hf.ext (W.trans w)).D Q
  have ay:∀{M:J},N v M->aw H E (cR ((g:Int)+1)) M/\μ H E (cR ((g:Int)+1)) M<μ H E g v:=λw=>ap V _ _ _ ⟨I.trans w,ac,T,P.le (w.cW _),K.ext w,aa,aF,ab,V⟩
  have Mx:∀{M:J},N v M->jh (M.push (.cells (bC [.i ((h:Int)+g)]) aI)) aI [.i 0] 8 E (.mk M.size 0 1 1) λav X=>dR [q.size,m.size] (M.push (.cells (bC [.i ((h:Int)+g)]) aI)) X/\aw H av (cR ((g:Int)+1)) X/\μ H av (cR ((g:Int)+1)) X<μ H E g v:=λ{M} w=>by
   refine GI.jY (K.ext w) ((I.trans w).fz []) aJ V λav X g' f' z' q'=>⟨N.nW ((I.trans w).aN _) f'.ext (λc e=>B.lt (D c e)),ap V _ _ _ ⟨f'.ext,ac,_,(P.le (w.cW _)).le (oT λc e hn=>?_),g',aa,aF,λah A=>?_,bR⟩⟩
   ·simp at hn;refine⟨?_,q' c e hn⟩;simp;rcases z'.2 with f|f<;>omega
   ·rcases List.mem_append.1 A with A|A
    ·exact ab ah A
    ·simp at A;omega
  refine⟨V,V,y,aj (N.az _),λ_=>?_,λ_=>⟨V,V,y,aj (N.az _),λ_=>?_,λ_=>ay (N.az _)⟩⟩
  ·refine(dj (P.le (bG _ _)) _).aK (N.az v) u λbb aT _ F _=>⟨_,rfl,λ_=>?_,λ_=>⟨V,V,y,aj F,λ_=>?_,λ_=>ay F⟩⟩
   ·refine(rB (S:=[E.E]) (by have:=F.size;simp;omega) (P.le (F.cW _)) _ V).aK F u λaV aS ax aR ar aW az=>⟨_,rfl,ap V _ _ _ ⟨I.trans az,aS,T,aR.done (by have:=F.size;simp;omega) (by have:=ar.2;omega),K.ext az,λah A=>aa ah (ar.1 ah A),by have:=ar.2;omega,ab,V⟩⟩
   ·intro ax
    exact Mx F
  ·intro ax
   exact Mx (N.az _)
 ·have a_:aq v E T:=(K.done aJ V).le (bG _ _)
  have F:∀{M:J},v.size<=M.size->∀c∈q.size::a,c<M.size:=λA c e=>by
   rcases List.mem_cons.1 e with f|f
   ·have:=u q.size aJ;omega
   ·have:=hS c f;have:=W.size;omega
  refine(eI (c:=q.size::a) (F (ad _)) 14 (P.le (bG _ _)) V).aK (N.az v) u λbb bB bE ax aX aj _=>⟨_,rfl,?_⟩
  subst aX
  have bT:=ax.be
  have bi:=aj.size
  refine(iz (c:=bb.E::q.size::a) (λc e=>?_) 16 o).mono λbS bF⟨bj,bA,f,a1,a4,ar⟩=>⟨λc e=>ar.same c (aj.lt (u c e)),_,_,_,_,_,f,?_⟩
  ·rcases List.mem_cons.1 e with f|f
   ·omega
   ·exact F bi c f
  intro bH
  have av:=aj.trans ar
  refine GS.jY (x:=eN 16 o) (ax.ext gG.mono ar) (av.fz []) a1 a4 bR λbc bI ay Q bY bN=>⟨N.nW (av.aN _) Q.ext u,?_⟩
  have bU:=ay.be
  have bW:=av.size
  have aV:=Q.size
  refine(eI (c:=bc.E::q.size::a) (λc e=>?_) 15 (a_.ext Q.ext) V).aK Q.ext u λbQ bD bJ aZ aY bg aT=>⟨_,rfl,?_⟩
  ·rcases List.mem_cons.1 e with f|f
   ·omega
   ·exact F aV c f
  subst aY
  refine GS.all (ay.ext gG.mono bg) (aT.fz []) (aZ.done gG.mono (λc e=>?_) bh bR) bR λaS aR az w bZ bO=>⟨N.nW aT w.ext u,V,V,V,?_⟩
  ·rcases List.mem_cons.1 e with f|f
   ·omega
   ·exact F aV c f
  have bV:=az.be
  have z9:=W.size
  have bf:=W.trans w.ext
  have a6:Le (bM a m) (bM (aS.E::q.size::a) aR):=bf.bM λc e=>by
   simp only[aU]at e;rcases e with f|f|f
   ·exact Or.inr V
   ·exact Or.inr V
   ·exact Or.inl f
  have ek:Int.toNat (kn:Int)=kn:=V
  have el:Int.toNat (t.len:Int)=t.len:=V
  rw[ek,el]
  have a3:eD (bM (aS.E::q.size::a) aR) (t.cut kn t.len 5) (b.ar.drop kn):=by
   have:=(p.le a6).Jk (i:=kn) (j:=t.len) V V;rwa[aQ,cN (ad _),<-aQ]at this
  refine GS.all az w a3 bR λbd bK a0 ah b0 bP=>⟨N.nW w.ext ah.ext u,aM (by rw[ah.ext.same _ (u _ aJ),w.ext.same _ (u _ aJ)]) _,?_⟩
  intro bL
  have aW:=a0.done gG.mono (F (ad _)) bh bR
  have X:dc [eN 16 o]=0:=js bh [o]
  have e2:sw [eN 16 o]=2:=nO 16 [o]
  have W1:WL ds nr True (h+r.length) (ac.map (eN 14)++[eN 16 o]++T.map (eN 15)++b.ar.drop kn):=by
   refine WL.append (WL.append ((qT bh aa).zp ?_) ?_) ?_
   ·rw[js bh];exact CL bh ⟨hx.1,V⟩
   ·rw[cL,js bh,X];exact qT bh ab
   ·rw[cL,cL,js bh,js bh,X];have:=ao.drop kn;rwa[aE]at this
  refine⟨bd,.mk (ac.map (eN 14)++[eN 16 o]++T.map (eN 15)++b.ar.drop kn) b.aV,rfl,eD.le (cv aJ λc e=>ai _ e) aW,⟨.of W1 ?_,?_⟩,(W.trans ah.ext).ah V _ _⟩
  ·rw[cL,cL,cL,js bh,js bh,X]
   rw[a2,aE]at aN
   simpa using aN
  ·rw[Bk.pW,dq,dq,dq,nO,nO,e2];omega
end
def Yc(c:List bu)(d:List gB)(b:Bk):Prop:=∀(S:List Nat)(m:J),(∀a∈S,a<m.size)->∀(f r t:O)(a:Nat),eg m f r c d->eD m t b.ar->WB c d.length True a b->a+4*b.w<=1000000000000->9*b.w<=100000000000->
 mX 229 [.agg #[O.v f,O.v r],.agg #[O.v t,vi b.aV],vi a] m S λe=>WB c d.length True a e/\e.w+8<=9*b.w
def Ca{B:List bu}{rs:List gB}:∀D:Bk,Yc B rs D:=by
 refine Bk.ind ?_;intro ar Z ih t ah hS aV a7 bY u P hs bl bz bB;have a2:=bl.bd;rw[Bk.pW]at*;simp only[Bk.jq,Bk.iH]at*;apply vP;simp -zeta only[aC,aB];intro aj p v h m5 m6;obtain⟨x3,hl,s1,s2,s3⟩:=pH (a:=aj) (b:=p) (c:=v) rfl rfl rfl;have s4:h.size=v.size+1:=by simp[h]
 have a9:N h m6:=(N.push h _).ah (ad _) _ _;have bq:N v m6:=(N.push v _).trans a9;have g0:GS (h.size::p.size::t) v m6 (.mk v.size 0 0 0) []:=(GS.new _ v).ext gG.mono a9;have B0:cx m6 h.size da [.s (.mk v.size 0 0 0),.i Z]:=cx.ah (m:=m5) (o:=0) (r:=[.s (.mk v.size 0 0 0),.i Z]) (cx.push h _ _);have ba:∀f∈p.size::t,f<v.size:=bP hS x3.size (hl _ aJ);clear_value m6;clear_value v;have bf:=hs.len;have bi:=Aw ar;have bO:=fH ar;refine dS (n:=ar.length) (bf▸hs.gV) (λd(w:Int) M=>w=((u+dc (ar.take d):Nat):Int)/\N v M/\∃s z,GS (h.size::p.size::t) v M s z/\cx M h.size da [.s s,.i Z]/\z.length=d/\WL B rs.length True u z/\dc z=dc (ar.take d)/\sw z<=9*sw (ar.take d)) ⟨aJ,bq,_,[],g0,B0,rfl,WL.nil _ _ _ _,aJ,aJ⟩ ?_;rintro d v0 M aT μ hk ⟨bk,xM,s,z,ap,aa,bI,wl,az,bj⟩ a6
 subst bk;have w:=x3.trans xM;have hy:=ap.be;have zM:=xM.size;have bt:=aa.lt;refine dit (λau=>?_) λau=>?_
 ·obtain⟨c,Q⟩:=ag (l:=ar) (k:=d) V;obtain⟨pa,pk,ha,aO,e0,e1,e2,e3,e4⟩:=hs.D Q;have bT:=Nd Q;have bV:=cK.lO c;have bD:=pI c.bD;have bU:=pu Q;have bS:=qd Q;have X:=a2.1 d c Q;have bF:=sq (ar.take d);have bL:=fH (ar.take d);have bQ:=bi (d+1);refine⟨V,V,_,w.af e0,_,w.af e1,_,w.af e2,_,w.af e3,_,w.af e4,?_⟩;intro m7 q T;have x8:N M q:=(N.push M _).ah (ad _) _ _;have s8:q.size=M.size+1:=by simp[q,m7,ay]
  have x9:N q T:=N.push _ _;have s9:T.size=q.size+1:=by simp[T]
  have a_:GB (s.E::h.size::p.size::t) q T (.mk q.size 0 0 0) []:=GB.new _ q;clear_value T;clear_value q;have aK:∀f∈s.E::h.size::p.size::t,f<q.size:=λf j=>by
   simp only[aU]at j;rcases j with e|e|e|e
   ·omega
   ·omega
   ·omega
   ·have:=hS f e;omega
  have aQ:=aO.len;have F:∀{g:J},q.size<=g.size->∀f∈[M.size,p.size,aj.size,ah.size],f<g.size:=λau f j=>by simp at j;omega
  have z9:T.size=q.size+1:=s9;refine(gN (e:=[q.size]) bR (P.aT.le (w.trans (x8.trans x9)).le) P.types c.bL).aK (N.az T) (F x9.size) λsc lc bW aZ e a8 _=>⟨_,rfl,?_⟩;subst e;have bJ:=aZ.len;refine dS (n:=c.bD.length) (aQ▸aO.gV) (λy ks g=>N q g/\aq (bM [ks.E] g) sc (cg B c.bL)/\∃lk,GB (s.E::h.size::p.size::t) q g ks lk/\lk.length=y/\(∀(R:Nat)(D:Bk),lk[R]? =some D->WB B rs.length True (u+dc (ar.take d)+AG B c.op c.bL R) D)/\bw lk<=9*bw (c.bD.take y)) ⟨x9.trans a8,aZ,[],a_.ext qO.mono a8,rfl,aJ,aJ⟩ ?_;rintro y ks C I2 μ2 hj ⟨am,a0,lk,gk,bH,aX,be⟩ bo;have G:N ah C:=w.trans (x8.trans am);have yk:=gk.be;have U:=am.size;refine dit (λh2=>?_) λh2=>?_
  ·obtain⟨D,W⟩:=ag (l:=c.bD) (k:=y) V;obtain⟨tb,a1,f0,f1⟩:=aO.D W;have bE:=we W;have bd:=tL W;have ax:=X.bD y D W;have h3:=O8 P.types c.op c.bL y;have aI:∀{g:J},N C g->∀f∈ks.E::s.E::h.size::p.size::t,f<g.size:=λxx f j=>by
    have:=xx.size;rcases List.mem_cons.1 j with e|e
    ·omega
    ·have:=aK f e;omega
   have ao:∀{g:J}{ss:O}{E:Bk},N C g->eD (bM (ks.E::s.E::h.size::p.size::t) g) ss E.ar->WB B rs.length True (u+dc (ar.take d)+AG B c.op c.bL y) E->E.w<=9*D.w->
    jh (g.push (.cells (bC [.s ss,.i E.aV]) da)) da [.s .nil,.i 0] 32 ks (.mk g.size 0 1 1) λY M3=>dR [M.size,p.size,aj.size,ah.size] (g.push (.cells (bC [.s ss,.i E.aV]) da)) M3/\I2 Y (cR ((y:Int)+1)) M3/\μ2 Y (cR ((y:Int)+1)) M3<μ2 ks y C:=λ{g ss E} x11 ac hwb' hw'=>by
    refine GB.jY (c:=E) (gk.ext qO.mono x11) ((am.trans x11).fz []) ac V λY M3 g2 f2 br q2=>⟨N.nW ((am.trans x11).aN _) f2.ext (F (ad _)),bo V _ _ ⟨f2.ext,(a0.le (x11.cW _)).le (oT λf j aY=>?_),_,g2,bR,λR b2 I=>?_,?_⟩⟩
    ·simp at aY
     refine⟨?_,q2 f j aY⟩
     simp
     rcases br.2 with e|e<;>omega
    ·rcases bA R lk.length with A|A
     ·rw[aw A]at I;exact aX R b2 I
     ·rw[aF A]at I
      have:R -lk.length=0:=by have:=aD I;simp at this;omega
      rw[this]at I;simp at I;subst I
      have:R=y:=V
      subst this;exact hwb'
    ·rw[oh,tK,yN,bd]
     omega
   refine⟨λH=>?_,λH=>?_⟩
   ·simp only[aE]at H;obtain⟨bx,_⟩:=X.eO.all H;have bs:=X.eO.jZ (Or.inr (Or.inr H));obtain⟨aS,a3⟩:=ag (l:=c.args) (k:=0) V;obtain⟨y0,y1⟩:=X.eO.args aS (av a3);have bv:=ha.len;obtain⟨cn,aW⟩:=ag (l:=cg B c.bL) (k:=y) V;refine⟨V,V,cn,(a0.le (bG _ _)).D aW,?_⟩;refine(dC (e:=[]) aJ (P.aT.le (G.le.trans (zc _))) P.types cn).aK (N.az C) (F U) λsf lf a4 aA e aG _=>⟨_,rfl,?_⟩;subst e;have aA:=aA.le (bG _ _);have bK:=aA.len;have ab:=G.trans aG;rw[Jb H aW]at ax h3 ao;have aH:af a4 pa.E (pa.off+Int.toNat (0:Int)*1)=some (vi aS):=(ha.ext ab).D a3;refine⟨V,V,_,ab.af f0,_,ab.af f1,bh,V,aS,aH,?_⟩;have ew:cR (((u+dc (ar.take d):Nat):Int)+(sf.len:Int))=((u+dc (ar.take d)+(cz B cn).length:Nat):Int):=by rw[aP V V];omega
    rw[ew];refine(ih c (av Q) D (av W) (ks.E::s.E::h.size::p.size::t) a4 (aI aG) aV a7 tb _ (P.le ab.le) (a1.le ab.le) ax V V).aK aG (F U) λss E bm ac aN al aR=>⟨_,_,rfl,?_⟩;refine⟨by rw[al.af aH,aH],aM (al.same _ (aG.lt (F U _ aJ))) _,?_⟩;refine(Kh (a:=ks.E::s.E::h.size::p.size::t) (aI aR) ac (aA.ext al) V aN.1 V V ⟨y0,y1⟩).aK aR (F U) λbX b2 a5 bg bb A bp=>⟨_,_,rfl,?_⟩;intro bn;exact ao bp bg bb.1 V
   ·simp only[ak]at H;rw[Jc H]at ax ao;refine⟨V,V,_,G.af f0,_,G.af f1,?_⟩;refine(ih c (av Q) D (av W) (ks.E::s.E::h.size::p.size::t) C (aI (N.az _)) aV a7 tb _ (P.le G.le) (a1.le G.le) ax V V).aK (N.az C) (F U) λss E bm ac aN al aR=>⟨_,_,rfl,?_⟩;intro a5;exact ao al ac aN.1 V
  ·have ax:lk.length=c.bD.length:=V;rw[cN V]at be;have W:N M C:=x8.trans am;have I:=aa.ext W;have G2:=ap.ext gG.mono W;refine⟨s,I.bV 0,?_⟩;refine(bN (s.E::h.size::p.size::t) (ha.ext G) V).aK (N.az C) (F U) λs' l' a5 ga e A _=>⟨_,rfl,aM (A.same _ V) _,aM (A.same _ V) _,aM (A.same _ V) _,aM (A.same _ I.lt) _,?_⟩;subst e;intro bn;refine Gr.box (g:=[.i 0,.i 0,.i 0,.s .nil,.s .nil]) (K:=λg=>aL cp 205 [vi c.op] g λw H=>dR [M.size,p.size,aj.size,ah.size] g H/\∃E:Bool,w=vb E/\
    (E=true->aT (cR (((u+dc (ar.take d):Nat):Int)+1)) (cR ((d:Int)+1)) H/\μ (cR (((u+dc (ar.take d):Nat):Int)+1)) (cR ((d:Int)+1)) H<μ ((u+dc (ar.take d):Nat):Int) (d:Int) M)/\
    (E=false->aT ((u+dc (ar.take d):Nat):Int) (cR ((d:Int)+1)) H/\μ ((u+dc (ar.take d):Nat):Int) (cR ((d:Int)+1)) H<μ ((u+dc (ar.take d):Nat):Int) (d:Int) M)) (L:=[M.size,p.size,aj.size,ah.size]) (j:=0) (y:=72) (i:=[.s s,.i Z]) (w:=⟨c.op,c.bL,c.bH,c.args,lk⟩) gG.mono bh (G2.ext gG.mono A) (((xM.trans W).trans A).fz []) ⟨s',ks,rfl,(ga.done (λf j=>by have:=aK f j;omega) V),np.le (A.cW _) (gk.done qO.mono aK bh (by show lk.length<=_;omega))⟩ V (I.ext A) aJ bh ⟨V,aJ⟩ (λf j=>by have E:=A.size;simp at j;omega) λY m' g' B' f' z' q'=>?_
   have W':WL B rs.length True u (z++[⟨c.op,c.bL,c.bH,c.args,lk⟩]):=wl.zp (X.Od id X.eO.bH ax aX|>λau=>by rw[az];exact au);have aA:=A.size;refine(je c.op m').mono λw H⟨bb,e,ao,E⟩=>⟨λf j=>E.same f (by have:=F U f j;omega),bb,e,?_⟩;have ac:=sB c bb ao;have ab:dc (z++[⟨c.op,c.bL,c.bH,c.args,lk⟩])=dc (ar.take (d+1)):=by
    rw[cL,jR,sA,az];have e:dn (⟨c.op,c.bL,c.bH,c.args,lk⟩:cK)=dn c:=rfl;omega
   have al:sw (z++[⟨c.op,c.bL,c.bH,c.args,lk⟩])<=9*sw (ar.take (d+1)):=by
    rw[dq,mh,uH];have h5:(⟨c.op,c.bL,c.bH,c.args,lk⟩:cK).w=1+c.args.length+bw lk:=cK.lO _;omega
   refine⟨λht=>?_,λhf=>?_⟩
   ·rw[an ht]at ac;rw[aP (b:=((u+dc (ar.take d):Nat):Int)+1) V V];exact a6 V _ _ ⟨V,f'.ext.trans E,Y,_,g'.ext gG.mono E,B'.ext E,bR,W',ab,al⟩
   ·rw[ae (by simp[hf])]at ac;exact a6 V _ _ ⟨V,f'.ext.trans E,Y,_,g'.ext gG.mono E,B'.ext E,bR,W',ab,al⟩
 ·have aQ:d=ar.length:=V;subst aQ;rw[fE]at az bj;refine⟨s,aa.bV 0,Z,aa.bV 1,?_⟩;intro m7;have c:Le (bM (h.size::p.size::t) M) (bM t m7):=cv aJ λf j=>ai _ (ai _ j);have g:=ap.ne aa bh;refine⟨s,.mk z Z,rfl,eD.le c (ap.ns gG.mono (λj=>?_) bh (by show z.length<=_;omega)),⟨.of wl (by rw[az];exact a2.2),by rw[Bk.pW];omega⟩,w.ah V _ _⟩;rcases List.mem_cons.1 j with e|e
  ·exact g e
  ·have:=ba _ e;omega
def DA{d:List Nat}{f:J}(D:∀c∈d,c<f.size){j r:O}{h:List bu}{p:List gB}(i:eg f j r h p){W:Nat}(hW:9*W<=100000000000)(Y:xH h p True W):ue 196 [.agg #[O.v j,O.v r]] f d h λv=>xH h v True (9*W):=by
 apply wT;simp -zeta only[aC,aB];intro b a2;obtain⟨z,u⟩:=dF (a:=b) (c:=a2) rfl rfl;have s1:b.size=f.size+1:=by simp[b]
 clear_value a2;have am:=i.ir.len;have aD:=i.nR;refine(fG (b:=b.size::d) (bP D z.size (u _ aJ)) (i.le z.le).aT i.types).mono λ_ I⟨ac,e,ai,A⟩=>?_;subst e;refine⟨A.dv u,_,rfl,?_⟩;intro K aq aa;have u2:=z.trans A;obtain⟨x5,B0,g0,s3,s5⟩:=ka (b:=K.size::b.size::d) ik.mono (d:=I) (a:=K) (c:=aq) (h:=aa) rfl rfl rfl;clear_value aa;have F:∀c∈[b.size,f.size],c<I.size:=λc a=>A.lt (u c a);have E:∀c∈b.size::d,c<I.size:=λc a=>A.lt (bP D z.size (u _ aJ) c a);refine jW (R:=λg o M=>∃j r v,Value.agg #[O.v g,O.v o]=.agg #[O.v j,O.v r]/\eg (bM d M) j r h v/\xH h v True (9*W)/\N f M) (r:=p.length) (f:=f) (b:=d) ik.mono bh bh D ⟨V,F _ aJ⟩ u2 s3 ai am V x5 B0 g0 (λ_ q=>q.params.length<=3/\q.cG.length<=3/\WB h p.length True q.params.length q.body/\q.body.w<=9*W) (λg x H y U t o s w=>⟨g,x,H,rfl,⟨U,t,i.types,V⟩,Ga Y.iu o s,w⟩) λap M st H aw μ aj az P T B ar=>?_
 obtain⟨q,hq⟩:=ag (l:=p) (k:=ap) aj;obtain⟨al,ak,ao,hw⟩:=Y.dz q (av hq);have w:=u2.trans P;obtain⟨au,aE,s,Q,c2,c3,e0,e1,e2,e3,e4⟩:=i.ir.D hq;have G:∀{ab:Value}{s o:Nat},af f s o=some ab->af M s o=some ab:=λah=>w.af ah;refine⟨V,V,_,G e0,_,G e1,_,G e2,_,G e3,_,G e4,?_⟩;intro m7 g;have hy:=T.be;have ax:=B.lt;have zM:=P.size;have L:N M g:=(N.push M _).ah (ad _) _ _;have s8:g.size=M.size+1:=by simp[g,m7,ay]
 clear_value g;have Z:∀c∈[M.size,b.size,f.size],c<g.size:=λc a=>by
  rcases List.mem_cons.1 a with e|e
  ·omega
  ·have:=F c e;omega
 have w8:=w.trans L;have aA:=Q.len;have ae:(au.len:Int)=(q.params.length:Nat):=V;refine⟨st,(B.ext L).bV 1,?_⟩;rw[ae];refine(Ca q.body (st.E::K.size::b.size::d) g (λc a=>?_) j r s q.params.length (i.le w8.le) (c3.le w8.le) ao V V).aK (N.az g) Z λss b' M1 an X y _=>⟨_,_,rfl,?_⟩
 ·simp only[aU]at a;rcases a with e|e|e|e
  ·omega
  ·omega
  ·have:=E c (by simp[e]);omega
  ·have:=E c (by simp[e]);omega
 have C:∀o,af M1 M.size o=af g M.size o:=λo=>aM (y.same _ V) o;refine⟨C 0,C 1,C 2,C 3,C 4,aM (y.same _ V) _,?_⟩;have x:=L.trans y;have z1:=y.size;exact vr (b:=b.size::d) (w:=ac) (y:=H) E (λc a=>by have U:=Z c a;have t:=F c;simp only[aU]at a t;rcases a with e|e|e|e<;>first|omega|(have:=t (by simp[e]);omega)|simp at e) (P.trans x) (T.ext ik.mono x) (B.ext x) V (Q.ext (w.trans x)) (c2.ext (w.trans x)) an ⟨V,V⟩ V λs' U g' t x'=>ar s' U _ g' t x' ⟨al,ak,X.1,by have:=X.2;show b'.w<=_;omega⟩
section
variable{S:List Nat}{m:J}{c:O}{b:List Instr}
def dG.le{m b:J}(h:Le m b){a:List Ce}{x:Instr}:dG m a x->dG b a x:=λ⟨c,j,d,e,f⟩=>⟨c,j,d,e.le h,f.le h⟩
def dG.mono:nM 6 dG:=⟨λh=>dG.le h,λh=>by obtain⟨_,_,rfl,_⟩:=h;rfl⟩
def eS.le{m c:J}(a:Le m c){s:O}{b:List Instr}(h:eS m s b):eS c s b:=eK.le h a λ_ _=>dG.le a
def kJ.le{m d:J}(h:Le m d){a:List Ce}{x:dk}:kJ m a x->kJ d a x:=λ⟨e,b,c,f,g,i,j⟩=>⟨e,b,c,f,g.le h,i.le h,eS.le h j⟩
def kJ.mono:nM 5 kJ:=⟨λh=>kJ.le h,λh=>by obtain⟨_,_,_,rfl,_⟩:=h;rfl⟩
def iP.le{m c:J}(a:Le m c){s:O}{b:List dk}(h:iP m s b):iP c s b:=eK.le h a λ_ _=>kJ.le a
def Ug(x:Instr)(a j:O):Value:=.agg #[vi x.op,vi x.dst,vi x.bL,vi x.bH,O.v a,O.v j]
def vD(z:∀c∈S,c<m.size){q t:O}{x:Instr}(A:aq m q x.args)(B:aq m t x.dX)(g:x.args.length<=1000000000000/\x.dX.length<=1000000000000):
 aL cp 199 [Ug x q t] m λG n=>∃f i,G=Ug x f i/\aq (bM S n) f x.args/\aq (bM S n) i x.dX/\N m n:=by
 apply qJ
 simp -zeta only[aC,aB]
 intro b d
 obtain⟨j,h⟩:=dF (a:=b) (c:=d) rfl rfl
 have I:b.size=m.size+1:=by simp[b]
 clear_value d
 have r:∀c∈b.size::S,c<d.size:=bP z j.size (h _ aJ)
 have E:∀{M p:J},N d M->N M p->∀o,af p m.size o=af M m.size o:=λw y o=>aM (y.same _ (w.lt (h _ aJ))) o
 refine(bN (b.size::S) (A.ext j) g.1).aK (N.az d) h λf _ H u k a _=>⟨_,rfl,E (N.az _) a _,E (N.az _) a _,E (N.az _) a _,E (N.az _) a _,E (N.az _) a _,?_⟩
 subst k
 refine(bN (b.size::S) (B.ext (j.trans a)) g.2).aK a h λi _ C v k e F=>⟨_,rfl,E a e _,E a e _,E a e _,E a e _,?_⟩
 subst k
 intro D
 have s:Le (bM (b.size::S) C) (bM S D):=cv aJ λc l=>ai _ l
 exact⟨f,i,rfl,((u.done r g.1).le (e.cW _)).le s,(v.done (λc l=>a.lt (r c l)) g.2).le s,(j.trans F).ah V _ _⟩
def K8(e:eS m c b)(u:Int):DY 192 [O.v c,vi u] m:=by
 apply Fa;have p:=e.len;refine dS (n:=b.length) (p▸e.gV) (λ_ _ M=>N m M) (N.az _) ?_;rintro s L M I μ H f w
 refine⟨λi=>?_,λ_=>rN f⟩;simp only[au]at i;obtain⟨x,q⟩:=ag (l:=b) (k:=s) V;obtain⟨B,K,d,G,C,h,D,E,g,F⟩:=(eS.ext f e).D q;have o:=d.len;refine⟨V,V,_,h,?_⟩;refine dS (n:=x.args.length) (o▸d.gV) (λ_ _ a=>N M a) (N.az _) ?_;rintro t P A z μ2 J a v;refine⟨V,V,_,a.af g,λj=>?_,λ_=>w V _ _ (f.trans a)⟩;simp only[au]at j;obtain⟨y,r⟩:=ag (l:=x.args) (k:=t) V;exact⟨V,V,_,a.af g,V,V,y,(d.ext a).D r,v V _ _ a⟩
structure NA(k:Nat)(x:Instr):Prop where
 KQ:x.op=22->(k:Int)<x.bL
 arg:x.op=18\/x.op=23\/x.op=16\/x.op=17->0<x.args.length
def Qv(b:List Instr):Prop:=∀(k:Nat)(x:Instr),b[k]? =some x->NA k x
def GZ(g:eS m c b)(G:Qv b){p:Int}(E:0<=p)(Nr:Int):od 231 [O.v c,vi p,vi Nr] m:=by
 apply Ag;simp -zeta only[aC,aB];have K:=g.len;have P:=g.gV;refine⟨λv _ M=>0<=v/\N m M,λv _ _=>((b.length:Int) -v).toNat,⟨E,N.az _⟩,?_⟩;rintro v I M ⟨H,o⟩;refine⟨λh=>?_,λ_=>rA o⟩;simp only[au]at h;obtain⟨a,q⟩:=ag (l:=b) (k:=v.toNat) V;obtain⟨e,Q,f,L,w,z,A,B,C,D⟩:=(eS.ext o g).D q;have J:=f.len;have i:=G _ a q;refine⟨H,V,_,w,_,z,_,A,_,B,_,C,_,D,?_⟩;intro R d;have n:N M d:=(N.push M _).ah (ad _) _ _;clear_value d;have u:=o.trans n;have KQ:(a.op==22)=true->(0<=a.bL/\N m d)/\((b.length:Int) -a.bL).toNat<((b.length:Int) -v).toNat:=λh=>by
  simp only[aE]at h;have:=i.KQ h;exact⟨⟨V,u⟩,V⟩
 have r:(a.op==23)=true->(0:Int)<=0/\(0:Int)<(e.len:Int)/\∃s:Int,af d e.E (e.off+Int.toNat (0:Int)*1)=some (vi s)/\∃t:Bool,vb (s==I)=.bool t/\N m d:=λh=>by
  simp only[aE]at h;have:=i.arg V;obtain⟨y,j⟩:=ag (l:=a.args) (k:=0) V;exact⟨bh,V,y,(f.ext n).D j,rA u⟩
 refine⟨λF=>?_,λ_=>⟨KQ,λ_=>⟨r,λ_=>rA u⟩⟩⟩;simp only[aE]at F;have:=i.arg V;obtain⟨y,j⟩:=ag (l:=a.args) (k:=0) V;refine⟨bh,V,y,(f.ext n).D j,λ_=>?_,λ_=>⟨KQ,λ_=>⟨r,λ_=>rA u⟩⟩⟩;rw[aP (b:=v+1) V V];exact⟨⟨V,u⟩,by show((b.length:Int) -(v+1)).toNat<((b.length:Int) -v).toNat;omega⟩
def I9(b c:List Instr):Prop:=c.length=b.length/\∀(k:Nat)(a:Instr),c[k]? =some a->∃x,b[k]? =some x/\(a=x\/a=⟨24,0,x.bL,0,x.args,x.dX⟩)
def O3(b:List Instr):Prop:=∀x∈b,x.args.length<=1000000000000/\x.dX.length<=1000000000000
abbrev TL(S:List Nat)(a m:J)(s:O)(b:List Instr):Prop:=Gr S a m cV 6 dG s b
def IH(hS:∀c∈S,c<m.size)(h:eS m c b)(ae:Qv b)(af:O3 b)(hb:b.length<=1000000000000):
 aL cp 198 [O.v c] m λQ P=>∃s g,Q=O.v s/\TL S m P s g/\I9 b g/\N m P:=by
 apply Cc
 simp -zeta only[aC,aB]
 intro I
 have x1:N m I:=N.push _ _
 have g0:TL S m I (.mk m.size 0 0 0) []:=Gr.new S (ad _) _ _ _
 clear_value I
 have ac:=h.len
 refine dS (n:=b.length) (ac▸h.gV) (λf s M=>N m M/\∃g,TL S m M s g/\I9 (b.take f) g) ⟨x1,[],g0,by simp[I9]⟩ ?_
 rintro f s M T μ hk ⟨t,g,C,F,G⟩ aj
 refine dit (λaa=>?_) λaa=>?_
 ·obtain⟨e,H⟩:=ag (l:=b) (k:=f) V
  obtain⟨am,ao,ha,hj,U,W,X,Y,Z,e5⟩:=(eS.ext t h).D H
  have ah:=af e (av H)
  have hy:=C.be
  have zM:=t.size
  have an:g.length=f:=by rw[F];simp;omega
  have ab:∀c∈s.E::S,c<M.size:=λc h=>by
   rcases List.mem_cons.1 h with w|w
   ·omega
   ·have:=hS c w;omega
  refine⟨V,V,_,U,_,W,_,X,_,Y,_,Z,_,e5,?_⟩
  refine(vD ab ha hj ah).mono λQ A⟨v,z,w,D,E,R⟩=>⟨_,_,_,_,_,_,w,?_⟩
  intro m3 p
  have o:N A p:=(N.push A _).ah (ad _) _ _
  have s4:p.size=A.size+1:=by simp[p,m3,ay]
  clear_value p
  have r:=R.trans o
  have B:∀{i:J}{d:Instr},N p i->aq (bM (s.E::S) i) v d.args->aq (bM (s.E::S) i) z d.dX->(d=e\/d=⟨24,0,e.bL,0,e.args,e.dX⟩)->
   jh (i.push (.cells (bC [.i d.op,.i d.dst,.i d.bL,.i d.bH,.s v,.s z]) cV)) cV [.i 0,.i 0,.i 0,.i 0,.s .nil,.s .nil] 80 s (.mk i.size 0 1 1) λK u=>dR [A.size] (i.push (.cells (bC [.i d.op,.i d.dst,.i d.bL,.i d.bH,.s v,.s z]) cV)) u/\T K (cR ((f:Int)+1)) u/\μ K (cR ((f:Int)+1)) u<μ s f M:=λ{i d} xx h1 h2 h3=>by
   have z4:=r.size
   have zx:=xx.size
   refine Gr.jY (g:=[.i 0,.i 0,.i 0,.i 0,.s .nil,.s .nil]) (k:=d) dG.mono bh (C.ext dG.mono (r.trans xx)) ((t.trans (r.trans xx)).fz []) ⟨v,z,rfl,h1,h2⟩ V λK u g3 f3 z3 q3=>⟨λc h=>?_,aj V _ _ ⟨f3.ext,_,g3,bR,λy ak j=>?_⟩⟩
   ·have q:=R.size
    simp at h;subst h
    rw[q3 _ V V,(N.push i _).same _ V]
   ·rcases bA y g.length with q|q
    ·rw[aw q]at j
     obtain⟨al,L,ai⟩:=G y ak j
     rw[dP V]at L⊢
     exact⟨al,L,ai⟩
    ·rw[aF q]at j
     have:y -g.length=0:=by have:=aD j;simp at this;omega
     rw[this]at j;simp at j;subst j
     have:y=f:=V
     subst this
     exact⟨e,by rw[dP V];exact H,h3⟩
  have z4:=r.size
  refine⟨λh9=>?_,λ_=>?_⟩
  ·rw[aP (b:=(f:Int)+1) V V]
   refine(GZ (eS.ext (t.trans r) h) ae V e.dst).aK (N.az p) bR λai L q _=>⟨_,rfl,λ_=>?_,λ_=>?_⟩
   ·intro m6
    have:=B (d:=⟨24,0,e.bL,0,e.args,e.dX⟩) q ((D.le (o.cW _)).le (q.cW _)) ((E.le (o.cW _)).le (q.cW _)) (Or.inr rfl)
    rw[aP (b:=(f:Int)+1) V V]at this
    exact this
   ·intro m6
    have:=B (d:=e) q ((D.le (o.cW _)).le (q.cW _)) ((E.le (o.cW _)).le (q.cW _)) (Or.inl rfl)
    rw[aP (b:=(f:Int)+1) V V]at this
    exact this
  ·intro L
   exact B (d:=e) (N.az _) (D.le (o.cW _)) (E.le (o.cW _)) (Or.inl rfl)
 ·rw[cN V]at F G
  exact⟨s,g,rfl,C,⟨F,G⟩,t⟩
end
section
variable{b:List dk}
structure Rg(p:dk):Prop where
 params:p.params.length<=3
 cG:p.cG.length<=3
 iu:0<p.cJ.length
 nR:p.cJ.length<=1000000000000
 cJ:Qv p.cJ
 lI:O3 p.cJ
structure CJ(b:List dk):Prop where
 iu:0<b.length
 nR:b.length<=4
 dz:∀p∈b,Rg p
def O1(f:Nat)(c:List Value)(m:J)(S:List Nat)(e:List bu)(Q:List dk->Prop):Prop:=aL cp f c m λv a=>∃d p b,v=.agg #[O.v d,O.v p]/\cr (bM S a) d e/\iP (bM S a) p b/\Q b/\N m a
def I9.ok{l d:List Instr}(h:I9 l d)(g:Qv l)(f:O3 l):Qv d/\O3 d:=by
 obtain⟨j,e⟩:=h;refine⟨λk a c=>?_,λa c=>?_⟩
 ·obtain⟨x,b,rfl|rfl⟩:=e k a c
  ·exact g k a b
  ·exact⟨λh=>by simp at h,λh=>by simp at h⟩
 ·obtain⟨k,i⟩:=List.mem_iff_getElem?.1 c;obtain⟨x,b,rfl|rfl⟩:=e k a i
  ·exact f a (av b)
  ·exact f x (av b)
def Tu{a:List dk}(h:CJ b)(f:a.length=b.length)(c:∀(i:Nat)(q:dk),a[i]? =some q->Rg q):CJ a:=
 ⟨by have:=h.iu;omega,by have:=h.nR;omega,λq e=>by obtain⟨i,d⟩:=List.mem_iff_getElem?.1 e;exact c i q d⟩
def G8{d:List Nat}{o:J}(W:∀c∈d,c<o.size){z A:O}{B:List bu}(hd:cr o z B)(ht:dI B)(hp:iP o A b)(Y:CJ b):O1 135 [.agg #[O.v z,O.v A]] o d B CJ:=by
 apply Al;simp -zeta only[aC,aB];intro f a2;obtain⟨L,H⟩:=dF (a:=f) (c:=a2) rfl rfl;have s1:f.size=o.size+1:=by simp[f]
 clear_value a2;have au:=hp.len;have aN:=Y.nR;refine(fG (b:=f.size::d) (bP W L.size (H _ aJ)) (hd.le L.le) ht).mono λ_ ab⟨dd,e,ap,P⟩=>?_;subst e;refine⟨P.dv H,_,rfl,?_⟩;intro p ax al;have u2:=L.trans P;obtain⟨x5,B0,g0,s3,s5⟩:=ka (b:=p.size::f.size::d) kJ.mono (d:=ab) (a:=p) (c:=ax) (h:=al) rfl rfl rfl;clear_value al;have X:∀c∈[f.size,o.size],c<ab.size:=λc g=>P.lt (H c g);have ai:∀c∈f.size::d,c<ab.size:=λc g=>P.lt (bP W L.size (H _ aJ) c g);refine jW (R:=λj q M=>∃z A h,Value.agg #[O.v j,O.v q]=.agg #[O.v z,O.v A]/\cr (bM d M) z B/\iP (bM d M) A h/\CJ h/\N o M) (r:=b.length) (f:=o) (b:=d) kJ.mono bh bh W ⟨V,X _ aJ⟩ u2 s3 ap au V x5 B0 g0 (λ_ s=>Rg s) (λh r' ak m' h1 D j q r=>⟨h,r',ak,rfl,h1,D,Tu Y j q,r⟩) λaw M t ak aG μ ar aK xM ah Q az=>?_
 obtain⟨s,hq⟩:=ag (l:=b) (k:=aw) ar;have u:=Y.dz s (av hq);have q3:=u.params;have q4:=u.cG;have qf:=u.nR;have qs:=u.iu;have v6:=u2.trans xM;obtain⟨aH,q,c,c1,c2,c3,e0,e1,e2,e3,e4⟩:=hp.D hq;have G:∀{ac:Value}{q w:Nat},af o q w=some ac->af M q w=some ac:=λC=>v6.af C;refine⟨V,V,_,G e0,_,G e1,_,G e2,_,G e3,_,G e4,?_⟩;intro m7 j;have hy:=ah.be;have aI:=Q.lt;have zM:=xM.size;have x8:N M j:=(N.push M _).ah (ad _) _ _;have s8:j.size=M.size+1:=by simp[j,m7,ay]
 clear_value j;have I:∀c∈[M.size,f.size,o.size],c<j.size:=λc g=>by
  rcases List.mem_cons.1 g with e|e
  ·omega
  ·have:=X c e;omega
 have w8:=v6.trans x8;have F:∀{M':J},j.size<=M'.size->∀c∈t.E::p.size::f.size::d,c<M'.size:=λC c g=>by
  simp only[aU]at g;rcases g with e|e|e|e
  ·omega
  ·omega
  ·have:=ai c (by simp[e]);omega
  ·have:=ai c (by simp[e]);omega
 have E:∀{T M2:J},N j T->N T M2->∀q,q<j.size->∀w,af M2 q w=af T q w:=λC h' q hb w=>aM (h'.same q (C.lt hb)) w;have r:M.size<j.size:=V;have Z:p.size<j.size:=V;refine⟨t,(Q.ext x8).bV 1,?_⟩;refine(bN (t.E::p.size::f.size::d) (c1.ext w8) V).aK (N.az j) I λa' _ m9 ga e h _=>⟨_,rfl,E (N.az _) h _ r _,E (N.az _) h _ r _,E (N.az _) h _ r _,E (N.az _) h _ r _,E (N.az _) h _ Z _,?_⟩;subst e;refine(bN (t.E::p.size::f.size::d) (c2.ext (w8.trans h)) V).aK h I λb' _ aO gb e y x=>⟨_,rfl,E h y _ r _,E h y _ r _,E h y _ r _,E h y _ Z _,?_⟩;subst e;have z9:=h.size;have yz:=y.size;have aF:=w8.trans x;refine(IH (S:=t.E::p.size::f.size::d) (F V) (eS.ext aF c3) u.cJ u.lI qf).mono λac aa⟨U,K,e,gc,aj,v⟩=>⟨λc g=>v.same c (x.lt (I c g)),U,e,E x v _ r _,E x v _ r _,E x v _ Z _,?_⟩;intro aP;have aE:=x.trans v;have ae:=x8.trans aE;have aQ:=v.size;obtain⟨aA,aD⟩:=aj.ok u.cJ u.lI;have aL:=aj.1;have am:aq (bM (t.E::p.size::f.size::d) aa) a' s.params:=(ga.done (F V) V).le ((y.trans v).cW _);have an:aq (bM (t.E::p.size::f.size::d) aa) b' s.cG:=(gb.done (F V) V).le (v.cW _);have ao:eS (bM (t.E::p.size::f.size::d) aa) U K:=gc.done dG.mono (F V) bh V;exact Gr.box (g:=[.s .nil,.s .nil,.i 0,.i 0,.s .nil]) (j:=1) (y:=88) (i:=[.s dd,.s t]) (w:=⟨s.params,s.cG,s.aV,s.ao,K⟩) kJ.mono bh (ah.ext kJ.mono ae) ((xM.trans ae).fz []) ⟨a',b',U,rfl,am,an,ao⟩ V (Q.ext ae) aJ bh ⟨V,aJ⟩ (λc g=>by have h1:=I c g;have D:=X c;simp only[aU]at g D;rcases g with e|e|e|e<;>first|omega|(have:=D (by simp[e]);omega)|simp at e) λr' m' g' D f' z' q'=>az r' m' _ g' D f'.ext ⟨q3,q4,by show 0<K.length;omega,by show K.length<=_;omega,aA,aD⟩
end
end Go.Proofs.YtgnjacfobdjeeaaGreat
