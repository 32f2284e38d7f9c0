/- Part of a proof, joined by a program. -/
import Derived.Test.YtakpkjhmbbfniaaGreatU10
set_option linter.unusedVariables false
set_option linter.unusedSimpArgs false
set_option linter.defProp false
set_option linter.constructorNameAsVariable false
set_option maxHeartbeats 8000000
set_option maxRecDepth 100000
namespace Go.Proofs.YtakpkjhmbbfniaaGreat
open Go.Vc
section
variable{M:I}
def KQ(a:Nat->Nat)(m:I):List Nat:=(List.range m.size).filter λb=>a b≠0
def Na(c:Nat->Nat)(m:I):∀b∈KQ c m,b<m.size:=λb a=>by simp[KQ]at a;exact a.1
def PN{d:Nat->Nat}{m a:I}(ft:∀b,b<a.size->d b=0)(e:J a M):Le a (bz (KQ d m) M):=
 (xy a).trans (e.bz λb c=>Or.inr (by
  simp[KQ]at c;exact Es λh=>c.2 (ft b h)))
def dA.WN{a l:Nat->Nat}{m f:I}(h:To a f l M)(k:∀b,m.size<=b->a b=0):Le (bz (KQ a m) f) M:=λb o v j=>by
 obtain⟨d,e⟩:=dN.1 j;have i:=tJ e;have g:a b=0:=by
  rcases aX b m.size with c|c
  ·simp[KQ]at d;exact d c
  ·exact k b c
 rw[aJ (h.fw b i (by simp[g]))];exact e
def OC(c:List bO)(h:List fF)(i:Prop)(b:Bk):Prop:=∀(e:Nat->Nat)(m a:I)(d:Nat)(l:Nat->O)(L:Nat->List Int)(n k:Nat)(g r t:O),J a m->(∀b,b<a.size->e b=0)->ik e m d l L->qt c n L->WB c h.length i n b->n+4*b.w<=1000000000000->k<=n->dI a g r c h->dL a t b.aA->
 aN bY 256 [vp d 0,.agg #[O.v g,O.v r],.agg #[O.v t,vi b.aR],vi k] m (zt e m d λf=>(∀j,j<6->(f j).length=k)/\(f 6).length<=1000000000000)
def TO(m:I)(n:Nat)(v:Value)(c:I):Prop:=∃(a:Nat)(d:Bool),v=.tuple #[vp a 0,vb d]/\J m c/\(d=true->∃e f L,(∀b,b<m.size->e b=0)/\ik e c a f L/\∀j,j<6->(L j).length=n)
def ou.same{c:List bO}{n b:Nat}{L a:Nat->List Int}(h:ou c n b L)(e:∀k,k<7->a k=L k):ou c n b a:=
 ⟨λk d=>by rw[e k V];exact h.len k d,by rw[e 2 bd];exact h.Uc,by rw[e 3 bd,e 4 bd];exact h.Mj,by rw[e 6 bd];exact h.cV⟩
section
variable{j:Nat->Nat}{m f:I}{h:Nat}{e:Nat->O}{L:Nat->List Int}{b:List bO}{g:List fF}{n:Nat}{d r a k:O}{x:cg}{c:Prop}
def Ou(hx:J f m)(aC:ik j m h e L)(hi:qt b n L)(P:dI f d r b g)(ha:au f a x.args)(hk:mf f k x.bt)(hw:WS b g.length c n x)(s:n+4*x.w<=1000000000000){ab:Nat}{o:Bk}(aa:x.bt[ab]? =some o)(ih:OC b g c o):
 aN bY 237 [vp h 0,.agg #[O.v d,O.v r],np x a k,vi ab] m (TO m n):=by
 apply wu (h,0)
 simp -zeta only[aE,aD,bQ]
 intro H C
 obtain⟨x2,hl⟩:=dj (a:=H) (b:=C) rfl rfl
 clear_value C
 clear_value H
 have h2:=aC.ext x2
 have ao:=hi.len
 have l0:=h2.len (k:=0) bd
 have n0:=ao 0 bd
 have aY:=ax aa
 have aZ:=hk.len
 have aX:=uE aa
 have a2:=cg.kT x
 have Y:=hw.bt ab o aa
 have u:=hx.trans x2
 obtain⟨ae,ht,f0,f1⟩:=hk.u aa
 refine⟨_,h2.cy (k:=0) bd,?_⟩
 refine(J3 h2 (λt hj=>by
  by_cases z:t<6
  ·rw[ao t z];omega
  ·have:t=6:=V;subst this;exact hi.cV)).mono λv m3⟨B,w,G,K,aR,q,p,h3,y⟩=>⟨G.Sd hl (J.aC _)|>λ_=>λo s=>G.same o (hl o s),(B,0),w,?_⟩
 have R:qt b n q:=hi.same y
 have ai:Ey C [H.size,m.size] K m3:=⟨G,p,λo s=>⟨G.lt (hl o s),p o (hl o s)⟩⟩
 have ij:∀(M:I)(ac:Nat->Nat)(ah:Nat->O)(X:Nat->List Int)(E:Nat),Ey C [H.size,m.size] ac M->ik ac M B ah X->qt b E X->WB b g.length c E o->E<=n+3->n<=E->
  aN bY 256 [vp B 0,.agg #[O.v d,O.v r],.agg #[O.v ae,vi o.aR],vi ((e 0).len:Int)] M λv m'=>dV [H.size,m.size] M m'/\∃S:Bool,v=vb S/\TO m n (.tuple #[vp B 0,vb S]) m':=λM ac ah X E U aA am aF a1 aG=>by
  have e0:(e 0).len=n:=V
  rw[e0]
  refine(ih ac M C B ah X E n d r ae U.ext U.ft aA am aF V aG (P.le u.le) (ht.le u.le)).mono λv m'⟨S,F,w,c5,N⟩=>⟨U.de c5,S,w,B,S,rfl,x2.trans (U.to c5).ext,λaI=>?_⟩
  obtain⟨T,W,z,h7,_⟩:=N aI
  exact⟨F,T,W,λo s=>(U.to c5).ft o (x2.lt s),z,h7⟩
 refine⟨λA=>?_,λA=>?_⟩
 ·simp only[aL]at A
  have aw:=P.aY.le u.le
  obtain⟨aW,_⟩:=hw.dX.all A
  refine(fV (Na K m3) (aw.le G.le) P.types x.bJ).mono λv m4⟨s4,l4,w,aJ,e4,x4⟩=>⟨λo s=>x4.same o (ai.box o s).1,s4,w,?_⟩
  subst e4
  obtain⟨p,av⟩:=ag (l:=bU b x.bJ) (k:=ab) V
  have ay:=aJ.le (bo _ _)
  have l4:=ay.len
  refine⟨V,V,p,ay.u av,?_⟩
  have ad:=ai.fx x4
  have h4:=h3.ext x4
  refine(dm (Na K m4) (aw.le (PN ad.ft ad.ext)) P.types p).mono λv m5⟨s5,l5,w,az,e5,x5⟩=>⟨λo s=>x5.same o (ad.box o s).1,s5,w,?_⟩
  subst e5
  have aj:=ad.fx x5
  have N:=h4.ext x5
  have aU:=hw.dX.kv (Or.inr (Or.inr A))
  obtain⟨y,hy⟩:=ag (l:=x.args) (k:=0) V
  obtain⟨y0,y1⟩:=hw.dX.args y (ar hy)
  have aV:=ha.len
  have N5:=R.len
  have a3:=N.len (k:=3) bd
  have E:=N5 3 bd;have n4:=N5 4 bd
  have af:∀{M:I},J C M->D M a.F (a.off+Int.toNat (0:Int)*1)=some (vi y):=λxx=>(ha.ext (u.trans xx)).u hy
  obtain⟨w6,z,c6⟩:=N.put (k:=3) (i:=y.toNat) bd V p
  refine⟨_,N.cy (k:=3) bd,V,V,y,af aj.ext,y0,V,w6,?_⟩
  intro m6
  have ak:=aj.to c6
  obtain⟨w7,h7,c7⟩:=z.put (k:=4) (i:=y.toNat) bd (by show _<(q 4).length;omega) ((e 0).len:Int)
  have aK:=z.len (k:=4) bd
  have aB:up q 3 ((q 3).set y.toNat p) 4=q 4:=rfl
  rw[aB]at aK
  refine⟨aj.de c6,_,z.cy (k:=4) bd,V,V,y,af ak.ext,y0,V,w7,?_⟩
  intro m7
  have aT:=ak.to c7
  have F3:=CY P.types p
  have e0:((e 0).len:Int)=n:=V
  have i7:ou b n (n+(bT b p).length) (up (up q 3 ((q 3).set y.toNat p)) 4 ((q 4).set y.toNat ((e 0).len:Int))):=by
   refine⟨λt hj=>?_,λv aO hp=>?_,λv c ap hc hf h1=>?_,by simpa[up]using R.cV⟩
   ·rcases t with _|_|_|_|_|_|t<;>first|omega|(simp[up,N5])
   ·exact R.Uc v aO (by simpa[up]using hp)
   ·have Q:((q 3).set y.toNat p)[v]? =some c:=by simpa[up]using hc
    have Z:((q 4).set y.toNat ((e 0).len:Int))[v]? =some ap:=by simpa[up]using hf
    by_cases ev:y.toNat=v
    ·subst ev;rw[dC V]at Q Z;simp at Q Z;subst Q;omega
    ·rw[dO ev]at Q Z;have:=R.Mj v c ap Q Z h1;omega
  have a0:=az.len
  refine⟨ak.de c7,?_⟩
  refine eg (n:=(bT b p).length) V (λt M=>∃F T W,ou b (n+t) (n+(bT b p).length) W/\To K m5 F M/\Ey C [H.size,m.size] F M/\ik F M B T W) ⟨K,_,_,i7,c6.trans c7,aT,h7⟩ ?_
  rintro t M am μ hj ⟨aQ,aS,L8,Z,c8,B,aq⟩ aM
  refine dit (λaH=>?_) λaH=>?_
  ·obtain⟨al,hz⟩:=ag (l:=bT b p) (k:=t) V
   refine⟨V,V,al,(az.le (c8.WN h4.new)).u hz,V,V,y,af B.ext,?_⟩
   exact(yg aq (λaP Q=>by rw[Z.len aP Q];omega) al 0 y).mono λv M'⟨F,T,Q,h9⟩=>⟨B.de Q,aM V _ ⟨F,T,_,by rw[<-dE];exact Z.LA al 0 V,c8.trans Q,B.to Q,h9⟩⟩
  ·have Q:t=(bT b p).length:=V
   subst Q
   rw[HY A av]at Y
   exact⟨V,V,ae,(u.trans B.ext).D f0,o.aR,(u.trans B.ext).D f1,ij M aQ aS L8 _ B aq Z Y V V⟩
 ·simp only[an]at A
  rw[HZ A]at Y
  exact⟨V,V,ae,(u.trans G).D f0,o.aR,(u.trans G).D f1,ij m3 K aR q n ai h3 R Y V V⟩
end
end
section
def _root_.Go.Vc.SS{n c:Nat}(j:c<=n)(p:n<=9223372036854775807){m:I}{f:(Int->I->Prop)->(Int->I->Nat)->Int->I->Prop}(Q:Nat->I->Prop)(g:Q c m)
 (h:∀(k:Nat)(a:I)(b:Int->I->Prop)(μ:Int->I->Nat),c<=k->k<=n->Q k a->
  (k<n->∀d,Q (k+1) d->b (cO ((k:Int)+1)) d/\μ (cO ((k:Int)+1)) d<μ k a)->f b μ k a):
 ∃(b:Int->I->Prop)(μ:Int->I->Nat),b c m/\∀i a,b i a->f b μ i a:=by
 refine⟨λi d=>∃k:Nat,i=k/\c<=k/\k<=n/\Q k d,λi _=>(n -i).toNat,⟨c,rfl,ad _,j,g⟩,?_⟩
 rintro i a ⟨k,rfl,l,o,q⟩
 refine h k a _ _ l o q λe d r=>?_
 rw[jM e p]
 exact⟨⟨k+1,rfl,V,e,r⟩,AK e⟩
section
variable{b:Nat->Nat}{m f:I}{e:Nat}{i:Nat->O}{L:Nat->List Int}{g:List bO}{h:List fF}{n:Nat}{d r a k:O}{x:cg}{c:Prop}
def J1(hx:J f m)(ft:∀j,j<f.size->b j=0)(q:ik b m e i L)(hi:qt g n L)(hN:dI f d r g h)(ha:au f a x.args)(hk:mf f k x.bt)(N:WS g h.length c n x)(o:n+4*x.w<=1000000000000)(ap:x.op=7\/x.op=8)(ih:∀j∈x.bt,OC g h c j):
 aN bY 197 [vp e 0,.agg #[O.v d,O.v r],np x a k] m (zt b m e (qt g n)):=by
 apply tn (e,0)
 simp -zeta only[aE,aD,bQ]
 intro W F
 have st:=Ey.Ql (a:=W) (g:=F) hx ft q.new rfl rfl
 obtain⟨P,B⟩:=dj (a:=W) (b:=F) rfl rfl
 clear_value F
 clear_value W
 have al:=hk.len
 have aG:=ha.len
 have aC:=N.dX.kv V
 have am:0<x.bt.length:=by
  rcases ap with T|h8
  ·have:=N.dX.HB T;omega
  ·exact(N.dX.all h8).2
 have K:∀{M:I},J F M->To b m b M:=λw=>dA.fj _ (P.trans w) q.new
 have ad:∀(M:I)(E:Nat)(j:Bk),J F M->x.bt[E]? =some j->aN bY 237 [vp e 0,.agg #[O.v d,O.v r],np x a k,vi E] M (TO M n):=λM E j w af=>
  Ou (hx.trans (P.trans w)) (q.ext (P.trans w)) hi hN ha hk N o af (ih j (ar af))
 refine⟨λM=>J F M,⟨λ_=>?_,λ_=>J.aC _⟩,?_⟩
 ·obtain⟨y,s⟩:=ag (l:=x.args) (k:=0) V
  obtain⟨u,v⟩:=N.dX.args y (ar s)
  refine⟨bd,V,y,(ha.ext st.ext).u s,?_⟩
  exact(qB (q.ext P) hi V u v).mono λY X⟨j,p,t⟩=>⟨λj o=>t.same j (B j o),j,p,λ_=>.no (K t),λ_=>t⟩
 ·intro X t
  obtain⟨b0,ak⟩:=ag am
  refine(ad X 0 b0 t ak).mono λY m4⟨ab,ay,p,Q,h1⟩=>⟨λj o=>Q.same j (t.lt (B j o)),(ab,0),ay,p,λ_=>.no (K (t.trans Q)),λaa=>?_⟩
  obtain⟨az,ac,L1,ah,h1,n1⟩:=h1 (by simpa using aa)
  have u4:=t.trans Q
  have av:=n1 1 bd;have aw:=n1 5 bd
  refine SS (n:=x.bt.length) (c:=1) V (al▸hk.gA) (λ_ M=>J m4 M) (J.aC _) ?_
  rintro E M aA μ aF aH R ax
  have v:=u4.trans R
  have y:=h1.ext R
  refine⟨λU=>?_,λU=>?_⟩
  ·simp only[ao]at U
   obtain⟨j,o⟩:=ag (l:=x.bt) (k:=E) V
   refine(ad M E j v o).mono λY m6⟨ai,aj,p,s,A⟩=>⟨λj o=>s.same j (v.lt (B j o)),(ai,0),aj,p,λ_=>.no (K (v.trans s)),λaa=>?_⟩
   obtain⟨aM,aO,L2,aL,A,Z⟩:=A (by simpa using aa)
   have an:=Z 1 bd;have aI:=Z 5 bd
   have z:=y.ext s
   refine⟨_,z.cy (k:=1) bd,_,A.cy (k:=1) bd,?_⟩
   refine(oQ (z.pw (k:=1) bd V) (A.pw (k:=1) bd V)).mono λY m7⟨C,p,_,u⟩=>⟨λj o=>u.same j (s.lt (v.lt (B j o))),C,p,λ_=>.no (K (v.trans (s.trans u))),λ_=>?_⟩
   have S:=z.ext u
   have T:=A.ext u
   refine⟨_,S.cy (k:=5) bd,_,T.cy (k:=5) bd,?_⟩
   refine(oQ (S.pw (k:=5) bd V) (T.pw (k:=5) bd V)).mono λY m8⟨C,p,_,H⟩=>⟨λj o=>H.same j (u.lt (s.lt (v.lt (B j o)))),C,p,λ_=>.no (K (v.trans (s.trans (u.trans H)))),λ_=>?_⟩
   exact ax V _ (R.trans (s.trans (u.trans H)))
  ·let u:Nat->Nat:=λj=>if j<X.size then b j else az j
   have uu:=P.trans t
   have w:=uu.trans (Q.trans R)
   have z4:=Q.size;have zM:=R.size;have S:=uu.size
   have H:∀j,j<X.size->u j=b j:=λj o=>aq o
   have H0:ik u M e i L:=by
    have aj:=q.ext w;refine⟨λj o=>?_,by rw[H _ (aK q.box.lt S)];exact q.iS,aj.box,λs C=>(q.qQ s C).fw (λz=>w.same _ ((q.qQ s C).F z).1) λz=>H _ (aK ((q.qQ s C).F z).1 S)⟩;simp only[u];rw[ae V];exact y.new j o
   have Z:∀s,s<7->gY u M aB 1 (s+1) (ac s) ((L1 s).map Ce.i):=λs C=>(y.qQ s C).fw (λ_=>rfl) λz=>by
    have A:=((y.qQ s C).F z).2;simp only[u];rw[ae λU=>by rw[ah _ U]at A;omega]
   have c3:To b m u M:=⟨w.size,λj o=>H j (aK o S),H0.new,λj o _=>w.same j o⟩
   have ai:Ey f [W.size,m.size] u M:=⟨st.ext.trans v,λj o=>by rw[H j (aK (aK o hx.size) S)];exact ft j o,λj o=>⟨v.lt (B j o),by rw[H j (t.lt (B j o))];exact(st.box j o).2⟩⟩
   clear_value u
   refine⟨_,y.cy (k:=1) bd,?_⟩
   obtain⟨w5,h5,c5⟩:=H0.Ue (k:=1) bd (Z 1 bd)
   refine⟨w5,?_⟩
   intro m9
   have an:ab≠e:=λp=>by
    have h8:=y.iS;rw[p,ah _ (aK q.box.lt S)]at h8;omega
   have G:D m9 ab 5=some (O.v (ac 5)):=(aJ (bn _ _ _ _ an) _).trans (y.cy (k:=5) bd)
   have A5:gY u m9 aB 1 (5+1) (ac 5) ((L1 5).map Ce.i):=by
    refine(Z 5 bd).fw (λz=>bn _ _ _ _ λp=>?_) λ_=>rfl;have:=((Z 5 bd).F z).2;rw[p,H0.iS]at this;omega
   obtain⟨w6,h6,c6⟩:=h5.Ue (k:=5) bd A5
   exact⟨ai.de c5,_,G,w6,(ai.to c5).de c6,.Ml ((c3.trans c5).trans c6) h6 ((hi.aV av).Xl aw)⟩
end
end
section
section
variable{b:Nat->Nat}{m g:I}{f:Nat}{j:Nat->O}{L:Nat->List Int}{e:List bO}{h:List fF}{n:Nat}{d r a k:O}{x:cg}{c:Prop}
def DS(hx:J g m)(ft:∀o,o<g.size->b o=0)(ab:ik b m f j L)(w:qt e n L)(W:dI g d r e h)(E:au g a x.args)(hk:mf g k x.bt)(F:WS e h.length c n x)(u:n+4*x.w<=1000000000000)(ih:∀o∈x.bt,OC e h c o):
 aN bY 164 [vp f 0,.agg #[O.v d,O.v r],np x a k] m (zt b m f (qt e (n+dn x))):=by
 apply ve (f,0)
 simp -zeta only[aE,aD,bQ]
 intro S Y
 have T:=Ey.Ql (a:=S) (g:=Y) hx ft ab.new rfl rfl
 have x2:J m Y:=(dj (a:=S) (b:=Y) rfl rfl).1
 clear_value Y
 clear_value S
 have h2:=ab.ext x2
 have ao:=E.len
 have ap:=cg.kT x
 have N0:=w.len 0 bd
 refine⟨_,h2.cy (k:=0) bd,?_⟩
 refine(mu (W.le T.ext.le) (h2.pw (k:=0) bd V) (E.ext T.ext) (hk.le T.ext.le) V (λo _=>lQ o)).mono λA m3⟨G,t,_,x3⟩=>⟨λo u=>x3.same o (T.box o u).1,G,t,?_⟩
 have s:=T.fx x3
 have C:=h2.ext x3
 have Q:To b m b m3:=dA.fj _ (x2.trans x3) ab.new
 have kv:14<=x.op\/x.op=7\/x.op=8->∃y:Int,x.args[0]? =some y/\0<=y/\y<(n:Int):=λho=>by
  have:=F.dX.kv ho;obtain⟨y,N⟩:=ag (l:=x.args) (k:=0) V;exact⟨y,N,F.dX.args y (ar N)⟩
 refine⟨λok M=>∃v,To b m v M/\Ey g [S.size,m.size] v M/\(ok=true->∃aa P,ik v M f aa P/\qt e n P),⟨λaj=>?_,λav=>⟨λak=>?_,λaw=>⟨λal=>?_,λax=>⟨λh7=>?_,λn7=>?_⟩⟩⟩⟩,?_⟩
 ·simp only[aL]at aj
  obtain⟨y,N,B,Z⟩:=kv V
  have ad:=F.dX.kv V
  have X:∀{M:I},J g M->D M a.F (a.off+Int.toNat (0:Int)*1)=some (vi y):=λU=>(E.ext U).u N
  refine⟨bd,V,y,X s.ext,?_⟩
  refine(qB C w V B Z).mono λA H⟨o,t,q⟩=>⟨λo u=>q.same o (s.box o u).1,o,t,?_⟩
  have p:=C.ext q
  have z:=s.fx q
  have N1:=w.len 1 bd
  have l1:=p.len (k:=1) bd
  obtain⟨ac,af⟩:=ag (l:=L 1) (k:=y.toNat) V
  obtain⟨wr,R,K⟩:=p.put (k:=1) (i:=y.toNat) bd V (cO (ac+1))
  exact⟨_,p.cy (k:=1) bd,bd,V,y,X z.ext,_,p.cy (k:=1) bd,bd,V,y,X z.ext,B,V,ac,p.u bd V af,B,V,wr,z.de K,b,(Q.trans (dA.fj _ q C.new)).trans K,z.to K,λ_=>⟨j,_,R,w.aV (by simp[N1])⟩⟩
 ·simp only[aL]at ak
  obtain⟨y,N,B,Z⟩:=kv V
  have ad:=F.dX.kv V
  refine⟨bd,V,y,(E.ext s.ext).u N,?_⟩
  refine(sS C w V B Z).mono λA H⟨o,v,t,q,p⟩=>⟨s.de q,o,t,v,Q.trans q,s.to q,λu=>?_⟩
  obtain⟨aa,P,R,ac,X,rfl⟩:=p u
  exact⟨aa,_,R,w.aV X⟩
 ·simp only[cr,aL]at al
  refine(Ni s.ext s.ft C w V W E F.dX V).mono λA H⟨o,v,t,q,p⟩=>⟨s.de q,o,t,v,Q.trans q,s.to q,p⟩
 ·simp only[cr,aL]at h7
  refine(J1 s.ext s.ft C w W E hk F u h7 ih).mono λA H⟨o,v,t,q,p⟩=>⟨s.de q,o,t,v,Q.trans q,s.to q,p⟩
 ·refine(Hc s.ext s.ft C w V W E F.dX).mono λA H⟨o,v,t,q,p⟩=>⟨s.de q,o,t,v,Q.trans q,s.to q,p⟩
 ·rintro ok M ⟨ay,q,z,p⟩
  refine⟨λ_=>.no q,λan=>?_⟩
  obtain⟨az,L4,p,i4⟩:=p (by simpa using an)
  have gr:∀{M':I}(G Z:Int),J M M'->dn x=1->aN bY 194 [vp f 0,vi G,vi Z,vi (-1:Int)] M' λ_ m'=>dV [S.size,m.size] M' m'/\zt b m f (qt e (n+dn x)) (vb true) m':=λG Z U hd=>
   (yg (p.ext U) (λH B=>by rw[i4.len H B];omega) G Z (-1)).mono λ_ m'⟨v,aa,K,R⟩=>⟨(z.fx U).de K,.Ml ((q.trans (dA.fj _ U p.new)).trans K) R (by rw[hd];exact(i4.LA G Z V).AY V)⟩
  refine(iT x.op M).mono λA m5⟨o,t,ac,B⟩=>⟨λo u=>B.same o (z.box o u).1,o,t,λah=>⟨λ_=>?_,λ_=>?_⟩,λam=>?_⟩
  ·exact gr G 1 B (by have:=qV x o ac;rw[aq ah]at this;exact this)
  ·refine(iT x.op m5).mono λA m6⟨P,t,X,H⟩=>⟨λo u=>H.same o (B.lt (z.box o u).1),P,t,λaf=>?_,λad=>?_⟩
   ·exact gr 0 0 (B.trans H) (by have:=qV x P X;rw[aq af]at this;exact this)
   ·have:=X.2 (ac.1 ah);rw[this]at ad;simp at ad
  ·have ai:=qV x o ac
   rw[ae (by simp[am])]at ai
   refine(iT x.op m5).mono λA m6⟨P,t,X,H⟩=>⟨λo u=>H.same o (B.lt (z.box o u).1),P,t,λaf=>?_,λad=>?_⟩
   ·exact gr 0 0 (B.trans H) (by have:=qV x P X;rw[aq af]at this;exact this)
   ·exact .Ml (q.trans (dA.fj _ (B.trans H) p.new)) (p.ext (B.trans H)) (by rw[ai];exact i4)
end
def J7{C:List bO}{rs:List fF}{I:Prop}:∀b:Bk,OC C rs I b:=by
 refine Bk.ind ?_;intro aA ae ih s q mb F sl L ac E ai ap av hx ft u U ab p hk R y;simp only[Bk.iY,Bk.iu,Bk.oU]at*;apply uh (F,0);simp -zeta only[aE,aD,bQ];intro r o;have st:=Ey.Ql (a:=r) (g:=o) hx ft u.new rfl rfl;have G:J q o:=(dj (a:=r) (b:=o) rfl rfl).1;have K:To s q s o:=dA.fj _ G u.new;clear_value o;clear_value r;obtain⟨D,z,r1⟩:=ab.bq;simp only[Bk.iY,Bk.iu]at D z r1;have aa:=y.len;have Z:=yV aA;refine eg (n:=aA.length) (aa▸y.gA) (λi M=>∃g t h,qt C (ac+dc (aA.take i)) h/\To s q g M/\Ey mb [r.size,q.size] g M/\ik g M F t h) ⟨s,sl,L,by simpa using U,K,st,u.ext G⟩ ?_;rintro i M af μ ak ⟨aq,au,H,f,j,c,d⟩ ad
 have aj:=qT (aA.take i);have al:=oV i aA;have am:=eY (aA.take i);refine dit (λY=>?_) λY=>?_
 ·obtain⟨x,m⟩:=ag (l:=aA) (k:=i) V;obtain⟨ah,kk,S,W,A,N,O,P,Q⟩:=y.u m;have ao:=nY m;have an:=Z (i+1);have T:=oX m;have X:=c.ext;refine⟨V,V,_,X.D A,_,X.D N,_,X.D O,_,X.D P,_,X.D Q,?_⟩;refine(DS X c.ft d f R S W (D i x m) V (ih x (ar m))).mono λB m4⟨b,g,e,a,v⟩=>⟨c.de a,b,e,λ_=>.no (j.trans a),λp=>?_⟩;obtain⟨t,h,w,i5⟩:=v (by simpa using p);exact ad V _ ⟨g,t,h,by rw[T,<-dE];exact i5,j.trans a,c.to a,w⟩
 ·have N:i=aA.length:=V;rw[N,eT]at f;have W:=qT aA;have X:=eY aA;have T:=f.len 0 bd;have l0:=d.len (k:=0) bd;obtain⟨S,P⟩:=ag (l:=H 0) (k:=ae.toNat) V;refine⟨_,d.cy (k:=0) bd,z,V,S,d.u bd V P,λ_=>?_,λ_=>?_⟩
  ·refine(sS d f V z V).mono λB m4⟨b,g,e,a,v⟩=>⟨c.de a,b,e,λ_=>.no (j.trans a),λp=>?_⟩;obtain⟨t,h,w,ah,O,rfl⟩:=v (by simpa using p);refine(Jg w (f.aV O) V (b:=E) V).mono λB Q⟨b,A,e,m,x⟩=>⟨(c.to a).de m,b,e,b,A,rfl,(j.trans a).trans m,x⟩
  ·refine(Jg d f V (b:=E) V).mono λB Q⟨b,A,e,m,x⟩=>⟨c.de m,b,e,b,A,rfl,j.trans m,x⟩
def UF(m:I)(f:List bO)(q:fF)(j:Int)(v:Value)(c:I):Prop:=∃(a:Nat)(d:Bool),v=.tuple #[vp a 0,vb d]/\J m c/\(d=true->0<=j/\j<=q.body.aA.length/\∃e g L,(∀b,b<m.size->e b=0)/\ik e c a g L/\qt f (q.params.length+dc (q.body.aA.take j.toNat)) L)
def BZ{m:I}{N aa:O}{f:List bO}{B:List fF}{ac:Prop}{W:Nat}(h:dI m N aa f B)(S:vS f B ac W)(hW:W<=200000000000){P:Nat}{a:fF}(y:B[P]? =some a){j:Int}(hj: -9000000000000000000<=j/\j<=9000000000000000000):
 aN bY 122 [.agg #[O.v N,O.v aa],vi P,vi j] m (UF m f a j):=by
 apply uZ
 simp -zeta only[aE,aD]
 intro o
 have G:J m o:=J.push _ _
 have g:∀b∈[m.size],b<o.size:=by simp[o]
 clear_value o
 have aJ:=h.gQ.len;have aI:=h.mG
 have aG:=ax y
 obtain⟨aj,ah,am,hw⟩:=S.dh a (ar y)
 obtain⟨aO,aP,b,c1,c2,L,e0,e1,e2,x,e4⟩:=h.gQ.u y
 have z:∀{M:I}{ap:Obj},J m M->UF m f a j (.tuple #[vp M.size 0,vb false]) (M.push ap):=λxx=>⟨_,false,rfl,xx.aM _,E⟩
 refine(Cs (h.le G.le) (λd c=>by have:=S.dh d c;omega)).aG (J.aC o) g λv1 m2 H _=>⟨_,rfl,λ_=>z (G.trans H),λ_=>?_⟩
 have u2:=G.trans H
 refine(aU _ _ _ _).aG H g λv2 m3 _ x3 v3=>⟨_,rfl,λ_=>z (u2.trans x3),λ_=>?_⟩
 have D:=u2.trans x3
 have aB:=L.len
 refine⟨V,V,_,D.D x,?_⟩
 refine(aU _ _ _ _).aG v3 g λv4 Y ad x4 F=>⟨_,rfl,λ_=>z (D.trans x4),λal=>?_⟩
 have c:=D.trans x4
 have hr:=ad.1 (by simpa using al)
 refine⟨V,V,_,c.D e0,_,c.D e1,_,c.D e2,_,c.D x,_,c.D e4,?_⟩
 refine(Fx (q:=a) (c1.ext c) (c2.ext c) aj ah f).mono λaw Z⟨v,w,K,A,sl,ab,ft,Q,i5⟩=>⟨λb d=>K.same b (F.lt (g b d)),(v,0),w,?_⟩
 obtain⟨an,_,_⟩:=am.bq
 have aC:=Bk.kT a.body
 have ak:=yV a.body.aA
 have av:Ey Y [m.size] A Z:=⟨K,ft,λb d=>⟨K.lt (F.lt (g b d)),ft b (F.lt (g b d))⟩⟩
 have e6:j=((j.toNat:Nat):Int):=V
 obtain⟨u,ae⟩:∃u:Nat,j=u:=⟨j.toNat,e6⟩
 subst ae
 simp only[rS]
 refine eg (n:=u) V (λi M=>∃p C r,qt f (a.params.length+dc (a.body.aA.take i)) r/\To A Z p M/\Ey Y [m.size] p M/\ik p M v C r) ⟨A,sl,ab,by simpa using i5,Q.to,av,Q⟩ ?_
 rintro i M az μ aH ⟨aq,au,L6,T,c6,e,R⟩ ao
 have U:J m M:=c.trans e.ext
 refine dit (λai=>?_) λai=>?_
 ·obtain⟨ay,t⟩:=ag (l:=a.body.aA) (k:=i) V
  obtain⟨aA,kk,ha,af,g0,g1,g2,g3,g4⟩:=(L.le c.le).u t
  have X:=e.ext
  have aM:=nY t
  have aL:=ak (i+1)
  have aF:=qT (a.body.aA.take i)
  have aK:=eY (a.body.aA.take i)
  refine⟨V,V,_,U.D x,V,V,_,X.D g0,_,X.D g1,_,X.D g2,_,X.D g3,_,X.D g4,?_⟩
  refine(DS X e.ft R T (h.le c.le) ha af (an i ay t) V (λb _=>J7 b)).mono λaw m7⟨b,p,w,s,h7⟩=>⟨e.de s,b,w,λ_=>⟨v,false,rfl,c.trans (e.to s).ext,E⟩,λd=>?_⟩
  obtain⟨C,r,h8,i8⟩:=h7 (by simpa using d)
  exact ao V _ ⟨p,C,r,by rw[oX t,<-dE];exact i8,c6.trans s,e.to s,h8⟩
 ·have p:i=u:=V
  subst p
  exact⟨v,true,rfl,U,λ_=>⟨V,V,aq,au,L6,λb d=>e.ft b (c.lt d),R,by simpa using T⟩⟩
end
section
variable{a n:Int}{c P:Nat}{d:O}{m:I}
def Pl(b:0<=a)(c:0<n):0<=a.tmod n/\a.tmod n<n:=⟨Int.tmod_nonneg _ b,Int.tmod_lt_of_pos _ c⟩
def KX(b:0<=a)(c:0<n):0<=a.tdiv n/\a.tdiv n<=a:=by
 rw[oh b];exact⟨Int.ediv_nonneg b V,Int.ediv_le_self _ b⟩
def Sj{b:Int}(f:0<=a/\a<4611686018427387904)(g:0<=b/\b<4611686018427387904):0<=Si a b:=by
 unfold Si;have c:(a%18446744073709551616).toNat<2^62:=V;have d:(b%18446744073709551616).toNat<2^62:=V;have e:=Nat.xor_lt_two_pow c d;rw[aP V V];omega
def Rd(c:Nat)(d:O)(P:Nat)(m:I):Prop:=(∃p:Int,cD m c od [.s d,.i p]/\0<=p/\p<=P)/\d.len<=d.cap/\∀k:Nat,k<d.len->∃v:Int,0<=v/\v<=255/\D (bz [c] m) d.F (d.off+k*1)=some (.int .u8 v)
def Rd.mono{Q:Nat}(h:Rd c d P m)(g:P<=Q):Rd c d Q m:=let⟨⟨p,a,b,f⟩,e⟩:=h;⟨⟨p,a,b,V⟩,e⟩
def Rd.lt{c P:Nat}{d:O}{m:I}(h:Rd c d P m):c<m.size:=let⟨⟨_,a,_⟩,_⟩:=h;a.lt
def Rd.JT{f:Nat}{e M a:I}(b:Rd c d f e)(h:Rd c d P M)(l:Fz [c] e a)(k:a[c]? =M[c]?):Rd c d P a:=by
 obtain⟨⟨p,g,i,j⟩,_⟩:=h;exact⟨⟨p,g.congr k,i,j⟩,b.2.1,λo m=>let⟨v,q,r,n⟩:=b.2.2 o m;⟨v,q,r,l.cK (λ_ h=>h) _ _ _ n⟩⟩
def Rd.ext{b:I}(h:Rd c d P m)(a:J m b):Rd c d P b:=h.JT h (a.fz _) (a.same _ h.lt)
def Rd.aj{c g P:Nat}{d:O}{a M:I}(f:Rd c d g a)(h:Rd c d P M)(j:Fz [c] a M){b:Nat}(i:a.size<=b)(o:Nat)(l:List Ce):Rd c d P (aj M b o l):=
 f.JT h (j.aj (Or.inr i) o l) (bn _ _ _ _ λe=>by have:=f.lt;omega)
def UQ(c:Nat)(d:O)(P:Nat)(m:I)(n:Int)(v:Value)(a:I):Prop:=∃k:Int,v=vi k/\0<=k/\(k<n\/k=0)/\Rd c d (P+1) a/\Fz [c] m a
def bM(s:Rd c d P m)(hP:P<=10000000000000000)(n:Int):aN bY 34 [vp c 0,vi n] m (UQ c d P m n):=by
 obtain⟨⟨p,t,l,p1⟩,hc,G⟩:=s;apply vj (c,0);simp -zeta only[bQ];have q:D m c 1=some (vi p):=t.cy 1;refine⟨p,q,t.fu E,?_⟩;intro f;have Y:cO (p+1)=p+1:=aP V V;have X:cO (p+1 -1)=p:=by rw[show p+1 -1=p by omega];exact aP V V
 have w:cD f c od [.s d,.i (p+1)]:=by rw[<-Y];exact cD.aj (m:=m) (r:=[.i (cO (p+1))]) (o:=1) t
 have A:Fz [c] m f:=(Fz.aC [c] m).aj (Or.inl E) _ _;have H:Le (bz [c] m) (bz [c] f):=A.cK λ_ s=>s;clear_value f;have R:∀k:Int,0<=k->(k<n\/k=0)->UQ c d P m n (vi k) f:=λk C F=>⟨k,rfl,C,F,⟨⟨p+1,w,V,V⟩,hc,λi e=>let⟨v,h,j,g⟩:=G i e;⟨v,h,j,H _ _ _ g⟩⟩,A⟩;have e:D f c 0=some (O.v d):=w.cy 0;have q:D f c 1=some (vi (p+1)):=w.cy 1;have B:∀i:Int,0<=i->i<(d.len:Int)->∃v:Int,0<=v/\v<=255/\D f d.F (d.off+i.toNat*1)=some (.int .u8 v):=λi C F=>by
  obtain⟨v,h,j,g⟩:=G i.toNat V;exact⟨v,h,j,(dN.1 (H _ _ _ g)).2⟩
 refine⟨λ_=>R 0 (dY _) (Or.inr rfl),λhn=>⟨_,e,λ_=>R 0 (dY _) (Or.inr rfl),λaa=>?_⟩⟩;simp only[bN]at hn;simp only[an]at aa;have I:0<n:=V;refine⟨_,q,_,e,?_⟩;rw[X];refine⟨λz=>?_,λ_=>?_⟩
 ·simp only[ao]at z;obtain⟨v,h,j,g⟩:=B p l z;refine⟨_,e,l,z,v,g,V,?_⟩;rw[aP V V];have:=Pl h I;exact R _ this.1 (Or.inl this.2)
 ·have y:(0:Int)<(d.len:Int):=V;obtain⟨K,L⟩:=Pl l y;obtain⟨v,h,j,g⟩:=B _ K L;have W:cO (cO (p*7)+3)=p*7+3:=by rw[aP (x:=p*7) V V,aP V V]
  obtain⟨M,N⟩:=Pl (a:=p*7+3) V y;obtain⟨u,u0,u1,hu⟩:=B _ M N;obtain⟨d0,d1⟩:=KX l y;rw[W];refine⟨_,e,_,e,V,K,L,v,g,_,e,_,e,V,M,N,u,hu,_,e,V,bd,V,?_⟩;have Q:cO (cO v*131)=v*131:=by rw[aP (x:=v) V V,aP V V]
  have S:cO (cO u*1117)=u*1117:=by rw[aP (x:=u) V V,aP V V]
  have T:cO (p*29)=p*29:=aP V V;have U:cO (cO (p.tdiv d.len)*53)=p.tdiv d.len*53:=by rw[aP (x:=p.tdiv d.len) V V,aP V V]
  rw[Q,S,T,U,aP (x:=v*131+u*1117) V V,aP (x:=v*131+u*1117+p*29) V V,aP (x:=v*131+u*1117+p*29+p.tdiv d.len*53) V V];have J:0<=v*131+u*1117+p*29+p.tdiv d.len*53:=V;obtain⟨q0,q1⟩:=KX (n:=64) J bd;rw[aP (x:=Int.tdiv _ 64) V V];have Z:=Sj (a:=v*131+u*1117+p*29+p.tdiv d.len*53) (b:=(v*131+u*1117+p*29+p.tdiv d.len*53).tdiv 64) ⟨J,V⟩ ⟨q0,V⟩;obtain⟨z0,z1⟩:=Pl Z I;exact R _ z0 (Or.inl z1)
def jw(h:Rd c d P m)(o:P<=10000000000000000){s:O}{b:List Int}(f:au (bz [c] m) s b)(q:0<b.length):
 aN bY 40 [vp c 0,O.v s] m λv i=>∃a:Int,v=vi a/\a∈b/\Rd c d (P+1) i/\Fz [c] m i:=by
 apply wA (c,0)
 have r:=f.len
 refine(bM h o (s.len:Int)).mono λv u⟨a,j,p,t,n,e⟩=>⟨a,j,p,V,?_⟩
 obtain⟨x,g⟩:=ag (l:=b) (k:=a.toNat) V
 exact⟨x,(dN.1 ((e.cK (λ_ h=>h)) _ _ _ (f.u g))).2,x,rfl,ar g,n,e⟩
end
section
variable{S:List Nat}{m:I}
def _root_.Go.Vc.Gr.set{α:Type}{S X:List Nat}{q m:I}{y d:Nat}{R:I->List Ce->α->Prop}{s:O}{x:List α}(v:mD d R)(h:Gr S q m y d R s x)(hf:Fz X q m){k:Nat}(H:k<x.length){cs:List Ce}{a:α}(D:R (bz (s.F::S) m) cs a):
 fu m s.F (s.off+k*d) d/\Gr S q (aj m s.F (s.off+k*d) cs) y d R s (x.set k a)/\Fz X q (aj m s.F (s.off+k*d) cs)/\(∀e,e≠s.F->(aj m s.F (s.off+k*d) cs)[e]? =m[e]?):=by
 have hy:=h.aZ
 obtain⟨B,c,C,g⟩:=h
 have ab:∀e,e≠s.F->(aj m s.F (s.off+k*d) cs)[e]? =m[e]? :=λe hb=>bn _ _ _ _ hb
 obtain⟨e,f,tail,t,Q,z,T,U⟩:=C.u.resolve_left B
 have G:=v.len D
 obtain⟨i,w⟩:=ag (l:=c) (k:=k) (by rw[g.len];exact H)
 have af:=g.size i (ar w)
 have M:s.off+k*d=k*d:=by rw[t];simp
 have F:s.F=e:=by rw[t];rfl
 have J:=ax w
 have N:c=c.take k++i::c.drop (k+1):=by
  have u:=List.getElem?_eq_some_iff.1 w;obtain⟨Y,Z⟩:=u;rw[<-Z,<-oC Y,df]
 have ad:(c.take k).flatten.length=k*d:=by rw[cX λf j=>g.size f (cw j),cZ,iO V]
 have ac:c.set k cs=c.take k++cs::c.drop (k+1):=by
  rw[Mm,aq J]
 have aa:iD (c.flatten++tail) (k*d) cs=(c.set k cs).flatten++tail:=by
  have W:c.flatten++tail=(c.take k).flatten++(i++((c.drop (k+1)).flatten++tail)):=by
   conv=>lhs;rw[N]
   simp
  rw[W,<-ad,zp _ _ _ bF,ac];rw[show cs.length=i.length by omega,List.drop_left];simp
 have L:(c.set k cs).flatten.length=c.flatten.length:=by
  rw[cX (a:=d) λf j=>?_,cX g.size,gX];rcases cx j with h|h
  ·exact g.size f h
  ·rw[h];exact G
 have K:Le (bz (s.F::S) m) (bz (s.F::S) (aj m s.F (s.off+k*d) cs)):=bS E λ_ h=>h
 refine⟨?_,⟨B,c.set k cs,⟨by rw[L];exact C.len,Or.inr ⟨e,f,tail,t,Q,?_,?_,U⟩⟩,⟨by simp[g.len],λf j=>?_,λP f ae n p=>?_⟩⟩,hf.aj (Or.inr hy.1) _ _,ab⟩
 ·rw[M,F]
  refine z.fu ?_
  have:(c.take k).flatten.length+i.length<=c.flatten.length:=by
   conv=>rhs;rw[N]
   simp
  simp only[bg];omega
 ·have u:=cD.aj (m:=m) (b:=e) (r:=cs) (o:=k*d) z
  rw[M,F,<-aa];exact u
 ·rw[<-T,bg,bg,L]
 ·rcases cx j with h|h
  ·exact g.size f h
  ·rw[h];exact G
 ·by_cases A:k=P
  ·subst A
   rw[dC J]at n
   rw[dC H]at p
   simp at n p;subst n p
   exact v.le K D
  ·rw[dO A]at n p
   exact v.le K (g.dh P f ae n p)
def yD(hS:∀c∈S,c<m.size){e B Q:O}{X:Int}{aA:List cg}{p:cg}{d:Nat}(r:dL (bz S m) e aA)(ha:au (bz S m) B p.args)(hk:mf (bz S m) Q p.bt)(hj:d<=aA.length)(hb:aA.length<=900000000000):
 aN bY 124 [.agg #[O.v e,vi X],vi d,np p B Q] m λag R=>∃s',ag=.agg #[O.v s',vi X]/\dL (bz S R) s' (aA.take d++[p]++aA.drop d)/\J m R:=by
 apply Ci
 simp -zeta only[aE,aD]
 intro T f b g
 obtain⟨q,k,s1,s2,s3⟩:=oE (c:=T) (a:=f) (b:=b) rfl rfl rfl
 have y:J b g:=J.push _ _
 have s4:g.size=b.size+1:=by simp[g]
 have g0:GS (f.size::S) b g (.mk b.size 0 0 0) []:=GS.new _ _
 clear_value g
 clear_value b
 have u4:=q.trans y
 have P:=r.len
 have aj:=r.cap
 have N:∀c∈[f.size,T.size,m.size],c<g.size:=λc a=>y.lt (k c a)
 have H:∀{M:I}{C:Nat},J m M->m.size<=C->Le (bz S m) (bz (C::f.size::S) M):=λxx ai=>xx.bz λc a=>by
  simp only[aT]at a;rcases a with h|h|h
  ·exact Or.inr V
  ·exact Or.inr V
  ·exact Or.inl h
 have e0:Int.toNat (0:Int)=0:=rfl
 have ej:Int.toNat (d:Int)=d:=V
 have el:Int.toNat (e.len:Int)=e.len:=V
 rw[e0,ej,el]
 refine⟨V,V,V,?_⟩
 have ac:dL (bz (b.size::f.size::S) g) (e.cut 0 d 5) (aA.take d):=by simpa using(r.le (H (C:=b.size) u4 V)).Ih (i:=0) (dZ _) hj
 refine GS.all g0 (y.fz []) ac bF λY w G F z1 q1=>⟨λc a=>q1 c (N c a) (by have:=k c a;simp;omega),V,V,V,?_⟩
 intro U
 have s:J w U:=J.push _ _
 have y1:=G.aZ
 have l:J b w:=F.ext
 have z:∀o,D U m.size o=D w m.size o:=λo=>aJ (s.same _ (by have:=N m.size E;omega)) o
 refine⟨z 1,z 0,?_⟩
 refine GS.jN (x:=p) G F (ha.le (H (C:=Y.F) (q.trans l) V)) (hk.le (H (C:=Y.F) (q.trans l) V)) bF λZ W K u z2 q2=>⟨J.mO (l.trans s) u.ext (λc a=>by have:=k c a;omega),?_⟩
 have n:J b W:=u.ext
 have y2:=K.aZ
 have t:∀{M A:I},J b M->J b A->∀o,D A m.size o=D M m.size o:=λaa h' o=>aJ (by rw[h'.same _ (k _ E),aa.same _ (k _ E)]) o
 refine⟨t (l.trans s) n 1,t (l.trans s) n 0,?_⟩
 have ae:dL (bz (Z.F::f.size::S) W) (e.cut d e.len 5) (aA.drop d):=by
  have:=(r.le (H (C:=Z.F) (q.trans n) V)).Ih (i:=d) (j:=e.len) V V;rwa[P,cE (ad _),<-P]at this
 refine GS.all K u ae bF λr3 m8 L v z3 q3=>⟨J.mO n v.ext k,t n v.ext 1,?_⟩
 intro m9
 have y3:=L.aZ
 have ab:∀c∈f.size::S,c<b.size:=λc a=>by
  rcases List.mem_cons.1 a with h|h
  ·omega
  ·have:=hS c h;omega
 refine⟨r3,rfl,?_,(q.trans v.ext).aj V _ _⟩
 have hD:=L.done fA.mono ab bd bF
 have af:Le (bz (f.size::S) m8) (bz S m9):=bS E λc a=>ah _ a
 exact dL.le af (by simpa[eI]using hD)
def Cv(F:∀c∈S,c<m.size){t Q o:O}{A:List bO}{w:List fF}{q:fF}{l:Nat}{i:Bk}(g:dI (bz S m) t Q A w)(G:w[l]? =some q)(h3:q.params.length<=3/\q.cV.length<=3)(af:dL (bz S m) o i.aA):
 sY 126 [.agg #[O.v t,O.v Q],vi l,.agg #[O.v o,vi i.aR]] m S A λag=>ag=w.set l ⟨q.params,q.cV,q.aR,i⟩:=by
 apply vv
 simp -zeta only[aE,aD]
 intro K f d h
 obtain⟨p,n,s1,s2,s3⟩:=oE (c:=K) (a:=f) (b:=d) rfl rfl rfl
 have y:J d h:=J.push _ _
 have s4:h.size=d.size+1:=by simp[h]
 have g0:GR (f.size::S) d h (.mk d.size 0 0 0) []:=Gr.new _ (ad _) _ _ _
 clear_value h
 clear_value d
 have u4:=p.trans y
 have am:=g.gQ.len;have al:=g.mG
 have aj:=ax G
 have ac:∀c∈[f.size,K.size,m.size],c<h.size:=λc b=>y.lt (n c b)
 have H:∀{M:I}{z:Nat},J m M->m.size<=z->Le (bz S m) (bz (z::f.size::S) M):=λxx ai=>xx.bz λc b=>by
  simp only[aT]at b;rcases b with e|e|e
  ·exact Or.inr V
  ·exact Or.inr V
  ·exact Or.inl e
 refine Gr.all (f:=[.s .nil,.s .nil,.i 0,.s .nil,.i 0]) gK.mono bd g0 (y.fz []) (g.gQ.le (H (z:=d.size) u4 V)) bF λj v u B z1 q1=>⟨λc b=>q1 c (ac c b) (by have:=n c b;simp;omega),V,V,?_⟩
 simp only[dS]at u
 have x:J d v:=B.ext
 have y1:=u.aZ
 obtain⟨an,ao,s,W,X,c3,Y,Z,e2,e3,e4⟩:=(g.gQ.le (H (z:=j.F) (p.trans x) V)).u G
 have ft:∀{T:Value}{s N:Nat},D (bz (j.F::f.size::S) v) s N=some T->D v s N=some T:=λaa=>(dN.1 aa).2
 refine⟨_,ft Y,_,ft Z,_,ft e2,_,ft e3,_,ft e4,?_⟩
 have z5:=x.size
 refine(vK (S:=j.F::f.size::S) (λc b=>?_) (W.le (bo _ _)) (X.le (bo _ _)) V).mono λrv m6⟨P,R,e,h1,h2,r⟩=>?_
 ·simp only[aT]at b
  rcases b with e|e|e
  ·omega
  ·omega
  ·have:=F c e;omega
 subst e
 have C:=u.ext gK.mono r
 have ak:=C.len bd
 obtain⟨wr,g3,f3,q3⟩:=Gr.set (k:=l) (cs:=[.s P,.s R,.i q.aR,.s o,.i i.aR]) (a:=⟨q.params,q.cV,q.aR,i⟩) gK.mono C (B.then r) V ⟨P,R,o,rfl,h1,h2,af.le (H (z:=j.F) ((p.trans x).trans r) V)⟩
 refine⟨λc b=>r.same c (by have:=n c b;omega),_,_,_,_,_,rfl,V,V,wr,?_⟩
 intro m7
 refine⟨λc b=>q3 c (by have:=n c b;omega),?_⟩
 intro L
 have ab:∀c∈f.size::S,c<d.size:=λc b=>by
  rcases List.mem_cons.1 b with e|e
  ·omega
  ·have:=F c e;omega
 have ae:Le (bz (f.size::S) m7) (bz S L):=bS E λc b=>ah _ b
 have U:J m L:=(p.trans f3.ext).aj V _ _
 exact⟨t,j,_,rfl,⟨g.aY.le (U.cK _),wV.le ae (g3.done gK.mono ab bd bF),g.types,bF⟩,rfl,U⟩
end
section
variable{a:List bO}
def Re{f c:Nat}{l:List cg}(h:WL a f True c l){j:Nat}{b v:Int}(e:14<=b/\b<=17)(m:0<=v/\v<((c+dc (l.take j):Nat):Int)):
 WL a f True c (l.take j++[dW b v]++l.drop j)/\dc (l.take j++[dW b v]++l.drop j)=dc l/\sw (l.take j++[dW b v]++l.drop j)=sw l+2:=by
 have d:dc [dW b v]=0:=jc e.1 [v]
 have g:sw [dW b v]=2:=mE b [v]
 have i:=cp (l.take j) (l.drop j)
 have k:=db (l.take j) (l.drop j)
 rw[df]at i k
 refine⟨((h.take j).xH (Bg e m)).append ?_,?_,?_⟩
 ·rw[cp,d];exact h.drop j
 ·rw[cp,cp,d];omega
 ·rw[db,db,g];omega
def P8(h:Nat)(f:List Value)(m:I)(S:List Nat)(c:Nat)(g:O)(P:Nat)(a:List bO)(Q:List fF->Prop):Prop:=
 aN bY h f m λv b=>∃d r e,v=.agg #[O.v d,O.v r]/\dI (bz S b) d r a e/\Q e/\Rd c g P b/\Fz [c] m b
def Ng{i:List Nat}{m:I}(hS:∀p∈i,p<m.size){f P:Nat}{W:O}(aA:f∈i)(h0:Rd f W P m)(hP:P+4<=10000000000000000){B z:O}{T:List fF}(hn:dI (bz i m) B z a T){ae:Nat}(X:vS a T True ae)(hW:ae<=200000000000):
 P8 93 [vp f 0,.agg #[O.v B,O.v z]] m i f W (P+4) a λaa=>vS a aa True (ae+4):=by
 apply Hd (f,0)
 simp -zeta only[aE,aD,bQ]
 intro g ak
 obtain⟨x2,hl⟩:=dj (a:=g) (b:=ak) rfl rfl
 have s1:g.size=m.size+1:=by simp[g]
 have s2:ak.size=m.size+2:=by simp[ak,s1]
 clear_value ak
 have b2:=hn.gQ.len;have b1:=hn.mG
 have b3:=h0.lt
 have nb:∀c∈[g.size,m.size],c<ak.size/\c∉[f]:=λc d=>⟨hl c d,by have:=hl c d;simp at d⊢;omega⟩
 have Dt:vS a T True (ae+4):=⟨X.gR,λq L=>let⟨h,c,p,e⟩:=X.dh q L;⟨h,c,p,V⟩⟩
 refine(bM (h0.ext x2) V (z.len:Int)).mono λs h⟨af,e,f0,f1,h3,z3⟩=>⟨z3.de nb,af,e,?_⟩
 have u3:Fz [f] m h:=(x2.fz _).trans z3
 have bU:af<(T.length:Int):=by have:=X.gR;omega
 obtain⟨q,L⟩:=ag (l:=T) (k:=af.toNat) V
 obtain⟨aM,aL,bn,hw⟩:=X.dh q (ar L)
 have Hn:∀{M:I},Fz [f] m M->dI (bz i M) B z a T:=λt=>hn.le (t.cK λc d=>by simp at d;subst d;exact aA)
 have HS:∀{M:I}(bb:Nat),m.size<=bb->Fz [f] m M->Le (bz i m) (bz (bb::g.size::i) M):=λbb bN gg=>gg.bz (λc d=>by simp at d;subst d;exact aA) λp u=>by
  simp only[aT]at u;rcases u with e|e|e
  ·exact Or.inr V
  ·exact Or.inr V
  ·exact Or.inl e
 have ck:=z3.size
 obtain⟨cd,cf,c,c1,c2,c3,e0,e1,e2,e3,e4⟩:=(hn.le (HS h.size V u3)).gQ.u L
 have ft:∀{M:I}{i:List Nat}{s:Value}{c R:Nat},D (bz i M) c R=some s->D M c R=some s:=λH=>(dN.1 H).2
 refine⟨f0,V,c,ft e3,q.body.aR,ft e4,?_⟩
 intro m4 m5
 have x5:J h m5:=(J.push h _).aj (ad _) _ _
 have s5:m5.size=h.size+1:=by simp[m5,m4,az]
 clear_value m5
 have bO:=c3.len
 have bZ:=c3.gA
 have bP:=Bk.kT q.body
 have b4:=eY q.body.aA
 have ay:∀c∈[h.size,g.size,m.size],c<m5.size/\c∉[f]:=λc d=>by simp at d⊢;omega
 rw[aP V V]
 refine(bM (h3.ext x5) V _).mono λs m6⟨N,e,j0,j1,h6,z6⟩=>⟨z6.de ay,N,e,?_⟩
 have u6:Fz [f] m m6:=(u3.then x5).trans z6
 have bG:=z6.size
 have be:=(Hn u6).le (bo _ _)
 obtain⟨fn,a5⟩:∃fn:Nat,af=fn:=⟨af.toNat,V⟩
 subst a5
 simp only[rS]at L
 have ap:∀c∈[h.size,g.size,m.size],c<m6.size/\c∉[f]:=λc d=>⟨aK (ay c d).1 bG,(ay c d).2⟩
 have aR:∀{M:I},Rd f W (P+4) M->Fz [f] m M->∃d' Z aa,Value.agg #[O.v B,O.v z]=.agg #[O.v d',O.v Z]/\dI (bz i (aj M g.size 0 [.s B,.s z])) d' Z a aa/\vS a aa True (ae+4)/\Rd f W (P+4) (aj M g.size 0 [.s B,.s z])/\Fz [f] m (aj M g.size 0 [.s B,.s z]):=λhr t=>
  have g':=t.aj (b:=g.size) (Or.inr V) 0 [.s B,.s z]
  ⟨B,z,T,rfl,Hn g',Dt,h0.aj hr t V _ _,g'⟩
 refine(BZ be X hW L V).mono λs G⟨lb,ok,e,F,hA⟩=>⟨F.de λc d=>(ap c d).1,(lb,0),ok,e,λ_=>?_,λbg=>?_⟩
 ·intro m8
  exact aR ((h6.ext F).mono V) (u6.then F)
 obtain⟨_,jl,ro,sl,ax,b9,h7,i7⟩:=hA (by simpa using bg)
 intro m8
 have x8:J G m8:=J.push _ _
 have g8:GI i G m8 (.mk G.size 0 0 0) []:=GI.nil i G
 clear_value m8
 have z7:=F.size
 have bR:=qT q.body.aA
 have a4:=Qo q.body.aA N.toNat
 have N0:=i7.len 0 bd
 have u7:Fz [f] m G:=u6.then F
 have aH:∀p∈i,p<G.size:=λp u=>aK (hS p u) u7.size
 refine dt (n:=(ax 0).length) V (λau ab M=>J G M/\∃Q,GI i G M ab Q/\Q.length<=au/\∀y∈Q,0<=y/\y<(((ax 0).length:Nat):Int)) ⟨x8,[],g8,ad _,E⟩ ?_
 rintro au ab m9 bJ μ bX ⟨A,Q,t,b0,al⟩ aF
 have h9:=h7.ext A
 have l0:=h9.len (k:=0) bd
 have aq:∀c∈[h.size,g.size,m.size],c<m9.size/\c∉[f]:=λc d=>⟨A.lt (F.lt (ap c d).1),(ap c d).2⟩
 refine⟨_,h9.cy (k:=0) bd,λba=>?_,λbV=>?_⟩
 ·simp only[ao]at ba
  obtain⟨y,o⟩:=ag (l:=ax 0) (k:=au) V
  refine⟨_,h9.cy (k:=0) bd,V,V,y,h9.u bd V o,λ_=>?_,λ_=>aF V _ _ ⟨A,Q,t,V,al⟩⟩
  refine(qB h9 i7 V (v:=(au:Int)) V V).mono λs aC⟨bb,e,w⟩=>⟨w.de λc d=>(aq c d).1,bb,e,λ_=>?_,λ_=>aF V _ _ ⟨A.trans w,Q,t.ext w,V,al⟩⟩
  intro Y
  have gy:=t.aZ
  refine GI.jN (t.ext w) ((A.trans w).fz []) aH V λZ bq K C _ U=>⟨J.mO ((A.trans w).aM _) C.ext (λc d=>F.lt (ap c d).1),aF V _ _ ⟨C.ext,_,K,bF,λy o=>?_⟩⟩
  rcases List.mem_append.1 o with o|o
  ·exact al y o
  ·simp at o;omega
 ·have bW:=t.len bd
  have u9:Fz [f] m m9:=u7.then A
  have r9:Rd f W (P+2) m9:=(h6.ext (F.trans A)).mono V
  refine⟨λ_=>?_,λbf=>?_⟩
  ·intro aC
   exact aR (r9.mono V) u9
  simp only[an]at bf
  have gy:=t.aZ
  have gb:ab.F∉[f]:=by simp;have:=u7.size;omega
  refine(bM r9 V (ab.len:Int)).mono λs aC⟨aB,e,i0,i1,aZ,vP⟩=>⟨vP.de aq,aB,e,i0,V,?_⟩
  obtain⟨y,aQ⟩:=ag (l:=Q) (k:=aB.toNat) V
  obtain⟨w0,w1⟩:=al y (ar aQ)
  have a6:D m9 ab.F (ab.off+aB.toNat*1)=some (vi y):=((t.done aH V).le (bo _ _)).u aQ
  refine⟨y,(aJ (vP.same _ gy.2 gb) _).trans a6,?_⟩
  have bu:=u9.trans vP
  have cl:=A.size;have bH:=vP.size
  have aI:∀c∈[h.size,g.size,m.size],c<aC.size/\c∉[f]:=λc d=>⟨aK (aq c d).1 bH,(aq c d).2⟩
  have ew:cO (cO ((c.len:Int) -N)+1)=(c.len:Int) -N+1:=by rw[aP (x:=(c.len:Int) -N) V V,aP V V]
  rw[ew]
  refine(bM aZ V _).mono λs Y⟨i2,e,b5,b6,a0,aw⟩=>⟨aw.de aI,i2,e,?_⟩
  have aS:=bu.trans aw
  have bI:=aw.size
  have am:∀c∈[h.size,g.size,m.size],c<Y.size:=λc d=>aK (aI c d).1 bI
  have ah:∀{M:I},Y.size<=M.size->∀p∈h.size::g.size::i,p<M.size:=λhz p u=>by
   simp only[aT]at u;have h1:=am h.size E;have h2:=am g.size E;rcases u with e|e|e
   ·omega
   ·omega
   ·have:=hS p e;have:=aS.size;omega
  have bw:Fz [f] h Y:=(((((x5.fz _).trans z6).then F).then A).trans vP).trans aw
  have a3:=c3.le (bw.cK λp u=>by simp at u;subst u;simp[aA])
  obtain⟨o,a7⟩:∃o:Nat,N=o:=⟨N.toNat,V⟩
  obtain⟨w,a_⟩:∃w:Nat,i2=w:=⟨i2.toNat,V⟩
  subst a7 a_
  have bm:o+w<=q.body.aA.length:=V
  have aY:cO ((o:Int)+(w:Int))=((o+w:Nat):Int):=by rw[aP V V];omega
  simp only[rS]at N0 a4
  obtain⟨bp,r0,r1⟩:=bn.bq
  have bT:dc (q.body.aA.take o)<=dc (q.body.aA.take (o+w)):=by
   have:=Qo (q.body.aA.take (o+w)) o;rwa[JG,iO V]at this
  obtain⟨bB,bx,bD⟩:=Re (j:=o+w) (b:=15) (v:=y) bp bd ⟨w0,V⟩
  have bl:(q.body.aA.take (o+w)++[dW 15 y]++q.body.aA.drop (o+w)).take o=q.body.aA.take o:=by
   rw[eI,lU bF,JG,iO V]
  obtain⟨bC,bA,bE⟩:=Re (j:=o) (b:=14) (v:=y) bB bd ⟨w0,by rw[bl];omega⟩
  generalize aO:q.body.aA.take (o+w)++[dW 15 y]++q.body.aA.drop (o+w)=st1 at*
  have bY:st1.length=q.body.aA.length+1:=by rw[<-aO];simp;omega
  have K:∀{M M':I},J M M'->Y.size<=M.size->∀c∈[h.size,g.size,m.size],∀R,D M' c R=D M c R:=λxx hz c d R=>aJ (xx.same c (aK (am c d) hz)) R
  have kS:∀{M M':I},J M M'->Y.size<=M.size->dV [h.size,g.size,m.size] M M':=λxx hz c d=>xx.same c (aK (am c d) hz)
  rw[aY]
  refine(hO (S:=h.size::g.size::i) (ah (ad _)) 15 y).mono λs bq⟨bK,b7,e,a1,a8,U⟩=>⟨kS U (ad _),_,_,_,_,_,e,K U (ad _) _ E _,K U (ad _) _ E _,?_⟩
  have aX:=U.size
  refine(yD (S:=h.size::g.size::i) (X:=q.body.aR) (p:=dW 15 y) (ah aX) (a3.le (U.cK _)) a1 a8 bm V).mono λs br⟨bt,e,aN,av⟩=>⟨kS av aX,_,_,e,?_⟩
  rw[aO]at aN
  intro ai
  have cg:=av.size
  have ch:ai.size=br.size:=az _ _ _ _
  have aU:=(aS.then U).then av
  have bv:Fz [f] m ai:=aU.aj (Or.inr V) _ _
  have bs:Rd f W (P+2+1+1) ai:=h0.aj ((a0.ext U).ext av) aU V _ _
  have bj:dL (bz (h.size::g.size::i) ai) bt st1:=aN.le (bS E λ_ H=>H)
  clear_value ai
  refine(hO (S:=h.size::g.size::i) (ah V) 14 y).mono λs b_⟨bL,b8,e,a2,a9,C⟩=>⟨kS C V,_,_,_,_,_,e,K C V _ E _,K C V _ E _,K C V _ E _,K C V _ E _,?_⟩
  have ci:=C.size
  refine(yD (S:=h.size::g.size::i) (X:=q.body.aR) (p:=dW 14 y) (ah V) (bj.le (C.cK _)) a2 a9 (d:=o) V V).mono λs ca⟨ce,e,bk,ac⟩=>⟨kS ac V,_,_,e,K ac V _ E _,K ac V _ E _,?_⟩
  have cj:=ac.size
  have aV:=(bv.then C).then ac
  refine(Cv (S:=h.size::g.size::i) (ah V) (i:=.mk (st1.take o++[dW 14 y]++st1.drop o) q.body.aR) (hn.le (HS h.size V aV)) L ⟨aM,aL⟩ bk).mono λs cb⟨d',Z,aa,e,bc,bi,aG⟩=>⟨kS aG V,d',Z,e,?_⟩
  intro cc
  have aW:=aV.then aG
  refine⟨d',Z,aa,rfl,bc.le (bS E λp u=>by simp[u]),?_,h0.aj (((bs.ext C).ext ac).ext aG) aW V _ _,aW.aj (Or.inr V) _ _⟩
  subst bi
  refine⟨by simp;exact X.gR,λq' bh=>?_⟩
  rw[gX]
  rcases cx bh with H|H
  ·exact Dt.dh q' H
  ·subst H
   refine⟨aM,aL,.of bC ⟨r0,by rw[bA,bx];exact r1⟩,?_⟩
   show Bk.w (.mk _ _)<=_
   rw[Bk.oU,bE,bD];omega
end
section
variable{m:I}{t:O}{b:Bk}{c x:Int}{S:List Nat}{d:List bO}{e a k:Nat}
def nX(g:dL m t b.aA):qM 205 [.agg #[O.v t,vi b.aR]] m λk=>0<=k/\k<=b.aA.length/\∀(i:Nat)(x:cg),b.aA[i]? =some x->(i:Int)<k->14<=x.op/\x.op<=17:=by
 apply wq;simp -zeta only[aE,aD];intro c;have C:J m c:=J.push _ _;have w:∀q∈[m.size],q<c.size:=by simp[c]
 clear_value c;have y:=g.len;refine eg (n:=b.aA.length) (y▸g.gA) (λk M=>J c M/\∀(i:Nat)(x:cg),b.aA[i]? =some x->i<k->14<=x.op/\x.op<=17) ⟨J.aC _,λi x _ h=>V⟩ ?_;rintro k M G μ N ⟨p,o⟩ A
 have u:=C.trans p;have R:∀{j:I},J m j->∃f:Int,vi (k:Int)=vi f/\(0<=f/\f<=b.aA.length/\∀(i:Nat)(x:cg),b.aA[i]? =some x->(i:Int)<f->14<=x.op/\x.op<=17)/\J m j:=λE=>⟨k,rfl,⟨V,V,λi x d h=>o i x d V⟩,E⟩;refine⟨λh=>?_,λh=>R u⟩;simp only[ao]at h;obtain⟨x,d⟩:=ag (l:=b.aA) (k:=k) V;obtain⟨a,Q,K,P,s,_⟩:=g.u d;refine⟨V,V,_,u.D s,?_⟩;refine(ry x.op M).aG p w λH S v D B=>⟨_,rfl,λz=>A V _ ⟨B,λi F e L=>?_⟩,λ_=>R (u.trans D)⟩;by_cases r:i=k
 ·subst r;rw[d]at e;simp at e;subst e;exact v.1 z
 ·exact o i F e V
def AP(d:dL m t b.aA){w:Int}(P:0<=c/\c<=b.aA.length)(A:∀(r:Nat)(s:cg),b.aA[r]? =some s->(r:Int)<c->0<s.args.length):
 qM 206 [.agg #[O.v t,vi b.aR],vi c,vi w,vi x] m λk=>-1<=k/\(0<=k->k<c/\∃s:cg,b.aA[k.toNat]? =some s/\s.op=w/\s.args[0]? =some x):=by
 apply D0
 simp -zeta only[aE,aD]
 intro f
 have C:J m f:=J.push _ _
 clear_value f
 have Q:=d.len
 have N:=d.gA
 obtain⟨g,B⟩:∃g:Nat,c=g:=⟨c.toNat,V⟩
 subst B
 refine eg (n:=g) V (λk M=>J f M) (J.aC _) ?_
 rintro k M I μ K i v
 have u:=C.trans i
 refine⟨λh=>?_,λh=>⟨-1,rfl,⟨V,λh=>V⟩,u⟩⟩
 simp only[ao]at h
 obtain⟨s,e⟩:=ag (l:=b.aA) (k:=k) V
 obtain⟨a,R,j,L,y,E,F,z,G⟩:=d.u e
 have H:=j.len
 have:=A k s e V
 obtain⟨D,q⟩:=ag (l:=s.args) (k:=0) V
 refine⟨V,V,_,u.D y,λo=>⟨V,V,_,u.D z,bd,V,D,(j.ext u).u q,λp=>?_,λ_=>v V _ i⟩,λ_=>v V _ i⟩
 simp only[aL]at o p
 refine⟨k,rfl,⟨V,λ_=>⟨V,s,?_,o,by rw[<-p];exact q⟩⟩,u⟩
 simpa using e
def LR(e:dL m t b.aA){f:Int}(C:0<=f/\f<=b.aA.length):qM 239 [.agg #[O.v t,vi b.aR],vi f,vi c] m λk=>-1<=k/\k<b.aA.length:=by
 apply Fg;simp -zeta only[aE,aD];intro g;have w:J m g:=J.push _ _;clear_value g;have r:=e.len;obtain⟨d,q⟩:∃d:Nat,f=d:=⟨f.toNat,V⟩;subst q;refine SS (n:=b.aA.length) (c:=d) V (r▸e.gA) (λk M=>J g M) (J.aC _) ?_;rintro k M I μ _ A i v
 have u:=w.trans i;refine⟨λh=>?_,λh=>⟨-1,rfl,⟨V,V⟩,u⟩⟩;simp only[ao]at h;obtain⟨E,s⟩:=ag (l:=b.aA) (k:=k) V;obtain⟨a,D,z,B,j,x,o,p,y⟩:=e.u s;have N:=v V _ i
 exact⟨V,V,_,u.D j,λ_=>⟨V,V,_,u.D o,λ_=>⟨V,V,_,u.D p,λ_=>⟨k,rfl,⟨V,V⟩,u⟩,λ_=>N⟩,λ_=>N⟩,λ_=>N⟩
def Fi(b:Bk)(hS:∀g∈S,g<m.size)(A:dL m t b.aA)(hw:b.w<=1000000000000):aN bY 217 [.agg #[O.v t,vi b.aR]] m λak D=>∃s,ak=.agg #[O.v s,vi b.aR]/\GS S m D s b.aA/\J m D:=by
 obtain⟨aA,j⟩:=b;rw[Bk.oU]at hw;simp only[Bk.iY,Bk.iu]at*;apply pE;simp -zeta only[aE,aD];intro e c d F h;obtain⟨K,z⟩:=dj (a:=e) (b:=c) rfl rfl;have s0:e.size=m.size+1:=by simp[e]
 have s1:c.size=m.size+2:=by simp[c,s0]
 have s2:d.size=c.size+1:=by simp[d]
 have s3:F.size=d.size+1:=by simp[F]
 have L:J d h:=(J.push d _).aj (ad _) _ _;have al:J c h:=(J.push c _).trans L;have v:GS (d.size::e.size::S) c h (.mk c.size 0 0 0) []:=(GS.new _ c).ext fA.mono L;have N:cD h d.size cQ [.s (.mk c.size 0 0 0),.i j]:=cD.aj (m:=F) (o:=0) (r:=[.s (.mk c.size 0 0 0),.i j]) (cD.push d _ _);clear_value h;have ab:∀g∈e.size::S,g<c.size:=bD hS K.size (z _ E);have ai:=A.len;have an:=eY aA;refine eg (n:=aA.length) (ai▸A.gA) (λk M=>J c M/\∃s,GS (d.size::e.size::S) c M s (aA.take k)/\cD M d.size cQ [.s s,.i j]) ⟨al,_,v,N⟩ ?_;rintro k G am μ hk ⟨u,s,q,B⟩ aj
 have f:=K.trans u;have ah:∀b∈[e.size,m.size],b<G.size:=λb w=>u.lt (z b w);have hy:=q.aZ;have z5:=u.size;have I:=B.lt;refine dit (λaa=>?_) λaa=>?_
 ·obtain⟨x,C⟩:=ag (l:=aA) (k:=k) V;obtain⟨pa,pk,ha,af,v,W,X,Y,Z⟩:=A.u C;have ao:=Ma C;refine⟨s,B.cy 0,V,V,_,f.D v,_,f.D W,_,f.D X,_,f.D Y,_,f.D Z,?_⟩;refine(vH (S:=s.F::d.size::e.size::S) (bD (bD ab z5 I) (ad _) hy.2) (ha.ext f) (af.le f.le) V (λb _=>ua b)).aG (J.aC G) ah λP Q x' H ac ae R p _=>⟨_,_,_,_,_,rfl,aJ (p.same _ I) _,?_⟩;subst R;intro m7;refine Gr.box (f:=[.i 0,.i 0,.i 0,.s .nil,.s .nil]) (j:=0) (o:=[.s s,.i j]) (y:=x) fA.mono bd (q.ext fA.mono p) ((u.trans p).fz []) ⟨P,Q,rfl,ac,ae⟩ bF (B.ext p) E bd ⟨V,E⟩ (λg y=>by have M:=z g y;have T:=p.size;omega) λr' D U M T z' q'=>aj V _ ⟨T.ext,r',?_,M⟩
  rw[bK C];exact U
 ·rw[cE V]at q;refine⟨s,B.cy 0,j,B.cy 1,?_⟩;intro H;have p:Fz [e.size] G H:=(Fz.aC _ _).aj (Or.inl E) _ _;have C:GS S c H s aA:=q.re fA.mono p E bF λg y=>Or.inl (by simp[y]);exact⟨s,rfl,Gr.cF fA.mono C (λb w=>Or.inl w) V,f.aj V _ _⟩
def Rf{c:Prop}{l:List cg}(h:WL d e c a l){x b:cg}(f:l[k]? =some x)(p:WS d e c (a+dc (l.take k)) b)(n:dn b=dn x):
 WL d e c a (l.set k b)/\dc (l.set k b)=dc l/\sw (l.set k b)+x.w=sw l+b.w:=by
 have o:=ax f
 have i:l.set k b=l.take k++([b]++l.drop (k+1)):=by rw[Mm,aq o];rfl
 have g:l=l.take k++([x]++l.drop (k+1)):=by
  obtain⟨j,m⟩:=List.getElem?_eq_some_iff.1 f;rw[<-m];show l=l.take k++(l[k]::l.drop (k+1));rw[<-oC j,df]
 have q:dc l=dc (l.take k)+(dn x+dc (l.drop (k+1))):=by
  conv=>lhs;rw[g]
  rw[cp,cp,jG,qU];omega
 have r:sw l=sw (l.take k)+(x.w+sw (l.drop (k+1))):=by
  conv=>lhs;rw[g]
  rw[db,db,ly,tw];omega
 rw[i]
 refine⟨(h.take k).append ((WL.kv p).append ?_),?_,?_⟩
 ·have:=h.drop (k+1)
  rw[oX f]at this
  rw[jG,qU,n,iJ,dE];exact this
 ·rw[cp,cp,jG,qU];omega
 ·rw[db,db,ly,tw];omega
def _root_.Go.Vc.Gr.cells{α:Type}{q:I}{i c:Nat}{R:I->List Ce->α->Prop}{s:O}{f:List α}(j:Gr S q m i c R s f){x:α}(e:f[k]? =some x):∃a,R (bz (s.F::S) m) a x/\fU m s.F (s.off+k*c) a:=by
 obtain⟨r,h,n,b⟩:=j;obtain⟨a,d⟩:=ag (l:=h) (k:=k) (by rw[b.len];exact ax e);refine⟨a,b.dh k a x d e,λp g o=>?_⟩;have:=n.jA (k*c+p) g (gZ b.size d o);rwa[<-dE]at this
def Hu(hS:∀f∈S,f<m.size)(r:dL m t b.aA)(ao:WB d e True a b)(hw:b.w<=1000000000000)(hx:0<=x/\x<(a:Int))(a5:a<=1000000000000)(c:Int):
 aN bY 204 [.agg #[O.v t,vi b.aR],vi x,vi c] m λaa Z=>∃s j,aa=.agg #[O.v s,vi j.aR]/\dL Z s j.aA/\(dL (bz S m) t b.aA->dL (bz S Z) s j.aA)/\(WB d e True a j/\j.w<=b.w)/\J m Z:=by
 apply Am
 simp -zeta only[aE,aD]
 intro h q
 obtain⟨B,o⟩:=dj (a:=h) (b:=q) rfl rfl
 have s1:h.size=m.size+1:=by simp[h]
 have s2:q.size=m.size+2:=by simp[q,s1]
 clear_value q
 obtain⟨X,aT⟩:=ao.bq
 have C:∀{ac M':I},J q ac->J q M'->∀K,D M' m.size K=D ac m.size K:=λn h' K=>aJ (by rw[h'.same _ (o _ E),n.same _ (o _ E)]) K
 refine(nX (r.le B.le)).aG (J.aC q) o λn1 m3 U Q _=>⟨_,rfl,C (J.aC _) Q _,C (J.aC _) Q _,?_⟩
 refine(AP (r.le (B.trans Q).le) (w:=16) (x:=x) ⟨U.1,U.2.1⟩ λap s hi aM=>?_).aG Q o λn2 m4 aO x4 M=>⟨_,rfl,?_⟩
 ·have:=U.2.2 ap s hi aM
  have:=(X ap s hi).dX.kv V
  omega
 refine(nX (r.le (B.trans M).le)).aG M o λn3 m5 an x5 N=>⟨_,rfl,C M N _,C M N _,?_⟩
 refine(LR (r.le (B.trans N).le) (c:=c) ⟨an.1,an.2.1⟩).aG N o λn4 w ba x6 v6=>⟨_,rfl,?_⟩
 have u6:=B.trans v6
 have aw:∃s j,Value.agg #[O.v t,vi b.aR]=.agg #[O.v s,vi j.aR]/\dL (aj w h.size 0 [.s t,.i b.aR]) s j.aA/\(dL (bz S m) t b.aA->dL (bz S (aj w h.size 0 [.s t,.i b.aR])) s j.aA)/\(WB d e True a j/\j.w<=b.w)/\J m (aj w h.size 0 [.s t,.i b.aR]):=
  have R:=u6.aj (b:=h.size) V 0 [.s t,.i b.aR]
  ⟨t,b,rfl,r.le R.le,λn=>n.le (R.cK _),⟨ao,ad _⟩,R⟩
 refine⟨λ_=>aw,λh2=>⟨λ_=>aw,λh4=>?_⟩⟩
 simp only[bN]at h2 h4
 have z6:=v6.size
 have ak:∀f∈h.size::S,f<w.size:=λf g=>by
  rcases List.mem_cons.1 g with i|i
  ·omega
  ·have:=hS f i;omega
 refine(Fi b ak (r.le u6.le) hw).mono λaa H⟨L,i,g7,x7⟩=>⟨λf g=>x7.same f (by have:=o f g;omega),_,_,i,?_⟩
 intro m8 z
 have x9:J H z:=(J.push H _).aj (ad _) _ _
 have s9:z.size=H.size+1:=by simp[z,m8,az]
 clear_value z
 have y7:=g7.aZ
 have z7:=x7.size
 have g9:=g7.ext fA.mono x9
 have am:∀f∈[H.size,h.size,m.size],f<z.size/\f≠L.F:=λf g=>by simp at g;omega
 refine(hO (S:=L.F::h.size::S) (λf g=>?_) 17 x).mono λaa ar⟨af,aq,i,aK,aL,A⟩=>⟨λf g=>A.same f (am f g).1,_,_,_,_,_,i,aJ (A.same _ V) _,?_⟩
 ·rcases List.mem_cons.1 g with i|i
  ·omega
  ·have:=ak f i;omega
 have ai:=g9.ext fA.mono A
 have bg:=ai.len bd
 obtain⟨a_,so,W,bb,a6⟩:=aO.2 V
 have aA:J w ar:=(x7.trans x9).trans A
 have aQ:=ax W
 obtain⟨aZ,T,aF,aX⟩:=Gr.set (k:=n2.toNat) (cs:=[.i 17,.i 0,.i 0,.s af,.s aq]) (a:=dW 17 x) fA.mono ai (aA.fz []) aQ ⟨af,aq,rfl,aK,aL⟩
 refine⟨V,V,aZ,?_⟩
 intro F
 have vP:=A.size
 have bh:F.size=ar.size:=az _ _ _ _
 refine⟨λf g=>aX f (am f g).2,V,V,?_⟩
 have aU:=X _ so W
 have w1:=aU.dX.kv (Or.inl V)
 have d1:dn (dW 17 x)=dn so:=by
  unfold dn;rw[ae (λn:nt _=>by have:=n.2;simp only[dW]at this;omega),ae (λn:nt _=>by have:=n.2;omega)]
 obtain⟨ay,a1,bj⟩:=Rf X W (Bg (e:=17) (v:=x) bd ⟨hx.1,V⟩) d1
 have be:=cg.kT so
 have a8:(dW 17 x).w=2:=rfl
 obtain⟨y,Y⟩:=ag (l:=b.aA.set n2.toNat (dW 17 x)) (k:=n4.toNat) bF
 have a9:=T.len bd
 obtain⟨a4,⟨pa,pk,rfl,aR,aS⟩,u⟩:=T.cells Y
 have e0:=u 0 _ rfl;have e1:=u 1 _ rfl;have e2:=u 2 _ rfl;have e3:=u 3 _ rfl;have e4:=u 4 _ rfl
 refine⟨_,e0,_,e1,_,e2,_,e3,_,e4,?_⟩
 intro aV G
 have P:J F G:=(J.push F _).aj (ad _) _ _
 have bi:G.size=F.size+1:=by simp[G,aV,az]
 clear_value G
 have aH:=T.ext fA.mono P
 have aC:cO (1+x)=1+x:=aP V V
 rw[aC]
 have aB:=(aF.then P)
 obtain⟨a0,aI,aG,aY⟩:=Gr.set (k:=n4.toNat) (cs:=[.i y.op,.i y.bJ,.i (1+x),.s pa,.s pk]) (a:=⟨y.op,y.bJ,1+x,y.args,y.bt⟩) fA.mono aH aB bF ⟨pa,pk,rfl,au.le (P.cK _) aR,mf.le (P.cK _) aS⟩
 refine⟨V,V,a0,?_⟩
 intro av
 have p:=ay _ y Y
 obtain⟨a3,a2,bk⟩:=Rf (b:=⟨y.op,y.bJ,1+x,y.args,y.bt⟩) ay Y ⟨⟨p.dX.op,p.dX.args,p.dX.kv,⟨by show 0<=1+x;omega,by show 1+x<=_;omega⟩,p.dX.HB,p.dX.all,p.dX.call⟩,p.bt⟩ rfl
 refine⟨λf g=>aY f (by simp at g;omega),?_⟩
 intro aW
 have bf:(⟨y.op,y.bJ,1+x,y.args,y.bt⟩:cg).w=y.w:=rfl
 have a7:=Bk.kT b
 have bc:=eY b.aA
 have ab:dL (bz (h.size::S) av) L _:=aI.mg fA.mono (S:=h.size::S) (λg=>by
  rcases List.mem_cons.1 g with i|i
  ·omega
  ·have:=hS _ i;omega) bd bF
 have al:Le (bz (h.size::S) av) (bz S aW):=bS E λf g=>ah _ g
 refine⟨L,.mk _ b.aR,rfl,(ab.le al).le (bo _ _),λ_=>ab.le al,⟨.of a3 (by rw[a2,a1];exact aT),?_⟩,(u6.trans aG.ext).aj V _ _⟩
 rw[Bk.oU];omega
end
def Qc(c:List bO)(d:List fF)(N:Nat):Prop:=∀(b:Bk),b.w<=N->∀(S:List Nat)(m:I),(∀a∈S,a<m.size)->∀(f r t ju:O)(l:List Int)(a:Nat),dI m f r c d->dL m t b.aA->au m ju l->WB c d.length True a b->a+4*b.w<=1000000000000->l.length+4*b.w<=1000000000000->
 lV 130 [.agg #[O.v f,O.v r],.agg #[O.v t,vi b.aR],O.v ju] m S λe=>WB c d.length True a e/\e.w<=b.w
def Hv{K:List Nat}{m:I}(hS:∀c∈K,c<m.size){Z ak pa pk ju:O}{n:List bO}{F:List fF}{a:cg}{B:List Int}{L:Nat}(t:dI m Z ak n F)(ha:au m pa a.args)(hk:mf m pk a.bt)(Q:au m ju B)(hw:WS n F.length True L a)(hb:L+4*a.w<=1000000000000)(a5:B.length+4*a.w<=1000000000000){p:Nat}{i:Bk}(ab:a.bt[p]? =some i)(ih:Qc n F i.w):
 lV 168 [.agg #[O.v Z,O.v ak],np a pa pk,vi p,O.v ju] m K λo=>WB n F.length True (L+y9 n a.op a.bJ p) o/\o.w<=i.w:=by
 apply An
 simp -zeta only[aE,aD]
 intro af v b
 obtain⟨f,hl,s1,h,s3⟩:=oE (c:=af) (a:=v) (b:=b) rfl rfl rfl
 clear_value b
 obtain⟨ao,ht,f0,f1⟩:=hk.u ab
 have a3:=ax ab
 have a4:=hk.len
 have aZ:=ha.len
 have a8:=cg.kT a
 have a1:=uE ab
 have al:=hw.bt p i ab
 have a2:=i.Eo
 have aL:∀{M:I},J b M->∀c∈v.size::K,c<M.size:=λxx c d=>by
  have:=xx.size;rcases List.mem_cons.1 d with e|e
  ·omega
  ·have:=hS c e;omega
 have ij:∀(M:I)(kp y:O)(l':List Int)(o:Bk)(Lx:List Nat),J m M->J b M->(∀c∈Lx,c<M.size)->dL M y o.aA->au M kp l'->l'.length<=B.length+1->WB n F.length True (L+y9 n a.op a.bJ p) o->o.w<=i.w->
  aN bY 130 [.agg #[O.v Z,O.v ak],.agg #[O.v y,vi o.aR],O.v kp] M λz u=>dV Lx M u/\∃(h:O)(j:Bk),z=.agg #[O.v h,vi j.aR]/\∀g,g=aj u v.size 0 [.s h,.i j.aR]->∃s3 Y,(Value.agg #[O.v h,vi j.aR])=.agg #[O.v s3,vi Y.aR]/\dL (bz K g) s3 Y.aA/\(WB n F.length True (L+y9 n a.op a.bJ p) Y/\Y.w<=i.w)/\J m g:=λM kp y l' o Lx xm aX aK hs aQ a6 aU aT=>by
  have h3:=NJ t.types a.op a.bJ p
  refine(ih o aT (v.size::K) M (aL aX) Z ak y kp l' _ (t.le xm.le) hs aQ aU V V).mono λz u⟨h,j,e,aS,aM,x'⟩=>⟨x'.de aK,h,j,e,λg av=>⟨h,j,rfl,?_,⟨aM.1,V⟩,?_⟩⟩
  ·rw[av];exact aS.le (bS E λc d=>ah _ d)
  ·rw[av];exact(xm.trans x').aj V _ _
 refine⟨λN=>?_,λN=>?_⟩
 ·refine⟨V,V,_,f.D f0,_,f.D f1,?_⟩
  refine(ij b ju ao B i _ f (J.aC _) hl (ht.le f.le) (Q.ext f) V al (ad _)).mono λz u⟨r,h,j,e,s⟩=>⟨r,_,_,e,?_⟩
  intro g
  exact s g rfl
 ·have N:a.op=8:=by simpa using N
  obtain⟨a0,_⟩:=hw.dX.all N
  have aY:=hw.dX.kv (Or.inr (Or.inr N))
  obtain⟨G,hy⟩:=ag (l:=a.args) (k:=0) V
  obtain⟨y0,y1⟩:=hw.dX.args G (ar hy)
  refine⟨bd,V,G,(ha.ext f).u hy,V,V,_,f.D f0,_,f.D f1,?_⟩
  intro m4 w
  have x5:J b w:=(J.push b _).aj (ad _) _ _
  have s5:w.size=b.size+1:=by simp[w,m4,az]
  clear_value w
  have T:=f.trans x5
  have A:∀{M:I},J w M->∀c∈[b.size,v.size,af.size,m.size],c<M.size:=λxx c d=>by have:=xx.size;simp at d;omega
  refine(cU (Q.ext T) G).any.aG (J.aC w) (A (J.aC _)) λbb m6 q _=>⟨_,rfl,λ_=>?_,λ_=>?_⟩
  ·have U:=T.trans q
   obtain⟨cn,aO⟩:=ag (l:=bU n a.bJ) (k:=p) V
   have H:∀{M M':I},J w M->J M M'->∀c∈[b.size,v.size,af.size,m.size],∀ai,D M' c ai=D M c ai:=λaa h' c d ai=>aJ (h'.same c (A aa c d)) ai
   refine(fV (S:=[]) E (t.aY.le U.le) t.types a.bJ).aG q (A (J.aC _)) λs7 l7 m7 ae e x7 v7=>⟨_,rfl,H q x7 _ E _,H q x7 _ E _,H q x7 _ E _,?_⟩
   subst e
   have ae:=ae.le (bo _ _)
   have l7:=ae.len
   refine⟨V,V,cn,ae.u aO,?_⟩
   refine(dm (S:=[]) E (t.aY.le ((T.trans v7).le.trans (xy _))) t.types cn).aG v7 (A (J.aC _)) λs8 l8 m8 a7 e x8 v8=>⟨_,rfl,H v7 x8 _ E _,H v7 x8 _ E _,?_⟩
   subst e
   have u8:=T.trans v8
   have z8:=v8.size
   have h3:=NJ t.types a.op a.bJ p
   have aw:dL (bz [b.size] m8) ao i.aA:=ht.le ((xy m).trans (u8.bz λc d=>Or.inr (by simp at d;omega)))
   refine(Hu (S:=[b.size]) bF (aw.le (bo _ _)) al V (x:=G) ⟨y0,V⟩ V (s8.len:Int)).mono λz m9⟨s9,b9,e,_,an,P,x9⟩=>⟨λc d=>x9.same c (A v8 c d),_,_,e,?_⟩
   have an:=an aw
   intro C
   have v9:=v8.trans x9
   have aq:J b C:=(x5.trans v9).aj V _ _
   have ac:dL C s9 b9.aA:=(an.le (bS (a:=[b.size]) E λ_ aa=>aa)).le (bo _ _)
   have bc:C.size=m9.size:=az _ _ _ _
   have z9:=v9.size
   have R:∀{M:I},C.size<=M.size->∀c∈[b.size,v.size,af.size,m.size],c<M.size:=λaa c d=>by simp at d;omega
   clear_value C
   refine(nX ac).aG (J.aC C) (R (ad _)) λa_ a9 am aH _=>⟨_,rfl,?_⟩
   obtain⟨aV,_⟩:=P.1.bq
   refine(AP (ac.le aH.le) (w:=17) (x:=G) ⟨am.1,am.2.1⟩ λay y hj aR=>?_).aG aH (R (ad _)) λba aW _ be W=>⟨_,rfl,λ_=>?_,λ_=>?_⟩
   ·have:=am.2.2 ay y hj aR
    have:=(aV ay y hj).dX.kv V
    omega
   ·have X:=aq.trans W
    refine(kX (S:=[]) E ((Q.ext (f.trans X)).le (xy _)) G V).aG W (R (ad _)) λaF aA aB aI aC bf ap=>⟨_,rfl,?_⟩
    have aG:=aq.trans ap
    have aP:au aB aF aA:=(aI.done E (by have:=aC.2;omega)).le (bo _ _)
    refine(ij aB aF s9 aA b9 _ (f.trans aG) aG (R ap.size) (ac.le ap.le) aP aC.2 P.1 P.2).mono λz u⟨r,h,j,e,s⟩=>⟨r,_,_,e,?_⟩
    intro g
    exact s g rfl
   ·have X:=aq.trans W
    refine(ij aW ju s9 B b9 _ (f.trans X) X (R W.size) (ac.le W.le) (Q.ext (f.trans X)) V P.1 P.2).mono λz u⟨r,h,j,e,s⟩=>⟨r,_,_,e,?_⟩
    intro g
    exact s g rfl
  ·have U:=T.trans q
   refine(ij m6 ju ao B i _ U (x5.trans q) (A q) (ht.le U.le) (Q.ext U) V al (ad _)).mono λz u⟨r,h,j,e,s⟩=>⟨r,_,_,e,?_⟩
   intro g
   exact s g rfl
section
variable{c:List bO}{d:List fF}
def Qc.fI{N a:Nat}(h:Qc c d N)(e:a<=N):Qc c d a:=λb f=>h b (bI f e)
def DV:∀R:Nat,Qc c d R:=by
 intro R;induction R with
 |zero=>intro A hb;have:=A.Eo;omega
 |succ R y=>
 intro A hb v X hS aO a9 a_ ju a7 ak hn hs av aH aQ aW;obtain⟨aA,F⟩:=A;have an:=aH.bq;rw[Bk.oU]at*;simp only[Bk.iY,Bk.iu]at*;apply wB;simp -zeta only[aE,aD];intro Y q j g m5 O;obtain⟨x3,hl,s1,s2,s3⟩:=oE (c:=Y) (a:=q) (b:=j) rfl rfl rfl;have s4:g.size=j.size+1:=by simp[g]
 have ao:J g O:=(J.push g _).aj (ad _) _ _;have aM:J j O:=(J.push j _).trans ao;have g0:GS (g.size::q.size::v) j O (.mk j.size 0 0 0) []:=(GS.new _ j).ext fA.mono ao;have B0:cD O g.size cQ [.s (.mk j.size 0 0 0),.i F]:=cD.aj (m:=m5) (o:=0) (r:=[.s (.mk j.size 0 0 0),.i F]) (cD.push g _ _);have aq:∀e∈q.size::v,e<j.size:=bD hS x3.size (hl _ E);clear_value O;clear_value j;have ay:=hs.len;have aC:=yV aA;have a1:=eY aA;refine eg (n:=aA.length) (ay▸hs.gA) (λu M=>J j M/\∃t z,GS (g.size::q.size::v) j M t z/\cD M g.size cQ [.s t,.i F]/\z.length=u/\WL c d.length True ak z/\dc z=dc (aA.take u)/\sw z<=sw (aA.take u)) ⟨aM,_,[],g0,B0,rfl,WL.nil _ _ _ _,E,E⟩ ?_;rintro u M aN μ hk ⟨xM,t,z,T,G,aZ,wl,U,aG⟩ aL
 have C:=x3.trans xM;have aV:∀{w:I},j.size<=w.size->∀e∈[q.size,Y.size,X.size],e<w.size:=λD e f=>aK (hl e f) D;have hy:=T.aZ;have zM:=xM.size;have aP:=G.lt;refine dit (λD=>?_) λD=>?_
 ·obtain⟨x,K⟩:=ag (l:=aA) (k:=u) V;obtain⟨pa,pk,ha,ac,e0,e1,e2,e3,e4⟩:=hs.u K;have a4:=Ma K;have a6:=cg.kT x;have aR:=oF x.bt;have a5:=nY K;have a3:=oX K;have ai:=an.1 u x K;have aU:=qT (aA.take u);have a0:=eY (aA.take u);have a2:=aC (u+1);refine⟨V,V,_,C.D e0,_,C.D e1,_,C.D e2,_,C.D e3,_,C.D e4,?_⟩;intro m7 s m9;have x8:J M s:=(J.push M _).aj (ad _) _ _;have s8:s.size=M.size+1:=by simp[s,m7,az]
  have x9:J s m9:=J.push _ _;have ap:GB (t.F::g.size::q.size::v) s m9 (.mk s.size 0 0 0) []:=GB.new _ s;clear_value m9;clear_value s;have aa:∀e∈t.F::g.size::q.size::v,e<s.size:=λe f=>by
   simp only[aT]at f;rcases f with h|h|h|h
   ·omega
   ·omega
   ·omega
   ·have:=hS e h;omega
  have ae:=ac.len;refine dt (n:=x.bt.length) (ae▸ac.gA) (λN W w=>J s w/\∃p,GB (t.F::g.size::q.size::v) s w W p/\p.length=N/\(∀(B:Nat)(A:Bk),p[B]? =some A->WB c d.length True (ak+dc (aA.take u)+y9 c x.op x.bJ B) A)/\bw p<=bw (x.bt.take N)) ⟨x9,[],ap,rfl,E,E⟩ ?_;rintro N W Q I2 μ2 hj ⟨P,p,gk,aY,am,au⟩ aI;have H:J X Q:=C.trans (x8.trans P);have yk:=gk.aZ;have z2:=P.size;have af:∀{w:I},s.size<=w.size->∀e∈[M.size,q.size,Y.size,X.size],e<w.size:=λD e f=>by simp at f;omega
  refine dit (λh2=>?_) λh2=>?_
  ·obtain⟨A,Z⟩:=ag (l:=x.bt) (k:=N) V;have aS:=uE Z;have ar:=sI Z;refine(Hv (K:=W.F::t.F::g.size::q.size::v) (λe f=>?_) (hn.le H.le) (ha.ext H) (ac.le H.le) (av.ext H) ai V V Z (y.fI V)).aG (J.aC Q) (af z2) λss b' a8 aB al aj _=>⟨_,_,rfl,?_⟩
   ·rcases List.mem_cons.1 f with h|h
    ·omega
    ·have:=aa e h;omega
   refine GB.jN (b:=b') (gk.ext pL.mono aj) ((P.trans aj).fz []) aB V λr' w g2 f2 ba q2=>⟨J.mO ((P.trans aj).aM _) f2.ext (af (ad _)),aI V _ _ ⟨f2.ext,_,g2,bF,λB b2 y=>?_,?_⟩⟩
   ·rcases aX B p.length with ab|ab
    ·rw[aw ab]at y;exact am B b2 y
    ·rw[aF ab]at y;have:B -p.length=0:=by have:=ax y;simp at this;omega
     rw[this]at y;simp at y;subst y;have:B=N:=V;subst this;exact al.1
   ·rw[mX,sH,xe,ar];have:=al.2;omega
  ·have ab:p.length=x.bt.length:=V;rw[cE V]at au;have X8:J M Q:=x8.trans P;have Z:=G.ext X8;have G2:=T.ext fA.mono X8;refine⟨t,Z.cy 0,?_⟩;refine(bB (t.F::g.size::q.size::v) (ha.ext H) V).aG (J.aC Q) (af z2) λs' l' aj ga h y _=>⟨_,rfl,aJ (y.same _ V) _,aJ (y.same _ V) _,aJ (y.same _ V) _,aJ (y.same _ Z.lt) _,?_⟩;subst h;intro al;refine Gr.box (f:=[.i 0,.i 0,.i 0,.s .nil,.s .nil]) (L:=[M.size,q.size,Y.size,X.size]) (j:=0) (h:=72) (o:=[.s t,.i F]) (y:=⟨x.op,x.bJ,x.bV,x.args,p⟩) fA.mono bd (G2.ext fA.mono y) (((xM.trans X8).trans y).fz []) ⟨s',W,rfl,(ga.done (λe f=>by have:=aa e f;omega) V),mf.le (y.cK _) (gk.done pL.mono aa bd (by show p.length<=_;omega))⟩ V (Z.ext y) E bd ⟨V,E⟩ (λe f=>by have h1:=y.size;simp at f;omega) λr' m' g' B' f' z' q'=>aL V _ ⟨f'.ext,r',_,g',B',bF,wl.xH (ai.MQ id ai.dX.bV ab am|>λD=>by rw[U];exact D),?_,?_⟩
   ·rw[cp,jG,qU,U];have h:dn (⟨x.op,x.bJ,x.bV,x.args,p⟩:cg)=dn x:=rfl;omega
   ·rw[db,ly,tw];have h5:(⟨x.op,x.bJ,x.bV,x.args,p⟩:cg).w=1+x.args.length+bw p:=cg.kT _;omega
 ·have ae:u=aA.length:=V;subst ae;rw[eT]at U aG;refine⟨t,G.cy 0,F,G.cy 1,?_⟩;intro m7;have p:Le (bz (g.size::q.size::v) M) (bz v m7):=bS E λe f=>ah _ (ah _ f);have s:=T.ne G bd;refine⟨t,.mk z F,rfl,dL.le p (T.mg fA.mono (λf=>?_) bd (by show z.length<=_;omega)),⟨.of wl (by rw[U];exact an.2),by rw[Bk.oU];omega⟩,C.aj V _ _⟩;rcases List.mem_cons.1 f with h|h
  ·exact s h
  ·have:=aq _ h;omega
def Kb{g:List Nat}{f:I}(Z:∀a∈g,a<f.size){v w:O}(t:dI f v w c d){W:Nat}(hW:W<=200000000000)(hk:vS c d True W):sY 96 [.agg #[O.v v,O.v w]] f g c λL=>vS c L True W:=by
 apply DW;simp -zeta only[aE,aD];intro h a2;obtain⟨N,H⟩:=dj (a:=h) (b:=a2) rfl rfl;have s1:h.size=f.size+1:=by simp[h]
 clear_value a2;have aq:=t.gQ.len;have aC:=t.mG;refine(eV (S:=h.size::g) (bD Z N.size (H _ E)) (t.le N.le).aY t.types).mono λ_ ac⟨ak,s,al,P⟩=>?_;subst s;refine⟨P.de H,_,rfl,?_⟩;intro ae ay aj;have u2:=N.trans P;obtain⟨x5,B0,g0,s3,s5⟩:=jQ (S:=ae.size::h.size::g) gK.mono (b:=ac) (a:=ae) (c:=ay) (f:=aj) rfl rfl rfl;clear_value aj;have K:∀a∈[h.size,f.size],a<ac.size:=λa p=>P.lt (H a p);have aa:∀a∈h.size::g,a<ac.size:=λa p=>P.lt (bD Z N.size (H _ E) a p);refine jL (R:=λb e M=>∃v w L,Value.agg #[O.v b,O.v e]=.agg #[O.v v,O.v w]/\dI (bz g M) v w c L/\vS c L True W/\J f M) (t:=d.length) (m:=f) (S:=g) gK.mono bd bd Z ⟨V,K _ E⟩ u2 s3 al aq V x5 B0 g0 (λ_ q=>q.params.length<=3/\q.cV.length<=3/\WB c d.length True q.params.length q.body/\q.body.w<=W) (λb o ab r h1 h2 e i j=>⟨b,o,ab,rfl,⟨h1,h2,t.types,V⟩,EQ hk.gR e i,j⟩) λax M st ab aA μ am aB Q af T az=>?_
 obtain⟨q,hq⟩:=ag (l:=d) (k:=ax) am;obtain⟨ap,ao,aw,hw⟩:=hk.dh q (ar hq);have F:=u2.trans Q;obtain⟨aF,aG,b,c1,c2,c3,U,X,Y,z,A⟩:=t.gQ.u hq;have G:∀{x:Value}{b o:Nat},D f b o=some x->D M b o=some x:=λi=>F.D i;refine⟨st,T.cy 1,V,V,_,G U,_,G X,_,G Y,_,G z,_,G A,V,V,_,G z,_,G A,?_⟩;intro j;have hy:=af.aZ;have ah:=T.lt;have zM:=Q.size;have e:J M j:=J.push _ _;have s7:j.size=M.size+1:=by simp[j]
 have an:au j (.mk M.size 0 0 0) []:=lg _ _ _ _ _ _;clear_value j;have r:∀{x:Value}{b o:Nat},D f b o=some x->D j b o=D M b o:=λi=>by rw[e.D (G i),G i]
 have C:∀{b o:Nat},b<M.size->D j b o=D M b o:=λi=>aJ (e.same _ i) _;have B:f.size<M.size:=Q.lt (K _ E);refine⟨r z,r A,C B,C B,C B,r U,r X,r Y,r z,r A,C B,C ah,?_⟩;refine(DV q.body.w q.body (ad _) (st.F::ae.size::h.size::g) j (λa p=>?_) v w b (.mk M.size 0 0 0) [] q.params.length (t.le (F.trans e).le) (c3.le (F.trans e).le) an aw V bF).aG (Q.trans e) K λss b' M1 av ai u u1=>⟨_,_,rfl,?_⟩
 ·simp only[aT]at p;rcases p with s|s|s|s
  ·omega
  ·omega
  ·have:=aa a (by simp[s]);omega
  ·have:=aa a (by simp[s]);omega
 have y:∀{x:Value}{b o:Nat},D f b o=some x->D M1 b o=D j b o:=λi=>by rw[u.D (e.D (G i)),e.D (G i)]
 refine⟨y U,y X,y Y,y z,y A,aJ (u.same _ (e.lt B)) _,aJ (u.same _ (e.lt ah)) _,?_⟩;exact tS (S:=h.size::g) (h:=ak) (x:=ab) aa (λa p=>by have h1:=K a p;have h2:=u1.size;omega) u1 (af.ext gK.mono (e.trans u)) (T.ext (e.trans u)) V (c1.ext (F.trans (e.trans u))) (c2.ext (F.trans (e.trans u))) av ⟨V,V⟩ V λs' M' g' B' x'=>az s' M' _ g' B' x' ⟨ap,ao,ai.1,bI ai.2 hw⟩
end
section
variable{m:I}{t:O}{b:Bk}{S:List Nat}
def OI(a:Int)(l:List cg):Nat:=l.countP λs=>s.op=a
def UU:∀l:List cg,OI 14 l+OI 15 l<=l.length
 |[]=>by simp[OI]
 |s::l=>by
  have:=UU l;simp only[OI,Yv,ba]at this⊢;by_cases h:s.op=14
  ·simp[h];omega
  ·by_cases a:s.op=15
   ·simp[a];omega
   ·simp[h,a];omega
def Qn(a:Int)(l:List cg)(s:cg):OI a (l++[s])=OI a l+(if s.op=a then 1 else 0):=by
 simp[OI,List.countP_append,Yv]
def FK(j:dL m t b.aA):qM 201 [.agg #[O.v t,vi b.aR]] m λc=>0<=c/\c<=b.aA.length/\∀(i:Nat)(a:cg),b.aA[i]? =some a->(i:Int)<c->a.op=14\/a.op=15:=by
 apply yG;simp -zeta only[aE,aD];intro d;have L:J m d:=J.push _ _;have D:∀s∈[m.size],s<d.size:=by simp[d]
 clear_value d;have E:=j.len;refine eg (n:=b.aA.length) (E▸j.gA) (λc M=>J d M/\∀(i:Nat)(a:cg),b.aA[i]? =some a->i<c->a.op=14\/a.op=15) ⟨J.aC _,λi a _ h=>V⟩ ?_;rintro c M S μ X ⟨q,p⟩ H
 have u:=L.trans q;have R:∀{o:I},J m o->∃g:Int,vi (c:Int)=vi g/\(0<=g/\g<=b.aA.length/\∀(i:Nat)(a:cg),b.aA[i]? =some a->(i:Int)<g->a.op=14\/a.op=15)/\J m o:=λP=>⟨c,rfl,⟨V,V,λi a e h=>p i a e V⟩,P⟩;refine⟨λh=>?_,λh=>R u⟩;simp only[ao]at h;obtain⟨a,e⟩:=ag (l:=b.aA) (k:=c) V;obtain⟨r,G,U,Y,w,y,z,A,B⟩:=j.u e;refine⟨V,V,_,u.D w,_,u.D y,_,u.D z,_,u.D A,_,u.D B,?_⟩;refine(yl (x:=a) r G M).aG q D λT Z C N K=>⟨_,rfl,λF=>H V _ ⟨K,λi Q f W=>?_⟩,λ_=>R (u.trans N)⟩;by_cases v:i=c
 ·subst v;rw[e]at f;simp at f;subst f;exact C.1 F
 ·exact p i Q f V
def vE(P:∀h∈S,h<m.size)(D:dL m t b.aA){e:Nat}(hm:e<=b.aA.length)(f:Int)(N:∀(i:Nat)(s:cg),b.aA[i]? =some s->i<e->0<s.args.length)(hb:b.aA.length<=1000000000000):
 jS 202 [.agg #[O.v t,vi b.aR],vi e,vi f] m S λd=>(∀y∈d,∃(i:Nat)(s:cg),i<e/\b.aA[i]? =some s/\y∈s.args)/\d.length<=OI f (b.aA.take e):=by
 apply zH
 simp -zeta only[aE,aD]
 intro c z
 have A:J m c:=J.push _ _
 have Q:∀h∈[m.size],h<c.size:=by simp[c]
 have T:J c z:=J.push _ _
 have L:GI S c z (.mk c.size 0 0 0) []:=GI.nil S c
 clear_value z
 clear_value c
 have ad:=D.len
 refine dt (n:=e) V (λa s M=>J c M/\∃d,GI S c M s d/\(∀y∈d,∃(i:Nat)(s:cg),i<e/\b.aA[i]? =some s/\y∈s.args)/\d.length<=OI f (b.aA.take a)) ⟨T,[],L,E,E⟩ ?_
 rintro a s M W μ hk ⟨q,d,r,w,R⟩ G
 have u:=A.trans q
 refine dit (λv=>?_) λv=>?_
 ·obtain⟨x,p⟩:=ag (l:=b.aA) (k:=a) V
  obtain⟨Y,kk,C,ac,H,Z,e2,I,e4⟩:=D.u p
  have aa:=C.len
  have:=N a x p V
  obtain⟨y,F⟩:=ag (l:=x.args) (k:=0) V
  have o:OI f (b.aA.take (a+1))=OI f (b.aA.take a)+(if x.op=f then 1 else 0):=by rw[bK p,Qn]
  have ab:OI f (b.aA.take a)<=(b.aA.take a).length:=List.countP_le_length
  have af:=oV a b.aA
  refine⟨V,V,_,u.D H,λj=>⟨V,V,_,u.D I,bd,V,y,(C.ext u).u F,?_⟩,λj=>G V _ _ ⟨q,d,r,w,?_⟩⟩
  ·intro m3
   simp only[aL]at j
   rw[aq j]at o
   refine GI.jN r (q.fz []) (λh o=>A.lt (P h o)) V λah X K B _ _=>⟨J.mO (q.aM _) B.ext Q,G V _ _ ⟨B.ext,_,K,λU g=>?_,bF⟩⟩
   rcases List.mem_append.1 g with g|g
   ·exact w U g
   ·simp at g;subst g;exact⟨a,x,V,p,ar F⟩
  ·simp only[an]at j
   rw[ae j]at o;omega
 ·have g:a=e:=V
  subst g
  exact⟨s,d,rfl,r.cF (λ_ v=>v) A.size,⟨w,R⟩,u⟩
def OK:∀{l:List cg},(∀x∈l,dn x=0)->dc l=0
 |[],_=>rfl
 |x::l,h=>by rw[jG,h x aS,OK λy a=>h y (ah _ a)]
def Q5:∀{l:List cg},(∀x∈l,2<=x.w)->2*l.length<=sw l
 |[],_=>E
 |x::l,h=>by
  have b:=h x aS;have c:=Q5 λy a=>h y (ah _ a);rw[ly,ba];omega
def Jr(hS:∀c∈S,c<m.size){aa:O}{r:List Int}{ds:List bO}{nr h:Nat}(p:dL (bz S m) t b.aA)(hf:au m aa r)(bq:r.length<=3)(ap:WB ds nr True (h+r.length) b)(hw:b.w<=100000000000)(ha:h<=1000000000000){o:Int}(hx:0<=o/\o<(h:Int)):
 lV 167 [.agg #[O.v t,vi b.aR],vi o,O.v aa,vi h] m S λb'=>WB ds nr True (h+r.length) b'/\b'.w<=b.w+8:=by
 apply Cd
 simp -zeta only[aE,aD]
 intro q X
 obtain⟨C,F⟩:=dj (a:=q) (b:=X) rfl rfl
 have s1:q.size=m.size+1:=by simp[q]
 have s2:X.size=m.size+2:=by simp[X,s1]
 clear_value X
 obtain⟨aq,aN⟩:=ap.bq
 have am:=p.le (bo _ _)
 have bm:=Bk.kT b
 have bx:=eY b.aA
 have aQ:=p.len
 have bp:=p.cap
 have bs:=hf.len
 refine(FK (am.le C.le)).aG (J.aC X) F λmn m3 a7 x3 _=>⟨_,rfl,?_⟩
 obtain⟨a,a5⟩:∃a:Nat,mn=a:=⟨mn.toNat,V⟩
 subst a5
 have aM:∀(d:Nat)(s:cg),b.aA[d]? =some s->d<a->s.op=14\/s.op=15:=λd s z aI=>a7.2.2 d s z V
 have al:∀(d:Nat)(s:cg),b.aA[d]? =some s->d<a->0<s.args.length:=λd s z aI=>by
  have:=aM d s z aI;have:=(aq d s z).dX.kv V;omega
 have u3:=C.trans x3
 refine(vE (S:=[]) E (am.le u3.le) (e:=a) V 14 al V).aG x3 F λsd K m4 gd hd x4 v4=>⟨_,rfl,?_⟩
 refine(vE (S:=[]) E (am.le (C.trans v4).le) (e:=a) V 15 al V).aG v4 F λsr U m5 gr hr x5 v5=>⟨_,rfl,?_⟩
 have bn:=UU (b.aA.take a)
 have bB:(b.aA.take a).length=a:=bF
 have aO:au m5 sr U:=(gr.done E V).le (bo _ _)
 refine(cU aO o).aG v5 F λbk m6 bl x6 B=>⟨_,rfl,λ_=>?_,λbt=>⟨λ_=>?_,λa8=>?_⟩⟩
 ·exact⟨t,b,rfl,p.le (((C.trans B).aj V _ _).cK _),⟨ap,V⟩,(C.trans B).aj V _ _⟩
 ·exact⟨t,b,rfl,p.le (((C.trans B).aj V _ _).cK _),⟨ap,V⟩,(C.trans B).aj V _ _⟩
 have bu:0<r.length:=by simp only[an]at a8;omega
 have aK:∀s∈b.aA.take a,∃d:Nat,d<a/\b.aA[d]? =some s:=λs p=>by
  obtain⟨d,z⟩:=List.mem_iff_getElem?.1 p;have:=ax z;rw[di V]at z;exact⟨d,V,z⟩
 have aG:dc (b.aA.take a)=0:=OK λs p=>by
  obtain⟨d,h1,Q⟩:=aK s p;have:=aM d s Q h1;exact ae λab:nt s.op=>by have:=ab.2;omega
 have bw:2*a<=sw (b.aA.take a):=by
  have:=Q5 (l:=b.aA.take a) λs p=>by
   obtain⟨d,h1,Q⟩:=aK s p;have:=al d s Q h1;have:=cg.kT s;omega
  omega
 have bA:sw b.aA=sw (b.aA.take a)+sw (b.aA.drop a):=by rw[<-db,df]
 have a2:dc b.aA=dc (b.aA.take a)+dc (b.aA.drop a):=by rw[<-cp,df]
 have Uz:∀y:Int,(∃(d:Nat)(s:cg),d<a/\b.aA[d]? =some s/\y∈s.args)->0<=y/\y<((h+r.length:Nat):Int):=λy⟨d,s,h1,Q,h3⟩=>by
  have h4:=(aq d s Q).dX.args y h3;have h5:=Qo (b.aA.take a) d;rw[JG,iO V]at h5;omega
 refine(qe (S:=[]) E ((aO.ext x6).le (xy _)) o V).aG B F λbf ba m8 aF aL x8 v8=>⟨_,rfl,?_⟩
 have y2:=aF.aZ
 have u6:=C.trans B
 have bY:=x8.size
 have a9:au (bz [bf.F] m8) sd K:=((gd.done E V).le (bo _ _)).le (((x5.trans x6).le.trans (xy m6)).trans (x8.bz λc e=>Or.inr (by simp at e;omega)))
 refine tc (n:=r.length) V (λg sd sr M=>J m6 M/\∃K U,au (bz [sr.F] M) sd K/\GI [] m6 M sr U/\(∀y∈K,0<=y/\y<((h+r.length:Nat):Int))/\K.length<=OI 14 (b.aA.take a)/\(∀y∈U,0<=y/\y<((h+r.length:Nat):Int))/\U.length<=OI 15 (b.aA.take a)+g) ⟨x8,K,ba,a9,aF,λy T=>Uz y (hd.1 y T),hd.2,λy T=>Uz y (hr.1 y (aL.1 y T)),by have:=aL.2;have:=hr.2;omega⟩ ?_
 rintro g L G v ay μ hk ⟨N,ai,W,R,P,ac,aH,af,bv⟩ ar
 have Y:=u6.trans N
 have y3:=P.aZ
 have u:∀c∈[q.size,m.size],c<v.size:=λc e=>N.lt (B.lt (F c e))
 refine⟨λab=>?_,λab=>?_⟩
 ·simp only[ao]at ab
  obtain⟨y,T⟩:=ag (l:=r) (k:=g) V
  have ew:cO ((h:Int)+(g:Int))=(h:Int)+g:=aP V V
  rw[ew]
  have ak:∀{M:I},J v M->D M aa.F (aa.off+Int.toNat (g:Int)*1)=some (vi y):=λw=>(hf.ext (Y.trans w)).u T
  have aA:∀{M:I},J v M->ay L G (cO ((g:Int)+1)) M/\μ L G (cO ((g:Int)+1)) M<μ L G g v:=λw=>ar V _ _ _ ⟨N.trans w,ai,W,R.le (w.cK _),P.ext w,ac,aH,af,V⟩
  have LA:∀{M:I},J v M->iP (M.push (.cells (br [.i ((h:Int)+g)]) aB)) aB [.i 0] 8 G (.mk M.size 0 1 1) λaw Z=>dV [q.size,m.size] (M.push (.cells (br [.i ((h:Int)+g)]) aB)) Z/\ay L aw (cO ((g:Int)+1)) Z/\μ L aw (cO ((g:Int)+1)) Z<μ L G g v:=λ{M} w=>by
   refine GI.jN (P.ext w) ((N.trans w).fz []) E V λaw Z g' f' z' q'=>⟨J.mO ((N.trans w).aM _) f'.ext (λc e=>B.lt (F c e)),ar V _ _ _ ⟨f'.ext,ai,_,(R.le (w.cK _)).le (nH λc e hn=>?_),g',ac,aH,λaj A=>?_,bF⟩⟩
   ·simp at hn;refine⟨?_,q' c e hn⟩;simp;rcases z'.2 with f|f<;>omega
   ·rcases List.mem_append.1 A with A|A
    ·exact af aj A
    ·simp at A;omega
  refine⟨V,V,y,ak (J.aC _),λ_=>?_,λ_=>⟨V,V,y,ak (J.aC _),λ_=>?_,λ_=>aA (J.aC _)⟩⟩
  ·refine(cU (R.le (bo _ _)) _).aG (J.aC v) u λbb aU _ H _=>⟨_,rfl,λ_=>?_,λ_=>⟨V,V,y,ak H,λ_=>?_,λ_=>aA H⟩⟩
   ·refine(qe (S:=[G.F]) (by have:=H.size;simp;omega) (R.le (H.cK _)) _ V).aG H u λaV aS az aR av aW aC=>⟨_,rfl,ar V _ _ _ ⟨N.trans aC,aS,W,aR.done (by have:=H.size;simp;omega) (by have:=av.2;omega),P.ext aC,λaj A=>ac aj (av.1 aj A),by have:=av.2;omega,af,V⟩⟩
   ·intro az
    exact LA H
  ·intro az
   exact LA (J.aC _)
 ·have a_:au v G W:=(P.done E V).le (bo _ _)
  have H:∀{M:I},v.size<=M.size->∀c∈q.size::S,c<M.size:=λA c e=>by
   rcases List.mem_cons.1 e with f|f
   ·have:=u q.size E;omega
   ·have:=hS c f;have:=Y.size;omega
  refine(dU (S:=q.size::S) (H (ad _)) 14 (R.le (bo _ _)) V).aG (J.aC v) u λbb bD bG az aX ak _=>⟨_,rfl,?_⟩
  subst aX
  have bU:=az.aZ
  have bi:=ak.size
  refine(hO (S:=bb.F::q.size::S) (λc e=>?_) 16 o).mono λbT bH⟨bj,bC,f,a1,a4,av⟩=>⟨λc e=>av.same c (ak.lt (u c e)),_,_,_,_,_,f,?_⟩
  ·rcases List.mem_cons.1 e with f|f
   ·omega
   ·exact H bi c f
  intro bI
  have aw:=ak.trans av
  refine GS.jN (x:=dW 16 o) (az.ext fA.mono av) (aw.fz []) a1 a4 bF λbc bJ aA T bZ bN=>⟨J.mO (aw.aM _) T.ext u,?_⟩
  have bV:=aA.aZ
  have bX:=aw.size
  have aV:=T.size
  refine(dU (S:=bc.F::q.size::S) (λc e=>?_) 15 (a_.ext T.ext) V).aG T.ext u λbR bE bK aZ aY bh aU=>⟨_,rfl,?_⟩
  ·rcases List.mem_cons.1 e with f|f
   ·omega
   ·exact H aV c f
  subst aY
  refine GS.all (aA.ext fA.mono bh) (aU.fz []) (aZ.done fA.mono (λc e=>?_) bd bF) bF λaS aR aC w b0 bP=>⟨J.mO aU w.ext u,V,V,V,?_⟩
  ·rcases List.mem_cons.1 e with f|f
   ·omega
   ·exact H aV c f
  have bW:=aC.aZ
  have z9:=Y.size
  have bg:=Y.trans w.ext
  have a6:Le (bz S m) (bz (aS.F::q.size::S) aR):=bg.bz λc e=>by
   simp only[aT]at e;rcases e with f|f|f
   ·exact Or.inr V
   ·exact Or.inr V
   ·exact Or.inl f
  have ek:Int.toNat (a:Int)=a:=V
  have el:Int.toNat (t.len:Int)=t.len:=V
  rw[ek,el]
  have a3:dL (bz (aS.F::q.size::S) aR) (t.cut a t.len 5) (b.aA.drop a):=by
   have:=(p.le a6).Ih (i:=a) (j:=t.len) V V;rwa[aQ,cE (ad _),<-aQ]at this
  refine GS.all aC w a3 bF λbe bL a0 aj b1 bQ=>⟨J.mO w.ext aj.ext u,aJ (by rw[aj.ext.same _ (u _ E),w.ext.same _ (u _ E)]) _,?_⟩
  intro bM
  have aW:=a0.done fA.mono (H (ad _)) bd bF
  have Z:dc [dW 16 o]=0:=jc bd [o]
  have e2:sw [dW 16 o]=2:=mE 16 [o]
  have W1:WL ds nr True (h+r.length) (ai.map (dW 14)++[dW 16 o]++W.map (dW 15)++b.aA.drop a):=by
   refine WL.append (WL.append ((pO bd ac).xH ?_) ?_) ?_
   ·rw[jc bd];exact Bg bd ⟨hx.1,V⟩
   ·rw[cp,jc bd,Z];exact pO bd af
   ·rw[cp,cp,jc bd,jc bd,Z];have:=aq.drop a;rwa[aG]at this
  refine⟨be,.mk (ai.map (dW 14)++[dW 16 o]++W.map (dW 15)++b.aA.drop a) b.aR,rfl,dL.le (bS E λc e=>ah _ e) aW,⟨.of W1 ?_,?_⟩,(Y.trans aj.ext).aj V _ _⟩
  ·rw[cp,cp,cp,jc bd,jc bd,Z]
   rw[a2,aG]at aN
   simpa using aN
  ·rw[Bk.oU,db,db,db,mE,mE,e2];omega
end
def Ww(c:List bO)(d:List fF)(b:Bk):Prop:=∀(S:List Nat)(m:I),(∀a∈S,a<m.size)->∀(f r t:O)(a:Nat),dI m f r c d->dL m t b.aA->WB c d.length True a b->a+4*b.w<=1000000000000->9*b.w<=100000000000->
 lV 129 [.agg #[O.v f,O.v r],.agg #[O.v t,vi b.aR],vi a] m S λe=>WB c d.length True a e/\e.w+8<=9*b.w
def Au{F:List bO}{rs:List fF}:∀H:Bk,Ww F rs H:=by
 refine Bk.ind ?_;intro aA ac ih u ak hS aW a9 b4 v U hs bn bG bH;have a4:=bn.bq;rw[Bk.oU]at*;simp only[Bk.iY,Bk.iu]at*;apply uv;simp -zeta only[aE,aD];intro al p w h m5 m6;obtain⟨x3,hl,s1,s2,s3⟩:=oE (c:=al) (a:=p) (b:=w) rfl rfl rfl;have s4:h.size=w.size+1:=by simp[h]
 have ba:J h m6:=(J.push h _).aj (ad _) _ _;have bu:J w m6:=(J.push w _).trans ba;have g0:GS (h.size::p.size::u) w m6 (.mk w.size 0 0 0) []:=(GS.new _ w).ext fA.mono ba;have B0:cD m6 h.size cQ [.s (.mk w.size 0 0 0),.i ac]:=cD.aj (m:=m5) (o:=0) (r:=[.s (.mk w.size 0 0 0),.i ac]) (cD.push h _ _);have bf:∀f∈p.size::u,f<w.size:=bD hS x3.size (hl _ E);clear_value m6;clear_value w;have bi:=hs.len;have bk:=yV aA;have bR:=eY aA;refine dt (n:=aA.length) (bi▸hs.gA) (λd(y:Int) M=>y=((v+dc (aA.take d):Nat):Int)/\J w M/\∃s B,GS (h.size::p.size::u) w M s B/\cD M h.size cQ [.s s,.i ac]/\B.length=d/\WL F rs.length True v B/\dc B=dc (aA.take d)/\sw B<=9*sw (aA.take d)) ⟨E,bu,_,[],g0,B0,rfl,WL.nil _ _ _ _,E,E⟩ ?_;rintro d v0 M aV μ hk ⟨bm,xM,s,B,av,af,bM,wl,aC,bl⟩ a8
 subst bm;have y:=x3.trans xM;have hy:=av.aZ;have zM:=xM.size;have bA:=af.lt;refine dit (λay=>?_) λay=>?_
 ·obtain⟨c,W⟩:=ag (l:=aA) (k:=d) V;obtain⟨pa,pk,ha,aQ,e0,e1,e2,e3,e4⟩:=hs.u W;have bX:=Ma W;have b0:=cg.kT c;have bI:=oF c.bt;have bZ:=nY W;have bW:=oX W;have ab:=a4.1 d c W;have bK:=qT (aA.take d);have bQ:=eY (aA.take d);have bV:=bk (d+1);refine⟨V,V,_,y.D e0,_,y.D e1,_,y.D e2,_,y.D e3,_,y.D e4,?_⟩;intro m7 t Y;have x8:J M t:=(J.push M _).aj (ad _) _ _;have s8:t.size=M.size+1:=by simp[t,m7,az]
  have x9:J t Y:=J.push _ _;have s9:Y.size=t.size+1:=by simp[Y]
  have be:GB (s.F::h.size::p.size::u) t Y (.mk t.size 0 0 0) []:=GB.new _ t;clear_value Y;clear_value t;have aM:∀f∈s.F::h.size::p.size::u,f<t.size:=λf j=>by
   simp only[aT]at j;rcases j with e|e|e|e
   ·omega
   ·omega
   ·omega
   ·have:=hS f e;omega
  have aR:=aQ.len;have P:∀{g:I},t.size<=g.size->∀f∈[M.size,p.size,al.size,ak.size],f<g.size:=λay f j=>by simp at j;omega
  have z9:Y.size=t.size+1:=s9;refine(fV (S:=[t.size]) bF (U.aY.le (y.trans (x8.trans x9)).le) U.types c.bJ).aG (J.aC Y) (P x9.size) λsc lc b1 a1 e a_ _=>⟨_,rfl,?_⟩;subst e;have bN:=a1.len;refine dt (n:=c.bt.length) (aR▸aQ.gA) (λz A g=>J t g/\au (bz [A.F] g) sc (bU F c.bJ)/\∃q,GB (s.F::h.size::p.size::u) t g A q/\q.length=z/\(∀(X:Nat)(H:Bk),q[X]? =some H->WB F rs.length True (v+dc (aA.take d)+y9 F c.op c.bJ X) H)/\bw q<=9*bw (c.bt.take z)) ⟨x9.trans a_,a1,[],be.ext pL.mono a_,rfl,E,E⟩ ?_;rintro z A G I2 μ2 hj ⟨ao,a2,q,gk,bL,aZ,bh⟩ bs;have Q:J ak G:=y.trans (x8.trans ao);have yk:=gk.aZ;have Z:=ao.size;refine dit (λh2=>?_) λh2=>?_
  ·obtain⟨H,aa⟩:=ag (l:=c.bt) (k:=z) V;obtain⟨tb,a3,f0,f1⟩:=aQ.u aa;have bJ:=uE aa;have bg:=sI aa;have aB:=ab.bt z H aa;have h3:=NJ U.types c.op c.bJ z;have aK:∀{g:I},J G g->∀f∈A.F::s.F::h.size::p.size::u,f<g.size:=λxx f j=>by
    have:=xx.size;rcases List.mem_cons.1 j with e|e
    ·omega
    ·have:=aM f e;omega
   have ap:∀{g:I}{ss:O}{N:Bk},J G g->dL (bz (A.F::s.F::h.size::p.size::u) g) ss N.aA->WB F rs.length True (v+dc (aA.take d)+y9 F c.op c.bJ z) N->N.w<=9*H.w->
    iP (g.push (.cells (br [.s ss,.i N.aR]) cQ)) cQ [.s .nil,.i 0] 32 A (.mk g.size 0 1 1) λr' M3=>dV [M.size,p.size,al.size,ak.size] (g.push (.cells (br [.s ss,.i N.aR]) cQ)) M3/\I2 r' (cO ((z:Int)+1)) M3/\μ2 r' (cO ((z:Int)+1)) M3<μ2 A z G:=λ{g ss N} x11 aj hwb' hw'=>by
    refine GB.jN (b:=N) (gk.ext pL.mono x11) ((ao.trans x11).fz []) aj V λr' M3 g2 f2 bv q2=>⟨J.mO ((ao.trans x11).aM _) f2.ext (P (ad _)),bs V _ _ ⟨f2.ext,(a2.le (x11.cK _)).le (nH λf j a0=>?_),_,g2,bF,λX b2 T=>?_,?_⟩⟩
    ·simp at a0
     refine⟨?_,q2 f j a0⟩
     simp
     rcases bv.2 with e|e<;>omega
    ·rcases aX X q.length with C|C
     ·rw[aw C]at T;exact aZ X b2 T
     ·rw[aF C]at T
      have:X -q.length=0:=by have:=ax T;simp at this;omega
      rw[this]at T;simp at T;subst T
      have:X=z:=V
      subst this;exact hwb'
    ·rw[mX,sH,xe,bg]
     omega
   refine⟨λR=>?_,λR=>?_⟩
   ·simp only[aL]at R;obtain⟨bE,_⟩:=ab.dX.all R;have bx:=ab.dX.kv (Or.inr (Or.inr R));obtain⟨aU,a5⟩:=ag (l:=c.args) (k:=0) V;obtain⟨y0,y1⟩:=ab.dX.args aU (ar a5);have bC:=ha.len;obtain⟨cn,aY⟩:=ag (l:=bU F c.bJ) (k:=z) V;refine⟨V,V,cn,(a2.le (bo _ _)).u aY,?_⟩;refine(dm (S:=[]) E (U.aY.le (Q.le.trans (xy _))) U.types cn).aG (J.aC G) (P Z) λsf lf a6 aG e aH _=>⟨_,rfl,?_⟩;subst e;have aG:=aG.le (bo _ _);have bP:=aG.len;have ai:=Q.trans aH;rw[HY R aY]at aB h3 ap;have aI:D a6 pa.F (pa.off+Int.toNat (0:Int)*1)=some (vi aU):=(ha.ext ai).u a5;refine⟨V,V,_,ai.D f0,_,ai.D f1,bd,V,aU,aI,?_⟩;have ew:cO (((v+dc (aA.take d):Nat):Int)+(sf.len:Int))=((v+dc (aA.take d)+(bT F cn).length:Nat):Int):=by rw[aP V V];omega
    rw[ew];refine(ih c (ar W) H (ar aa) (A.F::s.F::h.size::p.size::u) a6 (aK aH) aW a9 tb _ (U.le ai.le) (a3.le ai.le) aB V V).aG aH (P Z) λss N bp aj aO am aS=>⟨_,_,rfl,?_⟩;refine⟨by rw[am.D aI,aI],aJ (am.same _ (aH.lt (P Z _ E))) _,?_⟩;refine(Jr (S:=A.F::s.F::h.size::p.size::u) (aK aS) aj (aG.ext am) V aO.1 V V ⟨y0,y1⟩).aG aS (P Z) λb3 b2 a7 bj bb C bt=>⟨_,_,rfl,?_⟩;intro bq;exact ap bt bj bb.1 V
   ·simp only[an]at R;rw[HZ R]at aB ap;refine⟨V,V,_,Q.D f0,_,Q.D f1,?_⟩;refine(ih c (ar W) H (ar aa) (A.F::s.F::h.size::p.size::u) G (aK (J.aC _)) aW a9 tb _ (U.le Q.le) (a3.le Q.le) aB V V).aG (J.aC G) (P Z) λss N bp aj aO am aS=>⟨_,_,rfl,?_⟩;intro a7;exact ap am aj aO.1 V
  ·have ap:q.length=c.bt.length:=V;rw[cE V]at bh;have X8:J M G:=x8.trans ao;have T:=af.ext X8;have G2:=av.ext fA.mono X8;refine⟨s,T.cy 0,?_⟩;refine(bB (s.F::h.size::p.size::u) (ha.ext Q) V).aG (J.aC G) (P Z) λs' l' a7 ga e C _=>⟨_,rfl,aJ (C.same _ V) _,aJ (C.same _ V) _,aJ (C.same _ V) _,aJ (C.same _ T.lt) _,?_⟩;subst e;intro bq;refine Gr.box (f:=[.i 0,.i 0,.i 0,.s .nil,.s .nil]) (K:=λg=>aN bY 118 [vi c.op] g λy R=>dV [M.size,p.size,al.size,ak.size] g R/\∃N:Bool,y=vb N/\
    (N=true->aV (cO (((v+dc (aA.take d):Nat):Int)+1)) (cO ((d:Int)+1)) R/\μ (cO (((v+dc (aA.take d):Nat):Int)+1)) (cO ((d:Int)+1)) R<μ ((v+dc (aA.take d):Nat):Int) (d:Int) M)/\
    (N=false->aV ((v+dc (aA.take d):Nat):Int) (cO ((d:Int)+1)) R/\μ ((v+dc (aA.take d):Nat):Int) (cO ((d:Int)+1)) R<μ ((v+dc (aA.take d):Nat):Int) (d:Int) M)) (L:=[M.size,p.size,al.size,ak.size]) (j:=0) (h:=72) (o:=[.s s,.i ac]) (y:=⟨c.op,c.bJ,c.bV,c.args,q⟩) fA.mono bd (G2.ext fA.mono C) (((xM.trans X8).trans C).fz []) ⟨s',A,rfl,(ga.done (λf j=>by have:=aM f j;omega) V),mf.le (C.cK _) (gk.done pL.mono aM bd (by show q.length<=_;omega))⟩ V (T.ext C) E bd ⟨V,E⟩ (λf j=>by have N:=C.size;simp at j;omega) λr' m' g' B' f' z' q'=>?_
   have W':WL F rs.length True v (B++[⟨c.op,c.bJ,c.bV,c.args,q⟩]):=wl.xH (ab.MQ id ab.dX.bV ap aZ|>λay=>by rw[aC];exact ay);have aB:=C.size;refine(iT c.op m').mono λy R⟨bb,e,am,N⟩=>⟨λf j=>N.same f (by have:=P Z f j;omega),bb,e,?_⟩;have ai:=qV c bb am;have aa:dc (B++[⟨c.op,c.bJ,c.bV,c.args,q⟩])=dc (aA.take (d+1)):=by
    rw[cp,jG,qU,aC];have e:dn (⟨c.op,c.bJ,c.bV,c.args,q⟩:cg)=dn c:=rfl;omega
   have aj:sw (B++[⟨c.op,c.bJ,c.bV,c.args,q⟩])<=9*sw (aA.take (d+1)):=by
    rw[db,ly,tw];have h5:(⟨c.op,c.bJ,c.bV,c.args,q⟩:cg).w=1+c.args.length+bw q:=cg.kT _;omega
   refine⟨λht=>?_,λhf=>?_⟩
   ·rw[aq ht]at ai;rw[aP (x:=((v+dc (aA.take d):Nat):Int)+1) V V];exact a8 V _ _ ⟨V,f'.ext.trans N,r',_,g'.ext fA.mono N,B'.ext N,bF,W',aa,aj⟩
   ·rw[ae (by simp[hf])]at ai;exact a8 V _ _ ⟨V,f'.ext.trans N,r',_,g'.ext fA.mono N,B'.ext N,bF,W',aa,aj⟩
 ·have aR:d=aA.length:=V;subst aR;rw[eT]at aC bl;refine⟨s,af.cy 0,ac,af.cy 1,?_⟩;intro m7;have c:Le (bz (h.size::p.size::u) M) (bz u m7):=bS E λf j=>ah _ (ah _ j);have g:=av.ne af bd;refine⟨s,.mk B ac,rfl,dL.le c (av.mg fA.mono (λj=>?_) bd (by show B.length<=_;omega)),⟨.of wl (by rw[aC];exact a4.2),by rw[Bk.oU];omega⟩,y.aj V _ _⟩;rcases List.mem_cons.1 j with e|e
  ·exact g e
  ·have:=bf _ e;omega
def Cl{d:List Nat}{f:I}(F:∀c∈d,c<f.size){j r:O}{h:List bO}{p:List fF}(i:dI f j r h p){W:Nat}(hW:9*W<=100000000000)(hk:vS h p True W):sY 95 [.agg #[O.v j,O.v r]] f d h λv=>vS h v True (9*W):=by
 apply vo;simp -zeta only[aE,aD];intro b U;obtain⟨z,u⟩:=dj (a:=b) (b:=U) rfl rfl;have s1:b.size=f.size+1:=by simp[b]
 clear_value U;have an:=i.gQ.len;have aC:=i.mG;refine(eV (S:=b.size::d) (bD F z.size (u _ E)) (i.le z.le).aY i.types).mono λ_ N⟨af,e,aj,A⟩=>?_;subst e;refine⟨A.de u,_,rfl,?_⟩;intro P au ac;have u2:=z.trans A;obtain⟨x5,B0,g0,s3,s5⟩:=jQ (S:=P.size::b.size::d) gK.mono (b:=N) (a:=P) (c:=au) (f:=ac) rfl rfl rfl;clear_value ac;have K:∀c∈[b.size,f.size],c<N.size:=λc a=>A.lt (u c a);have H:∀c∈b.size::d,c<N.size:=λc a=>A.lt (bD F z.size (u _ E) c a);refine jL (R:=λg o M=>∃j r v,Value.agg #[O.v g,O.v o]=.agg #[O.v j,O.v r]/\dI (bz d M) j r h v/\vS h v True (9*W)/\J f M) (t:=p.length) (m:=f) (S:=d) gK.mono bd bd F ⟨V,K _ E⟩ u2 s3 aj an V x5 B0 g0 (λ_ q=>q.params.length<=3/\q.cV.length<=3/\WB h p.length True q.params.length q.body/\q.body.w<=9*W) (λg x L y Z t o s w=>⟨g,x,L,rfl,⟨Z,t,i.types,V⟩,EQ hk.gR o s,w⟩) λaq M st L ax μ ak aA T Y B av=>?_
 obtain⟨q,hq⟩:=ag (l:=p) (k:=aq) ak;obtain⟨am,al,ap,hw⟩:=hk.dh q (ar hq);have w:=u2.trans T;obtain⟨aw,aF,s,X,c2,c3,e0,e1,e2,e3,e4⟩:=i.gQ.u hq;have G:∀{ae:Value}{s o:Nat},D f s o=some ae->D M s o=some ae:=λai=>w.D ai;refine⟨V,V,_,G e0,_,G e1,_,G e2,_,G e3,_,G e4,?_⟩;intro m7 g;have hy:=Y.aZ;have ay:=B.lt;have zM:=T.size;have Q:J M g:=(J.push M _).aj (ad _) _ _;have s8:g.size=M.size+1:=by simp[g,m7,az]
 clear_value g;have ab:∀c∈[M.size,b.size,f.size],c<g.size:=λc a=>by
  rcases List.mem_cons.1 a with e|e
  ·omega
  ·have:=K c e;omega
 have w8:=w.trans Q;have aB:=X.len;have ah:(aw.len:Int)=(q.params.length:Nat):=V;refine⟨st,(B.ext Q).cy 1,?_⟩;rw[ah];refine(Au q.body (st.F::P.size::b.size::d) g (λc a=>?_) j r s q.params.length (i.le w8.le) (c3.le w8.le) ap V V).aG (J.aC g) ab λss b' M1 ao aa y _=>⟨_,_,rfl,?_⟩
 ·simp only[aT]at a;rcases a with e|e|e|e
  ·omega
  ·omega
  ·have:=H c (by simp[e]);omega
  ·have:=H c (by simp[e]);omega
 have C:∀o,D M1 M.size o=D g M.size o:=λo=>aJ (y.same _ V) o;refine⟨C 0,C 1,C 2,C 3,C 4,aJ (y.same _ V) _,?_⟩;have x:=Q.trans y;have z1:=y.size;exact tS (S:=b.size::d) (h:=af) (x:=L) H (λc a=>by have Z:=ab c a;have t:=K c;simp only[aT]at a t;rcases a with e|e|e|e<;>first|omega|(have:=t (by simp[e]);omega)|simp at e) (T.trans x) (Y.ext gK.mono x) (B.ext x) V (X.ext (w.trans x)) (c2.ext (w.trans x)) ao ⟨V,V⟩ V λs' Z g' t x'=>av s' Z _ g' t x' ⟨am,al,aa.1,by have:=aa.2;show b'.w<=_;omega⟩
section
variable{S:List Nat}{m:I}{c:O}{l:List Instr}
def dv.le{m b:I}(h:Le m b){a:List Ce}{x:Instr}:dv m a x->dv b a x:=λ⟨c,j,d,e,f⟩=>⟨c,j,d,e.le h,f.le h⟩
def dv.mono:mD 6 dv:=⟨λh=>dv.le h,λh=>by obtain⟨_,_,rfl,_⟩:=h;rfl⟩
def eC.le{m b:I}(a:Le m b){s:O}{l:List Instr}(h:eC m s l):eC b s l:=dT.le h a λ_ _=>dv.le a
def jV.le{m b:I}(h:Le m b){a:List Ce}{x:cY}:jV m a x->jV b a x:=λ⟨d,l,c,e,f,g,i⟩=>⟨d,l,c,e,f.le h,g.le h,eC.le h i⟩
def jV.mono:mD 5 jV:=⟨λh=>jV.le h,λh=>by obtain⟨_,_,_,rfl,_⟩:=h;rfl⟩
def fW.le{m b:I}(a:Le m b){s:O}{l:List cY}(h:fW m s l):fW b s l:=dT.le h a λ_ _=>jV.le a
def SW(x:Instr)(a j:O):Value:=.agg #[vi x.op,vi x.dst,vi x.bJ,vi x.bV,O.v a,O.v j]
def ud(A:∀c∈S,c<m.size){r u:O}{x:Instr}(B:au m r x.args)(C:au m u x.dR)(h:x.args.length<=1000000000000/\x.dR.length<=1000000000000):
 aN bY 98 [SW x r u] m λK p=>∃g j,K=SW x g j/\au (bz S p) g x.args/\au (bz S p) j x.dR/\J m p:=by
 apply pF
 simp -zeta only[aE,aD]
 intro d e
 obtain⟨k,i⟩:=dj (a:=d) (b:=e) rfl rfl
 have N:d.size=m.size+1:=by simp[d]
 clear_value e
 have s:∀c∈d.size::S,c<e.size:=bD A k.size (i _ E)
 have b:∀{M q:I},J e M->J M q->∀o,D q m.size o=D M m.size o:=λy z o=>aJ (z.same _ (y.lt (i _ E))) o
 refine(bB (d.size::S) (B.ext k) h.1).aG (J.aC e) i λg _ L v l a _=>⟨_,rfl,b (J.aC _) a _,b (J.aC _) a _,b (J.aC _) a _,b (J.aC _) a _,b (J.aC _) a _,?_⟩
 subst l
 refine(bB (d.size::S) (C.ext (k.trans a)) h.2).aG a i λj _ F w l f H=>⟨_,rfl,b a f _,b a f _,b a f _,b a f _,?_⟩
 subst l
 intro G
 have t:Le (bz (d.size::S) F) (bz S G):=bS E λc n=>ah _ n
 exact⟨g,j,rfl,((v.done s h.1).le (f.cK _)).le t,(w.done (λc n=>a.lt (s c n)) h.2).le t,(k.trans H).aj V _ _⟩
def Ka(d:eC m c l)(t:Int):CJ 91 [O.v c,vi t] m:=by
 apply DU;have o:=d.len;refine dt (n:=l.length) (o▸d.gA) (λ_ _ M=>J m M) (J.aC _) ?_;rintro r L M I μ G e v
 refine⟨λh=>?_,λ_=>rN e⟩;simp only[ao]at h;obtain⟨x,p⟩:=ag (l:=l) (k:=r) V;obtain⟨A,K,b,F,B,g,C,D,f,E⟩:=(eC.ext e d).u p;have j:=b.len;refine⟨V,V,_,g,?_⟩;refine dt (n:=x.args.length) (j▸b.gA) (λ_ _ a=>J M a) (J.aC _) ?_;rintro s N z w μ2 H a u;refine⟨V,V,_,a.D f,λi=>?_,λ_=>v V _ _ (e.trans a)⟩;simp only[ao]at i;obtain⟨y,q⟩:=ag (l:=x.args) (k:=s) V;exact⟨V,V,_,a.D f,V,V,y,(b.ext a).u q,u V _ _ a⟩
structure Ms(k:Nat)(x:Instr):Prop where
 JU:x.op=22->(k:Int)<x.bJ
 arg:x.op=18\/x.op=23\/x.op=16\/x.op=17->0<x.args.length
def Po(l:List Instr):Prop:=∀(k:Nat)(x:Instr),l[k]? =some x->Ms k x
def FJ(f:eC m c l)(G:Po l){o:Int}(E:0<=o)(Oj:Int):mV 131 [O.v c,vi o,vi Oj] m:=by
 apply yF;simp -zeta only[aE,aD];have L:=f.len;have P:=f.gA;refine⟨λv _ M=>0<=v/\J m M,λv _ _=>((l.length:Int) -v).toNat,⟨E,J.aC _⟩,?_⟩;rintro v I M ⟨H,n⟩;refine⟨λh=>?_,λ_=>rA n⟩;simp only[ao]at h;obtain⟨a,p⟩:=ag (l:=l) (k:=v.toNat) V;obtain⟨d,Q,e,N,t,w,z,A,B,C⟩:=(eC.ext n f).u p;have K:=e.len;have g:=G _ a p;refine⟨H,V,_,t,_,w,_,z,_,A,_,B,_,C,?_⟩;intro R b;have j:J M b:=(J.push M _).aj (ad _) _ _;clear_value b;have u:=n.trans j;have JU:(a.op==22)=true->(0<=a.bJ/\J m b)/\((l.length:Int) -a.bJ).toNat<((l.length:Int) -v).toNat:=λh=>by
  simp only[aL]at h;have:=g.JU h;exact⟨⟨V,u⟩,V⟩
 have q:(a.op==23)=true->(0:Int)<=0/\(0:Int)<(d.len:Int)/\∃r:Int,D b d.F (d.off+Int.toNat (0:Int)*1)=some (vi r)/\∃s:Bool,vb (r==I)=.bool s/\J m b:=λh=>by
  simp only[aL]at h;have:=g.arg V;obtain⟨y,i⟩:=ag (l:=a.args) (k:=0) V;exact⟨bd,V,y,(e.ext j).u i,rA u⟩
 refine⟨λF=>?_,λ_=>⟨JU,λ_=>⟨q,λ_=>rA u⟩⟩⟩;simp only[aL]at F;have:=g.arg V;obtain⟨y,i⟩:=ag (l:=a.args) (k:=0) V;refine⟨bd,V,y,(e.ext j).u i,λ_=>?_,λ_=>⟨JU,λ_=>⟨q,λ_=>rA u⟩⟩⟩;rw[aP (x:=v+1) V V];exact⟨⟨V,u⟩,by show((l.length:Int) -(v+1)).toNat<((l.length:Int) -v).toNat;omega⟩
def HU(l b:List Instr):Prop:=b.length=l.length/\∀(k:Nat)(a:Instr),b[k]? =some a->∃x,l[k]? =some x/\(a=x\/a=⟨24,0,x.bJ,0,x.args,x.dR⟩)
def NE(l:List Instr):Prop:=∀x∈l,x.args.length<=1000000000000/\x.dR.length<=1000000000000
abbrev Ss(S:List Nat)(a m:I)(s:O)(l:List Instr):Prop:=Gr S a m dB 6 dv s l
def Hy(hS:∀c∈S,c<m.size)(g:eC m c l)(ae:Po l)(af:NE l)(hb:l.length<=1000000000000):
 aN bY 97 [O.v c] m λP N=>∃s f,P=O.v s/\Ss S m N s f/\HU l f/\J m N:=by
 apply Aw
 simp -zeta only[aE,aD]
 intro H
 have x1:J m H:=J.push _ _
 have g0:Ss S m H (.mk m.size 0 0 0) []:=Gr.new S (ad _) _ _ _
 clear_value H
 have ac:=g.len
 refine dt (n:=l.length) (ac▸g.gA) (λe s M=>J m M/\∃f,Ss S m M s f/\HU (l.take e) f) ⟨x1,[],g0,by simp[HU]⟩ ?_
 rintro e s M R μ hk ⟨r,f,B,E,F⟩ aj
 refine dit (λaa=>?_) λaa=>?_
 ·obtain⟨d,G⟩:=ag (l:=l) (k:=e) V
  obtain⟨am,ao,ha,hj,T,U,W,X,Y,Z⟩:=(eC.ext r g).u G
  have ah:=af d (ar G)
  have hy:=B.aZ
  have zM:=r.size
  have an:f.length=e:=by rw[E];simp;omega
  have ab:∀c∈s.F::S,c<M.size:=λc g=>by
   rcases List.mem_cons.1 g with v|v
   ·omega
   ·have:=hS c v;omega
  refine⟨V,V,_,T,_,U,_,W,_,X,_,Y,_,Z,?_⟩
  refine(ud ab ha hj ah).mono λP z⟨u,y,v,C,D,Q⟩=>⟨_,_,_,_,_,_,v,?_⟩
  intro m3 o
  have j:J z o:=(J.push z _).aj (ad _) _ _
  have s4:o.size=z.size+1:=by simp[o,m3,az]
  clear_value o
  have q:=Q.trans j
  have A:∀{h:I}{b:Instr},J o h->au (bz (s.F::S) h) u b.args->au (bz (s.F::S) h) y b.dR->(b=d\/b=⟨24,0,d.bJ,0,d.args,d.dR⟩)->
   iP (h.push (.cells (br [.i b.op,.i b.dst,.i b.bJ,.i b.bV,.s u,.s y]) dB)) dB [.i 0,.i 0,.i 0,.i 0,.s .nil,.s .nil] 80 s (.mk h.size 0 1 1) λK t=>dV [z.size] (h.push (.cells (br [.i b.op,.i b.dst,.i b.bJ,.i b.bV,.s u,.s y]) dB)) t/\R K (cO ((e:Int)+1)) t/\μ K (cO ((e:Int)+1)) t<μ s e M:=λ{h b} xx h1 h2 h3=>by
   have z4:=q.size
   have zx:=xx.size
   refine Gr.jN (f:=[.i 0,.i 0,.i 0,.i 0,.s .nil,.s .nil]) (j:=b) dv.mono bd (B.ext dv.mono (q.trans xx)) ((r.trans (q.trans xx)).fz []) ⟨u,y,rfl,h1,h2⟩ V λK t g3 f3 z3 q3=>⟨λc g=>?_,aj V _ _ ⟨f3.ext,_,g3,bF,λw ak i=>?_⟩⟩
   ·have p:=Q.size
    simp at g;subst g
    rw[q3 _ V V,(J.push h _).same _ V]
   ·rcases aX w f.length with p|p
    ·rw[aw p]at i
     obtain⟨al,L,ai⟩:=F w ak i
     rw[di V]at L⊢
     exact⟨al,L,ai⟩
    ·rw[aF p]at i
     have:w -f.length=0:=by have:=ax i;simp at this;omega
     rw[this]at i;simp at i;subst i
     have:w=e:=V
     subst this
     exact⟨d,by rw[di V];exact G,h3⟩
  have z4:=q.size
  refine⟨λh9=>?_,λ_=>?_⟩
  ·rw[aP (x:=(e:Int)+1) V V]
   refine(FJ (eC.ext (r.trans q) g) ae V d.dst).aG (J.aC o) bF λai L p _=>⟨_,rfl,λ_=>?_,λ_=>?_⟩
   ·intro m6
    have:=A (b:=⟨24,0,d.bJ,0,d.args,d.dR⟩) p ((C.le (j.cK _)).le (p.cK _)) ((D.le (j.cK _)).le (p.cK _)) (Or.inr rfl)
    rw[aP (x:=(e:Int)+1) V V]at this
    exact this
   ·intro m6
    have:=A (b:=d) p ((C.le (j.cK _)).le (p.cK _)) ((D.le (j.cK _)).le (p.cK _)) (Or.inl rfl)
    rw[aP (x:=(e:Int)+1) V V]at this
    exact this
  ·intro L
   exact A (b:=d) (J.aC _) (C.le (j.cK _)) (D.le (j.cK _)) (Or.inl rfl)
 ·rw[cE V]at E F
  exact⟨s,f,rfl,B,⟨E,F⟩,r⟩
end
section
variable{b:List cY}
structure Qb(p:cY):Prop where
 params:p.params.length<=3
 cV:p.cV.length<=3
 gR:0<p.cG.length
 mG:p.cG.length<=1000000000000
 cG:Po p.cG
 iN:NE p.cG
structure Bf(b:List cY):Prop where
 gR:0<b.length
 mG:b.length<=4
 dh:∀p∈b,Qb p
def ND(f:Nat)(c:List Value)(m:I)(S:List Nat)(e:List bO)(Q:List cY->Prop):Prop:=aN bY f c m λv a=>∃d p b,v=.agg #[O.v d,O.v p]/\bR (bz S a) d e/\fW (bz S a) p b/\Q b/\J m a
def HU.ok{l d:List Instr}(h:HU l d)(g:Po l)(f:NE l):Po d/\NE d:=by
 obtain⟨j,e⟩:=h;refine⟨λk a c=>?_,λa c=>?_⟩
 ·obtain⟨x,b,rfl|rfl⟩:=e k a c
  ·exact g k a b
  ·exact⟨λh=>by simp at h,λh=>by simp at h⟩
 ·obtain⟨k,i⟩:=List.mem_iff_getElem?.1 c;obtain⟨x,b,rfl|rfl⟩:=e k a i
  ·exact f a (ar b)
  ·exact f x (ar b)
def Sc{a:List cY}(h:Bf b)(f:a.length=b.length)(c:∀(i:Nat)(q:cY),a[i]? =some q->Qb q):Bf a:=
 ⟨by have:=h.gR;omega,by have:=h.mG;omega,λq e=>by obtain⟨i,d⟩:=List.mem_iff_getElem?.1 e;exact c i q d⟩
def FO{d:List Nat}{p:I}(Y:∀c∈d,c<p.size){A B:O}{C:List bO}(hd:bR p A C)(ht:dx C)(hp:fW p B b)(aa:Bf b):ND 63 [.agg #[O.v A,O.v B]] p d C Bf:=by
 apply yK;simp -zeta only[aE,aD];intro f a2;obtain⟨Q,L⟩:=dj (a:=f) (b:=a2) rfl rfl;have s1:f.size=p.size+1:=by simp[f]
 clear_value a2;have av:=hp.len;have aM:=aa.mG;refine(eV (S:=f.size::d) (bD Y Q.size (L _ E)) (hd.le Q.le) ht).mono λ_ ac⟨dd,e,ap,T⟩=>?_;subst e;refine⟨T.de L,_,rfl,?_⟩;intro q ax al;have u2:=Q.trans T;obtain⟨x5,B0,g0,s3,s5⟩:=jQ (S:=q.size::f.size::d) jV.mono (b:=ac) (a:=q) (c:=ax) (f:=al) rfl rfl rfl;clear_value al;have Z:∀c∈[f.size,p.size],c<ac.size:=λc g=>T.lt (L c g);have ai:∀c∈f.size::d,c<ac.size:=λc g=>T.lt (bD Y Q.size (L _ E) c g);refine jL (R:=λj o M=>∃A B h,Value.agg #[O.v j,O.v o]=.agg #[O.v A,O.v B]/\bR (bz d M) A C/\fW (bz d M) B h/\Bf h/\J p M) (t:=b.length) (m:=p) (S:=d) jV.mono bd bd Y ⟨V,Z _ E⟩ u2 s3 ap av V x5 B0 g0 (λ_ t=>Qb t) (λh r' ak m' h1 H j o r=>⟨h,r',ak,rfl,h1,H,Sc aa j o,r⟩) λaw M u ak aG μ aq aK xM ah U ay=>?_
 obtain⟨t,hq⟩:=ag (l:=b) (k:=aw) aq;have v:=aa.dh t (ar hq);have q3:=v.params;have q4:=v.cV;have qf:=v.mG;have qs:=v.gR;have v6:=u2.trans xM;obtain⟨aH,r,c,c1,c2,c3,e0,e1,e2,e3,e4⟩:=hp.u hq;have G:∀{ae:Value}{r x:Nat},D p r x=some ae->D M r x=some ae:=λF=>v6.D F;refine⟨V,V,_,G e0,_,G e1,_,G e2,_,G e3,_,G e4,?_⟩;intro m7 o;have hy:=ah.aZ;have aI:=U.lt;have zM:=xM.size;have x8:J M o:=(J.push M _).aj (ad _) _ _;have s8:o.size=M.size+1:=by simp[o,m7,az]
 clear_value o;have N:∀c∈[M.size,f.size,p.size],c<o.size:=λc g=>by
  rcases List.mem_cons.1 g with e|e
  ·omega
  ·have:=Z c e;omega
 have w8:=v6.trans x8;have K:∀{M':I},o.size<=M'.size->∀c∈u.F::q.size::f.size::d,c<M'.size:=λF c g=>by
  simp only[aT]at g;rcases g with e|e|e|e
  ·omega
  ·omega
  ·have:=ai c (by simp[e]);omega
  ·have:=ai c (by simp[e]);omega
 have h:∀{W M2:I},J o W->J W M2->∀r,r<o.size->∀x,D M2 r x=D W r x:=λF h' r hb x=>aJ (h'.same r (F.lt hb)) x;have s:M.size<o.size:=V;have i2:q.size<o.size:=V;refine⟨u,(U.ext x8).cy 1,?_⟩;refine(bB (u.F::q.size::f.size::d) (c1.ext w8) V).aG (J.aC o) N λa' _ m9 ga e j _=>⟨_,rfl,h (J.aC _) j _ s _,h (J.aC _) j _ s _,h (J.aC _) j _ s _,h (J.aC _) j _ s _,h (J.aC _) j _ i2 _,?_⟩;subst e;refine(bB (u.F::q.size::f.size::d) (c2.ext (w8.trans j)) V).aG j N λb' _ aN gb e z y=>⟨_,rfl,h j z _ s _,h j z _ s _,h j z _ s _,h j z _ i2 _,?_⟩;subst e;have z9:=j.size;have vP:=z.size;have aF:=w8.trans y;refine(Hy (S:=u.F::q.size::f.size::d) (K V) (eC.ext aF c3) v.cG v.iN qf).mono λae ab⟨X,P,e,gc,aj,w⟩=>⟨λc g=>w.same c (y.lt (N c g)),X,e,h y w _ s _,h y w _ s _,h y w _ i2 _,?_⟩;intro aO;have aC:=y.trans w;have af:=x8.trans aC;have aP:=w.size;obtain⟨aA,aB⟩:=aj.ok v.cG v.iN;have aL:=aj.1;have am:au (bz (u.F::q.size::f.size::d) ab) a' t.params:=(ga.done (K V) V).le ((z.trans w).cK _);have an:au (bz (u.F::q.size::f.size::d) ab) b' t.cV:=(gb.done (K V) V).le (w.cK _);have ao:eC (bz (u.F::q.size::f.size::d) ab) X P:=gc.done dv.mono (K V) bd V;exact Gr.box (f:=[.s .nil,.s .nil,.i 0,.i 0,.s .nil]) (j:=1) (h:=88) (o:=[.s dd,.s u]) (y:=⟨t.params,t.cV,t.aR,t.av,P⟩) jV.mono bd (ah.ext jV.mono af) ((xM.trans af).fz []) ⟨a',b',X,rfl,am,an,ao⟩ V (U.ext af) E bd ⟨V,E⟩ (λc g=>by have h1:=N c g;have H:=Z c;simp only[aT]at g H;rcases g with e|e|e|e<;>first|omega|(have:=H (by simp[e]);omega)|simp at e) λr' m' g' H f' z' q'=>ay r' m' _ g' H f'.ext ⟨q3,q4,by show 0<P.length;omega,by show P.length<=_;omega,aA,aB⟩
end
end Go.Proofs.YtakpkjhmbbfniaaGreat
