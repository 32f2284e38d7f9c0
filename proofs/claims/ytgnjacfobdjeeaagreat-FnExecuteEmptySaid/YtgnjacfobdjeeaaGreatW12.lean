/- Part of a proof, joined by a program. -/
import Derived.Test.YtgnjacfobdjeeaaGreatW11
set_option linter.unusedVariables false
set_option linter.unusedSimpArgs false
set_option linter.defProp false
set_option linter.constructorNameAsVariable false
set_option maxHeartbeats 8000000
set_option maxRecDepth 100000
namespace Go.Proofs.YtgnjacfobdjeeaaGreat
open Go.Vc
section
variable{M:I}
def MN(a:Nat->Nat)(m:I):List Nat:=(List.range m.size).filter λb=>a b≠0
def Pe(c:Nat->Nat)(m:I):∀b∈MN c m,b<m.size:=λb a=>by simp[MN]at a;exact a.1
def RB{d:Nat->Nat}{m a:I}(fX:∀b,b<a.size->d b=0)(e:J a M):Le a (bO (MN d m) M):=
 (zJ a).trans (e.bO λb c=>Or.inr (by
  simp[MN]at c;exact vg λh=>c.2 (fX b h)))
def dv.ZB{a l:Nat->Nat}{m f:I}(h:To a f l M)(k:∀b,m.size<=b->a b=0):Le (bO (MN a m) f) M:=λb o v j=>by
 obtain⟨d,e⟩:=eg.1 j;have i:=nF e;have g:a b=0:=by
  rcases be b m.size with c|c
  ·simp[MN]at d;exact d c
  ·exact k b c
 rw[aN (h.dW b i (by simp[g]))];exact e
def QC(c:List bB)(h:List gC)(i:Prop)(b:Bk):Prop:=∀(e:Nat->Nat)(m a:I)(d:Nat)(l:Nat->O)(L:Nat->List Int)(n k:Nat)(g r t:O),J a m->(∀b,b<a.size->e b=0)->jb e m d l L->se c n L->WB c h.length i n b->n+4*b.w<=1000000000000->k<=n->eD a g r c h->eI a t b.aA->
 aO cw 324 [vp d 0,.agg #[O.v g,O.v r],.agg #[O.v t,vi b.aV],vi k] m (Bw e m d λf=>(∀j,j<6->(f j).length=k)/\(f 6).length<=1000000000000)
def V3(m:I)(n:Nat)(v:Value)(c:I):Prop:=∃(a:Nat)(d:Bool),v=.tuple #[vp a 0,vb d]/\J m c/\(d=true->∃e f L,(∀b,b<m.size->e b=0)/\jb e c a f L/\∀j,j<6->(L j).length=n)
def pV.same{c:List bB}{n b:Nat}{L a:Nat->List Int}(h:pV c n b L)(e:∀k,k<7->a k=L k):pV c n b a:=
 ⟨λk d=>by rw[e k V];exact h.len k d,by rw[e 2 bh];exact h.Wm,by rw[e 3 bh,e 4 bh];exact h.Of,by rw[e 6 bh];exact h.cJ⟩
section
variable{p:Nat->Nat}{m g:I}{j:Nat}{f:Nat->O}{L:Nat->List Int}{e:List bB}{h:List gC}{b:Nat}{d r a o:O}{x:cR}{c:Prop}
def Qu(hx:J g m)(aG:jb p m j f L)(hi:se e b L)(Q:eD g d r e h)(ha:ap g a x.args)(hk:nD g o x.bE)(hw:WS e h.length c b x)(u:b+4*x.w<=1000000000000){ac:Nat}{q:Bk}(ab:x.bE[ac]? =some q)(ih:QC e h c q):
 aO cw 305 [vp j 0,.agg #[O.v d,O.v r],oW x a o,vi ac] m (V3 m b):=by
 apply yJ (j,0)
 simp -zeta only[aD,aC,cC]
 intro K E
 obtain⟨x2,hl⟩:=dG (a:=K) (c:=E) rfl rfl
 clear_value E
 clear_value K
 have h2:=aG.ext x2
 have aq:=hi.len
 have l0:=h2.len (k:=0) bh
 have n0:=aq 0 bh
 have aZ:=ax ab
 have a0:=hk.len
 have aY:=wH ab
 have a3:=cR.mf x
 have Z:=hw.bE ac q ab
 have z:=hx.trans x2
 obtain⟨ah,ht,f0,f1⟩:=hk.E ab
 refine⟨_,h2.cp (k:=0) bh,?_⟩
 refine(LY h2 (λw hj=>by
  by_cases B:w<6
  ·rw[aq w B];omega
  ·have:w=6:=V;subst this;exact hi.cJ)).mono λv m3⟨D,A,H,N,aS,t,s,h3,y⟩=>⟨H.Uq hl (J.aB _)|>λ_=>λq u=>H.same q (hl q u),(D,0),A,?_⟩
 have S:se e b t:=hi.same y
 have al:Gy E [K.size,m.size] N m3:=⟨H,s,λq u=>⟨H.lt (hl q u),s q (hl q u)⟩⟩
 have ic:∀(M:I)(ad:Nat->Nat)(aj:Nat->O)(Y:Nat->List Int)(F:Nat),Gy E [K.size,m.size] ad M->jb ad M D aj Y->se e F Y->WB e h.length c F q->F<=b+3->b<=F->
  aO cw 324 [vp D 0,.agg #[O.v d,O.v r],.agg #[O.v ah,vi q.aV],vi ((f 0).len:Int)] M λv m'=>eE [K.size,m.size] M m'/\∃T:Bool,v=vb T/\V3 m b (.tuple #[vp D 0,vb T]) m':=λM ad aj Y F W aB ao aH a2 aI=>by
  have e0:(f 0).len=b:=V
  rw[e0]
  refine(ih ad M E D aj Y F b d r ah W.ext W.fX aB ao aH V aI (Q.le z.le) (ht.le z.le)).mono λv m'⟨T,G,A,c5,P⟩=>⟨W.dm c5,T,A,D,T,rfl,x2.trans (W.to c5).ext,λaK=>?_⟩
  obtain⟨U,X,B,h7,_⟩:=P aK
  exact⟨G,U,X,λq u=>(W.to c5).fX q (x2.lt u),B,h7⟩
 refine⟨λC=>?_,λC=>?_⟩
 ·simp only[aF]at C
  have ay:=Q.aT.le z.le
  obtain⟨aX,_⟩:=hw.eR.all C
  refine(gU (Pe N m3) (ay.le H.le) Q.types x.bN).mono λv m4⟨s4,l4,A,aL,e4,x4⟩=>⟨λq u=>x4.same q (al.box q u).1,s4,A,?_⟩
  subst e4
  obtain⟨s,aw⟩:=ag (l:=cq e x.bN) (k:=ac) V
  have az:=aL.le (bD _ _)
  have l4:=az.len
  refine⟨V,V,s,az.E aw,?_⟩
  have ae:=al.iV x4
  have h4:=h3.ext x4
  refine(dH (Pe N m4) (ay.le (RB ae.fX ae.ext)) Q.types s).mono λv m5⟨s5,l5,A,aA,e5,x5⟩=>⟨λq u=>x5.same q (ae.box q u).1,s5,A,?_⟩
  subst e5
  have am:=ae.iV x5
  have P:=h4.ext x5
  have aV:=hw.eR.kK (Or.inr (Or.inr C))
  obtain⟨y,hy⟩:=ag (l:=x.args) (k:=0) V
  obtain⟨y0,y1⟩:=hw.eR.args y (ar hy)
  have aW:=ha.len
  have N5:=S.len
  have a4:=P.len (k:=3) bh
  have F:=N5 3 bh;have n4:=N5 4 bh
  have ai:∀{M:I},J E M->af M a.F (a.off+Int.toNat (0:Int)*1)=some (vi y):=λxx=>(ha.ext (z.trans xx)).E hy
  obtain⟨w6,B,c6⟩:=P.put (k:=3) (i:=y.toNat) bh V s
  refine⟨_,P.cp (k:=3) bh,V,V,y,ai am.ext,y0,V,w6,?_⟩
  intro m6
  have an:=am.to c6
  obtain⟨w7,h7,c7⟩:=B.put (k:=4) (i:=y.toNat) bh (by show _<(t 4).length;omega) ((f 0).len:Int)
  have aM:=B.len (k:=4) bh
  have aE:up t 3 ((t 3).set y.toNat s) 4=t 4:=rfl
  rw[aE]at aM
  refine⟨am.dm c6,_,B.cp (k:=4) bh,V,V,y,ai an.ext,y0,V,w7,?_⟩
  intro m7
  have aU:=an.to c7
  have F3:=EX Q.types s
  have e0:((f 0).len:Int)=b:=V
  have i7:pV e b (b+(cD e s).length) (up (up t 3 ((t 3).set y.toNat s)) 4 ((t 4).set y.toNat ((f 0).len:Int))):=by
   refine⟨λw hj=>?_,λv aP hp=>?_,λv c au hc hf h1=>?_,by simpa[up]using S.cJ⟩
   ·rcases w with _|_|_|_|_|_|w<;>first|omega|(simp[up,N5])
   ·exact S.Wm v aP (by simpa[up]using hp)
   ·have R:((t 3).set y.toNat s)[v]? =some c:=by simpa[up]using hc
    have aa:((t 4).set y.toNat ((f 0).len:Int))[v]? =some au:=by simpa[up]using hf
    by_cases ev:y.toNat=v
    ·subst ev;rw[dE V]at R aa;simp at R aa;subst R;omega
    ·rw[cy ev]at R aa;have:=S.Of v c au R aa h1;omega
  have a1:=aA.len
  refine⟨an.dm c7,?_⟩
  refine eU (n:=(cD e s).length) V (λw M=>∃G U X,pV e (b+w) (b+(cD e s).length) X/\To N m5 G M/\Gy E [K.size,m.size] G M/\jb G M D U X) ⟨N,_,_,i7,c6.trans c7,aU,h7⟩ ?_
  rintro w M ao μ hj ⟨aR,aT,L8,i8,c8,D,av⟩ aN
  refine dit (λaJ=>?_) λaJ=>?_
  ·obtain⟨aa,hz⟩:=ag (l:=cD e s) (k:=w) V
   refine⟨V,V,aa,(aA.le (c8.ZB h4.new)).E hz,V,V,y,ai D.ext,?_⟩
   exact(An av (λaQ R=>by rw[i8.len aQ R];omega) aa 0 y).mono λv M'⟨G,U,R,h9⟩=>⟨D.dm R,aN V _ ⟨G,U,_,by rw[<-df];exact i8.Nw aa 0 V,c8.trans R,D.to R,h9⟩⟩
  ·have R:w=(cD e s).length:=V
   subst R
   rw[JU C aw]at Z
   exact⟨V,V,ah,(z.trans D.ext).af f0,q.aV,(z.trans D.ext).af f1,ic M aR aT L8 _ D av i8 Z V V⟩
 ·simp only[ak]at C
  rw[JV C]at Z
  exact⟨V,V,ah,(z.trans H).af f0,q.aV,(z.trans H).af f1,ic m3 N aS t b al h3 S Z V V⟩
end
end
section
def _root_.Go.Vc.U9{n c:Nat}(j:c<=n)(p:n<=9223372036854775807){m:I}{f:(Int->I->Prop)->(Int->I->Nat)->Int->I->Prop}(Q:Nat->I->Prop)(g:Q c m)
 (h:∀(k:Nat)(a:I)(b:Int->I->Prop)(μ:Int->I->Nat),c<=k->k<=n->Q k a->
  (k<n->∀d,Q (k+1) d->b (cW ((k:Int)+1)) d/\μ (cW ((k:Int)+1)) d<μ k a)->f b μ k a):
 ∃(b:Int->I->Prop)(μ:Int->I->Nat),b c m/\∀i a,b i a->f b μ i a:=by
 refine⟨λi d=>∃k:Nat,i=k/\c<=k/\k<=n/\Q k d,λi _=>(n -i).toNat,⟨c,rfl,ad _,j,g⟩,?_⟩
 rintro i a ⟨k,rfl,l,o,q⟩
 refine h k a _ _ l o q λe d r=>?_
 rw[ka e p]
 exact⟨⟨k+1,rfl,V,e,r⟩,Fp e⟩
section
variable{b:Nat->Nat}{m f:I}{e:Nat}{p:Nat->O}{L:Nat->List Int}{g:List bB}{o:List gC}{h:Nat}{d r i j:O}{x:cR}{c:Prop}
def LV(hx:J f m)(fX:∀q,q<f.size->b q=0)(u:jb b m e p L)(hi:se g h L)(hN:eD f d r g o)(ha:ap f i x.args)(hk:nD f j x.bE)(Q:WS g o.length c h x)(s:h+4*x.w<=1000000000000)(ax:x.op=7\/x.op=8)(ih:∀q∈x.bE,QC g o c q):
 aO cw 265 [vp e 0,.agg #[O.v d,O.v r],oW x i j] m (Bw b m e (se g h)):=by
 apply uV (e,0)
 simp -zeta only[aD,aC,cC]
 intro Y K
 have st:=Gy.Sg (a:=Y) (g:=K) hx fX u.new rfl rfl
 obtain⟨R,E⟩:=dG (a:=Y) (c:=K) rfl rfl
 clear_value K
 clear_value Y
 have aq:=hk.len
 have aJ:=ha.len
 have aH:=Q.eR.kK V
 have av:0<x.bE.length:=by
  rcases ax with W|h8
  ·have:=Q.eR.JA W;omega
  ·exact(Q.eR.all h8).2
 have P:∀{M:I},J K M->To b m b M:=λA=>dv.eN _ (R.trans A) u.new
 have ai:∀(M:I)(H:Nat)(q:Bk),J K M->x.bE[H]? =some q->aO cw 305 [vp e 0,.agg #[O.v d,O.v r],oW x i j,vi H] M (V3 M h):=λM H q A aj=>
  Qu (hx.trans (R.trans A)) (u.ext (R.trans A)) hi hN ha hk Q s aj (ih q (ar aj))
 refine⟨λM=>J K M,⟨λ_=>?_,λ_=>J.aB _⟩,?_⟩
 ·obtain⟨y,v⟩:=ag (l:=x.args) (k:=0) V
  obtain⟨z,B⟩:=Q.eR.args y (ar v)
  refine⟨bh,V,y,(ha.ext st.ext).E v,?_⟩
  exact(sE (u.ext R) hi V z B).mono λaa Z⟨q,t,w⟩=>⟨λq s=>w.same q (E q s),q,t,λ_=>.no (P w),λ_=>w⟩
 ·intro Z w
  obtain⟨b0,an⟩:=ag av
  refine(ai Z 0 b0 w an).mono λaa m4⟨ad,aB,t,S,h1⟩=>⟨λq s=>S.same q (w.lt (E q s)),(ad,0),aB,t,λ_=>.no (P (w.trans S)),λac=>?_⟩
  obtain⟨aF,ah,L1,ak,h1,n1⟩:=h1 (by simpa using ac)
  have u4:=w.trans S
  have ay:=n1 1 bh;have az:=n1 5 bh
  refine U9 (n:=x.bE.length) (c:=1) V (aq▸hk.fS) (λ_ M=>J m4 M) (J.aB _) ?_
  rintro H M aG μ aI aK T aA
  have z:=u4.trans T
  have B:=h1.ext T
  refine⟨λX=>?_,λX=>?_⟩
  ·simp only[au]at X
   obtain⟨q,s⟩:=ag (l:=x.bE) (k:=H) V
   refine(ai M H q z s).mono λaa m6⟨ab,al,t,v,D⟩=>⟨λq s=>v.same q (z.lt (E q s)),(ab,0),al,t,λ_=>.no (P (z.trans v)),λac=>?_⟩
   obtain⟨aM,aQ,L2,aL,D,n2⟩:=D (by simpa using ac)
   have am:=n2 1 bh;have aw:=n2 5 bh
   have C:=B.ext v
   refine⟨_,C.cp (k:=1) bh,_,D.cp (k:=1) bh,?_⟩
   refine(qx (C.mZ (k:=1) bh V) (D.mZ (k:=1) bh V)).mono λaa m7⟨F,t,_,y⟩=>⟨λq s=>y.same q (v.lt (z.lt (E q s))),F,t,λ_=>.no (P (z.trans (v.trans y))),λ_=>?_⟩
   have U:=C.ext y
   have W:=D.ext y
   refine⟨_,U.cp (k:=5) bh,_,W.cp (k:=5) bh,?_⟩
   refine(qx (U.mZ (k:=5) bh V) (W.mZ (k:=5) bh V)).mono λaa m8⟨F,t,_,N⟩=>⟨λq s=>N.same q (y.lt (v.lt (z.lt (E q s)))),F,t,λ_=>.no (P (z.trans (v.trans (y.trans N)))),λ_=>?_⟩
   exact aA V _ (T.trans (v.trans (y.trans N)))
  ·let y:Nat->Nat:=λq=>if q<Z.size then b q else aF q
   have uu:=R.trans w
   have A:=uu.trans (S.trans T)
   have z4:=S.size;have zM:=T.size;have U:=uu.size
   have N:∀q,q<Z.size->y q=b q:=λq s=>ao s
   have H0:jb y M e p L:=by
    have am:=u.ext A;refine⟨λq s=>?_,by rw[N _ (aP u.box.lt U)];exact u.iW,am.box,λv F=>(u.pS v F).dW (λC=>A.same _ ((u.pS v F).F C).1) λC=>N _ (aP ((u.pS v F).F C).1 U)⟩;simp only[y];rw[ae V];exact B.new q s
   have ab:∀v,v<7->gY y M aE 1 (v+1) (ah v) ((L1 v).map Ce.i):=λv F=>(B.pS v F).dW (λ_=>rfl) λC=>by
    have D:=((B.pS v F).F C).2;simp only[y];rw[ae λX=>by rw[ak _ X]at D;omega]
   have c3:To b m y M:=⟨A.size,λq s=>N q (aP s U),H0.new,λq s _=>A.same q s⟩
   have al:Gy f [Y.size,m.size] y M:=⟨st.ext.trans z,λq s=>by rw[N q (aP (aP s hx.size) U)];exact fX q s,λq s=>⟨z.lt (E q s),by rw[N q (w.lt (E q s))];exact(st.box q s).2⟩⟩
   clear_value y
   refine⟨_,B.cp (k:=1) bh,?_⟩
   obtain⟨w5,h5,c5⟩:=H0.Wn (k:=1) bh (ab 1 bh)
   refine⟨w5,?_⟩
   intro m9
   have aw:ad≠e:=λt=>by
    have h8:=B.iW;rw[t,ak _ (aP u.box.lt U)]at h8;omega
   have G:af m9 ad 5=some (O.v (ah 5)):=(aN (bd _ _ _ _ aw) _).trans (B.cp (k:=5) bh)
   have A5:gY y m9 aE 1 (5+1) (ah 5) ((L1 5).map Ce.i):=by
    refine(ab 5 bh).dW (λC=>bd _ _ _ _ λt=>?_) λ_=>rfl;have:=((ab 5 bh).F C).2;rw[t,H0.iW]at this;omega
   obtain⟨w6,h6,c6⟩:=h5.Wn (k:=5) bh A5
   exact⟨al.dm c5,_,G,w6,(al.to c5).dm c6,.Oh ((c3.trans c5).trans c6) h6 ((hi.aR ay).ZY az)⟩
end
end
section
section
variable{b:Nat->Nat}{m g:I}{f:Nat}{o:Nat->O}{L:Nat->List Int}{e:List bB}{h:List gC}{n:Nat}{d r a j:O}{x:cR}{c:Prop}
def FV(hx:J g m)(fX:∀p,p<g.size->b p=0)(ab:jb b m f o L)(z:se e n L)(W:eD g d r e h)(E:ap g a x.args)(hk:nD g j x.bE)(F:WS e h.length c n x)(v:n+4*x.w<=1000000000000)(ih:∀p∈x.bE,QC e h c p):
 aO cw 242 [vp f 0,.agg #[O.v d,O.v r],oW x a j] m (Bw b m f (se e (n+dn x))):=by
 apply xg (f,0)
 simp -zeta only[aD,aC,cC]
 intro S Y
 have T:=Gy.Sg (a:=S) (g:=Y) hx fX ab.new rfl rfl
 have x2:J m Y:=(dG (a:=S) (c:=Y) rfl rfl).1
 clear_value Y
 clear_value S
 have h2:=ab.ext x2
 have au:=E.len
 have av:=cR.mf x
 have N0:=z.len 0 bh
 refine⟨_,h2.cp (k:=0) bh,?_⟩
 refine(nW (W.le T.ext.le) (h2.mZ (k:=0) bh V) (E.ext T.ext) (hk.le T.ext.le) V (λp _=>na p)).mono λB m3⟨G,u,_,x3⟩=>⟨λp v=>x3.same p (T.box p v).1,G,u,?_⟩
 have t:=T.iV x3
 have D:=h2.ext x3
 have Q:To b m b m3:=dv.eN _ (x2.trans x3) ab.new
 have kK:14<=x.op\/x.op=7\/x.op=8->∃y:Int,x.args[0]? =some y/\0<=y/\y<(n:Int):=λho=>by
  have:=F.eR.kK ho;obtain⟨y,N⟩:=ag (l:=x.args) (k:=0) V;exact⟨y,N,F.eR.args y (ar N)⟩
 refine⟨λok M=>∃w,To b m w M/\Gy g [S.size,m.size] w M/\(ok=true->∃aa P,jb w M f aa P/\se e n P),⟨λak=>?_,λaw=>⟨λal=>?_,λax=>⟨λam=>?_,λay=>⟨λh7=>?_,λn7=>?_⟩⟩⟩⟩,?_⟩
 ·simp only[aF]at ak
  obtain⟨y,N,C,Z⟩:=kK V
  have ad:=F.eR.kK V
  have X:∀{M:I},J g M->af M a.F (a.off+Int.toNat (0:Int)*1)=some (vi y):=λU=>(E.ext U).E N
  refine⟨bh,V,y,X t.ext,?_⟩
  refine(sE D z V C Z).mono λB H⟨p,u,s⟩=>⟨λp v=>s.same p (t.box p v).1,p,u,?_⟩
  have q:=D.ext s
  have A:=t.iV s
  have N1:=z.len 1 bh
  have l1:=q.len (k:=1) bh
  obtain⟨ac,ah⟩:=ag (l:=L 1) (k:=y.toNat) V
  obtain⟨wr,R,K⟩:=q.put (k:=1) (i:=y.toNat) bh V (cW (ac+1))
  exact⟨_,q.cp (k:=1) bh,bh,V,y,X A.ext,_,q.cp (k:=1) bh,bh,V,y,X A.ext,C,V,ac,q.E bh V ah,C,V,wr,A.dm K,b,(Q.trans (dv.eN _ s D.new)).trans K,A.to K,λ_=>⟨o,_,R,z.aR (by simp[N1])⟩⟩
 ·simp only[aF]at al
  obtain⟨y,N,C,Z⟩:=kK V
  have ad:=F.eR.kK V
  refine⟨bh,V,y,(E.ext t.ext).E N,?_⟩
  refine(uA D z V C Z).mono λB H⟨p,w,u,s,q⟩=>⟨t.dm s,p,u,w,Q.trans s,t.to s,λv=>?_⟩
  obtain⟨aa,P,R,ac,X,rfl⟩:=q v
  exact⟨aa,_,R,z.aR X⟩
 ·simp only[bT,aF]at am
  refine(Pn t.ext t.fX D z V W E F.eR V).mono λB H⟨p,w,u,s,q⟩=>⟨t.dm s,p,u,w,Q.trans s,t.to s,q⟩
 ·simp only[bT,aF]at h7
  refine(LV t.ext t.fX D z W E hk F v h7 ih).mono λB H⟨p,w,u,s,q⟩=>⟨t.dm s,p,u,w,Q.trans s,t.to s,q⟩
 ·refine(Jb t.ext t.fX D z V W E F.eR).mono λB H⟨p,w,u,s,q⟩=>⟨t.dm s,p,u,w,Q.trans s,t.to s,q⟩
 ·rintro ok M ⟨az,s,A,q⟩
  refine⟨λ_=>.no s,λaq=>?_⟩
  obtain⟨aA,L4,q,i4⟩:=q (by simpa using aq)
  have gr:∀{M':I}(G Z:Int),J M M'->dn x=1->aO cw 262 [vp f 0,vi G,vi Z,vi (-1:Int)] M' λ_ m'=>eE [S.size,m.size] M' m'/\Bw b m f (se e (n+dn x)) (vb true) m':=λG Z U hd=>
   (An (q.ext U) (λH C=>by rw[i4.len H C];omega) G Z (-1)).mono λ_ m'⟨w,aa,K,R⟩=>⟨(A.iV U).dm K,.Oh ((s.trans (dv.eN _ U q.new)).trans K) R (by rw[hd];exact(i4.Nw G Z V).CY V)⟩
  refine(jH x.op M).mono λB m5⟨p,u,ac,C⟩=>⟨λp v=>C.same p (A.box p v).1,p,u,λai=>⟨λ_=>?_,λ_=>?_⟩,λan=>?_⟩
  ·exact gr G 1 C (by have:=sR x p ac;rw[ao ai]at this;exact this)
  ·refine(jH x.op m5).mono λB m6⟨P,u,X,H⟩=>⟨λp v=>H.same p (C.lt (A.box p v).1),P,u,λah=>?_,λad=>?_⟩
   ·exact gr 0 0 (C.trans H) (by have:=sR x P X;rw[ao ah]at this;exact this)
   ·have:=X.2 (ac.1 ai);rw[this]at ad;simp at ad
  ·have aj:=sR x p ac
   rw[ae (by simp[an])]at aj
   refine(jH x.op m5).mono λB m6⟨P,u,X,H⟩=>⟨λp v=>H.same p (C.lt (A.box p v).1),P,u,λah=>?_,λad=>?_⟩
   ·exact gr 0 0 (C.trans H) (by have:=sR x P X;rw[ao ah]at this;exact this)
   ·exact .Oh (s.trans (dv.eN _ (C.trans H) q.new)) (q.ext (C.trans H)) (by rw[aj];exact i4)
end
def Mc{C:List bB}{rs:List gC}{I:Prop}:∀b:Bk,QC C rs I b:=by
 refine Bk.ind ?_;intro aA ae ih s q mb F sl L ac E ai ap av hx fX u U ab p hk R y;simp only[Bk.jN,Bk.jd,Bk.qA]at*;apply wc (F,0);simp -zeta only[aD,aC,cC];intro r o;have st:=Gy.Sg (a:=r) (g:=o) hx fX u.new rfl rfl;have G:J q o:=(dG (a:=r) (c:=o) rfl rfl).1;have K:To s q s o:=dv.eN _ G u.new;clear_value o;clear_value r;obtain⟨D,z,r1⟩:=ab.aW;simp only[Bk.jN,Bk.jd]at D z r1;have aa:=y.len;have Z:=AZ aA;refine eU (n:=aA.length) (aa▸y.fS) (λi M=>∃g t h,se C (ac+dc (aA.take i)) h/\To s q g M/\Gy mb [r.size,q.size] g M/\jb g M F t h) ⟨s,sl,L,by simpa using U,K,st,u.ext G⟩ ?_;rintro i M af μ ak ⟨aq,au,H,f,j,c,d⟩ ad
 have aj:=sP (aA.take i);have al:=qC i aA;have am:=fO (aA.take i);refine dit (λY=>?_) λY=>?_
 ·obtain⟨x,m⟩:=ag (l:=aA) (k:=i) V;obtain⟨ah,kk,S,W,A,N,O,P,Q⟩:=y.E m;have ao:=pN m;have an:=Z (i+1);have T:=qF m;have X:=c.ext;refine⟨V,V,_,X.af A,_,X.af N,_,X.af O,_,X.af P,_,X.af Q,?_⟩;refine(FV X c.fX d f R S W (D i x m) V (ih x (ar m))).mono λB m4⟨b,g,e,a,v⟩=>⟨c.dm a,b,e,λ_=>.no (j.trans a),λp=>?_⟩;obtain⟨t,h,w,i5⟩:=v (by simpa using p);exact ad V _ ⟨g,t,h,by rw[T,<-df];exact i5,j.trans a,c.to a,w⟩
 ·have N:i=aA.length:=V;rw[N,eZ]at f;have W:=sP aA;have X:=fO aA;have T:=f.len 0 bh;have l0:=d.len (k:=0) bh;obtain⟨S,P⟩:=ag (l:=H 0) (k:=ae.toNat) V;refine⟨_,d.cp (k:=0) bh,z,V,S,d.E bh V P,λ_=>?_,λ_=>?_⟩
  ·refine(uA d f V z V).mono λB m4⟨b,g,e,a,v⟩=>⟨c.dm a,b,e,λ_=>.no (j.trans a),λp=>?_⟩;obtain⟨t,h,w,ah,O,rfl⟩:=v (by simpa using p);refine(KP w (f.aR O) V (b:=E) V).mono λB Q⟨b,A,e,m,x⟩=>⟨(c.to a).dm m,b,e,b,A,rfl,(j.trans a).trans m,x⟩
  ·refine(KP d f V (b:=E) V).mono λB Q⟨b,A,e,m,x⟩=>⟨c.dm m,b,e,b,A,rfl,j.trans m,x⟩
def WR(m:I)(f:List bB)(q:gC)(j:Int)(v:Value)(c:I):Prop:=∃(a:Nat)(d:Bool),v=.tuple #[vp a 0,vb d]/\J m c/\(d=true->0<=j/\j<=q.body.aA.length/\∃e g L,(∀b,b<m.size->e b=0)/\jb e c a g L/\se f (q.params.length+dc (q.body.aA.take j.toNat)) L)
def Ec{m:I}{N aa:O}{f:List bB}{B:List gC}{ac:Prop}{W:Nat}(h:eD m N aa f B)(S:yd f B ac W)(hW:W<=200000000000){P:Nat}{a:gC}(y:B[P]? =some a){j:Int}(hj: -9000000000000000000<=j/\j<=9000000000000000000):
 aO cw 222 [.agg #[O.v N,O.v aa],vi P,vi j] m (WR m f a j):=by
 apply xc
 simp -zeta only[aD,aC]
 intro o
 have G:J m o:=J.push _ _
 have g:∀b∈[m.size],b<o.size:=by simp[o]
 clear_value o
 have aJ:=h.iJ.len;have aI:=h.om
 have aG:=ax y
 obtain⟨aj,ah,am,hw⟩:=S.dt a (ar y)
 obtain⟨aN,aP,b,c1,c2,L,e0,e1,e2,x,e4⟩:=h.iJ.E y
 have z:∀{M:I}{ap:Obj},J m M->WR m f a j (.tuple #[vp M.size 0,vb false]) (M.push ap):=λxx=>⟨_,false,rfl,xx.aK _,D⟩
 refine(Eu (h.le G.le) (λd c=>by have:=S.dt d c;omega)).aI (J.aB o) g λv1 m2 H _=>⟨_,rfl,λ_=>z (G.trans H),λ_=>?_⟩
 have u2:=G.trans H
 refine(bF _ _ _ _).aI H g λv2 m3 _ x3 v3=>⟨_,rfl,λ_=>z (u2.trans x3),λ_=>?_⟩
 have E:=u2.trans x3
 have aB:=L.len
 refine⟨V,V,_,E.af x,?_⟩
 refine(bF _ _ _ _).aI v3 g λv4 Y ad x4 F=>⟨_,rfl,λ_=>z (E.trans x4),λal=>?_⟩
 have c:=E.trans x4
 have hr:=ad.1 (by simpa using al)
 refine⟨V,V,_,c.af e0,_,c.af e1,_,c.af e2,_,c.af x,_,c.af e4,?_⟩
 refine(HH (q:=a) (c1.ext c) (c2.ext c) aj ah f).mono λaw Z⟨v,w,K,A,sl,ab,fX,Q,i5⟩=>⟨λb d=>K.same b (F.lt (g b d)),(v,0),w,?_⟩
 obtain⟨an,_,_⟩:=am.aW
 have aE:=Bk.mf a.body
 have ak:=AZ a.body.aA
 have av:Gy Y [m.size] A Z:=⟨K,fX,λb d=>⟨K.lt (F.lt (g b d)),fX b (F.lt (g b d))⟩⟩
 have e6:j=((j.toNat:Nat):Int):=V
 obtain⟨u,ae⟩:∃u:Nat,j=u:=⟨j.toNat,e6⟩
 subst ae
 simp only[tF]
 refine eU (n:=u) V (λi M=>∃p C r,se f (a.params.length+dc (a.body.aA.take i)) r/\To A Z p M/\Gy Y [m.size] p M/\jb p M v C r) ⟨A,sl,ab,by simpa using i5,Q.to,av,Q⟩ ?_
 rintro i M az μ aH ⟨aq,au,L6,T,c6,e,R⟩ ao
 have U:J m M:=c.trans e.ext
 refine dit (λai=>?_) λai=>?_
 ·obtain⟨ay,t⟩:=ag (l:=a.body.aA) (k:=i) V
  obtain⟨aA,kk,ha,af,g0,g1,g2,g3,g4⟩:=(L.le c.le).E t
  have X:=e.ext
  have aM:=pN t
  have aL:=ak (i+1)
  have aF:=sP (a.body.aA.take i)
  have aK:=fO (a.body.aA.take i)
  refine⟨V,V,_,U.af x,V,V,_,X.af g0,_,X.af g1,_,X.af g2,_,X.af g3,_,X.af g4,?_⟩
  refine(FV X e.fX R T (h.le c.le) ha af (an i ay t) V (λb _=>Mc b)).mono λaw m7⟨b,p,w,s,h7⟩=>⟨e.dm s,b,w,λ_=>⟨v,false,rfl,c.trans (e.to s).ext,D⟩,λd=>?_⟩
  obtain⟨C,r,h8,i8⟩:=h7 (by simpa using d)
  exact ao V _ ⟨p,C,r,by rw[qF t,<-df];exact i8,c6.trans s,e.to s,h8⟩
 ·have p:i=u:=V
  subst p
  exact⟨v,true,rfl,U,λ_=>⟨V,V,aq,au,L6,λb d=>e.fX b (c.lt d),R,by simpa using T⟩⟩
end
section
variable{f d:Int}{c P:Nat}{m:I}
def Q6(a:0<=f)(b:0<d):0<=f.tmod d/\f.tmod d<d:=⟨Int.tmod_nonneg _ a,Int.tmod_lt_of_pos _ b⟩
def MT(a:0<=f)(b:0<d):0<=f.tdiv d/\f.tdiv d<=f:=by
 rw[pQ a];exact⟨Int.ediv_nonneg a V,Int.ediv_le_self _ a⟩
def UA{b:Int}(e:0<=f/\f<4611686018427387904)(g:0<=b/\b<4611686018427387904):0<=Uz f b:=by
 unfold Uz;have a:(f%18446744073709551616).toNat<2^62:=V;have c:(b%18446744073709551616).toNat<2^62:=V;have d:=Nat.xor_lt_two_pow a c;rw[aQ V V];omega
def Rd(c:Nat)(a:O)(P:Nat)(m:I):Prop:=(∃p:Int,cF m c pP [.s a,.i p]/\0<=p/\p<=P)/\a.len<=a.cap/\∀k:Nat,k<a.len->∃v:Int,0<=v/\v<=255/\af (bO [c] m) a.F (a.off+k*1)=some (.int .u8 v)
def Rd.mono{Q:Nat}{a:O}(h:Rd c a P m)(g:P<=Q):Rd c a Q m:=let⟨⟨p,b,d,f⟩,e⟩:=h;⟨⟨p,b,d,V⟩,e⟩
def Rd.lt{c P:Nat}{a:O}{m:I}(h:Rd c a P m):c<m.size:=let⟨⟨_,b,_⟩,_⟩:=h;b.lt
def Rd.NB{f:Nat}{b:O}{e M a:I}(d:Rd c b f e)(h:Rd c b P M)(l:Fz [c] e a)(k:a[c]? =M[c]?):Rd c b P a:=by
 obtain⟨⟨p,g,i,j⟩,_⟩:=h;exact⟨⟨p,g.congr k,i,j⟩,d.2.1,λo m=>let⟨v,q,r,n⟩:=d.2.2 o m;⟨v,q,r,l.da (λ_ h=>h) _ _ _ n⟩⟩
def Rd.ext{a:O}{d:I}(h:Rd c a P m)(b:J m d):Rd c a P d:=h.NB h (b.fz _) (b.same _ h.lt)
def Rd.ai{c g P:Nat}{a:O}{d M:I}(f:Rd c a g d)(h:Rd c a P M)(j:Fz [c] d M){b:Nat}(i:d.size<=b)(o:Nat)(l:List Ce):Rd c a P (ai M b o l):=
 f.NB h (j.ai (Or.inr i) o l) (bd _ _ _ _ λe=>by have:=f.lt;omega)
def Xa(c:Nat)(b:O)(P:Nat)(m:I)(d:Int)(v:Value)(a:I):Prop:=∃k:Int,v=vi k/\0<=k/\(k<d\/k=0)/\Rd c b (P+1) a/\Fz [c] m a
def cB{e:O}(t:Rd c e P m)(hP:P<=10000000000000000)(d:Int):aO cw 81 [vp c 0,vi d] m (Xa c e P m d):=by
 obtain⟨⟨p,w,q,p1⟩,hc,G⟩:=t;apply xp (c,0);simp -zeta only[cC];have s:af m c 1=some (vi p):=w.cp 1;refine⟨p,s,w.fH D,?_⟩;intro g;have Y:cW (p+1)=p+1:=aQ V V;have X:cW (p+1 -1)=p:=by rw[show p+1 -1=p by omega];exact aQ V V
 have y:cF g c pP [.s e,.i (p+1)]:=by rw[<-Y];exact cF.ai (m:=m) (r:=[.i (cW (p+1))]) (o:=1) w
 have C:Fz [c] m g:=(Fz.aB [c] m).ai (Or.inl D) _ _;have H:Le (bO [c] m) (bO [c] g):=C.da λ_ t=>t;clear_value g;have R:∀k:Int,0<=k->(k<d\/k=0)->Xa c e P m d (vi k) g:=λk E F=>⟨k,rfl,E,F,⟨⟨p+1,y,V,V⟩,hc,λj f=>let⟨v,i,l,h⟩:=G j f;⟨v,i,l,H _ _ _ h⟩⟩,C⟩;have f:af g c 0=some (O.v e):=y.cp 0;have s:af g c 1=some (vi (p+1)):=y.cp 1;have B:∀j:Int,0<=j->j<(e.len:Int)->∃v:Int,0<=v/\v<=255/\af g e.F (e.off+j.toNat*1)=some (.int .u8 v):=λj E F=>by
  obtain⟨v,i,l,h⟩:=G j.toNat V;exact⟨v,i,l,(eg.1 (H _ _ _ h)).2⟩
 refine⟨λ_=>R 0 (cE _) (Or.inr rfl),λhn=>⟨_,f,λ_=>R 0 (cE _) (Or.inr rfl),λaa=>?_⟩⟩;simp only[bH]at hn;simp only[ak]at aa;have I:0<d:=V;refine⟨_,s,_,f,?_⟩;rw[X];refine⟨λA=>?_,λ_=>?_⟩
 ·simp only[au]at A;obtain⟨v,i,l,h⟩:=B p q A;refine⟨_,f,q,A,v,h,V,?_⟩;rw[aQ V V];have:=Q6 i I;exact R _ this.1 (Or.inl this.2)
 ·have z:(0:Int)<(e.len:Int):=V;obtain⟨K,L⟩:=Q6 q z;obtain⟨v,i,l,h⟩:=B _ K L;have W:cW (cW (p*7)+3)=p*7+3:=by rw[aQ (b:=p*7) V V,aQ V V]
  obtain⟨M,N⟩:=Q6 (f:=p*7+3) V z;obtain⟨u,u0,u1,hu⟩:=B _ M N;obtain⟨d0,d1⟩:=MT q z;rw[W];refine⟨_,f,_,f,V,K,L,v,h,_,f,_,f,V,M,N,u,hu,_,f,V,bh,V,?_⟩;have Q:cW (cW v*131)=v*131:=by rw[aQ (b:=v) V V,aQ V V]
  have S:cW (cW u*1117)=u*1117:=by rw[aQ (b:=u) V V,aQ V V]
  have T:cW (p*29)=p*29:=aQ V V;have U:cW (cW (p.tdiv e.len)*53)=p.tdiv e.len*53:=by rw[aQ (b:=p.tdiv e.len) V V,aQ V V]
  rw[Q,S,T,U,aQ (b:=v*131+u*1117) V V,aQ (b:=v*131+u*1117+p*29) V V,aQ (b:=v*131+u*1117+p*29+p.tdiv e.len*53) V V];have J:0<=v*131+u*1117+p*29+p.tdiv e.len*53:=V;obtain⟨q0,q1⟩:=MT (d:=64) J bh;rw[aQ (b:=Int.tdiv _ 64) V V];have Z:=UA (f:=v*131+u*1117+p*29+p.tdiv e.len*53) (b:=(v*131+u*1117+p*29+p.tdiv e.len*53).tdiv 64) ⟨J,V⟩ ⟨q0,V⟩;obtain⟨z0,z1⟩:=Q6 Z I;exact R _ z0 (Or.inl z1)
def kN{d:O}(h:Rd c d P m)(o:P<=10000000000000000){s:O}{b:List Int}(f:ap (bO [c] m) s b)(q:0<b.length):
 aO cw 84 [vp c 0,O.v s] m λv i=>∃a:Int,v=vi a/\a∈b/\Rd c d (P+1) i/\Fz [c] m i:=by
 apply yM (c,0)
 have r:=f.len
 refine(cB h o (s.len:Int)).mono λv u⟨a,j,p,t,n,e⟩=>⟨a,j,p,V,?_⟩
 obtain⟨x,g⟩:=ag (l:=b) (k:=a.toNat) V
 exact⟨x,(eg.1 ((e.da (λ_ h=>h)) _ _ _ (f.E g))).2,x,rfl,ar g,n,e⟩
end
section
variable{d:List Nat}{c:I}
def _root_.Go.Vc.Gr.set{α:Type}{d X:List Nat}{u c:I}{A f:Nat}{R:I->List Ce->α->Prop}{s:O}{z:List α}(x:nZ f R)(h:Gr d u c A f R s z)(hf:Fz X u c){k:Nat}(K:k<z.length){cs:List Ce}{a:α}(G:R (bO (s.F::d) c) cs a):
 fH c s.F (s.off+k*f) f/\Gr d u (ai c s.F (s.off+k*f) cs) A f R s (z.set k a)/\Fz X u (ai c s.F (s.off+k*f) cs)/\(∀g,g≠s.F->(ai c s.F (s.off+k*f) cs)[g]? =c[g]?):=by
 have hy:=h.bg
 obtain⟨E,e,F,j⟩:=h
 have ab:∀g,g≠s.F->(ai c s.F (s.off+k*f) cs)[g]? =c[g]? :=λg hb=>bd _ _ _ _ hb
 obtain⟨g,i,tail,v,T,B,U,W⟩:=F.E.resolve_left E
 have J:=x.len G
 obtain⟨n,y⟩:=ag (l:=e) (k:=k) (by rw[j.len];exact K)
 have af:=j.size n (ar y)
 have P:s.off+k*f=k*f:=by rw[v];simp
 have H:s.F=g:=by rw[v];rfl
 have L:=ax y
 have Q:e=e.take k++n::e.drop (k+1):=by
  have w:=List.getElem?_eq_some_iff.1 y;obtain⟨Z,h7⟩:=w;rw[<-h7,<-pW Z,dg]
 have ad:(e.take k).flatten.length=k*f:=by rw[cr λi p=>j.size i (fR p),fY,iO V]
 have ac:e.set k cs=e.take k++cs::e.drop (k+1):=by
  rw[Oi,ao L]
 have aa:iX (e.flatten++tail) (k*f) cs=(e.set k cs).flatten++tail:=by
  have Y:e.flatten++tail=(e.take k).flatten++(n++((e.drop (k+1)).flatten++tail)):=by
   conv=>lhs;rw[Q]
   simp
  rw[Y,<-ad,Bp _ _ _ bJ,ac];rw[show cs.length=n.length by omega,List.drop_left];simp
 have N:(e.set k cs).flatten.length=e.flatten.length:=by
  rw[cr (b:=f) λi p=>?_,cr j.size,dZ];rcases di p with h|h
  ·exact j.size i h
  ·rw[h];exact J
 have M:Le (bO (s.F::d) c) (bO (s.F::d) (ai c s.F (s.off+k*f) cs)):=cz D λ_ h=>h
 refine⟨?_,⟨E,e.set k cs,⟨by rw[N];exact F.len,Or.inr ⟨g,i,tail,v,T,?_,?_,W⟩⟩,⟨by simp[j.len],λi p=>?_,λS i ae q t=>?_⟩⟩,hf.ai (Or.inr hy.1) _ _,ab⟩
 ·rw[P,H]
  refine B.fH ?_
  have:(e.take k).flatten.length+n.length<=e.flatten.length:=by
   conv=>rhs;rw[Q]
   simp
  simp only[aZ];omega
 ·have w:=cF.ai (m:=c) (b:=g) (r:=cs) (o:=k*f) B
  rw[P,H,<-aa];exact w
 ·rw[<-U,aZ,aZ,N]
 ·rcases di p with h|h
  ·exact j.size i h
  ·rw[h];exact J
 ·by_cases C:k=S
  ·subst C
   rw[dE L]at q
   rw[dE K]at t
   simp at q t;subst q t
   exact x.le M G
  ·rw[cy C]at q t
   exact x.le M (j.dt S i ae q t)
def AI(hS:∀a∈d,a<c.size){g C Q:O}{W:Int}{aA:List cR}{q:cR}{f:Nat}(s:eI (bO d c) g aA)(ha:ap (bO d c) C q.args)(hk:nD (bO d c) Q q.bE)(hj:f<=aA.length)(hb:aA.length<=900000000000):
 aO cw 224 [.agg #[O.v g,vi W],vi f,oW q C Q] c λah R=>∃Z,ah=.agg #[O.v Z,vi W]/\eI (bO d R) Z (aA.take f++[q]++aA.drop f)/\J c R:=by
 apply Ej
 simp -zeta only[aD,aC]
 intro S h e k
 obtain⟨r,m,s1,s2,s3⟩:=pX (a:=S) (b:=h) (c:=e) rfl rfl rfl
 have z:J e k:=J.push _ _
 have s4:k.size=e.size+1:=by simp[k]
 have g0:GS (h.size::d) e k (.mk e.size 0 0 0) []:=GS.new _ _
 clear_value k
 clear_value e
 have u4:=r.trans z
 have P:=s.len
 have ak:=s.cap
 have N:∀a∈[h.size,S.size,c.size],a<k.size:=λa b=>z.lt (m a b)
 have H:∀{M:I}{E:Nat},J c M->c.size<=E->Le (bO d c) (bO (E::h.size::d) M):=λxx ai=>xx.bO λa b=>by
  simp only[aU]at b;rcases b with l|l|l
  ·exact Or.inr V
  ·exact Or.inr V
  ·exact Or.inl l
 have e0:Int.toNat (0:Int)=0:=rfl
 have ej:Int.toNat (f:Int)=f:=V
 have el:Int.toNat (g.len:Int)=g.len:=V
 rw[e0,ej,el]
 refine⟨V,V,V,?_⟩
 have ac:eI (bO (e.size::h.size::d) k) (g.cut 0 f 5) (aA.take f):=by simpa using(s.le (H (E:=e.size) u4 V)).J2 (i:=0) (eJ _) hj
 refine GS.all g0 (z.fz []) ac bJ λX y G F z1 q1=>⟨λa b=>q1 a (N a b) (by have:=m a b;simp;omega),V,V,V,?_⟩
 intro T
 have t:J y T:=J.push _ _
 have y1:=G.bg
 have n:J e y:=F.ext
 have A:∀o,af T c.size o=af y c.size o:=λo=>aN (t.same _ (by have:=N c.size D;omega)) o
 refine⟨A 1,A 0,?_⟩
 refine GS.kv (x:=q) G F (ha.le (H (E:=X.F) (r.trans n) V)) (hk.le (H (E:=X.F) (r.trans n) V)) bJ λY U K v z2 q2=>⟨J.oC (n.trans t) v.ext (λa b=>by have:=m a b;omega),?_⟩
 have p:J e U:=v.ext
 have y2:=K.bg
 have u:∀{M B:I},J e M->J e B->∀o,af B c.size o=af M c.size o:=λaa h' o=>aN (by rw[h'.same _ (m _ D),aa.same _ (m _ D)]) o
 refine⟨u (n.trans t) p 1,u (n.trans t) p 0,?_⟩
 have ae:eI (bO (Y.F::h.size::d) U) (g.cut f g.len 5) (aA.drop f):=by
  have:=(s.le (H (E:=Y.F) (r.trans p) V)).J2 (i:=f) (j:=g.len) V V;rwa[P,cN (ad _),<-P]at this
 refine GS.all K v ae bJ λr3 m8 L w z3 q3=>⟨J.oC p w.ext m,u p w.ext 1,?_⟩
 intro m9
 have y3:=L.bg
 have ab:∀a∈h.size::d,a<e.size:=λa b=>by
  rcases List.mem_cons.1 b with l|l
  ·omega
  ·have:=hS a l;omega
 refine⟨r3,rfl,?_,(r.trans w.ext).ai V _ _⟩
 have hD:=L.done gH.mono ab bh bJ
 have ag:Le (bO (h.size::d) m8) (bO d m9):=cz D λa b=>aj _ b
 exact eI.le ag (by simpa[fm]using hD)
def Ew(F:∀b∈d,b<c.size){u Q p:O}{B:List bB}{x:List gC}{q:gC}{n:Nat}{l:Bk}(i:eD (bO d c) u Q B x)(G:x[n]? =some q)(h3:q.params.length<=3/\q.cJ.length<=3)(ag:eI (bO d c) p l.aA):
 uH 226 [.agg #[O.v u,O.v Q],vi n,.agg #[O.v p,vi l.aV]] c d B λah=>ah=x.set n ⟨q.params,q.cJ,q.aV,l⟩:=by
 apply xB
 simp -zeta only[aD,aC]
 intro K h g j
 obtain⟨r,o,s1,s2,s3⟩:=pX (a:=K) (b:=h) (c:=g) rfl rfl rfl
 have z:J g j:=J.push _ _
 have s4:j.size=g.size+1:=by simp[j]
 have g0:GR (h.size::d) g j (.mk g.size 0 0 0) []:=Gr.new _ (ad _) _ _ _
 clear_value j
 clear_value g
 have u4:=r.trans z
 have an:=i.iJ.len;have am:=i.om
 have ak:=ax G
 have ac:∀b∈[h.size,K.size,c.size],b<j.size:=λb e=>z.lt (o b e)
 have H:∀{M:I}{A:Nat},J c M->c.size<=A->Le (bO d c) (bO (A::h.size::d) M):=λxx ai=>xx.bO λb e=>by
  simp only[aU]at e;rcases e with f|f|f
  ·exact Or.inr V
  ·exact Or.inr V
  ·exact Or.inl f
 refine Gr.all (g:=[.s .nil,.s .nil,.i 0,.s .nil,.i 0]) iC.mono bh g0 (z.fz []) (i.iJ.le (H (A:=g.size) u4 V)) bJ λm w v C z1 q1=>⟨λb e=>q1 b (ac b e) (by have:=o b e;simp;omega),V,V,?_⟩
 simp only[dS]at v
 have y:J g w:=C.ext
 have y1:=v.bg
 obtain⟨ao,ap,t,W,X,c3,Y,Z,e2,e3,e4⟩:=(i.iJ.le (H (A:=m.F) (r.trans y) V)).E G
 have fX:∀{T:Value}{t N:Nat},af (bO (m.F::h.size::d) w) t N=some T->af w t N=some T:=λaa=>(eg.1 aa).2
 refine⟨_,fX Y,_,fX Z,_,fX e2,_,fX e3,_,fX e4,?_⟩
 have z5:=y.size
 refine(xU (b:=m.F::h.size::d) (λb e=>?_) (W.le (bD _ _)) (X.le (bD _ _)) V).mono λrv m6⟨P,R,f,h1,h2,s⟩=>?_
 ·simp only[aU]at e
  rcases e with f|f|f
  ·omega
  ·omega
  ·have:=F b f;omega
 subst f
 have E:=v.ext iC.mono s
 have al:=E.len bh
 obtain⟨wr,g3,f3,q3⟩:=Gr.set (k:=n) (cs:=[.s P,.s R,.i q.aV,.s p,.i l.aV]) (a:=⟨q.params,q.cJ,q.aV,l⟩) iC.mono E (C.then s) V ⟨P,R,p,rfl,h1,h2,ag.le (H (A:=m.F) ((r.trans y).trans s) V)⟩
 refine⟨λb e=>s.same b (by have:=o b e;omega),_,_,_,_,_,rfl,V,V,wr,?_⟩
 intro m7
 refine⟨λb e=>q3 b (by have:=o b e;omega),?_⟩
 intro L
 have ab:∀b∈h.size::d,b<g.size:=λb e=>by
  rcases List.mem_cons.1 e with f|f
  ·omega
  ·have:=F b f;omega
 have ae:Le (bO (h.size::d) m7) (bO d L):=cz D λb e=>aj _ e
 have U:J c L:=(r.trans f3.ext).ai V _ _
 exact⟨u,m,_,rfl,⟨i.aT.le (U.da _),ze.le ae (g3.done iC.mono ab bh bJ),i.types,bJ⟩,rfl,U⟩
end
def Tn{c:List bB}{f b:Nat}{l:List cR}(h:WL c f True b l){j:Nat}{a v:Int}(e:14<=a/\a<=17)(m:0<=v/\v<((b+dc (l.take j):Nat):Int)):
 WL c f True b (l.take j++[eQ a v]++l.drop j)/\dc (l.take j++[eQ a v]++l.drop j)=dc l/\sw (l.take j++[eQ a v]++l.drop j)=sw l+2:=by
 have d:dc [eQ a v]=0:=jO e.1 [v]
 have g:sw [eQ a v]=2:=oh a [v]
 have i:=cT (l.take j) (l.drop j)
 have k:=dy (l.take j) (l.drop j)
 rw[dg]at i k
 refine⟨((h.take j).yy (Dg e m)).append ?_,?_,?_⟩
 ·rw[cT,d];exact h.drop j
 ·rw[cT,cT,d];omega
 ·rw[dy,dy,g];omega
def RT(h:Nat)(e:List Value)(m:I)(S:List Nat)(b:Nat)(f:O)(P:Nat)(g:List bB)(Q:List gC->Prop):Prop:=
 aO cw h e m λv a=>∃d r c,v=.agg #[O.v d,O.v r]/\eD (bO S a) d r g c/\Q c/\Rd b f P a/\Fz [b] m a
def Pl{h:List Nat}{m:I}(hS:∀o∈h,o<m.size){d P:Nat}{U:O}(aA:d∈h)(h0:Rd d U P m)(hP:P+4<=10000000000000000){A y:O}{E:List bB}{R:List gC}(hn:eD (bO h m) A y E R){ac:Nat}(W:yd E R True ac)(hW:ac<=200000000000):
 RT 194 [vp d 0,.agg #[O.v A,O.v y]] m h d U (P+4) E λZ=>yd E Z True (ac+4):=by
 apply Jc (d,0)
 simp -zeta only[aD,aC,cC]
 intro f al
 obtain⟨x2,hl⟩:=dG (a:=f) (c:=al) rfl rfl
 have s1:f.size=m.size+1:=by simp[f]
 have s2:al.size=m.size+2:=by simp[al,s1]
 clear_value al
 have b0:=hn.iJ.len;have bZ:=hn.om
 have b1:=h0.lt
 have nb:∀a∈[f.size,m.size],a<al.size/\a∉[d]:=λa c=>⟨hl a c,by have:=hl a c;simp at c⊢;omega⟩
 have FA:yd E R True (ac+4):=⟨W.iL,λq H=>let⟨g,a,o,e⟩:=W.dt q H;⟨g,a,o,V⟩⟩
 refine(cB (h0.ext x2) V (y.len:Int)).mono λp g⟨ae,e,f0,f1,h3,z3⟩=>⟨z3.dm nb,ae,e,?_⟩
 have u3:Fz [d] m g:=(x2.fz _).trans z3
 have bS:ae<(R.length:Int):=by have:=W.iL;omega
 obtain⟨q,H⟩:=ag (l:=R) (k:=ae.toNat) V
 obtain⟨aK,aJ,bn,hw⟩:=W.dt q (ar H)
 have Hn:∀{M:I},Fz [d] m M->eD (bO h M) A y E R:=λs=>hn.le (s.da λa c=>by simp at c;subst c;exact aA)
 have HS:∀{M:I}(bb:Nat),m.size<=bb->Fz [d] m M->Le (bO h m) (bO (bb::f.size::h) M):=λbb bM gg=>gg.bO (λa c=>by simp at c;subst c;exact aA) λo t=>by
  simp only[aU]at t;rcases t with e|e|e
  ·exact Or.inr V
  ·exact Or.inr V
  ·exact Or.inl e
 have ci:=z3.size
 obtain⟨cb,cd,a,c1,c2,c3,e0,e1,e2,e3,e4⟩:=(hn.le (HS g.size V u3)).iJ.E H
 have fX:∀{M:I}{h:List Nat}{p:Value}{a Q:Nat},af (bO h M) a Q=some p->af M a Q=some p:=λG=>(eg.1 G).2
 refine⟨f0,V,a,fX e3,q.body.aV,fX e4,?_⟩
 intro m4 m5
 have x5:J g m5:=(J.push g _).ai (ad _) _ _
 have s5:m5.size=g.size+1:=by simp[m5,m4,av]
 clear_value m5
 have bN:=c3.len
 have bX:=c3.fS
 have bP:=Bk.mf q.body
 have b2:=fO q.body.aA
 have az:∀a∈[g.size,f.size,m.size],a<m5.size/\a∉[d]:=λa c=>by simp at c⊢;omega
 rw[aQ V V]
 refine(cB (h3.ext x5) V _).mono λp m6⟨L,e,j0,j1,h6,z6⟩=>⟨z6.dm az,L,e,?_⟩
 have u6:Fz [d] m m6:=(u3.then x5).trans z6
 have bF:=z6.size
 have bd:=(Hn u6).le (bD _ _)
 obtain⟨fn,a5⟩:∃fn:Nat,ae=fn:=⟨ae.toNat,V⟩
 subst a5
 simp only[tF]at H
 have ao:∀a∈[g.size,f.size,m.size],a<m6.size/\a∉[d]:=λa c=>⟨aP (az a c).1 bF,(az a c).2⟩
 have aR:∀{M:I},Rd d U (P+4) M->Fz [d] m M->∃d' Y Z,Value.agg #[O.v A,O.v y]=.agg #[O.v d',O.v Y]/\eD (bO h (ai M f.size 0 [.s A,.s y])) d' Y E Z/\yd E Z True (ac+4)/\Rd d U (P+4) (ai M f.size 0 [.s A,.s y])/\Fz [d] m (ai M f.size 0 [.s A,.s y]):=λhr s=>
  have g':=s.ai (b:=f.size) (Or.inr V) 0 [.s A,.s y]
  ⟨A,y,R,rfl,Hn g',FA,h0.ai hr s V _ _,g'⟩
 refine(Ec bd W hW H V).mono λp F⟨lb,ok,e,C,hA⟩=>⟨C.dm λa c=>(ao a c).1,(lb,0),ok,e,λ_=>?_,λbf=>?_⟩
 ·intro m8
  exact aR ((h6.ext C).mono V) (u6.then C)
 obtain⟨_,jl,ro,sl,ay,b7,h7,i7⟩:=hA (by simpa using bf)
 intro m8
 have x8:J F m8:=J.push _ _
 have g8:GI h F m8 (.mk F.size 0 0 0) []:=GI.nil h F
 clear_value m8
 have z7:=C.size
 have bQ:=sP q.body.aA
 have a4:=Sn q.body.aA L.toNat
 have N0:=i7.len 0 bh
 have u7:Fz [d] m F:=u6.then C
 have aH:∀o∈h,o<F.size:=λo t=>aP (hS o t) u7.size
 refine dU (n:=(ay 0).length) V (λaq aa M=>J F M/\∃N,GI h F M aa N/\N.length<=aq/\∀w∈N,0<=w/\w<(((ay 0).length:Nat):Int)) ⟨x8,[],g8,ad _,D⟩ ?_
 rintro aq aa m9 bI μ bV ⟨z,N,s,bY,am⟩ aF
 have h9:=h7.ext z
 have l0:=h9.len (k:=0) bh
 have ap:∀a∈[g.size,f.size,m.size],a<m9.size/\a∉[d]:=λa c=>⟨z.lt (C.lt (ao a c).1),(ao a c).2⟩
 refine⟨_,h9.cp (k:=0) bh,λba=>?_,λbT=>?_⟩
 ·simp only[au]at ba
  obtain⟨w,i⟩:=ag (l:=ay 0) (k:=aq) V
  refine⟨_,h9.cp (k:=0) bh,V,V,w,h9.E bh V i,λ_=>?_,λ_=>aF V _ _ ⟨z,N,s,V,am⟩⟩
  refine(sE h9 i7 V (v:=(aq:Int)) V V).mono λp aE⟨bb,e,u⟩=>⟨u.dm λa c=>(ap a c).1,bb,e,λ_=>?_,λ_=>aF V _ _ ⟨z.trans u,N,s.ext u,V,am⟩⟩
  intro X
  have gy:=s.bg
  refine GI.kv (s.ext u) ((z.trans u).fz []) aH V λY bp K B _ T=>⟨J.oC ((z.trans u).aK _) B.ext (λa c=>C.lt (ao a c).1),aF V _ _ ⟨B.ext,_,K,bJ,λw i=>?_⟩⟩
  rcases List.mem_append.1 i with i|i
  ·exact am w i
  ·simp at i;omega
 ·have bU:=s.len bh
  have u9:Fz [d] m m9:=u7.then z
  have r9:Rd d U (P+2) m9:=(h6.ext (C.trans z)).mono V
  refine⟨λ_=>?_,λbe=>?_⟩
  ·intro aE
   exact aR (r9.mono V) u9
  simp only[ak]at be
  have gy:=s.bg
  have gb:aa.F∉[d]:=by simp;have:=u7.size;omega
  refine(cB r9 V (aa.len:Int)).mono λp aE⟨aB,e,i0,i1,aZ,uG⟩=>⟨uG.dm ap,aB,e,i0,V,?_⟩
  obtain⟨w,aO⟩:=ag (l:=N) (k:=aB.toNat) V
  obtain⟨w0,w1⟩:=am w (ar aO)
  have a6:af m9 aa.F (aa.off+aB.toNat*1)=some (vi w):=((s.done aH V).le (bD _ _)).E aO
  refine⟨w,(aN (uG.same _ gy.2 gb) _).trans a6,?_⟩
  have bt:=u9.trans uG
  have cj:=z.size;have bG:=uG.size
  have aI:∀a∈[g.size,f.size,m.size],a<aE.size/\a∉[d]:=λa c=>⟨aP (ap a c).1 bG,(ap a c).2⟩
  have ew:cW (cW ((a.len:Int) -L)+1)=(a.len:Int) -L+1:=by rw[aQ (b:=(a.len:Int) -L) V V,aQ V V]
  rw[ew]
  refine(cB aZ V _).mono λp X⟨i2,e,b3,b4,a0,ax⟩=>⟨ax.dm aI,i2,e,?_⟩
  have aS:=bt.trans ax
  have bH:=ax.size
  have an:∀a∈[g.size,f.size,m.size],a<X.size:=λa c=>aP (aI a c).1 bH
  have ah:∀{M:I},X.size<=M.size->∀o∈g.size::f.size::h,o<M.size:=λhz o t=>by
   simp only[aU]at t;have h1:=an g.size D;have h2:=an f.size D;rcases t with e|e|e
   ·omega
   ·omega
   ·have:=hS o e;have:=aS.size;omega
  have bv:Fz [d] g X:=(((((x5.fz _).trans z6).then C).then z).trans uG).trans ax
  have a3:=c3.le (bv.da λo t=>by simp at t;subst t;simp[aA])
  obtain⟨i,a7⟩:∃i:Nat,L=i:=⟨L.toNat,V⟩
  obtain⟨u,a_⟩:∃u:Nat,i2=u:=⟨i2.toNat,V⟩
  subst a7 a_
  have bm:i+u<=q.body.aA.length:=V
  have aY:cW ((i:Int)+(u:Int))=((i+u:Nat):Int):=by rw[aQ V V];omega
  simp only[tF]at N0 a4
  obtain⟨bo,r0,r1⟩:=bn.aW
  have bR:dc (q.body.aA.take i)<=dc (q.body.aA.take (i+u)):=by
   have:=Sn (q.body.aA.take (i+u)) i;rwa[Lp,iO V]at this
  obtain⟨bz,bw,bC⟩:=Tn (j:=i+u) (a:=15) (v:=w) bo bh ⟨w0,V⟩
  have bl:(q.body.aA.take (i+u)++[eQ 15 w]++q.body.aA.drop (i+u)).take i=q.body.aA.take i:=by
   rw[fm,nj bJ,Lp,iO V]
  obtain⟨bA,bx,bE⟩:=Tn (j:=i) (a:=14) (v:=w) bz bh ⟨w0,by rw[bl];omega⟩
  generalize aM:q.body.aA.take (i+u)++[eQ 15 w]++q.body.aA.drop (i+u)=st1 at*
  have bW:st1.length=q.body.aA.length+1:=by rw[<-aM];simp;omega
  have K:∀{M M':I},J M M'->X.size<=M.size->∀a∈[g.size,f.size,m.size],∀Q,af M' a Q=af M a Q:=λxx hz a c Q=>aN (xx.same a (aP (an a c) hz)) Q
  have kS:∀{M M':I},J M M'->X.size<=M.size->eE [g.size,f.size,m.size] M M':=λxx hz a c=>xx.same a (aP (an a c) hz)
  rw[aY]
  refine(iQ (c:=g.size::f.size::h) (ah (ad _)) 15 w).mono λp bp⟨bK,b5,e,a1,a8,T⟩=>⟨kS T (ad _),_,_,_,_,_,e,K T (ad _) _ D _,K T (ad _) _ D _,?_⟩
  have aX:=T.size
  refine(AI (d:=g.size::f.size::h) (W:=q.body.aV) (q:=eQ 15 w) (ah aX) (a3.le (T.da _)) a1 a8 bm V).mono λp bq⟨bs,e,aL,aw⟩=>⟨kS aw aX,_,_,e,?_⟩
  rw[aM]at aL
  intro aj
  have ce:=aw.size
  have cf:aj.size=bq.size:=av _ _ _ _
  have aT:=(aS.then T).then aw
  have bu:Fz [d] m aj:=aT.ai (Or.inr V) _ _
  have br:Rd d U (P+2+1+1) aj:=h0.ai ((a0.ext T).ext aw) aT V _ _
  have bj:eI (bO (g.size::f.size::h) aj) bs st1:=aL.le (cz D λ_ G=>G)
  clear_value aj
  refine(iQ (c:=g.size::f.size::h) (ah V) 14 w).mono λp b8⟨bL,b6,e,a2,a9,B⟩=>⟨kS B V,_,_,_,_,_,e,K B V _ D _,K B V _ D _,K B V _ D _,K B V _ D _,?_⟩
  have cg:=B.size
  refine(AI (d:=g.size::f.size::h) (W:=q.body.aV) (q:=eQ 14 w) (ah V) (bj.le (B.da _)) a2 a9 (f:=i) V V).mono λp b9⟨cc,e,bk,ab⟩=>⟨kS ab V,_,_,e,K ab V _ D _,K ab V _ D _,?_⟩
  have ch:=ab.size
  have aV:=(bu.then B).then ab
  refine(Ew (d:=g.size::f.size::h) (ah V) (l:=.mk (st1.take i++[eQ 14 w]++st1.drop i) q.body.aV) (hn.le (HS g.size V aV)) H ⟨aK,aJ⟩ bk).mono λp b_⟨d',Y,Z,e,bc,bi,aG⟩=>⟨kS aG V,d',Y,e,?_⟩
  intro ca
  have aW:=aV.then aG
  refine⟨d',Y,Z,rfl,bc.le (cz D λo t=>by simp[t]),?_,h0.ai (((br.ext B).ext ab).ext aG) aW V _ _,aW.ai (Or.inr V) _ _⟩
  subst bi
  refine⟨by simp;exact W.iL,λq' bg=>?_⟩
  rw[dZ]
  rcases di bg with G|G
  ·exact FA.dt q' G
  ·subst G
   refine⟨aK,aJ,.of bA ⟨r0,by rw[bx,bw];exact r1⟩,?_⟩
   show Bk.w (.mk _ _)<=_
   rw[Bk.qA,bE,bC];omega
section
variable{f:I}{t:O}{d:Bk}{j e:Int}{g:List Nat}{p h c:Nat}
def pM(o:eI f t d.aA):sM 273 [.agg #[O.v t,vi d.aV]] f λc=>0<=c/\c<=d.aA.length/\∀(i:Nat)(e:cR),d.aA[i]? =some e->(i:Int)<c->14<=e.op/\e.op<=17:=by
 apply yH;simp -zeta only[aD,aC];intro a;have D:J f a:=J.push _ _;have y:∀s∈[f.size],s<a.size:=by simp[a]
 clear_value a;have z:=o.len;refine eU (n:=d.aA.length) (z▸o.fS) (λc M=>J a M/\∀(i:Nat)(e:cR),d.aA[i]? =some e->i<c->14<=e.op/\e.op<=17) ⟨J.aB _,λi e _ b=>V⟩ ?_;rintro c M H μ P ⟨r,q⟩ B
 have u:=D.trans r;have R:∀{p:I},J f p->∃m:Int,vi (c:Int)=vi m/\(0<=m/\m<=d.aA.length/\∀(i:Nat)(e:cR),d.aA[i]? =some e->(i:Int)<m->14<=e.op/\e.op<=17)/\J f p:=λF=>⟨c,rfl,⟨V,V,λi e g b=>q i e g V⟩,F⟩;refine⟨λb=>?_,λb=>R u⟩;simp only[au]at b;obtain⟨e,g⟩:=ag (l:=d.aA) (k:=c) V;obtain⟨h,S,L,Q,w,_⟩:=o.E g;refine⟨V,V,_,u.af w,?_⟩;refine(tq e.op M).aI r y λK T x E C=>⟨_,rfl,λA=>B V _ ⟨C,λi G j N=>?_⟩,λ_=>R (u.trans E)⟩;by_cases v:i=c
 ·subst v;rw[g]at j;simp at j;subst j;exact x.1 A
 ·exact q i G j V
def CU(b:eI f t d.aA){y:Int}(Q:0<=j/\j<=d.aA.length)(B:∀(w:Nat)(s:cR),d.aA[w]? =some s->(w:Int)<j->0<s.args.length):
 sM 274 [.agg #[O.v t,vi d.aV],vi j,vi y,vi e] f λc=>-1<=c/\(0<=c->c<j/\∃s:cR,d.aA[c.toNat]? =some s/\s.op=y/\s.args[0]? =some e):=by
 apply Gc
 simp -zeta only[aD,aC]
 intro i
 have D:J f i:=J.push _ _
 clear_value i
 have R:=b.len
 have P:=b.fS
 obtain⟨m,C⟩:∃m:Nat,j=m:=⟨j.toNat,V⟩
 subst C
 refine eU (n:=m) V (λc M=>J i M) (J.aB _) ?_
 rintro c M I μ L o x
 have u:=D.trans o
 refine⟨λa=>?_,λa=>⟨-1,rfl,⟨V,λa=>V⟩,u⟩⟩
 simp only[au]at a
 obtain⟨s,g⟩:=ag (l:=d.aA) (k:=c) V
 obtain⟨h,S,p,N,z,F,G,A,H⟩:=b.E g
 have K:=p.len
 have:=B c s g V
 obtain⟨E,v⟩:=ag (l:=s.args) (k:=0) V
 refine⟨V,V,_,u.af z,λq=>⟨V,V,_,u.af A,bh,V,E,(p.ext u).E v,λr=>?_,λ_=>x V _ o⟩,λ_=>x V _ o⟩
 simp only[aF]at q r
 refine⟨c,rfl,⟨V,λ_=>⟨V,s,?_,q,by rw[<-r];exact v⟩⟩,u⟩
 simpa using g
def NP(g:eI f t d.aA){b:Int}(E:0<=b/\b<=d.aA.length):sM 307 [.agg #[O.v t,vi d.aV],vi b,vi j] f λc=>-1<=c/\c<d.aA.length:=by
 apply Ht;simp -zeta only[aD,aC];intro i;have y:J f i:=J.push _ _;clear_value i;have v:=g.len;obtain⟨e,s⟩:∃e:Nat,b=e:=⟨b.toNat,V⟩;subst s;refine U9 (n:=d.aA.length) (c:=e) V (v▸g.fS) (λc M=>J i M) (J.aB _) ?_;rintro c M I μ _ C o x
 have u:=y.trans o;refine⟨λm=>?_,λm=>⟨-1,rfl,⟨V,V⟩,u⟩⟩;simp only[au]at m;obtain⟨G,w⟩:=ag (l:=d.aA) (k:=c) V;obtain⟨h,F,B,D,p,z,q,r,A⟩:=g.E w;have N:=x V _ o
 exact⟨V,V,_,u.af p,λ_=>⟨V,V,_,u.af q,λ_=>⟨V,V,_,u.af r,λ_=>⟨c,rfl,⟨V,V⟩,u⟩,λ_=>N⟩,λ_=>N⟩,λ_=>N⟩
def Hv(d:Bk)(hS:∀q∈g,q<f.size)(F:eI f t d.aA)(hw:d.w<=1000000000000):aO cw 285 [.agg #[O.v t,vi d.aV]] f λak H=>∃s,ak=.agg #[O.v s,vi d.aV]/\GS g f H s d.aA/\J f H:=by
 obtain⟨aA,v⟩:=d;rw[Bk.qA]at hw;simp only[Bk.jN,Bk.jd]at*;apply rh;simp -zeta only[aD,aC];intro j b h I u;obtain⟨N,E⟩:=dG (a:=j) (c:=b) rfl rfl;have s0:j.size=f.size+1:=by simp[j]
 have s1:b.size=f.size+2:=by simp[b,s0]
 have s2:h.size=b.size+1:=by simp[h]
 have s3:I.size=h.size+1:=by simp[I]
 have P:J h u:=(J.push h _).ai (ad _) _ _;have al:J b u:=(J.push b _).trans P;have z:GS (h.size::j.size::g) b u (.mk b.size 0 0 0) []:=(GS.new _ b).ext gH.mono P;have R:cF u h.size de [.s (.mk b.size 0 0 0),.i v]:=cF.ai (m:=I) (o:=0) (r:=[.s (.mk b.size 0 0 0),.i v]) (cF.push h _ _);clear_value u;have ab:∀q∈j.size::g,q<b.size:=bR hS N.size (E _ D);have ai:=F.len;have an:=fO aA;refine eU (n:=aA.length) (ai▸F.fS) (λc M=>J b M/\∃s,GS (h.size::j.size::g) b M s (aA.take c)/\cF M h.size de [.s s,.i v]) ⟨al,_,z,R⟩ ?_;rintro c K am μ hk ⟨y,s,x,B⟩ aj
 have p:=N.trans y;have ah:∀d∈[j.size,f.size],d<K.size:=λd A=>y.lt (E d A);have hy:=x.bg;have z5:=y.size;have M:=B.lt;refine dit (λaa=>?_) λaa=>?_
 ·obtain⟨e,G⟩:=ag (l:=aA) (k:=c) V;obtain⟨pa,pk,ha,af,z,Z,g2,g3,g4⟩:=F.E G;have ao:=NX G;refine⟨s,B.cp 0,V,V,_,p.af z,_,p.af Z,_,p.af g2,_,p.af g3,_,p.af g4,?_⟩;refine(xR (e:=s.F::h.size::j.size::g) (bR (bR ab z5 M) (ad _) hy.2) (ha.ext p) (af.le p.le) V (λd _=>vU d)).aI (J.aB K) ah λT U x' L ac ae W w _=>⟨_,_,_,_,_,rfl,aN (w.same _ M) _,?_⟩;subst W;intro m7;refine Gr.box (g:=[.i 0,.i 0,.i 0,.s .nil,.s .nil]) (j:=0) (o:=[.s s,.i v]) (y:=e) gH.mono bh (x.ext gH.mono w) ((y.trans w).fz []) ⟨T,U,rfl,ac,ae⟩ bJ (B.ext w) D bh ⟨V,D⟩ (λq C=>by have Q:=E q C;have X:=w.size;omega) λr' H Y Q X z' q'=>aj V _ ⟨X.ext,r',?_,Q⟩
  rw[bn G];exact Y
 ·rw[cN V]at x;refine⟨s,B.cp 0,v,B.cp 1,?_⟩;intro L;have w:Fz [j.size] K L:=(Fz.aB _ _).ai (Or.inl D) _ _;have G:GS g b L s aA:=x.re gH.mono w D bJ λq C=>Or.inl (by simp[C]);exact⟨s,rfl,Gr.bY gH.mono G (λd A=>Or.inl A) V,p.ai V _ _⟩
def Tp{d:List bB}{b:Prop}{l:List cR}(i:WL d p b h l){e a:cR}(f:l[c]? =some e)(q:WS d p b (h+dc (l.take c)) a)(n:dn a=dn e):
 WL d p b h (l.set c a)/\dc (l.set c a)=dc l/\sw (l.set c a)+e.w=sw l+a.w:=by
 have o:=ax f
 have j:l.set c a=l.take c++([a]++l.drop (c+1)):=by rw[Oi,ao o];rfl
 have g:l=l.take c++([e]++l.drop (c+1)):=by
  obtain⟨k,m⟩:=List.getElem?_eq_some_iff.1 f;rw[<-m];show l=l.take c++(l[c]::l.drop (c+1));rw[<-pW k,dg]
 have r:dc l=dc (l.take c)+(dn e+dc (l.drop (c+1))):=by
  conv=>lhs;rw[g]
  rw[cT,cT,kC,sQ];omega
 have s:sw l=sw (l.take c)+(e.w+sw (l.drop (c+1))):=by
  conv=>lhs;rw[g]
  rw[dy,dy,mE,va];omega
 rw[j]
 refine⟨(i.take c).append ((WL.kK q).append ?_),?_,?_⟩
 ·have:=i.drop (c+1)
  rw[qF f]at this
  rw[kC,sQ,n,ju,df];exact this
 ·rw[cT,cT,kC,sQ];omega
 ·rw[dy,dy,mE,va];omega
def _root_.Go.Vc.Gr.cells{α:Type}{u:I}{o d:Nat}{R:I->List Ce->α->Prop}{s:O}{j:List α}(p:Gr g u f o d R s j){e:α}(i:j[c]? =some e):∃a,R (bO (s.F::g) f) a e/\fN f s.F (s.off+c*d) a:=by
 obtain⟨v,n,q,b⟩:=p;obtain⟨a,h⟩:=ag (l:=n) (k:=c) (by rw[b.len];exact ax i);refine⟨a,b.dt c a e h i,λt m r=>?_⟩;have:=q.iP (c*d+t) m (fK b.size h r);rwa[<-df]at this
def Js(hS:∀c∈g,c<f.size)(z:eI f t d.aA){T:List bB}(aq:WB T p True h d)(hw:d.w<=1000000000000)(hx:0<=e/\e<(h:Int))(a6:h<=1000000000000)(j:Int):
 aO cw 272 [.agg #[O.v t,vi d.aV],vi e,vi j] f λaa m'=>∃s o,aa=.agg #[O.v s,vi o.aV]/\eI m' s o.aA/\(eI (bO g f) t d.aA->eI (bO g m') s o.aA)/\(WB T p True h o/\o.w<=d.w)/\J f m':=by
 apply Cs
 simp -zeta only[aD,aC]
 intro m w
 obtain⟨E,r⟩:=dG (a:=m) (c:=w) rfl rfl
 have s1:m.size=f.size+1:=by simp[m]
 have s2:w.size=f.size+2:=by simp[w,s1]
 clear_value w
 obtain⟨Z,aU⟩:=aq.aW
 have F:∀{ac M':I},J w ac->J w M'->∀L,af M' f.size L=af ac f.size L:=λq h' L=>aN (by rw[h'.same _ (r _ D),q.same _ (r _ D)]) L
 refine(pM (z.le E.le)).aI (J.aB w) r λn1 m3 X R _=>⟨_,rfl,F (J.aB _) R _,F (J.aB _) R _,?_⟩
 refine(CU (z.le (E.trans R).le) (y:=16) (e:=e) ⟨X.1,X.2.1⟩ λar s hi aM=>?_).aI R r λn2 m4 aP x4 N=>⟨_,rfl,?_⟩
 ·have:=X.2.2 ar s hi aM
  have:=(Z ar s hi).eR.kK V
  omega
 refine(pM (z.le (E.trans N).le)).aI N r λn3 m5 ao x5 P=>⟨_,rfl,F N P _,F N P _,?_⟩
 refine(NP (z.le (E.trans P).le) (j:=j) ⟨ao.1,ao.2.1⟩).aI P r λn4 A bb x6 v6=>⟨_,rfl,?_⟩
 have u6:=E.trans v6
 have az:∃s o,Value.agg #[O.v t,vi d.aV]=.agg #[O.v s,vi o.aV]/\eI (ai A m.size 0 [.s t,.i d.aV]) s o.aA/\(eI (bO g f) t d.aA->eI (bO g (ai A m.size 0 [.s t,.i d.aV])) s o.aA)/\(WB T p True h o/\o.w<=d.w)/\J f (ai A m.size 0 [.s t,.i d.aV]):=
  have U:=u6.ai (b:=m.size) V 0 [.s t,.i d.aV]
  ⟨t,d,rfl,z.le U.le,λq=>q.le (U.da _),⟨aq,ad _⟩,U⟩
 refine⟨λ_=>az,λh2=>⟨λ_=>az,λh4=>?_⟩⟩
 simp only[bH]at h2 h4
 have z6:=v6.size
 have al:∀c∈m.size::g,c<A.size:=λc i=>by
  rcases List.mem_cons.1 i with n|n
  ·omega
  ·have:=hS c n;omega
 refine(Hv d al (z.le u6.le) hw).mono λaa K⟨M,n,g7,x7⟩=>⟨λc i=>x7.same c (by have:=r c i;omega),_,_,n,?_⟩
 intro m8 B
 have x9:J K B:=(J.push K _).ai (ad _) _ _
 have s9:B.size=K.size+1:=by simp[B,m8,av]
 clear_value B
 have y7:=g7.bg
 have z7:=x7.size
 have g9:=g7.ext gH.mono x9
 have an:∀c∈[K.size,m.size,f.size],c<B.size/\c≠M.F:=λc i=>by simp at i;omega
 refine(iQ (c:=M.F::m.size::g) (λc i=>?_) 17 e).mono λaa aw⟨ah,au,n,aK,aL,C⟩=>⟨λc i=>C.same c (an c i).1,_,_,_,_,_,n,aN (C.same _ V) _,?_⟩
 ·rcases List.mem_cons.1 i with n|n
  ·omega
  ·have:=al c n;omega
 have ak:=g9.ext gH.mono C
 have bg:=ak.len bh
 obtain⟨ba,so,Y,bc,a7⟩:=aP.2 V
 have aB:J A aw:=(x7.trans x9).trans C
 have aR:=ax Y
 obtain⟨a0,W,aG,aY⟩:=Gr.set (k:=n2.toNat) (cs:=[.i 17,.i 0,.i 0,.s ah,.s au]) (a:=eQ 17 e) gH.mono ak (aB.fz []) aR ⟨ah,au,rfl,aK,aL⟩
 refine⟨V,V,a0,?_⟩
 intro G
 have uG:=C.size
 have bi:G.size=aw.size:=av _ _ _ _
 refine⟨λc i=>aY c (an c i).2,V,V,?_⟩
 have aV:=Z _ so Y
 have w1:=aV.eR.kK (Or.inl V)
 have d1:dn (eQ 17 e)=dn so:=by
  unfold dn;rw[ae (λq:oZ _=>by have:=q.2;simp only[eQ]at this;omega),ae (λq:oZ _=>by have:=q.2;omega)]
 obtain⟨aA,a2,bk⟩:=Tp Z Y (Dg (c:=17) (v:=e) bh ⟨hx.1,V⟩) d1
 have be:=cR.mf so
 have a9:(eQ 17 e).w=2:=rfl
 obtain⟨y,hy⟩:=ag (l:=d.aA.set n2.toNat (eQ 17 e)) (k:=n4.toNat) bJ
 have a_:=W.len bh
 obtain⟨a5,⟨pa,pk,rfl,aS,aT⟩,jg⟩:=W.cells hy
 have e0:=jg 0 _ rfl;have e1:=jg 1 _ rfl;have e2:=jg 2 _ rfl;have e3:=jg 3 _ rfl;have e4:=jg 4 _ rfl
 refine⟨_,e0,_,e1,_,e2,_,e3,_,e4,?_⟩
 intro aW H
 have Q:J G H:=(J.push G _).ai (ad _) _ _
 have bj:H.size=G.size+1:=by simp[H,aW,av]
 clear_value H
 have aI:=W.ext gH.mono Q
 have aF:cW (1+e)=1+e:=aQ V V
 rw[aF]
 have aE:=(aG.then Q)
 obtain⟨a1,aJ,aH,aZ⟩:=Gr.set (k:=n4.toNat) (cs:=[.i y.op,.i y.bN,.i (1+e),.s pa,.s pk]) (a:=⟨y.op,y.bN,1+e,y.args,y.bE⟩) gH.mono aI aE bJ ⟨pa,pk,rfl,ap.le (Q.da _) aS,nD.le (Q.da _) aT⟩
 refine⟨V,V,a1,?_⟩
 intro ay
 have u:=aA _ y hy
 obtain⟨a4,a3,bl⟩:=Tp (a:=⟨y.op,y.bN,1+e,y.args,y.bE⟩) aA hy ⟨⟨u.eR.op,u.eR.args,u.eR.kK,⟨by show 0<=1+e;omega,by show 1+e<=_;omega⟩,u.eR.JA,u.eR.all,u.eR.call⟩,u.bE⟩ rfl
 refine⟨λc i=>aZ c (by simp at i;omega),?_⟩
 intro aX
 have bf:(⟨y.op,y.bN,1+e,y.args,y.bE⟩:cR).w=y.w:=rfl
 have a8:=Bk.mf d
 have bd:=fO d.aA
 have ab:eI (bO (m.size::g) ay) M _:=aJ.nE gH.mono (S:=m.size::g) (λi=>by
  rcases List.mem_cons.1 i with n|n
  ·omega
  ·have:=hS _ n;omega) bh bJ
 have am:Le (bO (m.size::g) ay) (bO g aX):=cz D λc i=>aj _ i
 refine⟨M,.mk _ d.aV,rfl,(ab.le am).le (bD _ _),λ_=>ab.le am,⟨.of a4 (by rw[a3,a2];exact aU),?_⟩,(u6.trans aH.ext).ai V _ _⟩
 rw[Bk.qA];omega
end
def R1(c:List bB)(d:List gC)(N:Nat):Prop:=∀(b:Bk),b.w<=N->∀(S:List Nat)(m:I),(∀a∈S,a<m.size)->∀(f r t kj:O)(l:List Int)(a:Nat),eD m f r c d->eI m t b.aA->ap m kj l->WB c d.length True a b->a+4*b.w<=1000000000000->l.length+4*b.w<=1000000000000->
 nk 230 [.agg #[O.v f,O.v r],.agg #[O.v t,vi b.aV],O.v kj] m S λe=>WB c d.length True a e/\e.w<=b.w
def Jt{H:List Nat}{m:I}(hS:∀c∈H,c<m.size){Y ak pa pk kj:O}{n:List bB}{E:List gC}{a:cR}{B:List Int}{K:Nat}(t:eD m Y ak n E)(ha:ap m pa a.args)(hk:nD m pk a.bE)(P:ap m kj B)(hw:WS n E.length True K a)(hb:K+4*a.w<=1000000000000)(a5:B.length+4*a.w<=1000000000000){p:Nat}{i:Bk}(aa:a.bE[p]? =some i)(ih:R1 n E i.w):
 nk 246 [.agg #[O.v Y,O.v ak],oW a pa pk,vi p,O.v kj] m H λo=>WB n E.length True (K+Be n a.op a.bN p) o/\o.w<=i.w:=by
 apply Ct
 simp -zeta only[aD,aC]
 intro ae v b
 obtain⟨f,hl,s1,h,s3⟩:=pX (a:=ae) (b:=v) (c:=b) rfl rfl rfl
 clear_value b
 obtain⟨ao,ht,f0,f1⟩:=hk.E aa
 have a3:=ax aa
 have a4:=hk.len
 have aZ:=ha.len
 have a8:=cR.mf a
 have a1:=wH aa
 have al:=hw.bE p i aa
 have a2:=i.Gq
 have aK:∀{M:I},J b M->∀c∈v.size::H,c<M.size:=λxx c d=>by
  have:=xx.size;rcases List.mem_cons.1 d with e|e
  ·omega
  ·have:=hS c e;omega
 have ic:∀(M:I)(kp y:O)(l':List Int)(o:Bk)(Lx:List Nat),J m M->J b M->(∀c∈Lx,c<M.size)->eI M y o.aA->ap M kp l'->l'.length<=B.length+1->WB n E.length True (K+Be n a.op a.bN p) o->o.w<=i.w->
  aO cw 230 [.agg #[O.v Y,O.v ak],.agg #[O.v y,vi o.aV],O.v kp] M λz u=>eE Lx M u/\∃(h:O)(j:Bk),z=.agg #[O.v h,vi j.aV]/\∀g,g=ai u v.size 0 [.s h,.i j.aV]->∃s3 X,(Value.agg #[O.v h,vi j.aV])=.agg #[O.v s3,vi X.aV]/\eI (bO H g) s3 X.aA/\(WB n E.length True (K+Be n a.op a.bN p) X/\X.w<=i.w)/\J m g:=λM kp y l' o Lx xm aX aJ hs aQ a6 aU aT=>by
  have h3:=PQ t.types a.op a.bN p
  refine(ih o aT (v.size::H) M (aK aX) Y ak y kp l' _ (t.le xm.le) hs aQ aU V V).mono λz u⟨h,j,e,aS,aL,x'⟩=>⟨x'.dm aJ,h,j,e,λg aw=>⟨h,j,rfl,?_,⟨aL.1,V⟩,?_⟩⟩
  ·rw[aw];exact aS.le (cz D λc d=>aj _ d)
  ·rw[aw];exact(xm.trans x').ai V _ _
 refine⟨λL=>?_,λL=>?_⟩
 ·refine⟨V,V,_,f.af f0,_,f.af f1,?_⟩
  refine(ic b kj ao B i _ f (J.aB _) hl (ht.le f.le) (P.ext f) V al (ad _)).mono λz u⟨r,h,j,e,s⟩=>⟨r,_,_,e,?_⟩
  intro g
  exact s g rfl
 ·have L:a.op=8:=by simpa using L
  obtain⟨a0,_⟩:=hw.eR.all L
  have aY:=hw.eR.kK (Or.inr (Or.inr L))
  obtain⟨F,hy⟩:=ag (l:=a.args) (k:=0) V
  obtain⟨y0,y1⟩:=hw.eR.args F (ar hy)
  refine⟨bh,V,F,(ha.ext f).E hy,V,V,_,f.af f0,_,f.af f1,?_⟩
  intro m4 w
  have x5:J b w:=(J.push b _).ai (ad _) _ _
  have s5:w.size=b.size+1:=by simp[w,m4,av]
  clear_value w
  have R:=f.trans x5
  have A:∀{M:I},J w M->∀c∈[b.size,v.size,ae.size,m.size],c<M.size:=λxx c d=>by have:=xx.size;simp at d;omega
  refine(dp (P.ext R) F).any.aI (J.aB w) (A (J.aB _)) λbb m6 q _=>⟨_,rfl,λ_=>?_,λ_=>?_⟩
  ·have T:=R.trans q
   obtain⟨cn,aM⟩:=ag (l:=cq n a.bN) (k:=p) V
   have G:∀{M M':I},J w M->J M M'->∀c∈[b.size,v.size,ae.size,m.size],∀ah,af M' c ah=af M c ah:=λZ h' c d ah=>aN (h'.same c (A Z c d)) ah
   refine(gU (e:=[]) D (t.aT.le T.le) t.types a.bN).aI q (A (J.aB _)) λs7 l7 m7 ac e x7 v7=>⟨_,rfl,G q x7 _ D _,G q x7 _ D _,G q x7 _ D _,?_⟩
   subst e
   have ac:=ac.le (bD _ _)
   have l7:=ac.len
   refine⟨V,V,cn,ac.E aM,?_⟩
   refine(dH (e:=[]) D (t.aT.le ((R.trans v7).le.trans (zJ _))) t.types cn).aI v7 (A (J.aB _)) λs8 l8 m8 a7 e x8 v8=>⟨_,rfl,G v7 x8 _ D _,G v7 x8 _ D _,?_⟩
   subst e
   have u8:=R.trans v8
   have z8:=v8.size
   have h3:=PQ t.types a.op a.bN p
   have ay:eI (bO [b.size] m8) ao i.aA:=ht.le ((zJ m).trans (u8.bO λc d=>Or.inr (by simp at d;omega)))
   refine(Js (g:=[b.size]) bJ (ay.le (bD _ _)) al V (e:=F) ⟨y0,V⟩ V (s8.len:Int)).mono λz m9⟨s9,b9,e,_,an,N,x9⟩=>⟨λc d=>x9.same c (A v8 c d),_,_,e,?_⟩
   have an:=an ay
   intro C
   have v9:=v8.trans x9
   have au:J b C:=(x5.trans v9).ai V _ _
   have ab:eI C s9 b9.aA:=(an.le (cz (a:=[b.size]) D λ_ Z=>Z)).le (bD _ _)
   have bc:C.size=m9.size:=av _ _ _ _
   have z9:=v9.size
   have Q:∀{M:I},C.size<=M.size->∀c∈[b.size,v.size,ae.size,m.size],c<M.size:=λZ c d=>by simp at d;omega
   clear_value C
   refine(pM ab).aI (J.aB C) (Q (ad _)) λa_ a9 am aH _=>⟨_,rfl,?_⟩
   obtain⟨aV,_⟩:=N.1.aW
   refine(CU (ab.le aH.le) (y:=17) (e:=F) ⟨am.1,am.2.1⟩ λaz y hj aR=>?_).aI aH (Q (ad _)) λba aW _ bd U=>⟨_,rfl,λ_=>?_,λ_=>?_⟩
   ·have:=am.2.2 az y hj aR
    have:=(aV az y hj).eR.kK V
    omega
   ·have W:=au.trans U
    refine(mr (S:=[]) D ((P.ext (f.trans W)).le (zJ _)) F V).aI U (Q (ad _)) λaF aA aB aI aE be aq=>⟨_,rfl,?_⟩
    have aG:=au.trans aq
    have aP:ap aB aF aA:=(aI.done D (by have:=aE.2;omega)).le (bD _ _)
    refine(ic aB aF s9 aA b9 _ (f.trans aG) aG (Q aq.size) (ab.le aq.le) aP aE.2 N.1 N.2).mono λz u⟨r,h,j,e,s⟩=>⟨r,_,_,e,?_⟩
    intro g
    exact s g rfl
   ·have W:=au.trans U
    refine(ic aW kj s9 B b9 _ (f.trans W) W (Q U.size) (ab.le U.le) (P.ext (f.trans W)) V N.1 N.2).mono λz u⟨r,h,j,e,s⟩=>⟨r,_,_,e,?_⟩
    intro g
    exact s g rfl
  ·have T:=R.trans q
   refine(ic m6 kj ao B i _ T (x5.trans q) (A q) (ht.le T.le) (P.ext T) V al (ad _)).mono λz u⟨r,h,j,e,s⟩=>⟨r,_,_,e,?_⟩
   intro g
   exact s g rfl
section
variable{c:List gC}
def R1.fg{b:List bB}{N a:Nat}(h:R1 b c N)(e:a<=N):R1 b c a:=λd f=>h d (cg f e)
def FY{R:List bB}:∀Q:Nat,R1 R c Q:=by
 intro Q;induction Q with
 |zero=>intro z hb;have:=z.Gq;omega
 |succ Q w=>
 intro z hb u X hS aM a8 a9 kj a6 ak hn hs ay aH aQ aW;obtain⟨aA,E⟩:=z;have an:=aH.aW;rw[Bk.qA]at*;simp only[Bk.jN,Bk.jd]at*;apply yN;simp -zeta only[aD,aC];intro Y p h f m5 N;obtain⟨x3,hl,s1,s2,s3⟩:=pX (a:=Y) (b:=p) (c:=h) rfl rfl rfl;have s4:f.size=h.size+1:=by simp[f]
 have ao:J f N:=(J.push f _).ai (ad _) _ _;have aK:J h N:=(J.push h _).trans ao;have g0:GS (f.size::p.size::u) h N (.mk h.size 0 0 0) []:=(GS.new _ h).ext gH.mono ao;have B0:cF N f.size de [.s (.mk h.size 0 0 0),.i E]:=cF.ai (m:=m5) (o:=0) (r:=[.s (.mk h.size 0 0 0),.i E]) (cF.push f _ _);have aq:∀d∈p.size::u,d<h.size:=bR hS x3.size (hl _ D);clear_value N;clear_value h;have az:=hs.len;have aE:=AZ aA;have a0:=fO aA;refine eU (n:=aA.length) (az▸hs.fS) (λt M=>J h M/\∃s y,GS (f.size::p.size::u) h M s y/\cF M f.size de [.s s,.i E]/\y.length=t/\WL R c.length True ak y/\dc y=dc (aA.take t)/\sw y<=sw (aA.take t)) ⟨aK,_,[],g0,B0,rfl,WL.nil _ _ _ _,D,D⟩ ?_;rintro t M aL μ hk ⟨xM,s,y,T,F,aY,wl,U,aF⟩ aJ
 have B:=x3.trans xM;have aV:∀{v:I},h.size<=v.size->∀d∈[p.size,Y.size,X.size],d<v.size:=λC d e=>aP (hl d e) C;have hy:=T.bg;have zM:=xM.size;have aO:=F.lt;refine dit (λC=>?_) λC=>?_
 ·obtain⟨x,H⟩:=ag (l:=aA) (k:=t) V;obtain⟨pa,pk,ha,ac,e0,e1,e2,e3,e4⟩:=hs.E H;have a3:=NX H;have a5:=cR.mf x;have aR:=pY x.bE;have a4:=pN H;have a2:=qF H;have ah:=an.1 t x H;have aT:=sP (aA.take t);have aZ:=fO (aA.take t);have a1:=aE (t+1);refine⟨V,V,_,B.af e0,_,B.af e1,_,B.af e2,_,B.af e3,_,B.af e4,?_⟩;intro m7 q m9;have x8:J M q:=(J.push M _).ai (ad _) _ _;have s8:q.size=M.size+1:=by simp[q,m7,av]
  have x9:J q m9:=J.push _ _;have ap:GB (s.F::f.size::p.size::u) q m9 (.mk q.size 0 0 0) []:=GB.new _ q;clear_value m9;clear_value q;have aa:∀d∈s.F::f.size::p.size::u,d<q.size:=λd e=>by
   simp only[aU]at e;rcases e with g|g|g|g
   ·omega
   ·omega
   ·omega
   ·have:=hS d g;omega
  have ae:=ac.len;refine dU (n:=x.bE.length) (ae▸ac.fS) (λK W v=>J q v/\∃j,GB (s.F::f.size::p.size::u) q v W j/\j.length=K/\(∀(A:Nat)(z:Bk),j[A]? =some z->WB R c.length True (ak+dc (aA.take t)+Be R x.op x.bN A) z)/\bw j<=bw (x.bE.take K)) ⟨x9,[],ap,rfl,D,D⟩ ?_;rintro K W P I2 μ2 hj ⟨O,j,gk,aX,am,au⟩ aI;have G:J X P:=B.trans (x8.trans O);have yk:=gk.bg;have z2:=O.size;have af:∀{v:I},q.size<=v.size->∀d∈[M.size,p.size,Y.size,X.size],d<v.size:=λC d e=>by simp at e;omega
  refine dit (λh2=>?_) λh2=>?_
  ·obtain⟨z,Z⟩:=ag (l:=x.bE) (k:=K) V;have aS:=wH Z;have ar:=ue Z;refine(Jt (H:=W.F::s.F::f.size::p.size::u) (λd e=>?_) (hn.le G.le) (ha.ext G) (ac.le G.le) (ay.ext G) ah V V Z (w.fg V)).aI (J.aB P) (af z2) λss b' a7 aB al ai _=>⟨_,_,rfl,?_⟩
   ·rcases List.mem_cons.1 e with g|g
    ·omega
    ·have:=aa d g;omega
   refine GB.kv (c:=b') (gk.ext rC.mono ai) ((O.trans ai).fz []) aB V λr' v g2 f2 a_ q2=>⟨J.oC ((O.trans ai).aK _) f2.ext (af (ad _)),aI V _ _ ⟨f2.ext,_,g2,bJ,λA b2 w=>?_,?_⟩⟩
   ·rcases be A j.length with ab|ab
    ·rw[aw ab]at w;exact am A b2 w
    ·rw[aG ab]at w;have:A -j.length=0:=by have:=ax w;simp at this;omega
     rw[this]at w;simp at w;subst w;have:A=K:=V;subst this;exact al.1
   ·rw[oL,ud,zk,ar];have:=al.2;omega
  ·have ab:j.length=x.bE.length:=V;rw[cN V]at au;have X8:J M P:=x8.trans O;have Z:=F.ext X8;have G2:=T.ext gH.mono X8;refine⟨s,Z.cp 0,?_⟩;refine(bP (s.F::f.size::p.size::u) (ha.ext G) V).aI (J.aB P) (af z2) λs' l' ai ga g w _=>⟨_,rfl,aN (w.same _ V) _,aN (w.same _ V) _,aN (w.same _ V) _,aN (w.same _ Z.lt) _,?_⟩;subst g;intro al;refine Gr.box (g:=[.i 0,.i 0,.i 0,.s .nil,.s .nil]) (L:=[M.size,p.size,Y.size,X.size]) (j:=0) (z:=72) (o:=[.s s,.i E]) (y:=⟨x.op,x.bN,x.bW,x.args,j⟩) gH.mono bh (G2.ext gH.mono w) (((xM.trans X8).trans w).fz []) ⟨s',W,rfl,(ga.done (λd e=>by have:=aa d e;omega) V),nD.le (w.da _) (gk.done rC.mono aa bh (by show j.length<=_;omega))⟩ V (Z.ext w) D bh ⟨V,D⟩ (λd e=>by have h1:=w.size;simp at e;omega) λr' m' g' B' f' z' q'=>aJ V _ ⟨f'.ext,r',_,g',B',bJ,wl.yy (ah.OY id ah.eR.bW ab am|>λC=>by rw[U];exact C),?_,?_⟩
   ·rw[cT,kC,sQ,U];have g:dn (⟨x.op,x.bN,x.bW,x.args,j⟩:cR)=dn x:=rfl;omega
   ·rw[dy,mE,va];have h5:(⟨x.op,x.bN,x.bW,x.args,j⟩:cR).w=1+x.args.length+bw j:=cR.mf _;omega
 ·have ae:t=aA.length:=V;subst ae;rw[eZ]at U aF;refine⟨s,F.cp 0,E,F.cp 1,?_⟩;intro m7;have j:Le (bO (f.size::p.size::u) M) (bO u m7):=cz D λd e=>aj _ (aj _ e);have q:=T.ne F bh;refine⟨s,.mk y E,rfl,eI.le j (T.nE gH.mono (λe=>?_) bh (by show y.length<=_;omega)),⟨.of wl (by rw[U];exact an.2),by rw[Bk.qA];omega⟩,B.ai V _ _⟩;rcases List.mem_cons.1 e with g|g
  ·exact q g
  ·have:=aq _ g;omega
def Mg{f:List Nat}{e:I}(Y:∀a∈f,a<e.size){v w:O}{r:List bB}(t:eD e v w r c){W:Nat}(hW:W<=200000000000)(hk:yd r c True W):uH 197 [.agg #[O.v v,O.v w]] e f r λK=>yd r K True W:=by
 apply FZ;simp -zeta only[aD,aC];intro g a2;obtain⟨L,F⟩:=dG (a:=g) (c:=a2) rfl rfl;have s1:g.size=e.size+1:=by simp[g]
 clear_value a2;have au:=t.iJ.len;have aE:=t.om;refine(fJ (b:=g.size::f) (bR Y L.size (F _ D)) (t.le L.le).aT t.types).mono λ_ ab⟨ak,s,al,N⟩=>?_;subst s;refine⟨N.dm F,_,rfl,?_⟩;intro ac ay aj;have u2:=L.trans N;obtain⟨x5,B0,g0,s3,s5⟩:=kO (b:=ac.size::g.size::f) iC.mono (d:=ab) (a:=ac) (c:=ay) (h:=aj) rfl rfl rfl;clear_value aj;have H:∀a∈[g.size,e.size],a<ab.size:=λa j=>N.lt (F a j);have Z:∀a∈g.size::f,a<ab.size:=λa j=>N.lt (bR Y L.size (F _ D) a j);refine kJ (R:=λb d M=>∃v w K,Value.agg #[O.v b,O.v d]=.agg #[O.v v,O.v w]/\eD (bO f M) v w r K/\yd r K True W/\J e M) (t:=c.length) (f:=e) (b:=f) iC.mono bh bh Y ⟨V,H _ D⟩ u2 s3 al au V x5 B0 g0 (λ_ q=>q.params.length<=3/\q.cJ.length<=3/\WB r c.length True q.params.length q.body/\q.body.w<=W) (λb o aa p h1 h2 d h i=>⟨b,o,aa,rfl,⟨h1,h2,t.types,V⟩,Ha hk.iL d h,i⟩) λax M st aa aA μ am aB P ae Q az=>?_
 obtain⟨q,hq⟩:=ag (l:=c) (k:=ax) am;obtain⟨aq,ao,aw,hw⟩:=hk.dt q (ar hq);have E:=u2.trans P;obtain⟨aF,aG,b,c1,c2,c3,T,U,X,z,A⟩:=t.iJ.E hq;have G:∀{x:Value}{b o:Nat},af e b o=some x->af M b o=some x:=λh=>E.af h;refine⟨st,Q.cp 1,V,V,_,G T,_,G U,_,G X,_,G z,_,G A,V,V,_,G z,_,G A,?_⟩;intro i;have hy:=ae.bg;have ah:=Q.lt;have zM:=P.size;have d:J M i:=J.push _ _;have s7:i.size=M.size+1:=by simp[i]
 have an:ap i (.mk M.size 0 0 0) []:=my _ _ _ _ _ _;clear_value i;have p:∀{x:Value}{b o:Nat},af e b o=some x->af i b o=af M b o:=λh=>by rw[d.af (G h),G h]
 have C:∀{b o:Nat},b<M.size->af i b o=af M b o:=λh=>aN (d.same _ h) _;have B:e.size<M.size:=P.lt (H _ D);refine⟨p z,p A,C B,C B,C B,p T,p U,p X,p z,p A,C B,C ah,?_⟩;refine(FY q.body.w q.body (ad _) (st.F::ac.size::g.size::f) i (λa j=>?_) v w b (.mk M.size 0 0 0) [] q.params.length (t.le (E.trans d).le) (c3.le (E.trans d).le) an aw V bJ).aI (P.trans d) H λss b' M1 av ai u u1=>⟨_,_,rfl,?_⟩
 ·simp only[aU]at j;rcases j with s|s|s|s
  ·omega
  ·omega
  ·have:=Z a (by simp[s]);omega
  ·have:=Z a (by simp[s]);omega
 have y:∀{x:Value}{b o:Nat},af e b o=some x->af M1 b o=af i b o:=λh=>by rw[u.af (d.af (G h)),d.af (G h)]
 refine⟨y T,y U,y X,y z,y A,aN (u.same _ (d.lt B)) _,aN (u.same _ (d.lt ah)) _,?_⟩;exact vL (b:=g.size::f) (v:=ak) (x:=aa) Z (λa j=>by have h1:=H a j;have h2:=u1.size;omega) u1 (ae.ext iC.mono (d.trans u)) (Q.ext (d.trans u)) V (c1.ext (E.trans (d.trans u))) (c2.ext (E.trans (d.trans u))) av ⟨V,V⟩ V λs' M' g' B' x'=>az s' M' _ g' B' x' ⟨aq,ao,ai.1,cg ai.2 hw⟩
end
section
variable{m:I}{t:O}{b:Bk}{a:List Nat}
def QG(a:Int)(l:List cR):Nat:=l.countP λs=>s.op=a
def Xf:∀l:List cR,QG 14 l+QG 15 l<=l.length
 |[]=>by simp[QG]
 |s::l=>by
  have:=Xf l;simp only[QG,List.countP_cons,aY]at this⊢;by_cases h:s.op=14
  ·simp[h];omega
  ·by_cases a:s.op=15
   ·simp[a];omega
   ·simp[h,a];omega
def Sk(a:Int)(l:List cR)(s:cR):QG a (l++[s])=QG a l+(if s.op=a then 1 else 0):=by
 simp[QG,List.countP_append,List.countP_cons]
def HR(j:eI m t b.aA):sM 269 [.agg #[O.v t,vi b.aV]] m λc=>0<=c/\c<=b.aA.length/\∀(i:Nat)(a:cR),b.aA[i]? =some a->(i:Int)<c->a.op=14\/a.op=15:=by
 apply AK;simp -zeta only[aD,aC];intro d;have L:J m d:=J.push _ _;have D:∀s∈[m.size],s<d.size:=by simp[d]
 clear_value d;have E:=j.len;refine eU (n:=b.aA.length) (E▸j.fS) (λc M=>J d M/\∀(i:Nat)(a:cR),b.aA[i]? =some a->i<c->a.op=14\/a.op=15) ⟨J.aB _,λi a _ h=>V⟩ ?_;rintro c M S μ X ⟨q,p⟩ H
 have u:=L.trans q;have R:∀{o:I},J m o->∃g:Int,vi (c:Int)=vi g/\(0<=g/\g<=b.aA.length/\∀(i:Nat)(a:cR),b.aA[i]? =some a->(i:Int)<g->a.op=14\/a.op=15)/\J m o:=λP=>⟨c,rfl,⟨V,V,λi a e h=>p i a e V⟩,P⟩;refine⟨λh=>?_,λh=>R u⟩;simp only[au]at h;obtain⟨a,e⟩:=ag (l:=b.aA) (k:=c) V;obtain⟨r,G,U,Y,w,y,z,A,B⟩:=j.E e;refine⟨V,V,_,u.af w,_,u.af y,_,u.af z,_,u.af A,_,u.af B,?_⟩;refine(Ap (x:=a) r G M).aI q D λT Z C N K=>⟨_,rfl,λF=>H V _ ⟨K,λi Q f W=>?_⟩,λ_=>R (u.trans N)⟩;by_cases v:i=c
 ·subst v;rw[e]at f;simp at f;subst f;exact C.1 F
 ·exact p i Q f V
def xO(Q:∀j∈a,j<m.size)(F:eI m t b.aA){f:Nat}(hm:f<=b.aA.length)(g:Int)(P:∀(i:Nat)(s:cR),b.aA[i]? =some s->i<f->0<s.args.length)(hb:b.aA.length<=1000000000000):
 kT 270 [.agg #[O.v t,vi b.aV],vi f,vi g] m a λe=>(∀y∈e,∃(i:Nat)(s:cR),i<f/\b.aA[i]? =some s/\y∈s.args)/\e.length<=QG g (b.aA.take f):=by
 apply BO
 simp -zeta only[aD,aC]
 intro d A
 have B:J m d:=J.push _ _
 have R:∀j∈[m.size],j<d.size:=by simp[d]
 have T:J d A:=J.push _ _
 have N:GI a d A (.mk d.size 0 0 0) []:=GI.nil a d
 clear_value A
 clear_value d
 have ad:=F.len
 refine dU (n:=f) V (λc s M=>J d M/\∃e,GI a d M s e/\(∀y∈e,∃(i:Nat)(s:cR),i<f/\b.aA[i]? =some s/\y∈s.args)/\e.length<=QG g (b.aA.take c)) ⟨T,[],N,D,D⟩ ?_
 rintro c s M W μ hk ⟨r,e,v,z,S⟩ H
 have u:=B.trans r
 refine dit (λw=>?_) λw=>?_
 ·obtain⟨x,q⟩:=ag (l:=b.aA) (k:=c) V
  obtain⟨Y,kk,E,ac,I,Z,e2,K,e4⟩:=F.E q
  have aa:=E.len
  have:=P c x q V
  obtain⟨y,G⟩:=ag (l:=x.args) (k:=0) V
  have p:QG g (b.aA.take (c+1))=QG g (b.aA.take c)+(if x.op=g then 1 else 0):=by rw[bn q,Sk]
  have ab:QG g (b.aA.take c)<=(b.aA.take c).length:=List.countP_le_length
  have af:=qC c b.aA
  refine⟨V,V,_,u.af I,λo=>⟨V,V,_,u.af K,bh,V,y,(E.ext u).E G,?_⟩,λo=>H V _ _ ⟨r,e,v,z,?_⟩⟩
  ·intro m3
   simp only[aF]at o
   rw[ao o]at p
   refine GI.kv v (r.fz []) (λj p=>B.lt (Q j p)) V λah X L C _ _=>⟨J.oC (r.aK _) C.ext R,H V _ _ ⟨C.ext,_,L,λU h=>?_,bJ⟩⟩
   rcases List.mem_append.1 h with h|h
   ·exact z U h
   ·simp at h;subst h;exact⟨c,x,V,q,ar G⟩
  ·simp only[ak]at o
   rw[ae o]at p;omega
 ·have h:c=f:=V
  subst h
  exact⟨s,e,rfl,v.bY (λ_ w=>w) B.size,⟨z,S⟩,u⟩
def QH:∀{l:List cR},(∀x∈l,dn x=0)->dc l=0
 |[],_=>rfl
 |x::l,h=>by rw[kC,h x ba,QH λy a=>h y (aj _ a)]
def Tc:∀{l:List cR},(∀x∈l,2<=x.w)->2*l.length<=sw l
 |[],_=>D
 |x::l,h=>by
  have b:=h x ba;have c:=Tc λy a=>h y (aj _ a);rw[mE,aY];omega
def KZ(hS:∀d∈a,d<m.size){aa:O}{u:List Int}{ds:List bB}{nr o:Nat}(q:eI (bO a m) t b.aA)(hf:ap m aa u)(bq:u.length<=3)(aq:WB ds nr True (o+u.length) b)(hw:b.w<=100000000000)(ha:o<=1000000000000){p:Int}(hx:0<=p/\p<(o:Int)):
 nk 245 [.agg #[O.v t,vi b.aV],vi p,O.v aa,vi o] m a λb'=>WB ds nr True (o+u.length) b'/\b'.w<=b.w+8:=by
 apply Eg
 simp -zeta only[aD,aC]
 intro r X
 obtain⟨E,F⟩:=dG (a:=r) (c:=X) rfl rfl
 have s1:r.size=m.size+1:=by simp[r]
 have s2:X.size=m.size+2:=by simp[X,s1]
 clear_value X
 obtain⟨ar,aO⟩:=aq.aW
 have ao:=q.le (bD _ _)
 have bn:=Bk.mf b
 have bw:=fO b.aA
 have aR:=q.len
 have bp:=q.cap
 have br:=hf.len
 refine(HR (ao.le E.le)).aI (J.aB X) F λmn m3 a8 x3 _=>⟨_,rfl,?_⟩
 obtain⟨c,a6⟩:∃c:Nat,mn=c:=⟨mn.toNat,V⟩
 subst a6
 have aM:∀(e:Nat)(s:cR),b.aA[e]? =some s->e<c->s.op=14\/s.op=15:=λe s A aJ=>a8.2.2 e s A V
 have an:∀(e:Nat)(s:cR),b.aA[e]? =some s->e<c->0<s.args.length:=λe s A aJ=>by
  have:=aM e s A aJ;have:=(ar e s A).eR.kK V;omega
 have u3:=E.trans x3
 refine(xO (a:=[]) D (ao.le u3.le) (f:=c) V 14 an V).aI x3 F λsd K m4 gd hd x4 v4=>⟨_,rfl,?_⟩
 refine(xO (a:=[]) D (ao.le (E.trans v4).le) (f:=c) V 15 an V).aI v4 F λsr U m5 gr hr x5 v5=>⟨_,rfl,?_⟩
 have bo:=Xf (b.aA.take c)
 have bz:(b.aA.take c).length=c:=bJ
 have aP:ap m5 sr U:=(gr.done D V).le (bD _ _)
 refine(dp aP p).aI v5 F λbl m6 bm x6 C=>⟨_,rfl,λ_=>?_,λbs=>⟨λ_=>?_,λa9=>?_⟩⟩
 ·exact⟨t,b,rfl,q.le (((E.trans C).ai V _ _).da _),⟨aq,V⟩,(E.trans C).ai V _ _⟩
 ·exact⟨t,b,rfl,q.le (((E.trans C).ai V _ _).da _),⟨aq,V⟩,(E.trans C).ai V _ _⟩
 have bt:0<u.length:=by simp only[ak]at a9;omega
 have aK:∀s∈b.aA.take c,∃e:Nat,e<c/\b.aA[e]? =some s:=λs q=>by
  obtain⟨e,A⟩:=List.mem_iff_getElem?.1 q;have:=ax A;rw[dC V]at A;exact⟨e,V,A⟩
 have aH:dc (b.aA.take c)=0:=QH λs q=>by
  obtain⟨e,h1,Q⟩:=aK s q;have:=aM e s Q h1;exact ae λab:oZ s.op=>by have:=ab.2;omega
 have bv:2*c<=sw (b.aA.take c):=by
  have:=Tc (l:=b.aA.take c) λs q=>by
   obtain⟨e,h1,Q⟩:=aK s q;have:=an e s Q h1;have:=cR.mf s;omega
  omega
 have bx:sw b.aA=sw (b.aA.take c)+sw (b.aA.drop c):=by rw[<-dy,dg]
 have a3:dc b.aA=dc (b.aA.take c)+dc (b.aA.drop c):=by rw[<-cT,dg]
 have WK:∀y:Int,(∃(e:Nat)(s:cR),e<c/\b.aA[e]? =some s/\y∈s.args)->0<=y/\y<((o+u.length:Nat):Int):=λy⟨e,s,h1,Q,h3⟩=>by
  have h4:=(ar e s Q).eR.args y h3;have h5:=Sn (b.aA.take c) e;rw[Lp,iO V]at h5;omega
 refine(rY (S:=[]) D ((aP.ext x6).le (zJ _)) p V).aI C F λbf bb m8 aG aL x8 v8=>⟨_,rfl,?_⟩
 have y2:=aG.bg
 have u6:=E.trans C
 have bY:=x8.size
 have a_:ap (bO [bf.F] m8) sd K:=((gd.done D V).le (bD _ _)).le (((x5.trans x6).le.trans (zJ m6)).trans (x8.bO λd f=>Or.inr (by simp at f;omega)))
 refine wK (n:=u.length) V (λh sd sr M=>J m6 M/\∃K U,ap (bO [sr.F] M) sd K/\GI [] m6 M sr U/\(∀y∈K,0<=y/\y<((o+u.length:Nat):Int))/\K.length<=QG 14 (b.aA.take c)/\(∀y∈U,0<=y/\y<((o+u.length:Nat):Int))/\U.length<=QG 15 (b.aA.take c)+h) ⟨x8,K,bb,a_,aG,λy T=>WK y (hd.1 y T),hd.2,λy T=>WK y (hr.1 y (aL.1 y T)),by have:=aL.2;have:=hr.2;omega⟩ ?_
 rintro h L G w az μ hk ⟨N,ai,W,R,P,ac,aI,ah,bu⟩ av
 have Y:=u6.trans N
 have y3:=P.bg
 have v:∀d∈[r.size,m.size],d<w.size:=λd f=>N.lt (C.lt (F d f))
 refine⟨λab=>?_,λab=>?_⟩
 ·simp only[au]at ab
  obtain⟨y,T⟩:=ag (l:=u) (k:=h) V
  have ew:cW ((o:Int)+(h:Int))=(o:Int)+h:=aQ V V
  rw[ew]
  have am:∀{M:I},J w M->af M aa.F (aa.off+Int.toNat (h:Int)*1)=some (vi y):=λz=>(hf.ext (Y.trans z)).E T
  have aB:∀{M:I},J w M->az L G (cW ((h:Int)+1)) M/\μ L G (cW ((h:Int)+1)) M<μ L G h w:=λz=>av V _ _ _ ⟨N.trans z,ai,W,R.le (z.da _),P.ext z,ac,aI,ah,V⟩
  have Nw:∀{M:I},J w M->jE (M.push (.cells (bG [.i ((o:Int)+h)]) aE)) aE [.i 0] 8 G (.mk M.size 0 1 1) λay Z=>eE [r.size,m.size] (M.push (.cells (bG [.i ((o:Int)+h)]) aE)) Z/\az L ay (cW ((h:Int)+1)) Z/\μ L ay (cW ((h:Int)+1)) Z<μ L G h w:=λ{M} z=>by
   refine GI.kv (P.ext z) ((N.trans z).fz []) D V λay Z g' f' z' q'=>⟨J.oC ((N.trans z).aK _) f'.ext (λd f=>C.lt (F d f)),av V _ _ _ ⟨f'.ext,ai,_,(R.le (z.da _)).le (px λd f hn=>?_),g',ac,aI,λal B=>?_,bJ⟩⟩
   ·simp at hn;refine⟨?_,q' d f hn⟩;simp;rcases z'.2 with g|g<;>omega
   ·rcases List.mem_append.1 B with B|B
    ·exact ah al B
    ·simp at B;omega
  refine⟨V,V,y,am (J.aB _),λ_=>?_,λ_=>⟨V,V,y,am (J.aB _),λ_=>?_,λ_=>aB (J.aB _)⟩⟩
  ·refine(dp (R.le (bD _ _)) _).aI (J.aB w) v λaV aW _ H _=>⟨_,rfl,λ_=>?_,λ_=>⟨V,V,y,am H,λ_=>?_,λ_=>aB H⟩⟩
   ·refine(rY (S:=[G.F]) (by have:=H.size;simp;omega) (R.le (H.da _)) _ V).aI H v λaX aT aA aS aw aY aF=>⟨_,rfl,av V _ _ _ ⟨N.trans aF,aT,W,aS.done (by have:=H.size;simp;omega) (by have:=aw.2;omega),P.ext aF,λal B=>ac al (aw.1 al B),by have:=aw.2;omega,ah,V⟩⟩
   ·intro aA
    exact Nw H
  ·intro aA
   exact Nw (J.aB _)
 ·have ba:ap w G W:=(P.done D V).le (bD _ _)
  have H:∀{M:I},w.size<=M.size->∀d∈r.size::a,d<M.size:=λB d f=>by
   rcases List.mem_cons.1 f with g|g
   ·have:=v r.size D;omega
   ·have:=hS d g;have:=Y.size;omega
  refine(eO (c:=r.size::a) (H (ad _)) 14 (R.le (bD _ _)) V).aI (J.aB w) v λbc bC bF aA aY am _=>⟨_,rfl,?_⟩
  subst aY
  have bU:=aA.bg
  have bj:=am.size
  refine(iQ (c:=bc.F::r.size::a) (λd f=>?_) 16 p).mono λbT bH⟨bk,bA,g,a2,a5,aw⟩=>⟨λd f=>aw.same d (am.lt (v d f)),_,_,_,_,_,g,?_⟩
  ·rcases List.mem_cons.1 f with g|g
   ·omega
   ·exact H bj d g
  intro bI
  have ay:=am.trans aw
  refine GS.kv (x:=eQ 16 p) (aA.ext gH.mono aw) (ay.fz []) a2 a5 bJ λbd bK aB T bZ bP=>⟨J.oC (ay.aK _) T.ext v,?_⟩
  have bV:=aB.bg
  have bX:=ay.size
  have aW:=T.size
  refine(eO (c:=bd.F::r.size::a) (λd f=>?_) 15 (ba.ext T.ext) V).aI T.ext v λbS bE bL a0 aZ bi aV=>⟨_,rfl,?_⟩
  ·rcases List.mem_cons.1 f with g|g
   ·omega
   ·exact H aW d g
  subst aZ
  refine GS.all (aB.ext gH.mono bi) (aV.fz []) (a0.done gH.mono (λd f=>?_) bh bJ) bJ λaT aS aF z b0 bQ=>⟨J.oC aV z.ext v,V,V,V,?_⟩
  ·rcases List.mem_cons.1 f with g|g
   ·omega
   ·exact H aW d g
  have bW:=aF.bg
  have z9:=Y.size
  have bg:=Y.trans z.ext
  have a7:Le (bO a m) (bO (aT.F::r.size::a) aS):=bg.bO λd f=>by
   simp only[aU]at f;rcases f with g|g|g
   ·exact Or.inr V
   ·exact Or.inr V
   ·exact Or.inl g
  have ek:Int.toNat (c:Int)=c:=V
  have el:Int.toNat (t.len:Int)=t.len:=V
  rw[ek,el]
  have a4:eI (bO (aT.F::r.size::a) aS) (t.cut c t.len 5) (b.aA.drop c):=by
   have:=(q.le a7).J2 (i:=c) (j:=t.len) V V;rwa[aR,cN (ad _),<-aR]at this
  refine GS.all aF z a4 bJ λbe bM a1 al b1 bR=>⟨J.oC z.ext al.ext v,aN (by rw[al.ext.same _ (v _ D),z.ext.same _ (v _ D)]) _,?_⟩
  intro bN
  have aX:=a1.done gH.mono (H (ad _)) bh bJ
  have Z:dc [eQ 16 p]=0:=jO bh [p]
  have e2:sw [eQ 16 p]=2:=oh 16 [p]
  have W1:WL ds nr True (o+u.length) (ai.map (eQ 14)++[eQ 16 p]++W.map (eQ 15)++b.aA.drop c):=by
   refine WL.append (WL.append ((rI bh ac).yy ?_) ?_) ?_
   ·rw[jO bh];exact Dg bh ⟨hx.1,V⟩
   ·rw[cT,jO bh,Z];exact rI bh ah
   ·rw[cT,cT,jO bh,jO bh,Z];have:=ar.drop c;rwa[aH]at this
  refine⟨be,.mk (ai.map (eQ 14)++[eQ 16 p]++W.map (eQ 15)++b.aA.drop c) b.aV,rfl,eI.le (cz D λd f=>aj _ f) aX,⟨.of W1 ?_,?_⟩,(Y.trans al.ext).ai V _ _⟩
  ·rw[cT,cT,cT,jO bh,jO bh,Z]
   rw[a3,aH]at aO
   simpa using aO
  ·rw[Bk.qA,dy,dy,dy,oh,oh,e2];omega
end
def Zc(c:List bB)(d:List gC)(b:Bk):Prop:=∀(S:List Nat)(m:I),(∀a∈S,a<m.size)->∀(f r t:O)(a:Nat),eD m f r c d->eI m t b.aA->WB c d.length True a b->a+4*b.w<=1000000000000->9*b.w<=100000000000->
 nk 229 [.agg #[O.v f,O.v r],.agg #[O.v t,vi b.aV],vi a] m S λe=>WB c d.length True a e/\e.w+8<=9*b.w
def Cz{E:List bB}{rs:List gC}:∀G:Bk,Zc E rs G:=by
 refine Bk.ind ?_;intro aA ab ih u al hS aW a8 bZ v T hs bn bA bC;have a3:=bn.aW;rw[Bk.qA]at*;simp only[Bk.jN,Bk.jd]at*;apply wo;simp -zeta only[aD,aC];intro am p w h m5 m6;obtain⟨x3,hl,s1,s2,s3⟩:=pX (a:=am) (b:=p) (c:=w) rfl rfl rfl;have s4:h.size=w.size+1:=by simp[h]
 have a_:J h m6:=(J.push h _).ai (ad _) _ _;have bs:J w m6:=(J.push w _).trans a_;have g0:GS (h.size::p.size::u) w m6 (.mk w.size 0 0 0) []:=(GS.new _ w).ext gH.mono a_;have B0:cF m6 h.size de [.s (.mk w.size 0 0 0),.i ab]:=cF.ai (m:=m5) (o:=0) (r:=[.s (.mk w.size 0 0 0),.i ab]) (cF.push h _ _);have bd:∀f∈p.size::u,f<w.size:=bR hS x3.size (hl _ D);clear_value m6;clear_value w;have bi:=hs.len;have bk:=AZ aA;have bQ:=fO aA;refine dU (n:=aA.length) (bi▸hs.fS) (λd(y:Int) M=>y=((v+dc (aA.take d):Nat):Int)/\J w M/\∃s B,GS (h.size::p.size::u) w M s B/\cF M h.size de [.s s,.i ab]/\B.length=d/\WL E rs.length True v B/\dc B=dc (aA.take d)/\sw B<=9*sw (aA.take d)) ⟨D,bs,_,[],g0,B0,rfl,WL.nil _ _ _ _,D,D⟩ ?_;rintro d v0 M aV μ hk ⟨bm,xM,s,B,ay,ac,bK,wl,aE,bl⟩ a7
 subst bm;have y:=x3.trans xM;have hy:=ay.bg;have zM:=xM.size;have bv:=ac.lt;refine dit (λaz=>?_) λaz=>?_
 ·obtain⟨c,U⟩:=ag (l:=aA) (k:=d) V;obtain⟨pa,pk,ha,aP,e0,e1,e2,e3,e4⟩:=hs.E U;have bU:=NX U;have bW:=cR.mf c;have bE:=pY c.bE;have bV:=pN U;have bT:=qF U;have aa:=a3.1 d c U;have bH:=sP (aA.take d);have bN:=fO (aA.take d);have bS:=bk (d+1);refine⟨V,V,_,y.af e0,_,y.af e1,_,y.af e2,_,y.af e3,_,y.af e4,?_⟩;intro m7 t X;have x8:J M t:=(J.push M _).ai (ad _) _ _;have s8:t.size=M.size+1:=by simp[t,m7,av]
  have x9:J t X:=J.push _ _;have s9:X.size=t.size+1:=by simp[X]
  have ba:GB (s.F::h.size::p.size::u) t X (.mk t.size 0 0 0) []:=GB.new _ t;clear_value X;clear_value t;have aL:∀f∈s.F::h.size::p.size::u,f<t.size:=λf j=>by
   simp only[aU]at j;rcases j with e|e|e|e
   ·omega
   ·omega
   ·omega
   ·have:=hS f e;omega
  have aR:=aP.len;have N:∀{g:I},t.size<=g.size->∀f∈[M.size,p.size,am.size,al.size],f<g.size:=λaz f j=>by simp at j;omega
  have z9:X.size=t.size+1:=s9;refine(gU (e:=[t.size]) bJ (T.aT.le (y.trans (x8.trans x9)).le) T.types c.bN).aI (J.aB X) (N x9.size) λsc lc bX a0 e a9 _=>⟨_,rfl,?_⟩;subst e;have bL:=a0.len;refine dU (n:=c.bE.length) (aR▸aP.fS) (λz A g=>J t g/\ap (bO [A.F] g) sc (cq E c.bN)/\∃q,GB (s.F::h.size::p.size::u) t g A q/\q.length=z/\(∀(W:Nat)(G:Bk),q[W]? =some G->WB E rs.length True (v+dc (aA.take d)+Be E c.op c.bN W) G)/\bw q<=9*bw (c.bE.take z)) ⟨x9.trans a9,a0,[],ba.ext rC.mono a9,rfl,D,D⟩ ?_;rintro z A F I2 μ2 hj ⟨aq,a1,q,gk,bI,aY,bg⟩ bq;have P:J al F:=y.trans (x8.trans aq);have yk:=gk.bg;have Y:=aq.size;refine dit (λh2=>?_) λh2=>?_
  ·obtain⟨G,Z⟩:=ag (l:=c.bE) (k:=z) V;obtain⟨tb,a2,f0,f1⟩:=aP.E Z;have bF:=wH Z;have bf:=ue Z;have aB:=aa.bE z G Z;have h3:=PQ T.types c.op c.bN z;have aK:∀{g:I},J F g->∀f∈A.F::s.F::h.size::p.size::u,f<g.size:=λxx f j=>by
    have:=xx.size;rcases List.mem_cons.1 j with e|e
    ·omega
    ·have:=aL f e;omega
   have au:∀{g:I}{ss:O}{H:Bk},J F g->eI (bO (A.F::s.F::h.size::p.size::u) g) ss H.aA->WB E rs.length True (v+dc (aA.take d)+Be E c.op c.bN z) H->H.w<=9*G.w->
    jE (g.push (.cells (bG [.s ss,.i H.aV]) de)) de [.s .nil,.i 0] 32 A (.mk g.size 0 1 1) λr' M3=>eE [M.size,p.size,am.size,al.size] (g.push (.cells (bG [.s ss,.i H.aV]) de)) M3/\I2 r' (cW ((z:Int)+1)) M3/\μ2 r' (cW ((z:Int)+1)) M3<μ2 A z F:=λ{g ss H} x11 ai hwb' hw'=>by
    refine GB.kv (c:=H) (gk.ext rC.mono x11) ((aq.trans x11).fz []) ai V λr' M3 g2 f2 bt q2=>⟨J.oC ((aq.trans x11).aK _) f2.ext (N (ad _)),bq V _ _ ⟨f2.ext,(a1.le (x11.da _)).le (px λf j aZ=>?_),_,g2,bJ,λW b2 R=>?_,?_⟩⟩
    ·simp at aZ
     refine⟨?_,q2 f j aZ⟩
     simp
     rcases bt.2 with e|e<;>omega
    ·rcases be W q.length with C|C
     ·rw[aw C]at R;exact aY W b2 R
     ·rw[aG C]at R
      have:W -q.length=0:=by have:=ax R;simp at this;omega
      rw[this]at R;simp at R;subst R
      have:W=z:=V
      subst this;exact hwb'
    ·rw[oL,ud,zk,bf]
     omega
   refine⟨λQ=>?_,λQ=>?_⟩
   ·simp only[aF]at Q;obtain⟨bz,_⟩:=aa.eR.all Q;have bu:=aa.eR.kK (Or.inr (Or.inr Q));obtain⟨aT,a4⟩:=ag (l:=c.args) (k:=0) V;obtain⟨y0,y1⟩:=aa.eR.args aT (ar a4);have bx:=ha.len;obtain⟨cn,aX⟩:=ag (l:=cq E c.bN) (k:=z) V;refine⟨V,V,cn,(a1.le (bD _ _)).E aX,?_⟩;refine(dH (e:=[]) D (T.aT.le (P.le.trans (zJ _))) T.types cn).aI (J.aB F) (N Y) λsf lf a5 aH e aI _=>⟨_,rfl,?_⟩;subst e;have aH:=aH.le (bD _ _);have bM:=aH.len;have ah:=P.trans aI;rw[JU Q aX]at aB h3 au;have aJ:af a5 pa.F (pa.off+Int.toNat (0:Int)*1)=some (vi aT):=(ha.ext ah).E a4;refine⟨V,V,_,ah.af f0,_,ah.af f1,bh,V,aT,aJ,?_⟩;have ew:cW (((v+dc (aA.take d):Nat):Int)+(sf.len:Int))=((v+dc (aA.take d)+(cD E cn).length:Nat):Int):=by rw[aQ V V];omega
    rw[ew];refine(ih c (ar U) G (ar Z) (A.F::s.F::h.size::p.size::u) a5 (aK aI) aW a8 tb _ (T.le ah.le) (a2.le ah.le) aB V V).aI aI (N Y) λss H bo ai aM an aS=>⟨_,_,rfl,?_⟩;refine⟨by rw[an.af aJ,aJ],aN (an.same _ (aI.lt (N Y _ D))) _,?_⟩;refine(KZ (a:=A.F::s.F::h.size::p.size::u) (aK aS) ai (aH.ext an) V aM.1 V V ⟨y0,y1⟩).aI aS (N Y) λbY b2 a6 bj bb C br=>⟨_,_,rfl,?_⟩;intro bp;exact au br bj bb.1 V
   ·simp only[ak]at Q;rw[JV Q]at aB au;refine⟨V,V,_,P.af f0,_,P.af f1,?_⟩;refine(ih c (ar U) G (ar Z) (A.F::s.F::h.size::p.size::u) F (aK (J.aB _)) aW a8 tb _ (T.le P.le) (a2.le P.le) aB V V).aI (J.aB F) (N Y) λss H bo ai aM an aS=>⟨_,_,rfl,?_⟩;intro a6;exact au an ai aM.1 V
  ·have aB:q.length=c.bE.length:=V;rw[cN V]at bg;have Z:J M F:=x8.trans aq;have R:=ac.ext Z;have G2:=ay.ext gH.mono Z;refine⟨s,R.cp 0,?_⟩;refine(bP (s.F::h.size::p.size::u) (ha.ext P) V).aI (J.aB F) (N Y) λs' l' a6 ga e C _=>⟨_,rfl,aN (C.same _ V) _,aN (C.same _ V) _,aN (C.same _ V) _,aN (C.same _ R.lt) _,?_⟩;subst e;intro bp;refine Gr.box (g:=[.i 0,.i 0,.i 0,.s .nil,.s .nil]) (K:=λg=>aO cw 205 [vi c.op] g λy Q=>eE [M.size,p.size,am.size,al.size] g Q/\∃H:Bool,y=vb H/\
    (H=true->aV (cW (((v+dc (aA.take d):Nat):Int)+1)) (cW ((d:Int)+1)) Q/\μ (cW (((v+dc (aA.take d):Nat):Int)+1)) (cW ((d:Int)+1)) Q<μ ((v+dc (aA.take d):Nat):Int) (d:Int) M)/\
    (H=false->aV ((v+dc (aA.take d):Nat):Int) (cW ((d:Int)+1)) Q/\μ ((v+dc (aA.take d):Nat):Int) (cW ((d:Int)+1)) Q<μ ((v+dc (aA.take d):Nat):Int) (d:Int) M)) (L:=[M.size,p.size,am.size,al.size]) (j:=0) (z:=72) (o:=[.s s,.i ab]) (y:=⟨c.op,c.bN,c.bW,c.args,q⟩) gH.mono bh (G2.ext gH.mono C) (((xM.trans Z).trans C).fz []) ⟨s',A,rfl,(ga.done (λf j=>by have:=aL f j;omega) V),nD.le (C.da _) (gk.done rC.mono aL bh (by show q.length<=_;omega))⟩ V (R.ext C) D bh ⟨V,D⟩ (λf j=>by have H:=C.size;simp at j;omega) λr' m' g' B' f' z' q'=>?_
   have W':WL E rs.length True v (B++[⟨c.op,c.bN,c.bW,c.args,q⟩]):=wl.yy (aa.OY id aa.eR.bW aB aY|>λaz=>by rw[aE];exact az);have aH:=C.size;refine(jH c.op m').mono λy Q⟨bb,e,au,H⟩=>⟨λf j=>H.same f (by have:=N Y f j;omega),bb,e,?_⟩;have ai:=sR c bb au;have ah:dc (B++[⟨c.op,c.bN,c.bW,c.args,q⟩])=dc (aA.take (d+1)):=by
    rw[cT,kC,sQ,aE];have e:dn (⟨c.op,c.bN,c.bW,c.args,q⟩:cR)=dn c:=rfl;omega
   have an:sw (B++[⟨c.op,c.bN,c.bW,c.args,q⟩])<=9*sw (aA.take (d+1)):=by
    rw[dy,mE,va];have h5:(⟨c.op,c.bN,c.bW,c.args,q⟩:cR).w=1+c.args.length+bw q:=cR.mf _;omega
   refine⟨λht=>?_,λhf=>?_⟩
   ·rw[ao ht]at ai;rw[aQ (b:=((v+dc (aA.take d):Nat):Int)+1) V V];exact a7 V _ _ ⟨V,f'.ext.trans H,r',_,g'.ext gH.mono H,B'.ext H,bJ,W',ah,an⟩
   ·rw[ae (by simp[hf])]at ai;exact a7 V _ _ ⟨V,f'.ext.trans H,r',_,g'.ext gH.mono H,B'.ext H,bJ,W',ah,an⟩
 ·have aR:d=aA.length:=V;subst aR;rw[eZ]at aE bl;refine⟨s,ac.cp 0,ab,ac.cp 1,?_⟩;intro m7;have c:Le (bO (h.size::p.size::u) M) (bO u m7):=cz D λf j=>aj _ (aj _ j);have g:=ay.ne ac bh;refine⟨s,.mk B ab,rfl,eI.le c (ay.nE gH.mono (λj=>?_) bh (by show B.length<=_;omega)),⟨.of wl (by rw[aE];exact a3.2),by rw[Bk.qA];omega⟩,y.ai V _ _⟩;rcases List.mem_cons.1 j with e|e
  ·exact g e
  ·have:=bd _ e;omega
def Em{d:List Nat}{f:I}(E:∀c∈d,c<f.size){j r:O}{h:List bB}{p:List gC}(i:eD f j r h p){W:Nat}(hW:9*W<=100000000000)(hk:yd h p True W):uH 196 [.agg #[O.v j,O.v r]] f d h λv=>yd h v True (9*W):=by
 apply xw;simp -zeta only[aD,aC];intro b T;obtain⟨z,u⟩:=dG (a:=b) (c:=T) rfl rfl;have s1:b.size=f.size+1:=by simp[b]
 clear_value T;have an:=i.iJ.len;have aE:=i.om;refine(fJ (b:=b.size::d) (bR E z.size (u _ D)) (i.le z.le).aT i.types).mono λ_ L⟨ae,e,aj,A⟩=>?_;subst e;refine⟨A.dm u,_,rfl,?_⟩;intro N au ab;have u2:=z.trans A;obtain⟨x5,B0,g0,s3,s5⟩:=kO (b:=N.size::b.size::d) iC.mono (d:=L) (a:=N) (c:=au) (h:=ab) rfl rfl rfl;clear_value ab;have H:∀c∈[b.size,f.size],c<L.size:=λc a=>A.lt (u c a);have F:∀c∈b.size::d,c<L.size:=λc a=>A.lt (bR E z.size (u _ D) c a);refine kJ (R:=λg o M=>∃j r v,Value.agg #[O.v g,O.v o]=.agg #[O.v j,O.v r]/\eD (bO d M) j r h v/\yd h v True (9*W)/\J f M) (t:=p.length) (f:=f) (b:=d) iC.mono bh bh E ⟨V,H _ D⟩ u2 s3 aj an V x5 B0 g0 (λ_ q=>q.params.length<=3/\q.cJ.length<=3/\WB h p.length True q.params.length q.body/\q.body.w<=9*W) (λg x K y Y t o s w=>⟨g,x,K,rfl,⟨Y,t,i.types,V⟩,Ha hk.iL o s,w⟩) λaq M st K ay μ ak aA Q X B aw=>?_
 obtain⟨q,hq⟩:=ag (l:=p) (k:=aq) ak;obtain⟨am,al,ap,hw⟩:=hk.dt q (ar hq);have w:=u2.trans Q;obtain⟨ax,aF,s,U,c2,c3,e0,e1,e2,e3,e4⟩:=i.iJ.E hq;have G:∀{ac:Value}{s o:Nat},af f s o=some ac->af M s o=some ac:=λai=>w.af ai;refine⟨V,V,_,G e0,_,G e1,_,G e2,_,G e3,_,G e4,?_⟩;intro m7 g;have hy:=X.bg;have az:=B.lt;have zM:=Q.size;have P:J M g:=(J.push M _).ai (ad _) _ _;have s8:g.size=M.size+1:=by simp[g,m7,av]
 clear_value g;have aa:∀c∈[M.size,b.size,f.size],c<g.size:=λc a=>by
  rcases List.mem_cons.1 a with e|e
  ·omega
  ·have:=H c e;omega
 have w8:=w.trans P;have aB:=U.len;have ah:(ax.len:Int)=(q.params.length:Nat):=V;refine⟨st,(B.ext P).cp 1,?_⟩;rw[ah];refine(Cz q.body (st.F::N.size::b.size::d) g (λc a=>?_) j r s q.params.length (i.le w8.le) (c3.le w8.le) ap V V).aI (J.aB g) aa λss b' M1 ao Z y _=>⟨_,_,rfl,?_⟩
 ·simp only[aU]at a;rcases a with e|e|e|e
  ·omega
  ·omega
  ·have:=F c (by simp[e]);omega
  ·have:=F c (by simp[e]);omega
 have C:∀o,af M1 M.size o=af g M.size o:=λo=>aN (y.same _ V) o;refine⟨C 0,C 1,C 2,C 3,C 4,aN (y.same _ V) _,?_⟩;have x:=P.trans y;have z1:=y.size;exact vL (b:=b.size::d) (v:=ae) (x:=K) F (λc a=>by have Y:=aa c a;have t:=H c;simp only[aU]at a t;rcases a with e|e|e|e<;>first|omega|(have:=t (by simp[e]);omega)|simp at e) (Q.trans x) (X.ext iC.mono x) (B.ext x) V (U.ext (w.trans x)) (c2.ext (w.trans x)) ao ⟨V,V⟩ V λs' Y g' t x'=>aw s' Y _ g' t x' ⟨am,al,Z.1,by have:=Z.2;show b'.w<=_;omega⟩
section
variable{S:List Nat}{m:I}{c:O}{b:List Instr}
def dO.le{m b:I}(h:Le m b){a:List Ce}{x:Instr}:dO m a x->dO b a x:=λ⟨c,j,d,e,f⟩=>⟨c,j,d,e.le h,f.le h⟩
def dO.mono:nZ 6 dO:=⟨λh=>dO.le h,λh=>by obtain⟨_,_,rfl,_⟩:=h;rfl⟩
def eX.le{m c:I}(a:Le m c){s:O}{b:List Instr}(h:eX m s b):eX c s b:=eH.le h a λ_ _=>dO.le a
def kX.le{m d:I}(h:Le m d){a:List Ce}{x:dw}:kX m a x->kX d a x:=λ⟨e,b,c,f,g,i,j⟩=>⟨e,b,c,f,g.le h,i.le h,eX.le h j⟩
def kX.mono:nZ 5 kX:=⟨λh=>kX.le h,λh=>by obtain⟨_,_,_,rfl,_⟩:=h;rfl⟩
def iS.le{m c:I}(a:Le m c){s:O}{b:List dw}(h:iS m s b):iS c s b:=eH.le h a λ_ _=>kX.le a
def Vb(x:Instr)(a j:O):Value:=.agg #[vi x.op,vi x.dst,vi x.bN,vi x.bW,O.v a,O.v j]
def vX(z:∀c∈S,c<m.size){q t:O}{x:Instr}(A:ap m q x.args)(B:ap m t x.ez)(g:x.args.length<=1000000000000/\x.ez.length<=1000000000000):
 aO cw 199 [Vb x q t] m λH n=>∃f i,H=Vb x f i/\ap (bO S n) f x.args/\ap (bO S n) i x.ez/\J m n:=by
 apply rj
 simp -zeta only[aD,aC]
 intro b d
 obtain⟨j,h⟩:=dG (a:=b) (c:=d) rfl rfl
 have L:b.size=m.size+1:=by simp[b]
 clear_value d
 have r:∀c∈b.size::S,c<d.size:=bR z j.size (h _ D)
 have E:∀{M p:I},J d M->J M p->∀o,af p m.size o=af M m.size o:=λw y o=>aN (y.same _ (w.lt (h _ D))) o
 refine(bP (b.size::S) (A.ext j) g.1).aI (J.aB d) h λf _ K u k a _=>⟨_,rfl,E (J.aB _) a _,E (J.aB _) a _,E (J.aB _) a _,E (J.aB _) a _,E (J.aB _) a _,?_⟩
 subst k
 refine(bP (b.size::S) (B.ext (j.trans a)) g.2).aI a h λi _ C v k e G=>⟨_,rfl,E a e _,E a e _,E a e _,E a e _,?_⟩
 subst k
 intro F
 have s:Le (bO (b.size::S) C) (bO S F):=cz D λc l=>aj _ l
 exact⟨f,i,rfl,((u.done r g.1).le (e.da _)).le s,(v.done (λc l=>a.lt (r c l)) g.2).le s,(j.trans G).ai V _ _⟩
def Mf(e:eX m c b)(u:Int):EJ 192 [O.v c,vi u] m:=by
 apply FX;have p:=e.len;refine dU (n:=b.length) (p▸e.fS) (λ_ _ M=>J m M) (J.aB _) ?_;rintro s N M I μ H f w
 refine⟨λi=>?_,λ_=>rN f⟩;simp only[au]at i;obtain⟨x,q⟩:=ag (l:=b) (k:=s) V;obtain⟨B,L,d,G,C,h,D,E,g,F⟩:=(eX.ext f e).E q;have o:=d.len;refine⟨V,V,_,h,?_⟩;refine dU (n:=x.args.length) (o▸d.fS) (λ_ _ a=>J M a) (J.aB _) ?_;rintro t P A z μ2 K a v;refine⟨V,V,_,a.af g,λj=>?_,λ_=>w V _ _ (f.trans a)⟩;simp only[au]at j;obtain⟨y,r⟩:=ag (l:=x.args) (k:=t) V;exact⟨V,V,_,a.af g,V,V,y,(d.ext a).E r,v V _ _ a⟩
structure On(k:Nat)(x:Instr):Prop where
 LO:x.op=22->(k:Int)<x.bN
 arg:x.op=18\/x.op=23\/x.op=16\/x.op=17->0<x.args.length
def Q7(b:List Instr):Prop:=∀(k:Nat)(x:Instr),b[k]? =some x->On k x
def HQ(g:eX m c b)(G:Q7 b){p:Int}(E:0<=p)(MM:Int):oJ 231 [O.v c,vi p,vi MM] m:=by
 apply AJ;simp -zeta only[aD,aC];have L:=g.len;have P:=g.fS;refine⟨λv _ M=>0<=v/\J m M,λv _ _=>((b.length:Int) -v).toNat,⟨E,J.aB _⟩,?_⟩;rintro v I M ⟨H,o⟩;refine⟨λh=>?_,λ_=>rA o⟩;simp only[au]at h;obtain⟨a,q⟩:=ag (l:=b) (k:=v.toNat) V;obtain⟨e,Q,f,N,w,z,A,B,C,D⟩:=(eX.ext o g).E q;have K:=f.len;have i:=G _ a q;refine⟨H,V,_,w,_,z,_,A,_,B,_,C,_,D,?_⟩;intro R d;have n:J M d:=(J.push M _).ai (ad _) _ _;clear_value d;have u:=o.trans n;have LO:(a.op==22)=true->(0<=a.bN/\J m d)/\((b.length:Int) -a.bN).toNat<((b.length:Int) -v).toNat:=λh=>by
  simp only[aF]at h;have:=i.LO h;exact⟨⟨V,u⟩,V⟩
 have r:(a.op==23)=true->(0:Int)<=0/\(0:Int)<(e.len:Int)/\∃s:Int,af d e.F (e.off+Int.toNat (0:Int)*1)=some (vi s)/\∃t:Bool,vb (s==I)=.bool t/\J m d:=λh=>by
  simp only[aF]at h;have:=i.arg V;obtain⟨y,j⟩:=ag (l:=a.args) (k:=0) V;exact⟨bh,V,y,(f.ext n).E j,rA u⟩
 refine⟨λF=>?_,λ_=>⟨LO,λ_=>⟨r,λ_=>rA u⟩⟩⟩;simp only[aF]at F;have:=i.arg V;obtain⟨y,j⟩:=ag (l:=a.args) (k:=0) V;refine⟨bh,V,y,(f.ext n).E j,λ_=>?_,λ_=>⟨LO,λ_=>⟨r,λ_=>rA u⟩⟩⟩;rw[aQ (b:=v+1) V V];exact⟨⟨V,u⟩,by show((b.length:Int) -(v+1)).toNat<((b.length:Int) -v).toNat;omega⟩
def JR(b c:List Instr):Prop:=c.length=b.length/\∀(k:Nat)(a:Instr),c[k]? =some a->∃x,b[k]? =some x/\(a=x\/a=⟨24,0,x.bN,0,x.args,x.ez⟩)
def PK(b:List Instr):Prop:=∀x∈b,x.args.length<=1000000000000/\x.ez.length<=1000000000000
abbrev UF(S:List Nat)(a m:I)(s:O)(b:List Instr):Prop:=Gr S a m dQ 6 dO s b
def Jx(hS:∀c∈S,c<m.size)(h:eX m c b)(ae:Q7 b)(af:PK b)(hb:b.length<=1000000000000):
 aO cw 198 [O.v c] m λQ P=>∃s g,Q=O.v s/\UF S m P s g/\JR b g/\J m P:=by
 apply CC
 simp -zeta only[aD,aC]
 intro K
 have x1:J m K:=J.push _ _
 have g0:UF S m K (.mk m.size 0 0 0) []:=Gr.new S (ad _) _ _ _
 clear_value K
 have ac:=h.len
 refine dU (n:=b.length) (ac▸h.fS) (λf s M=>J m M/\∃g,UF S m M s g/\JR (b.take f) g) ⟨x1,[],g0,by simp[JR]⟩ ?_
 rintro f s M T μ hk ⟨t,g,C,F,G⟩ aj
 refine dit (λaa=>?_) λaa=>?_
 ·obtain⟨e,H⟩:=ag (l:=b) (k:=f) V
  obtain⟨am,ao,ha,hj,U,W,X,Y,Z,e5⟩:=(eX.ext t h).E H
  have ah:=af e (ar H)
  have hy:=C.bg
  have zM:=t.size
  have an:g.length=f:=by rw[F];simp;omega
  have ab:∀c∈s.F::S,c<M.size:=λc h=>by
   rcases List.mem_cons.1 h with w|w
   ·omega
   ·have:=hS c w;omega
  refine⟨V,V,_,U,_,W,_,X,_,Y,_,Z,_,e5,?_⟩
  refine(vX ab ha hj ah).mono λQ A⟨v,z,w,D,E,R⟩=>⟨_,_,_,_,_,_,w,?_⟩
  intro m3 p
  have o:J A p:=(J.push A _).ai (ad _) _ _
  have s4:p.size=A.size+1:=by simp[p,m3,av]
  clear_value p
  have r:=R.trans o
  have B:∀{i:I}{d:Instr},J p i->ap (bO (s.F::S) i) v d.args->ap (bO (s.F::S) i) z d.ez->(d=e\/d=⟨24,0,e.bN,0,e.args,e.ez⟩)->
   jE (i.push (.cells (bG [.i d.op,.i d.dst,.i d.bN,.i d.bW,.s v,.s z]) dQ)) dQ [.i 0,.i 0,.i 0,.i 0,.s .nil,.s .nil] 80 s (.mk i.size 0 1 1) λL u=>eE [A.size] (i.push (.cells (bG [.i d.op,.i d.dst,.i d.bN,.i d.bW,.s v,.s z]) dQ)) u/\T L (cW ((f:Int)+1)) u/\μ L (cW ((f:Int)+1)) u<μ s f M:=λ{i d} xx h1 h2 h3=>by
   have z4:=r.size
   have zx:=xx.size
   refine Gr.kv (g:=[.i 0,.i 0,.i 0,.i 0,.s .nil,.s .nil]) (k:=d) dO.mono bh (C.ext dO.mono (r.trans xx)) ((t.trans (r.trans xx)).fz []) ⟨v,z,rfl,h1,h2⟩ V λL u g3 f3 z3 q3=>⟨λc h=>?_,aj V _ _ ⟨f3.ext,_,g3,bJ,λy ak j=>?_⟩⟩
   ·have q:=R.size
    simp at h;subst h
    rw[q3 _ V V,(J.push i _).same _ V]
   ·rcases be y g.length with q|q
    ·rw[aw q]at j
     obtain⟨al,N,ai⟩:=G y ak j
     rw[dC V]at N⊢
     exact⟨al,N,ai⟩
    ·rw[aG q]at j
     have:y -g.length=0:=by have:=ax j;simp at this;omega
     rw[this]at j;simp at j;subst j
     have:y=f:=V
     subst this
     exact⟨e,by rw[dC V];exact H,h3⟩
  have z4:=r.size
  refine⟨λh9=>?_,λ_=>?_⟩
  ·rw[aQ (b:=(f:Int)+1) V V]
   refine(HQ (eX.ext (t.trans r) h) ae V e.dst).aI (J.aB p) bJ λai N q _=>⟨_,rfl,λ_=>?_,λ_=>?_⟩
   ·intro m6
    have:=B (d:=⟨24,0,e.bN,0,e.args,e.ez⟩) q ((D.le (o.da _)).le (q.da _)) ((E.le (o.da _)).le (q.da _)) (Or.inr rfl)
    rw[aQ (b:=(f:Int)+1) V V]at this
    exact this
   ·intro m6
    have:=B (d:=e) q ((D.le (o.da _)).le (q.da _)) ((E.le (o.da _)).le (q.da _)) (Or.inl rfl)
    rw[aQ (b:=(f:Int)+1) V V]at this
    exact this
  ·intro N
   exact B (d:=e) (J.aB _) (D.le (o.da _)) (E.le (o.da _)) (Or.inl rfl)
 ·rw[cN V]at F G
  exact⟨s,g,rfl,C,⟨F,G⟩,t⟩
end
section
variable{b:List dw}
structure RZ(p:dw):Prop where
 params:p.params.length<=3
 cJ:p.cJ.length<=3
 iL:0<p.cL.length
 om:p.cL.length<=1000000000000
 cL:Q7 p.cL
 lE:PK p.cL
structure De(b:List dw):Prop where
 iL:0<b.length
 om:b.length<=4
 dt:∀p∈b,RZ p
def PI(f:Nat)(c:List Value)(m:I)(S:List Nat)(e:List bB)(Q:List dw->Prop):Prop:=aO cw f c m λv a=>∃d p b,v=.agg #[O.v d,O.v p]/\cx (bO S a) d e/\iS (bO S a) p b/\Q b/\J m a
def JR.ok{l d:List Instr}(h:JR l d)(g:Q7 l)(f:PK l):Q7 d/\PK d:=by
 obtain⟨j,e⟩:=h;refine⟨λk a c=>?_,λa c=>?_⟩
 ·obtain⟨x,b,rfl|rfl⟩:=e k a c
  ·exact g k a b
  ·exact⟨λh=>by simp at h,λh=>by simp at h⟩
 ·obtain⟨k,i⟩:=List.mem_iff_getElem?.1 c;obtain⟨x,b,rfl|rfl⟩:=e k a i
  ·exact f a (ar b)
  ·exact f x (ar b)
def Up{a:List dw}(h:De b)(f:a.length=b.length)(c:∀(i:Nat)(q:dw),a[i]? =some q->RZ q):De a:=
 ⟨by have:=h.iL;omega,by have:=h.om;omega,λq e=>by obtain⟨i,d⟩:=List.mem_iff_getElem?.1 e;exact c i q d⟩
def HU{d:List Nat}{o:I}(X:∀c∈d,c<o.size){z A:O}{B:List bB}(hd:cx o z B)(ht:dP B)(hp:iS o A b)(Z:De b):PI 135 [.agg #[O.v z,O.v A]] o d B De:=by
 apply AO;simp -zeta only[aD,aC];intro f a2;obtain⟨P,K⟩:=dG (a:=f) (c:=a2) rfl rfl;have s1:f.size=o.size+1:=by simp[f]
 clear_value a2;have aw:=hp.len;have aL:=Z.om;refine(fJ (b:=f.size::d) (bR X P.size (K _ D)) (hd.le P.le) ht).mono λ_ ab⟨dd,e,aq,Q⟩=>?_;subst e;refine⟨Q.dm K,_,rfl,?_⟩;intro p ay al;have u2:=P.trans Q;obtain⟨x5,B0,g0,s3,s5⟩:=kO (b:=p.size::f.size::d) kX.mono (d:=ab) (a:=p) (c:=ay) (h:=al) rfl rfl rfl;clear_value al;have Y:∀c∈[f.size,o.size],c<ab.size:=λc g=>Q.lt (K c g);have ai:∀c∈f.size::d,c<ab.size:=λc g=>Q.lt (bR X P.size (K _ D) c g);refine kJ (R:=λj q M=>∃z A h,Value.agg #[O.v j,O.v q]=.agg #[O.v z,O.v A]/\cx (bO d M) z B/\iS (bO d M) A h/\De h/\J o M) (t:=b.length) (f:=o) (b:=d) kX.mono bh bh X ⟨V,Y _ D⟩ u2 s3 aq aw V x5 B0 g0 (λ_ s=>RZ s) (λh r' ak m' h1 F j q r=>⟨h,r',ak,rfl,h1,F,Up Z j q,r⟩) λax M t ak aG μ au aJ xM ah T az=>?_
 obtain⟨s,hq⟩:=ag (l:=b) (k:=ax) au;have u:=Z.dt s (ar hq);have q3:=u.params;have q4:=u.cJ;have qf:=u.om;have qs:=u.iL;have v6:=u2.trans xM;obtain⟨aH,q,c,c1,c2,c3,e0,e1,e2,e3,e4⟩:=hp.E hq;have G:∀{ac:Value}{q w:Nat},af o q w=some ac->af M q w=some ac:=λC=>v6.af C;refine⟨V,V,_,G e0,_,G e1,_,G e2,_,G e3,_,G e4,?_⟩;intro m7 j;have hy:=ah.bg;have aI:=T.lt;have zM:=xM.size;have x8:J M j:=(J.push M _).ai (ad _) _ _;have s8:j.size=M.size+1:=by simp[j,m7,av]
 clear_value j;have L:∀c∈[M.size,f.size,o.size],c<j.size:=λc g=>by
  rcases List.mem_cons.1 g with e|e
  ·omega
  ·have:=Y c e;omega
 have w8:=v6.trans x8;have H:∀{M':I},j.size<=M'.size->∀c∈t.F::p.size::f.size::d,c<M'.size:=λC c g=>by
  simp only[aU]at g;rcases g with e|e|e|e
  ·omega
  ·omega
  ·have:=ai c (by simp[e]);omega
  ·have:=ai c (by simp[e]);omega
 have E:∀{U M2:I},J j U->J U M2->∀q,q<j.size->∀w,af M2 q w=af U q w:=λC h' q hb w=>aN (h'.same q (C.lt hb)) w;have r:M.size<j.size:=V;have i2:p.size<j.size:=V;refine⟨t,(T.ext x8).cp 1,?_⟩;refine(bP (t.F::p.size::f.size::d) (c1.ext w8) V).aI (J.aB j) L λa' _ m9 ga e h _=>⟨_,rfl,E (J.aB _) h _ r _,E (J.aB _) h _ r _,E (J.aB _) h _ r _,E (J.aB _) h _ r _,E (J.aB _) h _ i2 _,?_⟩;subst e;refine(bP (t.F::p.size::f.size::d) (c2.ext (w8.trans h)) V).aI h L λb' _ aM gb e y x=>⟨_,rfl,E h y _ r _,E h y _ r _,E h y _ r _,E h y _ i2 _,?_⟩;subst e;have z9:=h.size;have uG:=y.size;have aF:=w8.trans x;refine(Jx (S:=t.F::p.size::f.size::d) (H V) (eX.ext aF c3) u.cL u.lE qf).mono λac aa⟨W,N,e,gc,aj,v⟩=>⟨λc g=>v.same c (x.lt (L c g)),W,e,E x v _ r _,E x v _ r _,E x v _ i2 _,?_⟩;intro aO;have aE:=x.trans v;have ae:=x8.trans aE;have aP:=v.size;obtain⟨aA,aB⟩:=aj.ok u.cL u.lE;have aK:=aj.1;have am:ap (bO (t.F::p.size::f.size::d) aa) a' s.params:=(ga.done (H V) V).le ((y.trans v).da _);have an:ap (bO (t.F::p.size::f.size::d) aa) b' s.cJ:=(gb.done (H V) V).le (v.da _);have ao:eX (bO (t.F::p.size::f.size::d) aa) W N:=gc.done dO.mono (H V) bh V;exact Gr.box (g:=[.s .nil,.s .nil,.i 0,.i 0,.s .nil]) (j:=1) (z:=88) (o:=[.s dd,.s t]) (y:=⟨s.params,s.cJ,s.aV,s.u,N⟩) kX.mono bh (ah.ext kX.mono ae) ((xM.trans ae).fz []) ⟨a',b',W,rfl,am,an,ao⟩ V (T.ext ae) D bh ⟨V,D⟩ (λc g=>by have h1:=L c g;have F:=Y c;simp only[aU]at g F;rcases g with e|e|e|e<;>first|omega|(have:=F (by simp[e]);omega)|simp at e) λr' m' g' F f' z' q'=>az r' m' _ g' F f'.ext ⟨q3,q4,by show 0<N.length;omega,by show N.length<=_;omega,aA,aB⟩
end
end Go.Proofs.YtgnjacfobdjeeaaGreat
