/- Part of a proof. -/
import Derived.Test.YtkoifinbblcbiaaGreatSI01
set_option linter.all false
set_option maxHeartbeats 8000000
set_option maxRecDepth 100000
namespace Go.Proofs.YtkoifinbblcbiaaGreat
open Go.Vc
section
variable{c m:E}{k i g a:Nat}{s:O}{d:List Nat}{e:List Int}{x:cY}{f:List gR}
def Wa{a b:E}(h:J a c)(f:Fz [k] c b)(g:a.size<=k):J a b:=Fz.ext (((h.fz [k]).trans f).DU λe d=>Or.inr (by simp at d;omega))
def _root_.Go.Vc.Fz.OY{M b:E}(f:Fz [k] c M)(h:s.D=k\/c.size<=s.D)(g:M.size<=b.size)(q:∀a,a<M.size->a≠s.D->b[a]? =M[a]?):Fz [k] c b:=
 f.sa ⟨g,λa d e=>q a d (by simpa using e)⟩ (Y:=[s.D]) (λy d=>by simp at d⊢;omega)
def GI.Z5{X:List Nat}{b:E}{x:O}{f:List Int}{K:O->E->Prop}(h:GI d b m s e)(k:Fz X b m)(n:ap m x f)(p:e.length+f.length<=10^12)
 (l:∀r a,GI d b a r (e++f)->Fz X b a->(m.size<=a.size/\(r.D=s.D\/m.size<=r.D))->(∀c,c<m.size->c≠s.D->a[c]? =m[c]?)->K r a):jN m aA [.i 0] 8 s x K:=by
 let⟨o,g,i,j⟩:=n.Wl (b:=1) λ_ _ h=>by rw[h];rfl
 exact Gr.next (g:=[.i 0]) uc.mono bh h k g i j V l
def bN(d:List Nat){b:O}(h:ap m b e)(c:e.length<=10^12):lg 66 [O.v b] m d (e=·):=by
 apply nE;intro i;have a:J m i:=J.push m _;exact GI.Z5 (e:=[]) (X:=[]) (GI.nil d m) (a.fz []) (h.ext a) (by simpa using c) λr j g f _ _=>⟨r,e,rfl,by simpa using g,rfl,f.ext⟩
abbrev GB(d:List Nat)(a m:E)(s:O)(e:List Bk):Prop:=Gr d a m di 2 rO s e
def GB.new(d:List Nat)(m:E):GB d m (m.push (.cells (bu []) di)) (.mk m.size 0 0 0) []:=Gr.new d (ad _) _ _ _
def GB.kM{d X:List Nat}{g m:E}{s a:O}{e:List Bk}{c:Bk}{K:O->E->Prop}(h:GB d g m s e)(k:Fz X g m)(j:eS (bH (s.D::d) m) a c.aD)(l:e.length<=10^12)
 (i:∀r b,GB d g b r (e++[c])->Fz X g b->m.size<=b.size/\(r.D=s.D\/m.size<=r.D)->(∀f,f<m.size->f≠s.D->b[f]? =m[f]?)->K r b):
 jN (m.push (.cells (bu [.s a,.i c.aU]) di)) di [.s .nil,.i 0] 32 s (.mk m.size 0 1 1) K:=
 Gr.kM (g:=[.s .nil,.i 0]) rO.mono bh h k (by cases c;exact rO.of j) V i
def KY{a:List bz}{b bP:Int}{y:Int}(h:b=8)(c:(cA a bP)[i]? =some y):Cd a b bP i=(cE a y).length:=by unfold Cd;rw[an h,c];rfl
def KZ{b:List bz}{a bP:Int}(h:a≠8):Cd b a bP i=0:=by unfold Cd;rw[ae h]
def _root_.Go.Vc.WS.Qd{b:List bz}{f d:Prop}(h:WS b g f a x)(j:f->d){bY:Int}(l:0<=bY/\bY<=(a:Int)){bC:List Bk}(i:bC.length=x.bC.length)(m:∀(k:Nat)(c:Bk),bC[k]? =some c->WB b g d (a+Cd b x.op x.bP k) c):WS b g d a ⟨x.op,x.bP,bY,x.args,bC⟩:=
 ⟨⟨h.fg.op.imp id λh=>⟨j h.1,h.2⟩,h.fg.args,h.fg.lM,l,λe=>i.trans (h.fg.KF e),λe=>i▸h.fg.all e,h.fg.call⟩,m⟩
def IS(hS:∀g∈d,g<m.size){Y U ae a k ac ab:O}{r:List bz}{G lo la:List Int}(D:eN m Y U r f)(hv:ap m ae G)(ha:ap m a x.args)(R:nI m k x.bC)(ho:ap m ac lo)(aA:ap m ab la)
 (aD:∀o∈lo,0<=o/\o<(G.length:Int))(Yc:lo.length+5*x.w<=500)(Yb:la.length+1000*x.w<=1000000)(vN:G.length+5*x.w<=1000000)(aa:WS r f.length False G.length x)(ih:∀c∈x.bC,Xe r f c):
 KR 293 [.agg #[O.v Y,O.v U],O.v ae,ph x a k,O.v ac,O.v ab] m d λy=>WS r f.length True G.length y/\y.op=x.op/\y.w<=1+x.args.length+1100*bw x.bC:=by
 apply AY
 simp -zeta only[aC,aB]
 intro m0 o p ak
 let⟨q,u,s0,s1,s2⟩:=ql (a:=m0) (b:=o) (c:=p) rfl rfl rfl
 have ao:J p ak:=J.push _ _
 have gk:=GB.new (o.size::d) p
 clear_value p
 have aK:=ha.len;have az:=R.len;have hw:=cY.mw x;have aQ:=La x.bC
 refine(iy (e:=[p.size]) (by simp[ak]) (D.le (q.trans ao).le).bo D.types x.bP).aG ao u λg cl m4 t F x4 u4=>⟨_,rfl,?_⟩
 subst F
 have aR:=t.len
 refine eu (n:=x.bC.length) (az▸R.gW) (λj s M=>Fz [p.size] m4 M/\(s.D=p.size\/m4.size<=s.D)/\∃e,GB (o.size::d) p M s e/\e.length=j/\(∀(i:Nat)(c:Bk),e[i]? =some c->WB r f.length True (G.length+Cd r x.op x.bP i) c)/\bw e<=1100*bw (x.bC.take j)) ⟨Fz.az _ _,Or.inl rfl,[],gk.ext rO.mono x4,rfl,aL,aL⟩ ?_
 rintro j s T au μ hj ⟨N,aE,e,Q,aT,ag,ay⟩ aG
 have h:=Wa u4 N (ad _)
 have hy:=Q.bn
 refine dit (λz=>?_) λz=>?_
 .intro m6
  have l:J T m6:=J.push _ _
  let⟨c,C⟩:=cG x.bC j
  have aM:=wX C
  have aP:=uA C
  have ax:∀{M:E},J T M->∀g∈s.D::o.size::d,g<M.size:=λz=>bO (bO hS q.size (u _ aL)) (h.trans z).size (oh z.size)
  have iK:∀(M:E)(H:O)(P:List Int)(w:O),J T M->ap M H P->P.length=Cd r x.op x.bP j->eS M w c.aD->
   aN cg 322 [.agg #[O.v Y,O.v U],O.v ae,O.v H,.agg #[O.v w,vi c.aU],O.v ac,O.v ab] M λrv K=>eI [o.size,m0.size,m.size] M K/\∃am:O,∃an:Int,rv=.agg #[O.v am,vi an]/\
    let M1:E:=K.push (.cells (bu [.s am,.i an]) di)
    jN M1 di [.s O.nil,.i (0:Int)] 32 s (O.mk K.size 0 1 1) λal L=>eI [o.size,m0.size,m.size] M1 L/\au al (cU ((j:Int)+(1:Int))) L/\μ al (cU ((j:Int)+(1:Int))) L<μ s j T:=by
   intro M H P w B hf af I
   have X:=q.trans (h.trans B)
   have b3:=Q0 D.types x.op x.bP j
   refine(Kb (c:=s.D::o.size::d) (ax B) (D.le X.le) (hv.ext X) hf I (ho.ext X) (aA.ext X) ⟨aD,V,V,V,V,af▸aa.bC j c C⟩ (ih c (aq C))).aG (h.trans B) u λss b' K aF F y u'=>⟨_,_,rfl,?_⟩
   refine GB.kM (c:=b') (Q.ext rO.mono (B.trans y)) (u'.fz []) aF (oh (qt x.bC)) λU L g2 f2 z2 q2=>⟨J.oK (u'.aK _) f2.ext u,aG V _ _ ⟨(N.then (B.trans y)).OY aE z2.1 q2,?_,_,g2,bF,λi b2 v=>?_,?_⟩⟩
   .have A:=(N.then (B.trans y)).size
    rcases z2.2 with Z|Z<;>omega
   .rcases aW i e.length with A|A
    .rw[av A]at v;exact ag i b2 v
    .rw[aJ A]at v
     have:i -e.length=0:=by have:=aw v;simp at this;omega
     rw[this]at v;simp at v;subst v
     have:i=j:=V
     subst this
     rw[<-af];exact F.1
   .rw[oU,uz,zQ]
    have:=F.2;omega
  refine⟨λA=>?_,λA=>?_⟩
  .simp only[aH]at A
   have aS:=(aa.fg.all A).1
   let⟨ar,ah⟩:=cG (cA r x.bP) j
   refine⟨V,V,ar,(eT.1 ((t.le ((N.then l).dg aL)).aF ah)).2,?_⟩
   have W:=h.trans l
   refine(dJ (e:=[]) aL ((D.le (q.trans W).le).bo.le (Ao _)) D.types ar).aG W u λH P m7 hf F x7 u7=>⟨_,rfl,?_⟩
   subst F
   let⟨w,I,e0,e1⟩:=(R.le (q.trans u7).le).aF C
   exact⟨V,V,_,e0,_,e1,iK m7 H _ w (l.trans x7) (hf.le (bA _ _)) (KY A ah).symm I⟩
  .simp only[aj]at A
   let⟨w,I,e0,e1⟩:=(R.le (q.trans (h.trans l)).le).aF C
   exact⟨V,V,_,e0,_,e1,iK m6 _ [] w l (mI _ _ _ _ _ _) (KZ A).symm I⟩
 .have A:e.length=x.bC.length:=V
  rw[bV V]at ay
  refine(bN (o.size::d) (ha.ext (q.trans h)) V).aG h u λB H m6 w Z l W=>⟨_,rfl,aI (l.same _ (h.lt (u _ aL))) _,aI (l.same _ (h.lt (u _ aL))) _,?_⟩
  subst Z
  intro m7
  have C:=(Q.ext rO.mono l).bn
  have v:∀g∈o.size::d,g<p.size:=bO hS q.size V
  refine⟨B,s,⟨x.op,x.bP,0,x.args,e⟩,rfl,(w.done (λg t=>aO (v g t) h.size) V).le (cB aL λg t=>ai _ t),nI.le (cB aL λg t=>ai _ t) ((Q.ext rO.mono l).done rO.mono v bh (by have:=qt x.bC;show e.length<=_;omega)),⟨aa.Qd (λz=>z.elim) ⟨V,V⟩ A ag,rfl,?_⟩,(q.trans W).ah V _ _⟩
  rw[cY.mw]
  simp only
  omega
def _root_.Go.Vc.Sf{σ τ ρ:Type}{n:Nat}(u:n<=9223372036854775807){j:σ}{l:τ}{h:ρ}{g:(σ->τ->ρ->Int->E->Prop)->(σ->τ->ρ->Int->E->Nat)->σ->τ->ρ->Int->E->Prop}(Q:Nat->σ->τ->ρ->E->Prop)(p:Q 0 j l h m)
 (o:∀(k:Nat)(s:σ)(t:τ)(r:ρ)(a:E)(I:σ->τ->ρ->Int->E->Prop)(μ:σ->τ->ρ->Int->E->Nat),k<=n->Q k s t r a->
  (k<n->∀d e c b,Q (k+1) d e c b->I d e c (cU ((k:Int)+1)) b/\μ d e c (cU ((k:Int)+1)) b<μ s t r k a)->g I μ s t r k a):
 ∃(I:σ->τ->ρ->Int->E->Prop)(μ:σ->τ->ρ->Int->E->Nat),I j l h 0 m/\∀s t r i a,I s t r i a->g I μ s t r i a:=by
 refine⟨λs t r i b=>∃k:Nat,i=k/\k<=n/\Q k s t r b,λ_ _ _ i _=>(n -i).toNat,⟨0,rfl,dN _,p⟩,?_⟩
 rintro s t r i a ⟨k,rfl,q,v⟩
 refine o k s t r a _ _ q v λf d e c b w=>?_
 rw[kG f u]
 exact⟨⟨k+1,rfl,f,w⟩,DK f⟩
structure CB(ds:List bz)(g:Nat)(d:List Nat)(m2 M:E)(v lo:List Int)(aD:List cY)(k:Nat)(st inn mn:O):Prop where
 x:J m2 M
 hs:∃e,GS (inn.D::mn.D::d) m2 M st e/\WL ds g True v.length e/\dc e=dc (aD.take k)/\sw e<=1100*sw (aD.take k)
 hi:∃e,GI d m2 M inn e/\e.length=v.length+dc (aD.take k)
 hm:∃e,GI d m2 M mn e/\e.length<=lo.length+k/\∀o∈e,0<=o/\o<((v.length+dc (aD.take k):Nat):Int)
 ne:inn.D≠mn.D
def Z9{b:List bz}(h:WS b g False a x):dn x=1:=an (h.fg.op.resolve_right λh=>h.1)
def GY{U:List bz}:∀c:Bk,Xe U f c:=by
 refine Bk.ind ?_;intro aD v ih d m hS b8 c0 dQ c2 dM c6 aj lo la hn hv hs A bP hp;have bf:=hp.wb.aS;simp only[Bk.jV,Bk.jw]at*;have Yc:=hp.Yc;have Yb:=hp.Yb;have vN:=hp.vN;rw[(Bk.qL aD v)]at Yc Yb vN;apply yY;simp -zeta only[aC,aB];intro m0 o q aI;let⟨F,N,s0,s1,s2⟩:=ql (a:=m0) (b:=o) (c:=q) rfl rfl rfl;have bo:J q aI:=J.push _ _;have bK:∀am,GS am q aI (.mk q.size 0 0 0) []:=λam=>GS.new am q;have s3:aI.size=q.size+1:=by simp[aI]
 clear_value aI;clear_value q;have bS:=hs.len;have cK:=BV aD;have ds:=fZ aD;refine(bN d (hv.ext (F.trans bo)) V).aG bo N λl _ m4 G p x4 u4=>⟨_,rfl,?_⟩;subst p;refine(bN d (A.ext (F.trans u4)) V).aG u4 N λu _ m5 W p x5 u5=>⟨_,rfl,?_⟩;subst p;have bT:=G.bn;have bU:=W.bn;refine Sf (n:=aD.length) (bS▸hs.gW) (λk z l u g=>CB U f.length (o.size::d) q g aj lo aD k z l u) ⟨u5,⟨[],((bK _).ext gF.mono x4).ext gF.mono x5,WL.nil _ _ _ _,rfl,aL⟩,⟨aj,((G.ext x5).cz (λ_ h=>h) bo.size).any,aL⟩,⟨lo,(W.cz (λ_ h=>h) u4.size).any,V,by simpa using hp.aR⟩,V⟩ ?_;clear G W bT bU bK;rintro k z l u B bq μ hk ⟨x6,⟨R,gs,aX,Z,dt⟩,⟨li,G,aT⟩,⟨lm,W,db,bQ⟩,dm⟩ a3
 have v6:=F.trans x6;have dg:=G.len bh;have de:=tg (aD.take k);have dj:=qN k aD;have L:∀j∈o.size::d,j<q.size:=bO hS F.size (N _ aL);have cv:ap B l li:=(G.done L V).le (bA _ _);have cx:ap B u lm:=(W.done L V).le (bA _ _);have dH:=gs.bn;have bT:=G.bn;have bU:=W.bn;have cJ:=fZ (aD.take k);have dh:k<=sw (aD.take k):=by rw[gK]at cJ;omega
 refine dit (λh=>?_) λh=>?_
 .let⟨x,r⟩:=cG aD k;let⟨a,kk,ha,bM,g0,g1,g2,g3,g4⟩:=hs.aF r;refine⟨V,V,_,v6.af g0,_,v6.af g1,_,v6.af g2,_,v6.af g3,_,v6.af g4,?_⟩;intro m7 C;have x8:J B C:=(J.push B _).ah (ad _) _ _;have s8:C.size=B.size+1:=by simp[C,m7,ax]
  clear_value C;have T:=x6.trans x8;have z6:=x6.size;have t:∀{g:E},C.size<=g.size->∀c∈[B.size,o.size,m0.size,m.size],c<g.size:=λh c hb=>by
   rcases List.mem_cons.1 hb with p|p
   .omega
   .have:=T.lt (N c p);omega
  have dA:=pX r;have dy:=qQ r;have dz:=cY.mw x;have af:WS U f.length False li.length x:=by rw[aT];exact bf.1 k x r
  have bL:=Z9 af;have dv:=cK (k+1);have dd:=qt x.bC;have dk:=fZ R;have ae:∀{g:E},J q g->At g b8 c0 a kk U f x:=λh=>⟨hn.le (F.trans h).le,ha.ext (F.trans h),af.fg.call⟩;have aW:∀{g:E},GI (o.size::d) q g l li->ap g l li:=λw=>(w.done L V).le (bA _ _);have bd:∀{g:E},GI (o.size::d) q g u lm->ap g u lm:=λw=>(w.done L V).le (bA _ _);have an:∀{g:E}{am:List Nat},C.size<=g.size->(∀j∈am,j<g.size)->∀j∈am++o.size::d,j<g.size:=λh hb j b=>by
   rcases List.mem_append.1 b with h|h
   .exact hb j h
   .have:=L j h;omega
  refine(od (ae T).Ro (aW (G.ext x8)) (ae T).args (bM.le (F.trans T).le) V λc _=>nu c).aG (J.az C) (t (ad _)) λty m9 x9 _=>⟨_,rfl,?_⟩;intro aZ;have b2:J C aZ:=x9.aK _;have e0:ap (bH [] aZ) (.mk m9.size 0 0 0) []:=mI _ _ _ _ _ _;clear_value aZ;rw[kG (k:=k) (n:=aD.length) V (bS▸hs.gW)]at a3⊢
  refine(AI (.mk aD v) [] aZ aL c2 _ _ _ (k+1) (hs.le (F.trans (T.trans b2)).le) e0 (by simp only[Bk.jV];omega) (by simp only[Bk.qL,eG];omega)).aG b2 (t (ad _)) λus ul cO hu cL dR bn=>⟨_,rfl,?_⟩;rw[Bk.qL,eG]at cL;refine(Pn (S:=[]) aL hu ((bP.ext (F.trans (T.trans bn))).le (Ao _)) V).aG bn (t (ad _)) λlt ll cP ba bY c3 au=>⟨_,rfl,?_⟩;have aH:∀{g:E},GI [] cO g lt ll->ap g lt ll:=λw=>(w.done aL (oh bY.2)).le (bA _ _);have br:=T.trans au;have bx:=G.ext (x8.trans au);have bG:=W.ext (x8.trans au);have cq:=gs.ext gF.mono (x8.trans au);refine(G6 (b:=[]) aL (ae br) (aW bx) af.fg.args (bd bG) (aH ba) V).aG (J.az cP) (t au.size) λdu dl cQ ck bZ av _=>⟨_,rfl,?_⟩;have c7:=bZ.2;have dT:=au.size;have dU:=av.size;have dS:=bn.size;have d8:=c3.size;refine(eZ (c:=[z.D,l.D,u.D]++o.size::d) (an V bF) 14 ((ck.done aL V).le (bA _ _)) V).aG (J.az cQ) (t V) λdO _ a0 ce p aw _=>⟨_,rfl,?_⟩;subst p;have dV:=aw.size;refine GS.all (cq.ext gF.mono (av.trans aw)) (((br.trans av).trans aw).fz []) (ce.done gF.mono (an (am:=[z.D,l.D,u.D]) V bF) bh bF) bF λbm bV bv b9 b3 a5=>⟨λj b=>a5 j (t V j b) ?_,?_⟩
  .simp at b;omega
  have aS:J q bV:=b9.ext;have cw:l.D<a0.size:=V;have cy:u.D<a0.size:=V;have cz:z.D≠l.D:=gs.LQ G bh;have cA:z.D≠u.D:=gs.LQ W bh;have di:=ba.bn;have bB:=(bx.ext (av.trans aw)).jy (a5 _ cw cz.symm);have bJ:=(bG.ext (av.trans aw)).jy (a5 _ cy cA.symm);have bE:=(ba.ext (av.trans aw)).jy (a5 _ V V);have dp:bm.D=z.D\/a0.size<=bm.D:=b3.2;have dD:=bv.bn;have dW:=b3.1;refine(IS (d:=[bm.D,l.D,u.D]++o.size::d) (an V bF) (ae aS).Ro (aW bB) (ae aS).args (bM.le (F.trans aS).le) (bd bJ) (aH bE) (by rw[aT];exact bQ) V (oh bY.2) V af (ih x (aq r))).aG (J.az bV) (t V) λc_ da x' bW cr cs cW ay _=>⟨_,_,_,_,_,rfl,?_⟩;let⟨cM,cI,dx⟩:=cW;have dX:=ay.size;refine GS.kM (x:=x') (bv.ext gF.mono ay) ((aS.trans ay).fz []) cr cs bF λaK bg bw b_ b4 a6=>⟨λj b=>?_,?_⟩
  .have:=t (g:=bW) V j b;rw[a6 j this (by simp at b;omega),(J.push bW _).same j this]
  have a8:J q bg:=b_.ext;have bC:=(bB.ext ay).jy (a6 _ V V);have cp:=(bJ.ext ay).jy (a6 _ V V);have a_:=(bE.ext ay).jy (a6 _ V V);have dq:aK.D=z.D\/a0.size<=aK.D:=by have:=b4.2;omega
  have dY:=b4.1;refine(IZ (b:=[]) aL (ae a8) (aW bC) af.fg.args (bd cp) (aH a_) V).aG (J.az bg) (t V) λar lf cR gf bk az _=>⟨_,rfl,?_⟩;have bs:=a8.trans az;have dZ:=az.size;have cu:∀{g:E},GI [] bg g ar lf->ap g ar lf:=λw=>(w.done aL (oh bk.2)).le (bA _ _);refine(I5 (b:=[]) aL (ae bs) (cu gf) (aH (a_.ext az)) V).aG (J.az cR) (t V) λc1 Q cS gd b0 aA _=>⟨_,rfl,?_⟩;have d0:=aA.size;have c9:=b0.2;have c8:=bk.2;have dG:=gf.bn;have dF:=gd.bn;have dE:=bw.bn;refine(eZ (c:=[aK.D,ar.D,l.D]++o.size::d) (an V bF) 15 ((gd.done aL V).le (bA _ _)) V).aG (J.az cS) (t V) λdP _ cT ch p ak _=>⟨_,rfl,?_⟩;subst p;have b6:=(bs.trans aA).trans ak;have d3:=ak.size;have cf:GS ([ar.D,l.D]++o.size::d) q cT aK _:=bw.re gF.mono (Y:=[]) (((az.trans aA).trans ak).fz []) aL aL λj b=>by
   simp only[cX,eH,aV]at b⊢;rcases b with h|h|h
   .exact Or.inr V
   .exact Or.inl (Or.inl h)
   .exact Or.inl (Or.inr (Or.inr h))
  refine GS.all cf (b6.fz []) (ch.done gF.mono (an (am:=[aK.D,ar.D,l.D]) V bF) bh bF) bF λH a1 ci ca c4 aJ=>⟨λj b=>aJ j (t V j b) ?_,?_⟩
  .simp at b;omega
  have b7:J q a1:=ca.ext;have d4:=c4.1;have cn:=((bC.ext az).ext (aA.trans ak)).jy (aJ _ V V);have cm:=(gf.ext (aA.trans ak)).jy (aJ _ V V);have cj:=(gd.ext ak).jy (aJ _ V V);have co:=((a_.ext az).ext (aA.trans ak)).jy (aJ _ V V);have bc:ap a1 c1 Q:=(cj.done aL V).le (bA _ _);have ct:=bc.len;have cl:GI (o.size::d) q a1 ar lf:=(cm.cz (λ_ h=>h) a8.size).any;refine eu (n:=Q.length) (ct▸bc.gW) (λ_ s g=>J a1 g/\∃e,GI (o.size::d) q g s e/\GS ([s.D,l.D]++o.size::d) q g H (R++dl.map (fe 14)++[x']++Q.map (fe 15))/\pv lf e/\l.D≠s.D/\C.size<=s.D) ⟨J.az _,lf,cl,ci,⟨λ_ h=>h,ad _⟩,V,V⟩ ?_;rintro i s bi I2 μ2 hi ⟨aE,e,gl,bb,P,cC,dr⟩ cU;have bt:=b7.trans aE;have d5:=aE.size;have cN:=gl.bn;refine dit (λh2=>?_) λh2=>?_
  .let⟨I,K⟩:=cG Q i;refine⟨V,V,I,(bc.ext aE).aF K,?_⟩;refine(BU (S:=[]) aL (((gl.done L (oh P.2)).le (bA _ _)).le (Ao _)) I (oh P.2)).aG (J.az bi) (t V) λac X ab g2 y D _=>⟨_,rfl,cU V _ _ ⟨aE.trans D,X,(g2.cz (λ_ h=>h) bt.size).any,?_,⟨λaF hz=>P.1 aF (y.1 aF hz),bI y.2 P.2⟩,?_,?_⟩⟩
   .have aa:=g2.bn;refine bb.re gF.mono (Y:=[]) (D.fz []) aL aL λj b=>?_;simp only[cX,eH,aV]at b⊢;rcases b with h|h|h
    .exact Or.inr V
    .exact Or.inl (Or.inr (Or.inl h))
    .exact Or.inl (Or.inr (Or.inr h))
   .have:=g2.bn;omega
   .have:=g2.bn;omega
  intro dJ;have bD:=cn.ext aE;refine GI.kM bD (bt.fz []) L V λaa ao ab cb b5 a7=>⟨λj b=>?_,?_⟩
  .have:=t (g:=bi) V j b;rw[a7 j this (by simp at b;omega),(J.push bi _).same j this]
  have a9:J q ao:=cb.ext;have c5:=b5.1;have cF:H.D≠l.D:=bb.LQ bD bh;have aG:=gl.jy (a7 _ cN.2 cC.symm);have bR:=b5.2;have ac:GS ([s.D,aa.D]++o.size::d) q ao H _:=bb.re gF.mono (Y:=[l.D]) ⟨c5,λj b hn=>a7 j b (by simpa using hn)⟩ aL (by simpa using cF) λj b=>by
   simp only[cX,eH,aV]at b⊢;rcases b with h|h|h
   .exact Or.inl (Or.inl h)
   .rcases bR with p|p
    .exact Or.inl (Or.inr (Or.inl (h.trans p)))
    .exact Or.inr V
   .exact Or.inl (Or.inr (Or.inr h))
  have bj:aa.D≠s.D:=by rcases bR with p|p<;>omega
  have I:WL U f.length True aj.length (R++dl.map (fe 14)++[x']++Q.map (fe 15))/\dc (R++dl.map (fe 14)++[x']++Q.map (fe 15))=dc (aD.take (k+1))/\sw (R++dl.map (fe 14)++[x']++Q.map (fe 15))+2<=1100*sw (aD.take (k+1)):=by
   have df:dn x'=1:=by unfold dn at bL⊢;rw[cI];exact bL
   have d1:dc (dl.map (fe 14))=0:=jW V _;have d2:dc (Q.map (fe 15))=0:=jW V _;refine⟨((aX.append (rS V λy A=>?_)).yS ?_).append (rS V λy A=>?_),?_,?_⟩
   .rw[Z,<-aT];exact af.fg.args y (bZ.1 y A)
   .rw[cZ,d1,Z,jG,<-aT];exact cM
   .have:=af.fg.args y (b0.1 y A);rw[cZ,cZ,d1,Z,kO,th];omega
   .rw[cZ,cZ,cZ,d1,d2,Z,kO,th];omega
   .rw[dC,dC,dC,oF,oF,mN,vz];omega
  have be:∀y∈e,0<=y/\y<((aj.length+dc (aD.take (k+1)):Nat):Int):=λy A=>by
   have:=bQ y (bk.1 y (P.1 y A));omega
  have bX:∀(g:E),J ao g->bq H aa s ((k+1:Nat):Int) g/\μ H aa s ((k+1:Nat):Int) g<μ z l u k B:=λg r=>
   a3 V _ _ _ _ ⟨a9.trans r,⟨_,(ac.re gF.mono (Y:=[]) (r.fz []) aL aL λj b=>Or.inl (by simp only[cX,eH,aV]at b⊢;rcases b with h|h|h;exact Or.inr (Or.inl h);exact Or.inl h;exact Or.inr (Or.inr h))),I.1,I.2.1,V⟩,⟨_,ab.ext r,bF⟩,⟨e,aG.ext r,oh P.2,be⟩,bj⟩
  have dI:=ac.bn;have cV:∀(g:E),J ao g->aN cg 227 [vi (15:Int),vi (l.len:Int)] g λrv D=>eI [B.size,o.size,m0.size,m.size] g D/\∃aM:Int,∃aO:Int,∃aP:Int,∃aQ:O,∃aR:O,rv=.agg #[vi aM,vi aO,vi aP,O.v aQ,O.v aR]/\
   let M2:E:=D.push (.cells (bu [.i aM,.i aO,.i aP,.s aQ,.s aR]) gC)
   jN M2 gC [.i (0:Int),.i (0:Int),.i (0:Int),.s O.nil,.s O.nil] 72 H (O.mk D.size 0 1 1) λb1 K=>eI [B.size,o.size,m0.size,m.size] M2 K/\bq b1 aa s ((k+1:Nat):Int) K/\μ b1 aa s ((k+1:Nat):Int) K<μ z l u k B:=by
   intro g r
   have zx:=r.size
   have dB:=ab.bn
   refine(jm (c:=[H.D,s.D,aa.D]++o.size::d) (an V bF) 15 (l.len:Int)).mono λrv D⟨pa,pk,p,X,h2,ag⟩=>?_
   subst p
   have d7:=ag.size
   have aY:=r.trans ag
   refine⟨ag.dv (t V),_,_,_,_,_,rfl,?_⟩
   have cD:H.D≠aa.D:=ac.LQ ab bh
   have cE:H.D≠s.D:=ac.LQ aG bh
   refine GS.kM (x:=fe 15 (l.len:Int)) (ac.ext gF.mono aY) ((a9.trans aY).fz []) X h2 (PA I.2.2 (fZ (R++dl.map (fe 14)++[x']++Q.map (fe 15)))) λr' K w aU aF a4=>⟨λj b=>?_,a3 V _ _ _ _ ⟨aU.ext,⟨_,(w.re gF.mono (Y:=[]) ((J.az _).fz []) aL aL λj b=>Or.inl (by simp only[cX,eH,aV]at b⊢;rcases b with h|h|h;exact Or.inr (Or.inl h);exact Or.inl h;exact Or.inr (Or.inr h))),I.1.yS (Ec V ?_),?_,?_⟩,⟨_,(ab.ext aY).jy (a4 _ V cD.symm),bF⟩,⟨e,(aG.ext aY).jy (a4 _ V cE.symm),oh P.2,be⟩,bj⟩⟩
   .have:=t (g:=D) V j b
    rw[a4 j this (by simp at b;omega),(J.push D _).same j this]
   .rw[I.2.1];omega
   .rw[cZ,I.2.1];simp[kO,dn,fe,pt]
   .rw[dC,mN,vz]
    have h5:(fe 15 (l.len:Int)).w=2:=by rw[cY.mw];rfl
    have:=I.2.2;omega
  refine⟨λ_=>?_,λh0=>⟨λX=>by rw[h0]at X;simp at X,λ_=>bX ao (J.az _)⟩⟩;refine(dw (aH (((co.ext aE).jy (a7 _ V V)))) _).any.aG (J.az ao) (t V) λc a2 al _=>⟨_,rfl,λ_=>?_,λ_=>⟨λ_=>cV a2 al,λ_=>bX a2 al⟩⟩;intro dK;have cH:H.D≠s.D:=ac.LQ aG bh;have d6:=al.size;refine GI.kM (aG.ext al) ((a9.trans al).fz []) L (oh P.2) λdN dL cd cc bp bl=>⟨λj b=>?_,a3 V _ _ _ _ ⟨cc.ext,⟨_,(ac.ext gF.mono al).re gF.mono (Y:=[s.D]) ⟨bp.1,λj b hn=>bl j b (by simpa using hn)⟩ aL (by simpa using cH) λj b=>?_,I.1,I.2.1,V⟩,⟨_,(ab.ext al).jy (bl _ ?_ bj),bF⟩,⟨_,cd,?_,?_⟩,?_⟩⟩
  .have:=t (g:=a2) V j b;rw[bl j this (by simp at b;omega),(J.push a2 _).same j this]
  .simp only[cX,eH,aV]at b⊢;rcases b with h|h|h
   .exact Or.inl (Or.inr (Or.inl h))
   .rcases bp.2 with p|p
    .exact Or.inl (Or.inl (h.trans p))
    .exact Or.inr V
   .exact Or.inl (Or.inr (Or.inr h))
  .have:=ab.bn;omega
  .have:=P.2;simp;omega
  .intro y A;rcases List.mem_append.1 A with A|A
   .exact be y A
   .simp at A;omega
  .have:=ab.bn;rcases bp.2 with p|p<;>omega
 .have aa:k=aD.length:=V;subst aa;rw[fx]at*;have P:∀(g:E)(H:O)(t:List cY),J q g->GS (l.D::u.D::o.size::d) q g H t->WL U f.length True aj.length t->dc t=dc aD->sw t<=1100*sw aD+2->
   let y:E:=ah g o.size 0 [.s H,.i v]
   ∃s c,Value.agg #[O.v H,vi v]=.agg #[O.v s,vi c.aU]/\eS (bH d y) s c.aD/\(WB U f.length True aj.length c/\c.w+1050<=1100*(Bk.mk aD v).w)/\J m y:=by
   intro g H t r w X h2 h3 y
   have ab:=fZ t
   have:=w.bn
   refine⟨H,.mk t v,rfl,eS.le (cB aL λj b=>ai _ b) (w.re gF.mono (S':=o.size::d) (Y:=[]) (Fz.az _ _) aL aL (λj b=>Or.inl (ai _ (ai _ b)))|>.done gF.mono L bh bF),⟨WB.of X (by rw[h2];exact bf.2),?_⟩,(F.trans r).ah V _ _⟩
   rw[Bk.qL,Bk.qL];omega
  have lM:∀(g:E),J B g->aN cg 227 [vi (14:Int),vi v] g λrv D=>eI [o.size,m0.size,m.size] g D/\∃aM:Int,∃aO:Int,∃aP:Int,∃aQ:O,∃aR:O,rv=.agg #[vi aM,vi aO,vi aP,O.v aQ,O.v aR]/\
   let M2:E:=D.push (.cells (bu [.i aM,.i aO,.i aP,.s aQ,.s aR]) gC)
   jN M2 gC [.i (0:Int),.i (0:Int),.i (0:Int),.s O.nil,.s O.nil] 72 z (O.mk D.size 0 1 1) λQ K=>eI [o.size,m0.size,m.size] M2 K/\
    let y:E:=ah K o.size 0 [.s Q,.i v]
    ∃s c,Value.agg #[O.v Q,vi v]=.agg #[O.v s,vi c.aU]/\eS (bH d y) s c.aD/\(WB U f.length True aj.length c/\c.w+1050<=1100*(Bk.mk aD v).w)/\J m y:=by
   intro g r
   refine(jm (c:=z.D::l.D::u.D::o.size::d) (λj b=>?_) 14 v).mono λrv D⟨a,kk,p,X,h2,x1⟩=>?_
   .have:=r.size
    simp at b
    rcases b with h|h|h|h|h
    .omega
    .omega
    .omega
    .have:=x6.lt (N o.size aL);omega
    .have:=hS _ h;have:=v6.size;omega
   subst p
   have ag:=x6.trans (r.trans x1)
   refine⟨J.oK (x6.trans r) ag N,_,_,_,_,_,rfl,?_⟩
   refine GS.kM (x:=fe 14 v) (gs.ext gF.mono (r.trans x1)) (ag.fz []) X h2 (oh (fZ R)) λr' K w aU aF a4=>⟨J.oK (ag.aK _) aU.ext N,P K r' _ aU.ext w (aX.yS (Ec V (by rw[Z];exact bf.2))) ?_ ?_⟩
   .rw[cZ,Z];simp[kO,dn,fe,pt]
   .rw[dC];simp[mN,cY.mw,fe];omega
  let⟨aF,hz⟩:=cG li v.toNat;refine⟨V,V,aF,cv.aF hz,λ_=>?_,λ_=>P B z R x6 gs aX Z V⟩;refine(dw (bP.ext v6) v).any.aG x6 N λc m7 I u7=>⟨_,rfl,λ_=>lM m7 I,λ_=>?_⟩;exact(dw (cx.ext I) v).any.aG u7 N λc C x8 T=>⟨_,rfl,λ_=>lM C (I.trans x8),λ_=>P C z R T ((gs.ext gF.mono I).ext gF.mono x8) aX Z V⟩
end
structure Z0(ds:List bz)(nr:Nat)(v lm:List Int)(b:Bk):Prop where
 aR:∀o∈lm,0<=o/\o<(v.length:Int)
 lN:lm.length+5*b.w<=1000000
 vN:v.length+5*b.w<=1000000
 wb:WB ds nr False v.length b
def Yp(a:List bz)(d:List gR)(b:Bk):Prop:=∀(S:List Nat)(m:E),(∀c∈S,c<m.size)->∀(f r h t g:O)(v c:List Int),eN m f r a d->ap m h v->eS m t b.aD->ap m g c->Z0 a d.length v c b->
 nA 240 [.agg #[O.v f,O.v r],O.v h,.agg #[O.v t,vi b.aU],O.v g] m S λe=>WB a d.length True v.length e/\e.w+20<=40*b.w+2*c.length
def Kl{o:List Nat}{m:E}(hS:∀c∈o,c<m.size){ag am ay aY K:O}{G:List bz}{rs:List gR}{v:List Int}{x:cY}(hn:eN m ag am G rs)(hv:ap m ay v)(ha:ap m aY x.args)(hk:nI m K x.bC)
 (vN:v.length+5*x.w<=1000000)(aM:WS G rs.length False v.length x)(ih:∀h∈x.bC,Yp G rs h):
 KR 260 [.agg #[O.v ag,O.v am],O.v ay,ph x aY K] m o λx'=>WS G rs.length True v.length x'/\x'.op=x.op/\x'.w<=1+x.args.length+40*bw x.bC:=by
 apply Dd
 simp -zeta only[aC,aB]
 intro F e k a5
 let⟨N,H,s0,s1,s2⟩:=ql (a:=F) (b:=e) (c:=k) rfl rfl rfl
 have a_:J k a5:=J.push _ _
 have gk:=GB.new (e.size::o) k
 clear_value k
 have bs:=ha.len;have bk:=hk.len;have hw:=cY.mw x;have bE:=La x.bC;have bo:=hv.len
 have aK:∀c∈e.size::o,c<k.size:=bO hS N.size (H _ aL)
 refine(iy (e:=[k.size]) (by simp[a5]) (hn.le (N.trans a_).le).bo hn.types x.bP).aG a_ H λc cl m4 d aR x4 u4=>⟨_,rfl,?_⟩
 subst aR
 have bG:=d.len
 refine eu (n:=x.bC.length) (bk▸hk.gW) (λj s M=>Fz [k.size] m4 M/\(s.D=k.size\/m4.size<=s.D)/\∃p,GB (e.size::o) k M s p/\p.length=j/\(∀(aa:Nat)(h:Bk),p[aa]? =some h->WB G rs.length True (v.length+Cd G x.op x.bP aa) h)/\bw p<=40*bw (x.bC.take j)) ⟨Fz.az _ _,Or.inl rfl,[],gk.ext rO.mono x4,rfl,aL,aL⟩ ?_
 rintro j s Z aX μ hj ⟨f5,bm,p,C,bI,a4,a0⟩ bq
 have L:=Wa u4 f5 (ad _)
 have hy:=C.bn
 refine dit (λu=>?_) λu=>?_
 .intro m6
  have x6:J Z m6:=J.push _ _
  have u6:=L.trans x6
  let⟨h,P⟩:=cG x.bC j
  have bB:=wX P
  have bD:=uA P
  have bt:=Q0 hn.types x.op x.bP j
  have bx:=qt x.bC
  refine⟨λaZ M=>J Z M/\∃B,ap M aZ B/\B.length=Cd G x.op x.bP j,⟨λh8=>?_,λh8=>?_⟩,?_⟩
  .simp only[aH]at h8
   have g:=(aM.fg.all h8).1
   let⟨y,a⟩:=cG (cA G x.bP) j
   refine⟨V,V,y,(eT.1 ((d.le ((f5.then x6).dg aL)).aF a)).2,?_⟩
   refine(dJ (e:=[]) aL ((hn.le (N.trans u6).le).bo.le (Ao _)) hn.types y).aG u6 H λaZ B m7 hf aR f i=>⟨_,rfl,x6.trans f,B,hf.le (bA _ _),?_⟩
   subst aR;exact(KY h8 a).symm
  .simp only[aj]at h8
   exact⟨x6,[],mI _ _ _ _ _ _,(KZ h8).symm⟩
  rintro fs m8 ⟨R,B,hf,a2⟩
  have e8:(ay.len:Int)=((v.length:Nat):Int):=by rw[bo]
  rw[e8]
  refine(rV (S:=[]) aL (hf.le (Ao _)) v.length V).aG (L.trans R) H λmi ml y gm qm T u9=>⟨_,rfl,?_⟩
  let⟨aU,hs,e0,e1⟩:=hk.aF P
  have v9:=N.trans u9
  refine⟨V,V,_,v9.af e0,_,v9.af e1,?_⟩
  have z5:=L.size
  have g9:=C.ext rO.mono (R.trans T)
  have a3:∀{M:E},J y M->ap M mi ml:=λu=>((gm.done aL (oh qm.2)).le (bA _ _)).ext u
  have bJ:=qm.2
  have E5:∀{M f:E},J k M->J k f->∀{a6:Prop},a6->af f K.D (K.off+Int.toNat (j:Int)*2)=af M K.D (K.off+Int.toNat (j:Int)*2)/\af f K.D (K.off+Int.toNat (j:Int)*2+1)=af M K.D (K.off+Int.toNat (j:Int)*2+1)/\
   af f F.size 4=af M F.size 4/\af f m.size 0=af M m.size 0/\af f m.size 1=af M m.size 1/\a6:=λ{M f} u h' _ hp=>by
   have aD:∀h,h<k.size->∀z,af f h z=af M h z:=λh P z=>aI (by rw[h'.same h P,u.same h P]) z
   exact⟨((N.trans h').af e0).trans ((N.trans u).af e0).symm,((N.trans h').af e1).trans ((N.trans u).af e1).symm,aD _ V _,aD _ V _,aD _ V _,hp⟩
  have ao:∀{M:E},J Z M->∀c∈s.D::e.size::o,c<M.size:=λu c d=>by
   have:=u.size;rcases List.mem_cons.1 d with g|g
   .omega
   .have:=aK c g;omega
  have X:∀{M:E}{a:Nat},J Z M->a<M.size->∀c∈[a,e.size,F.size,m.size],c<M.size:=λu P c d=>by
   rcases List.mem_cons.1 d with g|g
   .omega
   .exact(L.trans u).lt (H c g)
  have tail:∀(M:E)(a:Nat)(Q:O)(i:Bk),GB (a::e.size::o) k M s p->J Z M->J y M->y.size<=a->a<M.size->eS (bH (a::s.D::e.size::o) M) Q i.aD->WB G rs.length True (v.length+B.length) i/\i.w+20<=40*h.w+2*ml.length->
   let l:E:=ah M a 0 [.s Q,.i i.aU]
   aN cg 257 [vi (14:Int),O.v mi] l λrv q=>eI [a,e.size,F.size,m.size] l q/\∃ab:O,rv=O.v ab/\af q a 1=af l a 1/\af q a 0=af l a 0/\
    jN q gC [.i (0:Int),.i (0:Int),.i (0:Int),.s O.nil,.s O.nil] 72 ab Q λau w=>eI [a,e.size,F.size,m.size] q w/\af w a 1=af q a 1/\
     let M4:E:=w.push (.cells (bu [.s au,.i i.aU]) di)
     jN M4 di [.s O.nil,.i (0:Int)] 32 s (O.mk w.size 0 1 1) λac W=>eI [a,e.size,F.size,m.size] M4 W/\aX ac (cU ((j:Int)+(1:Int))) W/\μ ac (cU ((j:Int)+(1:Int))) W<μ s j Z:=by
   intro M a Q i C I bp bj bv ak hq l
   have z1:l.size=M.size:=ax _ _ _ _
   have z9:=(R.trans T).size
   have ba:J y l:=bp.ah bj _ _
   have U:J Z l:=(R.trans T).trans ba
   have bl:s.D≠a:=V
   have g1:GB (e.size::o) k l s p:=C.re rO.mono (Y:=[a]) ((Fz.az [a] M).ah (Or.inl aL) _ _) aL (by simpa using bl) λc d=>Or.inl (ai _ d)
   have bn:eS (bH (s.D::e.size::o) l) Q i.aD:=ak.le (cB aL λc d=>ai _ d)
   have bC:=Bk.mw i;have a0:=fZ i.aD
   refine(eZ (c:=s.D::e.size::o) (ao U) 14 (a3 ba) V).aG (J.az l) (X U V) λab _ q aG g an _=>⟨_,rfl,aI (an.same _ V) _,aI (an.same _ V) _,?_⟩
   subst g
   have z2:=an.size
   refine GS.all aG (an.fz []) (bn.le (tm an aG.bn.1)) bF λau w be bd bM a7=>?_
   have ae:J l w:=bd.ext
   have z3:=ae.size
   have bK:=aG.bn
   refine⟨λc d=>a7 c (oh (X U (a:=a) V c d)) (oh (X U (a:=a) V c d)),aI (a7 _ V V) _,?_⟩
   intro M4
   have bg:=be.done gF.mono (ao U) bh bF
   refine GB.kM (c:=.mk (ml.map (fe 14)++i.aD) i.aU) (g1.ext rO.mono ae) ((((L.trans U).trans ae)).fz []) bg V λac W bf br bc a8=>⟨λc d=>?_,bq V _ _ ⟨(f5.then (U.trans ae)).OY bm bc.1 a8,?_,_,bf,bF,λaa b2 r=>?_,?_⟩⟩
   .have:=X (U.trans ae) (a:=a) V c d
    rw[a8 c this (by simp at d;omega),(J.push w _).same c this]
   .have h1:=(f5.then (U.trans ae)).size
    rcases bc.2 with g|g<;>omega
   .rcases aW aa p.length with t|t
    .rw[av t]at r;exact a4 aa b2 r
    .rw[aJ t]at r
     have:aa -p.length=0:=by have:=aw r;simp at this;omega
     rw[this]at r;simp at r;subst r
     have:aa=j:=V
     subst this
     rw[<-a2]
     refine WB.of ((rS V λz ho=>?_).append ?_) ?_
     .have:=qm.1 z ho;omega
     .rw[jW V];exact hq.1.aS.1
     .rw[cZ,jW V,bT];exact hq.1.aS.2
   .rw[oU,uz,zQ,Bk.qL,dC,oF]
    have:=hq.2;omega
  have a1:∀(M:E)(aF:List Nat)(aE:Value->E->Prop),J y M->(∀c∈aF,c<M.size)->(∀s f,ap f s (v++B)->J M f->aE (O.v s) f)->aN cg 187 [O.v ay,O.v fs] M λv m'=>eI aF M m'/\aE v m':=λM aF aE I X hK=>
   (eQ (S:=[]) aL ((hv.ext (v9.trans I)).le (Ao _)) ((hf.ext (T.trans I)).le (Ao _)) V).aG (J.az M) X λs ll f C g x _=>hK s f (by subst g;exact(C.done aL bF).le (bA _ _)) x
  have D:∀(M:E)(S':List Nat)(t:O),(∀c∈S',c<M.size)->J y M->ap M t (v++B)->nA 240 [.agg #[O.v ag,O.v am],O.v t,.agg #[O.v aU,vi h.aU],O.v mi] M S' λi=>WB G rs.length True (v.length+B.length) i/\i.w+20<=40*h.w+2*ml.length:=by
   intro M S' t bi I r;have hm:=v9.trans I;have:=ih h (aq P) S' M bi ag am t aU mi (v++B) ml (hn.le hm.le) r (hs.le hm.le) (a3 I) ⟨λz ho=>?_,V,bF,by simp;rw[a2];exact aM.bC j h P⟩
   .simpa using this
   .have:=qm.1 z ho;simp;omega
  have iK:∀(M:E)(a:Nat)(t:O),GB (a::e.size::o) k M s p->J y M->y.size<=a->a<M.size->ap M t (v++B)->
   aN cg 240 [.agg #[O.v ag,O.v am],O.v t,.agg #[O.v aU,vi h.aU],O.v mi] M λrv f=>eI [a,e.size,F.size,m.size] M f/\∃aS:O,∃aT:Int,rv=.agg #[O.v aS,vi aT]/\
    let l:E:=ah f a 0 [.s aS,.i aT]
    aN cg 257 [vi (14:Int),O.v mi] l λrv q=>eI [a,e.size,F.size,m.size] l q/\∃ab:O,rv=O.v ab/\af q a 1=af l a 1/\af q a 0=af l a 0/\
     jN q gC [.i (0:Int),.i (0:Int),.i (0:Int),.s O.nil,.s O.nil] 72 ab aS λau w=>eI [a,e.size,F.size,m.size] q w/\af w a 1=af q a 1/\
      let M4:E:=w.push (.cells (bu [.s au,.i aT]) di)
      jN M4 di [.s O.nil,.i (0:Int)] 32 s (O.mk w.size 0 1 1) λac W=>eI [a,e.size,F.size,m.size] M4 W/\aX ac (cU ((j:Int)+(1:Int))) W/\μ ac (cU ((j:Int)+(1:Int))) W<μ s j Z:=by
   intro M a t C I h1 h2 h3
   have x5:=(R.trans T).trans I
   have z9:=(R.trans T).size
   refine(D M (a::s.D::e.size::o) t (λc d=>?_) I h3).aG (J.az M) (X x5 h2) λQ i f ak hq ar _=>⟨_,_,rfl,tail f a Q i (C.ext rO.mono ar) (x5.trans ar) (I.trans ar) h1 (ar.lt h2) ak hq⟩
   rcases List.mem_cons.1 d with g|g
   .omega
   .exact ao x5 c g
  have aQ:∀(M:E)(z:Obj),GB (e.size::o) k M s p->GB (M.size::e.size::o) k (M.push z) s p:=λM z C=>
   C.re rO.mono (Y:=[]) ((J.push M z).fz []) aL aL λc d=>by
    rcases List.mem_cons.1 d with g|g
    .exact Or.inr V
    .exact Or.inl g
  refine⟨a1 y _ _ (J.az _) (λc d=>u9.lt (H c d)) λt aP r A=>⟨_,rfl,E5 u9 (u9.trans A) ⟨?_,?_⟩⟩,?_⟩
  .have al:=u9.trans A
   have vH:=A.size
   refine(D aP (s.D::e.size::o) t (ao ((R.trans T).trans A)) A r).aG al H λQ i aA ak hq az a9=>⟨_,_,rfl,?_⟩
   intro aV
   have bL:=az.size
   exact E5 a9 (a9.aK _) (tail aV aA.size Q i (aQ aA _ ((g9.ext rO.mono A).ext rO.mono az)) ((((R.trans T).trans A).trans az).aK _) ((A.trans az).aK _) V (by simp[aV]) (ak.le (tm (J.push aA _) (ad _))) hq)
  .intro az
   have al:=u9.trans A
   have vH:=A.size
   exact E5 al (al.aK _) (iK az aP.size t (aQ aP _ (g9.ext rO.mono A)) (A.aK _) V (by simp[az]) (r.ext (J.push _ _)))
  .intro al
   have az:J y al:=J.push _ _
   have aV:J k al:=u9.trans az
   refine E5 u9 aV (a1 al _ _ az (X ((R.trans T).trans az) (by simp[al])) λt a9 r aA=>⟨_,rfl,E5 aV (aV.trans aA) ?_⟩)
   exact iK a9 y.size t ((aQ y _ g9).ext rO.mono aA) (az.trans aA) (ad _) (aA.lt (by simp[al])) r
 .have f:p.length=x.bC.length:=V
  rw[bV V]at a0
  refine(bN (e.size::o) (ha.ext (N.trans L)) V).aG L H λi l m6 a g x6 u6=>⟨_,rfl,aI (x6.same _ (L.lt (H _ aL))) _,aI (x6.same _ (L.lt (H _ aL))) _,?_⟩
  subst g
  intro m7
  refine⟨i,s,⟨x.op,x.bP,0,x.args,p⟩,rfl,(a.done (λc d=>aO (aK c d) L.size) V).le (cB aL λc d=>ai _ d),nI.le (cB aL λc d=>ai _ d) ((C.ext rO.mono x6).done rO.mono aK bh (by have:=qt x.bC;show p.length<=_;omega)),⟨aM.Qd (λu=>u.elim) ⟨V,V⟩ f a4,rfl,?_⟩,(N.trans u6).ah V _ _⟩
  rw[cY.mw]
  simp only
  omega
structure LB(ds:List bz)(nr:Nat)(S:List Nat)(m2 M:E)(v lm:List Int)(aD:List cY)(k:Nat)(st inn ow:O):Prop where
 x:J m2 M
 hs:∃l,GS (inn.D::ow.D::S) m2 M st l/\WL ds nr True v.length l/\dc l=dc (aD.take k)/\sw l+2*k<=40*sw (aD.take k)
 hi:∃l,GI S m2 M inn l/\l.length=v.length+dc (aD.take k)
 ho:∃l,GI S m2 M ow l/\l.length<=lm.length+k/\∀o∈l,0<=o/\o<((v.length+dc (aD.take k):Nat):Int)
 ne:inn.D≠ow.D
def IY{D:List bz}{G:List gR}:∀p:Bk,Yp D G p:=by
 refine Bk.ind ?_;intro aD A ih j C hS bc bP ci ch ce H lm hn hv hs bq hp;have au:=hp.wb.aS;simp only[Bk.jV,Bk.jw]at*;have lN:=hp.lN;have vN:=hp.vN;rw[(Bk.qL aD A)]at lN vN;apply Bl;simp -zeta only[aC,aB];intro m d f ac;let⟨B,u,s0,s1,s2⟩:=ql (a:=m) (b:=d) (c:=f) rfl rfl rfl;have aM:J f ac:=J.push _ _;have aW:∀I,GS I f ac (.mk f.size 0 0 0) []:=λI=>GS.new I f;have s3:ac.size=f.size+1:=by simp[ac]
 clear_value ac;clear_value f;have bB:=hs.len;have bD:=BV aD;have b1:=fZ aD;refine(bN j (hv.ext (B.trans aM)) V).aG aM u λg _ m4 r e x4 u4=>⟨_,rfl,?_⟩;subst e;refine(bN j (bq.ext (B.trans u4)) V).aG u4 u λi _ m5 z e x5 u5=>⟨_,rfl,?_⟩;subst e;have a5:=r.bn;have bI:=z.bn;refine Sf (n:=aD.length) (bB▸hs.gW) (λk t g i a=>LB D G.length (d.size::j) f a H lm aD k t g i) ⟨u5,⟨[],((aW _).ext gF.mono x4).ext gF.mono x5,WL.nil _ _ _ _,rfl,aL⟩,⟨H,((r.ext x5).cz (λ_ h=>h) aM.size).any,aL⟩,⟨lm,(z.cz (λ_ h=>h) u4.size).any,V,by simpa using hp.aR⟩,V⟩ ?_;clear r z a5 bI aW;rintro k t g i s ba μ hk ⟨W,⟨R,K,av,P,b2⟩,⟨li,r,an⟩,⟨lo,z,bS,a1⟩,a3⟩ bL
 have v6:=B.trans W;have bV:=r.len bh;have bT:=tg (aD.take k);have bX:=qN k aD;have L:∀c∈d.size::j,c<f.size:=bO hS B.size (u _ aL);have cb:=K.bn;have a5:=r.bn;have b_:=z.bn;have bC:=fZ (aD.take k);have bW:k<=sw (aD.take k):=by rw[gK]at bC;omega
 have bY:=fZ R;have z6:=W.size;have ak:∀{a:E},GI (d.size::j) f a g li->ap a g li:=λq=>(q.done L V).le (bA _ _);have aZ:∀{a:E},GI (d.size::j) f a i lo->ap a i lo:=λq=>(q.done L V).le (bA _ _);have N:∀{a:E}{I:List Nat},s.size<=a.size->(∀c∈I,c<a.size)->∀c∈I++d.size::j,c<a.size:=λh hb c b=>by
  rcases List.mem_append.1 b with h|h
  .exact hb c h
  .have:=L c h;omega
 have aX:∀{a:E},J s a->∀c∈[d.size,m.size,C.size],c<a.size:=λh c b=>(W.trans h).lt (u c b);have bs:t.D≠g.D:=K.LQ r bh;have a4:t.D≠i.D:=K.LQ z bh;refine dit (λh=>?_) λh=>?_
 .let⟨ae,v⟩:=cG aD k;let⟨bb,kk,ha,a0,g0,g1,g2,g3,g4⟩:=hs.aF v;refine⟨V,V,_,v6.af g0,_,v6.af g1,_,v6.af g2,_,v6.af g3,_,v6.af g4,?_⟩;intro m7 y;have x8:J s y:=(J.push s _).ah (ad _) _ _;have s8:y.size=s.size+1:=by simp[y,m7,ax]
  clear_value y;have u8:=W.trans x8;have w:∀{a:E},y.size<=a.size->∀p∈[s.size,d.size,m.size,C.size],p<a.size:=λh p hb=>by
   rcases List.mem_cons.1 hb with e|e
   .omega
   .have:=u8.lt (u p e);omega
  have b7:=pX v;have b5:=qQ v;have b6:=cY.mw ae;have aa:WS D G.length False li.length ae:=by rw[an];exact au.1 k ae v
  have aY:=Z9 aa;have b3:=bD (k+1);have Z:∀{a:E},J f a->At a bc bP bb kk D G ae:=λh=>⟨hn.le (B.trans h).le,ha.ext (B.trans h),aa.fg.call⟩;refine(od (Z u8).Ro (ak (r.ext x8)) (Z u8).args (a0.le (B.trans u8).le) V λp _=>nu p).aG (J.az y) (w (ad _)) λty m9 x9 _=>⟨_,rfl,?_⟩;have X9:=u8.trans x9;have z9:=x9.size;refine(yX (b:=[]) aL (Z X9) (ak ((r.ext x8).ext x9)) aa.fg.args V).aG (J.az m9) (w V) λdu X bJ bl a8 aJ _=>⟨_,rfl,?_⟩;have bR:=a8.2;have vH:=aJ.size;refine(eZ (c:=[t.D,g.D,i.D]++d.size::j) (N V bF) 14 ((bl.done aL V).le (bA _ _)) V).aG (J.az bJ) (w V) λcf _ aw bi e aK _=>⟨_,rfl,?_⟩;subst e;have cj:=aK.size;have aO:J s aw:=(((x8.trans x9).trans aJ).trans aK);refine GS.all (K.ext gF.mono aO) (((X9.trans aJ).trans aK).fz []) (bi.done gF.mono (N (I:=[t.D,g.D,i.D]) V bF) bh bF) bF λaG a6 aR bd a9 ay=>⟨λc b=>ay c (w V c b) ?_,?_⟩
  .simp at b;omega
  have aj:J f a6:=bd.ext;have aS:=(r.ext aO).jy (ay _ V bs.symm);have bm:=(z.ext aO).jy (ay _ V a4.symm);have bZ:aG.D=t.D\/aw.size<=aG.D:=a9.2;have b8:=aR.bn;have cl:=a9.1;refine(Kl (o:=[aG.D,g.D,i.D]++d.size::j) (N V bF) (Z aj).Ro (ak aS) (Z aj).args (a0.le (B.trans aj).le) V aa (ih ae (aq v))).aG (J.az a6) (w V) λca ck U a7 bo bp bM ag _=>⟨_,_,_,_,_,rfl,?_⟩;let⟨bE,bw,b4⟩:=bM;have cm:=ag.size;refine GS.kM (x:=U) (aR.ext gF.mono ag) ((aj.trans ag).fz []) bo bp bF λF al ao be a_ az=>⟨λc b=>?_,?_⟩
  .have:=w (a:=a7) V c b;rw[az c this (by simp at b;omega),(J.push a7 _).same c this]
  have aQ:J f al:=be.ext;have cn:=a_.1;have aT:=(aS.ext ag).jy (az _ V V);have ar:=(bm.ext ag).jy (az _ V V);have b0:F.D=t.D\/aw.size<=F.D:=by have:=a_.2;omega
  have B1:WL D G.length True H.length (R++X.map (fe 14)++[U])/\dc (R++X.map (fe 14)++[U])=dc (aD.take (k+1))/\sw (R++X.map (fe 14)++[U])+2*(k+1)<=40*sw (aD.take (k+1)):=by
   have bU:dn U=1:=by unfold dn at aY⊢;rw[bw];exact aY
   have d1:dc (X.map (fe 14))=0:=jW V _;refine⟨((av.append (rS V λo l=>?_)).yS ?_),?_,?_⟩
   .rw[P,<-an];exact aa.fg.args o (a8.1 o l)
   .rw[cZ,d1,P,jG,<-an];exact bE
   .rw[cZ,cZ,d1,P,kO,th];omega
   .rw[dC,dC,oF,mN,vz];omega
  have a2:∀o∈lo,0<=o/\o<((H.length+dc (aD.take (k+1)):Nat):Int):=λo l=>by
   have:=a1 o l;omega
  have aU:∀(a:E)(T:O)(ab:List Int),J f a->y.size<=a.size->GS (g.D::T.D::d.size::j) f a F (R++X.map (fe 14)++[U])->GI (d.size::j) f a g li->GI (d.size::j) f a T ab->g.D≠T.D->ab.length<=lm.length+(k+1)->(∀o∈ab,0<=o/\o<((H.length+dc (aD.take (k+1)):Nat):Int))->
   jN (a.push (.cells (bu [.i ty]) aA)) aA [.i (0:Int)] 8 g (O.mk a.size 0 1 1) λaH M'=>eI [s.size,d.size,m.size,C.size] (a.push (.cells (bu [.i ty]) aA)) M'/\ba F aH T (cU ((k:Int)+(1:Int))) M'/\μ F aH T (cU ((k:Int)+(1:Int))) M'<μ t g i k s:=by
   intro a T ab v Q q gI gO br bn bx
   have b9:=gI.bn;have bG:=gO.bn
   have bv:F.D≠g.D:=q.LQ gI bh
   refine GI.kM gI (v.fz []) L V λaH M' bk bg aP aF=>⟨λc b=>?_,bL V _ _ _ _ ⟨bg.ext,⟨_,q.re gF.mono (Y:=[g.D]) ⟨aP.1,λc b hn=>aF c b (by simpa using hn)⟩ aL (by simpa using bv) (λc b=>?_),B1.1,B1.2.1,B1.2.2⟩,⟨_,bk,bF⟩,⟨ab,gO.jy (aF _ bG.2 br.symm),bn,bx⟩,?_⟩⟩
   .have:=w Q c b
    rw[aF c this (by simp at b;omega),(J.push a _).same c this]
   .simp only[aV]at b⊢
    rcases b with h|h|h
    .rcases aP.2 with e|e
     .exact Or.inl (Or.inl (h.trans e))
     .exact Or.inr V
    .exact Or.inl (Or.inr (Or.inl h))
    .exact Or.inl (Or.inr (Or.inr h))
   .rcases aP.2 with e|e<;>omega
  refine⟨λ_=>?_,λ_=>?_⟩
  .intro cc;have bt:F.D≠i.D:=ao.LQ ar bh;refine GI.kM ar (aQ.fz []) L V λbQ bK bj bf am aE=>⟨λc b=>?_,?_⟩
   .have:=w (a:=al) V c b;rw[aE c this (by simp at b;omega),(J.push al _).same c this]
   intro cd;have co:=am.1;refine aU bK bQ _ bf.ext V (ao.re gF.mono (Y:=[i.D]) ⟨am.1,λc b hn=>aE c b (by simpa using hn)⟩ aL (by simpa using bt) λc b=>?_) (aT.jy (aE _ V a3)) bj ?_ bF ?_
   .simp only[cX,eH,aV]at b⊢;rcases b with h|h|h
    .exact Or.inl (Or.inl h)
    .rcases am.2 with e|e
     .exact Or.inl (Or.inr (Or.inl (h.trans e)))
     .exact Or.inr V
    .exact Or.inl (Or.inr (Or.inr h))
   .rcases am.2 with e|e<;>omega
   .intro o l;rcases List.mem_append.1 l with l|l
    .exact a2 o l
    .simp at l;omega
  .intro am;exact aU al i lo aQ V ao aT ar a3 V a2
 .have ar:k=aD.length:=V;subst ar;rw[fx]at*;have al:∀(a:E)(X:O)(F:List cY),J f a->s.size<=a.size->GS (g.D::i.D::d.size::j) f a X F->ap a i lo->WL D G.length True H.length F->dc F=dc aD->sw F+2*aD.length<=40*sw aD+2->
   aN cg 257 [vi (15:Int),O.v i] a λrv y=>eI [d.size,m.size,C.size] a y/\∃ae:O,rv=O.v ae/\af y m.size 1=af a m.size 1/\
    jN y gC [.i (0:Int),.i (0:Int),.i (0:Int),.s O.nil,.s O.nil] 72 X ae λaa Z=>eI [d.size,m.size,C.size] y Z/\af Z m.size 1=af y m.size 1/\
     let T:E:=ah Z d.size 0 [.s aa,.i A]
     ∃am p,Value.agg #[O.v aa,vi A]=.agg #[O.v am,vi p.aU]/\eS (bH j T) am p.aD/\(WB D G.length True H.length p/\p.w+20<=40*(Bk.mk aD A).w+2*lm.length)/\J C T:=by
   intro a X F v Q q l aE aj aG
   have hy:=q.bn
   have aF:=fZ F
   have az:m.size<a.size:=v.lt (u _ aL)
   refine(eZ (c:=[X.D,g.D,i.D]++d.size::j) (N Q bF) 15 l V).aG v u λae _ y ao e w u1=>⟨_,rfl,aI (w.same _ az) _,?_⟩
   subst e
   have z1:=w.size
   have aw:∀c∈[d.size,m.size,C.size],c<y.size:=λc b=>u1.lt (u c b)
   have ay:∀c∈[d.size,m.size,C.size],c<f.size:=u
   refine GS.all (q.ext gF.mono w) (u1.fz []) (ao.done gF.mono (N (I:=[X.D,g.D,i.D]) Q bF) bh bF) bF λaa Z g2 ab ag U=>⟨λc b=>U c (aw c b) (oh (ay c b)),aI (U _ V V) _,?_⟩
   intro T
   refine⟨aa,.mk _ A,rfl,eS.le (cB aL λc b=>ai _ b) ((g2.re gF.mono (S':=d.size::j) (Y:=[]) (Fz.az _ _) aL aL (λc b=>Or.inl (ai _ (ai _ b)))).done gF.mono L bh bF),⟨WB.of (aE.append (rS V λo l=>?_)) ?_,?_⟩,(B.trans ab.ext).ah V _ _⟩
   .have:=a1 o l;rw[aj];exact this
   .rw[cZ,jW V,aj];exact au.2
   .rw[Bk.qL,Bk.qL,dC,oF];omega
  let⟨ag,Q⟩:=cG li A.toNat;refine⟨V,V,ag,(ak r).aF Q,λ_=>?_,λ_=>al s t R W (ad _) K (aZ z) av P V⟩;refine(jm (c:=[t.D,g.D,i.D]++d.size::j) (N (ad _) bF) 14 A).mono λrv y⟨pa,pk,e,h1,h2,w⟩=>?_;subst e;refine⟨w.dv (aX (J.az _)),_,_,_,_,_,rfl,?_⟩;have z1:=w.size;refine GS.kM (x:=fe 14 A) (K.ext gF.mono w) ((W.trans w).fz []) h1 h2 V λr' T q ab ag U=>⟨λc b=>?_,al T r' _ ab.ext V q (aZ ((z.ext w).jy (U _ V a4.symm))) (av.yS (Ec V (by rw[P];exact au.2))) ?_ ?_⟩
  .have:=aX w c b;have h5:=u c b;rw[U c this V,(J.push y _).same c this]
  .rw[cZ,P];simp[kO,dn,fe,pt]
  .rw[dC,mN,vz];have h5:(fe 14 A).w=2:=by rw[cY.mw];rfl
   omega
section
variable{b:List Nat}{f d h:E}{p t k:O}{q:gR}{l:Int}{g e j:Nat}
def mS.mono:oD 1 mS:=⟨λh=>mS.le h _ _,λ⟨_,h,_⟩=>by rw[h];rfl⟩
def iO.mono:oD 3 iO:=⟨λh=>iO.le h _ _,λ⟨_,h,_⟩=>by rw[h];rfl⟩
def fV(v:∀c∈b,c<f.size){bo:O}{j:List bz}(hd:cy f bo j)(w:dU j):aN cg 202 [O.v bo] f λT B=>∃s,T=O.v s/\cy (bH b B) s j/\J f B:=by
 apply AT;intro N;have ab:=hd.len;have aa:=w.len;have u:Gr b f N jY 3 iO (.mk f.size 0 0 0) []:=Gr.new b (ad _) _ _ _;refine eu (n:=j.length) V (λq s M=>J f M/\Gr b f M jY 3 iO s (j.take q)) ⟨J.push _ _,u⟩ ?_;rintro q s d X μ hk ⟨r,m⟩ R
 have hy:=m.bn;refine dit (λl=>?_) λl=>?_
 .let⟨i,o⟩:=cG j q;let⟨z,A,u,g1,g2⟩:=hd.aF o;have ac:=A.len;have Z:=lA w o;intro P;have k:Gr (s.D::b) d P oZ 1 mS (.mk d.size 0 0 0) []:=Gr.new _ (ad _) _ _ _;refine eu (n:=i.cons.length) V (λy c M=>J d M/\Gr (s.D::b) d M oZ 1 mS c (i.cons.take y)) ⟨J.push _ _,k⟩ ?_;rintro y c C Y μ2 hj ⟨t,k⟩ Q;have g:=r.trans t;refine⟨V,V,z,g.af g2,dit (λK=>?_) λK=>?_⟩
  .let⟨E,x⟩:=cG i.cons y;let⟨U,L,H⟩:=A.aF x;have ae:E.length<=3:=(((w.dz q i o).iZ V).2.2.2 E (aq x)).1;refine⟨V,V,z,g.af g2,V,V,U,g.af H,?_⟩;have af:=k.bn;refine(bN (c.D::s.D::b) (L.ext g) V).then λW _ h I e D=>⟨_,rfl,?_⟩;subst e;intro M;refine Gr.kM (g:=[.s .nil]) mS.mono bh (k.ext mS.mono D) ((t.trans D).fz []) ⟨W,rfl,I.done (λe p=>?_) V⟩ bF λS m7 G F _ _=>Q V _ _ ⟨F.ext,by rw[aT x];exact G⟩;have:=t.size;simp only[aV]at p;rcases p with l|l|l
   .omega
   .omega
   .have:=v e l;have:=r.size;omega
  .refine⟨V,V,_,g.af u,V,V,_,g.af g1,?_⟩;intro h;rw[bV V]at k;have D:eR (bH (s.D::b) C) 1 (mS (bH (s.D::b) C)) c i.cons:=k.done mS.mono (λe p=>by
    rcases List.mem_cons.1 p with x|x
    .omega
    .have:=v e x;have:=r.size;omega) bh V
   refine Gr.kM (g:=[.i 0,.i 0,.s .nil]) (k:=i) iO.mono bh (m.ext iO.mono t) (g.fz []) ⟨c,rfl,D⟩ bF λS M x p _ _=>R V _ _ ⟨p.ext,by rw[aT o];exact x⟩
 .rw[bV V]at m;exact⟨s,rfl,m.done iO.mono v bh V,r⟩
def yz(H:∀i∈b,i<f.size){B:O}{b1:Int}(I:ap f p q.params)(K:ap f t q.cW)(u:q.params.length<=100/\q.cW.length<=100):
 aN cg 229 [.agg #[O.v p,O.v t,vi q.aU,O.v B,vi l],.agg #[O.v k,vi b1]] f λP x=>∃m n,P=.agg #[O.v m,O.v n,vi q.aU,O.v k,vi b1]/\ap (bH b x) m q.params/\ap (bH b x) n q.cW/\J f x:=by
 apply Dx
 simp -zeta only[aC,aB]
 intro L j d
 let⟨s,w,S,T,U⟩:=ql (a:=L) (b:=j) (c:=d) rfl rfl rfl
 clear_value d
 have z:∀i∈j.size::b,i<d.size:=bO H s.size (w _ aL)
 have c:∀{M y:E},J d M->J d y->∀g,g<d.size->∀o,af y g o=af M g o:=λF G g u o=>aI (by rw[G.same g u,F.same g u]) o
 refine(bN (j.size::b) (I.ext s) V).aG (J.az d) w λm _ R C e a _=>⟨_,rfl,c (J.az _) a _ V _,c (J.az _) a _ V _,c (J.az _) a _ V _,c (J.az _) a _ V _,?_⟩
 subst e
 refine(bN (j.size::b) (K.ext (s.trans a)) V).aG a w λn _ N D e Q r=>⟨_,rfl,c a r _ V _,c a r _ V _,c a r _ V _,?_⟩
 subst e
 intro h
 have A:Le (bH (j.size::b) N) (bH b h):=cB aL λi v=>ai _ v
 exact⟨m,n,rfl,((C.done z V).le (Q.dg _)).le A,(D.done (λi v=>a.lt (z i v)) V).le A,(s.trans r).ah V _ _⟩
abbrev GR(b:List Nat)(a f:E)(s:O)(l:List gR):Prop:=Gr b a f jR 5 iU s l
def wh{L:List Nat}{m M:E}{v s:O}{x:List gR}{r:Bk}{N:O}{K:E->Prop}(W:∀c∈b,c<m.size)(w:∀c∈L,c<M.size/\c≠g/\c≠s.D)(A:J m M)(y:GR (g::b) m M s x)
 (z:cF M g nm [.s v,.s s])(Z:m.size<=g)(hp:ap M p q.params)(ht:ap M t q.cW)(aa:eS (bH (s.D::g::b) M) k r.aD)(X:q.params.length<=100/\q.cW.length<=100)(hl:x.length<=100)
 (U:∀u d,GR (g::b) m d u (x++[⟨q.params,q.cW,q.aU,r⟩])->cF d g nm [.s v,.s u]->J m d->K d):
 aN cg 229 [.agg #[O.v p,O.v t,vi q.aU,O.v N,vi l],.agg #[O.v k,vi r.aU]] M λH j=>eI L M j/\∃B:O,∃C:O,∃D:Int,∃F:O,∃G:Int,H=.agg #[O.v B,O.v C,vi D,O.v F,vi G]/\af j g 1=af M g 1/\
  let n:E:=j.push (.cells (bu [.s B,.s C,.i D,.s F,.i G]) jR)
  af n g 1=af j g 1/\
  jN n jR [.s O.nil,.s O.nil,.i (0:Int),.s O.nil,.i (0:Int)] 88 s (O.mk j.size 0 1 1) λab o=>eI L n o/\fL o g 1 1/\
   let d:E:=ah o g 1 [.s ab]
   eI L o d/\K d:=by
 have hy:=y.bn
 have Y:=z.lt
 have hz:=A.size
 refine(yz (b:=s.D::g::b) (λc f=>?_) hp ht X).mono λH j⟨p',t',e,R,T,h⟩=>?_
 .simp only[aV]at f
  rcases f with e|e|e
  .omega
  .omega
  .have:=W c e;omega
 subst e
 refine⟨h.dv λc f=>(w c f).1,_,_,_,_,_,rfl,aI (h.same _ Y) _,?_⟩
 intro n
 refine Gr.box (g:=[.s .nil,.s .nil,.i 0,.s .nil,.i 0]) (j:=1) (i:=[.s v,.s s]) (w:=⟨q.params,q.cW,q.aU,r⟩) iU.mono bh (y.ext iU.mono h) ((A.trans h).fz []) ⟨p',t',k,rfl,R,T,aa.le (h.dg _)⟩ V (z.ext h) aL bh ⟨Z,aL⟩ (λc f=>⟨h.lt (w c f).1,(w c f).2⟩) λu m' Q I P z' q'=>U u m' Q I P.ext
def kZ{β:Type}{a c:E}{g:O}{l:Nat}{f:E->List Ce->β->Prop}(q:oD l f)(p:a=d.push (.cells (bu []) e))(i:c=a.push (.cells (bu [.s O.nil,.s O.nil]) j))(k:h=ah c a.size 0 [.s g,.s (O.mk d.size 0 0 0)]):
 J d h/\cF h a.size j [.s g,.s (O.mk d.size 0 0 0)]/\Gr b d h e l f (.mk d.size 0 0 0) []/\a.size=d.size+1/\h.size=d.size+2:=by
 subst p
 have n:J (d.push (.cells (bu []) e)) h:=by subst i k;exact(J.push _ _).ah (ad _) _ _
 refine⟨(J.push d _).trans n,?_,(Gr.new b (ad _) e l f).ext q n,aL,by subst i k;simp[ax]⟩
 have s:cF c (d.push (.cells (bu []) e)).size j [.s O.nil,.s O.nil]:=by rw[i];exact cF.push _ _ _
 rw[k]
 exact cF.ah (m:=c) (o:=0) (r:=[.s g,.s (.mk d.size 0 0 0)]) s
def kV{β:Type}{o b1 r:Nat}{p:E->List Ce->β->Prop}{c A:O}{F:List bz}(G:oD o p)(hz:0<o)(ac:j≠e)(X:∀w∈b,w<f.size)(Y:f.size<=b1/\b1<d.size)(K:J f d)(ak:g=d.size+1)
 (Z:cy (bH (b1::b) d) c F)(hn:A.len=r)(al:r<=1000)(ad:J d h)(U:cF h g j [.s c,.s (O.mk d.size 0 0 0)])(aa:Gr (g::b1::b) d h e o p (.mk d.size 0 0 0) [])(y:Nat->β->Prop)
 {C:(Int->E->Prop)->(Int->E->Nat)->Int->E->Prop}{R:O->O->E->Prop}
 (W:∀D N l q,cy (bH b q) D F->eR (bH b q) o (p (bH b q)) N l->l.length=r->(∀(i:Nat)(x:β),l[i]? =some x->y i x)->J f q->R D N q)
 (T:∀(k:Nat)(M:E)(s:O)(l:List β)(I:Int->E->Prop)(μ:Int->E->Nat),k<r->l.length=k->J d M->Gr (g::b1::b) d M e o p s l->cF M g j [.s c,.s s]->
  (∀u a x,Gr (g::b1::b) d a e o p u (l++[x])->cF a g j [.s c,.s u]->J d a->y k x->I (cU ((k:Int)+1)) a/\μ (cU ((k:Int)+1)) a<μ k M)->C I μ k M):
 ∃(v:Int->E->Prop)(μ0:Int->E->Nat),v (0:Int) h/\(∀(i:Int)(M:E),v i M->
  ((decide (i<(A.len:Int)))=true->C v μ0 i M)/\
  ((decide (i<(A.len:Int)))=false->∃m:O,af M g 0=some (O.v m)/\∃t:O,af M g 1=some (O.v t)/\
   let a:E:=ah M b1 0 [.s m,.s t]
   R m t a)):=by
 refine dV (n:=r) V (λk M=>J d M/\∃s l,Gr (g::b1::b) d M e o p s l/\cF M g j [.s c,.s s]/\l.length=k/\∀(i:Nat)(x:β),l[i]? =some x->y i x) ⟨ad,_,[],aa,U,rfl,aL⟩ ?_
 rintro k M I μ hk ⟨x,s,l,t,B,ab,H⟩ ae
 refine dit (λS=>?_) λS=>?_
 .refine T k M s l I μ V ab x t B λu a ag Q P x' L=>ae V _ ⟨x',u,_,Q,P,bF,λi aj m=>?_⟩
  rcases aW i l.length with z|z
  .rw[av z]at m;exact H i aj m
  .rw[aJ z]at m
   have:i -l.length=0:=by have:=aw m;simp at this;omega
   rw[this]at m;simp at m;subst m
   have:i=k:=V
   subst this;exact L
 .refine⟨c,B.cp 0,s,B.cp 1,?_⟩
  intro a
  have L:=t.bn
  have z:=t.ne B ac
  have u:Le (bH (g::b1::b) M) (bH b a):=cB aL λw m=>ai _ (ai _ m)
  refine W c s l a (Z.le ((x.bH λw m=>?_).trans u)) (eR.le (t.nK G (λm=>?_) hz V) u λP ag=>G.le u) V H ((K.trans x).ah Y.1 _ _)
  .rcases List.mem_cons.1 m with e|e
   .exact Or.inr V
   .exact Or.inl e
  .simp only[aV]at m
   rcases m with e|e|e
   .exact z e
   .omega
   .have:=X _ e;have:=K.size;omega
structure yD(ds:List bz)(rs:List gR)(c:Prop)(W:Nat):Prop where
 iZ:0<rs.length
 dz:∀q∈rs,q.params.length<=3/\q.cW.length<=3/\WB ds rs.length c q.params.length q.body/\q.body.w<=W
def va(h:Nat)(e:List Value)(f:E)(b:List Nat)(g:List bz)(Q:List gR->Prop):Prop:=aN cg h e f λv a=>∃d r c,v=.agg #[O.v d,O.v r]/\eN (bH b a) d r g c/\Q c/\J f a
def It{d:List bz}{a b:List gR}{c:Prop}{W:Nat}(j:0<a.length)(f:b.length=a.length)(h:∀(i:Nat)(q:gR),b[i]? =some q->q.params.length<=3/\q.cW.length<=3/\WB d a.length c q.params.length q.body/\q.body.w<=W):yD d b c W:=
 ⟨V,λq g=>by obtain⟨i,e⟩:=List.mem_iff_getElem?.1 g;rw[f];exact h i q e⟩
def Jf(G:∀i∈b,i<f.size){D:O}{e cW:List Int}{K:Int}(B:ap f p e)(H:ap f t cW)(P:e.length<=100):
 lg 241 [.agg #[O.v p,O.v t,vi K,O.v D,vi l]] f b λa=>(∀o∈a,0<=o/\o<(e.length:Int))/\a.length<=e.length:=by
 apply Bv
 simp -zeta only[aC,aB]
 intro c d
 have v:J f c:=J.push _ _
 have A:∀x∈[f.size],x<c.size:=by simp[c]
 have E:GI b c d (.mk c.size 0 0 0) []:=GI.nil b c
 have L:J c d:=J.push _ _
 clear_value d
 clear_value c
 have R:=B.len
 refine eu (n:=e.length) V (λm s M=>J c M/\∃a,GI b c M s a/\(∀o∈a,0<=o/\o<(e.length:Int))/\a.length<=m) ⟨L,[],E,aL,ad _⟩ ?_
 rintro m s S N μ Q ⟨w,a,j,k,z⟩ q
 have r:=v.trans w
 refine⟨λg=>?_,λg=>⟨s,a,rfl,j.cz (λ_ g=>g) v.size,⟨k,by simp at g;omega⟩,r⟩⟩
 simp only[ar]at g
 let⟨M,I⟩:=cG e m
 refine⟨V,V,M,(B.ext r).aF I,λ_=>?_,λ_=>q V _ _ ⟨w,a,j,k,V⟩⟩
 refine(dw (H.ext r) m).any.aG w A λx T C u=>⟨_,rfl,λ_=>?_,λ_=>q V _ _ ⟨u,a,j.ext C,k,V⟩⟩
 intro h
 refine GI.kM (j.ext C) (u.fz []) (λi z=>v.lt (G i z)) V λW U F y _ _=>⟨J.oK (u.aK _) y.ext A,q V _ _ ⟨y.ext,_,F,λo i=>?_,bF⟩⟩
 rcases List.mem_append.1 i with i|i
 .exact k o i
 .simp at i;omega
end
section
variable{a:List Nat}{b:E}{d r:O}{c:List gR}
def IQ(hS:∀e∈a,e<b.size){Z aj t:O}{Q:List bz}{q:gR}(hn:eN b d r Q c)(W:ap b Z q.params)(ht:ap b aj q.cW)(hs:eS b t q.body.aD)(aH:q.params.length<=3)(aq:WB Q c.length False q.params.length q.body)(hw:q.body.w<=95):
 nA 239 [.agg #[O.v d,O.v r],.agg #[O.v Z,O.v aj,vi q.aU,O.v t,vi q.body.aU]] b a λl=>WB Q c.length True q.params.length l/\l.w<=1100*q.body.w:=by
 apply AX
 simp -zeta only[aC,aB]
 intro m0 D H
 let⟨v,h,s0,s1,s2⟩:=ql (a:=m0) (b:=D) (c:=H) rfl rfl rfl
 clear_value H
 have aJ:=W.len
 have T:∀e∈D.size::a,e<H.size:=bO hS v.size (h _ aL)
 refine(DQ (S:=[]) aL (hs.le v.le) _ V).aG (J.az H) h λus ul g hu aK P _=>⟨_,rfl,?_⟩
 have ao:ap g us ul:=hu.le (bA _ _)
 intro s I
 have aA:J g I:=(J.push g _).trans (J.push s _)
 have s4:s.size=g.size+1:=by simp[s]
 have i:GI a g I (.mk g.size 0 0 0) []:=(GI.nil a g).ext (J.push s _)
 have gd:GI a g I (.mk s.size 0 0 0) []:=(GI.nil a s).cz (λ_ R=>R) V
 clear_value I
 have z3:=P.size
 have am:∀e∈a,e<g.size:=λe f=>by have:=hS e f;have:=v.size;omega
 refine xe (n:=q.params.length) V (λk L sd M=>J g M/\∃j p,GI a g M L j/\GI a g M sd p/\L.D≠sd.D/\(∀o∈j,0<=o/\o<(q.params.length:Int))/\(∀o∈p,0<=o/\o<(q.params.length:Int))/\j.length<=k/\p.length<=k) ⟨aA,[],[],i,gd,bF,aL,aL,ad _,ad _⟩ ?_
 rintro k L sd m6 aD μ hk ⟨w,j,p,i,gd,G,B,A,cm,cd⟩ K
 have F:=P.trans w
 have v6:=v.trans F
 refine dit (λR=>?_) λR=>?_
 .let⟨ab,Y⟩:=cG q.params k
  have X:∀{m:List Int},(∀o∈m,0<=o/\o<(q.params.length:Int))->∀o∈m++[(k:Int)],0<=o/\o<(q.params.length:Int):=λh o C=>by
   rcases List.mem_append.1 C with C|C
   .exact h o C
   .simp at C;omega
  refine⟨V,V,ab,(W.ext v6).aF Y,λ_=>?_,λ_=>K V _ _ _ ⟨w,j,p,i,gd,G,B,A,V,V⟩⟩
  refine(dw (ht.ext v6) k).any.aG F h λaa m7 u u7=>⟨_,rfl,λ_=>?_,λ_=>K V _ _ _ ⟨w.trans u,j,p,i.ext u,gd.ext u,G,B,A,V,V⟩⟩
  refine(dw (ao.ext (w.trans u)) k).any.aG u7 h λaa m8 x8 u8=>⟨_,rfl,λ_=>?_,λ_=>?_⟩
  .have x:=u.trans x8
   intro m9
   exact GI.SJ (i.ext x) (gd.ext x) G ((w.trans x).fz []) V λr m' z N U y=>⟨J.oK ((F.trans x).aK _) (P.trans y.ext) h,K V _ _ _ ⟨y.ext,_,_,z,N,U,X B,A,bF,V⟩⟩
  .have x:=u.trans x8
   intro m9
   exact GI.SJ (gd.ext x) (i.ext x) G.symm ((w.trans x).fz []) V λr m' z N U y=>⟨J.oK ((F.trans x).aK _) (P.trans y.ext) h,K V _ _ _ ⟨y.ext,_,_,N,z,U.symm,B,X A,V,bF⟩⟩
 intro y
 have ac:J m6 y:=J.push _ _
 have aa:=F.trans ac
 have ab:=v.trans aa
 have e0:ap y (.mk m6.size 0 0 0) []:=mI _ _ _ _ _ _
 have ag:∀{M:E}{t:O}{m:List Int},GI a g M t m->m.length<=3->ap M t m:=λz h=>(z.done am V).le (bA _ _)
 clear_value y
 have aG:=q.body.HI
 refine(GY q.body (D.size::a) y (λe f=>aa.lt (T e f)) d r Z t L _ q.params j [] (hn.le ab.le) (W.ext ab) (hs.le ab.le) ((ag i V).ext ac) e0 ⟨B,V,bF,V,aq⟩).aG aa h λss l C an X ay aw=>⟨_,_,rfl,?_⟩
 intro ar o
 have ae:J C o:=(J.push C _).ah (ad _) _ _
 have aQ:o.size=C.size+1:=by simp[o,ar,ax]
 clear_value o
 have N:=aw.trans ae
 have U:∀e∈[C.size,D.size,m0.size,b.size],e<o.size:=λe f=>by
  rcases List.mem_cons.1 f with x|x
  .omega
  .exact N.lt (h e x)
 have aF:=Bk.mw l;have aE:=fZ l.aD
 have aM:=X.2
 refine(eZ (c:=D.size::a) (λe f=>N.lt (T e f)) 15 ((ag gd V).ext ((ac.trans ay).trans ae)) V).aG (J.az o) U λaP _ aN af x u _=>⟨_,rfl,aI (u.same _ V) _,aI (u.same _ V) _,?_⟩
 subst x
 have aR:=u.size
 have Y:=af.bn
 refine GS.all af (u.fz []) ((an.le (ae.dg _)).le (tm u Y.1)) bF λav au al ak aS ah=>⟨λe f=>ah e (u.lt (U e f)) (oh (U e f)),aI (ah _ V V) _,?_⟩
 intro aO
 have az:J b au:=(v.trans N).trans ak.ext
 refine⟨av,.mk _ l.aU,rfl,eS.le (cB aL λe f=>ai _ f) (al.done gF.mono (λe f=>N.lt (T e f)) bh bF),⟨WB.of ((rS V A).append ?_) ?_,?_⟩,az.ah V _ _⟩
 .rw[jW V];exact X.1.aS.1
 .rw[cZ,jW V,bT];exact X.1.aS.2
 .rw[Bk.qL,dC,oF];omega
def Mm(K:∀e∈a,e<b.size){i:List bz}(k:eN b d r i c)(hk:yD i c False 95):va 222 [.agg #[O.v d,O.v r]] b a i λx=>yD i x True 104500:=by
 apply EM;simp -zeta only[aC,aB];intro f a2;let⟨z,v⟩:=dD (a:=f) (c:=a2) rfl rfl;have s1:f.size=b.size+1:=by simp[f]
 clear_value a2;have ai:=k.iX.len;have ar:=k.oG;refine(fV (b:=f.size::a) (bO K z.size (v _ aL)) (k.le z.le).bo k.types).mono λ_ P⟨ac,j,ae,A⟩=>?_;subst j;refine⟨A.dv v,_,rfl,?_⟩;intro Q am ab;have u2:=z.trans A;let⟨x5,B0,g0,s3,s5⟩:=kZ (b:=Q.size::f.size::a) iU.mono (d:=P) (a:=Q) (c:=am) (h:=ab) rfl rfl rfl;clear_value ab;have w:∀e∈[f.size,b.size],e<P.size:=λe g=>A.lt (v e g);have L:∀e∈f.size::a,e<P.size:=λe g=>A.lt (bO K z.size (v _ aL) e g);refine kV (R:=λh o M=>∃d r x,Value.agg #[O.v h,O.v o]=.agg #[O.v d,O.v r]/\eN (bH a M) d r i x/\yD i x True 104500/\J b M) (r:=c.length) (f:=b) (b:=a) iU.mono bh bh K ⟨V,w _ aL⟩ u2 s3 ae ai V x5 B0 g0 (λ_ q=>q.params.length<=3/\q.cW.length<=3/\WB i c.length True q.params.length q.body/\q.body.w<=104500) (λh t N u X Y o p s=>⟨h,t,N,rfl,⟨X,Y,k.types,V⟩,It hk.iZ o p,s⟩) λal M st N ao μ ag ap B W C an=>?_
 let⟨q,hq⟩:=cG c al ag;let⟨aa,ah,ak,hw⟩:=hk.dz q (aq hq);have o:=u2.trans B;let⟨au,av,h,T,U,c3,D,E,F,H,I⟩:=k.iX.aF hq;have G:∀{y:Value}{h s:Nat},af b h s=some y->af M h s=some y:=λu=>o.af u;refine⟨st,C.cp 1,V,V,_,G D,_,G E,_,G F,_,G H,_,G I,V,V,_,G D,_,G E,_,G F,_,G H,_,G I,?_⟩;have hy:=W.bn;have ad:=C.lt;have zM:=B.size;refine(IQ (a:=st.D::Q.size::f.size::a) (λe g=>?_) (k.le o.le) (T.ext o) (U.ext o) (c3.le o.le) aa ak hw).aG B w λss b' M1 aj Z p u1=>⟨_,_,rfl,?_⟩
 .simp only[aV]at g;rcases g with j|j|j|j
  .omega
  .omega
  .have:=L e (by simp[j]);omega
  .have:=L e (by simp[j]);omega
 have t:∀{y:Value}{h s:Nat},af b h s=some y->af M1 h s=af M h s:=λu=>by rw[p.af (G u),G u]
 refine⟨t D,t E,t F,t H,t I,aI (p.same _ (B.lt (w _ aL))) _,aI (p.same _ ad) _,?_⟩;exact wh (b:=f.size::a) (v:=ac) (x:=N) L (λe g=>by have X:=w e g;have Y:=u1.size;omega) u1 (W.ext iU.mono p) (C.ext p) V (T.ext (o.trans p)) (U.ext (o.trans p)) aj ⟨V,V⟩ V λs' Y g' X x'=>an s' Y _ g' X x' ⟨aa,ah,Z.1,by have:=Z.2;simp only;omega⟩
def Qw(L:∀f∈a,f<b.size){t:List bz}(u:eN b d r t c)(hk:yD t c False 95):va 223 [.agg #[O.v d,O.v r]] b a t λB=>yD t B True 104500:=by
 apply Km;simp -zeta only[aC,aB];intro p a2;let⟨D,y⟩:=dD (a:=p) (c:=a2) rfl rfl;have s1:p.size=b.size+1:=by simp[p]
 clear_value a2;have al:=u.iX.len;have az:=u.oG;refine(fV (b:=p.size::a) (bO L D.size (y _ aL)) (u.le D.le).bo u.types).mono λ_ T⟨ag,h,ah,F⟩=>?_;subst h;refine⟨F.dv y,_,rfl,?_⟩;intro A ap ac;have u2:=D.trans F;let⟨x5,B0,g0,s3,s5⟩:=kZ (b:=A.size::p.size::a) iU.mono (d:=T) (a:=A) (c:=ap) (h:=ac) rfl rfl rfl;clear_value ac;have P:∀f∈[p.size,b.size],f<T.size:=λf i=>F.lt (y f i);have N:∀f∈p.size::a,f<T.size:=λf i=>F.lt (bO L D.size (y _ aL) f i);refine kV (R:=λe g M=>∃d r B,Value.agg #[O.v e,O.v g]=.agg #[O.v d,O.v r]/\eN (bH a M) d r t B/\yD t B True 104500/\J b M) (r:=c.length) (f:=b) (b:=a) iU.mono bh bh L ⟨V,P _ aL⟩ u2 s3 ah al V x5 B0 g0 (λ_ q=>q.params.length<=3/\q.cW.length<=3/\WB t c.length True q.params.length q.body/\q.body.w<=104500) (λe o Q s h1 w g j k=>⟨e,o,Q,rfl,⟨h1,w,u.types,V⟩,It hk.iZ g j,k⟩) λao M st Q av μ ai ay Y aa H ar=>?_
 let⟨q,hq⟩:=cG c ao ai;let⟨ak,aj,an,hw⟩:=hk.dz q (aq hq);have C:=u2.trans Y;let⟨au,aD,o,I,c2,c3,e0,e1,e2,e3,e4⟩:=u.iX.aF hq;have G:∀{ae:Value}{o v:Nat},af b o v=some ae->af M o v=some ae:=λK=>C.af K;refine⟨V,V,_,G e0,_,G e1,_,G e2,_,G e3,_,G e4,?_⟩;intro m7 k;have hy:=aa.bn;have aw:=H.lt;have zM:=Y.size;have X:J M k:=(J.push M _).ah (ad _) _ _;have s8:k.size=M.size+1:=by simp[k,m7,ax]
 clear_value k;have z:∀f∈[M.size,p.size,b.size],f<k.size:=λf i=>by
  rcases List.mem_cons.1 i with h|h
  .omega
  .have:=P f h;omega
 have U:=C.trans X;have g:∀{Z M2:E},J k Z->J k M2->∀o,o<k.size->∀v,af M2 o v=af Z o v:=λK h' o hb v=>aI (by rw[h'.same o hb,K.same o hb]) v;have j:M.size<k.size:=V;have i1:b.size<k.size:=z _ aL;have i2:A.size<k.size:=V;refine⟨st,(H.ext X).cp 1,?_⟩;refine(Jf (b:=[]) aL (I.ext U) (c2.ext U) V).aG (J.az k) z λow lo m9 go ho e _=>⟨_,rfl,g (J.az _) e _ j _,g (J.az _) e _ j _,g (J.az _) e _ j _,g (J.az _) e _ i1 _,g (J.az _) e _ i1 _,g (J.az _) e _ j _,g (J.az _) e _ j _,g (J.az _) e _ j _,g (J.az _) e _ j _,g (J.az _) e _ j _,g (J.az _) e _ i2 _,?_⟩;have W:=U.trans e;have z9:=e.size;have i:=ho.2;refine(IY q.body (st.D::A.size::p.size::a) m9 (λf i=>?_) d r au o ow q.params lo (u.le W.le) (I.ext W) (c3.le W.le) ((go.done aL V).le (bA _ _)) ⟨ho.1,V,V,an⟩).aG e z λss b' aA am ab aE s=>⟨_,_,rfl,g e s _ j _,g e s _ j _,g e s _ j _,g e s _ j _,g e s _ j _,g e s _ i2 _,?_⟩
 .simp only[aV]at i;rcases i with h|h|h|h
  .omega
  .omega
  .have:=N f (by simp[h]);omega
  .have:=N f (by simp[h]);omega
 have x:=X.trans s;have vH:=s.size;exact wh (b:=p.size::a) (v:=ag) (x:=Q) N (λf i=>by have h1:=z f i;have w:=P f;simp only[aV]at i w;rcases i with h|h|h|h<;>first|omega|(have:=w (by simp[h]);omega)|simp at h) (Y.trans x) (aa.ext iU.mono x) (H.ext x) V (I.ext (C.trans x)) (c2.ext (C.trans x)) am ⟨V,V⟩ V λs' M' g' w x'=>ar s' M' _ g' w x' ⟨ak,aj,ab.1,by have:=ab.2;simp only;omega⟩
end
section
variable{x:cY}{l:List cY}{m d M:E}{i f e h:O}{b:List Nat}{c g:List Int}{a:Int}{K:O->E->Prop}
def Bh(a k:O)(m:E):dq cg 245 [ph x a k] m (x.op=14\/x.op=15):=by
 apply Hf;simp -zeta only[aC,aB];intro c;have b:J m c:=J.push _ _;refine⟨λh=>iR (Or.inl (by simpa using h)) b,λh=>eU ?_ b⟩;simp only[aj]at h;simp only[aH];omega
def XT(l:List cY):Prop:=∀x∈l,x.args.length=1
def zG(l:List cY)(o:Int):Prop:=∃x∈l,o∈x.args
def XT.at(h:XT l){k:Nat}(a:l[k]? =some x):∃y,x.args[0]? =some y/\zG l y:=by
 have c:=h x (aq a);let⟨y,b⟩:=cG x.args 0;exact⟨y,b,x,aq a,aq b⟩
def Pl(p:eS m i l)(B:XT l)(H:l.length<=10^12)(v:Int):ta 270 [O.v i,vi v] m λb=>-(l.length:Int)<=b/\b<=l.length:=by
 apply I8;have L:=p.len;refine eu (n:=l.length) V (λk b M=>J m M/\-(k:Int)<=b/\b<=(k:Int)) ⟨J.az _,V,V⟩ ?_;rintro k b c I μ K ⟨e,E,F⟩ C
 refine⟨λj=>?_,λj=>⟨b,rfl,⟨V,V⟩,e⟩⟩;simp only[ar]at j;let⟨x,q⟩:=cG l k;obtain⟨y,r,_⟩:=B.at q;obtain⟨a,Q,o,_,z,_,_,A,_⟩:=p.aF q;have G:=o.len;have P:=aw r;have s:=e.af z;have G3:=e.af A;have h:=(o.ext e).aF r;have u:cU (b+1)=b+1:=aP V V;have w:cU (b -1)=b -1:=aP V V;rw[u,w];have N:∀d,-((k+1:Nat):Int)<=d->d<=((k+1:Nat):Int)->I d (cU ((k:Int)+1)) c/\μ d (cU ((k:Int)+1)) c<μ b k c:=λd a t=>C V _ _ ⟨e,a,t⟩
 have D:(0:Int)<=(k:Int)/\(k:Int)<(i.len:Int)/\∃f:O,af c i.D (i.off+Int.toNat (k:Int)*5+3)=some (O.v f)/\(0:Int)<=(0:Int)/\(0:Int)<(f.len:Int)/\∃g:Int,af c f.D (f.off+Int.toNat (0:Int)*1)=some (vi g)/\
  ((g==v)=true->I (b -1) (cU ((k:Int)+1)) c/\μ (b -1) (cU ((k:Int)+1)) c<μ b k c)/\((g==v)=false->I b (cU ((k:Int)+1)) c/\μ b (cU ((k:Int)+1)) c<μ b k c):=
  ⟨V,V,a,G3,V,V,y,h,λ_=>N _ V V,λ_=>N _ V V⟩
 exact⟨V,V,a,G3,V,V,y,h,λ_=>⟨V,V,_,s,λ_=>N _ V V,λ_=>D⟩,λ_=>D⟩
def NE(q:∀f∈b,f<m.size)(u:eS m i l)(j:XT l)(G:l.length<=100000000000):lg 269 [O.v i] m b λc=>(∀o∈c,zG l o)/\c.length<=l.length:=by
 apply HA;intro N;have K:=u.len;refine eu (n:=l.length) V (λk s M=>J m M/\∃c,GI b m M s c/\(∀o∈c,zG l o)/\c.length<=k) ⟨J.push m _,[],GI.nil b m,aL,ad _⟩ ?_;rintro k s d I μ H ⟨e,c,p,v,t⟩ C
 refine⟨λh=>?_,λh=>⟨s,c,rfl,p,⟨v,V⟩,e⟩⟩;simp only[ar]at h;let⟨x,w⟩:=cG l k;let⟨z,y,A⟩:=j.at w;obtain⟨a,R,r,_,E,_,_,g,_⟩:=u.aF w;have F:=r.len;have L:=aw y;refine⟨V,V,a,e.af g,V,V,z,(r.ext e).aF y,?_⟩;refine(mF (S:=b) (λf t=>aO (q f t) e.size) (p.done q V) z V).then λQ B P g f D=>⟨_,rfl,C V _ _ ⟨e.trans D,B,g.cz (λ_ h=>h) e.size,λo j=>?_,oh f.2⟩⟩;rcases f.1 o j with h|h
 .exact v o h
 .subst h;exact A
structure vM(b:List Nat)(m d M:E)(f e h:O)(c lr g:List Int):Prop where
 x:J m M
 gd:GI b m M f c
 gr:GI b m M e lr
 gv:GI [] d M h g
 n1:f.D≠e.D
 n2:f.D≠h.D
 n3:e.D≠h.D
def vM.ext{b:List Nat}{m d M i:E}{f e h:O}{c j g:List Int}(T:vM b m d M f e h c j g)(a:J M i):vM b m d i f e h c j g:=
 ⟨T.x.trans a,T.gd.ext a,T.gr.ext a,T.gv.ext a,T.n1,T.n2,T.n3⟩
def vM.Z6{j:List Int}(T:vM b m d M f e h c j g)(s:∀i∈b,i<m.size)(t:c.length<=10^12)(u:∀r i,vM b m d i r e h (c++[a]) j g->K r i):
 jN (M.push (.cells (bu [.i a]) aA)) aA [.i 0] 8 f (.mk M.size 0 1 1) K:=by
 have o:=T.gr.bn;have p:=T.gv.bn;have v:=T.n1;have w:=T.n2
 refine GI.kM T.gd (T.x.fz []) s t λr i n l z q=>u r i ⟨l.ext,n,T.gr.jy (q _ o.2 T.n1.symm),T.gv.jy (q _ p.2 T.n2.symm),?_,?_,T.n3⟩<;>rcases z.2 with k|k<;>omega
def vM.SJ{j:List Int}(T:vM b m d M f e h c j g)(s:∀i∈b,i<m.size)(t:j.length<=10^12)(u:∀r i,vM b m d i f r h c (j++[a]) g->K r i):
 jN (M.push (.cells (bu [.i a]) aA)) aA [.i 0] 8 e (.mk M.size 0 1 1) K:=by
 have o:=T.gd.bn;have p:=T.gv.bn;have v:=T.n1;have w:=T.n3
 refine GI.kM T.gr (T.x.fz []) s t λr i n l z q=>u r i ⟨l.ext,T.gd.jy (q _ o.2 T.n1),n,T.gv.jy (q _ p.2 T.n3.symm),?_,T.n2,?_⟩<;>rcases z.2 with k|k<;>omega
def VQ(l:List cY)(c:List cY):Prop:=∃b a:List Int,c=b.map (fe 14)++a.map (fe 15)/\(∀o∈b,zG l o)/\(∀o∈a,zG l o)/\b.length+a.length<=l.length*l.length
def yy(v:∀t∈b,t<m.size)(Z:eS m i l)(a:XT l)(x:l.length<=500000):RO 246 [O.v i] m b (VQ l):=by
 apply Dq;intro r d;have P:J m d:=(J.push m _).trans (J.push r _);have s1:r.size=m.size+1:=by simp[r]
 have gd:GI b m d (.mk m.size 0 0 0) []:=(GI.nil b m).ext (J.push r _);have U:GI b m d (.mk r.size 0 0 0) []:=(GI.nil b r).cz (λ_ F=>F) V;clear_value d;have ah:l.length*l.length<=250000000000:=bI (MR x x) bh;refine(NE (b:=[]) aL (Z.le P.le) a V).then λh g m3 D L Q=>⟨_,rfl,?_⟩;have hv:ap m3 h g:=(D.done aL (oh L.2)).le (bA _ _);have am:=hv.len;have al:=L.2;have an:=D.bn;have au:=P.size;refine xe (n:=g.length) V (λp f e M=>∃c j,vM b m d M f e h c j g/\(∀o∈c,zG l o)/\(∀o∈j,zG l o)/\c.length+j.length<=p*l.length) ⟨[],[],⟨(P.trans Q),gd.ext Q,U.ext Q,D,bF,oh gd.bn,oh U.bn⟩,aL,aL,aL⟩ ?_;rintro p f e m4 ag μ hi ⟨c,j,T,hd,hr,X⟩ ae
 have ac:p*l.length<=l.length*l.length:=dh _ V;have G:∀{M:E}{f e:O}{c j:List Int},vM b m d M f e h c j g->ap M h g:=λT=>(T.gv.done aL V).le (bA _ _);refine dit (λF=>?_) λF=>?_
 .let⟨y,z⟩:=cG g p;have ab:=L.1 y (aq z);refine⟨V,V,y,(G T).aF z,?_⟩;refine(Pl (Z.le T.x.le) a V y).then λw m5 hn s=>⟨_,rfl,?_⟩;have ak:(p+1)*l.length=p*l.length+l.length:=qb _ _;refine⟨λf k M=>k<=w/\(w<=0->k=w)/\(0<w->0<=k)/\∃H,vM b m d M f e h H j g/\(∀o∈H,zG l o)/\H.length+j.length+k.toNat<=p*l.length+w.toNat,λ_ k _=>k.toNat,⟨V,V,V,c,T.ext s,hd,V⟩,?_⟩;rintro af k m6 ⟨n1,n2,n3,I,A,Y,ai⟩;refine dit (λh1=>?_) λh1=>?_
  .refine⟨V,V,y,(G A).aF z,?_⟩;intro q;have u:cU (k -1)=k -1:=aP V V;rw[u];exact A.Z6 v V λN R B=>⟨⟨V,V,V,_,B,λo a=>by
    rcases List.mem_append.1 a with a|a
    .exact Y o a
    .simp at a;subst a;exact ab,bF⟩,by dsimp only;omega⟩
  .refine⟨λe q M=>k<=q/\q<=0/\∃K,vM b m d M af e h I K g/\(∀o∈K,zG l o)/\I.length+K.length+(-q).toNat<=p*l.length+l.length,λ_ q _=>(-q).toNat,⟨V,V,j,A,hr,V⟩,?_⟩;rintro ao q m8 ⟨p1,p2,ad,C,aa,aj⟩;refine⟨λW=>?_,λW=>ae V _ _ _ ⟨I,ad,C,Y,aa,V⟩⟩;simp only[ar]at W;refine⟨V,V,y,(G C).aF z,?_⟩;intro m9;have u:cU (q+1)=q+1:=aP V V;rw[u];exact C.SJ v V λN R B=>⟨⟨V,V,_,B,λo a=>by
    rcases List.mem_append.1 a with a|a
    .exact aa o a
    .simp at a;subst a;exact ab,bF⟩,by dsimp only;omega⟩
 .have o:∀t∈b,t<m4.size:=λt X=>by have:=v t X;have:=T.x.size;omega
  refine(eZ (c:=b) o 14 ((T.gd.done v V).le (bA _ _)) V).mono λ_ m5⟨s1,C,k,g1,u,s⟩=>?_;subst k;subst u;refine⟨_,rfl,?_⟩;have q:=g1.bn;refine(eZ (c:=s1.D::b) (bO o s.size q.2) 15 (((T.ext s).gr.done v V).le (bA _ _)) V).mono λ_ m6⟨I,H,k,g2,y,w⟩=>?_;subst k;subst y;refine⟨_,rfl,?_⟩;refine GS.all (g1.ext gF.mono w) ((s.trans w).fz []) (g2.done gF.mono (bO o s.size q.2) bh bF) bF λN R A z _ _=>⟨N,_,rfl,A.cz gF.mono (λB x=>Or.inl x) T.x.size,⟨c,j,rfl,hd,hr,?_⟩,T.x.trans z.ext⟩;have:p*l.length<=l.length*l.length:=ac;omega
end
section
variable{a c:Nat}
def Jq(a b:Nat):a*a+b*b<=(a+b)*(a+b):=by
 rw[gQ,Nat.mul_add,Nat.mul_add];omega
def Qz{b:Nat}(h:a<=b):a*a<=b*b:=MR h h
structure CN(ds:List bz)(c:Nat)(S:List Nat)(m2 M:E)(a:Nat)(aD:List cY)(k:Nat)(st run:O)(lo lr:List cY)(P:Nat):Prop where
 x:J m2 M
 gs:GS (run.D::S) m2 M st lo
 gr:GS [st.D] m2 M run lr
 wl:WL ds c True a lo
 XW:dc lo=dc (aD.take k)
 sws:sw lo<=P*P
 P':P+2*lr.length<=sw (aD.take k)
 lM:XT lr
 Yd:∀o,zG lr o->0<=o/\o<((a+dc (aD.take k):Nat):Int)
 ne:st.D≠run.D
def Qt{f:List bz}{l b:List cY}(h:VQ l b)(e:∀o,zG l o->0<=o/\o<(a:Int)):WL f c True a b/\dc b=0/\sw b<=(2*l.length)*(2*l.length):=by
 obtain⟨k,j,rfl,g,i,m⟩:=h;refine⟨(rS V λo d=>e o (g o d)).append ?_,?_,?_⟩
 .rw[jW V];exact rS V λo d=>e o (i o d)
 .rw[cZ,jW V,jW V]
 .rw[dC,oF,oF];have:(2*l.length)*(2*l.length)=4*(l.length*l.length):=by
   rw[Nat.mul_mul_mul_comm]
  omega
def ZS(e:List bz)(c:Nat)(b:Bk):Prop:=∀(S:List Nat)(m:E),(∀d∈S,d<m.size)->∀(t:O)(a:Nat),eS m t b.aD->WB e c True a b->b.w<=400000->nA 230 [.agg #[O.v t,vi b.aU]] m S λd=>WB e c True a d/\d.w<=b.w*b.w
def EJ{K:List bz}:∀g:Bk,ZS K c g:=by
 refine Bk.ind ?_;intro aD bf ih s I hS bU a hs a9 hw;have aK:=a9.aS;rw[Bk.qL]at hw⊢;simp only[Bk.jV,Bk.jw]at*;apply xy;simp -zeta only[aC,aB];intro j k Q m3;let⟨x1,hl⟩:=dD (a:=j) (c:=k) rfl rfl;have s0:j.size=I.size+1:=by simp[j]
 have s1:k.size=I.size+2:=by simp[k,s0]
 have bl:J k m3:=(J.push k _).trans (J.push Q _);have s2:Q.size=k.size+1:=by simp[Q]
 have a1:∀u,GS u k m3 (.mk k.size 0 0 0) []:=λu=>(GS.new u k).ext gF.mono (J.push Q _);have a0:∀u,GS u k m3 (.mk Q.size 0 0 0) []:=λu=>(GS.new u Q).cz gF.mono (λg m=>Or.inl m) V;clear_value m3;clear_value k;have a8:=hs.len;have aH:=BV aD;have bB:=fZ aD;have az:∀e∈j.size::s,e<k.size:=bO hS x1.size (hl _ aL);refine xe (n:=aD.length) (a8▸hs.gW) (λv G z q=>∃Z t P,CN K c (j.size::s) k q a aD v G z Z t P) ⟨[],[],0,bl,a1 _,a0 _,WL.nil _ _ _ _,rfl,aL,aL,λ_ h=>by simp at h,λaf⟨_,h,_⟩=>by simp at h,bF⟩ ?_;rintro v G z y bn μ hk ⟨Z,t,P,C⟩ aM
 have T:=C.x;have R:=x1.trans T;have bM:=C.gs.bn;have bL:=C.gr.bn;have z4:=T.size;have ay:=C.P';have bC:=aH v;have bo:P*P<=160000000000:=bI (Qz (b:=400000) V) bh;have bx:=fZ Z;have a6:=C.sws;have aF:=C.ne;have L:∀{q:E}{u:List Nat},y.size<=q.size->(∀e∈u,e<q.size)->∀e∈u++j.size::s,e<q.size:=λh m e f=>by
  rcases List.mem_append.1 f with h|h
  .exact m e h
  .have:=az e h;omega
 have aG:∀{q:E},J y q->eS q z t:=λh=>eS.le (bA _ _) ((C.gr.ext gF.mono h).nK gF.mono (by simpa using aF.symm) bh V);refine dit (λh=>?_) λh=>?_
 .let⟨d,X⟩:=cG aD v;let⟨pa,pk,ha,ab,g0,g1,g2,g3,g4⟩:=hs.aF X;refine⟨V,V,_,R.af g0,_,R.af g1,_,R.af g2,_,R.af g3,_,R.af g4,?_⟩;intro m5 F;have x6:J y F:=(J.push y _).ah (ad _) _ _;have s6:F.size=y.size+1:=by simp[F,m5,ax]
  clear_value F;have O:∀{q:E},F.size<=q.size->∀g∈[y.size,j.size,I.size],g<q.size:=λh g m=>by
   rcases List.mem_cons.1 m with i|i
   .omega
   .have:=hl g i;omega
  have bG:=pX X;have bE:=qQ X;have a_:=cY.mw d;have W:=aK.1 v d X;have bD:=aH (v+1);have br:=qt d.bC;refine(Bh pa pk F).aG (J.az F) (O (ad _)) λbp m7 a3 x7 _=>⟨_,rfl,λhp=>?_,λhp=>?_⟩
  · -- a pair goes to the run
   have hp:=a3.1 hp;have D:d.args.length=1:=W.fg.lM V;have N:dn d=0:=ae λh:pt d.op=>by have:=h.2;omega
   have A:=x6.trans x7;intro m8;have r:Le I (bH (z.D::[G.D]) m7):=(Ao I).trans (((R.trans A).fz []).bH aL λe f=>by simp at f;have:=x1.size;exact Or.inr V);refine GS.kM (x:=d) (C.gr.ext gF.mono A) ((T.trans A).fz []) (ha.le r) (ab.le r) V λaZ M' U B l w=>⟨λe f=>?_,aM V _ _ _ ⟨Z,t++[d],P,B.ext,(C.gs.ext gF.mono A).re gF.mono (Y:=[z.D]) ⟨l.1,λe f o=>w e f (by simpa using o)⟩ aL (by simpa using aF) (λe f=>?_),U,C.wl,by rw[C.XW];omega,a6,bF,λak o=>?_,λaf H=>?_,?_⟩⟩
   .have:=O (q:=m7) x7.size e f;rw[w e this (by simp at f;omega),(J.push m7 _).same e this]
   .rcases List.mem_cons.1 f with i|i
    .rcases l.2 with p|p
     .exact Or.inl (by rw[i,p];exact bg)
     .exact Or.inr V
    .exact Or.inl (ai _ i)
   .rcases List.mem_append.1 o with o|o
    .exact C.lM ak o
    .simp at o;subst o;exact D
   .let⟨ak,o,p⟩:=H;have i:dc (aD.take (v+1))=dc (aD.take v):=V;rw[i];rcases List.mem_append.1 o with o|o
    .exact C.Yd af ⟨ak,o,p⟩
    .simp at o;subst o;exact W.fg.args af p
   .have:=(C.gs.ext gF.mono A).bn;rcases l.2 with i|i<;>omega
  · -- another step ends the run
   have A:=x6.trans x7;have aS:=A.size;refine(yy (b:=[G.D,z.D]++j.size::s) (L aS bF) (aG A) C.lM V).aG (J.az m7) (O x7.size) λbS ba bP aX bd aO _=>⟨_,rfl,?_⟩;let⟨an,ag,bj⟩:=Qt (f:=K) (c:=c) bd C.Yd;have bu:=fZ ba;have vH:=aO.size;have z7:=x7.size;have a2:(2*t.length)*(2*t.length)<=160000000000:=bI (Qz (b:=400000) V) bh;have aQ:=A.trans aO;refine GS.all (C.gs.ext gF.mono aQ) ((T.trans aQ).fz []) (aX.done gF.mono (L (u:=[G.D,z.D]) aS bF) bh V) V λw l au aU aR be=>⟨λe f=>be e (O V e f) (by simp at f;omega),?_⟩;have ap:J k l:=aU.ext;have bW:=aR.1;have bJ:=au.bn;have bq:w.D=G.D\/F.size<=w.D:=by have:=aR.2;omega
   intro p am;have aP:J l p:=J.push l _;have bT:p.size=l.size+1:=by simp[p]
   have bk:J p am:=J.push p _;have ar:=ap.trans aP;have gn:GS [w.D] k p (.mk l.size 0 0 0) []:=(GS.new _ l).cz gF.mono (λg m=>Or.inl m) ap.size;have gk:GB ([w.D,l.size]++j.size::s) p am (.mk p.size 0 0 0) []:=GB.new _ p;have aY:GS ([l.size]++j.size::s) k p w _:=au.re gF.mono (Y:=[]) (aP.fz []) aL aL λe f=>by
    rcases List.mem_cons.1 f with i|i
    .exact Or.inr V
    .exact Or.inl (ai _ i)
   clear_value am;clear_value p;have al:=ab.len;have bs:=La d.bC;have bt:bw d.bC<=400000:=V;refine eu (n:=d.bC.length) (al▸ab.gW) (λD bi q=>J p q/\∃r,GB ([w.D,l.size]++j.size::s) p q bi r/\r.length=D/\(∀(B:Nat)(g:Bk),r[B]? =some g->WB K c True (a+dc (aD.take v)+Cd K d.op d.bP B) g)/\bw r<=bw (d.bC.take D)*bw (d.bC.take D)) ⟨bk,[],gk,rfl,aL,aL⟩ ?_;rintro D ks ac I2 μ2 hj ⟨aa,r,U,bv,aE,a4⟩ bc;have ah:=x1.trans (ar.trans aa);have bX:=aa.size;have bK:=U.bn;have N:∀g∈[y.size,j.size,I.size],g<ac.size:=O V;refine dit (λh2=>?_) λh2=>?_
   .let⟨g,m⟩:=cG d.bC D;let⟨tb,aV,f0,f1⟩:=ab.aF m;have a5:=wX m;have aN:=uA m;refine⟨V,V,_,ah.af f0,_,ah.af f1,?_⟩;refine(ih d (aq X) g (aq m) ([ks.D,w.D,l.size]++j.size::s) ac (L V bF) tb _ (aV.le ah.le) (W.bC D g m) V).aG (J.az ac) N λss b' a7 aT aA ao _=>⟨_,_,rfl,?_⟩;refine GB.kM (c:=b') (U.ext rO.mono ao) ((aa.trans ao).fz []) aT V λaZ M' g2 f2 z2 q2=>⟨J.oK ((aa.trans ao).aK _) f2.ext (λe f=>oh (O (q:=p) V e f)),bc V _ _ ⟨f2.ext,_,g2,bF,λB b2 H=>?_,?_⟩⟩
    .rcases aW B r.length with aj|aj
     .rw[av aj]at H;exact aE B b2 H
     .rw[aJ aj]at H;have:B -r.length=0:=by have:=aw H;simp at this;omega
      rw[this]at H;simp at H;subst H;have:B=D:=V;subst this;exact aA.1
    .rw[oU,uz,zQ,aN];have h3:=Jq (bw (d.bC.take D)) g.w;have:=aA.2;omega
   .have a5:r.length=d.bC.length:=V;rw[bV V]at a4;refine(bN ([w.D,l.size]++j.size::s) (ha.ext ah) V).aG (J.az ac) N λs' l' bb ga i H _=>⟨_,rfl,aI (H.same _ (N _ aL)) _,aI (H.same _ (N _ aL)) _,aI (H.same _ (N _ aL)) _,?_⟩;subst i;intro bQ;have aj:=aa.trans H;have bY:=H.size;have ao:∀e∈[w.D,l.size]++j.size::s,e<p.size:=L V bF;have a7:w.D≠l.size:=V;refine GS.kM (x:=⟨d.op,d.bP,d.bY,d.args,r⟩) (aY.ext gF.mono aj) ((ar.trans aj).fz []) (ga.done (λe f=>oh (ao e f)) V) (nI.le (H.dg _) (U.done rO.mono ao bh (by show r.length<=_;omega))) bF λaN bR aZ aV bm aA=>⟨λe f=>?_,aM V _ _ _ ⟨_,[],P+2*t.length+d.w,aV.ext,aZ,?_,((C.wl.append (by rw[C.XW];exact an)).yS (W.Qd id W.fg.bY a5 aE|>λh=>by rw[cZ,C.XW,ag,jG];exact h)),?_,?_,bF,λ_ h=>by simp at h,λaf⟨_,h,_⟩=>by simp at h,?_⟩⟩
    .have h3:=N e f;rw[aA e V (by simp at f;omega),(J.push bb _).same e V]
    · -- the new run is empty
     have i:=gn.ext gF.mono aj;let⟨p0,aT,p1,p2⟩:=i;refine⟨p0,aT,p1.congr (aA _ (by have:=aj.size;show l.size<_;omega) (kH a7)),p2.len,p2.size,λB cs ak _ o=>by simp at o⟩
    .rw[cZ,cZ,C.XW,ag,kO,th];have i:dn (⟨d.op,d.bP,d.bY,d.args,r⟩:cY)=dn d:=rfl;omega
    .rw[dC,dC,mN,vz];have h3:=Jq P (2*t.length);have h4:=Jq (P+2*t.length) d.w;have h5:(⟨d.op,d.bP,d.bY,d.args,r⟩:cY).w=1+d.args.length+bw r:=cY.mw _;have o:=Jq (1+d.args.length) (bw d.bC);have h7:1+d.args.length<=(1+d.args.length)*(1+d.args.length):=Nat.le_mul_of_pos_left _ V;rw[<-a_]at o;omega
    .rcases bm.2 with i|i
     .show aN.D≠l.size;omega
     .show aN.D≠l.size;omega
 .have al:v=aD.length:=V;subst al;rw[fx]at ay;have hd:dc (aD.take aD.length)=dc aD:=by rw[fx]
  have i:∀g∈[j.size,I.size],g<y.size:=λg m=>T.lt (hl g m);refine(yy (b:=[G.D,z.D]++j.size::s) (L (ad _) bF) (aG (J.az _)) C.lM V).aG (J.az y) i λO l F r A d _=>⟨_,rfl,aI (d.same _ (i _ aL)) _,?_⟩;let⟨an,ag,bj⟩:=Qt (f:=K) (c:=c) A C.Yd;have D:=fZ l;have a2:(2*t.length)*(2*t.length)<=160000000000:=bI (Qz (b:=400000) V) bh;have U:=d.size;refine GS.all (C.gs.ext gF.mono d) ((T.trans d).fz []) (r.done gF.mono (L (u:=[G.D,z.D]) (ad _) bF) bh V) V λB H w p W o=>⟨λe f=>o e (d.lt (i e f)) (oh (hl e f)),aI (o _ (d.lt (i _ aL)) V) _,?_⟩;intro N;refine⟨B,.mk (Z++l) bf,rfl,eS.le (cB aL λe f=>ai _ f) ((w.re gF.mono (S':=j.size::s) (Y:=[]) (Fz.az _ _) aL aL (λe f=>Or.inl (ai _ f))).done gF.mono az bh bF),⟨WB.of (C.wl.append (by rw[C.XW];exact an)) ?_,?_⟩,(x1.trans p.ext).ah V _ _⟩
  .rw[cZ,C.XW,ag,hd];exact aK.2
  .rw[Bk.qL,dC];have h3:=Jq P (2*t.length);have h4:=Qz ay;have h5:=Jq 1 (sw aD);omega
end
section
variable{e:List Nat}{c:E}{d f:O}{g:List gR}{W:Nat}
def IJ(F:∀a∈e,a<c.size){j:List bz}(p:eN c d f j g)(hW:W<=400000)(Z:yD j g True W):va 209 [.agg #[O.v d,O.v f]] c e j λw=>yD j w True (W*W):=by
 apply AO;simp -zeta only[aC,aB];intro b a2;let⟨z,u⟩:=dD (a:=b) (c:=a2) rfl rfl;have s1:b.size=c.size+1:=by simp[b]
 clear_value a2;have ai:=p.iX.len;have ar:=p.oG;refine(fV (b:=b.size::e) (bO F z.size (u _ aL)) (p.le z.le).bo p.types).mono λ_ K⟨ab,k,ad,A⟩=>?_;subst k;refine⟨A.dv u,_,rfl,?_⟩;intro L am aa;have u2:=z.trans A;let⟨x5,B0,g0,s3,s5⟩:=kZ (b:=L.size::b.size::e) iU.mono (d:=K) (a:=L) (c:=am) (h:=aa) rfl rfl rfl;clear_value aa;have v:∀a∈[b.size,c.size],a<K.size:=λa i=>A.lt (u a i);have H:∀a∈b.size::e,a<K.size:=λa i=>A.lt (bO F z.size (u _ aL) a i);refine kV (R:=λh o M=>∃d f w,Value.agg #[O.v h,O.v o]=.agg #[O.v d,O.v f]/\eN (bH e M) d f j w/\yD j w True (W*W)/\J c M) (r:=g.length) (f:=c) (b:=e) iU.mono bh bh F ⟨V,v _ aL⟩ u2 s3 ad ai V x5 B0 g0 (λ_ q=>q.params.length<=3/\q.cW.length<=3/\WB j g.length True q.params.length q.body/\q.body.w<=W*W) (λh t I x U X o r s=>⟨h,t,I,rfl,⟨U,X,p.types,V⟩,It Z.iZ o r,s⟩) λal M st I ao μ ae ap B T C an=>?_
 let⟨q,hq⟩:=cG g al ae;let⟨ah,ag,ak,hw⟩:=Z.dz q (aq hq);have y:=u2.trans B;let⟨au,av,h,c1,c2,c3,N,P,Q,D,E⟩:=p.iX.aF hq;have G:∀{x:Value}{h r:Nat},af c h r=some x->af M h r=some x:=λt=>y.af t;refine⟨st,C.cp 1,V,V,_,G N,_,G P,_,G Q,_,G D,_,G E,V,V,_,G D,_,G E,?_⟩;have hy:=T.bn;have ac:=C.lt;have zM:=B.size;refine(EJ q.body (st.D::L.size::b.size::e) M (λa i=>?_) h q.params.length (c3.le y.le) ak V).aG B v λss b' M1 aj Y o u1=>⟨_,_,rfl,?_⟩
 .simp only[aV]at i;rcases i with k|k|k|k
  .omega
  .omega
  .have:=H a (by simp[k]);omega
  .have:=H a (by simp[k]);omega
 have s:∀{x:Value}{h r:Nat},af c h r=some x->af M1 h r=af M h r:=λt=>by rw[o.af (G t),G t]
 refine⟨s N,s P,s Q,s D,s E,aI (o.same _ (B.lt (v _ aL))) _,aI (o.same _ ac) _,?_⟩;exact wh (b:=b.size::e) (v:=ab) (x:=I) H (λa i=>by have U:=v a i;have X:=u1.size;omega) u1 (T.ext iU.mono o) (C.ext o) V (c1.ext (y.trans o)) (c2.ext (y.trans o)) aj ⟨V,V⟩ V λs' X g' U x'=>an s' X _ g' U x' ⟨ah,ag,Y.1,bI Y.2 (Qz hw)⟩
def Yk(b:Bk):Prop:=∀(e:List Nat)(c:E),(∀a∈e,a<c.size)->∀t:O,eS c t b.aD->b.w<=10^12->nA 287 [.agg #[O.v t,vi b.aU]] c e (b=·)
def yw(H:∀i∈e,i<c.size){z B:O}{x:cY}(I:ap c z x.args)(u:nI c B x.bC)(hw:x.w<=10^12)(P:∀h∈x.bC,Yk h):KR 318 [ph x z B] c e (x=·):=by
 apply CQ;simp -zeta only[aC,aB];intro d a y;let⟨D,v⟩:=dD (a:=d) (c:=a) rfl rfl;have R:d.size=c.size+1:=by simp[d]
 have s1:a.size=c.size+2:=by simp[a,R]
 have S:J a y:=J.push _ _;have F:GB (d.size::e) a y (.mk a.size 0 0 0) []:=GB.new _ a;clear_value y;clear_value a;have r:∀i∈d.size::e,i<a.size:=bO H D.size (v _ aL);have K:=u.len;have aa:=cY.mw x;have Y:=qt x.bC;refine eu (n:=x.bC.length) (K▸u.gW) (λw s M=>J a M/\GB (d.size::e) a M s (x.bC.take w)) ⟨S,F⟩ ?_;rintro w s p U μ hj ⟨m,o⟩ Q
 have l:=D.trans m;have k:∀h∈[d.size,c.size],h<p.size:=λh j=>m.lt (v h j);have N:=o.bn;have T:=m.size;refine dit (λG=>?_) λG=>?_
 .let⟨h,j⟩:=cG x.bC w;let⟨tb,M,A,E⟩:=u.aF j;have Z:=wX j;refine⟨V,V,_,l.af A,_,l.af E,?_⟩;refine(P h (aq j) (s.D::d.size::e) p (bO r T N.2) tb (M.le l.le) V).aG (J.az p) k λss X C L q g _=>⟨_,_,rfl,?_⟩;subst q;refine GB.kM (c:=h) (o.ext rO.mono g) ((m.trans g).fz []) L bF λf W g2 t z2 q2=>⟨J.oK ((m.trans g).aK _) t.ext v,Q V _ _ ⟨t.ext,?_⟩⟩;rw[aT j];exact g2
 .rw[bV V]at o;refine(bN (d.size::e) (I.ext l) V).aG (J.az p) k λM W C E q g _=>⟨_,rfl,aI (g.same _ (k _ aL)) _,aI (g.same _ (k _ aL)) _,aI (g.same _ (k _ aL)) _,?_⟩;subst q;intro L;have A:Le (bH (d.size::e) C) (bH e L):=cB aL λi t=>ai _ t;exact⟨M,s,x,rfl,(E.done (λi t=>oh (r i t)) V).le A,nI.le A ((o.ext rO.mono g).done rO.mono r bh V),rfl,(l.trans g).ah V _ _⟩
def wy:∀j:Bk,Yk j:=by
 refine Bk.ind ?_;intro aD h ih e c W al z hw;rw[Bk.qL]at hw;simp only[Bk.jV,Bk.jw]at*;apply rE;simp -zeta only[aC,aB];intro f b d C q;let⟨I,y⟩:=dD (a:=f) (c:=b) rfl rfl;have s0:f.size=c.size+1:=by simp[f]
 have s1:b.size=c.size+2:=by simp[b,s0]
 have s2:d.size=b.size+1:=by simp[d]
 have s3:C.size=d.size+1:=by simp[C]
 have K:J d q:=(J.push d _).ah (ad _) _ _;have ag:J b q:=(J.push b _).trans K;have x:GS (d.size::f.size::e) b q (.mk b.size 0 0 0) []:=(GS.new _ b).ext gF.mono K;have N:cF q d.size di [.s (.mk b.size 0 0 0),.i h]:=cF.ah (m:=C) (o:=0) (r:=[.s (.mk b.size 0 0 0),.i h]) (cF.push d _ _);clear_value q;have F:∀u∈f.size::e,u<b.size:=bO W I.size (y _ aL);have ae:=z.len;have aj:=fZ aD;refine dV (n:=aD.length) (ae▸z.gW) (λA M=>J b M/\∃s,GS (d.size::f.size::e) b M s (aD.take A)/\cF M d.size di [.s s,.i h]) ⟨ag,_,x,N⟩ ?_;rintro A D ah μ hk ⟨w,s,l,B⟩ af
 have g:=I.trans w;have ac:∀j∈[f.size,c.size],j<D.size:=λj Y=>w.lt (y j Y);have hy:=l.bn;have z5:=w.size;have E:=B.lt;refine dit (λU=>?_) λU=>?_
 .let⟨H,v⟩:=cG aD A;let⟨pa,pk,X,ab,x,g1,g2,R,T⟩:=z.aF v;have ak:=Pp v;refine⟨s,B.cp 0,V,V,_,g.af x,_,g.af g1,_,g.af g2,_,g.af R,_,g.af T,?_⟩;refine(yw (e:=s.D::d.size::f.size::e) (bO (bO F z5 E) (ad _) hy.2) (X.ext g) (ab.le g.le) V (ih H (aq v))).aG (J.az D) ac λM O x' G Z aa k t _=>⟨_,_,_,_,_,rfl,aI (t.same _ E) _,?_⟩;subst k;intro m7;refine Gr.box (g:=[.i 0,.i 0,.i 0,.s .nil,.s .nil]) (j:=0) (i:=[.s s,.i h]) (w:=H) gF.mono bh (l.ext gF.mono t) ((w.trans t).fz []) ⟨M,O,rfl,Z,aa⟩ bF (B.ext t) aL bh ⟨V,aL⟩ (λu p=>by have L:=y u p;have P:=t.size;omega) λr' m' Q L P z' q'=>af V _ ⟨P.ext,r',?_,L⟩
  rw[aT v];exact Q
 .rw[bV V]at l;refine⟨s,B.cp 0,h,B.cp 1,?_⟩;intro G;have v:=l.ne B bh;have t:Le (bH (d.size::f.size::e) D) (bH e G):=cB aL λu p=>ai _ (ai _ p);refine⟨s,.mk aD h,rfl,eS.le t (l.nK gF.mono (λp=>?_) bh (by show aD.length<=_;omega)),rfl,g.ah V _ _⟩;rcases List.mem_cons.1 p with k|k
  .exact v k
  .have:=F _ k;omega
def ZQ(b:Bk):Prop:=∀(c:E)(t:O)(f:Int),eS c t b.aD->oQ 319 [.agg #[O.v t,vi b.aU],vi f] c
def Ka:∀b:Bk,ZQ b:=by
 refine Bk.ind ?_;intro aD Y G c t s m;simp only[Bk.jV,Bk.jw]at*;apply CM;simp -zeta only[aC,aB];intro g;have A:J c g:=J.push _ _;have D:∀b∈[c.size],b<g.size:=by simp[g]
 clear_value g;have F:=m.len;refine dV (n:=aD.length) (F▸m.gW) (λ_ M=>J g M) (J.az _) ?_;rintro k o I μ X r N
 have h:=A.trans r;refine⟨λj=>?_,λ_=>rA h⟩;simp only[ar]at j;let⟨x,v⟩:=cG aD k;let⟨pa,w,U,l,B,g1,g2,T,u⟩:=m.aF v;have C:=l.len;have L:∃(i:Int->E->Prop)(μ0_1:Int->E->Nat),i (0:Int) o/\(∀(a:Int)(M:E),i a M->
  (0:Int)<=(k:Int)/\(k:Int)<(t.len:Int)/\∃q:O,af M t.D (t.off+Int.toNat (k:Int)*5+4)=some (O.v q)/\
  ((decide (a<(q.len:Int)))=true->(0:Int)<=(k:Int)/\(k:Int)<(t.len:Int)/\∃d:O,af M t.D (t.off+Int.toNat (k:Int)*5+4)=some (O.v d)/\
   (0:Int)<=a/\a<(d.len:Int)/\∃y:O,af M d.D (d.off+Int.toNat a*2)=some (O.v y)/\∃z:Int,af M d.D (d.off+Int.toNat a*2+1)=some (vi z)/\
   aN cg 319 [.agg #[O.v y,vi z],vi s] M λf e=>eI [c.size] M e/\∃p:Bool,f=vb p/\(p=true->∃b:Bool,vb true=.bool b/\J c e)/\(p=false->i (cU (a+(1:Int))) e/\μ0_1 (cU (a+(1:Int))) e<μ0_1 a M))/\
  ((decide (a<(q.len:Int)))=false->I (cU ((k:Int)+(1:Int))) M/\μ (cU ((k:Int)+(1:Int))) M<μ k o)):=by
  refine dV (n:=x.bC.length) (C▸l.gW) (λ_ M=>J o M) (J.az _) ?_
  rintro H M R μ2 W d K
  have a:=h.trans d
  refine⟨V,V,w,a.af u,λj=>?_,λ_=>N V _ (r.trans d)⟩
  simp only[ar]at j
  let⟨b,p⟩:=cG x.bC H
  let⟨tb,z,q,y⟩:=l.aF p
  refine⟨V,V,w,a.af u,V,V,_,a.af q,_,a.af y,?_⟩
  exact(G x (aq v) b (aq p) M tb s (z.le a.le)).aG (r.trans d) D λS e Q P=>⟨_,rfl,λ_=>rA (A.trans P),λ_=>K V _ (d.trans Q)⟩
 exact⟨V,V,_,h.af B,λ_=>⟨V,V,_,h.af g1,λ_=>rA h,λ_=>L⟩,λ_=>L⟩
def Kh{o:List bz}(h:eN c d f o g)(i:Int):oQ 288 [.agg #[O.v d,O.v f],vi i] c:=by
 apply Da;simp -zeta only[aC,aB];intro a;have k:J c a:=J.push _ _;have s:∀e∈[c.size],e<a.size:=by simp[a]
 clear_value a;have H:=h.iX.len;have G:=h.oG;refine dV (n:=g.length) V (λ_ M=>J a M) (J.az _) ?_;rintro u v I μ F l w
 have b:=k.trans l;refine⟨λr=>?_,λ_=>rA b⟩;simp only[ar]at r;let⟨x,t⟩:=cG g u;let⟨K,L,e,A,B,m,C,D,E,p,q⟩:=h.iX.aF t;exact⟨V,V,_,b.af p,_,b.af q,(Ka x.body v e i (m.le b.le)).aG l s λz y M j=>⟨_,rfl,λ_=>rA (k.trans j),λ_=>w V _ j⟩⟩
abbrev ZB(e:List Nat)(a c:E)(s:O)(l:List (List Int)):Prop:=Gr e a c yd 1 mS s l
def GU(Z:∀a∈e,a<c.size){R:List bz}(o:eN c d f R g)(hp:∀y∈g,y.params.length<=3):
 aN cg 253 [.agg #[O.v d,O.v f]] c λae G=>∃s l,ae=O.v s/\pp (bH e G) s l/\l.length=g.length/\(∀a∈l,a.length<=3)/\J c G:=by
 apply yW
 simp -zeta only[aC,aB]
 intro b x
 have N:J c b:=J.push _ _
 have v:∀z∈[c.size],z<b.size:=by simp[b]
 have af:J b x:=J.push _ _
 have W:ZB e b x (.mk b.size 0 0 0) []:=Gr.new e (ad _) _ _ _
 clear_value x
 clear_value b
 have aj:=o.iX.len;have ai:=o.oG
 have C:∀a∈e,a<b.size:=λa u=>N.lt (Z a u)
 refine eu (n:=g.length) V (λk s M=>J b M/\∃l,ZB e b M s l/\l.length=k/\∀a∈l,a.length<=3) ⟨af,[],W,rfl,aL⟩ ?_
 rintro k s H P μ hk ⟨r,l,t,ag,B⟩ aa
 have q:=N.trans r
 have h:=t.bn
 refine dit (λY=>?_) λY=>?_
 .let⟨y,D⟩:=cG g k
  let⟨ab,ak,z,Q,c2,c3,T,e1,e2,e3,e4⟩:=o.iX.aF D
  have ah:=hp y (aq D)
  have iK:∀(M:E)(i:O)(a:List Int),J H M->ap (bH (s.D::e) M) i a->a.length<=3->jN (M.push (.cells (bu [.s i]) yd)) yd [.s O.nil] 24 s (O.mk M.size 0 1 1) λK m=>eI [c.size] (M.push (.cells (bu [.s i]) yd)) m/\P K (cU ((k:Int)+(1:Int))) m/\μ K (cU ((k:Int)+(1:Int))) m<μ s k H:=λM i a w hf u=>
   Gr.kM (g:=[.s .nil]) mS.mono bh (t.ext mS.mono w) ((r.trans w).fz []) ⟨i,rfl,hf⟩ V λr' m U A _ _=>⟨J.oK ((r.trans w).aK _) A.ext v,aa V _ _ ⟨A.ext,_,U,bF,λj h=>by
    rcases List.mem_append.1 h with h|h
    .exact B j h
    .simp at h;subst h;exact u⟩⟩
  refine(Kh (o.le q.le) k).aG r v λa m4 j L=>⟨_,rfl,λ_=>?_,λ_=>⟨V,V,ab,(q.trans j).af T,?_⟩⟩
  .intro p m6
   exact iK p _ [] (j.aK _) (mI _ _ _ _ _ _) aL
  .refine(rV (S:=[]) aL (a:=0) ((Q.ext (q.trans j)).le (Ao _)) V).aG L v λac F p X I x5 u5=>⟨_,rfl,?_⟩
   intro m6
   have hg:GI (s.D::e) m4 p ac F:=X.any
   exact iK p _ F (j.trans x5) (hg.done (bO C L.size (oh j.size)) (oh I.2)) (oh I.2)
 .exact⟨s,l,rfl,t.done mS.mono C bh V,V,B,q⟩
def ZR(a:List bz)(g:List gR)(b:Bk):Prop:=∀(c:E)(d f t:O)(v:Int)(h:Prop)(e:Nat),eN c d f a g->eS c t b.aD->WB a g.length h e b->oQ 289 [.agg #[O.v d,O.v f],.agg #[O.v t,vi b.aU],vi v] c
def AQ{C:List bz}:∀b:Bk,ZR C g b:=by
 refine Bk.ind ?_;intro aD ah ih c d f ai ae m ag E t Z;have aa:=Z.aS.1;simp only[Bk.jV,Bk.jw]at*;apply vr;simp -zeta only[aC,aB];intro K v;let⟨O,W⟩:=dD (a:=K) (c:=v) rfl rfl;clear_value v;have X:=t.len;refine⟨λ_=>rA O,λ_=>?_⟩;refine dV (n:=aD.length) (X▸t.gW) (λ_ M=>J v M) (J.az _) ?_;rintro I p af μ hk A ac
 have e:=O.trans A;refine⟨λj=>?_,λ_=>rA e⟩;simp only[ar]at j;let⟨x,u⟩:=cG aD I;let⟨pa,pk,o,r,Q,g1,g2,R,S⟩:=t.aF u;have F:=aa I x u;have T:=o.len;have U:=r.len;refine⟨V,V,_,e.af Q,_,e.af g1,_,e.af g2,_,e.af R,_,e.af S,?_⟩;intro m3 h;have B:J p h:=(J.push p _).ah (ad _) _ _;have s4:h.size=p.size+1:=by simp[h,m3,ax]
 clear_value h;have s:∀b∈[p.size,K.size,c.size],b<h.size:=λb k=>by
  rcases List.mem_cons.1 k with D|D
  .omega
  .exact(A.trans B).lt (W b D)
 refine dV (n:=x.args.length) (T▸o.gW) (λ_ M=>J h M) (J.az _) ?_;rintro H L I1 μ1 hj l y;have z:=(e.trans B).trans l;refine⟨λj=>?_,λ_=>?_⟩
 .simp only[ar]at j;let⟨Y,P⟩:=cG x.args H;refine⟨V,V,Y,(o.ext z).aF P,λ_=>?_,λ_=>y V _ l⟩;refine(yv x.op L).aG l s λm w i G=>⟨_,rfl,λ_=>?_,λ_=>y V _ G⟩;have a:=z.trans i;exact(nU (⟨E.le a.le,o.ext a,F.fg.call⟩:At w d f pa pk C g x) H).aG G s λm m7 q N=>⟨_,rfl,λ_=>rA (a.trans q),λ_=>y V _ N⟩
 .refine dV (n:=x.bC.length) (U▸r.gW) (λ_ M=>J L M) (J.az _) ?_;rintro G w I2 μ2 hi i ab;have a:=z.trans i;refine⟨λj=>?_,λ_=>ac V _ (((A.trans B).trans l).trans i)⟩;simp only[ar]at j;let⟨b,k⟩:=cG x.bC G;let⟨tb,Y,M,P⟩:=r.aF k;refine⟨V,V,_,a.af M,_,a.af P,?_⟩;exact(ih x (aq u) b (aq k) w d f tb ae m _ (E.le a.le) (Y.le a.le) (F.bC G b k)).aG (l.trans i) s λm m7 q N=>⟨_,rfl,λ_=>rA (a.trans q),λ_=>ab V _ (i.trans q)⟩
def Kj(P:∀h∈e,h<c.size){A:List bz}(r:eN c d f A g){h:Prop}(Q:yD A g h W){B:Nat}{q:gR}(s:g[B]? =some q):lg 254 [.agg #[O.v d,O.v f],vi B] c e λl=>l.length<=q.cW.length:=by
 apply Db;simp -zeta only[aC,aB];intro a u;have y:J c a:=J.push _ _;have E:∀k∈[c.size],k<a.size:=by simp[a]
 have T:J a u:=J.push _ _;have N:GI e a u (.mk a.size 0 0 0) []:=GI.nil e a;clear_value u;clear_value a;have af:=r.iX.len;have aa:=aw s;let⟨ae,ac,R,hw⟩:=Q.dz q (aq s);let⟨ah,w,k,X,m,I,Z,o,e2,K,L⟩:=r.iX.aF s;have ag:=m.len;refine eu (n:=q.cW.length) V (λt v M=>J a M/\∃l,GI e a M v l/\l.length<=t) ⟨T,[],N,ad _⟩ ?_;rintro t v S U μ ab ⟨H,l,p,D⟩ G
 have b:=y.trans H;refine⟨V,V,w,b.af o,λi=>?_,λi=>⟨v,l,rfl,p.cz (λ_ i=>i) y.size,V,b⟩⟩;simp only[ar]at i;let⟨z,F⟩:=cG q.cW t;refine⟨V,V,_,b.af K,_,b.af L,V,V,w,b.af o,V,V,z,(m.ext b).aF F,?_⟩;refine(AQ q.body S d f k z h _ (r.le b.le) (I.le b.le) R).aG H E λY m4 j x=>⟨_,rfl,λ_=>⟨V,V,w,(b.trans j).af o,V,V,z,(m.ext (b.trans j)).aF F,?_⟩,λ_=>G V _ _ ⟨x,l,p.ext j,V⟩⟩;intro m5;exact GI.kM (p.ext j) (x.fz []) (λh D=>y.lt (P h D)) V λf m6 M C _ _=>⟨J.oK (x.aK _) C.ext E,G V _ _ ⟨C.ext,_,M,bF⟩⟩
end
section
variable{b:List Nat}{e:E}{d g:O}{f:List gR}{c:Prop}{W:Nat}
def yA(Q:∀c∈b,c<e.size){lt:O}{v:List bz}{H:List (List Int)}(y:eN e d g v f)(hW:W<=1000000)(hk:yD v f c W)(ag:pp e lt H)(aQ:H.length=f.length)(av:∀c∈H,c.length<=3):
 va 252 [.agg #[O.v d,O.v g],O.v lt] e b v λz=>yD v z c W/\z.length=f.length:=by
 apply Dy
 simp -zeta only[aC,aB]
 intro j a2
 let⟨K,D⟩:=dD (a:=j) (c:=a2) rfl rfl
 have s1:j.size=e.size+1:=by simp[j]
 clear_value a2
 have az:=y.iX.len;have aS:=y.oG
 refine(fV (b:=j.size::b) (bO Q K.size (D _ aL)) (y.le K.le).bo y.types).mono λ_ Y⟨dd,h,ar,L⟩=>?_
 subst h
 refine⟨L.dv D,_,rfl,?_⟩
 intro s aJ al
 have u2:=K.trans L
 let⟨x5,B0,g0,s3,s5⟩:=kZ (b:=s.size::j.size::b) iU.mono (d:=Y) (a:=s) (c:=aJ) (h:=al) rfl rfl rfl
 clear_value al
 have U:∀c∈[j.size,e.size],c<Y.size:=λc k=>L.lt (D c k)
 have ae:∀c∈j.size::b,c<Y.size:=λc k=>L.lt (bO Q K.size (D _ aL) c k)
 refine kV (R:=λl o M=>∃d g z,Value.agg #[O.v l,O.v o]=.agg #[O.v d,O.v g]/\eN (bH b M) d g v z/\(yD v z c W/\z.length=f.length)/\J e M) (r:=f.length) (f:=e) (b:=b) iU.mono bh bh Q ⟨V,U _ aL⟩ u2 s3 ar az V x5 B0 g0 (λ_ q=>q.params.length<=3/\q.cW.length<=3/\WB v f.length c q.params.length q.body/\q.body.w<=W) (λo Z aj m' h1 C l p r=>⟨o,Z,aj,rfl,⟨h1,C,y.types,V⟩,⟨It hk.iZ l p,l⟩,r⟩) λai M t aj aM μ au aP xM ac N aK=>?_
 let⟨q,hq⟩:=cG f ai au
 let⟨ay,aO,aE,hw⟩:=hk.dz q (aq hq)
 have v6:=u2.trans xM
 let⟨aU,aW,p,c1,c2,c3,e0,e1,e2,e3,e4⟩:=y.iX.aF hq
 have G:∀{am:Value}{p x:Nat},af e p x=some am->af M p x=some am:=λB=>v6.af B
 refine⟨V,V,_,G e0,_,G e1,_,G e2,_,G e3,_,G e4,?_⟩
 intro m7 l
 have hy:=ac.bn
 have aN:=N.lt
 have zM:=xM.size
 have x8:J M l:=(J.push M _).ah (ad _) _ _
 have s8:l.size=M.size+1:=by simp[l,m7,ax]
 clear_value l
 have F:∀c∈[M.size,j.size,e.size],c<l.size:=λc k=>by
  rcases List.mem_cons.1 k with h|h
  .omega
  .have:=U c h;omega
 have A:=v6.trans x8
 have r:∀{M1 M2:E},J l M1->J l M2->∀p,p<l.size->∀x,af M2 p x=af M1 p x:=λB h' p hb x=>aI (by rw[h'.same p hb,B.same p hb]) x
 have w:M.size<l.size:=V
 have X:s.size<l.size:=V
 let⟨ab,ah⟩:=cG H ai
 let⟨yt,aG,P⟩:=ag.aF ah
 have aF:=av ab (aq ah)
 have aR:=ag.len
 have T:∀{M':E},l.size<=M'.size->∀c∈t.D::s.size::j.size::b,c<M'.size:=λB c k=>by
  simp only[aV]at k;rcases k with h|h|h|h
  .omega
  .omega
  .have:=ae c (by simp[h]);omega
  .have:=ae c (by simp[h]);omega
 refine⟨t,(N.ext x8).cp 1,V,V,yt,A.af P,?_⟩
 refine(bN (t.D::s.size::j.size::b) (c1.ext A) V).aG (J.az l) F λp' _ m9 gp h o _=>⟨_,rfl,r (J.az _) o _ w _,r (J.az _) o _ w _,r (J.az _) o _ w _,((A.trans o).af P).trans (A.af P).symm,r (J.az _) o _ X _,?_⟩
 subst h
 refine(bN (t.D::s.size::j.size::b) (aG.ext (A.trans o)) V).aG o F λt' _ aH gt h an u=>⟨_,rfl,r o u _ w _,r o u _ w _,r o u _ w _,r o u _ X _,?_⟩
 subst h
 have z9:=o.size;have vH:=an.size
 refine(wy q.body (t.D::s.size::j.size::b) aH (T V) p (c3.le (A.trans u).le) V).aG u F λss b' ak aA h ao I=>⟨_,_,rfl,r u I _ w _,r u I _ X _,?_⟩
 subst h
 intro aT
 have aa:=x8.trans I
 have aX:=I.size
 have aw:ap (bH (t.D::s.size::j.size::b) ak) p' q.params:=(gp.done (T V) V).le ((an.trans ao).dg _)
 have aD:ap (bH (t.D::s.size::j.size::b) ak) t' ab:=(gt.done (T V) V).le (ao.dg _)
 exact Gr.box (g:=[.s .nil,.s .nil,.i 0,.s .nil,.i 0]) (j:=1) (y:=88) (i:=[.s dd,.s t]) (w:=⟨q.params,ab,q.aU,q.body⟩) iU.mono bh (ac.ext iU.mono aa) ((xM.trans aa).fz []) ⟨p',t',ss,rfl,aw,aD,aA⟩ V (N.ext aa) aL bh ⟨V,aL⟩ (λc k=>by have h1:=F c k;have C:=U c;simp only[aV]at k C;rcases k with h|h|h|h<;>first|omega|(have:=C (by simp[h]);omega)|simp at h) λZ m' g' C f' z' q'=>aK Z m' _ g' C f'.ext ⟨ay,aF,aE,hw⟩
def Ko(hS:∀c∈b,c<e.size){A:List bz}(Z:eN e d g A f)(hW:W<=1000000)(hk:yD A f c W):va 238 [.agg #[O.v d,O.v g]] e b A λt=>yD A t c W:=by
 apply De;simp -zeta only[aC,aB];intro i a2;let⟨x2,G⟩:=dD (a:=i) (c:=a2) rfl rfl;have s1:i.size=e.size+1:=by simp[i]
 have s2:a2.size=e.size+2:=by simp[a2,s1]
 clear_value a2;have aG:=Z.iX.len;have aE:=Z.oG;have aj:∀c∈i.size::b,c<a2.size:=bO hS x2.size (G _ aL);have p:∀{M q:E},J a2 M->J a2 q->∀ac,af q e.size ac=af M e.size ac:=λu h' ac=>aI (by rw[h'.same _ (G _ aL),u.same _ (G _ aL)]) ac;have tail:∀(Q:E)(a:Nat)(z y:O)(C:List gR),J a2 Q->a2.size<=a->cF Q a nm [.s z,.s y]->eN (bH (a::i.size::b) Q) z y A C->yD A C c W->
  ∃(I0:Int->E->Prop)(μ0:Int->E->Nat),I0 (0:Int) Q/\(∀(l:Int)(v:E),I0 l v->
   ((decide (l<=(12:Int)))=true->
    let U:E:=v.push (.cells (bu []) yd)
    ∃(w:O->Int->E->Prop)(μ1:O->Int->E->Nat),w (O.mk v.size 0 0 0) (0:Int) U/\(∀(s:O)(x:Int)(h:E),w s x h->
     ∃D:O,af h a 1=some (O.v D)/\
     ((decide (x<(D.len:Int)))=true->∃j:O,af h a 0=some (O.v j)/\∃k:O,af h a 1=some (O.v k)/\
      aN cg 254 [.agg #[O.v j,O.v k],vi x] h λY P=>eI [i.size,e.size] h P/\∃aa:O,Y=O.v aa/\
       let ae:E:=P.push (.cells (bu [.s aa]) yd)
       jN ae yd [.s O.nil] 24 s (O.mk P.size 0 1 1) λF B=>eI [i.size,e.size] ae B/\w F (cU (x+(1:Int))) B/\μ1 F (cU (x+(1:Int))) B<μ1 s x h)/\
     ((decide (x<(D.len:Int)))=false->∃j:O,af h a 0=some (O.v j)/\∃k:O,af h a 1=some (O.v k)/\
      aN cg 252 [.agg #[O.v j,O.v k],O.v s] h λH I=>eI [i.size,e.size] h I/\∃B:O,∃F:O,H=.agg #[O.v B,O.v F]/\fL I a 0 2/\
       let L:E:=ah I a 0 [.s B,.s F]
       eI [i.size,e.size] I L/\I0 (cU (l+(1:Int))) L/\μ0 (cU (l+(1:Int))) L<μ0 l v)))/\
   ((decide (l<=(12:Int)))=false->∃j:O,af v a 0=some (O.v j)/\∃k:O,af v a 1=some (O.v k)/\
    let ag:E:=ah v i.size 0 [.s j,.s k]
    ∃d g t,Value.agg #[O.v j,O.v k]=.agg #[O.v d,O.v g]/\eN (bH b ag) d g A t/\yD A t c W/\J e ag)):=by
  intro Q a z y C T au hB hN R
  refine dV (n:=13) V (λ_ M=>J a2 M/\∃z y C,cF M a nm [.s z,.s y]/\eN (bH (a::i.size::b) M) z y A C/\yD A C c W) ⟨T,z,y,C,hB,hN,R⟩ ?_
  rintro aJ v az μ aD ⟨x6,z,y,C,H,N,K⟩ ay
  have aA:=H.lt
  have aH:=N.iX.len
  have aF:=N.oG
  refine⟨λu=>?_,λu=>?_⟩
  .simp only[ar]at u
   intro U
   have ao:J v U:=J.push _ _
   have g0:ZB [] v U (.mk v.size 0 0 0) []:=Gr.new _ (ad _) _ _ _
   refine eu (n:=C.length) V (λx s M=>J v M/\∃l,ZB [] v M s l/\l.length=x/\∀c∈l,c.length<=3) ⟨ao,[],g0,rfl,aL⟩ ?_
   rintro x s h I2 μ2 hf ⟨D,l,ab,ap,B⟩ am
   have u8:=x6.trans D
   have N8:=N.le (D.dg _)
   refine⟨y,(H.ext D).cp 1,dit (λF=>?_) λF=>?_⟩
   .let⟨X,hq⟩:=cG C x
    have an:=(K.dz X (aq hq)).2.1
    have j:=ab.bn
    refine⟨z,(H.ext D).cp 0,y,(H.ext D).cp 1,?_⟩
    refine(Kj (e:=[s.D]) bF (N8.le (bA _ _)) K hq).aG u8 G λaa av P ak aw x9 u9=>⟨_,rfl,?_⟩
    intro ae
    refine Gr.kM (g:=[.s .nil]) mS.mono bh (ab.ext mS.mono x9) ((D.trans x9).fz []) ⟨aa,rfl,ak.done bF V⟩ V λw q g' k _ _=>⟨J.oK (u9.aK _) (x6.trans k.ext) G,am V _ _ ⟨k.ext,_,g',bF,λal j=>?_⟩⟩
    rcases List.mem_append.1 j with j|j
    .exact B al j
    .simp at j;subst j;omega
   .refine⟨z,(H.ext D).cp 0,y,(H.ext D).cp 1,?_⟩
    have ak:pp h s l:=eR.le (ab.done mS.mono aL bh V) (bA _ _) (mS.le (bA _ _))
    have z8:=D.size;have z6:=x6.size
    refine(yA (b:=a::i.size::b) (λc k=>?_) (N8.le (bA _ _)) hW K ak V B).mono λ_ I⟨d2,Y,an,j,N2,⟨K2,_⟩,aa⟩=>?_
    .rcases List.mem_cons.1 k with j|j
     .omega
     .have:=aj c j;omega
    subst j
    have ae:=(H.ext D).ext aa
    refine⟨u8.VC G aa,_,_,rfl,ae.fL aL,?_⟩
    intro L
    have al:∀P,P≠a->L[P]? =I[P]? :=λP hb=>be _ _ _ _ hb
    refine⟨λc k=>al c (oh (G c k)),ay V _ ⟨(u8.trans aa).ah au _ _,d2,Y,an,cF.ah (m:=I) (o:=0) (r:=[.s d2,.s Y]) ae,N2.le (cB aL λ_ u=>u),K2⟩⟩
  .refine⟨z,H.cp 0,y,H.cp 1,?_⟩
   intro ag
   exact⟨z,y,C,rfl,(N.le (iV v λc k=>ai _ k)).le (cB aL λc k=>ai _ k),K,(x2.trans x6).ah V _ _⟩
 have av:∀X∈f,X.params.length<=3:=λX hq=>(hk.dz X hq).1;have al:∀(M:E)(L:List Nat)(K:Value->E->Prop),J a2 M->(∀c∈L,c<M.size)->(∀s l q,pp q s l->l.length=f.length->(∀c∈l,c.length<=3)->J M q->K (O.v s) q)->aN cg 253 [.agg #[O.v d,O.v g]] M λak U=>eI L M U/\K ak U:=λM L K T hL R=>
  (GU (e:=[]) aL (Z.le (x2.trans T).le) av).mono λ_ q⟨s,l,j,I,F,B,Y⟩=>⟨Y.dv hL,j▸R s l q (eR.le I (bA _ _) (mS.le (bA _ _))) F B Y⟩
 have cW:∀(M:E)(S' L:List Nat)(K:Value->E->Prop)(s:O)(l:List (List Int)),J a2 M->(∀c∈L,c<M.size)->(∀c∈S',c<M.size)->pp M s l->l.length=f.length->(∀c∈l,c.length<=3)->(∀x w t q,eN (bH S' q) x w A t->yD A t c W->J M q->K (.agg #[O.v x,O.v w]) q)->aN cg 252 [.agg #[O.v d,O.v g],O.v s] M λak U=>eI L M U/\K ak U:=λM S' L K s l T hL ap I F B R=>
  (yA ap (Z.le (x2.trans T).le) hW hk I F B).mono λ_ q⟨x,w,t,j,N,⟨K1,_⟩,Y⟩=>⟨Y.dv hL,j▸R x w t q N K1 Y⟩
 have am:∀{M:E}{a:Nat},J a2 M->a<M.size->∀c∈a::i.size::b,c<M.size:=λu hb c k=>by
  have:=u.size;rcases List.mem_cons.1 k with j|j
  .omega
  .have:=aj c j;omega
 have ag:∀{M:E}{a:Nat},J a2 M->a<M.size->∀c∈[a,i.size,e.size],c<M.size:=λu hb c k=>by
  rcases List.mem_cons.1 k with j|j
  .omega
  .exact u.lt (G c j)
 refine⟨al a2 _ _ (J.az _) G λs l ab I F B h=>⟨_,rfl,p (J.az _) h _,p (J.az _) h _,⟨?_,?_⟩⟩,?_⟩
 .refine cW ab (i.size::b) _ _ s l h (λc k=>h.lt (G c k)) (λc k=>h.lt (aj c k)) I F B λx w t m3 N K P=>⟨_,_,rfl,?_⟩;have D:=h.trans P;intro m4;have u4:J a2 m4:=D.aK _;refine⟨p D u4 _,p D u4 _,p D u4 _,p D u4 _,?_⟩;intro m5;have aa:J m3 m5:=(J.push m3 _).ah (ad _) _ _;exact tail m5 m3.size x w t (D.trans aa) D.size (cF.ah (m:=m4) (o:=0) (r:=[.s x,.s w]) (cF.push m3 _ _)) (N.le (aa.bH λc k=>by
   rcases List.mem_cons.1 k with j|j
   .exact Or.inr V
   .exact Or.inl j)) K
 .intro aa;have D:J a2 aa:=h.aK _;refine⟨p h D _,p h D _,p h D _,p h D _,?_⟩;refine cW aa (ab.size::i.size::b) _ _ s l D (ag D (by simp[aa])) (am D (by simp[aa])) (pp.ext (J.push _ _) I) F B λx w t ae N K P=>⟨_,_,rfl,?_⟩;intro an;exact tail an ab.size x w t ((D.trans P).ah h.size _ _) h.size (cF.ah (m:=ae) (o:=0) (r:=[.s x,.s w]) ((cF.push ab _ _).ext P)) (N.le (cB aL λ_ u=>u)) K
 .intro aa;have D:J a2 aa:=J.push _ _;refine⟨p (J.az _) D _,p (J.az _) D _,p (J.az _) D _,p (J.az _) D _,?_⟩;refine al aa _ _ D (ag D (by simp[aa])) λs l ao I F B h=>⟨_,rfl,p D (D.trans h) _,p D (D.trans h) _,?_⟩;have ae:=D.trans h;have an:a2.size<ao.size:=h.lt (by simp[aa]);refine cW ao (a2.size::i.size::b) _ _ s l ae (ag ae an) (am ae an) I F B λx w t aw N K P=>⟨_,_,rfl,?_⟩;intro ax;exact tail ax a2.size x w t ((ae.trans P).ah (ad _) _ _) (ad _) (cF.ah (m:=aw) (o:=0) (r:=[.s x,.s w]) ((cF.push a2 _ _).ext (h.trans P))) (N.le (cB aL λ_ u=>u)) K
end
section
variable{w:Int}{r:List Int}
structure bE where
 aQ:Int
 j9:Int
 aE:List Int
structure aX where
 fG:Int
 pc:Int
 dst:Int
 ak:List Int
 aR:List Int
 ba:List Int
structure St where
 cv:Int
 value:Int
 br:Int
 dT:Int
 aS:List Int
 heap:List bE
 ao:List aX
def aF(l:List Int)(i:Int):Int:=l.getD i.toNat 0
def gT(l:List Int)(i:Int)(v:Int):List Int:=l.set i.toNat v
def ix(w:Int):Nat:=(w -1000).toNat
def gN(w:Int):Prop:=-999<=w/\w<=999
def fj(h:List bE)(a:Nat):Prop:=∃c,h[a]? =some c/\0<c.aQ
def fY(h:List bE)(w:Int):Prop:=1000<=w/\fj h (ix w)
def qE(h:List bE)(w:Int):Prop:=gN w\/fY h w
def jd:bE:=⟨0,0,[]⟩
def aM(h:List bE)(w:Int):bE:=(h[ix w]?).getD jd
def aad:dy:=⟨[],[],0,0,[]⟩
def dO(a:cQ)(n:Int):dy:=(a.cJ[n.toNat]?).getD aad
def cr(a:cQ):Int:=(eW a.bo).length
def eC:List Int->Nat->Int
 |[],_=>0
 |w::b,a=>(if w=1000+(a:Int)then 1 else 0)+eC b a
def ez:List bE->Nat->Int
 |[],_=>0
 |c::h,a=>eC c.aE a+ez h a
def df:List Int->List Int->Nat->Int
 |r::c,o::b,a=>(if r=1000+(a:Int)then o else 0)+df c b a
 |_,_,_=>0
def fC:List aX->Nat->Int
 |[],_=>0
 |f::b,a=>df f.ak f.aR a+fC b a
def dG:List aX->Nat->Int
 |[],_=>0
 |f::b,a=>eC f.ba a+dG b a
def nC(a:cQ)(x:Instr)(k:Nat):Bool:=(dO a x.bP).cW.any (λy=>y==(k:Int))
def iG(a:cQ)(x:Instr):Nat->List Int->List Int
 |_,[]=>[]
 |k,r::b=>if nC a x k then iG a x (k+1) b else r::iG a x (k+1) b
def fI(a:cQ)(x:Instr):Nat->List Int->List Int
 |_,[]=>[]
 |k,r::b=>if nC a x k then r::fI a x (k+1) b else fI a x (k+1) b
def bU(a:cQ)(x:Instr):List Int:=
 if x.op=15\/x.op=6\/x.op=10\/x.op=11\/x.op=18\/x.op=23 then x.args
 else if x.op=16\/x.op=17 then x.args.take 1
 else if x.op=9\/x.op=24 then iG a x 0 x.args
 else[]
def bD(ak aR:List Int):List Int->List Int
 |[]=>aR
 |r::a=>bD ak (if 1000<=aF ak r then gT aR r (aF aR r -1)else aR) a
def cN(f:aX)(a:List Int):List Int:=a.map (aF f.ak)
def kW(l:List Int):List Int:=l.filter (λw=>decide (1000<=w))
def lp(h:List bE)(a:List Int):Prop:=∀w∈a,1000<=w->(aM h w).aQ+eC a (ix w)<=999999
def FH(h:List bE)(f:aX)(x:Instr):Prop:=
 let w:=aF f.ak (aF x.args 0)
 fY h w/\kW (aM h w).aE=cN f (x.args.drop 1)/\((aM h w).aQ=1\/lp h (aM h w).aE)/\(x.op=17->aF f.ba (aF x.args 0)=0)
def vK(a:cQ)(h:List bE)(w:Int):Prop:=
 fY h w/\0<=(aM h w).j9 -cr a/\(aM h w).j9 -cr a<a.cJ.length/\
  (dO a ((aM h w).j9 -cr a)).params.length=(aM h w).aE.length+1/\(dO a ((aM h w).j9 -cr a)).cW.length=0/\
  ((aM h w).aQ=1\/lp h (aM h w).aE)
def FI(h:List bE)(f:aX)(x:Instr):Prop:=
 x.bY≠0->aF f.ba (x.bY -1)≠0->(aM h (aF f.ba (x.bY -1))).aE.length=x.args.length
def KU(a:cQ)(h:List bE)(f:aX)(x:Instr):Prop:=∀r∈fI a x 0 x.args,1000<=aF f.ak r->fY h (aF f.ak r)
def SH(l:List Int):Prop:=∀n∈l,n=0
structure kv(im:cQ)(s:St)(f:aX)(x:Instr)(aR:List Int):Prop where
 nn:∀o∈aR,0<=o
 dst:lR x.op->aF aR x.dst<=0
 nM:(x.op=1\/x.op=2\/x.op=3\/x.op=4\/x.op=5\/x.op=20)->∀r∈x.args,aF f.ak r<1000
 iP:x.op=6->FI s.heap f x
 cW:(x.op=9\/x.op=24)->KU im s.heap f x
 zero:(x.op=24\/x.op=23)->SH aR/\SH f.ba
 ret:x.op=23->1<s.ao.length\/aF f.ak (aF x.args 0)<1000
 apply:x.op=11->vK im s.heap (aF f.ak (aF x.args 0))
 VS:x.op=14->fY s.heap (aF f.ak (aF x.args 0))/\(aM s.heap (aF f.ak (aF x.args 0))).aQ<999999
 drop:x.op=15->1000<=aF f.ak (aF x.args 0)
 JN:(x.op=16\/x.op=17)->FH s.heap f x
 load:x.op=19->fY s.heap (aF f.ak (aF x.args 0))/\x.bP<(aM s.heap (aF f.ak (aF x.args 0))).aE.length
 Fx:x.op=21->fY s.heap (aF f.ak (aF x.args 0))/\(aM s.heap (aF f.ak (aF x.args 0))).j9∈cA im.bo x.bP
def FU(n:Int):Int:=if n< -999 then -999 else if 999<n then 999 else n
def Pd(c a b:Int):Int:=
 if c=1 then FU (a+b)else if c=2 then FU (a -b)else if c=3 then FU (a*b)else if c=4/\a<b then 1 else 0
def dF:List bE->Nat
 |[]=>0
 |c::h=>if c.aQ=0 then 0 else dF h+1
def iP(h:List bE)(a:Nat)(c:bE):List bE:=if a=h.length then h++[c]else h.set a c
def mO(h:List bE)(w:Int):List bE:=h.set (ix w) {aM h w with aQ:=(aM h w).aQ+1}
def fq(h:List bE)(w:Int):List bE:=h.set (ix w) {aM h w with aQ:=(aM h w).aQ -1}
def jg(h:List bE):List Int->List bE
 |[]=>h
 |w::a=>jg (mO h w) a
def jq(h:List bE):Nat->Nat
 |0=>0
 |n+1=>match h[n]? with
  |some c=>if c.aQ=0 then jq h n else n+1
  |none=>jq h n
def nl(h:List bE):List bE:=h.take (jq h h.length)
def Cv:List bE->Nat
 |[]=>0
 |c::h=>(if 0<c.aQ then c.aQ.toNat+c.aE.length else 0)+Cv h
def kA:∀{e:List bE}{f:Nat}{b d:bE},e[f]? =some b->Cv (e.set f d)+(if 0<b.aQ then b.aQ.toNat+b.aE.length else 0)=Cv e+(if 0<d.aQ then d.aQ.toNat+d.aE.length else 0)
 |[],f,b,d,e=>by simp at e
 |i::e,0,b,d,g=>by simp at g;subst g;simp only[gE,Cv];omega
 |i::e,f+1,b,d,g=>by
  have:=kA (e:=e) (f:=f) (b:=b) (d:=d) (by simpa using g);simp only[iB,Cv];omega
def bS{h:List bE}(b:fY h w):h[ix w]? =some (aM h w)/\0<(aM h w).aQ:=by
 obtain⟨_,d,a,c⟩:=b;simp[aM,a,c]
open Classical in
noncomputable def gV (h:List bE) (c:List Int):List bE:=
 match c with
 |[]=>h
 |w::r=>
  if b:fY h w then
   if a:(aM h w).aQ=1 then gV (h.set (ix w) jd) ((aM h w).aE.reverse++r)
   else gV (fq h w) r
  else gV h r
termination_by Cv h+c.length
decreasing_by
 .let⟨e,a⟩:=bS b
  have:=kA (d:=jd) e
  simp only[jd,an a]at this
  simp[jd]
  simp at this
  omega
 .let⟨e,a⟩:=bS b
  have b:=kA (d:={aM h w with aQ:=(aM h w).aQ -1}) e
  simp only[an a]at b
  rw[an V]at b
  simp[fq]
  omega
 .simp
def sX(h:List bE):gV h []=h:=by rw[gV]
def sY{h:List bE}(b:fY h w)(a:(aM h w).aQ=1):gV h (w::r)=gV (h.set (ix w) jd) ((aM h w).aE.reverse++r):=by
 rw[gV,Tt b,Tt a]
def qv{h:List bE}(b:fY h w)(a:(aM h w).aQ≠1):gV h (w::r)=gV (fq h w) r:=by
 rw[gV,Tt b,dif_neg a]
def qx{h:List bE}(a:¬fY h w):gV h (w::r)=gV h r:=by
 rw[gV,dif_neg a]
def aX.put(f:aX)(r w o:Int):aX:={f with ak:=gT f.ak r w,aR:=gT f.aR r o}
def gJ(w:Int):Int:=if 1000<=w then 1 else 0
def dE(aR:List Int):List Int->List Int
 |[]=>aR
 |r::a=>dE (gT aR r (aF aR r+1)) a
def dk(n:Nat):List Int:=List.replicate n 0
def dL(cW:List Int):Nat->List Int->List Int
 |_,[]=>[]
 |k,w::a=>(if cW.any (λy=>y==(k:Int))then 0 else gJ w)::dL cW (k+1) a
def bX(a:cQ)(g c:Int)(b:List Int):aX:=
 ⟨g,0,c,b++dk ((dO a g).ak.toNat -b.length),dL (dO a g).cW 0 b++dk ((dO a g).ak.toNat -b.length),dk (dO a g).ak.toNat⟩
open Classical in
noncomputable def apart (h:List bE) (w:Int):List bE:=
 if(aM h w).aQ=1 then nl (h.set (ix w) jd)else jg (fq h w) (kW (aM h w).aE)
def tn(l:List Int)(n:Int):Nat:=l.findIdx (λy=>y==n)
open Classical in
noncomputable def eD (b:cQ) (s:St) (a:List aX) (f:aX) (x:Instr) (aR:List Int):St:=
 let g:aX:={f with aR:=aR,pc:=f.pc+1}
 let c:=aF x.args 0
 let w:=aF f.ak c
 if x.op=0 then{s with ao:=a++[g.put x.dst x.bP 0]}
 else if x.op=1\/x.op=2\/x.op=3\/x.op=4 then{s with ao:=a++[g.put x.dst (Pd x.op w (aF f.ak (aF x.args 1))) 0]}
 else if x.op=5 then{s with aS:=s.aS++[w],ao:=a++[g.put x.dst w 0]}
 else if x.op=6 then
  if x.bY≠0/\aF f.ba (x.bY -1)≠0 then
   {s with heap:=s.heap.set (ix (aF f.ba (x.bY -1))) ⟨1,x.bP,cN f x.args⟩,ao:=a++[{g with ba:=gT f.ba (x.bY -1) 0}.put x.dst (aF f.ba (x.bY -1)) 1]}
  else{s with heap:=iP s.heap (dF s.heap) ⟨1,x.bP,cN f x.args⟩,ao:=a++[g.put x.dst (1000+dF s.heap) 1]}
 else if x.op=10 then{s with heap:=iP s.heap (dF s.heap) ⟨1,cr b+x.bP,cN f x.args⟩,ao:=a++[g.put x.dst (1000+dF s.heap) 1]}
 else if x.op=14 then{s with heap:=mO s.heap w,ao:=a++[{g with aR:=gT aR c (aF aR c+1)}]}
 else if x.op=15 then{s with heap:=nl (gV s.heap [w]),ao:=a++[g]}
 else if x.op=16\/x.op=17 then
  let d:={g with aR:=dE aR (x.args.drop 1)}
  if(aM s.heap w).aQ=1/\x.op=17 then{s with heap:=s.heap.set (ix w) ⟨-1,0,dk (aM s.heap w).aE.length⟩,ao:=a++[{d with ba:=gT f.ba c w}]}
  else{s with heap:=apart s.heap w,ao:=a++[d]}
 else if x.op=18 then{s with ao:=a++[g.put x.dst w (gJ w)]}
 else if x.op=19 then{s with ao:=a++[g.put x.dst (aF (aM s.heap w).aE x.bP) 0]}
 else if x.op=20 then{s with ao:=a++[{g with pc:=if w=0 then x.bP else f.pc+1}]}
 else if x.op=21 then{s with ao:=a++[{g with pc:=aF x.eO (tn (cA b.bo x.bP) (aM s.heap w).j9)}]}
 else if x.op=22 then{s with ao:=a++[{g with pc:=x.bP}]}
 else if x.op=9 then{s with br:=s.br+1,ao:=a++[g,bX b x.bP x.dst (cN f x.args)]}
 else if x.op=24 then{s with br:=s.br+1,ao:=a++[bX b x.bP f.dst (cN f x.args)]}
 else if x.op=11 then
  {s with br:=s.br+1,heap:=apart s.heap w,ao:=a++[g,bX b ((aM s.heap w).j9 -cr b) x.dst ((aM s.heap w).aE++[aF f.ak (aF x.args 1)])]}
 else -- 23
  match a.getLast? with
  |none=>{s with cv:=0,value:=w,ao:=[]}
  |some p=>{s with ao:=a.dropLast++[p.put f.dst w (gJ w)]}
def mX(a:Int):Prop:=a=9\/a=11\/a=24
instance(a:Int):Decidable (mX a):=by unfold mX;infer_instance
def eA(a:cQ)(f:aX):Instr:=((dO a f.fG).dt[f.pc.toNat]?).getD ⟨0,0,0,0,[],[]⟩
open Classical in
noncomputable def kY (a:cQ) (s:St):St:=
 if s.cv≠3 then s else
 match s.ao.getLast? with
 |none=>s
 |some f=>
  if mX (eA a f).op/\s.br=s.dT then{s with cv:=1}
  else if kv a s f (eA a f) (bD f.ak f.aR (bU a (eA a f)))then
   eD a s s.ao.dropLast f (eA a f) (bD f.ak f.aR (bU a (eA a f)))
  else{s with cv:=2}
end
section
variable{f b:Nat}{h g:List bE}{e e':Nat->Int}{w:Int}{c d:bE}
def lU:∀(l r:List Int)(f:Nat),eC (l++r) f=eC l f+eC r f
 |[],r,f=>by simp[eC]
 |w::l,r,f=>by simp only[cX,eC,lU l r f];omega
def Ap:∀(l:List Int)(f:Nat),eC l.reverse f=eC l f
 |[],f=>rfl
 |w::l,f=>by simp only[QN,lU,Ap l f,eC];omega
def iF:∀(l:List Int)(f:Nat),0<=eC l f
 |[],f=>by simp[eC]
 |w::l,f=>by have:=iF l f;simp only[eC];split<;>omega
def nP:∀{l:List Int}{f:Nat},(1000+(f:Int))∉l->eC l f=0
 |[],f,_=>rfl
 |w::l,f,h=>by
  simp only[aV,vG]at h;simp only[eC,nP h.2];rw[ae (λe=>h.1 e.symm)];rfl
def uJ:∀{l:List Int}{f:Nat},(1000+(f:Int))∈l->1<=eC l f
 |[],f,h=>by simp at h
 |w::l,f,h=>by
  simp only[eC];rcases List.mem_cons.1 h with rfl|h
  .rw[an rfl];have:=iF l f;omega
  .have:=uJ h;split<;>omega
def Pa{l:List Int}(h:0<eC l f):(1000+(f:Int))∈l:=
 dQ λa=>by rw[nP a]at h;omega
def Tc(n:Nat)(f:Nat):eC (dk n) f=0:=nP λh=>by have:=VN h;omega
def wi:∀(l:List Int)(f:Nat),eC (kW l) f=eC l f
 |[],f=>rfl
 |w::l,f=>by
  have:=wi l f;simp only[kW]at this⊢;rw[List.filter_cons];split
  .simp only[eC,this]
  .rename_i h;simp only[eC,this];rw[ae (λe=>h bF)];omega
def kC:∀(l:List Int)(f:Nat),eC l f<=l.length
 |[],f=>by simp[eC]
 |w::l,f=>by have:=kC l f;simp only[eC,aY];split<;>omega
def uL:∀(h k:List bE)(f:Nat),ez (h++k) f=ez h f+ez k f
 |[],k,f=>by simp[ez]
 |c::h,k,f=>by simp only[cX,ez,uL h k f];omega
def qW:∀(h:List bE)(f:Nat),0<=ez h f
 |[],f=>by simp[ez]
 |c::h,f=>by have:=qW h f;have:=iF c.aE f;simp only[ez];omega
def Av:∀{h:List bE}{f:Nat}{c:bE}(e:bE)(_:h[f]? =some c)(b:Nat),ez (h.set f e) b=ez h b -eC c.aE b+eC e.aE b
 |[],f,c,e,h,b=>by simp at h
 |d::h,0,c,e,g,b=>by simp at g;subst g;simp only[gE,ez];omega
 |d::h,f+1,c,e,g,b=>by
  have:=Av (h:=h) (f:=f) e (by simpa using g) b;simp only[iB,ez,this];omega
def Mb:∀{h:List bE}{f:Nat},0<ez h f->∃c∈h,(1000+(f:Int))∈c.aE
 |[],f,h=>by simp[ez]at h
 |c::h,f,e=>by
  simp only[ez]at e;rcases dR (0<eC c.aE f)with b|b
  .exact⟨c,bg,Pa b⟩
  .let⟨d,hd,g⟩:=Mb (h:=h) (f:=f) (oh (iF c.aE f));exact⟨d,ai _ hd,g⟩
def Su:∀{h:List bE}{c:bE}(_:c∈h)(f:Nat),eC c.aE f<=ez h f
 |[],c,a,f=>by simp at a
 |d::h,c,a,f=>by
  simp only[ez];rcases List.mem_cons.1 a with rfl|a
  .have:=qW h f;omega
  .have:=Su a f;have:=iF d.aE f;omega
structure oB(h:List bE)(c:bE):Prop where
 fl:c.aE.length<=3
 lo: -1<=c.aQ
 hi:c.aQ<=999999
 wZ:c.aQ<1->c.j9=0/\(∀w∈c.aE,w=0)/\(c.aQ=0->c.aE=[])
 oT:0<c.aQ->(∀w∈c.aE,qE h w)/\0<=c.j9/\c.j9<=99
def Tu(h:List bE):Prop:=∃a:Nat->Nat,∀(i:Nat)(c:bE),h[i]? =some c->∀w∈c.aE,1000<=w->a (ix w)<a i
structure fO(h:List bE)(e:Nat->Int):Prop where
 cell:∀c∈h,oB h c
 MV:Tu h
 ex:∀(f:Nat)(c:bE),h[f]? =some c->0<c.aQ->c.aQ=ez h f+e f
 nn:∀f,0<=e f
 lv:∀f,0<e f->fj h f
def fO.congr(c:fO h e)(a:∀b,e' b=e b):fO h e':=by
 have:e'=e:=funext a;rw[this];exact c
def lB(f:Nat):ix (1000+(f:Int))=f:=by unfold ix;omega
def iv(h:1000<=w):1000+((ix w:Nat):Int)=w:=by unfold ix;omega
def Rn{v:Int}(a:1000<=v)(b:1000<=w)(h:ix v=ix w):v=w:=by rw[<-iv a,<-iv b,h]
def fO.field(i:fO h e)(g:c∈h)(f:w∈c.aE)(j:1000<=w):fY h w:=by
 have d:=i.cell c g;rcases dR (0<c.aQ)with b|b
 .rcases(d.oT b).1 w f with a|a
  .have:=a.2;omega
  .exact a
 .have:=(d.wZ V).2.1 w f;omega
def fO.Xz(d:fO h e)(g:¬fj h f):ez h f=0:=by
 rcases dR (0<ez h f)with a|a
 .let⟨c,b,i⟩:=Mb a;have:=(d.field b i V).2;rw[lB]at this;exact absurd this g
 .have:=qW h f;omega
def fO.YU(a:fO h e)(c:¬fj h f):e f=0:=by
 have:=a.nn f;rcases dR (0<e f)with b|b
 .exact absurd (a.lv f b) c
 .omega
def iE(a:b≠f):(h.set f c)[b]? =h[b]? :=by rw[cw (λe=>a e.symm)]
def eL(hd:h[f]? =some d):(h.set f c)[f]? =some c:=by
 rw[dx (aw hd)]
def fj.ne(a:b≠f):fj (h.set f c) b<->fj h b:=by unfold fj;rw[iE a]
def fj.yQ(hd:h[f]? =some d):fj (h.set f c) f<->0<c.aQ:=by
 unfold fj;rw[eL hd];simp
def qE.mono(c:qE h w)(b:1000<=w->fj h (ix w)->fj g (ix w)):qE g w:=by
 rcases c with a|a
 .exact Or.inl a
 .exact Or.inr ⟨a.1,b a.1 a.2⟩
def oB.mono{h g:List bE}{c:bE}(a:oB h c)(e:0<c.aQ->∀w∈c.aE,1000<=w->fj h (ix w)->fj g (ix w)):oB g c:=
 ⟨a.fl,a.lo,a.hi,a.wZ,λb=>⟨λw d=>((a.oT b).1 w d).mono (e b w d),(a.oT b).2⟩⟩
def nO{x:bE}(i:x∈h.set f c):x=c\/∃b,b≠f/\h[b]? =some x:=by
 let⟨b,a⟩:=List.mem_iff_getElem?.1 i;by_cases e:b=f
 .subst e;rw[List.getElem?_set_self']at a;cases g:h[b]? with
  |none=>simp[g]at a
  |some d=>simp[g]at a;exact Or.inl a.symm
 .rw[iE e]at a;exact Or.inr ⟨b,e,a⟩
def fO.KL(j:fO h e)(g:h[f]? =some c)(i:0<c.aQ){n:Int}(v:0<n)(u:n<=999999)
 (m:∀b,e' b=e b+if b=f then n -c.aQ else 0)(s:0<=e' f):fO (h.set f {c with aQ:=n}) e':=by
 have p:∀b,fj (h.set f {c with aQ:=n}) b<->fj h b:=λb=>by
  by_cases a:b=f
  .subst a;rw[fj.yQ g];exact⟨λ_=>⟨c,g,i⟩,λ_=>v⟩
  .exact fj.ne a
 have x:∀b,ez (h.set f {c with aQ:=n}) b=ez h b:=λb=>by rw[Av _ g];simp only[];omega
 refine⟨λA y=>?_,?_,λb d hd t=>?_,λb=>?_,λb l=>?_⟩
 .rcases nO y with rfl|⟨b,_,l⟩
  .have q:=j.cell c (aq g)
   exact⟨q.fl,by simp only[];omega,u,λr=>by simp only[]at r;omega,λ_=>⟨λw k=>((q.oT i).1 w k).mono λ_ o=>(p _).2 o,(q.oT i).2⟩⟩
  .exact(j.cell A (aq l)).mono λ_ w _ _ o=>(p _).2 o
 .let⟨z,r⟩:=j.MV
  refine⟨z,λo d hd w k i=>?_⟩
  by_cases q:o=f
  .subst q;rw[eL g]at hd;simp at hd;subst hd;exact r o c g w k i
  .rw[iE q]at hd;exact r o d hd w k i
 .rw[x,m]
  by_cases a:b=f
  .subst a;rw[eL g]at hd;simp at hd;subst hd
   have:=j.ex b c g i
   simp only[an];omega
  .rw[iE a]at hd
   have:=j.ex b d hd t
   rw[ae a];omega
 .by_cases a:b=f
  .subst a;exact s
  .rw[m,ae a];have:=j.nn b;omega
 .rw[p]
  by_cases a:b=f
  .subst a;exact⟨c,g,i⟩
  .rw[m,ae a]at l;exact j.lv b V
def fO.Rk(j:fO h e)(m:h[f]? =some c)(I:c.aQ=1)(J:0<e f){c':bE}(C: -1<=c'.aQ)(L:c'.aQ<1)(G:c'.j9=0)
 (r:∀w∈c'.aE,w=0)(B:c'.aE.length<=3)(A:c'.aQ=0->c'.aE=[])
 (p:∀b,e' b=e b -(if b=f then 1 else 0)+eC c.aE b):fO (h.set f c') e':=by
 have o:=j.ex f c m V
 have O:=qW h f
 have N:ez h f=0:=V
 have K:e f=1:=V
 have u:∀x∈h,(1000+(f:Int))∉x.aE:=λx o g=>by
  have:=Su o f;have:=uJ g;omega
 have M:eC c.aE f=0:=nP (u c (aq m))
 have E:∀b,eC c'.aE b=0:=λb=>nP λg=>by have:=r _ g;omega
 have t:∀b,b≠f->fj h b->fj (h.set f c') b:=λb i q=>(fj.ne i).2 q
 have D:∀x∈h,∀w∈x.aE,1000<=w->ix w≠f:=λx o w g n y=>by
  have:=iv n;rw[y]at this;rw[<-this]at g;exact u x o g
 refine⟨λx o=>?_,?_,λb d hd z=>?_,λb=>?_,λb k=>?_⟩
 .rcases nO o with rfl|⟨b,_,k⟩
  .exact⟨B,C,V,λ_=>⟨G,r,A⟩,λn=>V⟩
  .exact(j.cell x (aq k)).mono λ_ w g n q=>t _ (D x (aq k) w g n) q
 .let⟨H,F⟩:=j.MV
  refine⟨H,λv d hd w g n=>?_⟩
  by_cases s:v=f
  .subst s;rw[eL m]at hd;simp at hd;subst hd;have:=r w g;omega
  .rw[iE s]at hd;exact F v d hd w g n
 .rw[Av _ m,E,p]
  by_cases i:b=f
  .subst i;rw[eL m]at hd;simp at hd;subst hd;omega
  .rw[iE i]at hd
   have:=j.ex b d hd z
   rw[ae i];omega
 .rw[p]
  have:=j.nn b
  have:=iF c.aE b
  split
  .rename_i i;subst i;omega
  .omega
 .rw[p]at k
  by_cases i:b=f
  .subst i;rw[an rfl]at k;omega
  .rw[ae i]at k
   refine t b i ?_
   rcases dR (0<e b)with s|s
   .exact j.lv b s
   .have:=j.nn b
    have g:=Pa (l:=c.aE) (f:=b) V
    have:=(j.field (aq m) g V).2
    rwa[lB]at this
def fO.make(l:fO h e){v:Int}{c:List Int}(r:¬fj h f)(p:g[f]? =some ⟨1,v,c⟩)(o:∀b,b≠f->g[b]? =h[b]?)
 (E:∀b,ez g b=ez h b+eC c b)(z:∀w∈c,qE h w)(C:c.length<=3)(G:0<=v/\v<=99)(x:∀b,eC c b<=e b)
 (t:∀b,e' b=e b -eC c b+if b=f then 1 else 0):fO g e':=by
 have u:∀b,fj h b->fj g b:=λb i=>by
  by_cases a:b=f
  .subst a;exact absurd i r
  .unfold fj;rw[o b a];exact i
 have L:=l.YU r
 have N:=l.Xz r
 have M:eC c f=0:=by have:=iF c f;have:=x f;omega
 refine⟨λK I=>?_,?_,λb d hd B=>?_,λb=>?_,λb j=>?_⟩
 .let⟨b,j⟩:=List.mem_iff_getElem?.1 I
  by_cases a:b=f
  .subst a;rw[p]at j;simp at j;subst j
   exact⟨C,aL,aL,sx,λ_=>⟨λw n=>(z w n).mono λ_ i=>u _ i,G⟩⟩
  .rw[o b a]at j
   exact(l.cell K (aq j)).mono λ_ w _ _ i=>u _ i
 .let⟨s,F⟩:=l.MV
  refine⟨λk=>if k=f then(c.map λw=>s (ix w)).sum+1 else s k,λk d hd w n y=>?_⟩
  have H:ix w≠f:=λA=>by
   have D:fY h w:=by
    by_cases m:k=f
    .subst m;rw[p]at hd;simp at hd;subst hd;rcases z w n with q|q
     .have:=q.2;omega
     .exact q
    .rw[o k m]at hd;exact l.field (aq hd) n y
   exact r (A▸D.2)
  simp only[ae H]
  by_cases m:k=f
  .subst m;rw[p]at hd;simp at hd;subst hd
   rw[an rfl]
   have:∀(q:List Int),w∈q->s (ix w)<=(q.map λw=>s (ix w)).sum:=by
    intro q i;induction q with
    |nil=>simp at i
    |cons O q J=>
     simp only[cL,List.sum_cons];rcases List.mem_cons.1 i with rfl|i
     .omega
     .have:=J i;omega
   have:=this c n;omega
  .rw[ae m];rw[o k m]at hd;exact F k d hd w n y
 .rw[E,t]
  by_cases a:b=f
  .subst a;rw[p]at hd;simp at hd;subst hd
   rw[an rfl];simp only[];omega
  .rw[o b a]at hd
   have:=l.ex b d hd B
   rw[ae a];omega
 .rw[t];have:=x b;split<;>omega
 .rw[t]at j
  by_cases a:b=f
  .subst a;exact⟨_,p,aL⟩
  .rw[ae a]at j
   exact u b (l.lv b (oh (iF c b)))
def fO.gV:∀(n:Nat)(h:List bE)(o:List Int)(e:Nat->Int),Cv h+o.length<=n->fO h (λb=>e b+eC o b)->(∀b,0<=e b)->fO (gV h o) e
 |n,h,[],e,_,a,_=>by rw[sX];exact a.congr λb=>by simp[eC]
 |n,h,w::r,e,f,a,d=>by
  rcases dR (fY h w)with c|c
  .let⟨g,m⟩:=bS c;have s:=iv c.1;have l:∀b,eC (w::r) b=(if b=ix w then 1 else 0)+eC r b:=λb=>by
    simp only[eC];congr 1;by_cases k:b=ix w
    .subst k;rw[an s.symm,an rfl]
    .rw[ae k,ae (λi=>k (by rw[i,lB]))]
   have p:=kA (d:=jd) g;by_cases j:(aM h w).aQ=1
   .rw[sY c j];simp only[an m,jd]at p;simp at p;cases n with
    |zero=>simp at f
    |succ n=>
    refine fO.gV n _ _ e ?_ (fO.Rk a g j ?_ bh bh rfl (by simp[jd]) (by simp[jd]) (λ_=>rfl) λb=>?_) d
    .simp[jd]at f⊢;omega
    .simp only[l,an];have:=d (ix w);have:=iF r (ix w);omega
    .simp only[l,lU,Ap];omega
   .rw[qv c j];have q:=kA (d:={aM h w with aQ:=(aM h w).aQ -1}) g;simp only[an m]at q;rw[an V]at q;have t:=(a.cell _ (aq g)).hi;cases n with
    |zero=>simp at f
    |succ n=>
    refine fO.gV n _ _ e ?_ (fO.KL a g m V V (λb=>?_) ?_) d
    .simp only[aY]at f;simp only[fq];omega
    .simp only[l];split<;>omega
    .have:=d (ix w);have:=iF r (ix w);omega
  .rw[qx c];cases n with
   |zero=>simp at f
   |succ n=>
   refine fO.gV n _ _ e (by simp at f;omega) (a.congr λb=>?_) d;simp only[eC];rw[ae]
   .omega
   .intro i;have:=a.lv b (by simp only[eC,an i];have:=d b;have:=iF r b;omega);exact c ⟨V,by rw[i,lB];exact this⟩
def tS(h:List bE):∀n,jq h n<=n
 |0=>ad _
 |n+1=>by
  simp only[jq];have:=tS h n;split
  .split<;>omega
  .omega
def tR(h:List bE):∀(n k:Nat)(c:bE),jq h n<=k->k<n->h[k]? =some c->c.aQ=0
 |0,k,c,_,d,_=>V
 |n+1,k,c,a,e,b=>by
  simp only[jq]at a;by_cases d:k=n
  .subst d;rw[b]at a;simp only[]at a;split at a
   .assumption
   .omega
  .split at a
   .split at a
    .exact tR h n k c a V b
    .omega
   .exact tR h n k c a V b
def MK(h:List bE):∀(n:Nat)(c:bE),n<=h.length->h[jq h n -1]? =some c->0<jq h n->c.aQ≠0
 |0,c,_,_,b=>by simp[jq]at b
 |n+1,c,f,a,b=>by
  simp only[jq]at a b;let⟨d,hd⟩:=cG h n;rw[hd]at a b;simp only[]at a b;split at a
  .rename_i e;rw[an e]at b;exact MK h n c V a b
  .rename_i e;simp at a;rw[hd]at a;simp at a;subst a;exact e
def nY(h:List bE):Prop:=∀c,h[h.length -1]? =some c->c.aQ≠0
def HD(h:List bE):nY (nl h):=by
 intro c a;have d:=tS h h.length;unfold nl at a;rw[gK,jf d]at a;rcases j7 (jq h h.length)with b|b
 .rw[b]at a;simp at a
 .rw[dH V]at a;exact MK h _ c (ad _) a b
def Ol:∀{h:List bE},(∀c∈h,c.aE=[])->∀f,ez h f=0
 |[],_,f=>rfl
 |c::h,a,f=>by simp only[ez,a c bg,eC,Ol (λd hd=>a d (ai _ hd)) f];rfl
def fO.nl{h:List bE}{e:Nat->Int}(d:fO h e):fO (nl h) e:=by
 have u:=tS h h.length;have q:∀(b:Nat)(c:bE),h[b]? =some c->c.aQ≠0->b<jq h h.length:=λb c a i=>
  dQ λv=>i (tR h h.length b c V (aw a) a)
 have k:∀(b:Nat)(c:bE),(Go.Proofs.YtkoifinbblcbiaaGreat.nl h)[b]? =some c->h[b]? =some c:=λb c a=>by
  unfold Go.Proofs.YtkoifinbblcbiaaGreat.nl at a;have:=aw a;rw[gK]at this;rwa[dH V]at a
 have l:∀b,fj h b->fj (Go.Proofs.YtkoifinbblcbiaaGreat.nl h) b:=λb⟨c,a,j⟩=>⟨c,by
  unfold Go.Proofs.YtkoifinbblcbiaaGreat.nl;rw[dH (q b c a V)];exact a,j⟩
 have s:∀b,ez (Go.Proofs.YtkoifinbblcbiaaGreat.nl h) b=ez h b:=λb=>by
  have m:h=Go.Proofs.YtkoifinbblcbiaaGreat.nl h++h.drop (jq h h.length):=(dm _ _).symm;have n:ez (h.drop (jq h h.length)) b=0:=Ol (λc a=>by
   let⟨o,g⟩:=List.mem_iff_getElem?.1 a;rw[se]at g;have i:=tR h h.length _ c V (aw g) g;exact((d.cell c (aq g)).wZ V).2.2 i) b
  have o:=nX (λg=>ez g b) m;simp only[uL,n]at o;omega
 refine⟨λc a=>?_,?_,λf c a j=>?_,d.nn,λf p=>l f (d.lv f p)⟩
 .let⟨b,g⟩:=List.mem_iff_getElem?.1 a;exact(d.cell c (aq (k b c g))).mono λ_ w _ _ r=>l _ r
 .let⟨t,r⟩:=d.MV;exact⟨t,λg c a=>r g c (k g c a)⟩
 .rw[s];exact d.ex f c (k f c a) j
end
section
variable{l:List Int}{i x v r:Int}{b:Nat}{c:cQ}{f:aX}{s:St}
def oE(b:0<=i)(c:i<l.length):l[i.toNat]? =some (aF l i):=by
 let⟨x,a⟩:=cG l i.toNat;simp[aF,a]
def Yu(h:l[b]? =some x):aF l b=x:=by simp[aF,h]
def HZ(h:l[i.toNat]? =some x):aF l i=x:=by simp[aF,h]
def fA(a:0<=i)(b:i<l.length):aF l i∈l:=iA (oE a b)
def jU(l:List Int)(i v:Int):(gT l i v).length=l.length:=by simp[gT]
def pJ(h:x∈gT l i v):x=v\/x∈l:=by
 rcases cD h with h|h
 .exact Or.inr h
 .exact Or.inl h
def Az(l:List Int)(i v:Int)(b:Nat):(gT l i v)[b]? =if b=i.toNat/\b<l.length then some v else l[b]? :=by
 unfold gT;by_cases h:b=i.toNat
 .subst h;by_cases a:i.toNat<l.length
  .rw[dx a,an ⟨rfl,a⟩]
  .rw[ae V,rK V]
 .rw[ae V,cw (λe=>h e.symm)]
def U9(a:0<=i)(b:i<l.length)(j:Int)(c:0<=j):aF (gT l i v) j=if j=i then v else aF l j:=by
 unfold aF;rw[fS,fS,Az];by_cases h:j=i
 .subst h;rw[an rfl,an ⟨rfl,V⟩];rfl
 .rw[ae h,ae V]
def Iw:∀(ak aR:List Int)(b:Nat)(w o f e:Int)(a:Nat),ak[b]? =some f->aR[b]? =some e->
 df (ak.set b w) (aR.set b o) a=df ak aR a -(if f=1000+(a:Int)then e else 0)+(if w=1000+(a:Int)then o else 0)
 |[],aR,b,w,o,f,e,a,c,d=>by simp at c
 |r::g,[],b,w,o,f,e,a,c,d=>by simp at d
 |r::g,q::h,0,w,o,f,e,a,c,d=>by
  simp at c d;subst c;subst d;simp only[gE,df];omega
 |r::g,q::h,b+1,w,o,f,e,a,c,d=>by
  have:=Iw g h b w o f e a (by simpa using c) (by simpa using d);simp only[iB,df,this];omega
def Uy(h:l[b]? =some x):l.set b x=l:=by
 apply gY;intro i;by_cases a:b=i
 .subst a;rw[dx (aw h),h]
 .rw[cw a]
def Iv{ak aR:List Int}(c:0<=r)(d:r<ak.length)(e:r<aR.length)(o:Int)(a:Nat):
 df ak (gT aR r o) a=df ak aR a+(if aF ak r=1000+(a:Int)then o -aF aR r else 0):=by
 have b:=oE c d
 have:=Iw ak aR r.toNat (aF ak r) o _ _ a b (oE c e)
 rw[Uy b]at this
 rw[gT,this];split<;>omega
def Og{ak aR:List Int}(b:0<=r)(c:r<ak.length)(d:r<aR.length)(e:aF aR r=0)(w o:Int)(a:Nat):
 df (gT ak r w) (gT aR r o) a=df ak aR a+(if w=1000+(a:Int)then o else 0):=by
 have:=Iw ak aR r.toNat w o _ _ a (oE b c) (oE b d)
 rw[gT,gT,this,e];split<;>omega
def tx:∀{ak aR:List Int},(∀o∈aR,0<=o)->∀a,0<=df ak aR a
 |[],aR,h,a=>by cases aR<;>simp[df]
 |r::b,[],h,a=>by simp[df]
 |r::b,o::d,h,a=>by
  have:=tx (ak:=b) (aR:=d) (λx c=>h x (ai _ c)) a;have:=h o bg;simp only[df];split<;>omega
def tA:∀{ak aR:List Int},SH aR->∀a,df ak aR a=0
 |[],aR,h,a=>by cases aR<;>simp[df]
 |r::b,[],h,a=>by simp[df]
 |r::b,o::d,h,a=>by
  have:=tA (ak:=b) (aR:=d) (λx c=>h x (ai _ c)) a;have:=h o bg;simp only[df,this];split<;>omega
def GF:∀{c o1:List Int}(b o2:List Int),c.length=o1.length->∀a,df (c++b) (o1++o2) a=df c o1 a+df b o2 a
 |[],[],b,o2,_,a=>by simp[df]
 |[],_::_,_,_,h,_=>by simp at h
 |_::_,[],_,_,h,_=>by simp at h
 |r::e,o::d,b,o2,h,a=>by
  have:=GF (c:=e) (o1:=d) b o2 (by simpa using h) a;simp only[cX,df,this];omega
def LX:∀{ak aR:List Int}{b:Nat}{w o:Int}(_:∀o∈aR,0<=o)(_:ak[b]? =some w)(_:aR[b]? =some o){d:Nat}(_:w=1000+(d:Int)),o<=df ak aR d
 |[],_,_,_,_,_,a,_,_,_=>by simp at a
 |_::_,[],_,_,_,_,_,c,_,_=>by simp at c
 |r::i,q::h,0,w,o,e,a,c,d,f=>by
  simp at a c;subst a;subst c;have:=tx (ak:=i) (aR:=h) (λx g=>e x (ai _ g)) d;simp only[df,an f];omega
 |r::i,q::h,b+1,w,o,e,a,c,d,f=>by
  have:=LX (ak:=i) (aR:=h) (b:=b) (λx g=>e x (ai _ g)) (by simpa using a) (by simpa using c) f;have:=e q bg;simp only[df];split<;>omega
def fX:∀(l r:List aX)(a:Nat),fC (l++r) a=fC l a+fC r a
 |[],r,a=>by simp[fC]
 |f::l,r,a=>by simp only[cX,fC,fX l r a];omega
def kT(f:aX)(a:Nat):fC [f] a=df f.ak f.aR a:=by simp[fC]
def eM:∀(l r:List aX)(a:Nat),dG (l++r) a=dG l a+dG r a
 |[],r,a=>by simp[dG]
 |f::l,r,a=>by simp only[cX,dG,eM l r a];omega
def jc(f:aX)(a:Nat):dG [f] a=eC f.ba a:=by simp[dG]
def vS:∀(l:List aX)(a:Nat),0<=dG l a
 |[],a=>by simp[dG]
 |f::l,a=>by have:=vS l a;have:=iF f.ba a;simp only[dG];omega
def ka(ak:List Int):∀(a aR:List Int),(bD ak aR a).length=aR.length
 |[],aR=>rfl
 |r::a,aR=>by simp only[bD];rw[ka ak a];split<;>simp[jU]
def xZ{ak:List Int}:∀(b aR:List Int),(∀r∈b,0<=r/\r<ak.length)->ak.length=aR.length->∀a,df ak (bD ak aR b) a=df ak aR a -eC (b.map (aF ak)) a
 |[],aR,_,_,a=>by simp[bD,eC]
 |r::b,aR,h,c,a=>by
  have e:=h r bg;have f:=λaR c=>xZ (ak:=ak) b aR (λx d=>h x (ai _ d)) c a;simp only[bD,cL,eC];by_cases d:1000<=aF ak r
  .rw[an d,f _ (by rw[jU];exact c),Iv e.1 e.2 V];split<;>omega
  .rw[ae d,f _ c,ae V];omega
def k8{ak:List Int}:∀(c aR:List Int)(b:Nat)(o:Int),(bD ak aR c)[b]? =some o->∃q,aR[b]? =some q/\o<=q
 |[],aR,b,o,h=>⟨o,h,bZ _⟩
 |r::c,aR,b,o,h=>by
  simp only[bD]at h;let⟨q,a,e⟩:=k8 c _ b o h;split at a
  .rw[Az]at a;split at a
   .rename_i d;let⟨y,f⟩:=dB d.2;have g:aF aR r=y:=by rw[aF,fS,<-d.1,f];rfl
    simp at a;exact⟨y,f,V⟩
   .exact⟨q,a,e⟩
  .exact⟨q,a,e⟩
def lP:∀(a aR:List Int),(dE aR a).length=aR.length
 |[],aR=>rfl
 |r::a,aR=>by simp only[dE];rw[lP a,jU]
def FQ{ak:List Int}:∀(b aR:List Int),(∀r∈b,0<=r/\r<ak.length)->ak.length=aR.length->∀a,df ak (dE aR b) a=df ak aR a+eC (b.map (aF ak)) a
 |[],aR,_,_,a=>by simp[dE,eC]
 |r::b,aR,h,d,a=>by
  have c:=h r bg;simp only[dE,cL,eC];rw[FQ (ak:=ak) b _ (λx e=>h x (ai _ e)) (by rw[jU];exact d) a,Iv c.1 c.2 V];split<;>omega
def K6{ak:List Int}:∀(d aR:List Int),(∀r∈d,0<=r/\r<aR.length/\1000<=aF ak r)->
 (∀(b:Nat)(o w:Int),aR[b]? =some o->ak[b]? =some w->0<=o/\(0<o->1000<=w))->∀(b:Nat)(o w:Int),(dE aR d)[b]? =some o->ak[b]? =some w->0<=o/\(0<o->1000<=w)
 |[],aR,_,h,b,o,w,a,c=>h b o w a c
 |r::d,aR,g,h,b,o,w,a,c=>by
  refine K6 (ak:=ak) d (gT aR r (aF aR r+1)) (λx e=>by rw[jU];exact g x (ai _ e)) (λb o w a c=>?_) b o w a c;rw[Az]at a;split at a
  .rename_i f;have e:=g r bg;have i:aF ak r=w:=by rw[aF,fS,<-f.1,c];rfl
   have j:=h b (aF aR r) w (by rw[f.1];exact oE e.1 e.2.1) c;simp at a;exact⟨V,λ_=>V⟩
  .exact h b o w a c
def fP(h:List bE)(a:Nat):Prop:=∃c,h[a]? =some c/\c.aQ<0
structure iC(c:cQ)(f:aX):Prop where
 fG:0<=f.fG/\f.fG<c.cJ.length
 pc:0<=f.pc/\f.pc<(dO c f.fG).dt.length
 lr:(f.ak.length:Int)=(dO c f.fG).ak
 lo:(f.aR.length:Int)=(dO c f.fG).ak
 lh:(f.ba.length:Int)=(dO c f.fG).ak
 Sv:∀w∈f.ak,gN w\/1000<=w
 aR:∀(b:Nat)(o w:Int),f.aR[b]? =some o->f.ak[b]? =some w->0<=o/\(0<o->1000<=w)
 ba:∀w∈f.ba,w=0\/1000<=w
structure cR(c:cQ)(s:St):Prop where
 fB:nt c
 cv:0<=s.cv/\s.cv<=3
 done:s.cv=0<->s.ao=[]
 value:gN s.value
 tU:s.value≠0->s.cv=0
 dT:0<=s.dT/\s.dT<=40
 br:0<=s.br/\s.br<=s.dT
 depth:(s.ao.length:Int)<=s.br+1
 aS:∀n∈s.aS,gN n
 heap:fO s.heap (fC s.ao)
 jA:nY s.heap
 ao:∀f∈s.ao,iC c f
 first:∀f,s.ao[0]? =some f->f.dst=0
 chain:∀(b:Nat)(f g:aX),s.ao[b]? =some f->s.ao[b+1]? =some g->0<=g.dst/\g.dst<f.aR.length/\aF f.aR g.dst=0
 lj:∀a,fP s.heap a->dG s.ao a=1
 np:∀a,¬fP s.heap a->dG s.ao a=0
def iC.Qi(h:iC c f):∀o∈f.aR,0<=o:=λo d=>by
 let⟨b,a⟩:=List.mem_iff_getElem?.1 d;have g:=aw a;have:=h.lo;have:=h.lr;let⟨w,e⟩:=cG f.ak b;exact(h.aR b o w a e).1
def KK{c:cQ}:∀{b:List aX},(∀f∈b,iC c f)->∀a,0<=fC b a
 |[],_,a=>by simp[fC]
 |f::b,h,a=>by
  have:=KK (λg d=>h g (ai _ d)) a;have:=tx (ak:=f.ak) (h f bg).Qi a;simp only[fC];omega
def cR.split(h:cR c s)(b:s.cv=3):∃a f,s.ao=a++[f]:=by
 have:s.ao≠[]:=λe=>by have:=h.done.2 e;omega
 exact⟨s.ao.dropLast,s.ao.getLast this,(fu this).symm⟩
def iC.JF(j:nt c)(h:iC c f):∃p,c.cJ[f.fG.toNat]? =some p/\dO c f.fG=p/\HU c p/\p.dt[f.pc.toNat]? =some (eA c f)/\iS c p f.pc.toNat (eA c f):=by
 let⟨p,b⟩:=cG c.cJ f.fG.toNat (oh h.fG);have e:dO c f.fG=p:=by simp[dO,b]
 have g:=j.dz p (aq b);have k:=h.pc;rw[e]at k;let⟨i,a⟩:=cG p.dt f.pc.toNat;have d:eA c f=i:=by simp[eA,e,a]
 exact⟨p,b,e,g,d▸a,d▸g.dz _ _ a⟩
def cR.fU(h:cR c s)(A:s.cv=3){e:List aX}{g:aX}(k:s.ao=e++[f]){d:List bE}{aS:List Int}(o:iC c g)(hd:g.dst=f.dst)
 (r:fO d (fC (e++[g])))(w:nY d)(t:∀a,fP d a->dG (e++[g]) a=1)(x:∀a,¬fP d a->dG (e++[g]) a=0)(v:∀n∈aS,gN n){br:Int}(n:s.br<=br/\br<=s.dT):
 cR c {s with heap:=d,aS:=aS,br:=br,ao:=e++[g]}:=by
 have z:=h.br
 have m:=h.depth
 rw[k]at m
 refine⟨h.fB,h.cv,⟨λj=>by simp at j;omega,sx⟩,h.value,h.tU,h.dT,⟨by simp only[];omega,n.2⟩,by simp at m⊢;omega,v,r,w,λq a=>?_,λq a=>?_,λb p q d a=>?_,t,x⟩
 .rcases List.mem_append.1 a with a|a
  .exact h.ao q (by rw[k];exact bJ _ a)
  .simp at a;subst a;exact o
 .have i:=h.first
  rw[k]at i
  cases e with
  |nil=>simp at a;subst a;rw[hd];exact i f aL
  |cons y l=>simp at a;subst a;exact i y aL
 .have l:=h.chain b
  rw[k]at l
  simp only[]at d a
  have u:=aw a
  simp at u
  rw[av V]at d
  rcases aW (b+1) e.length with i|i
  .rw[av i]at a
   exact l p q (by rw[av V];exact d) (by rw[av i];exact a)
  .rw[aJ i]at a
   have j:b+1 -e.length=0:=V
   rw[j]at a;simp at a;subst a
   rw[hd]
   exact l p f (by rw[av V];exact d) (by rw[aJ i,j];rfl)
end
section
variable{h:List bE}{a:Nat}{c d:bE}{w:Int}{e e':Nat->Int}
def fP.ne{b:Nat}(d:b≠a):fP (h.set a c) b<->fP h b:=by unfold fP;rw[iE d]
def fP.yQ(hd:h[a]? =some d):fP (h.set a c) a<->c.aQ<0:=by unfold fP;rw[eL hd];simp
def fP.set(hd:h[a]? =some d)(i:0<=d.aQ)(j:0<=c.aQ)(b:Nat):fP (h.set a c) b<->fP h b:=by
 by_cases g:b=a
 .subst g;rw[fP.yQ hd];refine⟨λk=>V,λ⟨e,f,l⟩=>?_⟩;rw[hd]at f;simp at f;subst f;omega
 .exact fP.ne g
def fP.UD(e:fP h a):¬fj h a:=λ⟨c,b,g⟩=>by
 let⟨d,hd,f⟩:=e;rw[b]at hd;simp at hd;subst hd;omega
def fP.fq(c:fY h w)(b:Nat):fP (fq h w) b<->fP h b:=by
 let⟨a,d⟩:=bS c;exact fP.set a V (by simp only[];omega) b
def fP.mO(c:fY h w)(b:Nat):fP (mO h w) b<->fP h b:=by
 let⟨a,d⟩:=bS c;exact fP.set a V (by simp only[];omega) b
def fP.Rk(c:fY h w)(b:Nat):fP (h.set (ix w) jd) b<->fP h b:=by
 let⟨a,d⟩:=bS c;exact fP.set a V (by simp[jd]) b
def fP.gV:∀(n:Nat)(h:List bE)(i:List Int),Cv h+i.length<=n->∀b,fP (gV h i) b<->fP h b
 |n,h,[],_,b=>by rw[sX]
 |0,h,w::r,c,b=>by simp at c
 |n+1,h,w::r,c,b=>by
  simp only[aY]at c;rcases dR (fY h w)with a|a
  .let⟨f,g⟩:=bS a;by_cases d:(aM h w).aQ=1
   .have e:=kA (d:=jd) f;simp only[an g,jd]at e;simp at e;rw[sY a d,fP.gV n _ _ (by simp[jd];omega) b,fP.Rk a]
   .have e:=kA (d:={aM h w with aQ:=(aM h w).aQ -1}) f;simp only[an g]at e;rw[an V]at e;rw[qv a d,fP.gV n _ _ (by simp only[Go.Proofs.YtkoifinbblcbiaaGreat.fq];omega) b,fP.fq a]
  .rw[qx a,fP.gV n _ _ V b]
def fP.nl{h:List bE}(b:Nat):fP (nl h) b<->fP h b:=by
 have f:=tS h h.length;unfold fP Go.Proofs.YtkoifinbblcbiaaGreat.nl;constructor
 .rintro⟨c,a,d⟩;have:=aw a;rw[gK]at this;rw[dH V]at a;exact⟨c,a,d⟩
 .rintro⟨c,a,d⟩;refine⟨c,?_,d⟩;rw[dH]
  .exact a
  .exact dQ λe=>by have:=tR h h.length b c V (aw a) a;omega
def fO.mO(c:fO h e)(f:fY h w)(i:(aM h w).aQ<999999)(a:∀b,e' b=e b+if b=ix w then 1 else 0):fO (mO h w) e':=by
 let⟨d,g⟩:=bS f;refine c.KL d g V V (λb=>?_) ?_
 .rw[a];split<;>omega
 .rw[a];have:=c.nn (ix w);split<;>omega
def PU(a:fY h w){v:Int}(d:1000<=v):(aM (mO h w) v).aQ=(aM h v).aQ+(if v=w then 1 else 0):=by
 let⟨c,f⟩:=bS a;unfold mO;by_cases e:v=w
 .subst e;rw[an rfl];conv=>lhs;unfold aM
  rw[eL c];rfl
 .rw[ae e];conv=>lhs;unfold aM
  rw[iE (λb=>e (Rn d a.1 b))];simp[aM]
def fj.mO{h:List bE}{w:Int}(a:fY h w)(b:Nat):fj (mO h w) b<->fj h b:=by
 let⟨c,d⟩:=bS a;by_cases e:b=ix w
 .subst e;unfold Go.Proofs.YtkoifinbblcbiaaGreat.mO;rw[fj.yQ c];exact⟨λ_=>a.2,λ_=>by simp only[];omega⟩
 .exact fj.ne e
def iW(d:1000<=w)(r:List Int)(b:Nat):eC (w::r) b=(if b=ix w then 1 else 0)+eC r b:=by
 simp only[eC];congr 1;have e:=iv d;by_cases a:b=ix w
 .subst a;rw[an e.symm,an rfl]
 .rw[ae a,ae (λc=>a (by rw[c,lB]))]
def fO.jg:∀(a:List Int)(h:List bE)(e e':Nat->Int),fO h e->(∀w∈a,fY h w/\(aM h w).aQ+eC a (ix w)<=999999)->(∀b,e' b=e b+eC a b)->fO (jg h a) e'/\(∀b,fP (jg h a) b<->fP h b)/\(jg h a).length=h.length
 |[],h,e,e',i,_,g=>⟨i.congr λb=>by rw[g];simp[eC],λ_=>Ts,rfl⟩
 |w::a,h,e,e',i,k,g=>by
  let⟨c,p⟩:=k w bg;rw[iW c.1,an rfl]at p;have:=iF a (ix w);let⟨m,n,o⟩:=fO.jg a (Go.Proofs.YtkoifinbblcbiaaGreat.mO h w) (λb=>e b+if b=ix w then 1 else 0) e' (i.mO c V λb=>rfl) (λv q=>by
   let⟨d,j⟩:=k v (ai _ q);refine⟨⟨d.1,(fj.mO c _).2 d.2⟩,?_⟩;rw[PU c d.1];rw[iW c.1]at j;split
   .rename_i f;subst f;rw[an rfl]at j;omega
   .rename_i f;rw[ae (λl=>f (Rn d.1 c.1 l))]at j;omega) (λb=>by rw[g,iW c.1];omega)
  refine⟨m,λb=>by rw[Go.Proofs.YtkoifinbblcbiaaGreat.jg,n,fP.mO c],by rw[Go.Proofs.YtkoifinbblcbiaaGreat.jg,o];simp[Go.Proofs.YtkoifinbblcbiaaGreat.mO]⟩
def lD{l:List Int}:w∈kW l<->w∈l/\1000<=w:=by simp[kW]
def fO.apart{h:List bE}{e e':Nat->Int}(j:fO h e){w:Int}(o:fY h w)(H:0<e (ix w))(t:(aM h w).aQ=1\/lp h (aM h w).aE)
 (A:∀b,e' b=e b -(if b=ix w then 1 else 0)+eC (aM h w).aE b)(K:nY h):fO (apart h w) e'/\(∀b,fP (apart h w) b<->fP h b)/\nY (apart h w):=by
 let⟨g,J⟩:=bS o
 unfold Go.Proofs.YtkoifinbblcbiaaGreat.apart
 by_cases r:(aM h w).aQ=1
 .rw[an r]
  exact⟨(j.Rk g r H (c':=jd) bh bh rfl (by simp[jd]) (by simp[jd]) (λ_=>rfl) A).nl,λb=>by rw[fP.nl,fP.Rk o],HD _⟩
 .rw[ae r]
  have t:lp h (aM h w).aE:=by rcases t with m|m;exact absurd m r;exact m
  have Q:=(j.cell _ (aq g)).hi
  have I:fO (Go.Proofs.YtkoifinbblcbiaaGreat.fq h w) (λb=>e b -if b=ix w then 1 else 0):=j.KL g J V V (λb=>by split<;>omega) bF
  have u:∀b,fj h b->fj (Go.Proofs.YtkoifinbblcbiaaGreat.fq h w) b:=λb f=>by
   by_cases k:b=ix w
   .subst k;unfold Go.Proofs.YtkoifinbblcbiaaGreat.fq;rw[fj.yQ g];simp only[];omega
   .exact(fj.ne k).2 f
  let⟨m,y,z⟩:=fO.jg (kW (aM h w).aE) _ _ e' I (λv x=>by
   let⟨s,p⟩:=lD.1 x;have a:=j.field (aq g) s p;refine⟨⟨a.1,u _ a.2⟩,?_⟩;have:=t v s p;rw[wi];have O:(aM (Go.Proofs.YtkoifinbblcbiaaGreat.fq h w) v).aQ<=(aM h v).aQ:=by
    by_cases k:ix v=ix w
    .have i:=Rn p o.1 k;subst i;unfold Go.Proofs.YtkoifinbblcbiaaGreat.fq;conv=>lhs;unfold aM
     rw[eL g];show(aM h v).aQ -1<=(aM h v).aQ;omega
    .unfold Go.Proofs.YtkoifinbblcbiaaGreat.fq;conv=>lhs;unfold aM
     rw[iE k];exact bZ _
   omega) (λb=>by rw[A,wi])
  refine⟨m,λb=>by rw[y,fP.fq o],λc n=>?_⟩
  intro M
  rw[z]at n
  have B:(Go.Proofs.YtkoifinbblcbiaaGreat.fq h w).length=h.length:=by simp[Go.Proofs.YtkoifinbblcbiaaGreat.fq]
  rw[B]at n
  have f:=aw n
  rw[z,B]at f
  let⟨d,hd⟩:=cG h (h.length -1)
  have N:=K d hd
  have G:=j.cell d (aq hd)
  have P:=G.lo
  rcases dR (0<d.aQ)with C|C
  .have F:∀(q:List Int)(l:List bE),(∀v∈q,fY l v)->∀b,fj l b->fj (Go.Proofs.YtkoifinbblcbiaaGreat.jg l q) b:=by
    intro q;induction q with
    |nil=>intro l _ b f;exact f
    |cons v q L=>
     intro l i b f;have a:=i v bg;exact L _ (λE D=>⟨(i E (ai _ D)).1,(fj.mO a _).2 (i E (ai _ D)).2⟩) b ((fj.mO a _).2 f)
   let⟨D,i,E⟩:=F (kW (aM h w).aE) (Go.Proofs.YtkoifinbblcbiaaGreat.fq h w) (λv x=>by
    let⟨s,p⟩:=lD.1 x;have a:=j.field (aq g) s p;exact⟨a.1,u _ a.2⟩) _ (u _ ⟨d,hd,C⟩)
   rw[n]at i;simp at i;subst i;omega
  .have l:fP h (h.length -1):=⟨d,hd,V⟩
   let⟨D,i,q⟩:=(y (h.length -1)).2 ((fP.fq o _).2 l)
   rw[n]at i;simp at i;subst i;omega
def qA:∀(h:List bE),dF h<=h.length
 |[]=>ad _
 |c::h=>by have:=qA h;simp only[dF,aY];split<;>omega
def Ee:∀(h:List bE)(c:bE),h[dF h]? =some c->c.aQ=0
 |[],c,a=>by simp[dF]at a
 |d::h,c,a=>by
  simp only[dF]at a;split at a
  .rename_i b;simp at a;subst a;exact b
  .exact Ee h c (by simpa using a)
def fO.alloc(k:fO h e){t:Int}{f:List Int}(s:∀w∈f,qE h w)(m:f.length<=3)(r:0<=t/\t<=99)(n:∀b,eC f b<=e b)
 (l:∀b,e' b=e b -eC f b+if b=dF h then 1 else 0)(u:nY h):
 fO (iP h (dF h) ⟨1,t,f⟩) e'/\(∀b,fP (iP h (dF h) ⟨1,t,f⟩) b<->fP h b)/\nY (iP h (dF h) ⟨1,t,f⟩):=by
 unfold iP
 have o:¬fj h (dF h):=λ⟨c,a,v⟩=>by have:=Ee h c a;omega
 by_cases i:dF h=h.length
 .rw[an i]
  have q:(h++[⟨1,t,f⟩])[dF h]? =some ⟨1,t,f⟩:=by rw[i];simp
  have p:∀b,b≠dF h->(h++[⟨1,t,f⟩])[b]? =h[b]? :=λb g=>by
   rcases aW b h.length with j|j
   .rw[av j]
   .rw[cT bF,cT j]
  refine⟨k.make o q p (λb=>by rw[uL];simp[ez]) s m r n l,λb=>?_,λc a=>?_⟩
  .by_cases g:b=dF h
   .rw[g];unfold fP;rw[q,i];simp
   .unfold fP;rw[p b g]
  .simp at a;subst a;simp
 .rw[ae i]
  have q:dF h<h.length:=by have:=qA h;omega
  let⟨d,hd⟩:=dB q
  have j:=Ee h d hd
  have p:=((k.cell d (aq hd)).wZ V).2.2 j
  refine⟨k.make o (eL hd) (λb g=>iE g) (λb=>by rw[Av _ hd,p];simp[eC]) s m r n l,λb=>fP.set hd V aL b,λc a=>?_⟩
  rw[eg]at a
  by_cases g:h.length -1=dF h
  .rw[g,eL hd]at a;simp at a;subst a;simp
  .rw[iE g]at a;exact u c a
end
section
variable{b:cQ}{w:Int}{s:St}{f g:aX}
def Fy{b:cQ}{x:Instr}:∀{l:List Int}{k:Nat}{r:Int},r∈iG b x k l->r∈l
 |[],k,r,h=>by simp[iG]at h
 |y::l,k,r,h=>by
  simp only[iG]at h;split at h
  .exact ai _ (Fy h)
  .rcases List.mem_cons.1 h with rfl|h
   .exact bg
   .exact ai _ (Fy h)
def Cs{x:Instr}{r:Int}(h:r∈bU b x):r∈x.args:=by
 unfold bU at h;split at h
 .exact h
 split at h
 .exact dA h
 split at h
 .exact Fy h
 .simp at h
def JB{a:List bz}(h:dU a)(c:Int):(cE a c).length<=3:=by
 unfold cE;split
 .cases g:(eW a)[c.toNat]? with
  |none=>simp
  |some f=>
   have d:=aq g;unfold eW at d;let⟨e,hd,b⟩:=List.mem_flatMap.1 d;let⟨k,i⟩:=List.mem_iff_getElem?.1 hd;have:=(h.dz k e i).iZ (List.length_pos_of_mem b);exact(this.2.2.2 f b).1
 .simp
def iC.put{b:cQ}{g:aX}(h:iC b g){r w o:Int}(i:0<=r)(f:gN w\/1000<=w)(d:0<=o)(e:0<o->1000<=w):iC b (g.put r w o):=by
 refine⟨h.fG,h.pc,by simp only[aX.put,jU];exact h.lr,by simp only[aX.put,jU];exact h.lo,h.lh,λy a=>?_,λk q y c a=>?_,h.ba⟩
 .rcases pJ a with rfl|a
  .exact f
  .exact h.Sv y a
 .simp only[aX.put]at c a;rw[Az]at c a;have:=h.lr;have:=h.lo;split at c<;>split at a
  .simp at c a;subst c;subst a;exact⟨d,e⟩
  .omega
  .omega
  .exact h.aR k q y c a
def Iy(w:Int):0<=gJ w:=by unfold gJ;split<;>omega
def Eu(h:0<gJ w):1000<=w:=by unfold gJ at h;split at h<;>omega
def xr(w:Int)(b:Nat):(if w=1000+(b:Int)then gJ w else 0)=eC [w] b:=by
 simp only[eC,gJ];split
 .rw[an V];rfl
 .rfl
def Ib(n:Int):gN (FU n):=by unfold FU gN;split<;>(try split)<;>omega
def Ql(c a b:Int):gN (Pd c a b):=by
 unfold Pd;split
 .exact Ib _
 split
 .exact Ib _
 split
 .exact Ib _
 split<;>(unfold gN;omega)
def lV(cW:List Int):∀(a:List Int)(k:Nat),(dL cW k a).length=a.length
 |[],k=>rfl
 |w::a,k=>by simp only[dL,aY,lV cW a]
def JQ(cW:List Int):∀(b:List Int)(k j:Nat)(o w:Int),(dL cW k b)[j]? =some o->b[j]? =some w->0<=o/\(0<o->1000<=w)
 |[],k,j,o,w,_,h=>by simp at h
 |v::b,k,0,o,w,a,c=>by
  simp[dL]at a c;subst c;split at a
  .subst a;omega
  .subst a;exact⟨Iy _,Eu⟩
 |v::b,k,j+1,o,w,a,c=>JQ cW b (k+1) j o w (by simpa[dL]using a) (by simpa using c)
def km(n:Nat):(dk n).length=n:=by simp[dk]
def qF{n:Nat}(h:w∈dk n):w=0:=VN h
def uI{g j:Int}{d:List Int}{p:dy}(m:nt b)(l:0<=g)(h:b.cJ[g.toNat]? =some p)(q:d.length=p.params.length)(n:∀w∈d,gN w\/1000<=w):iC b (bX b g j d):=by
 have e:dO b g=p:=by simp[dO,h]
 have i:=m.dz p (aq h);have t:=i.ak;have r:=i.len;have s:=aw h;refine⟨⟨l,by simp only[bX];omega⟩,⟨by simp[bX],by simp only[bX,e];omega⟩,?_,?_,?_,λw a=>?_,λk o w c a=>?_,λw a=>Or.inl (qF a)⟩
 .simp only[bX,e,bd,km];omega
 .simp only[bX,e,bd,km,lV];omega
 .simp only[bX,e,km];omega
 .simp only[bX]at a;rcases List.mem_append.1 a with a|a
  .exact n w a
  .rw[qF a];exact Or.inl (by unfold gN;omega)
 .simp only[bX]at c a;rcases aW k d.length with f|f
  .rw[av (by rw[lV];exact f)]at c;rw[av f]at a;exact JQ _ d 0 k o w c a
  .rw[aJ (by rw[lV];exact f)]at c;rw[qF (iA c)];omega
def qU(b:cQ)(g d:Int)(a:List Int)(c:Nat):df (bX b g d a).ak (bX b g d a).aR c=df a (dL (dO b g).cW 0 a) c:=by
 simp only[bX];rw[GF _ _ (lV _ _ _).symm,tA (λn e=>qF e)];omega
def pK(b:cQ)(g c:Int)(d:List Int)(a:Nat):dG [bX b g c d] a=0:=by
 rw[jc];exact Tc _ _
def Ix{b:cQ}{d:Instr}(f:aX):∀(e:List Int)(k:Nat)(a:Nat),df (cN f e) (dL (dO b d.bP).cW k (cN f e)) a=eC ((iG b d k e).map (aF f.ak)) a
 |[],k,a=>by simp[cN,df,iG,eC]
 |r::h,k,a=>by
  have g:=Ix (b:=b) (d:=d) f h (k+1) a;simp only[cN,cL,dL,df,iG]at g⊢;rw[g];by_cases c:nC b d k=true
  .rw[an c];unfold nC at c;rw[an c];split<;>omega
  .rw[ae c];unfold nC at c;rw[ae c];simp only[cL,eC];have:=xr (aF f.ak r) a;simp only[eC]at this;omega
def JR:∀(a:List Int)(k:Nat)(b:Nat),df a (dL [] k a) b=eC a b
 |[],k,b=>by simp[df,eC]
 |w::a,k,b=>by
  have:=JR a (k+1) b;have c:=xr w b;simp only[eC]at c;simp only[dL,df,eC,this,QM,js,rL];omega
def cR.qB{e:List bE}{c:List aX}(i:cR b s)(l:s.ao=c++[f])(m:g.ba=f.ba)(j:∀a,fP e a<->fP s.heap a):
 (∀a,fP e a->dG (c++[g]) a=1)/\(∀a,¬fP e a->dG (c++[g]) a=0):=by
 have h:∀a,dG (c++[g]) a=dG s.ao a:=λa=>by rw[l,eM,eM,jc,jc,m]
 exact⟨λa d=>by rw[h];exact i.lj a ((j a).1 d),λa d=>by rw[h];exact i.np a λk=>d ((j a).2 k)⟩
def cR.push(h:cR b s)(C:s.cv=3){d:List aX}(e:s.ao=d++[f])(p:iC b g)(hd:0<=g.dst/\g.dst<f.aR.length/\aF f.aR g.dst=0){c:List bE}{br:Int}
 (r:fO c (fC (d++[f,g])))(v:nY c)(t:∀a,fP c a->dG (d++[f,g]) a=1)(w:∀a,¬fP c a->dG (d++[f,g]) a=0)(z:br=s.br+1)(B:s.br<s.dT):
 cR b {s with heap:=c,br:=br,ao:=d++[f,g]}:=by
 have A:=h.br
 have m:=h.depth
 rw[e]at m
 refine⟨h.fB,h.cv,⟨λi=>by simp at i;omega,sx⟩,h.value,h.tU,h.dT,⟨by simp only[];omega,by simp only[];omega⟩,by simp at m⊢;omega,h.aS,r,v,λq a=>?_,λq a=>?_,λk x q c a=>?_,t,w⟩
 .rcases List.mem_append.1 a with a|a
  .exact h.ao q (by rw[e];exact bJ _ a)
  .simp at a
   rcases a with rfl|rfl
   .exact h.ao _ (by rw[e];simp)
   .exact p
 .have j:=h.first
  rw[e]at j
  cases d with
  |nil=>simp at a;subst a;exact j f aL
  |cons y l=>simp at a;subst a;exact j y aL
 .have l:=h.chain k
  rw[e]at l
  simp only[]at c a
  have i:d++[f,g]=(d++[f])++[g]:=aL
  rw[i]at c a
  have u:=aw a
  simp at u
  rw[av bF]at c
  rcases aW (k+1) (d++[f]).length with j|j
  .rw[av j]at a
   exact l x q c a
  .simp at j
   rw[aJ bF]at a
   have n:k+1 -(d++[f]).length=0:=bF
   rw[n]at a;simp at a;subst a
   rw[aJ V]at c
   have o:k -d.length=0:=V
   rw[o]at c;simp at c;subst c;exact hd
def Rt{m:List aX}(d:cR b s)(R:s.cv=3)(p:s.ao=m++[f])
 (M:kv b s f (eA b f) (bD f.ak f.aR (bU b (eA b f))))(bi:¬(mX (eA b f).op/\s.br=s.dT)):
 cR b (eD b s m f (eA b f) (bD f.ak f.aR (bU b (eA b f)))):=by
 have I:iC b f:=d.ao f (by rw[p];simp)
 let⟨ac,hp,aB,hP,a5,hI⟩:=I.JF d.fB
 generalize eA b f=x at*
 have⟨lr,lo,lh⟩:(f.ak.length:Int)=ac.ak/\(f.aR.length:Int)=ac.ak/\(f.ba.length:Int)=ac.ak:=⟨aB▸I.lr,aB▸I.lo,aB▸I.lh⟩
 have al:∀q∈x.args,0<=q/\q<f.ak.length:=λq u=>by have:=hI.args q u;omega
 have a3:∀r∈bU b x,0<=r/\r<f.ak.length:=λr R=>al r (Cs R)
 have bp:=xZ (ak:=f.ak) (bU b x) f.aR a3 V
 have bo:=ka f.ak (bU b x) f.aR
 have bn:=k8 (ak:=f.ak) (bU b x) f.aR
 generalize bD f.ak f.aR (bU b x)=aR at*
 have aH:∀D∈m,iC b D:=λD j=>d.ao D (by rw[p];exact bJ _ j)
 have am:∀c,0<=fC m c+df f.ak aR c:=λc=>by
  have:=KK aH c;have:=tx (ak:=f.ak) M.nn c;omega
 have E:fO s.heap (λc=>fC m c+df f.ak aR c+eC ((bU b x).map (aF f.ak)) c):=d.heap.congr λc=>by
  rw[p,fX,kT,bp];omega
 have bc:∀O:Int,0<=O->O<ac.dt.length->iC b {f with aR:=aR,pc:=O}:=λO h0 e=>
  ⟨I.fG,⟨h0,by rw[aB];exact e⟩,I.lr,by simp only[bo];exact I.lo,I.lh,I.Sv,λy ab w W n=>by
   let⟨D,j,o⟩:=bn y ab W;have B:=I.aR y D w j n;exact⟨M.nn ab (iA W),λk=>B.2 V⟩,I.ba⟩
 have bq:=I.pc
 rw[aB]at bq
 have bb:x.op≠23->x.op≠24->f.pc+1<ac.dt.length:=λe B=>by
  rcases dR (f.pc+1<ac.dt.length)with A|A
  .exact A
  .have T:f.pc.toNat=ac.dt.length -1:=V;rw[T]at a5;have:=hP.Nl x a5;omega
 have Z:x.op≠23->x.op≠24->iC b {f with aR:=aR,pc:=f.pc+1}:=λe B=>bc _ V (bb e B)
 have ar:∀r:Int,0<=r->r<f.ak.length->gN (aF f.ak r)\/1000<=aF f.ak r:=λr h0 e=>I.Sv _ (fA h0 e)
 have a8:∀r:Int,0<=r->r<f.ak.length->aF f.ak r<1000->gN (aF f.ak r):=λr h0 e B=>by rcases ar r h0 e with A|A;exact A;omega
 have ah:=hI.dst
 have a6:lR x.op->aF aR x.dst=0:=λN=>by
  have e:=M.dst N;have B:=M.nn _ (fA (l:=aR) ah.1 V);omega
 have bs:∀r∈bU b x,qE s.heap (aF f.ak r):=λr bd=>by
  have be:=a3 r bd;rcases ar r be.1 be.2 with A|A
  .exact Or.inl A
  .refine Or.inr ⟨A,E.lv _ ?_⟩;have:=am (ix (aF f.ak r));have:=uJ (l:=(bU b x).map (aF f.ak)) (f:=ix (aF f.ak r)) (by rw[iv A];exact List.mem_map.2 ⟨r,bd,rfl⟩);omega
 have aI:∀(O:Int)(a7:List Int)(w ab:Int),lR x.op->∀c,fC (m++[aX.put {f with aR:=aR,pc:=O,ba:=a7} x.dst w ab]) c=fC m c+df f.ak aR c+(if w=1000+(c:Int)then ab else 0):=λO a7 w ab N c=>by
  rw[fX,kT];simp only[aX.put];rw[Og ah.1 V V (a6 N)];omega
 have aO:∀(w:Int)(aS:List Int),lR x.op->x.op≠23->x.op≠24->bU b x=[]->(gN w\/1000<=w)->(∀k∈aS,gN k)->cR b {s with aS:=aS,ao:=m++[aX.put {f with aR:=aR,pc:=f.pc+1} x.dst w 0]}:=λw aS N e B v n W=>by
  let⟨z,P⟩:=d.qB p (g:=aX.put {f with aR:=aR,pc:=f.pc+1} x.dst w 0) rfl (λc=>Ts);refine d.fU R p (hd:=rfl) ((Z e B).put ah.1 n (bZ _) (λA=>V)) (E.congr λc=>?_) d.jA z P W (br:=s.br) ⟨bZ _,d.br.2⟩;rw[aI _ _ _ _ N,v];simp[eC]
 have aQ:∀O:Int,0<=O->O<ac.dt.length->bU b x=[]->cR b {s with ao:=m++[{f with aR:=aR,pc:=O}]}:=λO h0 e v=>by
  let⟨z,P⟩:=d.qB p (g:={f with aR:=aR,pc:=O}) rfl (λc=>Ts);refine d.fU R p (hd:=rfl) (bc O h0 e) (E.congr λc=>?_) d.jA z P d.aS (br:=s.br) ⟨bZ _,d.br.2⟩;rw[fX,kT,v];simp[eC]
 have o:=hI.op
 unfold mf at o
 unfold eD
 simp only[]
 by_cases e0:x.op=0
 .rw[an e0]at o⊢
  exact aO _ _ (by unfold lR;omega) V V (by simp[bU,e0]) (Or.inl o.2) d.aS
 rw[ae e0]at o⊢
 by_cases e1:x.op=1\/x.op=2\/x.op=3\/x.op=4
 .rw[an e1]
  exact aO _ _ (by unfold lR;omega) V V (by unfold bU;rw[ae V,ae V,ae V]) (Or.inl (Ql _ _ _)) d.aS
 rw[ae e1]
 have au:1<=x.args.length->0<=aF x.args 0/\aF x.args 0<f.ak.length:=λe=>al _ (fA V V)
 by_cases e5:x.op=5
 .rw[an e5]
  rw[ae V,an V]at o
  have u:=au V
  have az:gN (aF f.ak (aF x.args 0)):=a8 _ u.1 u.2 (M.nM V _ (fA V V))
  refine aO _ _ (by unfold lR;omega) V V (by simp[bU,e5]) (Or.inl az) λk F=>?_
  rcases List.mem_append.1 F with F|F
  .exact d.aS k F
  .simp at F;subst F;exact az
 rw[ae e5]
 have bf:(bU b x=x.args)->∀w∈cN f x.args,qE s.heap w:=λv w n=>by
  obtain⟨r,Y,rfl⟩:=List.mem_map.1 n;exact bs r (v▸Y)
 have a0:∀aC,bU b x=x.args->x.op≠23->x.op≠24->lR x.op->x.args.length<=3->0<=aC/\aC<=99->cR b {s with heap:=iP s.heap (dF s.heap) ⟨1,aC,cN f x.args⟩,ao:=m++[aX.put {f with aR:=aR,pc:=f.pc+1} x.dst (1000+dF s.heap) 1]}:=λaC v e B N A aY=>by
  let⟨S,k2,k3⟩:=E.alloc (t:=aC) (f:=cN f x.args) (e':=fC (m++[aX.put {f with aR:=aR,pc:=f.pc+1} x.dst (1000+dF s.heap) 1])) (bf v) (by simpa[cN]using A) aY (λc=>by rw[v];have:=am c;simp only[cN];omega) (λc=>by
   rw[aI _ _ _ _ N,v];simp only[cN];have:(if(1000+(dF s.heap:Int))=1000+(c:Int)then(1:Int)else 0)=if c=dF s.heap then 1 else 0:=by
    by_cases k:c=dF s.heap
    .rw[an k,an V]
    .rw[ae k,ae V]
   rw[this];omega) d.jA
  let⟨z,P⟩:=d.qB p (g:=aX.put {f with aR:=aR,pc:=f.pc+1} x.dst (1000+dF s.heap) 1) rfl k2;exact d.fU R p (hd:=rfl) ((Z e B).put ah.1 (Or.inr V) V (λ_=>V)) S k3 z P d.aS (br:=s.br) ⟨bZ _,d.br.2⟩
 have bt:(eW b.bo).length<=12:=by
  have:=rf d.fB.nT.types b.bo.length;rw[mU _ _ (ad _)]at this;exact this
 have bv:=d.fB.nT.len
 by_cases Q:x.op=6
 .rw[an Q]
  rw[ae V,ae V,an Q]at o
  have v:bU b x=x.args:=by unfold bU;rw[an V]
  have N:lR x.op:=by unfold lR;omega
  have aa:x.args.length<=3:=by rw[o.2.1];exact JB d.fB.nT.types _
  split
  .rename_i aE
   have J:0<=x.bY -1/\x.bY -1<f.ba.length:=V
   have hv:=I.ba _ (fA (l:=f.ba) J.1 J.2)
   have K:1000<=aF f.ba (x.bY -1):=V
   have aD:0<dG s.ao (ix (aF f.ba (x.bY -1))):=by
    rw[p,eM,jc];have:=vS m (ix (aF f.ba (x.bY -1)));have:=uJ (l:=f.ba) (f:=ix (aF f.ba (x.bY -1))) (by rw[iv K];exact fA J.1 J.2);omega
   have X:fP s.heap (ix (aF f.ba (x.bY -1))):=dQ λF=>by have:=d.np _ F;omega
   have aj:=d.lj _ X
   let⟨U,hd,ax⟩:=X
   have ay:∀c,eC U.aE c=0:=λc=>nP λn=>by
    have:=((E.cell U (aq hd)).wZ V).2.1 _ n;omega
   have S:=E.make (v:=x.bP) (c:=cN f x.args) (e':=fC (m++[aX.put {f with aR:=aR,pc:=f.pc+1,ba:=gT f.ba (x.bY -1) 0} x.dst (aF f.ba (x.bY -1)) 1])) (f:=ix (aF f.ba (x.bY -1))) (g:=s.heap.set (ix (aF f.ba (x.bY -1))) ⟨1,x.bP,cN f x.args⟩)
    (fP.UD ⟨U,hd,ax⟩) (eL hd) (λc k=>iE k) (λc=>by rw[Av _ hd,ay];simp only[];omega) (bf v) (by simpa[cN]using aa) V (λc=>by rw[v];have:=am c;simp only[cN];omega) (λc=>by
     rw[aI _ _ _ _ N,v];simp only[cN];have:(if aF f.ba (x.bY -1)=1000+(c:Int)then(1:Int)else 0)=if c=ix (aF f.ba (x.bY -1))then 1 else 0:=by
      by_cases k:c=ix (aF f.ba (x.bY -1))
      .rw[an k,an (by rw[k,iv K])]
      .rw[ae k,ae (λH=>k (by rw[H,lB]))]
     rw[this];omega)
   have aA:∀c,eC (gT f.ba (x.bY -1) 0) c=eC f.ba c -(if c=ix (aF f.ba (x.bY -1))then 1 else 0):=by
    intro c;have ai:∀(C:List Int)(y:Nat)(w:Int),C[y]? =some w->eC (C.set y 0) c=eC C c -(if w=1000+(c:Int)then 1 else 0):=by
     intro C;induction C with
     |nil=>intro y w z;simp at z
     |cons af C ih=>
      intro y w z;cases y with
      |zero=>simp at z;subst z;simp only[gE,eC];rw[ae V];omega
      |succ y=>have:=ih y w (by simpa using z);simp only[iB,eC,this];omega
    rw[gT,ai _ _ _ (oE J.1 J.2)];by_cases k:c=ix (aF f.ba (x.bY -1))
    .rw[an k,an (by rw[k,iv K])]
    .rw[ae k,ae (λH=>k (by rw[H,lB]))]
   have L:∀c,dG (m++[aX.put {f with aR:=aR,pc:=f.pc+1,ba:=gT f.ba (x.bY -1) 0} x.dst (aF f.ba (x.bY -1)) 1]) c=dG s.ao c -(if c=ix (aF f.ba (x.bY -1))then 1 else 0):=λc=>by
    rw[p,eM,eM,jc,jc];simp only[aX.put];rw[aA];omega
   have ap:iC b {f with aR:=aR,pc:=f.pc+1,ba:=gT f.ba (x.bY -1) 0}:=by
    have e:=Z V V;exact⟨e.fG,e.pc,e.lr,e.lo,by simp only[jU];exact e.lh,e.Sv,e.aR,λw n=>by rcases pJ n with n|n;exact Or.inl n;exact e.ba w n⟩
   refine d.fU R p (hd:=rfl) (ap.put ah.1 (Or.inr K) V (λ_=>K)) S ?_ (λq u=>?_) (λq u=>?_) d.aS (br:=s.br) ⟨bZ _,d.br.2⟩
   .intro ag G
    rw[eg]at G
    by_cases k:s.heap.length -1=ix (aF f.ba (x.bY -1))
    .rw[k,eL hd]at G;simp at G;subst G;simp
    .rw[iE k]at G;exact d.jA ag G
   .rw[L]
    by_cases k:q=ix (aF f.ba (x.bY -1))
    .subst k;rw[fP.yQ hd]at u;simp at u
    .rw[ae k];rw[fP.ne k]at u;have:=d.lj q u;omega
   .rw[L]
    by_cases k:q=ix (aF f.ba (x.bY -1))
    .subst k;rw[an rfl];omega
    .rw[ae k];rw[fP.ne k]at u;have:=d.np q u;omega
  .exact a0 _ v V V N aa V
 rw[ae Q]
 by_cases X:x.op=10
 .rw[an X]
  rw[ae V,ae V,ae Q,ae V,an X]at o
  obtain⟨⟨D,aG,ap,aK⟩,_⟩:=o
  have A:=(d.fB.nT.dz D (aq ap)).1
  have:=aw ap
  exact a0 _ (by unfold bU;rw[an V]) V V (by unfold lR;omega) V (by unfold cr;omega)
 rw[ae X]
 by_cases aD:x.op=14
 .rw[an aD]
  rw[ae V,an V]at o
  have u:=au V
  have v:bU b x=[]:=by simp[bU,aD]
  let⟨F,U⟩:=M.VS aD
  let⟨z,P⟩:=d.qB p (g:={f with aR:=gT aR (aF x.args 0) (aF aR (aF x.args 0)+1),pc:=f.pc+1}) rfl (λc=>fP.mO F c)
  have e:=Z V V
  refine d.fU R p (hd:=rfl) (g:={f with aR:=gT aR (aF x.args 0) (aF aR (aF x.args 0)+1),pc:=f.pc+1}) ⟨e.fG,e.pc,e.lr,by simp only[jU];exact e.lo,e.lh,e.Sv,λy ab w W n=>?_,e.ba⟩ (E.mO F U λc=>?_) ?_ z P d.aS (br:=s.br) ⟨bZ _,d.br.2⟩
  .simp only[]at W n
   rw[Az]at W
   split at W
   .rename_i J
    simp at W
    have T:aF f.ak (aF x.args 0)=w:=by rw[aF,fS,<-J.1,n];rfl
    have:=M.nn _ (fA (l:=aR) u.1 V)
    have:=F.1
    exact⟨V,λ_=>V⟩
   .exact e.aR y ab w W n
  .rw[fX,kT,v]
   simp only[]
   rw[Iv u.1 u.2 V]
   have J:=iv F.1
   simp only[fF,eC]
   by_cases k:c=ix (aF f.ak (aF x.args 0))
   .rw[an k,an (by rw[k,J])];omega
   .rw[ae k,ae (λH=>k (by rw[H,lB]))];omega
  .let⟨G,aA⟩:=bS F
   intro ag K
   unfold mO at K
   rw[eg]at K
   by_cases k:s.heap.length -1=ix (aF f.ak (aF x.args 0))
   .rw[k,eL G]at K;simp at K;subst K;simp only[];omega
   .rw[iE k]at K;exact d.jA ag K
 rw[ae aD]
 have aP:x.args.length=1->x.args=[aF x.args 0]:=λe=>by
  cases hx:x.args with
  |nil=>rw[hx]at e;simp at e
  |cons af C=>cases C with
   |nil=>rfl
   |cons a_ C=>rw[hx]at e;simp at e
 by_cases a1:x.op=15
 .rw[an a1]
  rw[ae V,an V]at o
  have v:bU b x=[aF x.args 0]:=by unfold bU;rw[an V];exact aP V
  rw[v]at E
  have S:=fO.gV _ s.heap [aF f.ak (aF x.args 0)] (λc=>fC m c+df f.ak aR c) (ad _) (E.congr λc=>rfl) am
  let⟨z,P⟩:=d.qB p (g:={f with aR:=aR,pc:=f.pc+1}) rfl (λc=>(fP.nl (h:=gV s.heap [aF f.ak (aF x.args 0)]) c).trans (fP.gV _ _ _ (ad _) c))
  exact d.fU R p (hd:=rfl) (Z V V) (S.nl.congr λc=>by rw[fX,kT]) (HD _) z P d.aS (br:=s.br) ⟨bZ _,d.br.2⟩
 rw[ae a1]
 by_cases U:x.op=16\/x.op=17
 .rw[an U]
  rw[ae V,ae V,ae Q,ae V,ae X,an U]at o
  have u:=au V
  have v:bU b x=[aF x.args 0]:=by
   unfold bU;rw[ae V,an U];cases hx:x.args with
   |nil=>rw[hx]at o;simp at o
   |cons af C=>rfl
  let⟨F,aN,aT,a2⟩:=M.JN U
  let⟨G,aA⟩:=bS F
  have aU:∀r∈x.args.drop 1,0<=r/\r<aR.length/\1000<=aF f.ak r:=λr Y=>by
   have e:=al r (wS Y);have B:aF f.ak r∈kW (aM s.heap (aF f.ak (aF x.args 0))).aE:=by rw[aN];exact List.mem_map.2 ⟨r,Y,rfl⟩
   exact⟨e.1,V,(lD.1 B).2⟩
  have e:=Z V V
  have aa:iC b {f with aR:=dE aR (x.args.drop 1),pc:=f.pc+1}:=⟨e.fG,e.pc,e.lr,by simp only[lP];exact e.lo,e.lh,e.Sv,K6 (ak:=f.ak) _ aR aU e.aR,e.ba⟩
  have a9:∀c,df f.ak (dE aR (x.args.drop 1)) c=df f.ak aR c+eC (aM s.heap (aF f.ak (aF x.args 0))).aE c:=λc=>by
   rw[FQ (ak:=f.ak) _ _ (λr Y=>oh (aU r Y)) V,<-wi (aM s.heap _).aE,aN];rfl
  have ay:0<fC m (ix (aF f.ak (aF x.args 0)))+df f.ak aR (ix (aF f.ak (aF x.args 0)))+eC ((bU b x).map (aF f.ak)) (ix (aF f.ak (aF x.args 0))):=by
   rw[v];have:=am (ix (aF f.ak (aF x.args 0)));simp only[cL,fF,iW F.1,an,eC];omega
  have ax:∀c,fC m c+df f.ak (dE aR (x.args.drop 1)) c=(fC m c+df f.ak aR c+eC ((bU b x).map (aF f.ak)) c) -(if c=ix (aF f.ak (aF x.args 0))then 1 else 0)+eC (aM s.heap (aF f.ak (aF x.args 0))).aE c:=λc=>by
   rw[a9,v];simp only[cL,fF,iW F.1,eC];omega
  split
  .rename_i aj
   have aZ:=a2 aj.2
   have S:=E.Rk G aj.1 ay (c':=⟨-1,0,dk (aM s.heap (aF f.ak (aF x.args 0))).aE.length⟩) aL aL rfl (λw n=>qF n) (by simp only[km];exact(E.cell _ (aq G)).fl) (sx) (e':=fC (m++[{f with aR:=dE aR (x.args.drop 1),pc:=f.pc+1,ba:=gT f.ba (aF x.args 0) (aF f.ak (aF x.args 0))}])) (λc=>by rw[fX,kT];exact ax c)
   have ai:∀(c:Nat)(w:Int)(C:List Int)(y:Nat),C[y]? =some 0->eC (C.set y w) c=eC C c+(if w=1000+(c:Int)then 1 else 0):=by
    intro c w C;induction C with
    |nil=>intro y z;simp at z
    |cons af C ih=>
     intro y z;cases y with
     |zero=>simp at z;subst z;simp only[gE,eC];split<;>simp_all<;>omega
     |succ y=>have:=ih y (by simpa using z);simp only[iB,eC,this];omega
   have aV:aF x.args 0<f.ba.length:=V
   have L:∀c,dG (m++[{f with aR:=dE aR (x.args.drop 1),pc:=f.pc+1,ba:=gT f.ba (aF x.args 0) (aF f.ak (aF x.args 0))}]) c=dG s.ao c+(if c=ix (aF f.ak (aF x.args 0))then 1 else 0):=λc=>by
    rw[p,eM,eM,jc,jc];have aE:=oE (l:=f.ba) u.1 aV;rw[aZ]at aE;simp only[gT];rw[ai c _ _ _ aE];by_cases k:c=ix (aF f.ak (aF x.args 0))
    .rw[an k,an (by rw[k,iv F.1])];omega
    .rw[ae k,ae (λH=>k (by rw[H,lB]))];omega
   have a4:¬fP s.heap (ix (aF f.ak (aF x.args 0))):=λz=>z.UD F.2
   refine d.fU R p (hd:=rfl) (g:={f with aR:=dE aR (x.args.drop 1),pc:=f.pc+1,ba:=gT f.ba (aF x.args 0) (aF f.ak (aF x.args 0))}) ⟨aa.fG,aa.pc,aa.lr,aa.lo,by simp only[jU];exact aa.lh,aa.Sv,aa.aR,λw n=>?_⟩ S ?_ (λq J=>?_) (λq J=>?_) d.aS (br:=s.br) ⟨bZ _,d.br.2⟩
   .rcases pJ n with n|n
    .rw[n];exact Or.inr F.1
    .exact I.ba w n
   .intro ag K
    rw[eg]at K
    by_cases k:s.heap.length -1=ix (aF f.ak (aF x.args 0))
    .rw[k,eL G]at K;simp at K;subst K;simp
    .rw[iE k]at K;exact d.jA ag K
   .rw[L]
    by_cases k:q=ix (aF f.ak (aF x.args 0))
    .rw[an k,k,d.np _ a4];rfl
    .rw[ae k];rw[fP.ne k]at J;have:=d.lj q J;omega
   .rw[L]
    by_cases k:q=ix (aF f.ak (aF x.args 0))
    .subst k;rw[fP.yQ G]at J;simp at J
    .rw[ae k];rw[fP.ne k]at J;have:=d.np q J;omega
  .let⟨S,k2,k3⟩:=E.apart F ay aT (e':=fC (m++[{f with aR:=dE aR (x.args.drop 1),pc:=f.pc+1}])) (λc=>by rw[fX,kT];exact ax c) d.jA
   let⟨z,P⟩:=d.qB p (g:={f with aR:=dE aR (x.args.drop 1),pc:=f.pc+1}) rfl k2
   exact d.fU R p (hd:=rfl) aa S k3 z P d.aS (br:=s.br) ⟨bZ _,d.br.2⟩
 rw[ae U]
 by_cases a2:x.op=18
 .rw[an a2]
  rw[ae V,an V]at o
  have u:=au V
  have v:bU b x=[aF x.args 0]:=by unfold bU;rw[an V];exact aP V
  have N:lR x.op:=by unfold lR;omega
  let⟨z,P⟩:=d.qB p (g:=aX.put {f with aR:=aR,pc:=f.pc+1} x.dst (aF f.ak (aF x.args 0)) (gJ (aF f.ak (aF x.args 0)))) rfl (λc=>Ts)
  refine d.fU R p (hd:=rfl) ((Z V V).put ah.1 (ar _ u.1 u.2) (Iy _) Eu) (E.congr λc=>?_) d.jA z P d.aS (br:=s.br) ⟨bZ _,d.br.2⟩
  rw[aI _ _ _ _ N,v,xr];rfl
 rw[ae a2]
 by_cases K:x.op=19
 .rw[an K]
  rw[ae V,ae V,ae Q,ae V,ae X,ae U,an K]at o
  let⟨F,k⟩:=M.load K
  let⟨G,aA⟩:=bS F
  refine aO _ _ (by unfold lR;omega) V V (by simp[bU,K]) ?_ d.aS
  rcases((E.cell _ (aq G)).oT aA).1 _ (fA o.2.1 k)with B|B
  .exact Or.inl B
  .exact Or.inr B.1
 rw[ae K]
 by_cases aa:x.op=20
 .rw[an aa]
  rw[ae V,ae V,ae Q,ae V,ae X,ae U,ae K,an aa]at o
  have:=bb V V
  exact aQ _ (by split<;>omega) (by split<;>omega) (by simp[bU,aa])
 rw[ae aa]
 by_cases aj:x.op=21
 .rw[an aj]
  rw[ae V,ae V,ae Q,ae V,ae X,ae U,ae K,ae aa,ae V,an aj]at o
  let⟨F,aY⟩:=M.Fx aj
  have ag:tn (cA b.bo x.bP) (aM s.heap (aF f.ak (aF x.args 0))).j9<(cA b.bo x.bP).length:=tY ⟨_,aY,aL⟩
  let⟨ai,k⟩:=o.2.2
  have:=k _ (fA (l:=x.eO) (i:=(tn (cA b.bo x.bP) (aM s.heap (aF f.ak (aF x.args 0))).j9:Nat)) V V)
  exact aQ _ V V (by simp[bU,aj])
 rw[ae aj]
 by_cases ax:x.op=22
 .rw[an ax]
  rw[ae V,ae V,ae Q,ae V,ae X,ae U,ae K,ae aa,an ax]at o
  exact aQ _ V V (by simp[bU,ax])
 rw[ae ax]
 have bg:∀w∈cN f x.args,gN w\/1000<=w:=λw n=>by
  obtain⟨r,Y,rfl⟩:=List.mem_map.1 n;exact ar r (al r Y).1 (al r Y).2
 have aV:mX x.op->s.br<s.dT:=λG=>by
  have:=d.br;have:s.br≠s.dT:=λT=>bi ⟨G,T⟩;omega
 have a9:∀(hp:List bE),s.br<s.dT->x.op≠23->x.op≠24->∀(g:aX),iC b g->lR x.op->g.dst=x.dst->fO hp (fC (m++[{f with aR:=aR,pc:=f.pc+1},g]))->nY hp->(∀c,fP hp c<->fP s.heap c)->(∀c,dG [g] c=0)->
  cR b {s with br:=s.br+1,heap:=hp,ao:=m++[{f with aR:=aR,pc:=f.pc+1},g]}:=λhp bu e B g hg N bl hH hT hK bm=>by
  have a4:=d.br
  have ay:=d.depth
  rw[p]at ay
  have ee:m++[{f with aR:=aR,pc:=f.pc+1},g]=(m++[{f with aR:=aR,pc:=f.pc+1}])++[g]:=aL
  have L:∀c,dG (m++[{f with aR:=aR,pc:=f.pc+1},g]) c=dG s.ao c:=λc=>by
   rw[ee,eM,bm,p,eM,eM,jc,jc];simp
  refine⟨d.fB,d.cv,⟨λT=>by simp at T;omega,sx⟩,d.value,d.tU,d.dT,⟨by simp only[];omega,by simp only[];omega⟩,by simp at ay⊢;omega,d.aS,hH,hT,λD j=>?_,λD j=>?_,λy p1 D k j=>?_,λq u=>?_,λq u=>?_⟩
  .rcases List.mem_append.1 j with j|j
   .exact aH D j
   .simp at j
    rcases j with rfl|rfl
    .exact Z e B
    .exact hg
  .have ai:=d.first
   rw[p]at ai
   cases m with
   |nil=>simp at j;subst j;exact ai f aL
   |cons af ys=>simp at j;subst j;exact ai af aL
  .have ag:=d.chain y
   rw[p]at ag
   simp only[]at k j
   rw[ee]at k j
   have aU:=aw j
   simp at aU
   rw[av bF]at k
   rcases aW (y+1) (m.length+1)with A|A
   .rw[av bF]at j
    rw[av V]at k
    rcases aW (y+1) m.length with h4|h4
    .rw[av h4]at j
     exact ag p1 D (by rw[av V];exact k) (by rw[av h4];exact j)
    .rw[aJ h4]at j
     have H:y+1 -m.length=0:=V
     rw[H]at j;simp at j;subst j
     exact ag p1 f (by rw[av V];exact k) (by rw[aJ h4,H];rfl)
   .rw[aJ bF]at j
    have H:y+1 -(m++[{f with aR:=aR,pc:=f.pc+1}]).length=0:=bF
    rw[H]at j;simp at j;subst j
    rw[aJ V]at k
    have e3:y -m.length=0:=V
    rw[e3]at k;simp at k;subst k
    rw[bl]
    exact⟨ah.1,by simp only[];omega,a6 N⟩
  .rw[L];exact d.lj q ((hK q).1 u)
  .rw[L];exact d.np q λA=>u ((hK q).2 A)
 by_cases e9:x.op=9
 .rw[an e9]
  rw[ae V,ae V,ae Q,an V]at o
  let⟨D,aG,ap,aK⟩:=o
  have v:bU b x=iG b x 0 x.args:=by unfold bU;rw[ae V,ae V,an V]
  refine a9 s.heap (aV (Or.inl e9)) V V (bX b x.bP x.dst (cN f x.args)) (uI d.fB aG ap (by simp[cN,aK]) bg) (by unfold lR;omega) rfl (E.congr λc=>?_) d.jA (λ_=>Ts) (pK _ _ _ _)
  rw[fX,v]
  simp only[fC]
  rw[qU,Ix];omega
 rw[ae e9]
 by_cases aE:x.op=24
 .rw[an aE]
  rw[ae V,ae V,ae Q,an V]at o
  let⟨D,aG,ap,aK⟩:=o
  have v:bU b x=iG b x 0 x.args:=by unfold bU;rw[ae V,ae V,an V]
  let⟨aN,aZ⟩:=M.zero (Or.inl aE)
  have L:∀c,dG (m++[bX b x.bP f.dst (cN f x.args)]) c=dG s.ao c:=λc=>by
   rw[p,eM,eM,pK,jc,nP (λn=>oh (aZ _ n))]
  have bh:=aV (Or.inr (Or.inr aE))
  refine d.fU R p (hd:=rfl) (uI d.fB aG ap (by simp[cN,aK]) bg) (E.congr λc=>?_) d.jA (λq u=>by rw[L];exact d.lj q u) (λq u=>by rw[L];exact d.np q u) d.aS (br:=s.br+1) V
  rw[fX,kT,qU,Ix,v,tA aN];omega
 rw[ae aE]
 by_cases ap:x.op=11
 .rw[an ap]
  rw[an V]at o
  have v:bU b x=x.args:=by unfold bU;rw[an V]
  have bh:x.args=[aF x.args 0,aF x.args 1]:=by
   cases hx:x.args with
   |nil=>rw[hx]at o;simp at o
   |cons af C=>cases C with
    |nil=>rw[hx]at o;simp at o
    |cons a_ C=>cases C with
     |nil=>rfl
     |cons _ _=>rw[hx]at o;simp at o
  have aG:0<=aF x.args 1/\aF x.args 1<f.ak.length:=al _ (fA V V)
  let⟨F,bk,bw,bj,aK,aT⟩:=M.apply ap
  let⟨G,aA⟩:=bS F
  let⟨D,j⟩:=cG b.cJ (((aM s.heap (aF f.ak (aF x.args 0))).j9 -cr b).toNat)
  have a_:dO b ((aM s.heap (aF f.ak (aF x.args 0))).j9 -cr b)=D:=by simp[dO,j]
  rw[a_]at bj aK
  have C:∀c,eC ((bU b x).map (aF f.ak)) c=(if c=ix (aF f.ak (aF x.args 0))then 1 else 0)+eC [aF f.ak (aF x.args 1)] c:=λc=>by
   rw[v,bh];simp only[cL,fF];rw[iW]
   .rfl
   .exact F.1
  let⟨S,k2,k3⟩:=E.apart F (by simp only[C,an];have:=am (ix (aF f.ak (aF x.args 0)));have:=iF [aF f.ak (aF x.args 1)] (ix (aF f.ak (aF x.args 0)));omega) aT
   (e':=fC (m++[{f with aR:=aR,pc:=f.pc+1},bX b ((aM s.heap (aF f.ak (aF x.args 0))).j9 -cr b) x.dst ((aM s.heap (aF f.ak (aF x.args 0))).aE++[aF f.ak (aF x.args 1)])])) (λc=>by
    rw[fX,C];simp only[fC];rw[qU,a_,List.length_eq_zero_iff.1 aK,JR,lU];omega) d.jA
  refine a9 _ (aV (Or.inr (Or.inl ap))) V V _ (uI d.fB bk j bF λw n=>?_) (by unfold lR;omega) rfl S k3 k2 (pK _ _ _ _)
  rcases List.mem_append.1 n with n|n
  .rcases((E.cell _ (aq G)).oT aA).1 w n with B|B
   .exact Or.inl B
   .exact Or.inr B.1
  .simp at n;subst n;exact ar _ aG.1 aG.2
 rw[ae ap]
 have aA:x.op=23:=by
  rw[ae V]at o;by_cases aA:x.op=23
  .exact aA
  .rw[ae V,ae Q,ae V,ae X,ae U,ae K,ae aa,ae ax,ae aj]at o;exact o.elim
 rw[ae V,an V]at o
 have u:=au V
 have v:bU b x=[aF x.args 0]:=by unfold bU;rw[an V];exact aP V
 let⟨aN,aZ⟩:=M.zero (Or.inr aA)
 have aT:∀c,dG [f] c=0:=λc=>by rw[jc];exact nP (λn=>oh (aZ _ n))
 split
 .rename_i F
  have aG:m=[]:=List.getLast?_eq_none_iff.1 F
  subst aG
  have C:=M.ret aA
  have az:=a8 _ u.1 u.2 (by rcases C with e|e;(rw[p]at e;simp at e);exact e)
  have a4:=d.br
  refine⟨d.fB,⟨aL,aL⟩,aL,az,aL,d.dT,d.br,bF,d.aS,E.congr λc=>?_,d.jA,aL,aL,aL,λq J=>?_,λq J=>?_⟩
  .rw[v,tA aN]
   simp only[fC,cL,fF]
   rw[nP (by simp;have:=az.2;omega)];rfl
  .have e:=d.lj q J
   rw[p]at e
   have B:=aT q
   simp only[eH]at e
   omega
  .simp[dG]
 .rename_i C F
  have aG:m=m.dropLast++[C]:=by
   have a_:m≠[]:=λT=>by rw[T]at F;simp at F
   rw[gD a_]at F;simp at F;rw[<-F];exact(fu a_).symm
  generalize m.dropLast=fs' at aG
  subst aG
  have az:iC b C:=aH C aL
  let⟨aK,bh,bj⟩:=d.chain fs'.length C f (by rw[p];simp) (by rw[p];simp)
  have bk:f.dst<C.ak.length:=by have:=az.lr;have:=az.lo;omega
  have a4:=d.br
  have ay:=d.depth
  rw[p]at ay
  have L:∀c,dG (fs'++[C.put f.dst (aF f.ak (aF x.args 0)) (gJ (aF f.ak (aF x.args 0)))]) c=dG s.ao c:=λc=>by
   rw[p,eM,eM,aT,eM,jc,jc];simp[aX.put]
  refine⟨d.fB,d.cv,⟨λT=>by simp at T;omega,sx⟩,d.value,d.tU,d.dT,d.br,by simp at ay⊢;omega,d.aS,E.congr λc=>?_,d.jA,λD j=>?_,λD j=>?_,λy p1 D k j=>?_,λq J=>by rw[L];exact d.lj q J,λq J=>by rw[L];exact d.np q J⟩
  .rw[fX,kT,fX,kT,v,tA aN]
   simp only[aX.put,cL,fF]
   rw[Og aK bk bh bj,xr];omega
  .rcases List.mem_append.1 j with j|j
   .exact aH D (bJ _ j)
   .simp at j;subst j
    exact az.put aK (ar _ u.1 u.2) (Iy _) Eu
  .have ai:=d.first
   rw[p]at ai
   cases fs' with
   |nil=>simp at j;subst j;exact ai C aL
   |cons af ys=>simp at j;subst j;exact ai af aL
  .have ag:=d.chain y
   rw[p]at ag
   simp only[]at k j
   have aU:=aw j
   simp at aU
   rw[av V]at k
   have e1:(fs'++[C]++[f])[y]? =some p1:=by rw[av bF,av V];exact k
   rcases aW (y+1) fs'.length with A|A
   .rw[av A]at j
    exact ag p1 D e1 (by rw[av bF,av A];exact j)
   .rw[aJ A]at j
    have H:y+1 -fs'.length=0:=V
    rw[H]at j;simp at j;subst j
    exact ag p1 C e1 (by rw[av bF,aJ A,H];rfl)
def Sx(h:cR b s):cR b (kY b s):=by
 unfold kY;by_cases c:s.cv=3
 .rw[ae (by simpa using c)];let⟨j,f,a⟩:=h.split c;have g:s.ao.getLast?=some f:=by rw[a];simp
  have i:s.ao.dropLast=j:=by rw[a];simp
  rw[g,i];simp only[];have d:∀n,1<=n->n<=2->cR b {s with cv:=n}:=λn l m=>
   ⟨h.fB,⟨by simp only[];omega,by simp only[];omega⟩,⟨λe=>by simp only[]at e;omega,λe=>by simp only[]at e;rw[a]at e;simp at e⟩,h.value,λe=>oh (h.tU e),h.dT,h.br,h.depth,h.aS,h.heap,h.jA,h.ao,h.first,h.chain,h.lj,h.np⟩
  split
  .exact d 1 V V
  .rename_i e;split
   .rename_i k;exact Rt h c a k e
   .exact d 2 V V
 .rw[an (by simpa using c)];exact h
end
section
variable{a:cQ}
def rem(a:cQ):List aX->Int
 |[]=>0
 |f::b=>((dO a f.fG).dt.length -f.pc)+rem a b
noncomputable def aD (a:cQ):Nat->St->St
 |0,s=>s
 |n+1,s=>aD a n (kY a s)
def MG(a:cQ):∀(n:Nat)(s:St),aD a (n+1) s=kY a (aD a n s)
 |0,s=>rfl
 |n+1,s=>by rw[aD,MG a n,aD]
def wP{a:cQ}:∀(n:Nat){s:St},cR a s->cR a (aD a n s)
 |0,s,h=>h
 |n+1,s,h=>wP n (Sx h)
def pW{s:St}(h:s.cv≠3):kY a s=s:=by unfold kY;rw[an h]
def DS{a:cQ}:∀(n:Nat){s:St},s.cv≠3->aD a n s=s
 |0,s,_=>rfl
 |n+1,s,h=>by rw[aD,pW h,DS n h]
def lQ(a:cQ)(dT:Int):St:=⟨3,0,0,dT,[],[],[bX a 0 0 []]⟩
def ME{dT:Int}(c:nt a)(n:0<=dT/\dT<=40):cR a (lQ a dT):=by
 have q:=c.nT.len;let⟨p,i⟩:=cG a.cJ 0;have l:=c.nT.first p i;have k:=uI (j:=0) (d:=[]) c (bZ 0) i (by simp[l.1]) aL;have h:∀f,fC [bX a 0 0 []] f=0:=λf=>by rw[kT,qU];simp[df]
 refine⟨c,by simp[lQ],by simp[lQ],by simp[lQ,gN],by simp[lQ],n,by simp[lQ];omega,by simp[lQ],by simp[lQ],⟨by simp[lQ],⟨λ_=>0,by simp[lQ]⟩,by simp[lQ],λd=>by simp only[lQ];rw[h];omega,λd b=>by simp only[lQ]at b;rw[h]at b;omega⟩,?_,?_,?_,?_,λd⟨j,e,_⟩=>by simp[lQ]at e,λd _=>pK _ _ _ _ _⟩
 .intro j e;simp[lQ]at e
 .intro g b;simp[lQ]at b;subst b;exact k
 .intro g b;simp[lQ]at b;subst b;rfl
 .intro r g o b m;simp[lQ]at m
end
section
variable{k:Nat}{m:E}
def lS{b:List bz}{d:bz}:HN b k d<->((zH b.length d.sZ/\zH b.length d.to/\d.cons.length<=3/\(0<d.cons.length->d.sZ=0/\d.to=0))/\
 (∀h∈d.cons,h.length<=3/\FD b.length h)/\∀e∈b.take k,¬(d.cons.length=0/\e.cons.length=0/\e.sZ=d.sZ/\e.to=d.to)):=by
 constructor
 .intro l
  rcases j7 d.cons.length with a|a
  .let⟨c,f,g⟩:=l.Sq a
   refine⟨⟨f,g,V,λl=>V⟩,λh m=>?_,λe i j=>c e i j.2⟩
   rw[List.length_eq_zero_iff.1 a]at m;cases m
  .let⟨c,f,g,h⟩:=l.iZ a
   exact⟨⟨by unfold zH;omega,by unfold zH;omega,c,λ_=>⟨f,g⟩⟩,h,λe i j=>V⟩
 .rintro⟨⟨c,f,g,h⟩,l,m⟩
  exact⟨λa=>⟨g,(h a).1,(h a).2,l⟩,λa=>⟨λe i j=>m e i ⟨a,j⟩,c,f⟩⟩
def Eh{bo:O}{c:List bz}(hd:cy m bo c):dq cg 192 [O.v bo] m (dU c):=by
 apply yH;simp -zeta only[aC,aB];have v:=hd.len;have ao:=hd.cap;refine dit (λaa=>?_) λaa=>?_
 .exact bW (λa=>oh a.len) (J.az _)
 refine dV (n:=c.length) V (λk f=>J m f/\∀(j:Nat)(d:bz),j<k->c[j]? =some d->HN c j d) ⟨J.az _,aL⟩ ?_;rintro j w al μ hj ⟨H,S⟩ ak
 refine dit (λh1=>?_) λh1=>?_
 .let⟨d,D⟩:=cG c j;let⟨A,F,g0,g1,g2⟩:=(cy.ext H hd).aF D;have ar:=F.len;refine⟨V,V,_,g0,_,g1,A,g2,?_⟩;intro m2 q;have I:J w q:=((J.az w).aK _).ah (ad _) _ _;have G:∀r∈[w.size],r<q.size:=by simp[q,m2,ax]
  clear_value q;have K:=H.trans I;have i:∀{f:E},J q f->¬HN c j d->∃M:Bool,vb false=.bool M/\(M=true<->dU c)/\J m f:=λag af=>bW (λa=>af (a.dz j d D)) (K.trans ag);refine⟨λf=>J q f/\zH c.length d.sZ/\zH c.length d.to/\d.cons.length<=3/\(0<d.cons.length->d.sZ=0/\d.to=0),?_,?_⟩
  .refine(pH _ _ _).aG (J.az _) G λr m4 g N s=>⟨_,rfl,λe=>i s λa=>nb g e (v▸(lS.1 a).1.1),λe=>?_⟩;have p:=yb g e;refine(pH _ _ _).aG s G λr u g t b=>⟨_,rfl,λh=>i b λa=>nb g h (v▸(lS.1 a).1.2.1),λh=>?_⟩;have x:=yb g h;rw[v]at p x;refine dit (λy=>?_) λy=>?_
   .exact i b λa=>by have:=(lS.1 a).1.2.2.1;omega
   refine dit (λz=>?_) λz=>?_
   .refine⟨λl=>?_,λl=>?_⟩
    .simp only[vF]at l;exact i b λa=>l ((lS.1 a).1.2.2.2 V).1
    simp only[iN]at l;refine⟨λo=>?_,λo=>?_⟩
    .simp only[vF]at o;exact i b λa=>o ((lS.1 a).1.2.2.2 V).2
    simp only[iN]at o;exact⟨b,p,x,V,λ_=>⟨l,o⟩⟩
   .exact⟨b,p,x,V,λl=>V⟩
  .rintro m4 ⟨W,ae⟩;have ap:=pp.ext (I.trans W) F;refine dV (n:=d.cons.length) V (λk f=>J q f/\∀A∈d.cons.take k,A.length<=3/\FD c.length A) ⟨W,aL⟩ ?_;rintro L u I2 μ2 hi ⟨l,T⟩ ah;refine dit (λN=>?_) λN=>?_
   .let⟨B,o⟩:=cG d.cons L;let⟨P,C,Q⟩:=(pp.ext (I.trans l) F).aF o;have U:=C.len;refine⟨V,V,P,Q,?_⟩;intro x y;have p:J u y:=((J.az u).aK _).ah (ad _) _ _;have R:∀r∈[u.size,w.size],r<y.size:=by
     have:=l.lt (G w.size aL);simp[y,x,ax];omega
    clear_value y;refine dit (λs=>?_) λs=>?_
    .exact i (l.trans p) λa=>by have:=((lS.1 a).2.1 B (aq o)).1;omega
    exact(vT (C.ext p) _).aG (J.az _) R λr z g e t=>⟨_,rfl,λb=>i ((l.trans p).trans e) λa=>nb g b (v▸((lS.1 a).2.1 B (aq o)).2),λb=>ah V _ ⟨(l.trans p).trans e,bB o T ⟨V,v▸yb g b⟩⟩⟩
   .have ab:=de V T;refine⟨V,V,V,?_⟩;have P:cy u (bo.cut 0 j 3) (c.take j):=eR.SN (cy.ext (K.trans l) hd) V;have am:(bo.cut 0 j 3).len=j:=by rw[P.len];simp;omega
    simp -zeta only[tX,Int.toNat_zero];refine dV (n:=j) V (λk f=>J u f/\∀g∈c.take k,¬(d.cons.length=0/\g.cons.length=0/\g.sZ=d.sZ/\g.to=d.to)) ⟨J.az _,aL⟩ ?_;rintro p x Y μ3 av ⟨C,U⟩ ai;refine dit (λs=>?_) λs=>?_
    .let⟨g,Q⟩:=cG c p;have R:(c.take j)[p]? =some g:=by rw[lH,an V];exact Q
     let⟨Z,ac,q0,q1,q2⟩:=(cy.ext C P).aF R;have au:=ac.len;refine⟨V,V,_,q0,_,q1,Z,q2,?_⟩;intro y z;have X:J x z:=((J.az x).aK _).ah (ad _) _ _;clear_value z;have B:¬(d.cons.length=0/\g.cons.length=0/\g.sZ=d.sZ/\g.to=d.to)->Y (cU ((p:Int)+1)) z/\μ3 (cU ((p:Int)+1)) z<μ3 p x:=λo=>ai V _ ⟨C.trans X,bB Q U o⟩;refine⟨λe=>?_,λe=>?_⟩
     .simp only[aH]at e;refine⟨λt=>?_,λt=>?_⟩
      .simp only[aH]at t;refine⟨λb=>?_,λb=>?_⟩
       .simp only[aH]at b;refine⟨λh=>?_,λh=>?_⟩
        .simp only[aH]at h;exact i ((l.trans C).trans X) λa=>(lS.1 a).2.2 g (aq R) ⟨V,V,b,h⟩
        .simp only[aj]at h;exact B λo=>h o.2.2.2
       .simp only[aj]at b;exact B λo=>b o.2.2.1
      .simp only[aj]at t;exact B λo=>t V
     .simp only[aj]at e;exact B λo=>e V
    .have:p=j:=V;subst this;refine ak V _ ⟨(K.trans l).trans C,λb e h a=>?_⟩
     by_cases g:b=p
     .subst g;rw[D]at a;simp at a;subst a;exact lS.2 ⟨ae,ab,U⟩
     .exact S b e V a
 .exact iR ⟨V,λL d bH=>S L d (oh (aw bH)) bH⟩ H
def OH(m:E)(b:List Ce)(p:dy):Prop:=∃a l,b=[.s a,.s l,.i p.aU]/\ap m a p.params/\ap m l p.cW
def OH.ext{m d:E}(b:J m d)(a:List Ce)(c:dy):OH m a c->OH d a c:=λ⟨f,g,e,h,i⟩=>⟨f,g,e,h.ext b,i.ext b⟩
abbrev pB(m:E)(s:O)(l:List dy):Prop:=eR m 3 (OH m) s l
def pB.ext{m b:E}(a:J m b){s:O}{l:List dy}(h:pB m s l):pB b s l:=h.mono a (OH.ext a)
def pB.aF{s:O}{l:List dy}(h:pB m s l){x:dy}(f:l[k]? =some x):
 ∃a b,ap m a x.params/\ap m b x.cW/\af m s.D (s.off+k*3)=some (O.v a)/\af m s.D (s.off+k*3+1)=some (O.v b)/\af m s.D (s.off+k*3+2)=some (vi x.aU):=by
 obtain⟨g,⟨a,b,rfl,d,e⟩,c⟩:=h.iD k x f
 exact⟨a,b,d,e,c 0 (.s a) rfl,c 1 (.s b) rfl,c 2 (.i x.aU) rfl⟩
def Gq{Y Z:O}{q:List bz}{c:List dy}(hd:cy m Y q)(P:pB m Z c):
 dq cg 147 [O.v Y,O.v Z] m (KV q c/\∀p∈c,Ea p.params p.cW):=by
 apply Aj
 simp -zeta only[aC,aB]
 have N:=hd.len
 have aA:=P.len
 refine(Eh hd).then λu m1 e f=>⟨_,rfl,λG=>bW (λa=>nb e G a.1.types) f,λG=>?_⟩
 have ht:=yb e G
 refine dit (λh2=>?_) λh2=>?_
 .exact bW (λa=>oh a.1.len) f
 refine dit (λh3=>?_) λh3=>?_
 .exact bW (λa=>oh a.1.len) f
 let⟨p0,A⟩:=cG c 0
 let⟨a0,l0,al,aD,g0,g1,g2⟩:=(pB.ext f P).aF A
 have ay:=al.len
 refine⟨V,V,a0,g0,dit (λh4=>?_) λh4=>?_⟩
 .exact bW (λa=>oh ((a.1.first p0 A).1)) f
 refine⟨V,V,_,g2,λs=>?_,λs=>?_⟩
 .simp only[vF]at s
  exact bW (λa=>s (a.1.first p0 A).2) f
 simp only[iN]at s
 refine dV (n:=c.length) V (λj U=>J m U/\∀p∈c.take j,(p.params.length<=3/\FD q.length p.params/\zH q.length p.aU)/\Ea p.params p.cW) ⟨f,aL⟩ ?_
 rintro j C au μ hj ⟨l,hn⟩ ap
 refine dit (λh6=>?_) λh6=>?_
 .let⟨p,i⟩:=cG c j
  let⟨ah,ao,M,z,q0,q1,q2⟩:=(pB.ext l P).aF i
  have az:=M.len
  have aF:=z.len
  have aE:=z.gW
  refine⟨V,V,ah,q0,ao,q1,_,q2,?_⟩
  intro m3 D
  have o:J C D:=((J.az C).aK _).ah (ad _) _ _
  have aa:∀u∈[C.size],u<D.size:=by simp[D,m3,ax]
  clear_value D
  refine dit (λh7=>?_) λh7=>?_
  .exact bW (λa=>oh ((a.1.dz p (aq i)).1)) (l.trans o)
  refine(vT (M.ext o) _).aG (J.az _) aa λu m5 e h8 h9=>⟨_,rfl,λH=>bW (λa=>nb e H (N▸(a.1.dz p (aq i)).2.1)) ((l.trans o).trans h8),λH=>?_⟩
  have ac:=yb e H
  refine(pH _ _ _).aG h9 aa λu W e av I=>⟨_,rfl,λK=>bW (λa=>nb e K (N▸(a.1.dz p (aq i)).2.2)) ((l.trans o).trans I),λK=>?_⟩
  have ab:=yb e K
  rw[N]at ac ab
  have ae:J m W:=(l.trans o).trans I
  have S:J C W:=o.trans I
  refine dV (n:=p.cW.length) V (λk U=>U=W/\∀(j:Nat)(v:Int),j<k->p.cW[j]? =some v->(∃t,0<=v/\p.params[v.toNat]? =some t/\t≠0)/\(∀E:Int,0<j->p.cW[j -1]? =some E->E<v)) ⟨rfl,aL⟩ ?_
  rintro k m7 I2 μ2 hk ⟨rfl,Q⟩ af
  have w:¬Ea p.params p.cW->∃X:Bool,vb false=.bool X/\(X=true<->KV q c/\∀p∈c,Ea p.params p.cW)/\J m m7:=λan=>bW (λa=>an (a.2 p (aq i))) ae
  refine dit (λai=>?_) λai=>?_
  .let⟨x,g⟩:=cG p.cW k
   refine⟨V,V,x,by simpa using S.af (z.aF g),dit (λak=>?_) λak=>?_⟩
   .exact w λa=>by obtain⟨⟨t,y,_⟩,_⟩:=a k x g;omega
   refine⟨λy=>?_,λy=>?_⟩
   .simp only[oA,ar]at y
    refine w λa=>?_
    obtain⟨⟨t,_,d,_⟩,_⟩:=a k x g
    have:=aw d;omega
   simp only[oA,bM]at y
   let⟨t,B⟩:=cG p.params x.toNat
   refine⟨V,V,t,by simpa using S.af (M.aF B),λd=>?_,λd=>?_⟩
   .simp only[aH]at d
    refine w λa=>?_
    obtain⟨⟨b,_,r,L⟩,_⟩:=a k x g
    rw[B]at r;simp at r;exact L (r▸d)
   simp only[aj]at d
   refine dit (λr=>?_) λr=>?_
   .have e2:cU ((k:Int) -1)=((k -1:Nat):Int):=by rw[aP V V];omega
    let⟨ag,T⟩:=cG p.cW (k -1)
    rw[e2]
    refine⟨V,V,ag,by simpa using S.af (z.aF T),dit (λL=>?_) λL=>?_⟩
    .exact w λa=>by have:=(a k x g).2 ag V T;omega
    .refine af V _ ⟨rfl,λh v am b=>?_⟩
     by_cases F:h=k
     .subst F
      rw[g]at b;simp at b;subst b
      refine⟨⟨t,V,B,d⟩,λE _ R=>?_⟩
      rw[T]at R;simp at R;subst R;omega
     .exact Q h v V b
   .refine af V _ ⟨rfl,λh v am b=>?_⟩
    by_cases F:h=k
    .subst F
     rw[g]at b;simp at b;subst b
     exact⟨⟨t,V,B,d⟩,λE L _=>V⟩
    .exact Q h v V b
  .exact ap V _ ⟨ae,bB i hn ⟨⟨V,ac,ab⟩,λh v b=>Q h v (oh (aw b)) b⟩⟩
 .have b:=de V hn
  refine iR ⟨⟨ht,V,λp a=>(b p a).1,λp a=>?_⟩,λp a=>(b p a).2⟩ l
  rw[A]at a;simp at a;subst a
  exact⟨V,s⟩
end
section
variable{c:E}{d f a j:O}{b:cQ}{i:Instr}
def Gl{H:O}(D:fy c d H b):
 aN cg 74 [.agg #[O.v d,O.v H]] c λan t=>∃T f e,an=.tuple #[.agg #[O.v T,O.v f],vb e]/\(e=true<->KV b.bo b.cJ/\∀H∈b.cJ,Ea H.params H.cW)/\
  (e=true->T=d/\pB t f b.cJ)/\J c t:=by
 apply Ah
 simp -zeta only[aC,aB]
 intro G h
 have aq:=D.cJ.len
 have s1:G.size=c.size+1:=by simp[G]
 have s2:h.size=c.size+2:=by simp[h,G]
 have ab:J c h:=((J.az c).aK _).aK _
 refine dit (λh1=>?_) λh1=>?_
 .intro g
  exact⟨_,_,_,rfl,⟨sx,λD=>oh D.1.len⟩,sx,ab.ah V _ _⟩
 intro m4 C
 have s5:C.size=c.size+3:=by simp[C,m4,ax,s2]
 have al:J c C:=(ab.aK _).ah V _ _
 have ah:cF C h.size me [.s d,.s .nil]:=cF.ah (m:=m4) (o:=0) (r:=[.s d,.s .nil]) (cF.push h _ _)
 clear_value C
 refine dV (n:=b.cJ.length) V (λM t=>J c t/\C.size<=t.size/\∃g w,cF t h.size me [.s d,.s g]/\gZ c t pY 3 g w.flatten/\gS 3 (OH c) w (b.cJ.take M)/\(g≠.nil->h.size<g.D)/\g.len=M)
  ⟨al,ad _,.nil,[],ah,gZ.nil _ _ _ _,by simpa using gS.nil 3 (OH c),aL,rfl⟩ ?_
 rintro M i ao μ hk ⟨l,ar,g,w,s,K,L,Q,aa⟩ am
 refine dit (λh2=>?_) λh2=>?_
 .let⟨N,Y⟩:=cG b.cJ M
  let⟨a,e,ac,ha,p,y,g0,g1,g2,g3,g4⟩:=D.cJ.aF Y
  refine⟨V,V,a,by simpa using l.af g0,e,by simpa using l.af g1,_,by simpa using l.af g2,_,by simpa using l.af g3,ac,by simpa using l.af g4,?_⟩
  intro S j
  have F:J i j:=((J.az i).aK _).ah (ad _) _ _
  have s8:j.size=i.size+1:=by simp[j,S,ax]
  clear_value j
  refine⟨g,(s.ext F).cp 1,?_⟩
  intro u
  have R:J i u:=F.aK _
  have s9:u.size=i.size+2:=by simp[u,s8]
  have jv:fQ u j.size 0 [.s a,.s e,.i N.aU]:=(cF.push j _ _).iD
  clear_value u
  refine gZ.append (zs:=[.s .nil,.s .nil,.i 0]) (d:=[.s a,.s e,.i N.aU]) (K.ext R) (l.trans R) rfl jv (by simp[aa];omega) ?_
  intro v A h7 h8 U ap ae af
  have Z:v≠.nil->h.size<v.D:=by
   intro z;rcases af with⟨_,x⟩|⟨aj,x,_⟩|x
   .exact absurd x z
   .have:=Q aj;omega
   .omega
  have I:∀k,k<u.size->k<=h.size\/k=i.size/\(g=.nil\/g.D<i.size)->A[k]? =u[k]? :=by
   intro k q y;refine ae k q λz=>?_;have:=Q z;rcases y with y|⟨rfl,y|y⟩
   .omega
   .exact absurd y z
   .omega
  have ai:g=.nil\/g.D<i.size:=K.lt
  have W:cF A h.size me [.s d,.s g]:=(s.ext R).congr (I _ V (Or.inl (ad _)))
  refine⟨λk q=>?_,W.fL aL,?_⟩
  .simp at q
   rcases q with rfl|rfl|rfl
   .exact I _ V (Or.inr ⟨rfl,ai⟩)
   .exact I _ V (Or.inl V)
   .exact I _ V (Or.inl V)
  intro B
  have au:B.size=A.size:=by simp[B,ax]
  have ag:cF B h.size me [.s d,.s v]:=cF.ah (m:=A) (o:=1) (r:=[.s v]) W
  have X:∀e,e≠h.size->B[e]? =A[e]? :=λe p=>be _ _ _ _ p
  have ak:J c B:=h8.ah V _ _
  clear_value B
  refine⟨λk q=>?_,?_⟩
  .simp at q
   rcases q with rfl|rfl|rfl<;>exact X _ V
  refine am V _ ⟨ak,V,v,w++[[.s a,.s e,.i N.aU]],ag,?_,?_,Z,by simp[U,aa]⟩
  .rw[qM]
   have P:gZ c A pY 3 v (w.flatten++[[.s a,.s e,.i N.aU]].flatten):=by simpa using h7
   rcases P.lt with x|x
   .subst x;exact⟨P.len,Or.inl rfl⟩
   .refine P.congr (X _ λe2=>?_)
    by_cases E:v=.nil
    .subst E
     have:=U
     simp at this
    .have:=Z E;omega
  .rw[aT Y]
   exact L.yS rfl ⟨a,e,rfl,ha,p⟩
 .rw[bV V]at L
  have x:pB i g b.cJ:=(eR.gA K L V V).mono (J.az _) (OH.ext l)
  refine⟨d,s.cp 0,g,s.cp 1,g,s.cp 1,?_⟩
  have u:∀e∈[G.size,c.size],e<i.size:=bF
  refine(Gq (cy.ext l D.bo) x).aG (J.az _) u λe S p k _=>⟨_,rfl,k.db (s.cp 0),k.db (s.cp 1),?_⟩
  intro j
  have z:∀e,e≠G.size->j[e]? =S[e]? :=λe p=>be _ _ _ _ p
  have F:J c j:=(l.trans k).ah V _ _
  refine⟨d,g,e,rfl,p,λ_=>⟨rfl,?_⟩,F⟩
  have q:=K.ext k
  have v:gZ c j pY 3 g w.flatten:=by
   by_cases E:g=.nil
   .subst E;exact⟨q.len,Or.inl rfl⟩
   .exact q.congr (z _ (oh (Q E)))
  exact(eR.gA v L V V).mono (J.az _) (OH.ext F)
def gL(b:cQ)(i:Instr)(a:Int->Prop):Prop:=
 if i.op=0 then -999<=i.bP/\i.bP<=999
 else if i.op=6 then 0<=i.bP/\i.bP<(eW b.bo).length
 else if i.op=9\/i.op=24 then 0<=i.bP/\i.bP<b.cJ.length
 else if i.op=10 then 0<=i.bP/\∃q,b.cJ[i.bP.toNat]? =some q/\q.cW.length=0
 else if i.op=19 then 0<=i.bP/\i.bP<3
 else if i.op=20\/i.op=22 then a i.bP
 else if i.op=21 then 0<(cA b.bo i.bP).length/\i.eO.length=(cA b.bo i.bP).length
 else i.bP=0
def Il(hd:cy c d b.bo)(x:dU b.bo)(A:pB c f b.cJ)(N:ap c a i.args)(E:ap c j i.eO)(t:Nat)(v u:Array Value)(D:GL.elem t=true)(l:Int->Prop)
 (G:∀e,J c e->dq cg t (v.toList++[vi i.bP]++u.toList) e (l i.bP)):
 dq cg 150 [.agg #[O.v d,O.v f],.agg #[vi i.op,vi i.dst,vi i.bP,vi i.bY,O.v a,O.v j],.func (.func t) v u] c (gL b i l):=by
 apply qD d f i.op i.dst i.bP i.bY a j (.func t,v,u)
 simp -zeta only[aC,aB]
 intro y r
 have e:J c r:=((J.az c).aK _).aK _
 have w:∀z∈[y.size,c.size],z<r.size:=by simp[r,y];omega
 have Q:=A.len
 have R:=E.len
 have C:cF r y.size dX [.i i.op,.i i.dst,.i i.bP,.i i.bY,.s a,.s j]:=cF.push _ _ _
 clear_value r
 refine⟨λk=>?_,λk=>?_⟩
 .simp only[aH]at k
  rw[show gL b i l<->-999<=i.bP/\i.bP<=999 by rw[gL,an k]]
  refine⟨λh=>eU ?_ e,λh=>bW ?_ e⟩<;>simp at h
  .simp;omega
  .omega
 simp only[aj]at k
 refine⟨λm=>?_,λm=>?_⟩
 .simp only[aH]at m
  rw[show gL b i l<->0<=i.bP/\i.bP<(eW b.bo).length by rw[gL,ae k,an m]]
  refine⟨λh=>?_,λh=>bW ?_ e⟩<;>simp at h
  .refine(qC (cy.ext e hd) x.len (OO x)).aG (J.az _) w λB g _=>⟨_,rfl,g.db (C.cp 2),eU ?_ (e.trans g)⟩
   simp;omega
  .omega
 simp only[aj]at m
 refine⟨λn=>?_,λn=>?_⟩
 .simp only[bQ,aH]at n
  rw[show gL b i l<->0<=i.bP/\i.bP<b.cJ.length by rw[gL,ae k,ae m,an n]]
  refine⟨λh=>eU ?_ e,λh=>bW ?_ e⟩<;>simp at h
  .simp;omega
  .omega
 simp only[bt,aj]at n
 replace n:¬(i.op=9\/i.op=24):=V
 refine⟨λo=>?_,λo=>?_⟩
 .simp only[aH]at o
  rw[show gL b i l<->0<=i.bP/\∃q,b.cJ[i.bP.toNat]? =some q/\q.cW.length=0 by rw[gL,ae k,ae m,ae n,an o]]
  refine⟨λh=>⟨λp=>?_,λp=>?_⟩,λh=>bW ?_ e⟩<;>simp at h
  .simp at p
   let⟨q,s⟩:=cG b.cJ i.bP.toNat
   let⟨I,H,P,F,K,g1,g2⟩:=(pB.ext e A).aF s
   have:=F.len
   refine⟨V,V,H,g1,eU ?_ e⟩
   simp only[aH]
   refine⟨λL=>⟨h,q,s,V⟩,λ⟨_,S,g,M⟩=>?_⟩
   rw[s]at g;simp at g;subst g;omega
  .simp at p
   exact bW (λ⟨_,q,g,_⟩=>oh (aw g)) e
  .omega
 simp only[aj]at o
 refine⟨λp=>?_,λp=>?_⟩
 .simp only[aH]at p
  rw[show gL b i l<->0<=i.bP/\i.bP<3 by rw[gL,ae k,ae m,ae n,ae o,an p]]
  refine⟨λh=>eU ?_ e,λh=>bW ?_ e⟩<;>simp at h
  .simp;omega
  .omega
 simp only[aj]at p
 refine⟨λq=>?_,λq=>?_⟩
 .simp only[bQ,aH]at q
  rw[show gL b i l<->l i.bP by rw[gL,ae k,ae m,ae n,ae o,ae p,an q]]
  exact⟨t,rfl,D,(G r e).aG (J.az _) w λz B s g _=>⟨_,rfl,eU s (e.trans g)⟩⟩
 simp only[bt,aj]at q
 replace q:¬(i.op=20\/i.op=22):=V
 refine⟨λs=>?_,λs=>?_⟩
 .simp only[aH]at s
  rw[show gL b i l<->0<(cA b.bo i.bP).length/\i.eO.length=(cA b.bo i.bP).length by rw[gL,ae k,ae m,ae n,ae o,ae p,ae q,an s]]
  refine(tp (cy.ext e hd) x _).aG (J.az _) w ?_
  rintro _ B ⟨H,rfl,F,g⟩
  have:=F.len
  refine⟨g,_,rfl,λh=>eU ?_ (e.trans g),λh=>bW ?_ (e.trans g)⟩<;>simp at h
  .simp only[aH];omega
  .omega
 .simp only[aj]at s
  rw[show gL b i l<->i.bP=0 by rw[gL,ae k,ae m,ae n,ae o,ae p,ae q,ae s]]
  exact eU aL e
def hO(b:cQ)(i:Instr)(c a:Int):Prop:=
 if i.op=0\/i.op=22 then c=0/\a=0
 else if i.op=1\/i.op=2\/i.op=3\/i.op=4\/i.op=11 then c=2/\a=2
 else if i.op=6 then c=(cE b.bo i.bP).length/\a=(cE b.bo i.bP).length
 else if i.op=9\/i.op=24 then∃q,b.cJ[i.bP.toNat]? =some q/\c=q.params.length/\a=q.params.length
 else if i.op=10 then∃q,b.cJ[i.bP.toNat]? =some q/\c=(q.params.length:Int) -1/\a=(q.params.length:Int) -1
 else if i.op=16\/i.op=17 then c=1/\a=4
 else c=1/\a=1
def LC(hd:cy c d b.bo)(A:dU b.bo)(x:pB c f b.cJ){H:Int->Prop}(t:gL b i H):
 aN cg 151 [.agg #[O.v d,O.v f],.agg #[vi i.op,vi i.dst,vi i.bP,vi i.bY,O.v a,O.v j]] c λK I=>∃B z:Int,K=.tuple #[vi B,vi z]/\hO b i B z/\J c I:=by
 apply rU
 simp -zeta only[aC,aB]
 intro C u
 have g:J c u:=((J.az c).aK _).aK _
 have E:∀D∈[C.size,c.size],D<u.size:=by simp[u,C];omega
 have M:=x.len
 clear_value u
 refine⟨λh=>?_,λh=>?_⟩
 .simp only[bQ,aH]at h
  exact⟨_,_,rfl,by rw[hO,an h];exact⟨rfl,rfl⟩,g⟩
 simp only[bt,aj]at h
 have l:¬(i.op=0\/i.op=22):=V
 refine⟨λq=>?_,λq=>?_⟩
 .simp only[bQ,aH]at q
  exact⟨_,_,rfl,by rw[hO,ae l,an q];exact⟨rfl,rfl⟩,g⟩
 simp only[bt,aj]at q
 have n:¬(i.op=1\/i.op=2\/i.op=3\/i.op=4\/i.op=11):=V
 refine⟨λe=>?_,λe=>?_⟩
 .simp only[aH]at e
  rw[gL,ae h.1,an e]at t
  have m:=rf A b.bo.length
  rw[mU _ _ (ad _)]at m
  refine(Ig (cy.ext g hd) A _ V).aG (J.az _) E ?_
  rintro _ p ⟨s,rfl,o,k⟩
  have:=o.len
  exact⟨k,_,rfl,_,_,rfl,by rw[hO,ae l,ae n,an e];omega,g.trans k⟩
 simp only[aj]at e
 refine⟨λo=>?_,λo=>?_⟩
 .simp only[bQ,aH]at o
  rw[gL,ae h.1,ae e,an o]at t
  let⟨v,m⟩:=cG b.cJ i.bP.toNat
  let⟨p,G,s,F,w,g1,g2⟩:=(pB.ext g x).aF m
  have:=s.len
  exact⟨V,V,p,w,_,_,rfl,by rw[hO,ae l,ae n,ae e,an o];exact⟨v,m,V,V⟩,g⟩
 simp only[bt,aj]at o
 have r:¬(i.op=9\/i.op=24):=V
 refine⟨λk=>?_,λk=>?_⟩
 .simp only[aH]at k
  rw[gL,ae h.1,ae e,ae r,an k]at t
  obtain⟨L,v,m,_⟩:=t
  let⟨p,G,s,F,w,g1,g2⟩:=(pB.ext g x).aF m
  have:=s.len
  have:=s.gW
  have:=aw m
  have y:cU ((p.len:Int) -1)=(v.params.length:Int) -1:=by rw[aP V V];omega
  exact⟨V,V,p,w,_,_,rfl,by rw[hO,ae l,ae n,ae e,ae r,an k];exact⟨v,m,y,y⟩,g⟩
 simp only[aj]at k
 refine⟨λm=>?_,λm=>?_⟩
 .simp only[bQ,aH]at m
  exact⟨_,_,rfl,by rw[hO,ae l,ae n,ae e,ae r,ae k,an m];exact⟨rfl,rfl⟩,g⟩
 .simp only[bt,aj]at m
  have p:¬(i.op=16\/i.op=17):=V
  exact⟨_,_,rfl,by rw[hO,ae l,ae n,ae e,ae r,ae k,ae p];exact⟨rfl,rfl⟩,g⟩
end
section
variable{m:E}{x k:Int}{a b1:Nat}{c:O}
def yi(b:af m a 0=some (vi k))(d:af m b1 4=some (O.v c)):
 dq cg 148 [vi x,vp a 0,vp b1 0] m (k+1<=x/\x<=(c.len:Int) -1):=by
 apply oH (a,0) (b1,0)
 refine⟨k,b,λh=>⟨c,d,eU ?_ (J.az _)⟩,λh=>bW ?_ (J.az _)⟩<;>simp at h
 .simp;omega
 .omega
def J5{b2:Nat}(b:af m a 0=some (vi k))(d:af m b1 4=some (O.v c))
 (e:af m b2 0=some (.func (.func 148) #[] #[vp a 0,vp b1 0])):
 dq cg 149 [vi x,vp b2 0] m (¬(k+1<=x/\x<=(c.len:Int) -1)):=by
 apply oI (b2,0)
 refine⟨(.func 148,#[],#[vp a 0,vp b1 0]),e,_,rfl,rfl,?_⟩
 refine(yi b d).then λh i f g=>⟨_,rfl,eU ?_ g⟩
 rw[<-f];simp
def JG{u:cQ}{p:dy}{k:Nat}{i:Instr}(N:p.ak<=2000)(L:u.cJ.length<=4)(F:∀q∈u.cJ,q.params.length<=3):
 iS u p k i<->((0<=i.op/\i.op<=24/\i.op≠7/\i.op≠8/\i.op≠12/\i.op≠13)/\(0<=i.dst/\i.dst<p.ak/\(i.dst=0\/lR i.op)/\0<=i.bY/\i.bY<=p.ak/\(i.bY=0\/i.op=6))/\
  (∀n∈i.args,0<=n/\n<p.ak)/\(i.eO.length=0\/i.op=21)/\(∀t∈i.eO,(k:Int)+1<=t/\t<=(p.dt.length:Int) -1)/\
  gL u i (λt=>(k:Int)+1<=t/\t<=(p.dt.length:Int) -1)/\∀j h,hO u i j h->j<=i.args.length/\(i.args.length:Int)<=h):=by
 have M:(0<=i.dst/\i.dst<p.ak)->0<p.ak:=λw=>V
 constructor
 .intro w
  have b:=w.op
  have hd:=w.dst
  have C:∀n∈i.args,0<=n/\n<p.ak:=λn f=>by have:=w.args n f;omega
  have s:i.op≠21->∀t∈i.eO,(k:Int)+1<=t/\t<=(p.dt.length:Int) -1:=λH t I=>by
   rcases w.eO with o|o
   .exact absurd o H
   .rw[List.length_eq_zero_iff.1 o]at I;cases I
  have D:i.eO.length=0\/i.op=21:=w.eO.symm
  have G:0<=i.dst/\i.dst<p.ak:=V
  have iK:∀(_:0<=i.op/\i.op<=24/\i.op≠7/\i.op≠8/\i.op≠12/\i.op≠13)(_:0<=i.bY/\i.bY<=p.ak)(_:∀t∈i.eO,(k:Int)+1<=t/\t<=(p.dt.length:Int) -1)
   (_:gL u i (λt=>(k:Int)+1<=t/\t<=(p.dt.length:Int) -1))(_:∀j h,hO u i j h->j<=i.args.length/\(i.args.length:Int)<=h),_:=
   λE B F K o=>(⟨E,⟨G.1,G.2,w.YA,B.1,B.2,w.bY⟩,C,D,F,K,o⟩:(0<=i.op/\i.op<=24/\i.op≠7/\i.op≠8/\i.op≠12/\i.op≠13)/\(0<=i.dst/\i.dst<p.ak/\(i.dst=0\/lR i.op)/\0<=i.bY/\i.bY<=p.ak/\(i.bY=0\/i.op=6))/\
   (∀n∈i.args,0<=n/\n<p.ak)/\(i.eO.length=0\/i.op=21)/\(∀t∈i.eO,(k:Int)+1<=t/\t<=(p.dt.length:Int) -1)/\
   gL u i (λt=>(k:Int)+1<=t/\t<=(p.dt.length:Int) -1)/\∀j h,hO u i j h->j<=i.args.length/\(i.args.length:Int)<=h)
  have r:i.op≠6->0<=i.bY/\i.bY<=p.ak:=λH=>by rcases w.bY with o|o<;>omega
  unfold mf at b
  by_cases c:i.op=0
  .rw[an c]at b
   refine iK V (r V) (s V) (by rw[gL,an c];exact b.2) (λj h f=>?_)
   rw[hO,an (Or.inl c)]at f;omega
  rw[ae c]at b
  by_cases g:i.op=1\/i.op=2\/i.op=3\/i.op=4\/i.op=11
  .rw[an g]at b
   refine iK V (r V) (s V) ?_ (λj h f=>?_)
   .rw[gL,ae c,ae V,ae V,ae V,ae V,ae V,ae V];exact b.2
   .rw[hO,ae V,an g]at f;omega
  rw[ae g]at b
  by_cases A:i.op=5\/i.op=14\/i.op=15\/i.op=18\/i.op=23
  .rw[an A]at b
   refine iK V (r V) (s V) ?_ (λj h f=>?_)
   .rw[gL,ae c,ae V,ae V,ae V,ae V,ae V,ae V];exact b.2
   .rw[hO,ae V,ae g,ae V,ae V,ae V,ae V]at f;omega
  rw[ae A]at b
  by_cases a:i.op=6
  .rw[an a]at b
   refine iK V b.2.2 (s V) ?_ (λj h f=>?_)
   .rw[gL,ae c,an a];exact b.1
   .rw[hO,ae V,ae g,an a]at f;omega
  rw[ae a]at b
  by_cases d:i.op=9\/i.op=24
  .rw[an d]at b
   let⟨q,o,x,v⟩:=b
   have:=aw x
   refine iK V (r V) (s V) ?_ (λj h f=>?_)
   .rw[gL,ae c,ae a,an d];omega
   .rw[hO,ae V,ae g,ae a,an d]at f
    let⟨J,l,y,m⟩:=f
    rw[x]at l;simp at l;subst l;omega
  rw[ae d]at b
  by_cases e:i.op=10
  .rw[an e]at b
   let⟨⟨q,o,x,v⟩,l⟩:=b
   have:=aw x
   refine iK V (r V) (s V) ?_ (λj h f=>?_)
   .rw[gL,ae c,ae a,ae d,an e];exact⟨o,q,x,l q x⟩
   .rw[hO,ae V,ae g,ae a,ae d,an e]at f
    let⟨J,l,y,m⟩:=f
    rw[x]at l;simp at l;subst l;omega
  rw[ae e]at b
  by_cases l:i.op=16\/i.op=17
  .rw[an l]at b
   refine iK V (r V) (s V) ?_ (λj h f=>?_)
   .rw[gL,ae c,ae a,ae d,ae e,ae V,ae V,ae V];exact b.2
   .rw[hO,ae V,ae g,ae a,ae d,ae e,an l]at f;omega
  rw[ae l]at b
  by_cases m:i.op=19
  .rw[an m]at b
   refine iK V (r V) (s V) ?_ (λj h f=>?_)
   .rw[gL,ae c,ae a,ae d,ae e,an m];omega
   .rw[hO,ae V,ae g,ae a,ae d,ae e,ae l]at f;omega
  rw[ae m]at b
  by_cases z:i.op=20
  .rw[an z]at b
   refine iK V (r V) (s V) ?_ (λj h f=>?_)
   .rw[gL,ae c,ae a,ae d,ae e,ae m,an (Or.inl z)];exact b.2
   .rw[hO,ae V,ae g,ae a,ae d,ae e,ae l]at f;omega
  rw[ae z]at b
  by_cases v:i.op=22
  .rw[an v]at b
   refine iK V (r V) (s V) ?_ (λj h f=>?_)
   .rw[gL,ae c,ae a,ae d,ae e,ae m,an (Or.inr v)];exact b.2
   .rw[hO,an (Or.inr v)]at f;omega
  rw[ae v]at b
  by_cases y:i.op=21
  .rw[an y]at b
   refine iK V (r V) b.2.2.2 ?_ (λj h f=>?_)
   .rw[gL,ae c,ae a,ae d,ae e,ae m,ae V,an y]
    have:=b.2.2.1
    exact⟨b.2.1,V⟩
   .rw[hO,ae V,ae g,ae a,ae d,ae e,ae l]at f;omega
  rw[ae y]at b
  exact b.elim
 .rintro⟨E,B,C,D,s,b,h⟩
  refine⟨λn f=>oh (C n f),V,B.2.2.1,B.2.2.2.2.2,D.symm,?_⟩
  unfold mf
  by_cases c:i.op=0
  .rw[an c]
   rw[gL,an c]at b
   have:=h 0 0 (by rw[hO,an (Or.inl c)];exact⟨rfl,rfl⟩)
   exact⟨V,b⟩
  rw[ae c]
  by_cases g:i.op=1\/i.op=2\/i.op=3\/i.op=4\/i.op=11
  .rw[an g]
   rw[gL,ae c,ae V,ae V,ae V,ae V,ae V,ae V]at b
   have:=h 2 2 (by rw[hO,ae V,an g];exact⟨rfl,rfl⟩)
   exact⟨V,b⟩
  rw[ae g]
  by_cases A:i.op=5\/i.op=14\/i.op=15\/i.op=18\/i.op=23
  .rw[an A]
   rw[gL,ae c,ae V,ae V,ae V,ae V,ae V,ae V]at b
   have:=h 1 1 (by rw[hO,ae V,ae g,ae V,ae V,ae V,ae V];exact⟨rfl,rfl⟩)
   exact⟨V,b⟩
  rw[ae A]
  by_cases a:i.op=6
  .rw[an a]
   rw[gL,ae c,an a]at b
   have:=h _ _ (by rw[hO,ae V,ae g,an a];exact⟨rfl,rfl⟩)
   exact⟨b,V,V⟩
  rw[ae a]
  by_cases d:i.op=9\/i.op=24
  .rw[an d]
   rw[gL,ae c,ae a,an d]at b
   let⟨q,j⟩:=cG u.cJ i.bP.toNat
   have:=h _ _ (by rw[hO,ae V,ae g,ae a,an d];exact⟨q,j,rfl,rfl⟩)
   exact⟨q,b.1,j,V⟩
  rw[ae d]
  by_cases e:i.op=10
  .rw[an e]
   rw[gL,ae c,ae a,ae d,an e]at b
   let⟨o,q,j,x⟩:=b
   have:=h _ _ (by rw[hO,ae V,ae g,ae a,ae d,an e];exact⟨q,j,rfl,rfl⟩)
   refine⟨⟨q,o,j,V⟩,λJ r=>?_⟩
   rw[j]at r;simp at r;subst r;exact x
  rw[ae e]
  by_cases l:i.op=16\/i.op=17
  .rw[an l]
   rw[gL,ae c,ae a,ae d,ae e,ae V,ae V,ae V]at b
   have:=h 1 4 (by rw[hO,ae V,ae g,ae a,ae d,ae e,an l];exact⟨rfl,rfl⟩)
   exact⟨V,b⟩
  have j:i.op≠22->∀(c:¬i.op=0)(g:¬(i.op=1\/i.op=2\/i.op=3\/i.op=4\/i.op=11))(a:¬i.op=6)(d:¬(i.op=9\/i.op=24))(e:¬i.op=10)(l:¬(i.op=16\/i.op=17)),i.args.length=1:=λo c g a d e l=>by
   have:=h 1 1 (by rw[hO,ae V,ae g,ae a,ae d,ae e,ae l];exact⟨rfl,rfl⟩);omega
  rw[ae l]
  by_cases m:i.op=19
  .rw[an m]
   rw[gL,ae c,ae a,ae d,ae e,an m]at b
   exact⟨j V c g a d e l,V,V⟩
  rw[ae m]
  by_cases z:i.op=20
  .rw[an z]
   rw[gL,ae c,ae a,ae d,ae e,ae m,an (Or.inl z)]at b
   exact⟨j V c g a d e l,b⟩
  rw[ae z]
  by_cases v:i.op=22
  .rw[an v]
   rw[gL,ae c,ae a,ae d,ae e,ae m,an (Or.inr v)]at b
   have:=h 0 0 (by rw[hO,an (Or.inr v)];exact⟨rfl,rfl⟩)
   exact⟨V,b⟩
  rw[ae v]
  by_cases y:i.op=21
  .rw[an y]
   rw[gL,ae c,ae a,ae d,ae e,ae m,ae V,an y]at b
   exact⟨j V c g a d e l,b.1,V,s⟩
  rw[ae y]
  omega
end
section
variable{b:E}{d:O}{c:cQ}
def Em{W ah aw Q:O}(hd:cy b d c.bo)(ht:dU c.bo)(hf:pB b W c.cJ)(aI:c.cJ.length<=4)(h3:∀q∈c.cJ,q.params.length<=3)
 {q:dy}(hc:fm b Q q.dt)(hr:q.ak<=2000){l:Nat}{e:Instr}{K P:O}(X:ap b K e.args)(hj:ap b P e.eO):
 dq cg 75 [.agg #[O.v d,O.v W],.agg #[O.v ah,O.v aw,vi q.aU,vi q.ak,O.v Q],vi l,.agg #[vi e.op,vi e.dst,vi e.bP,vi e.bY,O.v K,O.v P]] b (iS c q l e):=by
 apply pI
 simp -zeta only[aC,aB]
 intro B A E w
 have s1:B.size=b.size+1:=by simp[B]
 have s2:A.size=b.size+2:=by simp[A,s1]
 have s3:E.size=b.size+3:=by simp[E,s2]
 have s4:w.size=b.size+4:=by simp[w,s3]
 have z:J b w:=((((J.az b).aK _).aK _).aK _).aK _
 have am:cF w A.size aA [.i l]:=(cF.push A _ _).ext (J.push _ _)
 have an:cF w B.size jB [.s ah,.s aw,.i q.aU,.i q.ak,.s Q]:=(cF.push B _ _).ext ((J.push A _).aK _)
 have u:=JG (u:=c) (p:=q) (k:=l) (i:=e) hr aI h3
 have aE:=hc.len
 have aR:=X.len
 have aS:=hj.len
 clear_value w
 clear_value E
 clear_value A
 clear_value B
 refine⟨λh=>bW (λf=>?_) z,λc0=>⟨λh=>bW (λf=>?_) z,λc1=>⟨λh=>bW (λf=>?_) z,λc2=>⟨λh=>bW (λf=>?_) z,λc3=>⟨λh=>bW (λf=>?_) z,λc4=>⟨λh=>bW (λf=>?_) z,λc5=>?_⟩⟩⟩⟩⟩⟩
 any_goals (have:=(u.1 f).1;simp at h;omega)
 simp at c0 c1 c2 c3 c4 c5
 have f1:0<=e.op/\e.op<=24/\e.op≠7/\e.op≠8/\e.op≠12/\e.op≠13:=V
 refine⟨λx=>J w x/\(0<=e.dst/\e.dst<q.ak/\(e.dst=0\/lR e.op)/\0<=e.bY/\e.bY<=q.ak/\(e.bY=0\/e.op=6)),?_,?_⟩
 .refine⟨λh=>bW (λf=>?_) z,λG=>⟨λh=>bW (λf=>?_) z,λI=>?_⟩⟩
  .have:=(u.1 f).2.1;simp at h;omega
  .have:=(u.1 f).2.1;simp at h;omega
  simp at G I
  have tail:∀x,J w x->(e.dst=0\/lR e.op)->((decide (e.bY<(0:Int)))=true->∃g:Bool,Value.bool false=.bool g/\(g=true<->iS c q l e)/\J b x)/\((decide (e.bY<(0:Int)))=false->
   ((decide (e.bY>q.ak))=true->∃g:Bool,Value.bool false=.bool g/\(g=true<->iS c q l e)/\J b x)/\((decide (e.bY>q.ak))=false->
   ((e.bY !=(0:Int))=true->((e.op !=(6:Int))=true->∃g:Bool,Value.bool false=.bool g/\(g=true<->iS c q l e)/\J b x)/\((e.op !=(6:Int))=false->J w x/\(0<=e.dst/\e.dst<q.ak/\(e.dst=0\/lR e.op)/\0<=e.bY/\e.bY<=q.ak/\(e.bY=0\/e.op=6))))/\
   ((e.bY !=(0:Int))=false->J w x/\(0<=e.dst/\e.dst<q.ak/\(e.dst=0\/lR e.op)/\0<=e.bY/\e.bY<=q.ak/\(e.bY=0\/e.op=6))))):=by
   intro x H N
   have L:=z.trans H
   refine⟨λh=>bW (λf=>?_) L,λC=>⟨λh=>bW (λf=>?_) L,λF=>⟨λt=>⟨λh=>bW (λf=>?_) L,λM=>⟨H,?_⟩⟩,λt=>⟨H,?_⟩⟩⟩⟩
   .have:=(u.1 f).2.1;simp at h;omega
   .have:=(u.1 f).2.1;simp at h;omega
   .have:=(u.1 f).2.1.2.2.2.2.2;simp at h t;omega
   .simp at C F M;exact⟨G,I,N,C,F,Or.inr M⟩
   .simp at C F t;exact⟨G,I,N,C,F,Or.inl t⟩
  refine⟨λh=>?_,λh=>tail w (J.az _) (Or.inl (by simpa using h))⟩
  refine(rp e.op w ⟨V,V⟩).aG (J.az _) bF λv x D H _=>⟨v,rfl,λy=>bW (λf=>?_) (z.trans H),λy=>tail x H (Or.inr (yb D y))⟩
  have:=(u.1 f).2.1.2.2.1
  simp at h
  rcases this with s|s
  .exact h s
  .exact nb D y s
 .rintro x ⟨H,f2⟩
  refine dV (n:=e.args.length) (oh X.gW) (λae R=>J w R/\∀G∈e.args.take ae,0<=G/\G<q.ak) ⟨H,aL⟩ ?_
  rintro ae I aQ μ hn ⟨y,aj⟩ aO
  have aa:=z.trans y
  refine dit (λh=>?_) λh=>?_
  .let⟨G,t⟩:=cG e.args ae
   refine⟨V,V,G,by simpa using(X.ext aa).aF t,λs=>bW (λf=>?_) aa,λs=>⟨λC=>bW (λf=>?_) aa,λC=>aO V _ ⟨y,bB t aj ?_⟩⟩⟩
   .have:=(u.1 f).2.2.1 G (aq t);simp at s;omega
   .have:=(u.1 f).2.2.1 G (aq t);simp at C;omega
   .simp at s C;omega
  .have ay:∀G∈e.args,0<=G/\G<q.ak:=de V aj
   intro m7 F
   have s8:F.size=I.size+1:=by simp[F,m7,ax]
   have C:J I F:=((J.az I).aK _).ah (ad _) _ _
   have ac:=aa.trans C
   have al:af F I.size 0=some (.func (.func 148) #[] #[vp A.size 0,vp B.size 0]):=
    (cF.ah (m:=m7) (o:=0) (r:=[.fn (.func 148) #[] #[vp A.size 0,vp B.size 0]]) (cF.push I _ _)).cp 0
   have aT:=y.size
   clear_value F
   have aK:∀N,J F N->∀t,dq cg 148 [vi t,vp A.size 0,vp B.size 0] N ((l:Int)+1<=t/\t<=(q.dt.length:Int) -1):=λN s t=>by
    rw[<-aE];exact yi (am.ext (y.trans (C.trans s))|>.cp 0) (an.ext (y.trans (C.trans s))|>.cp 4)
   have jP:(e.eO.length=0\/e.op=21)->aN cg 78 [O.v P,.func (.func 149) #[] #[vp I.size 0]] F λaP U=>
    eI [E.size,b.size] F U/\∃ag:Bool,aP=vb ag/\(ag=true->∃g:Bool,Value.bool false=.bool g/\(g=true<->iS c q l e)/\J b U)/\
    (ag=false->∃L:Fn×Array Value×Array Value,af U I.size 0=some (.func L.1 L.2.1 L.2.2)/\
    aN cg 150 [.agg #[O.v d,O.v W],.agg #[vi e.op,vi e.dst,vi e.bP,vi e.bY,O.v K,O.v P],.func L.1 L.2.1 L.2.2] U λab M=>
    eI [E.size,b.size] U M/\∃T:Bool,ab=vb T/\((!T)=true->∃g:Bool,Value.bool false=.bool g/\(g=true<->iS c q l e)/\J b M)/\
    ((!T)=false->aN cg 151 [.agg #[O.v d,O.v W],.agg #[vi e.op,vi e.dst,vi e.bP,vi e.bY,O.v K,O.v P]] M λai S=>
    eI [E.size,b.size] M S/\∃Y:Int,∃Z:Int,ai=.tuple #[vi Y,vi Z]/\
    ((decide ((K.len:Int)>=Y))=true->∃g:Bool,Value.bool (decide ((K.len:Int)<=Z))=.bool g/\(g=true<->iS c q l e)/\J b S)/\
    ((decide ((K.len:Int)>=Y))=false->∃g:Bool,Value.bool false=.bool g/\(g=true<->iS c q l e)/\J b S))):=by
    intro aF
    have hl:∀v∈[E.size,b.size],v<F.size:=bF
    refine(iY (hj.ext ac) 149 #[] #[vp I.size 0] bh (λt=>¬((l:Int)+1<=t/\t<=(Q.len:Int) -1)) (λt _ N s=>J5 (am.ext (y.trans (C.trans s))|>.cp 0) (an.ext (y.trans (C.trans s))|>.cp 4) (s.af al))).aG (J.az _) hl ?_
    intro v N D s _
    have M:=ac.trans s
    refine⟨v,rfl,λaD=>bW (λf=>?_) M,λaz=>?_⟩
    .let⟨t,ab,g⟩:=D.1 aD
     have:=(u.1 f).2.2.2.2.1 t ab
     exact g V
    have aG:∀t∈e.eO,(l:Int)+1<=t/\t<=(q.dt.length:Int) -1:=λt ab=>by
     rcases dR ((l:Int)+1<=t/\t<=(Q.len:Int) -1)with h|h
     .omega
     .exact absurd (D.2 ⟨t,ab,h⟩) (by simp[az])
    refine⟨(.func 148,#[],#[vp A.size 0,vp B.size 0]),s.af al,?_⟩
    have ao:∀v∈[E.size,b.size],v<N.size:=λv D=>s.lt (hl v D)
    refine(Il (cy.ext M hd) ht (pB.ext M hf) (X.ext M) (hj.ext M) 148 #[] #[vp A.size 0,vp B.size 0] bh (λt=>(l:Int)+1<=t/\t<=(q.dt.length:Int) -1) (λR g=>by simpa using aK R (s.trans g) e.bP)).aG (J.az _) ao ?_
    intro b2 aM ak L _
    have Z:=M.trans L
    refine⟨b2,rfl,λh=>bW (λf=>nb ak h (u.1 f).2.2.2.2.2.1) Z,λh=>?_⟩
    have au:=yb ak h
    have aH:∀v∈[E.size,b.size],v<aM.size:=λv D=>L.lt (ao v D)
    refine(LC (cy.ext Z hd) ht (pB.ext Z hf) (a:=K) (j:=P) au).aG (J.az _) aH ?_
    rintro _ aU ⟨lo,Y,rfl,R,ai⟩
    have av:=Z.trans ai
    have aJ:∀T S,hO c e T S->T=lo/\S=Y:=λT S g=>by
     unfold hO at R g;repeat' (split at R)
     all_goals simp_all
     all_goals (obtain⟨q1,e1,e2,e3⟩:=R;simp_all)
    refine⟨ai,lo,Y,rfl,λh=>eU ?_ av,λh=>bW (λf=>?_) av⟩
    .rw[u]
     simp only[ar]at h⊢
     refine⟨λg=>⟨f1,f2,ay,aF,aG,au,λT S h2=>?_⟩,λg=>?_⟩
     .obtain⟨rfl,rfl⟩:=aJ T S h2;omega
     .have:=g.2.2.2.2.2.2 lo Y R;omega
    .have:=(u.1 f).2.2.2.2.2.2 lo Y R
     simp at h;omega
   refine⟨λs=>⟨λL=>bW (λf=>?_) ac,λL=>jP (Or.inr (by simpa using L))⟩,λs=>jP (Or.inl (by simp at s;omega))⟩
   have:=(u.1 f).2.2.2.1
   simp at s L;omega
def Ef{ah:O}(v:fy b d ah c):dq cg 43 [.agg #[O.v d,O.v ah]] b (nt c):=by
 apply yF;simp -zeta only[aC,aB];intro F;have ac:J b F:=(J.az b).aK _;have s1:F.size=b.size+1:=by simp[F]
 clear_value F;refine(Gl (v.ext ac)).aG (J.az _) bF ?_;rintro _ M ⟨d',aj,ai,rfl,Y,an,H⟩;refine⟨H,d',aj,ai,rfl,?_⟩;intro m3 t;have s4:t.size=M.size+1:=by simp[t,m3,ax]
 have W:J M t:=((J.az M).aK _).ah (ad _) _ _;have af:J b t:=(ac.trans H).trans W;have:=H.size;have aI:=v.cJ.len;have aJ:=v.cJ.gW;clear_value t;refine⟨λhn=>bW (λf=>nb Y hn ⟨f.nT,λq x=>(f.dz q x).cW⟩) af,λhy=>?_⟩;let⟨D,am⟩:=yb Y hy;obtain⟨rfl,hf⟩:=an (by simpa using hy);refine dV (n:=c.cJ.length) V (λQ z=>J t z/\∀q∈c.cJ.take Q,HU c q) ⟨J.az _,aL⟩ ?_;rintro Q N ay μ hn ⟨A,X⟩ av
 have K:=af.trans A;refine dit (λaG=>?_) λaE=>?_
 .let⟨q,x⟩:=cG c.cJ Q;let⟨R,ag,S,ha,hl,w,g0,g1,g2,g3,g4⟩:=(v.ext K).cJ.aF x;refine⟨V,V,R,by simpa using g0,ag,by simpa using g1,_,by simpa using g2,_,by simpa using g3,S,by simpa using g4,?_⟩;intro m6 u;have s7:u.size=N.size+1:=by simp[u,m6,ax]
  have r:J N u:=((J.az N).aK _).ah (ad _) _ _;have s:=K.trans r;have az:=ha.len;have aA:=w.len;have aD:=w.gW;have o:=aq x;clear_value u;refine⟨λe=>bW (λf=>?_) s,λT=>⟨λe=>bW (λf=>?_) s,λe2=>⟨λe=>bW (λf=>?_) s,λe3=>⟨λe=>bW (λf=>?_) s,λe4=>?_⟩⟩⟩⟩
  .have:=(f.dz q o).ak;simp at e;split at e<;>omega
  .have:=(f.dz q o).ak;simp at e;omega
  .have:=(f.dz q o).len;simp at e;omega
  .have:=(f.dz q o).len;simp at e;omega
  have ab:(q.params.length:Int)<=q.ak/\1<=q.ak/\q.ak<=2000:=by
   simp at T e2;split at T<;>omega
  have al:1<=q.dt.length/\q.dt.length<=2000:=by simp at e3 e4;omega
  let⟨E,I⟩:=cG q.dt (q.dt.length -1);obtain⟨a0,j0,_,_,L,_⟩:=(fm.ext r w).aF I;refine⟨λz=>J u z/\(E.op=23\/E.op=24),?_,?_⟩
  .have e:cU ((S.len:Int) -1)=((q.dt.length -1:Nat):Int):=by rw[aP V V];omega
   rw[e];refine⟨V,V,E.op,by simpa using L,λg=>⟨λh=>bW (λf=>?_) s,λh=>⟨J.az _,Or.inr (by simpa using h)⟩⟩,λg=>⟨J.az _,Or.inl (by simpa using g)⟩⟩;have:=(f.dz q o).Nl E I;simp at g h;omega
  .rintro m8 ⟨h8,ak⟩;refine dV (n:=q.dt.length) V (λy z=>J u z/\∀(j:Nat)(h:Instr),j<y->q.dt[j]? =some h->iS c q j h) ⟨h8,λj h C=>V⟩ ?_;rintro y P I2 μ2 hk ⟨m,aa⟩ au;refine dit (λaH=>?_) λaF=>?_
   .let⟨h,g⟩:=cG q.dt y;let⟨xa,xj,ao,ap,L,k1,k2,k3,k4,k5⟩:=(fm.ext (r.trans m) w).aF g;refine⟨V,V,_,by simpa using L,_,by simpa using k1,_,by simpa using k2,_,by simpa using k3,xa,by simpa using k4,xj,by simpa using k5,?_⟩;intro ar G;have aM:G.size=P.size+1:=by simp[G,ar,ax]
    have p:J P G:=((J.az P).aK _).ah (ad _) _ _;have ae:=(s.trans m).trans p;have q1:=m.size;have q2:=A.size;clear_value G;refine(Em (ah:=R) (aw:=ag) (cy.ext ae v.bo) D.types (pB.ext (W.trans (A.trans (r.trans (m.trans p)))) hf) D.len.2 (λU B=>(D.dz U B).1) (fm.ext (r.trans (m.trans p)) w) ab.2.2 (l:=y) (e:=h) (ao.ext p) (ap.ext p)).aG (J.az _) bF ?_;intro b' aK Z U _;refine⟨b',rfl,λe=>bW (λf=>nb Z e ((f.dz q o).dz y h g)) (ae.trans U),λe=>au V _ ⟨m.trans (p.trans U),λj i' C B=>?_⟩⟩;rcases Nat.lt_succ_iff_lt_or_eq.1 C with C|rfl
    .exact aa j i' C B
    .rw[g]at B;simp at B;subst B;exact yb Z e
   .refine av V _ ⟨A.trans (r.trans m),bB x X ⟨am q o,ab,al,λj h g=>aa j h (oh (aw g)) g,λh g=>?_⟩⟩
    rw[I]at g;simp at g;subst g;exact ak
 .exact iR ⟨D,de V X⟩ K
end
section
variable{m:E}{s:O}{k:Nat}{γ σ:Type}
def PE(m:E)(a:List Ce)(c:bE):Prop:=∃f,a=[.i c.aQ,.i c.j9,.s f]/\ap m f c.aE
def KN(m:E)(a:List Ce)(f:aX):Prop:=∃r o h,a=[.i f.fG,.i f.pc,.i f.dst,.s r,.s o,.s h]/\ap m r f.ak/\ap m o f.aR/\ap m h f.ba
abbrev cO(m:E)(s:O)(l:List bE):Prop:=eR m 3 (PE m) s l
abbrev jz(m:E)(s:O)(l:List aX):Prop:=eR m 6 (KN m) s l
def PE.ext{m b:E}(g:J m b)(a:List Ce)(c:bE):PE m a c->PE b a c:=λ⟨f,d,e⟩=>⟨f,d,e.ext g⟩
def cO.ext{m b:E}(a:J m b){s:O}{l:List bE}(h:cO m s l):cO b s l:=h.mono a (PE.ext a)
def KN.ext{m d:E}(a:J m d)(b:List Ce)(c:aX):KN m b c->KN d b c:=λ⟨r,o,h,e,f,g,i⟩=>⟨r,o,h,e,f.ext a,g.ext a,i.ext a⟩
def jz.ext{m b:E}(a:J m b){s:O}{l:List aX}(h:jz m s l):jz b s l:=h.mono a (KN.ext a)
def cO.aF{l:List bE}(h:cO m s l){x:bE}(c:l[k]? =some x):
 ∃f,ap m f x.aE/\af m s.D (s.off+k*3)=some (vi x.aQ)/\af m s.D (s.off+k*3+1)=some (vi x.j9)/\af m s.D (s.off+k*3+2)=some (O.v f):=by
 obtain⟨d,⟨f,rfl,b⟩,a⟩:=h.iD k x c
 exact⟨f,b,a 0 (.i x.aQ) rfl,a 1 (.i x.j9) rfl,a 2 (.s f) rfl⟩
def jz.aF{l:List aX}(h:jz m s l){x:aX}(b:l[k]? =some x):
 ∃r o e,ap m r x.ak/\ap m o x.aR/\ap m e x.ba/\af m s.D (s.off+k*6)=some (vi x.fG)/\af m s.D (s.off+k*6+1)=some (vi x.pc)/\af m s.D (s.off+k*6+2)=some (vi x.dst)/\
  af m s.D (s.off+k*6+3)=some (O.v r)/\af m s.D (s.off+k*6+4)=some (O.v o)/\af m s.D (s.off+k*6+5)=some (O.v e):=by
 obtain⟨f,⟨r,o,e,rfl,d,c,a⟩,jv⟩:=h.iD k x b
 exact⟨r,o,e,d,c,a,jv 0 (.i x.fG) rfl,jv 1 (.i x.pc) rfl,jv 2 (.i x.dst) rfl,jv 3 (.s r) rfl,jv 4 (.s o) rfl,jv 5 (.s e) rfl⟩
def _root_.Go.Vc.eR.pD{l:List Int}(h:eR m 1 U6 s l){i:Int}(a:0<=i)(b:i<l.length):af m s.D (s.off+i.toNat*1)=some (vi (aF l i)):=ap.aF h (oE a b)
structure RV(m:E)(mb o:Nat)(d p aS hp fr:O)(im:cQ)(s:St):Prop where
 fB:fy m d p im
 bo:af m mb 0=some (O.v d)
 cJ:af m mb 1=some (O.v p)
 cv:af m mb o=some (vi s.cv)
 value:af m mb (o+1)=some (vi s.value)
 br:af m mb (o+2)=some (vi s.br)
 dT:af m mb (o+3)=some (vi s.dT)
 aac:af m mb (o+4)=some (O.v aS)
 rh:af m mb (o+5)=some (O.v hp)
 OW:af m mb (o+6)=some (O.v fr)
 aS:ap m aS s.aS
 heap:cO m hp s.heap
 ao:jz m fr s.ao
def RV.ext{m f:E}{g o:Nat}{d p aS c b:O}{e:cQ}{s:St}(h:RV m g o d p aS c b e s)(a:J m f):RV f g o d p aS c b e s:=
 ⟨h.fB.ext a,a.af h.bo,a.af h.cJ,a.af h.cv,a.af h.value,a.af h.br,a.af h.dT,a.af h.aac,a.af h.rh,a.af h.OW,h.aS.ext a,cO.ext a h.heap,jz.ext a h.ao⟩
def Xy(P:Nat->Prop):∀(n:Nat),P n->∃k,P k/\∀j,P j->k<=j:=by
 intro n;induction n using Nat.strongRecOn with
 |_ n e=>
  intro b;rcases dR (∃j,j<n/\P j)with⟨j,a,d⟩|c
  .exact e j a d
  .exact⟨n,b,λj a=>dQ λh=>c ⟨j,V,a⟩⟩
def Pu{p:σ}{j:(σ->E->Prop)->(σ->E->Nat)->σ->E->Prop}(J:γ->σ->E->Prop)(ν:γ->Nat)(l:γ)(r:J l p m)
 (q:∀(g:γ)(s:σ)(a:E)(I:σ->E->Prop)(μ:σ->E->Nat),J g s a->(∀b d c,J b d c->ν b<ν g->I d c/\μ d c<μ s a)->j I μ s a):
 ∃(I:σ->E->Prop)(μ:σ->E->Nat),I p m/\∀s a,I s a->j I μ s a:=by
 classical
 let I:σ->E->Prop:=λs m=>∃g,J g s m
 have h:∀s m,I s m->∃k,(∃g,J g s m/\ν g=k)/\∀o,(∃g,J g s m/\ν g=o)->k<=o:=λs m⟨g,i⟩=>Xy _ (ν g) ⟨g,i,rfl⟩
 let μ:σ->E->Nat:=λs m=>if e:I s m then Classical.choose (h s m e)else 0
 refine⟨I,μ,⟨l,r⟩,λs a e=>?_⟩
 let⟨g,i,u⟩:=(fN (h s a e)).1
 refine q g s a I μ i λb d c f t=>⟨⟨b,f⟩,?_⟩
 have n:I d c:=⟨b,f⟩
 simp only[μ,Tt e,Tt n]
 exact nH ((fN (h d c n)).2 _ ⟨b,f,rfl⟩) (u▸t)
def SA{τ:Type}{i:σ}{j:τ}{h:(σ->τ->E->Prop)->(σ->τ->E->Nat)->σ->τ->E->Prop}(J:γ->σ->τ->E->Prop)(ν:γ->Nat)(k:γ)(n:J k i j m)
 (l:∀(g:γ)(s:σ)(t:τ)(a:E)(I:σ->τ->E->Prop)(μ:σ->τ->E->Nat),J g s t a->(∀f d e c,J f d e c->ν f<ν g->I d e c/\μ d e c<μ s t a)->h I μ s t a):
 ∃(I:σ->τ->E->Prop)(μ:σ->τ->E->Nat),I i j m/\∀s t a,I s t a->h I μ s t a:=by
 let⟨I,μ,o,p⟩:=Pu (σ:=σ×τ) (p:=(i,j)) (j:=λI μ b a=>h (λs t=>I (s,t)) (λs t=>μ (s,t)) b.1 b.2 a) (λg b m=>J g b.1 b.2 m) ν k n (λg b a I μ q r=>l g b.1 b.2 a (λs t=>I (s,t)) (λs t=>μ (s,t)) q λf d e c=>r f (d,e) c)
 exact⟨λs t=>I (s,t),λs t=>μ (s,t),o,λs t=>p (s,t)⟩
end
section
variable{m g:E}{s d p a j t o e:O}{b r:List Int}{f:Nat}{K:Value->E->Prop}{c:cQ}{x:Instr}
def _root_.Go.Vc.eR.ID(h:eR m 1 U6 s b):fQ m s.D s.off (b.map Ce.i):=λi d a=>by
 rw[cK]at a;obtain⟨x,c,rfl⟩:=Option.map_eq_some_iff.1 a;have:=ap.aF h c;rw[eV]at this;exact this
def oC(f:Nat)(c:List Value)(m:E)(b:List Int):Prop:=aN cg f c m λv a=>∃s,v=O.v s/\gZ m a aA 1 s (b.map Ce.i)/\J m a
def oC.then{c:List Value}(h:oC f c m b)(i:b.length<=1000000000)(e:∀s a,gZ m a aA 1 s (b.map Ce.i)->ap a s b->J m a->K (O.v s) a):aN cg f c m K:=
 h.mono λ_ _⟨s,d,a,g⟩=>d▸e s _ a (ap.gA a V) g
def oC.aG{c:List Value}{d:List Nat}(h:oC f c m b)(l:b.length<=1000000000)(i:∀a∈d,a<m.size)(k:∀s a,gZ m a aA 1 s (b.map Ce.i)->ap a s b->J m a->K (O.v s) a):aN cg f c m λv a=>eI d m a/\K v a:=
 h.mono λ_ _⟨s,j,e,g⟩=>⟨g.dv i,j▸k s _ e (ap.gA e V) g⟩
def dW(w:Int)(m:E):dq cg 119 [vi w] m (1000<=w):=by
 apply Bi;exact eU aL (J.az _)
def jb{a:O}{h:List bE}(j:cO m a h){w:Int}(C: -9223372036854775808<=w/\w<=9223372036854775807):dq cg 130 [O.v a,vi w] m (fY h w):=by
 apply He;have z:=j.len;have A:=j.gW;have o:cU ((a.len:Int) -1)=(a.len:Int) -1:=aP V V;rw[o];have x:cU (w -1000)=w -1000\/(w<1000/\¬(0<=cU (w -1000)/\cU (w -1000)<=(a.len:Int) -1))\/(w<1000/\cU (w -1000)=w -1000+18446744073709551616):=by
  rcases dR (-9223372036854775808<=w -1000)with b|b
  .exact Or.inl (aP b V)
  .refine Or.inr (Or.inr ⟨V,?_⟩);simp only[cU,IntKind.wrap,IntKind.signed,IntKind.bits];simp;omega
 refine(aZ _ _ _ _).then λn D i b=>⟨n,rfl,λu=>?_,λt=>?_⟩
 .refine(dW _ _).then λb2 E l g=>⟨b2,rfl,λs=>?_,λr=>bW (λc=>fb l r c.1) (b.trans g)⟩;have k:=l.1 s;have p:cU (w -1000)=w -1000:=aP V V;rw[p]at i⊢;have B:=i.1 u;let⟨e,c⟩:=cG h ((w -1000).toNat);obtain⟨f,y,q,_⟩:=(cO.ext (b.trans g) j).aF c;refine⟨V,V,e.aQ,q,eU ?_ (b.trans g)⟩;simp only[kJ,ar];refine⟨λa=>⟨k,e,c,a⟩,λ⟨_,v,d,a⟩=>?_⟩;unfold ix at d;rw[c]at d;simp at d;subst d;exact a
 .refine bW (λ⟨k,e,c,_⟩=>fb i t ?_) b;have:=aw c;unfold ix at this;rw[aP V V];omega
def Mw(a:Int)(m:E):dq cg 68 [vi a] m (mX a):=by
 apply Hd;refine⟨λh=>iR ?_ (J.az _),λh=>⟨λb=>iR ?_ (J.az _),λb=>eU ?_ (J.az _)⟩⟩<;>simp[mX]at* <;>omega
def LI{q:dy}(a:c.cJ[x.bP.toNat]? =some q)(k:Nat):nC c x k=true<->(k:Int)∈q.cW:=by
 simp[nC,dO,a,List.any_eq_true]
def zD(c:cQ)(x:Instr):Prop:=(x.op=9\/x.op=24)->0<=x.bP/\∃q,c.cJ[x.bP.toNat]? =some q
def iS.call{p:dy}{k:Nat}(h:iS c p k x):zD c x:=λe=>by
 have a:=h.op;unfold mf at a;rw[ae V,ae V,ae V,ae V,an e]at a;obtain⟨q,b,d,_⟩:=a;exact⟨b,q,d⟩
def rW(h:fy m d p c)(z:zD c x)(a j:O)(k:Nat):
 dq cg 122 [.agg #[O.v d,O.v p],.agg #[vi x.op,vi x.dst,vi x.bP,vi x.bY,O.v a,O.v j],vi k] m ((x.op=9\/x.op=24)/\nC c x k=true):=by
 apply EY
 simp -zeta only[aC,aB]
 intro o b
 have n:J m b:=((J.az m).aK _).aK _
 have A:∀f∈[o.size,m.size],f<b.size:=by simp[b,o];omega
 have L:=h.cJ.len
 clear_value b
 have q:∀e:x.op=9\/x.op=24,(0:Int)<=x.bP/\x.bP<(p.len:Int)/\∃u:O,af b p.D (p.off+Int.toNat x.bP*5+1)=some (O.v u)/\
  aN cg 133 [O.v u,vi k] b λr s=>eI [o.size,m.size] b s/\∃t:Bool,r=vb t/\∃f:Bool,vb t=.bool f/\(f=true<->((x.op=9\/x.op=24)/\nC c x k=true))/\J m s:=λe=>by
  let⟨v,N,l⟩:=z e
  let⟨D,C,E,I,B,K,F,g1,g2,G,H⟩:=(h.ext n).cJ.aF l
  have:=aw l
  refine⟨v,V,C,g1,(dw B _).aG (J.az _) A λf M y w _=>⟨f,rfl,eU ?_ (n.trans w)⟩⟩
  rw[y,LI l]
  exact⟨λh=>⟨e,h⟩,λh=>h.2⟩
 refine⟨λi=>q (Or.inl (by simpa using i)),λi=>⟨λg=>q (Or.inr (by simpa using g)),λg=>bW (λ⟨e,_⟩=>?_) n⟩⟩
 simp at i g;omega
def IM(a:Int)(m:E):dq cg 121 [vi a] m (a=6\/a=9\/a=10\/a=11):=by
 apply sq;refine⟨λh=>iR ?_ (J.az _),λh=>⟨λb=>iR ?_ (J.az _),λb=>⟨λc=>iR ?_ (J.az _),λc=>eU ?_ (J.az _)⟩⟩⟩<;>simp at* <;>omega
def jt(c:cQ)(x:Instr)(n:Nat):List Int:=iG c x 0 (x.args.take n)
def vB(c:cQ)(x:Instr):∀(b r:List Int)(k:Nat),iG c x k (b++r)=iG c x k b++iG c x (k+b.length) r
 |[],r,k=>by simp[iG]
 |a::b,r,k=>by
  have:=vB c x b r (k+1);simp only[cX,iG,this,aY];have e:k+(b.length+1)=k+1+b.length:=V;rw[e];split<;>simp
def tT(c:cQ)(x:Instr):∀(b:List Int)(k:Nat),(iG c x k b).length<=b.length
 |[],k=>ad _
 |a::b,k=>by
  have:=tT c x b (k+1);simp only[iG];split<;>simp<;>omega
def Js(c:cQ)(x:Instr):(bU c x).length<=x.args.length:=by
 unfold bU;split
 .exact ad _
 split
 .simp;omega
 split
 .exact tT _ _ _ _
 .simp
def J.tC{a c:E}(f:J g a)(h:J g c){b:List Nat}(d:∀x∈b,x<g.size):eI b a c:=λx e=>by rw[f.same x (d x e),h.same x (d x e)]
def nQ{v:Int}{K:O->E->Prop}(c:gZ g m aA 1 s (b.map Ce.i))(h:J g m)(n:b.length<1000000000)
 (f:∀r a,gZ g a aA 1 r ((b++[v]).map Ce.i)->J g a->K r a):
 jN (m.push (.cells (bu [.i v]) aA)) aA [.i (0:Int)] 8 s (O.mk m.size 0 1 1) K:=by
 have o:s.len=b.length:=by have:=c.len;simp at this;omega
 refine gZ.append (zs:=[.i 0]) (d:=[.i v]) (c.ext (J.push _ _)) (h.aK _) rfl (cF.push m _ _).iD bF λr a d e i j k l=>?_
 exact f r a (by simpa using d) e
def KD(aa:fy m d p c)(hc:zD c x)(I:ap m a x.args)(ak:x.args.length<=1000000)(ab:(x.op=16\/x.op=17)->1<=x.args.length):
 oC 70 [.agg #[O.v d,O.v p],.agg #[vi x.op,vi x.dst,vi x.bP,vi x.bY,O.v a,O.v j]] m (bU c x):=by
 apply Fk
 simp -zeta only[aC,aB]
 intro C f Q
 have B:J m f:=((J.az m).aK _).aK _
 have s2:f.size=m.size+2:=by simp[f,C]
 have h3:J f Q:=(J.az f).aK _
 have u:gZ f Q aA 1 (.mk f.size 0 0 0) []:=gZ.new (J.az f) aA 1 [] 0 aL
 have s1:C.size=m.size+1:=by simp[C]
 have ah:=I.len
 have w:∀v∈[C.size,m.size],v<f.size:=λv t=>by simp at t;omega
 clear_value Q
 clear_value f
 have K:∀{o s b},gZ f o aA 1 s b->gZ m o aA 1 s b:=λu=>u.cz B.size
 refine⟨λZ o=>J f o/\gZ f o aA 1 (.mk f.size 0 0 0) []/\(Z=true<->(x.op=15\/x.op=6\/x.op=10\/x.op=11\/x.op=18\/x.op=23\/x.op=9\/x.op=24)),?_,?_⟩
 .refine(IM _ _).aG h3 w λv D t g i=>⟨v,rfl,λM=>⟨i,u.ext g,by have:=t.1 M;simp;omega⟩,λL=>?_⟩
  have h:=fb t L
  refine⟨λe=>⟨i,u.ext g,by simp at e;simp;omega⟩,λH=>⟨λe=>⟨i,u.ext g,by simp at e;simp;omega⟩,λq=>⟨λe=>⟨i,u.ext g,by simp at e;simp;omega⟩,λA=>⟨i,u.ext g,by simp at H q A;simp;omega⟩⟩⟩⟩
 .rintro Z D ⟨g,N,W⟩
  refine⟨λad=>?_,λac=>?_⟩
  .have hT:=W.1 ad
   refine eu (n:=x.args.length) V (λk s o=>J f o/\gZ f o aA 1 s ((if x.op=9\/x.op=24 then jt c x k else x.args.take k).map Ce.i)) ⟨g,by simpa[jt,iG]using N⟩ ?_
   rintro k s m5 ag μ hk ⟨R,P⟩ Y
   have X:=B.trans R
   refine dit (λaj=>?_) λai=>?_
   .let⟨y,h⟩:=cG x.args k
    have U:jt c x (k+1)=jt c x k++iG c x k [y]:=by
     unfold jt;rw[aT h,vB];simp;congr 2;omega
    refine(rW (aa.ext X) hc a j k).aG R w λv m6 t S F=>⟨v,rfl,λM=>?_,λL=>?_⟩
    .have G:=nb t M
     refine⟨V,V,y,by simpa using(I.ext (B.trans F)).aF h,?_⟩
     intro m7
     have T:(if x.op=9\/x.op=24 then jt c x k else x.args.take k).length<=k:=by
      split
      .refine bI (tT _ _ _ _) ?_;simp;omega
      .simp;omega
     refine nQ (P.ext S) F V λr m8 z E=>?_
     refine⟨J.tC (F.aK _) E w,Y V _ _ ⟨E,?_⟩⟩
     by_cases e:x.op=9\/x.op=24
     .rw[an e]at z⊢
      rw[U]
      have:iG c x k [y]=[y]:=by
       simp only[iG];rw[ae (λw=>G ⟨e,w⟩)]
      rw[this];exact z
     .rw[ae e]at z⊢
      rw[aT h];exact z
    .have G:=yb t L
     refine Y V _ _ ⟨F,?_⟩
     have T:=P.ext S
     rw[an G.1]at T⊢
     rw[U]
     have:iG c x k [y]=[]:=by
      simp only[iG];rw[an G.2]
     rw[this,dY];exact T
   .refine⟨s,rfl,?_,X⟩
    have q:bU c x=if x.op=9\/x.op=24 then jt c x k else x.args.take k:=by
     have A:x.args.take k=x.args:=bV V;unfold bU jt;rw[A];by_cases e:x.op=9\/x.op=24
     .rw[ae V,ae V,an e,an e]
     .rw[an V,ae e]
    rw[q];exact K P
  .have hT:¬(x.op=15\/x.op=6\/x.op=10\/x.op=11\/x.op=18\/x.op=23\/x.op=9\/x.op=24):=λe=>by have:=W.2 e;rw[ac]at this;simp at this
   have i:=B.trans g
   have lM:∀e:x.op=16\/x.op=17,(0:Int)<=(0:Int)/\(0:Int)<(a.len:Int)/\∃F:Int,af D a.D (a.off+Int.toNat (0:Int)*1)=some (vi F)/\
    jN (D.push (.cells (bu [.i F]) 3)) 3 [.i (0:Int)] 8 (O.mk f.size 0 0 0) (O.mk D.size 0 1 1) λL k=>eI [C.size,m.size] (D.push (.cells (bu [.i F]) 3)) k/\∃s,O.v L=O.v s/\gZ m k aA 1 s ((bU c x).map Ce.i)/\J m k:=λe=>by
    have M:=ab e
    let⟨y,h⟩:=cG x.args 0
    refine⟨V,V,y,by simpa using(I.ext i).aF h,nQ (b:=[]) N g aL λr m8 z E=>⟨J.tC (g.aK _) E w,r,rfl,?_,B.trans E⟩⟩
    have q:bU c x=[y]:=by
     unfold bU;rw[ae V,an e];cases G:x.args with
     |nil=>rw[G]at h;simp at h
     |cons P b=>rw[G]at h;simp at h;subst h;rfl
    rw[q];exact K z
   refine⟨λe=>lM (Or.inl (by simpa using e)),λH=>⟨λe=>lM (Or.inr (by simpa using e)),λq=>⟨_,rfl,?_,i⟩⟩⟩
   have A:bU c x=[]:=by
    simp at H q;unfold bU;rw[ae V,ae V,ae V]
   rw[A];exact K N
def gU(c:ap m s b)(l:b.length<=1000000000):oC 66 [O.v s] m b:=by
 apply nE;intro d;have a:J m d:=(J.az m).aK _;have g:gZ m d aA 1 (.mk m.size 0 0 0) []:=gZ.new (J.az m) aA 1 [] 0 aL;have f:=c.len;refine gZ.append (zs:=[.i 0]) (d:=b.map Ce.i) g a (by simp[f]) (c.ext a).ID bF λr n a e h i j k=>⟨r,rfl,by simpa using a,e⟩
def Mr(h:ap m s b)(c:ap m t r)(p:b.length+r.length<=1000000000):oC 187 [O.v s,O.v t] m (b++r):=by
 apply uQ;refine(gU h V).then V λq w d e a=>⟨q,rfl,?_⟩;have i:=c.len;have o:=e.len;refine gZ.append (zs:=[.i 0]) (d:=r.map Ce.i) d a (by simp[i]) (c.ext a).ID V λu v f g j k l n=>⟨u,rfl,by simpa using f,g⟩
def mq(d:ap m s b):dq cg 128 [O.v s] m (SH b):=by
 apply EF;have g:=d.len;refine dV (n:=b.length) (g▸d.gW) (λk a=>J m a/\∀y∈b.take k,y=0) ⟨J.az _,aL⟩ ?_;rintro k o I μ l ⟨a,f⟩ j
 refine⟨λh=>?_,λh=>iR (de (by simp at h;omega) f) a⟩;simp only[ar]at h;let⟨x,e⟩:=cG b k;refine⟨V,V,x,by simpa using a.af (d.aF e),λc=>bW (λi=>?_) a,λc=>j V _ ⟨a,bB e f (by simpa using c)⟩⟩;have:=i x (aq e);simp at c;omega
def Bt(d:ap m s b):dq cg 123 [O.v s] m (∀o∈b,0<=o):=by
 apply wK;have g:=d.len;refine dV (n:=b.length) (g▸d.gW) (λk a=>J m a/\∀y∈b.take k,0<=y) ⟨J.az _,aL⟩ ?_;rintro k p I μ l ⟨a,f⟩ j
 refine⟨λh=>?_,λh=>iR (de (by simp at h;omega) f) a⟩;simp only[ar]at h;let⟨x,e⟩:=cG b k;refine⟨V,V,x,by simpa using a.af (d.aF e),λc=>bW (λi=>?_) a,λc=>j V _ ⟨a,bB e f (by simpa using c)⟩⟩;have:=i x (aq e);simp at c;omega
def qJ(f:ap m s b)(j:ap m t r):dq cg 182 [O.v s,O.v t] m (b=r):=by
 apply Dp;have l:=f.len;have q:=j.len;refine⟨λh=>bW (λe=>by subst e;simp at h;omega) (J.az _),λh=>?_⟩;simp at h;refine dV (n:=b.length) (l▸f.gW) (λk a=>J m a/\b.take k=r.take k) ⟨J.az _,aL⟩ ?_;rintro k u I μ p ⟨c,i⟩ o
 refine⟨λh=>?_,λh=>iR (by simp at h;rwa[bV V,bV V]at i) c⟩;simp only[ar]at h;let⟨x,g⟩:=cG b k;let⟨y,d⟩:=cG r k;refine⟨V,V,x,by simpa using c.af (f.aF g),V,V,y,by simpa using c.af (j.aF d),λa=>bW (λe=>?_) c,λa=>o V _ ⟨c,?_⟩⟩
 .subst e;rw[g]at d;simp at d;simp at a;exact a d
 .rw[aT g,aT d,i];simp at a;rw[a]
abbrev fv(f:aX)(r o h:O):Value:=.agg #[vi f.fG,vi f.pc,vi f.dst,O.v r,O.v o,O.v h]
abbrev xv(x:Instr)(a j:O):Value:=.agg #[vi x.op,vi x.dst,vi x.bP,vi x.bY,O.v a,O.v j]
def EE{f:aX}{r:O}(t:ap m r f.ak)(g:ap m a x.args)(C:∀y∈x.args,0<=y/\y<f.ak.length):
 dq cg 125 [fv f r o e,xv x a j] m (∀y∈x.args,aF f.ak y<1000):=by
 apply yU
 simp -zeta only[aC,aB]
 intro w b
 have v:J m b:=((J.az m).aK _).aK _
 have D:∀d∈[w.size,m.size],d<b.size:=by simp[b,w];omega
 have z:=g.len
 have K:=t.len
 clear_value b
 refine dV (n:=x.args.length) (z▸g.gW) (λl c=>J b c/\∀y∈x.args.take l,aF f.ak y<1000) ⟨J.az _,aL⟩ ?_
 rintro l L I μ H ⟨u,s⟩ F
 have i:=v.trans u
 refine⟨λh=>?_,λh=>iR (de (by simp at h;omega) s) i⟩
 simp only[ar]at h
 let⟨y,c⟩:=cG x.args l
 have k:=C y (aq c)
 refine⟨V,V,y,by simpa using i.af (g.aF c),k.1,V,aF f.ak y,by simpa using i.af (t.pD k.1 k.2),?_⟩
 refine(dW _ _).aG u D λd M q G p=>⟨d,rfl,λB=>bW (λE=>?_) (v.trans p),λA=>F V _ ⟨p,bB c s ?_⟩⟩
 .have:=E y (aq c);have:=q.1 B;omega
 .have:=fb q A;omega
def oX(b r:List Int):kW (b++r)=kW b++kW r:=by simp[kW]
def nR(b:List Int):(kW b).length<=b.length:=List.length_filter_le _ _
def oL(f:ap m s b)(A:b.length<=100000000):oC 181 [O.v s] m (kW b):=by
 apply zg;intro g;have p:J m g:=(J.az m).aK _;have u:gZ m g aA 1 (.mk m.size 0 0 0) []:=gZ.new (J.az m) aA 1 [] 0 aL;have z:=f.len;clear_value g;refine eu (n:=b.length) V (λk s a=>J m a/\gZ m a aA 1 s ((kW (b.take k)).map Ce.i)) ⟨p,by simpa[kW]using u⟩ ?_;rintro k s B I μ y ⟨d,c⟩ j
 refine dit (λo=>?_) λo=>?_
 .let⟨x,e⟩:=cG b k;refine⟨V,V,x,by simpa using d.af (f.aF e),?_⟩;refine(dW _ _).then λl C h a=>⟨l,rfl,λt=>?_,λq=>?_⟩
  .have i:=d.trans a;refine⟨V,V,x,by simpa using i.af (f.aF e),?_⟩;intro D;refine nQ (c.ext a) i (by have:=nR (b.take k);simp at this;omega) λr E v w=>j V _ _ ⟨w,?_⟩
   rw[aT e,oX];have:kW [x]=[x]:=by simp[kW,h.1 t]
   rw[this];exact v
  .refine j V _ _ ⟨d.trans a,?_⟩
   rw[aT e,oX];have:kW [x]=[]:=by simp[kW];have:=fb h q;omega
   rw[this,dY];exact c.ext a
 .rw[bV V]at c;exact⟨s,rfl,c,d⟩
def rZ{f:aX}{r:O}(l:ap m r f.ak)(p:ap m s b)(x:∀y∈b,0<=y/\y<f.ak.length)(G:b.length<=100000000):
 oC 183 [fv f r o e,O.v s] m (cN f b):=by
 apply Fv
 simp -zeta only[aC,aB]
 intro a j
 have q:J m a:=(J.az m).aK _
 have w:J a j:=(J.az a).aK _
 have A:gZ a j aA 1 (.mk a.size 0 0 0) []:=gZ.new (J.az a) aA 1 [] 0 aL
 have z:∀u∈[m.size],u<a.size:=by simp[a]
 have F:=p.len
 have E:=l.len
 clear_value j
 clear_value a
 refine eu (n:=b.length) V (λk s c=>J a c/\gZ a c aA 1 s ((cN f (b.take k)).map Ce.i)) ⟨w,by simpa[cN]using A⟩ ?_
 rintro k s H I μ D ⟨d,c⟩ B
 have g:=q.trans d
 refine dit (λv=>?_) λv=>?_
 .let⟨y,h⟩:=cG b k
  have i:=x y (aq h)
  refine⟨V,V,y,by simpa using g.af (p.aF h),i.1,V,aF f.ak y,by simpa using g.af (l.pD i.1 i.2),?_⟩
  intro K
  refine nQ c d (by simp[cN];omega) λM L C t=>⟨J.tC (d.aK _) t z,B V _ _ ⟨t,?_⟩⟩
  rw[aT h]
  simpa[cN]using C
 .rw[bV V]at c
  exact⟨s,rfl,c.cz q.size,g⟩
end
section
variable{g:E}{b:aX}{t v d p h u j:O}{s:St}{c:List Int}{q:Nat}{k:cQ}{w:Int}{e:Nat->Int}{x:Instr}
def Je{e:O}(Q:ap g t b.ak)(ho:ap g v b.aR){s:O}(D:ap g s c)(ad:∀y∈c,0<=y/\y<b.ak.length)(am:b.ak.length=b.aR.length)(ay:b.aR.length<=1000000)(aw:c.length<=1000000)
 (M:∀w∈b.aR,-1000000000<=w/\w<=1000000000):oC 69 [fv b t v e,O.v s] g (bD b.ak b.aR c):=by
 apply Dj
 simp -zeta only[aC,aB]
 intro p
 have E:J g p:=(J.az g).aK _
 have H:∀G∈[g.size],G<p.size:=by simp[p]
 have ax:=D.len
 have av:=Q.len
 clear_value p
 refine(gU (ho.ext E) V).aG V H λx m2 o2 i2 Y=>⟨x,rfl,?_⟩
 have P:=i2.len
 have kM:∀(d F aR:List Int),bD b.ak aR (d++F)=bD b.ak (bD b.ak aR d) F:=by
  intro d;induction d with
  |nil=>intro F aR;rfl
  |cons y d k=>intro F aR;simp only[cX,bD,k]
 have lo:∀(d aR:List Int)(A:Int),(∀w∈aR,A<=w)->∀w∈bD b.ak aR d,A -d.length<=w:=by
  intro d;induction d with
  |nil=>intro aR A h w q;have:=h w q;simp;omega
  |cons y d k=>
   intro aR A h w q;simp only[bD]at q;have:=k _ (A -1) (λu j=>by
    split at j
    .rcases dR (y.toNat<aR.length)with B|B
     .rcases pJ j with j|j
      .have:=h _ (iA (i:=y.toNat) (a:=aF aR y) (by obtain⟨C,z⟩:=dB B;rw[HZ z];exact z));omega
      .have:=h u j;omega
     .have z:gT aR y (aF aR y -1)=aR:=by unfold gT;rw[rK V]
      rw[z]at j;have:=h u j;omega
    .have:=h u j;omega) w q
   simp only[aY];omega
 refine dV (n:=c.length) V (λk j=>J p j/\gZ p j aA 1 x ((bD b.ak b.aR (c.take k)).map Ce.i)) ⟨Y,o2⟩ ?_
 rintro k m3 aj μ hk ⟨R,C⟩ U
 have K:=E.trans R
 refine dit (λh=>?_) λh=>?_
 .let⟨y,u⟩:=cG c k
  have j:=ad y (aq u)
  have ao:=ka b.ak (c.take k) b.aR
  refine⟨V,V,y,by simpa using K.af (D.aF u),j.1,V,aF b.ak y,by simpa using K.af (Q.pD j.1 j.2),?_⟩
  refine(dW _ _).aG R H λG T N L B=>⟨G,rfl,λab=>?_,λZ=>?_⟩
  .have S:=E.trans B
   have I:=C.ext L
   have i4:ap T x (bD b.ak b.aR (c.take k)):=ap.gA I V
   refine⟨V,V,y,by simpa using S.af (D.aF u),V,V,y,by simpa using S.af (D.aF u),j.1,V,aF (bD b.ak b.aR (c.take k)) y,i4.pD j.1 V,j.1,V,?_⟩
   have au:=lo (c.take k) b.aR (-1000000000) (λw q=>(M w q).1) _ (fA (l:=bD b.ak b.aR (c.take k)) j.1 V)
   have ak:aF (bD b.ak b.aR (c.take k)) y<=1000000000:=by
    let⟨q',ai,al⟩:=k8 (c.take k) b.aR y.toNat _ (oE (l:=bD b.ak b.aR (c.take k)) j.1 V);have:=(M q' (aq ai)).2;omega
   have ar:(c.take k).length<=1000000:=bF
   rw[aP V V]
   rcases I.aF with ag|⟨q,X,tail,z,e2,e3,e4,e5⟩
   .rw[ag]at P;simp at P;omega
   .have ah:x.off=0:=by rw[z];rfl
    have aa:x.D=q:=by rw[z];rfl
    rw[ah,aa]
    have ac:0+y.toNat*1=y.toNat:=V
    rw[ac]
    have af:y.toNat<((bD b.ak b.aR (c.take k)).map Ce.i).length:=bF
    refine⟨e3.fL (by simp only[bd];omega),?_⟩
    intro m5
    have W:J p m5:=B.ah e2 _ _
    refine⟨J.tC B W H,U V _ ⟨W,?_⟩⟩
    rw[aT u,kM]
    simp only[bD,an (N.1 ab)]
    refine⟨by rw[dZ,jU,<-dZ (f:=Ce.i)];exact I.len,Or.inr ⟨q,X,tail,z,e2,?_,?_,e5⟩⟩
    .have:=cF.ah (m:=T) (o:=y.toNat) (r:=[.i (aF (bD b.ak b.aR (c.take k)) y -1)]) e3
     have z:je ((bD b.ak b.aR (c.take k)).map Ce.i++tail) y.toNat [.i (aF (bD b.ak b.aR (c.take k)) y -1)]=(gT (bD b.ak b.aR (c.take k)) y (aF (bD b.ak b.aR (c.take k)) y -1)).map Ce.i++tail:=by
      simp only[je,gT,tZ];rw[MP _ _ af]
     rw[z]at this;exact this
    .simp only[bd,dZ,jU]at e4⊢;exact e4
  .refine U V _ ⟨B,?_⟩
   rw[aT u,kM]
   simp only[bD,ae (fb N Z)]
   exact C.ext L
 .rw[bV V]at C
  exact⟨x,rfl,C.cz E.size,K⟩
def fR{aS t x:O}(a:RV g q 2 d p aS t x k s)(L:1000<=w){c:bE}(j:s.heap[ix w]? =some c):
 aN cg 131 [vp q 0,vi w] g λD v=>∃b,D=.agg #[vi c.aQ,vi c.j9,O.v b]/\ap v b c.aE/\J g v:=by
 apply uj (q,0)
 simp -zeta only[aC,aB]
 intro B
 have f:J g B:=(J.az g).aK _
 have l:=cO.ext f a.heap
 let⟨b,G,r,g1,g2⟩:=l.aF j
 have I:=l.len
 have K:=l.gW
 have A:=aw j
 unfold ix at A r g1 g2
 have e:cU (w -1000)=w -1000:=aP V V
 rw[e]
 refine⟨t,f.af a.rh,V,V,c.aQ,r,c.j9,g1,b,g2,?_⟩
 intro C
 have m:J g C:=f.ah (ad _) _ _
 let⟨o,y,M,N,u⟩:=(cO.ext m a.heap).aF j
 unfold ix at u
 have z:o=b:=by
  have F:=f.af (a.rh);obtain⟨E,H,_,_,n⟩:=a.heap.aF j;unfold ix at n;have h:=f.af n;have i:=m.af n;rw[g2]at h;rw[u]at i;simp at h i;rw[O.BY]at h i;rw[h,i]
 subst z
 exact⟨o,rfl,y,m⟩
def uP{aS L D:O}(C:RV g q 2 d p aS L D k s)(G:fO s.heap e){B:O}(o:ap g B c)(I:∀w∈c,fY s.heap w)(Y:c.length<=1000000):
 dq cg 180 [vp q 0,O.v B] g (lp s.heap c):=by
 apply rY (q,0)
 have X:=o.len
 refine dV (n:=c.length) V (λr a=>J g a/\∀w∈c.take r,1000<=w->(aM s.heap w).aQ+eC c (ix w)<=999999) ⟨J.az _,aL⟩ ?_
 rintro r Z P μ T ⟨y,v⟩ N
 refine⟨λh=>?_,λh=>iR (de (by simp at h;omega) v) y⟩
 simp only[ar]at h
 let⟨x,l⟩:=cG c r
 have m:=I x (aq l)
 have M:=iv m.1
 refine eu (n:=c.length) V (λj(z:Int) a=>J g a/\z=eC (c.take j) (ix x)) ⟨y,by simp[eC]⟩ ?_
 rintro j z m2 Q μ2 S ⟨f,rfl⟩ A
 refine dit (λE=>?_) λE=>?_
 .let⟨u,t⟩:=cG c j
  have K:=kC (c.take j) (ix x)
  have H:=iF (c.take j) (ix x)
  have F:(c.take j).length<=1000000:=bF
  have i:eC (c.take (j+1)) (ix x)=eC (c.take j) (ix x)+if u=x then 1 else 0:=by
   rw[aT t,lU];simp only[eC,M];omega
  refine⟨V,V,u,by simpa using f.af (o.aF t),V,V,x,by simpa using f.af (o.aF l),λa=>A V _ _ ⟨f,?_⟩,λa=>A V _ _ ⟨f,?_⟩⟩
  .simp at a;rw[i,an a];exact aP V V
  .simp at a;rw[i,ae a];omega
 .rw[bV V]
  have K:=kC c (ix x)
  have H:=iF c (ix x)
  let⟨u,W⟩:=bS m
  have U:=(G.cell _ (aq u)).hi
  refine⟨V,V,x,by simpa using f.af (o.aF l),?_⟩
  refine(fR (C.ext f) m.1 u).mono ?_
  rintro _ m3 ⟨b,rfl,R,a⟩
  have t:cU ((aM s.heap x).aQ+eC c (ix x))=(aM s.heap x).aQ+eC c (ix x):=aP V V
  refine⟨_,_,_,rfl,λi=>bW (λF=>?_) (f.trans a),λi=>N V _ ⟨f.trans a,bB l v λ_=>?_⟩⟩
  .have:=F x (aq l) m.1
   rw[t]at i;simp at i;omega
  .rw[t]at i;simp at i;omega
def tf{h:List bE}:lp h (kW c)<->lp h c:=by
 unfold lp;constructor
 .intro b w d a;have:=b w (lD.2 ⟨d,a⟩) a;rwa[wi]at this
 .intro b w d a;rw[wi];exact b w (lD.1 d).1 a
def Vn{s:O}(h:ap g s c)(p:1<=c.length):ap g (O.cut s 1 s.len 1) (c.drop 1):=by
 have b:=h.len;have i:=h.cap;have l:=h.gW;cases s with
 |nil=>simp at b;omega
 |zU d v a=>simp at b;omega
 |mk d v r o=>
  simp at b i l;refine⟨by simp[O.cut];omega,by simp[O.cut];omega,by simp[O.cut];omega,λn x a=>?_⟩;rw[se]at a;have q:=aw a;let⟨f,j,jv⟩:=h.iD (1+n) x a;refine⟨f,j,λm e k=>?_⟩;have:=jv m e k;simp only[O.cut,O.jC,O.mZ]at this⊢;rw[ae V];rw[<-this];congr 1;omega
def iC.pN(h:iC k b){t:Int}(d:0<=t)(e:t<b.ak.length)(f:∀w∈b.ak,w<=9223372036854775807): -9223372036854775808<=aF b.ak t/\aF b.ak t<=9223372036854775807:=by
 have c:=fA (l:=b.ak) d e;refine⟨?_,f _ c⟩;rcases h.Sv _ c with a|a
 .have:=a.1;omega
 .omega
def Kq{aS hp fr:O}(z:RV g q 2 d p aS hp fr k s)(M:fO s.heap e)(P:ap g t b.ak)(N:ap g h b.ba)(r:ap g u x.args)
 (L:iC k b)(ai:∀w∈b.ak,w<=9223372036854775807)(Z:∀l∈x.args,0<=l/\l<b.ak.length)(ax:1<=x.args.length/\x.args.length<=4)(ay:x.op=16\/x.op=17):
 dq cg 132 [vp q 0,fv b t v h,xv x u j] g (FH s.heap b x):=by
 apply tI (q,0)
 simp -zeta only[aC,aB]
 intro m1 F
 have a:J g F:=((J.az g).aK _).aK _
 have m:∀i∈[m1.size,g.size],i<F.size:=by simp[F,m1];omega
 have ar:=r.len
 have aA:=P.len
 have aw:=N.len
 have ao:=r.cap
 clear_value F
 have c:0<=aF x.args 0/\aF x.args 0<b.ak.length:=Z _ (fA V V)
 have R:aF x.args 0<b.ba.length:=by have:=L.lr;have:=L.lh;omega
 have al:=L.pN c.1 c.2 ai
 refine⟨V,V,aF x.args 0,(r.ext a).pD V V,c.1,V,aF b.ak (aF x.args 0),(P.ext a).pD c.1 c.2,hp,a.af z.rh,?_⟩
 unfold FH
 simp only[]
 generalize aD:aF b.ak (aF x.args 0)=w at*
 refine(jb (cO.ext a z.heap) al).aG (J.az _) m λi m3 y B _=>⟨i,rfl,λah=>bW (λf=>nb y ah f.1) (a.trans B),λag=>?_⟩
 have n:=yb y ag
 let⟨C,az⟩:=bS n
 have au:=(M.cell _ (aq C)).fl
 have am:=a.trans B
 refine((fR (z.ext am) n.1 C)).aG B m ?_
 rintro _ m4 ⟨fl,rfl,ak,U⟩
 have S:=B.trans U
 refine⟨U,_,_,_,rfl,(oL ak V).aG (oh (nR (aM s.heap w).aE)) (λi y=>S.lt (m i y)) λps m5 o5 i5 h5=>⟨ps,rfl,V,V,V,?_⟩⟩
 have G:=S.trans h5
 have aa:=a.trans G
 have e1:(Int.toNat (1:Int))=1:=rfl
 have e2:(Int.toNat (u.len:Int))=u.len:=V
 rw[e1,e2]
 refine(rZ (P.ext aa) (Vn (r.ext aa) V) (λl o=>Z l (wS o)) bF).aG (by simp[cN];omega) (λi y=>G.lt (m i y)) λqs m6 o6 i6 I=>⟨qs,rfl,?_⟩
 have ab:=G.trans I
 refine(qJ (i5.ext I) i6).aG ab m λb2 m7 W h7 A=>⟨b2,rfl,λad=>?_,λac=>bW (λf=>fb W ac f.2.1) (a.trans A)⟩
 have D:=W.1 ad
 refine(fR (z.ext (a.trans A)) n.1 C).aG A m ?_
 rintro _ m8 ⟨an,rfl,av,K⟩
 have H:=A.trans K
 refine⟨K,_,_,_,rfl,λo=>?_,λo=>?_⟩
 .simp at o
  have E:=a.trans H
  refine⟨λl=>iR ⟨n,D,Or.inl o,λe=>by simp at l;omega⟩ E,λl=>⟨V,V,aF x.args 0,(r.ext E).pD V V,c.1,V,aF b.ba (aF x.args 0),(N.ext E).pD c.1 R,eU ?_ E⟩⟩
  simp only[aH,aj,ne_eq]at l⊢
  exact⟨λQ=>⟨n,D,Or.inl o,λ_=>Q⟩,λf=>f.2.2.2 V⟩
 .simp at o
  refine(uP (z.ext (a.trans H)) M (i5.ext ((I.trans h7).trans K)) (λT E=>M.field (aq C) (lD.1 E).1 (lD.1 E).2) (oh (nR (aM s.heap w).aE))).aG H m λb3 m9 X h9 T=>⟨b3,rfl,λaf=>?_,λae=>bW (λf=>?_) (a.trans T)⟩
  .have Y:=tf.1 (X.1 af)
   have E:=a.trans T
   refine⟨λl=>iR ⟨n,D,Or.inr Y,λe=>by simp at l;omega⟩ E,λl=>⟨V,V,aF x.args 0,(r.ext E).pD V V,c.1,V,aF b.ba (aF x.args 0),(N.ext E).pD c.1 R,eU ?_ E⟩⟩
   simp only[aH,aj,ne_eq]at l⊢
   exact⟨λQ=>⟨n,D,Or.inr Y,λ_=>Q⟩,λf=>f.2.2.2 V⟩
  .rcases f.2.2.1 with l|l
   .exact o l
   .exact fb X ae (tf.2 l)
def I6{aS P Z:O}(b:RV g q 2 d p aS P Z k s)(G:nt k)(D:fO s.heap e)(hw: -9223372036854775808<=w/\w<=9223372036854775807):
 dq cg 129 [vp q 0,vi w] g (vK k s.heap w):=by
 apply sQ (q,0)
 simp -zeta only[aC,aB]
 refine⟨P,b.rh,(jb b.heap hw).then λi m1 x C=>⟨i,rfl,λai=>bW (λa=>nb x ai a.1) C,λah=>?_⟩⟩
 have z:=yb x ah
 let⟨F,al⟩:=bS z
 have K:=D.cell _ (aq F)
 have aE:=(K.oT al).2
 refine(fR (b.ext C) z.1 F).mono ?_
 rintro _ f ⟨B,rfl,N,j⟩
 refine⟨_,_,_,rfl,?_⟩
 intro T h
 have an:=C.trans j
 have H:J f h:=((J.az f).aK _).ah (ad _) _ _
 have s4:h.size=f.size+1:=by simp[h,T,ax]
 have hB:af h f.size 1=some (vi (aM s.heap w).j9):=(cF.ah (m:=T) (o:=0) (r:=[.i (aM s.heap w).aQ,.i (aM s.heap w).j9,.s B]) (cF.push f _ _)).cp 1
 have y:∀i∈[f.size],i<h.size:=by simp[s4]
 clear_value h
 have c:=an.trans H
 have L:=b.ext c
 have aD:=b.fB.cJ.len
 have aA:=G.nT.len
 have ar:(eW k.bo).length<=12:=by
  have:=rf G.nT.types k.bo.length;rw[mU _ _ (ad _)]at this;exact this
 refine⟨d,L.bo,(qH L.fB.bo G.nT.types).aG (J.az _) y λm5 t _=>⟨_,rfl,t.db hB,p,(b.ext (c.trans t)).cJ,?_⟩⟩
 have aF:=c.trans t
 have W:cU ((aM s.heap w).j9 -((eW k.bo).length:Int))=(aM s.heap w).j9 -cr k:=aP V V
 have X:cU ((p.len:Int) -1)=(p.len:Int) -1:=aP V V
 rw[W,X]
 refine(aZ _ _ _ _).aG t y λb2 m6 M h6 l=>⟨b2,rfl,λae=>?_,λac=>bW (λa=>fb M ac ⟨a.2.1,oh a.2.2.1⟩) (c.trans l)⟩
 have R:=M.1 ae
 have A:=c.trans l
 have E:=b.ext A
 let⟨ao,Q⟩:=cG k.cJ (((aM s.heap w).j9 -cr k).toNat)
 have am:dO k ((aM s.heap w).j9 -cr k)=ao:=by simp[dO,Q]
 obtain⟨U,l',c',ab,ak,av,g0,g1,_⟩:=E.fB.cJ.aF Q
 have au:=ab.len
 have az:=ak.len
 have ay:=N.len
 have aw:=K.fl
 have Y:cU ((B.len:Int)+1)=(B.len:Int)+1:=aP V V
 rw[Y]
 unfold vK
 rw[am]
 refine⟨p,E.cJ,V,V,U,g0,λu=>⟨p,E.cJ,V,V,l',g1,λv=>⟨λn=>?_,λn=>?_⟩,λv=>bW (λa=>?_) A⟩,λu=>bW (λa=>?_) A⟩
 .simp at u v n
  exact iR ⟨z,R.1,V,V,V,Or.inl n⟩ A
 .simp at u v n
  refine(oL (N.ext (H.trans l)) V).aG (oh (nR (aM s.heap w).aE)) (λi x=>l.lt (y i x)) λps m7 o7 i7 aa=>⟨ps,rfl,?_⟩
  have I:=l.trans aa
  refine(uP (b.ext (c.trans I)) D i7 (λag S=>D.field (aq F) (lD.1 S).1 (lD.1 S).2) (oh (nR (aM s.heap w).aE))).aG I y λb3 m8 ag ap S=>⟨b3,rfl,eU ?_ (c.trans S)⟩
  rw[ag,tf]
  refine⟨λaj=>⟨z,R.1,V,V,V,Or.inr aj⟩,λa=>?_⟩
  rcases a.2.2.2.2.2 with j|j
  .exact absurd j n
  .exact j
 .have:=a.2.2.2.2.1;simp at v;omega
 .have:=a.2.2.2.1;simp at u;omega
def I7{aS M E:O}(C:RV g q 2 d p aS M E k s)(B:ap g h b.ba)(G:ap g u x.args)(T:0<=x.bY/\x.bY<=b.ba.length)(U:b.ba.length<=1000000)
 (K:∀w∈b.ba,w≠0->1000<=w/\∃o,s.heap[ix w]? =some o):
 dq cg 126 [vp q 0,fv b t v h,xv x u j] g (FI s.heap b x):=by
 apply sR (q,0)
 simp -zeta only[aC,aB]
 intro n f
 have c:J g f:=((J.az g).aK _).aK _
 have L:∀D∈[n.size,g.size],D<f.size:=by simp[f,n];omega
 have F:af f n.size 4=some (O.v u):=(cF.push n _ _).cp 4
 have Q:=G.len
 have S:=B.len
 clear_value f
 unfold FI
 refine⟨λm=>iR (λr=>absurd (by simpa using m) r) c,λm=>?_⟩
 simp at m
 have e:cU (x.bY -1)=x.bY -1:=aP V V
 rw[e]
 have A:=(B.ext c).pD (i:=x.bY -1) V V
 refine⟨V,V,aF b.ba (x.bY -1),A,λa=>iR (λ_ r=>absurd (by simpa using a) r) c,λa=>?_⟩
 simp at a
 let⟨N,o,z⟩:=K _ (fA (l:=b.ba) (i:=x.bY -1) V V) a
 refine⟨V,V,aF b.ba (x.bY -1),A,(fR (C.ext c) N z).aG (J.az _) L ?_⟩
 rintro _ W ⟨P,rfl,I,r⟩
 have R:=I.len
 have H:aM s.heap (aF b.ba (x.bY -1))=o:=by simp[aM,z]
 refine⟨r,_,_,_,rfl,r.db F,eU ?_ (c.trans r)⟩
 rw[H]
 simp
 exact⟨λy _ _=>V,λy=>oh (y m a)⟩
def qT(k:cQ)(x:Instr):∀(c t:List Int)(a:Nat),fI k x a (c++t)=fI k x a c++fI k x (a+c.length) t
 |[],t,a=>by simp[fI]
 |u::c,t,a=>by
  have:=qT k x c t (a+1);simp only[cX,fI,this,aY];have e:a+(c.length+1)=a+1+c.length:=V;rw[e];split<;>simp
def wG{aS l Y:O}(o:RV g q 2 d p aS l Y k s)(R:ap g t b.ak)(D:ap g u x.args)(Z:iC k b)(af:∀w∈b.ak,w<=9223372036854775807)
 (ag:∀y∈x.args,0<=y/\y<b.ak.length)(hc:zD k x)(ai:x.op=9\/x.op=24):
 dq cg 127 [vp q 0,fv b t v h,xv x u j] g (KU k s.heap b x):=by
 apply sP (q,0)
 simp -zeta only[aC,aB]
 intro W i
 have G:J g i:=((J.az g).aK _).aK _
 have F:∀r∈[W.size,g.size],r<i.size:=by simp[i,W];omega
 have aa:=D.len
 have ak:=R.len
 clear_value i
 refine dV (n:=x.args.length) (aa▸D.gW) (λa c=>J i c/\∀y∈fI k x 0 (x.args.take a),1000<=aF b.ak y->fY s.heap (aF b.ak y)) ⟨J.az _,by simp[fI]⟩ ?_
 rintro a m3 aj μ hk ⟨T,Q⟩ I
 have m:=G.trans T
 refine⟨λh=>?_,λh=>iR (by simp at h;rwa[bV V]at Q) m⟩
 simp only[ar]at h
 let⟨y,H⟩:=cG x.args a
 have f:=ag y (aq H)
 have C:=o.ext m
 have S:fI k x 0 (x.args.take (a+1))=fI k x 0 (x.args.take a)++fI k x a [y]:=by
  rw[aT H,qT];congr 2;simp;omega
 have E:(nC k x a=true->1000<=aF b.ak y->fY s.heap (aF b.ak y))->∀z∈fI k x 0 (x.args.take (a+1)),1000<=aF b.ak z->fY s.heap (aF b.ak z):=λhh z c=>by
  rw[S]at c;rcases List.mem_append.1 c with c|c
  .exact Q z c
  .simp only[fI]at c;split at c
   .rename_i e;simp at c;subst c;exact hh e
   .simp at c
 have ah:nC k x a=true->y∈fI k x 0 x.args:=λe=>by
  have X:x.args=x.args.take (a+1)++x.args.drop (a+1):=(dm _ _).symm;rw[X,qT,S];refine bJ _ (eF _ ?_);simp only[fI];rw[an e];simp
 refine⟨V,V,y,by simpa using m.af (D.aF H),f.1,V,aF b.ak y,by simpa using m.af (R.pD f.1 f.2),d,C.bo,p,C.cJ,?_⟩
 refine(rW C.fB hc u j a).aG T F λr m4 M h4 K=>⟨r,rfl,λae=>?_,λad=>I V _ ⟨K,E λe=>absurd ⟨ai,e⟩ (fb M ad)⟩⟩
 have e:=(M.1 ae).2
 refine(dW _ _).aG K F λb2 m5 N h5 A=>⟨b2,rfl,λac=>?_,λab=>I V _ ⟨A,E λ_ l=>absurd l (fb N ab)⟩⟩
 have U:=G.trans A
 refine⟨l,(o.ext U).rh,(jb (cO.ext U o.heap) (Z.pN f.1 f.2 af)).aG A F λb3 m6 P h6 L=>⟨b3,rfl,λB=>bW (λhM=>nb P B (hM y (ah e) (N.1 ac))) (G.trans L),λB=>I V _ ⟨L,E λ_ _=>yb P B⟩⟩⟩
end
section
structure zB(im:cQ)(s:St)(fs:List aX)(f:aX)(x:Instr):Prop where
 ok:cR im s
 run:s.cv=3
 fr:s.ao=fs++[f]
 cur:eA im f=x
 uE:∀g∈s.ao,∀w∈g.ak,w<=9223372036854775807
section
variable{b:cQ}{s:St}{c:List aX}{f:aX}{x:Instr}
def zB.F(a:zB b s c f x):iC b f:=a.ok.ao f (by rw[a.fr];simp)
def zB.Na(a:zB b s c f x):∀w∈f.ak,w<=9223372036854775807:=a.uE f (by rw[a.fr];simp)
def zB.I(a:zB b s c f x):∃p,b.cJ[f.fG.toNat]? =some p/\dO b f.fG=p/\HU b p/\p.dt[f.pc.toNat]? =some x/\iS b p f.pc.toNat x:=by
 have:=a.F.JF a.ok.fB;rwa[a.cur]at this
def zB.Gw(a:zB b s c f x):f.ak.length=f.aR.length/\f.ba.length=f.aR.length/\1<=f.aR.length/\f.aR.length<=2000:=by
 obtain⟨p,_,e,i,_,_⟩:=a.I;have d:=a.F.lr;have g:=a.F.lo;have h:=a.F.lh;rw[e]at d g h;have:=i.ak;omega
def zB.arg(a:zB b s c f x):∀y∈x.args,0<=y/\y<f.ak.length:=λy h=>by
 obtain⟨p,_,e,_,_,g⟩:=a.I;have d:=a.F.lr;rw[e]at d;have:=g.args y h;omega
def zB.dst(a:zB b s c f x):0<=x.dst/\x.dst<f.aR.length:=by
 obtain⟨p,_,e,_,_,g⟩:=a.I;have d:=a.F.lo;rw[e]at d;have:=g.dst;omega
def zB.call(a:zB b s c f x):zD b x:=let⟨_,_,_,_,_,d⟩:=a.I;d.call
def zB.ZL(a:zB b s c f x):0<=x.op/\x.op<=24/\x.op≠7/\x.op≠8/\x.op≠12/\x.op≠13:=by
 obtain⟨p,_,_,e,_,d⟩:=a.I;exact((JG e.ak.2.2 a.ok.fB.nT.len.2 λq g=>(a.ok.fB.nT.dz q g).1).1 d).1
def zB.ly(g:zB b s c f x):x.args.length<=4/\((x.op=5\/x.op=14\/x.op=15\/x.op=18\/x.op=23\/x.op=19\/x.op=20\/x.op=21)->x.args.length=1)/\((x.op=1\/x.op=2\/x.op=3\/x.op=4\/x.op=11)->x.args.length=2)/\
 ((x.op=16\/x.op=17)->1<=x.args.length)/\(x.op=6->0<=x.bY/\x.bY<=f.ba.length/\0<=x.bP/\x.bP<12/\x.args.length<=3)/\(x.op=10->0<=x.bP/\x.bP<4/\x.args.length<=3)/\(x.op=0->-999<=x.bP/\x.bP<=999):=by
 obtain⟨z,_,r,y,_,u⟩:=g.I
 have a:=u.op
 have t:=g.F.lh
 rw[r]at t
 have d:=g.ok.fB.nT
 have v:(eW b.bo).length<=12:=by
  have:=rf d.types b.bo.length;rw[mU _ _ (ad _)]at this;exact this
 have w:=JB d.types x.bP
 unfold mf at a
 by_cases h:x.op=0
 .rw[an h]at a;omega
 rw[ae h]at a
 by_cases i:x.op=1\/x.op=2\/x.op=3\/x.op=4\/x.op=11
 .rw[an i]at a;omega
 rw[ae i]at a
 by_cases j:x.op=5\/x.op=14\/x.op=15\/x.op=18\/x.op=23
 .rw[an j]at a;omega
 rw[ae j]at a
 by_cases k:x.op=6
 .rw[an k]at a;omega
 rw[ae k]at a
 by_cases l:x.op=9\/x.op=24
 .rw[an l]at a
  let⟨q,n,e,o⟩:=a
  have:=(d.dz q (aq e)).1;omega
 rw[ae l]at a
 by_cases m:x.op=10
 .rw[an m]at a
  obtain⟨⟨q,n,e,o⟩,_⟩:=a
  have:=(d.dz q (aq e)).1
  have:=aw e
  have:=d.len;omega
 rw[ae m]at a
 by_cases n:x.op=16\/x.op=17
 .rw[an n]at a;omega
 rw[ae n]at a
 by_cases o:x.op=19
 .rw[an o]at a;omega
 rw[ae o]at a
 by_cases p:x.op=20
 .rw[an p]at a;omega
 rw[ae p]at a
 by_cases q:x.op=22
 .rw[an q]at a;omega
 rw[ae q]at a
 by_cases e:x.op=21
 .rw[an e]at a
  have:=a.1;omega
 rw[ae e]at a;exact a.elim
def zB.LH(d:zB b s c f x):∀w∈f.ba,w≠0->1000<=w/\∃e,s.heap[ix w]? =some e/\e.aQ<0:=λw h k=>by
 have g:1000<=w:=by have:=d.F.ba w h;omega
 refine⟨g,?_⟩;have j:0<dG s.ao (ix w):=by
  rw[d.fr,eM,jc];have:=vS c (ix w);have:=uJ (l:=f.ba) (f:=ix w) (by rw[iv g];exact h);omega
 exact dQ λi=>by have:=d.ok.np (ix w) i;omega
def zB.Pb(d:zB b s c f x):∀o∈f.aR,0<=o/\o<=999999:=λo h=>by
 refine⟨(d.F.Qi o h),?_⟩;rcases dR (0<o)with i|i
 .let⟨k,e⟩:=List.mem_iff_getElem?.1 h;have:=d.Gw;let⟨w,j⟩:=cG f.ak k (oh (aw e));have m:=LX d.F.Qi j e (d:=ix w) (by rw[iv ((d.F.aR k o w e j).2 i)]);have n:o<=fC s.ao (ix w):=by
   rw[d.fr,fX,kT];have:=KK (b:=c) (λg l=>d.ok.ao g (by rw[d.fr];exact bJ _ l)) (ix w);omega
  let⟨g,hd,l⟩:=d.ok.heap.lv (ix w) V;have p:=d.ok.heap.ex _ g hd l;have q:=qW s.heap (ix w);have r:=(d.ok.heap.cell g (aq hd)).hi;omega
 .omega
def zB.KM(a:zB b s c f x):∀r∈bU b x,0<=r/\r<f.ak.length:=λr d=>a.arg r (Cs d)
end
def Mz{o:E}{mb:Nat}{ah aw aS d fr:O}{M:cQ}{K:St}(Q:RV o mb 2 ah aw aS d fr M K){fs:List aX}{m:aX}{x:Instr}(C:zB M K fs m x){Z ac h S am ow:O}(R:ap o Z m.ak)(U:ap o h m.ba)(L:ap o S x.args){aR:List Int}(X:ap o ow aR)(aA:aR.length=m.aR.length):
 dq cg 71 [vp mb 0,fv m Z ac h,xv x S am,O.v ow] o (kv M K m x aR):=by
 apply um (mb,0)
 simp -zeta only[aC,aB]
 intro Y P
 have b:J o P:=((J.az o).aK _).aK _
 have i:∀g∈[Y.size,o.size],g<P.size:=by simp[P,Y];omega
 have ai:cF P Y.size dX [.i x.op,.i x.dst,.i x.bP,.i x.bY,.s S,.s am]:=cF.push Y _ _
 have ao:cF P o.size dP [.i m.fG,.i m.pc,.i m.dst,.s Z,.s ac,.s h]:=(cF.push o _ _).ext (J.push Y _)
 have ax:=L.len
 have aE:=R.len
 have ay:=U.len
 have aD:=X.len
 have hd:=C.dst
 have az:=C.Gw
 have G:=C.ly
 have hI:=C.ok.heap
 clear_value P
 refine⟨λN=>J P N/\(∀ac∈aR,0<=ac)/\(lR x.op->aF aR x.dst<=0),?_,?_⟩
 .refine(Bt (X.ext b)).aG (J.az _) i λg m3 c n _=>⟨g,rfl,λu=>bW (λl=>nb c u l.nn) (b.trans n),λz=>?_⟩
  refine(xS _ _).aG n i λb2 A y w a=>⟨b2,rfl,λu=>?_,λv=>⟨a,yb c z,λe=>absurd e (fb y v)⟩⟩
  refine⟨hd.1,V,aF aR x.dst,(X.ext (b.trans a)).pD hd.1 V,λk=>bW (λl=>?_) (b.trans a),λk=>⟨a,yb c z,λ_=>by simpa using k⟩⟩
  have:=l.dst (y.1 u);simp at k;omega
 .rintro m3 ⟨n,q,p⟩
  have f:=b.trans n
  have t:=Q.ext f
  have mk:∀{ad:Prop},(kv M K m x aR->ad)->(ad->kv M K m x aR)->(kv M K m x aR<->ad):=λI h2=>⟨I,h2⟩
  have B:1<=x.args.length->0<=aF x.args 0/\aF x.args 0<m.ak.length:=λI=>C.arg _ (fA V V)
  have D:∀{N},J o N->1<=x.args.length->af N S.D (S.off+Int.toNat (0:Int)*1)=some (vi (aF x.args 0)):=λhx I=>(L.ext hx).pD V V
  have F:∀{N},J o N->1<=x.args.length->af N Z.D (Z.off+Int.toNat (aF x.args 0)*1)=some (vi (aF m.ak (aF x.args 0))):=λhx I=>(R.ext hx).pD (B I).1 (B I).2
  refine⟨λe=>?_,λe1=>?_⟩
  .simp only[bQ,aH]at e
   refine(EE (R.ext f) (L.ext f) C.arg).aG n i λg A c w a=>⟨g,rfl,eU (c.trans ?_) (b.trans a)⟩
   refine⟨λd=>?_,λh=>h.nM V⟩
   refine⟨q,p,?_,?_,?_,?_,?_,?_,?_,?_,?_,?_,?_⟩<;>intro r<;>first|(exfalso;omega)|exact d
  simp only[bt,aj]at e1
  refine⟨λe=>?_,λe2=>?_⟩
  .simp only[aH]at e
   have j:=G.2.2.2.2.1 e
   refine(I7 t (U.ext f) (L.ext f) ⟨j.1,j.2.1⟩ V (λaa W T=>by obtain⟨I,s,H,_⟩:=C.LH aa W T;exact⟨I,s,H⟩)).aG n i λg A c w a=>⟨g,rfl,eU (c.trans ?_) (b.trans a)⟩
   refine⟨λd=>?_,λh=>h.iP e⟩
   refine⟨q,p,?_,?_,?_,?_,?_,?_,?_,?_,?_,?_,?_⟩<;>intro r<;>first|(exfalso;omega)|exact d
  simp only[aj]at e2
  refine⟨λe=>?_,λe3=>?_⟩
  .simp only[aH]at e
   refine(wG t (R.ext f) (L.ext f) C.F C.Na C.arg C.call (Or.inl e)).aG n i λg A c w a=>⟨g,rfl,eU (c.trans ?_) (b.trans a)⟩
   refine⟨λd=>?_,λh=>h.cW (Or.inl e)⟩
   refine⟨q,p,?_,?_,?_,?_,?_,?_,?_,?_,?_,?_,?_⟩<;>intro r<;>first|(exfalso;omega)|exact d
  simp only[aj]at e3
  refine⟨λe=>?_,λe4=>?_⟩
  .simp only[aH]at e
   refine(wG t (R.ext f) (L.ext f) C.F C.Na C.arg C.call (Or.inr e)).aG n i λg A c w a=>⟨g,rfl,λu=>?_,λz=>bW (λl=>fb c z (l.cW (Or.inr e))) (b.trans a)⟩
   refine(mq (X.ext (b.trans a))).aG a i λb2 m5 y k s=>⟨b2,rfl,λag=>?_,λv=>bW (λl=>fb y v (l.zero (Or.inl e)).1) (b.trans s)⟩
   refine(mq (U.ext (b.trans s))).aG s i λb3 m6 H T j=>⟨b3,rfl,eU (H.trans ?_) (b.trans j)⟩
   refine⟨λd=>?_,λh=>(h.zero (Or.inl e)).2⟩
   refine⟨q,p,?_,?_,?_,?_,?_,?_,?_,?_,?_,?_,?_⟩<;>intro r<;>first|(exfalso;omega)|exact c.1 u|exact⟨y.1 ag,d⟩
  simp only[aj]at e4
  refine⟨λe=>?_,λe5=>?_⟩
  .simp only[aH]at e
   have W:=G.2.1 V
   refine(mq (X.ext f)).aG n i λb2 m5 y k s=>⟨b2,rfl,λag=>?_,λv=>bW (λl=>fb y v (l.zero (Or.inr e)).1) (b.trans s)⟩
   refine(mq (U.ext (b.trans s))).aG s i λb3 m6 H T j=>⟨b3,rfl,λau=>?_,λaq=>bW (λl=>fb H aq (l.zero (Or.inr e)).2) (b.trans j)⟩
   have ab:=b.trans j
   have ak:=Q.ext ab
   have aa:=ak.ao.len
   have iK:∀d:1<K.ao.length\/aF m.ak (aF x.args 0)<1000,kv M K m x aR:=λd=>by
    refine⟨q,p,?_,?_,?_,?_,?_,?_,?_,?_,?_,?_,?_⟩<;>intro r<;>first|(exfalso;omega)|exact⟨y.1 ag,H.1 au⟩|exact d
   refine⟨fr,ak.OW,λh8=>iR (iK (Or.inl (by simp at h8;omega))) ab,λh8=>?_⟩
   refine⟨V,V,_,D ab V,(B V).1,oh ((B V).2),_,F ab V,(dW _ _).aG j i λb4 m7 al h9 ae=>⟨b4,rfl,eU ?_ (b.trans ae)⟩⟩
   simp at h8
   constructor
   .intro an
    exact iK (Or.inr (oh (nb al an)))
   .intro l
    rcases l.ret e with an|an
    .omega
    .have:¬b4=true:=λav=>by have:=al.1 av;omega
     simpa using this
  simp only[aj]at e5
  refine⟨λe=>?_,λe6=>?_⟩
  .simp only[aH]at e
   have W:=G.2.2.1 V
   have j:=B V
   refine⟨V,V,_,D f V,j.1,V,_,F f V,(I6 t C.ok.fB hI (C.F.pN j.1 j.2 C.Na)).aG n i λg A c w a=>⟨g,rfl,eU (c.trans ?_) (b.trans a)⟩⟩
   refine⟨λd=>?_,λh=>h.apply e⟩
   refine⟨q,p,?_,?_,?_,?_,?_,?_,?_,?_,?_,?_,?_⟩<;>intro r<;>first|(exfalso;omega)|exact d
  simp only[aj]at e6
  refine⟨λe=>?_,λe7=>?_⟩
  .simp only[aH]at e
   have W:=G.2.1 V
   have j:=B V
   refine⟨V,V,_,D f V,j.1,V,_,F f V,d,t.rh,(jb t.heap (C.F.pN j.1 j.2 C.Na)).aG n i λg A c w a=>⟨g,rfl,λu=>?_,λz=>bW (λl=>fb c z (l.VS e).1) (b.trans a)⟩⟩
   have v:=c.1 u
   refine(fR (Q.ext (b.trans a)) v.1 (bS v).1).aG a i ?_
   rintro _ m5 ⟨fl,rfl,aa,k⟩
   refine⟨k,_,_,_,rfl,eU ?_ (b.trans (a.trans k))⟩
   simp only[ar]
   refine⟨λd=>?_,λh=>(h.VS e).2⟩
   refine⟨q,p,?_,?_,?_,?_,?_,?_,?_,?_,?_,?_,?_⟩<;>intro r<;>first|(exfalso;omega)|exact⟨v,d⟩
  simp only[aj]at e7
  refine⟨λe=>?_,λe8=>?_⟩
  .simp only[aH]at e
   have W:=G.2.1 V
   have j:=B V
   refine⟨V,V,_,D f V,j.1,V,_,F f V,(dW _ _).aG n i λg A c w a=>⟨g,rfl,eU (c.trans ?_) (b.trans a)⟩⟩
   refine⟨λd=>?_,λh=>h.drop e⟩
   refine⟨q,p,?_,?_,?_,?_,?_,?_,?_,?_,?_,?_,?_⟩<;>intro r<;>first|(exfalso;omega)|exact d
  simp only[aj]at e8
  refine⟨λe=>?_,λe9=>?_⟩
  .simp only[bQ,aH]at e
   refine(Kq t hI (R.ext f) (U.ext f) (L.ext f) C.F C.Na C.arg ⟨G.2.2.2.1 e,G.1⟩ e).aG n i λg A c w a=>⟨g,rfl,eU (c.trans ?_) (b.trans a)⟩
   refine⟨λd=>?_,λh=>h.JN e⟩
   refine⟨q,p,?_,?_,?_,?_,?_,?_,?_,?_,?_,?_,?_⟩<;>intro r<;>first|(exfalso;omega)|exact d
  simp only[bt,aj]at e9
  refine⟨λe=>?_,λab=>?_⟩
  .simp only[aH]at e
   have W:=G.2.1 V
   have j:=B V
   refine⟨d,t.rh,V,V,_,D f V,j.1,V,_,F f V,(jb t.heap (C.F.pN j.1 j.2 C.Na)).aG n i λg A c w a=>⟨g,rfl,λu=>?_,λz=>bW (λl=>fb c z (l.load e).1) (b.trans a)⟩⟩
   have v:=c.1 u
   have H:=b.trans a
   refine⟨V,V,_,D H V,j.1,V,_,F H V,(fR (Q.ext H) v.1 (bS v).1).aG a i ?_⟩
   rintro _ m5 ⟨fl,rfl,aa,k⟩
   have ag:=aa.len
   refine⟨k,_,_,_,rfl,k.db ((ai.ext a).cp 2),eU ?_ (b.trans (a.trans k))⟩
   simp only[ar]
   refine⟨λd=>?_,λh=>oh ((h.load e).2)⟩
   refine⟨q,p,?_,?_,?_,?_,?_,?_,?_,?_,?_,?_,?_⟩<;>intro r<;>first|(exfalso;omega)|exact⟨v,V⟩
  simp only[aj]at ab
  refine⟨λe=>?_,λag=>?_⟩
  .simp only[aH]at e
   have W:=G.2.1 V
   have j:=B V
   refine⟨d,t.rh,V,V,_,D f V,j.1,V,_,F f V,(jb t.heap (C.F.pN j.1 j.2 C.Na)).aG n i λg A c w a=>⟨g,rfl,λu=>?_,λz=>bW (λl=>fb c z (l.Fx e).1) (b.trans a)⟩⟩
   have v:=c.1 u
   have H:=b.trans a
   have l:=Q.ext H
   refine⟨ah,l.bo,V,V,_,D H V,j.1,V,_,F H V,(AP l.fB.bo C.ok.fB.nT.types _).aG a i ?_⟩
   rintro _ m5 ⟨cs,rfl,ak,k⟩
   have s:=a.trans k
   refine⟨k,cs,rfl,k.db (F H V),k.db (D H V),k.db ((ai.ext a).cp 4),k.db ((ao.ext a).cp 3),(fR (Q.ext (b.trans s)) v.1 (bS v).1).aG s i ?_⟩
   rintro _ m6 ⟨fl,rfl,aa,T⟩
   refine⟨T,_,_,_,rfl,(dw (ak.ext T) _).aG (s.trans T) i λb2 m7 y h8 ae=>⟨b2,rfl,eU (y.trans ?_) (b.trans ae)⟩⟩
   refine⟨λd=>?_,λh=>(h.Fx e).2⟩
   refine⟨q,p,?_,?_,?_,?_,?_,?_,?_,?_,?_,?_,?_⟩<;>intro r<;>first|(exfalso;omega)|exact⟨v,d⟩
  .simp only[aj]at ag
   refine iR ?_ f
   refine⟨q,p,?_,?_,?_,?_,?_,?_,?_,?_,?_,?_,?_⟩<;>intro r<;>exfalso<;>omega
end
end Go.Proofs.YtkoifinbblcbiaaGreat
