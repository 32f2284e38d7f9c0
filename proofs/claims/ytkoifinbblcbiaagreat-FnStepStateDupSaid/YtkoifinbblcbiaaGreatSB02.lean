/- Part of a proof. -/
import Derived.Test.YtkoifinbblcbiaaGreatSB01
set_option linter.all false
set_option maxHeartbeats 8000000
set_option maxRecDepth 100000
namespace Go.Proofs.YtkoifinbblcbiaaGreat
open Go.Vc
section
variable{c m:E}{k i g a:Nat}{s:O}{d:List Nat}{e:List Int}{x:cY}{f:List gU}
def VW{a b:E}(h:J a c)(f:Fz [k] c b)(g:a.size<=k):J a b:=Fz.ext (((h.fz [k]).trans f).DP λe d=>Or.inr (by simp at d;omega))
def _root_.Go.Vc.Fz.OJ{M b:E}(f:Fz [k] c M)(h:s.D=k\/c.size<=s.D)(g:M.size<=b.size)(q:∀a,a<M.size->a≠s.D->b[a]? =M[a]?):Fz [k] c b:=
 f.sq ⟨g,λa d e=>q a d (by simpa using e)⟩ (Y:=[s.D]) (λy d=>by simp at d⊢;omega)
def GI.ZQ{X:List Nat}{b:E}{x:O}{f:List Int}{K:O->E->Prop}(h:GI d b m s e)(k:Fz X b m)(n:ap m x f)(p:e.length+f.length<=10^12)
 (l:∀r a,GI d b a r (e++f)->Fz X b a->(m.size<=a.size/\(r.D=s.D\/m.size<=r.D))->(∀c,c<m.size->c≠s.D->a[c]? =m[c]?)->K r a):jT m aA [.i 0] 8 s x K:=by
 let⟨o,g,i,j⟩:=n.V8 (b:=1) λ_ _ h=>by rw[h];rfl
 exact Gr.next (g:=[.i 0]) uf.mono bh h k g i j V l
def bO(d:List Nat){b:O}(h:ap m b e)(c:e.length<=10^12):lA 66 [O.v b] m d (e=·):=by
 apply nM;intro i;have a:J m i:=J.push m _;exact GI.ZQ (e:=[]) (X:=[]) (GI.nil d m) (a.fz []) (h.ext a) (by simpa using c) λr j g f _ _=>⟨r,e,rfl,by simpa using g,rfl,f.ext⟩
abbrev GB(d:List Nat)(a m:E)(s:O)(e:List Bk):Prop:=Gr d a m dj 2 rT s e
def GB.new(d:List Nat)(m:E):GB d m (m.push (.cells (bu []) dj)) (.mk m.size 0 0 0) []:=Gr.new d (ad _) _ _ _
def GB.kV{d X:List Nat}{g m:E}{s a:O}{e:List Bk}{c:Bk}{K:O->E->Prop}(h:GB d g m s e)(k:Fz X g m)(j:eQ (bH (s.D::d) m) a c.aD)(l:e.length<=10^12)
 (i:∀r b,GB d g b r (e++[c])->Fz X g b->m.size<=b.size/\(r.D=s.D\/m.size<=r.D)->(∀f,f<m.size->f≠s.D->b[f]? =m[f]?)->K r b):
 jT (m.push (.cells (bu [.s a,.i c.aS]) dj)) dj [.s .nil,.i 0] 32 s (.mk m.size 0 1 1) K:=
 Gr.kV (g:=[.s .nil,.i 0]) rT.mono bh h k (by cases c;exact rT.of j) V i
def KH{a:List bA}{b bQ:Int}{y:Int}(h:b=8)(c:(cA a bQ)[i]? =some y):BY a b bQ i=(cG a y).length:=by unfold BY;rw[ao h,c];rfl
def KI{b:List bA}{a bQ:Int}(h:a≠8):BY b a bQ i=0:=by unfold BY;rw[ae h]
def _root_.Go.Vc.WS.PU{b:List bA}{f d:Prop}(h:WS b g f a x)(j:f->d){bZ:Int}(l:0<=bZ/\bZ<=(a:Int)){bE:List Bk}(i:bE.length=x.bE.length)(m:∀(k:Nat)(c:Bk),bE[k]? =some c->WB b g d (a+BY b x.op x.bQ k) c):WS b g d a ⟨x.op,x.bQ,bZ,x.args,bE⟩:=
 ⟨⟨h.fj.op.imp id λh=>⟨j h.1,h.2⟩,h.fj.args,h.fj.lX,l,λe=>i.trans (h.fj.Kn e),λe=>i▸h.fj.all e,h.fj.call⟩,m⟩
def IA(hS:∀g∈d,g<m.size){Y U ae a k ac ab:O}{r:List bA}{G lo la:List Int}(D:eM m Y U r f)(hv:ap m ae G)(ha:ap m a x.args)(R:nQ m k x.bE)(ho:ap m ac lo)(aA:ap m ab la)
 (aD:∀o∈lo,0<=o/\o<(G.length:Int))(XN:lo.length+5*x.w<=500)(XK:la.length+1000*x.w<=1000000)(vN:G.length+5*x.w<=1000000)(aa:WS r f.length False G.length x)(ih:∀c∈x.bE,WU r f c):
 KB 293 [.agg #[O.v Y,O.v U],O.v ae,px x a k,O.v ac,O.v ab] m d λy=>WS r f.length True G.length y/\y.op=x.op/\y.w<=1+x.args.length+1100*bw x.bE:=by
 apply AQ
 simp -zeta only[aC,aB]
 intro m0 o p ak
 let⟨q,u,s0,s1,s2⟩:=qy (a:=m0) (b:=o) (c:=p) rfl rfl rfl
 have ao:J p ak:=J.push _ _
 have gk:=GB.new (o.size::d) p
 clear_value p
 have aK:=ha.len;have az:=R.len;have hw:=cY.mI x;have aQ:=KK x.bE
 refine(iC (e:=[p.size]) (by simp[ak]) (D.le (q.trans ao).le).bq D.types x.bQ).aI ao u λg cl m4 t F x4 u4=>⟨_,rfl,?_⟩
 subst F
 have aR:=t.len
 refine eB (n:=x.bE.length) (az▸R.gY) (λj s M=>Fz [p.size] m4 M/\(s.D=p.size\/m4.size<=s.D)/\∃e,GB (o.size::d) p M s e/\e.length=j/\(∀(i:Nat)(c:Bk),e[i]? =some c->WB r f.length True (G.length+BY r x.op x.bQ i) c)/\bw e<=1100*bw (x.bE.take j)) ⟨Fz.az _ _,Or.inl rfl,[],gk.ext rT.mono x4,rfl,aL,aL⟩ ?_
 rintro j s T au μ hj ⟨N,aE,e,Q,aT,ag,ay⟩ aI
 have h:=VW u4 N (ad _)
 have hy:=Q.bn
 refine dit (λz=>?_) λz=>?_
 .intro m6
  have l:J T m6:=J.push _ _
  let⟨c,C⟩:=cK x.bE j
  have aM:=wW C
  have aP:=uF C
  have aw:∀{M:E},J T M->∀g∈s.D::o.size::d,g<M.size:=λz=>bP (bP hS q.size (u _ aL)) (h.trans z).size (oh z.size)
  have iQ:∀(M:E)(H:O)(P:List Int)(w:O),J T M->ap M H P->P.length=BY r x.op x.bQ j->eQ M w c.aD->
   aN cp 322 [.agg #[O.v Y,O.v U],O.v ae,O.v H,.agg #[O.v w,vi c.aS],O.v ac,O.v ab] M λrv K=>eH [o.size,m0.size,m.size] M K/\∃am:O,∃an:Int,rv=.agg #[O.v am,vi an]/\
    let M1:E:=K.push (.cells (bu [.s am,.i an]) dj)
    jT M1 dj [.s O.nil,.i (0:Int)] 32 s (O.mk K.size 0 1 1) λal L=>eH [o.size,m0.size,m.size] M1 L/\au al (cT ((j:Int)+(1:Int))) L/\μ al (cT ((j:Int)+(1:Int))) L<μ s j T:=by
   intro M H P w B hf af I
   have X:=q.trans (h.trans B)
   have b3:=QL D.types x.op x.bQ j
   refine(JV (c:=s.D::o.size::d) (aw B) (D.le X.le) (hv.ext X) hf I (ho.ext X) (aA.ext X) ⟨aD,V,V,V,V,af▸aa.bE j c C⟩ (ih c (aq C))).aI (h.trans B) u λss b' K aF F y u'=>⟨_,_,rfl,?_⟩
   refine GB.kV (c:=b') (Q.ext rT.mono (B.trans y)) (u'.fz []) aF (oh (qA x.bE)) λU L g2 f2 z2 q2=>⟨J.oR (u'.aK _) f2.ext u,aI V _ _ ⟨(N.then (B.trans y)).OJ aE z2.1 q2,?_,_,g2,bF,λi b2 v=>?_,?_⟩⟩
   .have A:=(N.then (B.trans y)).size
    rcases z2.2 with Z|Z<;>omega
   .rcases aW i e.length with A|A
    .rw[ax A]at v;exact ag i b2 v
    .rw[aJ A]at v
     have:i -e.length=0:=by have:=av v;simp at this;omega
     rw[this]at v;simp at v;subst v
     have:i=j:=V
     subst this
     rw[<-af];exact F.1
   .rw[pb,uE,zP]
    have:=F.2;omega
  refine⟨λA=>?_,λA=>?_⟩
  .simp only[aG]at A
   have aS:=(aa.fj.all A).1
   let⟨ar,ah⟩:=cK (cA r x.bQ) j
   refine⟨V,V,ar,(eR.1 ((t.le ((N.then l).dh aL)).aE ah)).2,?_⟩
   have W:=h.trans l
   refine(dL (e:=[]) aL ((D.le (q.trans W).le).bq.le (Ak _)) D.types ar).aI W u λH P m7 hf F x7 u7=>⟨_,rfl,?_⟩
   subst F
   let⟨w,I,e0,e1⟩:=(R.le (q.trans u7).le).aE C
   exact⟨V,V,_,e0,_,e1,iQ m7 H _ w (l.trans x7) (hf.le (bC _ _)) (KH A ah).symm I⟩
  .simp only[aj]at A
   let⟨w,I,e0,e1⟩:=(R.le (q.trans (h.trans l)).le).aE C
   exact⟨V,V,_,e0,_,e1,iQ m6 _ [] w l (mQ _ _ _ _ _ _) (KI A).symm I⟩
 .have A:e.length=x.bE.length:=V
  rw[bY V]at ay
  refine(bO (o.size::d) (ha.ext (q.trans h)) V).aI h u λB H m6 w Z l W=>⟨_,rfl,aH (l.same _ (h.lt (u _ aL))) _,aH (l.same _ (h.lt (u _ aL))) _,?_⟩
  subst Z
  intro m7
  have C:=(Q.ext rT.mono l).bn
  have v:∀g∈o.size::d,g<p.size:=bP hS q.size V
  refine⟨B,s,⟨x.op,x.bQ,0,x.args,e⟩,rfl,(w.done (λg t=>aO (v g t) h.size) V).le (cD aL λg t=>ai _ t),nQ.le (cD aL λg t=>ai _ t) ((Q.ext rT.mono l).done rT.mono v bh (by have:=qA x.bE;show e.length<=_;omega)),⟨aa.PU (λz=>z.elim) ⟨V,V⟩ A ag,rfl,?_⟩,(q.trans W).ah V _ _⟩
  rw[cY.mI]
  simp only
  omega
def _root_.Go.Vc.RQ{σ τ ρ:Type}{n:Nat}(u:n<=9223372036854775807){j:σ}{l:τ}{h:ρ}{g:(σ->τ->ρ->Int->E->Prop)->(σ->τ->ρ->Int->E->Nat)->σ->τ->ρ->Int->E->Prop}(Q:Nat->σ->τ->ρ->E->Prop)(p:Q 0 j l h m)
 (o:∀(k:Nat)(s:σ)(t:τ)(r:ρ)(a:E)(I:σ->τ->ρ->Int->E->Prop)(μ:σ->τ->ρ->Int->E->Nat),k<=n->Q k s t r a->
  (k<n->∀d e c b,Q (k+1) d e c b->I d e c (cT ((k:Int)+1)) b/\μ d e c (cT ((k:Int)+1)) b<μ s t r k a)->g I μ s t r k a):
 ∃(I:σ->τ->ρ->Int->E->Prop)(μ:σ->τ->ρ->Int->E->Nat),I j l h 0 m/\∀s t r i a,I s t r i a->g I μ s t r i a:=by
 refine⟨λs t r i b=>∃k:Nat,i=k/\k<=n/\Q k s t r b,λ_ _ _ i _=>(n -i).toNat,⟨0,rfl,dP _,p⟩,?_⟩
 rintro s t r i a ⟨k,rfl,q,v⟩
 refine o k s t r a _ _ q v λf d e c b w=>?_
 rw[kN f u]
 exact⟨⟨k+1,rfl,f,w⟩,DF f⟩
structure CB(ds:List bA)(g:Nat)(d:List Nat)(m2 M:E)(v lo:List Int)(aD:List cY)(k:Nat)(st inn mn:O):Prop where
 x:J m2 M
 hs:∃e,GS (inn.D::mn.D::d) m2 M st e/\WL ds g True v.length e/\dc e=dc (aD.take k)/\sw e<=1100*sw (aD.take k)
 hi:∃e,GI d m2 M inn e/\e.length=v.length+dc (aD.take k)
 hm:∃e,GI d m2 M mn e/\e.length<=lo.length+k/\∀o∈e,0<=o/\o<((v.length+dc (aD.take k):Nat):Int)
 ne:inn.D≠mn.D
def ZU{b:List bA}(h:WS b g False a x):dn x=1:=ao (h.fj.op.resolve_right λh=>h.1)
def GG{U:List bA}:∀c:Bk,WU U f c:=by
 refine Bk.ind ?_;intro aD v ih d m hS b8 cX dQ c1 dM c5 aj lo la hn hv hs A bN hp;have bf:=hp.wb.aT;simp only[Bk.j7,Bk.jD]at*;have XN:=hp.XN;have XK:=hp.XK;have vN:=hp.vN;rw[(Bk.qQ aD v)]at XN XK vN;apply yW;simp -zeta only[aC,aB];intro m0 o q aI;let⟨F,N,s0,s1,s2⟩:=qy (a:=m0) (b:=o) (c:=q) rfl rfl rfl;have bo:J q aI:=J.push _ _;have bK:∀am,GS am q aI (.mk q.size 0 0 0) []:=λam=>GS.new am q;have s3:aI.size=q.size+1:=by simp[aI]
 clear_value aI;clear_value q;have bS:=hs.len;have cJ:=BP aD;have ds:=gA aD;refine(bO d (hv.ext (F.trans bo)) V).aI bo N λl _ m4 G p x4 u4=>⟨_,rfl,?_⟩;subst p;refine(bO d (A.ext (F.trans u4)) V).aI u4 N λu _ m5 W p x5 u5=>⟨_,rfl,?_⟩;subst p;have bT:=G.bn;have bU:=W.bn;refine RQ (n:=aD.length) (bS▸hs.gY) (λk z l u g=>CB U f.length (o.size::d) q g aj lo aD k z l u) ⟨u5,⟨[],((bK _).ext gH.mono x4).ext gH.mono x5,WL.nil _ _ _ _,rfl,aL⟩,⟨aj,((G.ext x5).cz (λ_ h=>h) bo.size).any,aL⟩,⟨lo,(W.cz (λ_ h=>h) u4.size).any,V,by simpa using hp.aR⟩,V⟩ ?_;clear G W bT bU bK;rintro k z l u B bq μ hk ⟨x6,⟨R,gs,aX,Z,dt⟩,⟨li,G,aT⟩,⟨lm,W,da,bQ⟩,dm⟩ a3
 have v6:=F.trans x6;have dg:=G.len bh;have de:=tn (aD.take k);have dj:=qS k aD;have L:∀j∈o.size::d,j<q.size:=bP hS F.size (N _ aL);have cv:ap B l li:=(G.done L V).le (bC _ _);have cx:ap B u lm:=(W.done L V).le (bC _ _);have dH:=gs.bn;have bT:=G.bn;have bU:=W.bn;have cI:=gA (aD.take k);have dh:k<=sw (aD.take k):=by rw[gP]at cI;omega
 refine dit (λh=>?_) λh=>?_
 .let⟨x,r⟩:=cK aD k;let⟨a,kk,ha,bM,g0,g1,g2,g3,g4⟩:=hs.aE r;refine⟨V,V,_,v6.af g0,_,v6.af g1,_,v6.af g2,_,v6.af g3,_,v6.af g4,?_⟩;intro m7 C;have x8:J B C:=(J.push B _).ah (ad _) _ _;have s8:C.size=B.size+1:=by simp[C,m7,aw]
  clear_value C;have T:=x6.trans x8;have z6:=x6.size;have t:∀{g:E},C.size<=g.size->∀c∈[B.size,o.size,m0.size,m.size],c<g.size:=λh c hb=>by
   rcases List.mem_cons.1 hb with p|p
   .omega
   .have:=T.lt (N c p);omega
  have dA:=qd r;have dx:=qV r;have dy:=cY.mI x;have af:WS U f.length False li.length x:=by rw[aT];exact bf.1 k x r
  have bL:=ZU af;have dv:=cJ (k+1);have dd:=qA x.bE;have dk:=gA R;have ae:∀{g:E},J q g->At g b8 cX a kk U f x:=λh=>⟨hn.le (F.trans h).le,ha.ext (F.trans h),af.fj.call⟩;have aW:∀{g:E},GI (o.size::d) q g l li->ap g l li:=λw=>(w.done L V).le (bC _ _);have bd:∀{g:E},GI (o.size::d) q g u lm->ap g u lm:=λw=>(w.done L V).le (bC _ _);have an:∀{g:E}{am:List Nat},C.size<=g.size->(∀j∈am,j<g.size)->∀j∈am++o.size::d,j<g.size:=λh hb j b=>by
   rcases List.mem_append.1 b with h|h
   .exact hb j h
   .have:=L j h;omega
  refine(oD (ae T).Q7 (aW (G.ext x8)) (ae T).args (bM.le (F.trans T).le) V λc _=>nF c).aI (J.az C) (t (ad _)) λty m9 x9 _=>⟨_,rfl,?_⟩;intro aZ;have b2:J C aZ:=x9.aK _;have e0:ap (bH [] aZ) (.mk m9.size 0 0 0) []:=mQ _ _ _ _ _ _;clear_value aZ;rw[kN (k:=k) (n:=aD.length) V (bS▸hs.gY)]at a3⊢
  refine(AB (.mk aD v) [] aZ aL c1 _ _ _ (k+1) (hs.le (F.trans (T.trans b2)).le) e0 (by simp only[Bk.j7];omega) (by simp only[Bk.qQ,eX];omega)).aI b2 (t (ad _)) λus ul cO hu cL dR bn=>⟨_,rfl,?_⟩;rw[Bk.qQ,eX]at cL;refine(O6 (S:=[]) aL hu ((bN.ext (F.trans (T.trans bn))).le (Ak _)) V).aI bn (t (ad _)) λlt ll cP ba bY c2 au=>⟨_,rfl,?_⟩;have aH:∀{g:E},GI [] cO g lt ll->ap g lt ll:=λw=>(w.done aL (oh bY.2)).le (bC _ _);have br:=T.trans au;have bx:=G.ext (x8.trans au);have bG:=W.ext (x8.trans au);have cq:=gs.ext gH.mono (x8.trans au);refine(GJ (b:=[]) aL (ae br) (aW bx) af.fj.args (bd bG) (aH ba) V).aI (J.az cP) (t au.size) λdu dl cQ cj bZ av _=>⟨_,rfl,?_⟩;have c6:=bZ.2;have dT:=au.size;have dU:=av.size;have dS:=bn.size;have d8:=c2.size;refine(eZ (c:=[z.D,l.D,u.D]++o.size::d) (an V bF) 14 ((cj.done aL V).le (bC _ _)) V).aI (J.az cQ) (t V) λdO _ a0 ce p ax _=>⟨_,rfl,?_⟩;subst p;have dV:=ax.size;refine GS.all (cq.ext gH.mono (av.trans ax)) (((br.trans av).trans ax).fz []) (ce.done gH.mono (an (am:=[z.D,l.D,u.D]) V bF) bh bF) bF λbm bV bv b9 b3 a5=>⟨λj b=>a5 j (t V j b) ?_,?_⟩
  .simp at b;omega
  have aS:J q bV:=b9.ext;have cw:l.D<a0.size:=V;have cy:u.D<a0.size:=V;have cz:z.D≠l.D:=gs.Lq G bh;have cA:z.D≠u.D:=gs.Lq W bh;have di:=ba.bn;have bz:=(bx.ext (av.trans ax)).jF (a5 _ cw cz.symm);have bJ:=(bG.ext (av.trans ax)).jF (a5 _ cy cA.symm);have bE:=(ba.ext (av.trans ax)).jF (a5 _ V V);have dp:bm.D=z.D\/a0.size<=bm.D:=b3.2;have dC:=bv.bn;have dW:=b3.1;refine(IA (d:=[bm.D,l.D,u.D]++o.size::d) (an V bF) (ae aS).Q7 (aW bz) (ae aS).args (bM.le (F.trans aS).le) (bd bJ) (aH bE) (by rw[aT];exact bQ) V (oh bY.2) V af (ih x (aq r))).aI (J.az bV) (t V) λc9 c_ x' bW cr cs cW ay _=>⟨_,_,_,_,_,rfl,?_⟩;let⟨cM,cH,dw⟩:=cW;have dX:=ay.size;refine GS.kV (x:=x') (bv.ext gH.mono ay) ((aS.trans ay).fz []) cr cs bF λaK bg bw b_ b4 a6=>⟨λj b=>?_,?_⟩
  .have:=t (g:=bW) V j b;rw[a6 j this (by simp at b;omega),(J.push bW _).same j this]
  have a8:J q bg:=b_.ext;have bB:=(bz.ext ay).jF (a6 _ V V);have co:=(bJ.ext ay).jF (a6 _ V V);have a_:=(bE.ext ay).jF (a6 _ V V);have dq:aK.D=z.D\/a0.size<=aK.D:=by have:=b4.2;omega
  have dY:=b4.1;refine(IG (b:=[]) aL (ae a8) (aW bB) af.fj.args (bd co) (aH a_) V).aI (J.az bg) (t V) λar lf cR gf bk az _=>⟨_,rfl,?_⟩;have bs:=a8.trans az;have dZ:=az.size;have cu:∀{g:E},GI [] bg g ar lf->ap g ar lf:=λw=>(w.done aL (oh bk.2)).le (bC _ _);refine(IH (b:=[]) aL (ae bs) (cu gf) (aH (a_.ext az)) V).aI (J.az cR) (t V) λc0 Q cS gd b0 aA _=>⟨_,rfl,?_⟩;have d0:=aA.size;have c8:=b0.2;have c7:=bk.2;have dG:=gf.bn;have dF:=gd.bn;have dD:=bw.bn;refine(eZ (c:=[aK.D,ar.D,l.D]++o.size::d) (an V bF) 15 ((gd.done aL V).le (bC _ _)) V).aI (J.az cS) (t V) λdP _ cT cg p ak _=>⟨_,rfl,?_⟩;subst p;have b6:=(bs.trans aA).trans ak;have d3:=ak.size;have cf:GS ([ar.D,l.D]++o.size::d) q cT aK _:=bw.re gH.mono (Y:=[]) (((az.trans aA).trans ak).fz []) aL aL λj b=>by
   simp only[db,eG,aV]at b⊢;rcases b with h|h|h
   .exact Or.inr V
   .exact Or.inl (Or.inl h)
   .exact Or.inl (Or.inr (Or.inr h))
  refine GS.all cf (b6.fz []) (cg.done gH.mono (an (am:=[aK.D,ar.D,l.D]) V bF) bh bF) bF λH a1 ch ca c3 aJ=>⟨λj b=>aJ j (t V j b) ?_,?_⟩
  .simp at b;omega
  have b7:J q a1:=ca.ext;have d4:=c3.1;have cm:=((bB.ext az).ext (aA.trans ak)).jF (aJ _ V V);have cl:=(gf.ext (aA.trans ak)).jF (aJ _ V V);have ci:=(gd.ext ak).jF (aJ _ V V);have cn:=((a_.ext az).ext (aA.trans ak)).jF (aJ _ V V);have bc:ap a1 c0 Q:=(ci.done aL V).le (bC _ _);have ct:=bc.len;have ck:GI (o.size::d) q a1 ar lf:=(cl.cz (λ_ h=>h) a8.size).any;refine eB (n:=Q.length) (ct▸bc.gY) (λ_ s g=>J a1 g/\∃e,GI (o.size::d) q g s e/\GS ([s.D,l.D]++o.size::d) q g H (R++dl.map (fg 14)++[x']++Q.map (fg 15))/\pD lf e/\l.D≠s.D/\C.size<=s.D) ⟨J.az _,lf,ck,ch,⟨λ_ h=>h,ad _⟩,V,V⟩ ?_;rintro i s bi I2 μ2 hi ⟨aE,e,gl,bb,P,cB,dr⟩ cU;have bt:=b7.trans aE;have d5:=aE.size;have cN:=gl.bn;refine dit (λh2=>?_) λh2=>?_
  .let⟨I,K⟩:=cK Q i;refine⟨V,V,I,(bc.ext aE).aE K,?_⟩;refine(BO (S:=[]) aL (((gl.done L (oh P.2)).le (bC _ _)).le (Ak _)) I (oh P.2)).aI (J.az bi) (t V) λac X ab g2 y D _=>⟨_,rfl,cU V _ _ ⟨aE.trans D,X,(g2.cz (λ_ h=>h) bt.size).any,?_,⟨λaF hz=>P.1 aF (y.1 aF hz),bI y.2 P.2⟩,?_,?_⟩⟩
   .have aa:=g2.bn;refine bb.re gH.mono (Y:=[]) (D.fz []) aL aL λj b=>?_;simp only[db,eG,aV]at b⊢;rcases b with h|h|h
    .exact Or.inr V
    .exact Or.inl (Or.inr (Or.inl h))
    .exact Or.inl (Or.inr (Or.inr h))
   .have:=g2.bn;omega
   .have:=g2.bn;omega
  intro dJ;have bD:=cm.ext aE;refine GI.kV bD (bt.fz []) L V λaa ao ab cb b5 a7=>⟨λj b=>?_,?_⟩
  .have:=t (g:=bi) V j b;rw[a7 j this (by simp at b;omega),(J.push bi _).same j this]
  have a9:J q ao:=cb.ext;have c4:=b5.1;have cF:H.D≠l.D:=bb.Lq bD bh;have aG:=gl.jF (a7 _ cN.2 cB.symm);have bR:=b5.2;have ac:GS ([s.D,aa.D]++o.size::d) q ao H _:=bb.re gH.mono (Y:=[l.D]) ⟨c4,λj b hn=>a7 j b (by simpa using hn)⟩ aL (by simpa using cF) λj b=>by
   simp only[db,eG,aV]at b⊢;rcases b with h|h|h
   .exact Or.inl (Or.inl h)
   .rcases bR with p|p
    .exact Or.inl (Or.inr (Or.inl (h.trans p)))
    .exact Or.inr V
   .exact Or.inl (Or.inr (Or.inr h))
  have bj:aa.D≠s.D:=by rcases bR with p|p<;>omega
  have I:WL U f.length True aj.length (R++dl.map (fg 14)++[x']++Q.map (fg 15))/\dc (R++dl.map (fg 14)++[x']++Q.map (fg 15))=dc (aD.take (k+1))/\sw (R++dl.map (fg 14)++[x']++Q.map (fg 15))+2<=1100*sw (aD.take (k+1)):=by
   have df:dn x'=1:=by unfold dn at bL⊢;rw[cH];exact bL
   have d1:dc (dl.map (fg 14))=0:=j8 V _;have d2:dc (Q.map (fg 15))=0:=j8 V _;refine⟨((aX.append (rX V λy A=>?_)).yQ ?_).append (rX V λy A=>?_),?_,?_⟩
   .rw[Z,<-aT];exact af.fj.args y (bZ.1 y A)
   .rw[cZ,d1,Z,jM,<-aT];exact cM
   .have:=af.fj.args y (b0.1 y A);rw[cZ,cZ,d1,Z,kX,tp];omega
   .rw[cZ,cZ,cZ,d1,d2,Z,kX,tp];omega
   .rw[dE,dE,dE,oL,oL,mV,vA];omega
  have be:∀y∈e,0<=y/\y<((aj.length+dc (aD.take (k+1)):Nat):Int):=λy A=>by
   have:=bQ y (bk.1 y (P.1 y A));omega
  have bX:∀(g:E),J ao g->bq H aa s ((k+1:Nat):Int) g/\μ H aa s ((k+1:Nat):Int) g<μ z l u k B:=λg r=>
   a3 V _ _ _ _ ⟨a9.trans r,⟨_,(ac.re gH.mono (Y:=[]) (r.fz []) aL aL λj b=>Or.inl (by simp only[db,eG,aV]at b⊢;rcases b with h|h|h;exact Or.inr (Or.inl h);exact Or.inl h;exact Or.inr (Or.inr h))),I.1,I.2.1,V⟩,⟨_,ab.ext r,bF⟩,⟨e,aG.ext r,oh P.2,be⟩,bj⟩
  have dI:=ac.bn;have cV:∀(g:E),J ao g->aN cp 227 [vi (15:Int),vi (l.len:Int)] g λrv D=>eH [B.size,o.size,m0.size,m.size] g D/\∃aM:Int,∃aO:Int,∃aP:Int,∃aQ:O,∃aR:O,rv=.agg #[vi aM,vi aO,vi aP,O.v aQ,O.v aR]/\
   let M2:E:=D.push (.cells (bu [.i aM,.i aO,.i aP,.s aQ,.s aR]) gD)
   jT M2 gD [.i (0:Int),.i (0:Int),.i (0:Int),.s O.nil,.s O.nil] 72 H (O.mk D.size 0 1 1) λb1 K=>eH [B.size,o.size,m0.size,m.size] M2 K/\bq b1 aa s ((k+1:Nat):Int) K/\μ b1 aa s ((k+1:Nat):Int) K<μ z l u k B:=by
   intro g r
   have zx:=r.size
   have dB:=ab.bn
   refine(jv (c:=[H.D,s.D,aa.D]++o.size::d) (an V bF) 15 (l.len:Int)).mono λrv D⟨pa,pk,p,X,h2,ag⟩=>?_
   subst p
   have d7:=ag.size
   have aY:=r.trans ag
   refine⟨ag.dy (t V),_,_,_,_,_,rfl,?_⟩
   have cC:H.D≠aa.D:=ac.Lq ab bh
   have cE:H.D≠s.D:=ac.Lq aG bh
   refine GS.kV (x:=fg 15 (l.len:Int)) (ac.ext gH.mono aY) ((a9.trans aY).fz []) X h2 (OS I.2.2 (gA (R++dl.map (fg 14)++[x']++Q.map (fg 15)))) λr' K w aU aF a4=>⟨λj b=>?_,a3 V _ _ _ _ ⟨aU.ext,⟨_,(w.re gH.mono (Y:=[]) ((J.az _).fz []) aL aL λj b=>Or.inl (by simp only[db,eG,aV]at b⊢;rcases b with h|h|h;exact Or.inr (Or.inl h);exact Or.inl h;exact Or.inr (Or.inr h))),I.1.yQ (DX V ?_),?_,?_⟩,⟨_,(ab.ext aY).jF (a4 _ V cC.symm),bF⟩,⟨e,(aG.ext aY).jF (a4 _ V cE.symm),oh P.2,be⟩,bj⟩⟩
   .have:=t (g:=D) V j b
    rw[a4 j this (by simp at b;omega),(J.push D _).same j this]
   .rw[I.2.1];omega
   .rw[cZ,I.2.1];simp[kX,dn,fg,pB]
   .rw[dE,mV,vA]
    have h5:(fg 15 (l.len:Int)).w=2:=by rw[cY.mI];rfl
    have:=I.2.2;omega
  refine⟨λ_=>?_,λh0=>⟨λX=>by rw[h0]at X;simp at X,λ_=>bX ao (J.az _)⟩⟩;refine(dz (aH (((cn.ext aE).jF (a7 _ V V)))) _).any.aI (J.az ao) (t V) λc a2 al _=>⟨_,rfl,λ_=>?_,λ_=>⟨λ_=>cV a2 al,λ_=>bX a2 al⟩⟩;intro dK;have cG:H.D≠s.D:=ac.Lq aG bh;have d6:=al.size;refine GI.kV (aG.ext al) ((a9.trans al).fz []) L (oh P.2) λdN dL cd cc bp bl=>⟨λj b=>?_,a3 V _ _ _ _ ⟨cc.ext,⟨_,(ac.ext gH.mono al).re gH.mono (Y:=[s.D]) ⟨bp.1,λj b hn=>bl j b (by simpa using hn)⟩ aL (by simpa using cG) λj b=>?_,I.1,I.2.1,V⟩,⟨_,(ab.ext al).jF (bl _ ?_ bj),bF⟩,⟨_,cd,?_,?_⟩,?_⟩⟩
  .have:=t (g:=a2) V j b;rw[bl j this (by simp at b;omega),(J.push a2 _).same j this]
  .simp only[db,eG,aV]at b⊢;rcases b with h|h|h
   .exact Or.inl (Or.inr (Or.inl h))
   .rcases bp.2 with p|p
    .exact Or.inl (Or.inl (h.trans p))
    .exact Or.inr V
   .exact Or.inl (Or.inr (Or.inr h))
  .have:=ab.bn;omega
  .have:=P.2;simp;omega
  .intro y A;rcases List.mem_append.1 A with A|A
   .exact be y A
   .simp at A;omega
  .have:=ab.bn;rcases bp.2 with p|p<;>omega
 .have aa:k=aD.length:=V;subst aa;rw[fB]at*;have P:∀(g:E)(H:O)(t:List cY),J q g->GS (l.D::u.D::o.size::d) q g H t->WL U f.length True aj.length t->dc t=dc aD->sw t<=1100*sw aD+2->
   let y:E:=ah g o.size 0 [.s H,.i v]
   ∃s c,Value.agg #[O.v H,vi v]=.agg #[O.v s,vi c.aS]/\eQ (bH d y) s c.aD/\(WB U f.length True aj.length c/\c.w+1050<=1100*(Bk.mk aD v).w)/\J m y:=by
   intro g H t r w X h2 h3 y
   have ab:=gA t
   have:=w.bn
   refine⟨H,.mk t v,rfl,eQ.le (cD aL λj b=>ai _ b) (w.re gH.mono (S':=o.size::d) (Y:=[]) (Fz.az _ _) aL aL (λj b=>Or.inl (ai _ (ai _ b)))|>.done gH.mono L bh bF),⟨WB.of X (by rw[h2];exact bf.2),?_⟩,(F.trans r).ah V _ _⟩
   rw[Bk.qQ,Bk.qQ];omega
  have lX:∀(g:E),J B g->aN cp 227 [vi (14:Int),vi v] g λrv D=>eH [o.size,m0.size,m.size] g D/\∃aM:Int,∃aO:Int,∃aP:Int,∃aQ:O,∃aR:O,rv=.agg #[vi aM,vi aO,vi aP,O.v aQ,O.v aR]/\
   let M2:E:=D.push (.cells (bu [.i aM,.i aO,.i aP,.s aQ,.s aR]) gD)
   jT M2 gD [.i (0:Int),.i (0:Int),.i (0:Int),.s O.nil,.s O.nil] 72 z (O.mk D.size 0 1 1) λQ K=>eH [o.size,m0.size,m.size] M2 K/\
    let y:E:=ah K o.size 0 [.s Q,.i v]
    ∃s c,Value.agg #[O.v Q,vi v]=.agg #[O.v s,vi c.aS]/\eQ (bH d y) s c.aD/\(WB U f.length True aj.length c/\c.w+1050<=1100*(Bk.mk aD v).w)/\J m y:=by
   intro g r
   refine(jv (c:=z.D::l.D::u.D::o.size::d) (λj b=>?_) 14 v).mono λrv D⟨a,kk,p,X,h2,x1⟩=>?_
   .have:=r.size
    simp at b
    rcases b with h|h|h|h|h
    .omega
    .omega
    .omega
    .have:=x6.lt (N o.size aL);omega
    .have:=hS _ h;have:=v6.size;omega
   subst p
   have ag:=x6.trans (r.trans x1)
   refine⟨J.oR (x6.trans r) ag N,_,_,_,_,_,rfl,?_⟩
   refine GS.kV (x:=fg 14 v) (gs.ext gH.mono (r.trans x1)) (ag.fz []) X h2 (oh (gA R)) λr' K w aU aF a4=>⟨J.oR (ag.aK _) aU.ext N,P K r' _ aU.ext w (aX.yQ (DX V (by rw[Z];exact bf.2))) ?_ ?_⟩
   .rw[cZ,Z];simp[kX,dn,fg,pB]
   .rw[dE];simp[mV,cY.mI,fg];omega
  let⟨aF,hz⟩:=cK li v.toNat;refine⟨V,V,aF,cv.aE hz,λ_=>?_,λ_=>P B z R x6 gs aX Z V⟩;refine(dz (bN.ext v6) v).any.aI x6 N λc m7 I u7=>⟨_,rfl,λ_=>lX m7 I,λ_=>?_⟩;exact(dz (cx.ext I) v).any.aI u7 N λc C x8 T=>⟨_,rfl,λ_=>lX C (I.trans x8),λ_=>P C z R T ((gs.ext gH.mono I).ext gH.mono x8) aX Z V⟩
end
structure ZL(ds:List bA)(nr:Nat)(v lm:List Int)(b:Bk):Prop where
 aR:∀o∈lm,0<=o/\o<(v.length:Int)
 lN:lm.length+5*b.w<=1000000
 vN:v.length+5*b.w<=1000000
 wb:WB ds nr False v.length b
def Yb(a:List bA)(d:List gU)(b:Bk):Prop:=∀(S:List Nat)(m:E),(∀c∈S,c<m.size)->∀(f r h t g:O)(v c:List Int),eM m f r a d->ap m h v->eQ m t b.aD->ap m g c->ZL a d.length v c b->
 nI 240 [.agg #[O.v f,O.v r],O.v h,.agg #[O.v t,vi b.aS],O.v g] m S λe=>WB a d.length True v.length e/\e.w+20<=40*b.w+2*c.length
def J5{o:List Nat}{m:E}(hS:∀c∈o,c<m.size){ag am ay aY K:O}{G:List bA}{rs:List gU}{v:List Int}{x:cY}(hn:eM m ag am G rs)(hv:ap m ay v)(ha:ap m aY x.args)(hk:nQ m K x.bE)
 (vN:v.length+5*x.w<=1000000)(aM:WS G rs.length False v.length x)(ih:∀h∈x.bE,Yb G rs h):
 KB 260 [.agg #[O.v ag,O.v am],O.v ay,px x aY K] m o λx'=>WS G rs.length True v.length x'/\x'.op=x.op/\x'.w<=1+x.args.length+40*bw x.bE:=by
 apply CZ
 simp -zeta only[aC,aB]
 intro F e k a5
 let⟨N,H,s0,s1,s2⟩:=qy (a:=F) (b:=e) (c:=k) rfl rfl rfl
 have a_:J k a5:=J.push _ _
 have gk:=GB.new (e.size::o) k
 clear_value k
 have bs:=ha.len;have bk:=hk.len;have hw:=cY.mI x;have bE:=KK x.bE;have bo:=hv.len
 have aK:∀c∈e.size::o,c<k.size:=bP hS N.size (H _ aL)
 refine(iC (e:=[k.size]) (by simp[a5]) (hn.le (N.trans a_).le).bq hn.types x.bQ).aI a_ H λc cl m4 d aR x4 u4=>⟨_,rfl,?_⟩
 subst aR
 have bG:=d.len
 refine eB (n:=x.bE.length) (bk▸hk.gY) (λj s M=>Fz [k.size] m4 M/\(s.D=k.size\/m4.size<=s.D)/\∃p,GB (e.size::o) k M s p/\p.length=j/\(∀(aa:Nat)(h:Bk),p[aa]? =some h->WB G rs.length True (v.length+BY G x.op x.bQ aa) h)/\bw p<=40*bw (x.bE.take j)) ⟨Fz.az _ _,Or.inl rfl,[],gk.ext rT.mono x4,rfl,aL,aL⟩ ?_
 rintro j s Z aX μ hj ⟨f5,bm,p,C,bI,a4,a0⟩ bq
 have L:=VW u4 f5 (ad _)
 have hy:=C.bn
 refine dit (λu=>?_) λu=>?_
 .intro m6
  have x6:J Z m6:=J.push _ _
  have u6:=L.trans x6
  let⟨h,P⟩:=cK x.bE j
  have bz:=wW P
  have bD:=uF P
  have bt:=QL hn.types x.op x.bQ j
  have bx:=qA x.bE
  refine⟨λaZ M=>J Z M/\∃B,ap M aZ B/\B.length=BY G x.op x.bQ j,⟨λh8=>?_,λh8=>?_⟩,?_⟩
  .simp only[aG]at h8
   have g:=(aM.fj.all h8).1
   let⟨y,a⟩:=cK (cA G x.bQ) j
   refine⟨V,V,y,(eR.1 ((d.le ((f5.then x6).dh aL)).aE a)).2,?_⟩
   refine(dL (e:=[]) aL ((hn.le (N.trans u6).le).bq.le (Ak _)) hn.types y).aI u6 H λaZ B m7 hf aR f i=>⟨_,rfl,x6.trans f,B,hf.le (bC _ _),?_⟩
   subst aR;exact(KH h8 a).symm
  .simp only[aj]at h8
   exact⟨x6,[],mQ _ _ _ _ _ _,(KI h8).symm⟩
  rintro fs m8 ⟨R,B,hf,a2⟩
  have e8:(ay.len:Int)=((v.length:Nat):Int):=by rw[bo]
  rw[e8]
  refine(sa (S:=[]) aL (hf.le (Ak _)) v.length V).aI (L.trans R) H λmi ml y gm qm T u9=>⟨_,rfl,?_⟩
  let⟨aU,hs,e0,e1⟩:=hk.aE P
  have v9:=N.trans u9
  refine⟨V,V,_,v9.af e0,_,v9.af e1,?_⟩
  have z5:=L.size
  have g9:=C.ext rT.mono (R.trans T)
  have a3:∀{M:E},J y M->ap M mi ml:=λu=>((gm.done aL (oh qm.2)).le (bC _ _)).ext u
  have bJ:=qm.2
  have E5:∀{M f:E},J k M->J k f->∀{a6:Prop},a6->af f K.D (K.off+Int.toNat (j:Int)*2)=af M K.D (K.off+Int.toNat (j:Int)*2)/\af f K.D (K.off+Int.toNat (j:Int)*2+1)=af M K.D (K.off+Int.toNat (j:Int)*2+1)/\
   af f F.size 4=af M F.size 4/\af f m.size 0=af M m.size 0/\af f m.size 1=af M m.size 1/\a6:=λ{M f} u h' _ hp=>by
   have aD:∀h,h<k.size->∀z,af f h z=af M h z:=λh P z=>aH (by rw[h'.same h P,u.same h P]) z
   exact⟨((N.trans h').af e0).trans ((N.trans u).af e0).symm,((N.trans h').af e1).trans ((N.trans u).af e1).symm,aD _ V _,aD _ V _,aD _ V _,hp⟩
  have ao:∀{M:E},J Z M->∀c∈s.D::e.size::o,c<M.size:=λu c d=>by
   have:=u.size;rcases List.mem_cons.1 d with g|g
   .omega
   .have:=aK c g;omega
  have X:∀{M:E}{a:Nat},J Z M->a<M.size->∀c∈[a,e.size,F.size,m.size],c<M.size:=λu P c d=>by
   rcases List.mem_cons.1 d with g|g
   .omega
   .exact(L.trans u).lt (H c g)
  have tail:∀(M:E)(a:Nat)(Q:O)(i:Bk),GB (a::e.size::o) k M s p->J Z M->J y M->y.size<=a->a<M.size->eQ (bH (a::s.D::e.size::o) M) Q i.aD->WB G rs.length True (v.length+B.length) i/\i.w+20<=40*h.w+2*ml.length->
   let l:E:=ah M a 0 [.s Q,.i i.aS]
   aN cp 257 [vi (14:Int),O.v mi] l λrv q=>eH [a,e.size,F.size,m.size] l q/\∃ab:O,rv=O.v ab/\af q a 1=af l a 1/\af q a 0=af l a 0/\
    jT q gD [.i (0:Int),.i (0:Int),.i (0:Int),.s O.nil,.s O.nil] 72 ab Q λau w=>eH [a,e.size,F.size,m.size] q w/\af w a 1=af q a 1/\
     let M4:E:=w.push (.cells (bu [.s au,.i i.aS]) dj)
     jT M4 dj [.s O.nil,.i (0:Int)] 32 s (O.mk w.size 0 1 1) λac W=>eH [a,e.size,F.size,m.size] M4 W/\aX ac (cT ((j:Int)+(1:Int))) W/\μ ac (cT ((j:Int)+(1:Int))) W<μ s j Z:=by
   intro M a Q i C I bp bj bv ak hq l
   have z1:l.size=M.size:=aw _ _ _ _
   have z9:=(R.trans T).size
   have ba:J y l:=bp.ah bj _ _
   have U:J Z l:=(R.trans T).trans ba
   have bl:s.D≠a:=V
   have g1:GB (e.size::o) k l s p:=C.re rT.mono (Y:=[a]) ((Fz.az [a] M).ah (Or.inl aL) _ _) aL (by simpa using bl) λc d=>Or.inl (ai _ d)
   have bn:eQ (bH (s.D::e.size::o) l) Q i.aD:=ak.le (cD aL λc d=>ai _ d)
   have bB:=Bk.mI i;have a0:=gA i.aD
   refine(eZ (c:=s.D::e.size::o) (ao U) 14 (a3 ba) V).aI (J.az l) (X U V) λab _ q aI g an _=>⟨_,rfl,aH (an.same _ V) _,aH (an.same _ V) _,?_⟩
   subst g
   have z2:=an.size
   refine GS.all aI (an.fz []) (bn.le (tr an aI.bn.1)) bF λau w be bd bM a7=>?_
   have ae:J l w:=bd.ext
   have z3:=ae.size
   have bK:=aI.bn
   refine⟨λc d=>a7 c (oh (X U (a:=a) V c d)) (oh (X U (a:=a) V c d)),aH (a7 _ V V) _,?_⟩
   intro M4
   have bg:=be.done gH.mono (ao U) bh bF
   refine GB.kV (c:=.mk (ml.map (fg 14)++i.aD) i.aS) (g1.ext rT.mono ae) ((((L.trans U).trans ae)).fz []) bg V λac W bf br bc a8=>⟨λc d=>?_,bq V _ _ ⟨(f5.then (U.trans ae)).OJ bm bc.1 a8,?_,_,bf,bF,λaa b2 r=>?_,?_⟩⟩
   .have:=X (U.trans ae) (a:=a) V c d
    rw[a8 c this (by simp at d;omega),(J.push w _).same c this]
   .have h1:=(f5.then (U.trans ae)).size
    rcases bc.2 with g|g<;>omega
   .rcases aW aa p.length with t|t
    .rw[ax t]at r;exact a4 aa b2 r
    .rw[aJ t]at r
     have:aa -p.length=0:=by have:=av r;simp at this;omega
     rw[this]at r;simp at r;subst r
     have:aa=j:=V
     subst this
     rw[<-a2]
     refine WB.of ((rX V λz ho=>?_).append ?_) ?_
     .have:=qm.1 z ho;omega
     .rw[j8 V];exact hq.1.aT.1
     .rw[cZ,j8 V,bV];exact hq.1.aT.2
   .rw[pb,uE,zP,Bk.qQ,dE,oL]
    have:=hq.2;omega
  have a1:∀(M:E)(aF:List Nat)(aE:Value->E->Prop),J y M->(∀c∈aF,c<M.size)->(∀s f,ap f s (v++B)->J M f->aE (O.v s) f)->aN cp 187 [O.v ay,O.v fs] M λv m'=>eH aF M m'/\aE v m':=λM aF aE I X hK=>
   (eP (S:=[]) aL ((hv.ext (v9.trans I)).le (Ak _)) ((hf.ext (T.trans I)).le (Ak _)) V).aI (J.az M) X λs ll f C g x _=>hK s f (by subst g;exact(C.done aL bF).le (bC _ _)) x
  have D:∀(M:E)(S':List Nat)(t:O),(∀c∈S',c<M.size)->J y M->ap M t (v++B)->nI 240 [.agg #[O.v ag,O.v am],O.v t,.agg #[O.v aU,vi h.aS],O.v mi] M S' λi=>WB G rs.length True (v.length+B.length) i/\i.w+20<=40*h.w+2*ml.length:=by
   intro M S' t bi I r;have hm:=v9.trans I;have:=ih h (aq P) S' M bi ag am t aU mi (v++B) ml (hn.le hm.le) r (hs.le hm.le) (a3 I) ⟨λz ho=>?_,V,bF,by simp;rw[a2];exact aM.bE j h P⟩
   .simpa using this
   .have:=qm.1 z ho;simp;omega
  have iQ:∀(M:E)(a:Nat)(t:O),GB (a::e.size::o) k M s p->J y M->y.size<=a->a<M.size->ap M t (v++B)->
   aN cp 240 [.agg #[O.v ag,O.v am],O.v t,.agg #[O.v aU,vi h.aS],O.v mi] M λrv f=>eH [a,e.size,F.size,m.size] M f/\∃aS:O,∃aT:Int,rv=.agg #[O.v aS,vi aT]/\
    let l:E:=ah f a 0 [.s aS,.i aT]
    aN cp 257 [vi (14:Int),O.v mi] l λrv q=>eH [a,e.size,F.size,m.size] l q/\∃ab:O,rv=O.v ab/\af q a 1=af l a 1/\af q a 0=af l a 0/\
     jT q gD [.i (0:Int),.i (0:Int),.i (0:Int),.s O.nil,.s O.nil] 72 ab aS λau w=>eH [a,e.size,F.size,m.size] q w/\af w a 1=af q a 1/\
      let M4:E:=w.push (.cells (bu [.s au,.i aT]) dj)
      jT M4 dj [.s O.nil,.i (0:Int)] 32 s (O.mk w.size 0 1 1) λac W=>eH [a,e.size,F.size,m.size] M4 W/\aX ac (cT ((j:Int)+(1:Int))) W/\μ ac (cT ((j:Int)+(1:Int))) W<μ s j Z:=by
   intro M a t C I h1 h2 h3
   have x5:=(R.trans T).trans I
   have z9:=(R.trans T).size
   refine(D M (a::s.D::e.size::o) t (λc d=>?_) I h3).aI (J.az M) (X x5 h2) λQ i f ak hq ar _=>⟨_,_,rfl,tail f a Q i (C.ext rT.mono ar) (x5.trans ar) (I.trans ar) h1 (ar.lt h2) ak hq⟩
   rcases List.mem_cons.1 d with g|g
   .omega
   .exact ao x5 c g
  have aQ:∀(M:E)(z:Obj),GB (e.size::o) k M s p->GB (M.size::e.size::o) k (M.push z) s p:=λM z C=>
   C.re rT.mono (Y:=[]) ((J.push M z).fz []) aL aL λc d=>by
    rcases List.mem_cons.1 d with g|g
    .exact Or.inr V
    .exact Or.inl g
  refine⟨a1 y _ _ (J.az _) (λc d=>u9.lt (H c d)) λt aP r A=>⟨_,rfl,E5 u9 (u9.trans A) ⟨?_,?_⟩⟩,?_⟩
  .have al:=u9.trans A
   have vH:=A.size
   refine(D aP (s.D::e.size::o) t (ao ((R.trans T).trans A)) A r).aI al H λQ i aA ak hq az a9=>⟨_,_,rfl,?_⟩
   intro aV
   have bL:=az.size
   exact E5 a9 (a9.aK _) (tail aV aA.size Q i (aQ aA _ ((g9.ext rT.mono A).ext rT.mono az)) ((((R.trans T).trans A).trans az).aK _) ((A.trans az).aK _) V (by simp[aV]) (ak.le (tr (J.push aA _) (ad _))) hq)
  .intro az
   have al:=u9.trans A
   have vH:=A.size
   exact E5 al (al.aK _) (iQ az aP.size t (aQ aP _ (g9.ext rT.mono A)) (A.aK _) V (by simp[az]) (r.ext (J.push _ _)))
  .intro al
   have az:J y al:=J.push _ _
   have aV:J k al:=u9.trans az
   refine E5 u9 aV (a1 al _ _ az (X ((R.trans T).trans az) (by simp[al])) λt a9 r aA=>⟨_,rfl,E5 aV (aV.trans aA) ?_⟩)
   exact iQ a9 y.size t ((aQ y _ g9).ext rT.mono aA) (az.trans aA) (ad _) (aA.lt (by simp[al])) r
 .have f:p.length=x.bE.length:=V
  rw[bY V]at a0
  refine(bO (e.size::o) (ha.ext (N.trans L)) V).aI L H λi l m6 a g x6 u6=>⟨_,rfl,aH (x6.same _ (L.lt (H _ aL))) _,aH (x6.same _ (L.lt (H _ aL))) _,?_⟩
  subst g
  intro m7
  refine⟨i,s,⟨x.op,x.bQ,0,x.args,p⟩,rfl,(a.done (λc d=>aO (aK c d) L.size) V).le (cD aL λc d=>ai _ d),nQ.le (cD aL λc d=>ai _ d) ((C.ext rT.mono x6).done rT.mono aK bh (by have:=qA x.bE;show p.length<=_;omega)),⟨aM.PU (λu=>u.elim) ⟨V,V⟩ f a4,rfl,?_⟩,(N.trans u6).ah V _ _⟩
  rw[cY.mI]
  simp only
  omega
structure LB(ds:List bA)(nr:Nat)(S:List Nat)(m2 M:E)(v lm:List Int)(aD:List cY)(k:Nat)(st inn ow:O):Prop where
 x:J m2 M
 hs:∃l,GS (inn.D::ow.D::S) m2 M st l/\WL ds nr True v.length l/\dc l=dc (aD.take k)/\sw l+2*k<=40*sw (aD.take k)
 hi:∃l,GI S m2 M inn l/\l.length=v.length+dc (aD.take k)
 ho:∃l,GI S m2 M ow l/\l.length<=lm.length+k/\∀o∈l,0<=o/\o<((v.length+dc (aD.take k):Nat):Int)
 ne:inn.D≠ow.D
def IF{D:List bA}{G:List gU}:∀p:Bk,Yb D G p:=by
 refine Bk.ind ?_;intro aD A ih j C hS bc bN ch cg ce H lm hn hv hs bq hp;have au:=hp.wb.aT;simp only[Bk.j7,Bk.jD]at*;have lN:=hp.lN;have vN:=hp.vN;rw[(Bk.qQ aD A)]at lN vN;apply Bf;simp -zeta only[aC,aB];intro m d f ac;let⟨B,u,s0,s1,s2⟩:=qy (a:=m) (b:=d) (c:=f) rfl rfl rfl;have aM:J f ac:=J.push _ _;have aW:∀I,GS I f ac (.mk f.size 0 0 0) []:=λI=>GS.new I f;have s3:ac.size=f.size+1:=by simp[ac]
 clear_value ac;clear_value f;have bz:=hs.len;have bD:=BP aD;have b1:=gA aD;refine(bO j (hv.ext (B.trans aM)) V).aI aM u λg _ m4 r e x4 u4=>⟨_,rfl,?_⟩;subst e;refine(bO j (bq.ext (B.trans u4)) V).aI u4 u λi _ m5 z e x5 u5=>⟨_,rfl,?_⟩;subst e;have a5:=r.bn;have bI:=z.bn;refine RQ (n:=aD.length) (bz▸hs.gY) (λk t g i a=>LB D G.length (d.size::j) f a H lm aD k t g i) ⟨u5,⟨[],((aW _).ext gH.mono x4).ext gH.mono x5,WL.nil _ _ _ _,rfl,aL⟩,⟨H,((r.ext x5).cz (λ_ h=>h) aM.size).any,aL⟩,⟨lm,(z.cz (λ_ h=>h) u4.size).any,V,by simpa using hp.aR⟩,V⟩ ?_;clear r z a5 bI aW;rintro k t g i s ba μ hk ⟨W,⟨R,K,av,P,b2⟩,⟨li,r,an⟩,⟨lo,z,bS,a1⟩,a3⟩ bL
 have v6:=B.trans W;have bV:=r.len bh;have bT:=tn (aD.take k);have bX:=qS k aD;have L:∀c∈d.size::j,c<f.size:=bP hS B.size (u _ aL);have cb:=K.bn;have a5:=r.bn;have b_:=z.bn;have bB:=gA (aD.take k);have bW:k<=sw (aD.take k):=by rw[gP]at bB;omega
 have bY:=gA R;have z6:=W.size;have ak:∀{a:E},GI (d.size::j) f a g li->ap a g li:=λq=>(q.done L V).le (bC _ _);have aZ:∀{a:E},GI (d.size::j) f a i lo->ap a i lo:=λq=>(q.done L V).le (bC _ _);have N:∀{a:E}{I:List Nat},s.size<=a.size->(∀c∈I,c<a.size)->∀c∈I++d.size::j,c<a.size:=λh hb c b=>by
  rcases List.mem_append.1 b with h|h
  .exact hb c h
  .have:=L c h;omega
 have aX:∀{a:E},J s a->∀c∈[d.size,m.size,C.size],c<a.size:=λh c b=>(W.trans h).lt (u c b);have bs:t.D≠g.D:=K.Lq r bh;have a4:t.D≠i.D:=K.Lq z bh;refine dit (λh=>?_) λh=>?_
 .let⟨ae,v⟩:=cK aD k;let⟨bb,kk,ha,a0,g0,g1,g2,g3,g4⟩:=hs.aE v;refine⟨V,V,_,v6.af g0,_,v6.af g1,_,v6.af g2,_,v6.af g3,_,v6.af g4,?_⟩;intro m7 y;have x8:J s y:=(J.push s _).ah (ad _) _ _;have s8:y.size=s.size+1:=by simp[y,m7,aw]
  clear_value y;have u8:=W.trans x8;have w:∀{a:E},y.size<=a.size->∀p∈[s.size,d.size,m.size,C.size],p<a.size:=λh p hb=>by
   rcases List.mem_cons.1 hb with e|e
   .omega
   .have:=u8.lt (u p e);omega
  have b7:=qd v;have b5:=qV v;have b6:=cY.mI ae;have aa:WS D G.length False li.length ae:=by rw[an];exact au.1 k ae v
  have aY:=ZU aa;have b3:=bD (k+1);have Z:∀{a:E},J f a->At a bc bN bb kk D G ae:=λh=>⟨hn.le (B.trans h).le,ha.ext (B.trans h),aa.fj.call⟩;refine(oD (Z u8).Q7 (ak (r.ext x8)) (Z u8).args (a0.le (B.trans u8).le) V λp _=>nF p).aI (J.az y) (w (ad _)) λty m9 x9 _=>⟨_,rfl,?_⟩;have X9:=u8.trans x9;have z9:=x9.size;refine(yV (b:=[]) aL (Z X9) (ak ((r.ext x8).ext x9)) aa.fj.args V).aI (J.az m9) (w V) λdu X bJ bl a8 aJ _=>⟨_,rfl,?_⟩;have bR:=a8.2;have vH:=aJ.size;refine(eZ (c:=[t.D,g.D,i.D]++d.size::j) (N V bF) 14 ((bl.done aL V).le (bC _ _)) V).aI (J.az bJ) (w V) λcf _ ax bi e aK _=>⟨_,rfl,?_⟩;subst e;have ci:=aK.size;have aO:J s ax:=(((x8.trans x9).trans aJ).trans aK);refine GS.all (K.ext gH.mono aO) (((X9.trans aJ).trans aK).fz []) (bi.done gH.mono (N (I:=[t.D,g.D,i.D]) V bF) bh bF) bF λaG a6 aR bd a9 ay=>⟨λc b=>ay c (w V c b) ?_,?_⟩
  .simp at b;omega
  have aj:J f a6:=bd.ext;have aS:=(r.ext aO).jF (ay _ V bs.symm);have bm:=(z.ext aO).jF (ay _ V a4.symm);have bZ:aG.D=t.D\/ax.size<=aG.D:=a9.2;have b8:=aR.bn;have cj:=a9.1;refine(J5 (o:=[aG.D,g.D,i.D]++d.size::j) (N V bF) (Z aj).Q7 (ak aS) (Z aj).args (a0.le (B.trans aj).le) V aa (ih ae (aq v))).aI (J.az a6) (w V) λca ck U a7 bo bp bM ag _=>⟨_,_,_,_,_,rfl,?_⟩;let⟨bE,bw,b4⟩:=bM;have cl:=ag.size;refine GS.kV (x:=U) (aR.ext gH.mono ag) ((aj.trans ag).fz []) bo bp bF λF al ao be a_ az=>⟨λc b=>?_,?_⟩
  .have:=w (a:=a7) V c b;rw[az c this (by simp at b;omega),(J.push a7 _).same c this]
  have aQ:J f al:=be.ext;have cm:=a_.1;have aT:=(aS.ext ag).jF (az _ V V);have ar:=(bm.ext ag).jF (az _ V V);have b0:F.D=t.D\/ax.size<=F.D:=by have:=a_.2;omega
  have B1:WL D G.length True H.length (R++X.map (fg 14)++[U])/\dc (R++X.map (fg 14)++[U])=dc (aD.take (k+1))/\sw (R++X.map (fg 14)++[U])+2*(k+1)<=40*sw (aD.take (k+1)):=by
   have bU:dn U=1:=by unfold dn at aY⊢;rw[bw];exact aY
   have d1:dc (X.map (fg 14))=0:=j8 V _;refine⟨((av.append (rX V λo l=>?_)).yQ ?_),?_,?_⟩
   .rw[P,<-an];exact aa.fj.args o (a8.1 o l)
   .rw[cZ,d1,P,jM,<-an];exact bE
   .rw[cZ,cZ,d1,P,kX,tp];omega
   .rw[dE,dE,oL,mV,vA];omega
  have a2:∀o∈lo,0<=o/\o<((H.length+dc (aD.take (k+1)):Nat):Int):=λo l=>by
   have:=a1 o l;omega
  have aU:∀(a:E)(T:O)(ab:List Int),J f a->y.size<=a.size->GS (g.D::T.D::d.size::j) f a F (R++X.map (fg 14)++[U])->GI (d.size::j) f a g li->GI (d.size::j) f a T ab->g.D≠T.D->ab.length<=lm.length+(k+1)->(∀o∈ab,0<=o/\o<((H.length+dc (aD.take (k+1)):Nat):Int))->
   jT (a.push (.cells (bu [.i ty]) aA)) aA [.i (0:Int)] 8 g (O.mk a.size 0 1 1) λaI M'=>eH [s.size,d.size,m.size,C.size] (a.push (.cells (bu [.i ty]) aA)) M'/\ba F aI T (cT ((k:Int)+(1:Int))) M'/\μ F aI T (cT ((k:Int)+(1:Int))) M'<μ t g i k s:=by
   intro a T ab v Q q gI gO br bn bx
   have b9:=gI.bn;have bG:=gO.bn
   have bv:F.D≠g.D:=q.Lq gI bh
   refine GI.kV gI (v.fz []) L V λaI M' bk bg aP aF=>⟨λc b=>?_,bL V _ _ _ _ ⟨bg.ext,⟨_,q.re gH.mono (Y:=[g.D]) ⟨aP.1,λc b hn=>aF c b (by simpa using hn)⟩ aL (by simpa using bv) (λc b=>?_),B1.1,B1.2.1,B1.2.2⟩,⟨_,bk,bF⟩,⟨ab,gO.jF (aF _ bG.2 br.symm),bn,bx⟩,?_⟩⟩
   .have:=w Q c b
    rw[aF c this (by simp at b;omega),(J.push a _).same c this]
   .simp only[aV]at b⊢
    rcases b with h|h|h
    .rcases aP.2 with e|e
     .exact Or.inl (Or.inl (h.trans e))
     .exact Or.inr V
    .exact Or.inl (Or.inr (Or.inl h))
    .exact Or.inl (Or.inr (Or.inr h))
   .rcases aP.2 with e|e<;>omega
  refine⟨λ_=>?_,λ_=>?_⟩
  .intro cc;have bt:F.D≠i.D:=ao.Lq ar bh;refine GI.kV ar (aQ.fz []) L V λbQ bK bj bf am aE=>⟨λc b=>?_,?_⟩
   .have:=w (a:=al) V c b;rw[aE c this (by simp at b;omega),(J.push al _).same c this]
   intro cd;have cn:=am.1;refine aU bK bQ _ bf.ext V (ao.re gH.mono (Y:=[i.D]) ⟨am.1,λc b hn=>aE c b (by simpa using hn)⟩ aL (by simpa using bt) λc b=>?_) (aT.jF (aE _ V a3)) bj ?_ bF ?_
   .simp only[db,eG,aV]at b⊢;rcases b with h|h|h
    .exact Or.inl (Or.inl h)
    .rcases am.2 with e|e
     .exact Or.inl (Or.inr (Or.inl (h.trans e)))
     .exact Or.inr V
    .exact Or.inl (Or.inr (Or.inr h))
   .rcases am.2 with e|e<;>omega
   .intro o l;rcases List.mem_append.1 l with l|l
    .exact a2 o l
    .simp at l;omega
  .intro am;exact aU al i lo aQ V ao aT ar a3 V a2
 .have ar:k=aD.length:=V;subst ar;rw[fB]at*;have al:∀(a:E)(X:O)(F:List cY),J f a->s.size<=a.size->GS (g.D::i.D::d.size::j) f a X F->ap a i lo->WL D G.length True H.length F->dc F=dc aD->sw F+2*aD.length<=40*sw aD+2->
   aN cp 257 [vi (15:Int),O.v i] a λrv y=>eH [d.size,m.size,C.size] a y/\∃ae:O,rv=O.v ae/\af y m.size 1=af a m.size 1/\
    jT y gD [.i (0:Int),.i (0:Int),.i (0:Int),.s O.nil,.s O.nil] 72 X ae λaa Z=>eH [d.size,m.size,C.size] y Z/\af Z m.size 1=af y m.size 1/\
     let T:E:=ah Z d.size 0 [.s aa,.i A]
     ∃am p,Value.agg #[O.v aa,vi A]=.agg #[O.v am,vi p.aS]/\eQ (bH j T) am p.aD/\(WB D G.length True H.length p/\p.w+20<=40*(Bk.mk aD A).w+2*lm.length)/\J C T:=by
   intro a X F v Q q l aE aj aG
   have hy:=q.bn
   have aF:=gA F
   have az:m.size<a.size:=v.lt (u _ aL)
   refine(eZ (c:=[X.D,g.D,i.D]++d.size::j) (N Q bF) 15 l V).aI v u λae _ y ao e w u1=>⟨_,rfl,aH (w.same _ az) _,?_⟩
   subst e
   have z1:=w.size
   have ax:∀c∈[d.size,m.size,C.size],c<y.size:=λc b=>u1.lt (u c b)
   have ay:∀c∈[d.size,m.size,C.size],c<f.size:=u
   refine GS.all (q.ext gH.mono w) (u1.fz []) (ao.done gH.mono (N (I:=[X.D,g.D,i.D]) Q bF) bh bF) bF λaa Z g2 ab ag U=>⟨λc b=>U c (ax c b) (oh (ay c b)),aH (U _ V V) _,?_⟩
   intro T
   refine⟨aa,.mk _ A,rfl,eQ.le (cD aL λc b=>ai _ b) ((g2.re gH.mono (S':=d.size::j) (Y:=[]) (Fz.az _ _) aL aL (λc b=>Or.inl (ai _ (ai _ b)))).done gH.mono L bh bF),⟨WB.of (aE.append (rX V λo l=>?_)) ?_,?_⟩,(B.trans ab.ext).ah V _ _⟩
   .have:=a1 o l;rw[aj];exact this
   .rw[cZ,j8 V,aj];exact au.2
   .rw[Bk.qQ,Bk.qQ,dE,oL];omega
  let⟨ag,Q⟩:=cK li A.toNat;refine⟨V,V,ag,(ak r).aE Q,λ_=>?_,λ_=>al s t R W (ad _) K (aZ z) av P V⟩;refine(jv (c:=[t.D,g.D,i.D]++d.size::j) (N (ad _) bF) 14 A).mono λrv y⟨pa,pk,e,h1,h2,w⟩=>?_;subst e;refine⟨w.dy (aX (J.az _)),_,_,_,_,_,rfl,?_⟩;have z1:=w.size;refine GS.kV (x:=fg 14 A) (K.ext gH.mono w) ((W.trans w).fz []) h1 h2 V λr' T q ab ag U=>⟨λc b=>?_,al T r' _ ab.ext V q (aZ ((z.ext w).jF (U _ V a4.symm))) (av.yQ (DX V (by rw[P];exact au.2))) ?_ ?_⟩
  .have:=aX w c b;have h5:=u c b;rw[U c this V,(J.push y _).same c this]
  .rw[cZ,P];simp[kX,dn,fg,pB]
  .rw[dE,mV,vA];have h5:(fg 14 A).w=2:=by rw[cY.mI];rfl
   omega
section
variable{b:List Nat}{f d h:E}{p t k:O}{q:gU}{l:Int}{g e j:Nat}
def na.mono:oK 1 na:=⟨λh=>na.le h _ _,λ⟨_,h,_⟩=>by rw[h];rfl⟩
def iT.mono:oK 3 iT:=⟨λh=>iT.le h _ _,λ⟨_,h,_⟩=>by rw[h];rfl⟩
def fX(v:∀c∈b,c<f.size){bq:O}{j:List bA}(hd:cy f bq j)(w:dV j):aN cp 202 [O.v bq] f λT B=>∃s,T=O.v s/\cy (bH b B) s j/\J f B:=by
 apply AM;intro N;have ab:=hd.len;have aa:=w.len;have u:Gr b f N kd 3 iT (.mk f.size 0 0 0) []:=Gr.new b (ad _) _ _ _;refine eB (n:=j.length) V (λq s M=>J f M/\Gr b f M kd 3 iT s (j.take q)) ⟨J.push _ _,u⟩ ?_;rintro q s d X μ hk ⟨r,m⟩ R
 have hy:=m.bn;refine dit (λl=>?_) λl=>?_
 .let⟨i,o⟩:=cK j q;let⟨z,A,u,g1,g2⟩:=hd.aE o;have ac:=A.len;have Z:=lK w o;intro P;have k:Gr (s.D::b) d P pu 1 na (.mk d.size 0 0 0) []:=Gr.new _ (ad _) _ _ _;refine eB (n:=i.cons.length) V (λy c M=>J d M/\Gr (s.D::b) d M pu 1 na c (i.cons.take y)) ⟨J.push _ _,k⟩ ?_;rintro y c C Y μ2 hj ⟨t,k⟩ Q;have g:=r.trans t;refine⟨V,V,z,g.af g2,dit (λK=>?_) λK=>?_⟩
  .let⟨E,x⟩:=cK i.cons y;let⟨U,L,H⟩:=A.aE x;have ae:E.length<=3:=(((w.dB q i o).je V).2.2.2 E (aq x)).1;refine⟨V,V,z,g.af g2,V,V,U,g.af H,?_⟩;have af:=k.bn;refine(bO (c.D::s.D::b) (L.ext g) V).then λW _ h I e D=>⟨_,rfl,?_⟩;subst e;intro M;refine Gr.kV (g:=[.s .nil]) na.mono bh (k.ext na.mono D) ((t.trans D).fz []) ⟨W,rfl,I.done (λe p=>?_) V⟩ bF λS m7 G F _ _=>Q V _ _ ⟨F.ext,by rw[aU x];exact G⟩;have:=t.size;simp only[aV]at p;rcases p with l|l|l
   .omega
   .omega
   .have:=v e l;have:=r.size;omega
  .refine⟨V,V,_,g.af u,V,V,_,g.af g1,?_⟩;intro h;rw[bY V]at k;have D:eU (bH (s.D::b) C) 1 (na (bH (s.D::b) C)) c i.cons:=k.done na.mono (λe p=>by
    rcases List.mem_cons.1 p with x|x
    .omega
    .have:=v e x;have:=r.size;omega) bh V
   refine Gr.kV (g:=[.i 0,.i 0,.s .nil]) (k:=i) iT.mono bh (m.ext iT.mono t) (g.fz []) ⟨c,rfl,D⟩ bF λS M x p _ _=>R V _ _ ⟨p.ext,by rw[aU o];exact x⟩
 .rw[bY V]at m;exact⟨s,rfl,m.done iT.mono v bh V,r⟩
def yx(H:∀i∈b,i<f.size){B:O}{b1:Int}(I:ap f p q.params)(K:ap f t q.cW)(u:q.params.length<=100/\q.cW.length<=100):
 aN cp 229 [.agg #[O.v p,O.v t,vi q.aS,O.v B,vi l],.agg #[O.v k,vi b1]] f λP x=>∃m n,P=.agg #[O.v m,O.v n,vi q.aS,O.v k,vi b1]/\ap (bH b x) m q.params/\ap (bH b x) n q.cW/\J f x:=by
 apply Ds
 simp -zeta only[aC,aB]
 intro L j d
 let⟨s,w,S,T,U⟩:=qy (a:=L) (b:=j) (c:=d) rfl rfl rfl
 clear_value d
 have z:∀i∈j.size::b,i<d.size:=bP H s.size (w _ aL)
 have c:∀{M y:E},J d M->J d y->∀g,g<d.size->∀o,af y g o=af M g o:=λF G g u o=>aH (by rw[G.same g u,F.same g u]) o
 refine(bO (j.size::b) (I.ext s) V).aI (J.az d) w λm _ R C e a _=>⟨_,rfl,c (J.az _) a _ V _,c (J.az _) a _ V _,c (J.az _) a _ V _,c (J.az _) a _ V _,?_⟩
 subst e
 refine(bO (j.size::b) (K.ext (s.trans a)) V).aI a w λn _ N D e Q r=>⟨_,rfl,c a r _ V _,c a r _ V _,c a r _ V _,?_⟩
 subst e
 intro h
 have A:Le (bH (j.size::b) N) (bH b h):=cD aL λi v=>ai _ v
 exact⟨m,n,rfl,((C.done z V).le (Q.dh _)).le A,(D.done (λi v=>a.lt (z i v)) V).le A,(s.trans r).ah V _ _⟩
abbrev GR(b:List Nat)(a f:E)(s:O)(l:List gU):Prop:=Gr b a f jX 5 iY s l
def wh{L:List Nat}{m M:E}{v s:O}{x:List gU}{r:Bk}{N:O}{K:E->Prop}(W:∀c∈b,c<m.size)(w:∀c∈L,c<M.size/\c≠g/\c≠s.D)(A:J m M)(y:GR (g::b) m M s x)
 (z:cJ M g nA [.s v,.s s])(Z:m.size<=g)(hp:ap M p q.params)(ht:ap M t q.cW)(aa:eQ (bH (s.D::g::b) M) k r.aD)(X:q.params.length<=100/\q.cW.length<=100)(hl:x.length<=100)
 (U:∀u d,GR (g::b) m d u (x++[⟨q.params,q.cW,q.aS,r⟩])->cJ d g nA [.s v,.s u]->J m d->K d):
 aN cp 229 [.agg #[O.v p,O.v t,vi q.aS,O.v N,vi l],.agg #[O.v k,vi r.aS]] M λH j=>eH L M j/\∃B:O,∃C:O,∃D:Int,∃F:O,∃G:Int,H=.agg #[O.v B,O.v C,vi D,O.v F,vi G]/\af j g 1=af M g 1/\
  let n:E:=j.push (.cells (bu [.s B,.s C,.i D,.s F,.i G]) jX)
  af n g 1=af j g 1/\
  jT n jX [.s O.nil,.s O.nil,.i (0:Int),.s O.nil,.i (0:Int)] 88 s (O.mk j.size 0 1 1) λab o=>eH L n o/\fL o g 1 1/\
   let d:E:=ah o g 1 [.s ab]
   eH L o d/\K d:=by
 have hy:=y.bn
 have Y:=z.lt
 have hz:=A.size
 refine(yx (b:=s.D::g::b) (λc f=>?_) hp ht X).mono λH j⟨p',t',e,R,T,h⟩=>?_
 .simp only[aV]at f
  rcases f with e|e|e
  .omega
  .omega
  .have:=W c e;omega
 subst e
 refine⟨h.dy λc f=>(w c f).1,_,_,_,_,_,rfl,aH (h.same _ Y) _,?_⟩
 intro n
 refine Gr.box (g:=[.s .nil,.s .nil,.i 0,.s .nil,.i 0]) (j:=1) (i:=[.s v,.s s]) (w:=⟨q.params,q.cW,q.aS,r⟩) iY.mono bh (y.ext iY.mono h) ((A.trans h).fz []) ⟨p',t',k,rfl,R,T,aa.le (h.dh _)⟩ V (z.ext h) aL bh ⟨Z,aL⟩ (λc f=>⟨h.lt (w c f).1,(w c f).2⟩) λu m' Q I P z' q'=>U u m' Q I P.ext
def ly{β:Type}{a c:E}{g:O}{l:Nat}{f:E->List Ce->β->Prop}(q:oK l f)(p:a=d.push (.cells (bu []) e))(i:c=a.push (.cells (bu [.s O.nil,.s O.nil]) j))(k:h=ah c a.size 0 [.s g,.s (O.mk d.size 0 0 0)]):
 J d h/\cJ h a.size j [.s g,.s (O.mk d.size 0 0 0)]/\Gr b d h e l f (.mk d.size 0 0 0) []/\a.size=d.size+1/\h.size=d.size+2:=by
 subst p
 have n:J (d.push (.cells (bu []) e)) h:=by subst i k;exact(J.push _ _).ah (ad _) _ _
 refine⟨(J.push d _).trans n,?_,(Gr.new b (ad _) e l f).ext q n,aL,by subst i k;simp[aw]⟩
 have s:cJ c (d.push (.cells (bu []) e)).size j [.s O.nil,.s O.nil]:=by rw[i];exact cJ.push _ _ _
 rw[k]
 exact cJ.ah (m:=c) (o:=0) (r:=[.s g,.s (.mk d.size 0 0 0)]) s
def lg{β:Type}{o b1 r:Nat}{p:E->List Ce->β->Prop}{c A:O}{F:List bA}(G:oK o p)(hz:0<o)(ac:j≠e)(X:∀w∈b,w<f.size)(Y:f.size<=b1/\b1<d.size)(K:J f d)(ak:g=d.size+1)
 (Z:cy (bH (b1::b) d) c F)(hn:A.len=r)(al:r<=1000)(ad:J d h)(U:cJ h g j [.s c,.s (O.mk d.size 0 0 0)])(aa:Gr (g::b1::b) d h e o p (.mk d.size 0 0 0) [])(y:Nat->β->Prop)
 {C:(Int->E->Prop)->(Int->E->Nat)->Int->E->Prop}{R:O->O->E->Prop}
 (W:∀D N l q,cy (bH b q) D F->eU (bH b q) o (p (bH b q)) N l->l.length=r->(∀(i:Nat)(x:β),l[i]? =some x->y i x)->J f q->R D N q)
 (T:∀(k:Nat)(M:E)(s:O)(l:List β)(I:Int->E->Prop)(μ:Int->E->Nat),k<r->l.length=k->J d M->Gr (g::b1::b) d M e o p s l->cJ M g j [.s c,.s s]->
  (∀u a x,Gr (g::b1::b) d a e o p u (l++[x])->cJ a g j [.s c,.s u]->J d a->y k x->I (cT ((k:Int)+1)) a/\μ (cT ((k:Int)+1)) a<μ k M)->C I μ k M):
 ∃(v:Int->E->Prop)(μ0:Int->E->Nat),v (0:Int) h/\(∀(i:Int)(M:E),v i M->
  ((decide (i<(A.len:Int)))=true->C v μ0 i M)/\
  ((decide (i<(A.len:Int)))=false->∃m:O,af M g 0=some (O.v m)/\∃t:O,af M g 1=some (O.v t)/\
   let a:E:=ah M b1 0 [.s m,.s t]
   R m t a)):=by
 refine dW (n:=r) V (λk M=>J d M/\∃s l,Gr (g::b1::b) d M e o p s l/\cJ M g j [.s c,.s s]/\l.length=k/\∀(i:Nat)(x:β),l[i]? =some x->y i x) ⟨ad,_,[],aa,U,rfl,aL⟩ ?_
 rintro k M I μ hk ⟨x,s,l,t,B,ab,H⟩ ae
 refine dit (λS=>?_) λS=>?_
 .refine T k M s l I μ V ab x t B λu a ag Q P x' L=>ae V _ ⟨x',u,_,Q,P,bF,λi aj m=>?_⟩
  rcases aW i l.length with z|z
  .rw[ax z]at m;exact H i aj m
  .rw[aJ z]at m
   have:i -l.length=0:=by have:=av m;simp at this;omega
   rw[this]at m;simp at m;subst m
   have:i=k:=V
   subst this;exact L
 .refine⟨c,B.cg 0,s,B.cg 1,?_⟩
  intro a
  have L:=t.bn
  have z:=t.ne B ac
  have u:Le (bH (g::b1::b) M) (bH b a):=cD aL λw m=>ai _ (ai _ m)
  refine W c s l a (Z.le ((x.bH λw m=>?_).trans u)) (eU.le (t.nT G (λm=>?_) hz V) u λP ag=>G.le u) V H ((K.trans x).ah Y.1 _ _)
  .rcases List.mem_cons.1 m with e|e
   .exact Or.inr V
   .exact Or.inl e
  .simp only[aV]at m
   rcases m with e|e|e
   .exact z e
   .omega
   .have:=X _ e;have:=K.size;omega
structure yB(ds:List bA)(rs:List gU)(c:Prop)(W:Nat):Prop where
 je:0<rs.length
 dB:∀q∈rs,q.params.length<=3/\q.cW.length<=3/\WB ds rs.length c q.params.length q.body/\q.body.w<=W
def ve(h:Nat)(e:List Value)(f:E)(b:List Nat)(g:List bA)(Q:List gU->Prop):Prop:=aN cp h e f λv a=>∃d r c,v=.agg #[O.v d,O.v r]/\eM (bH b a) d r g c/\Q c/\J f a
def Ib{d:List bA}{a b:List gU}{c:Prop}{W:Nat}(j:0<a.length)(f:b.length=a.length)(h:∀(i:Nat)(q:gU),b[i]? =some q->q.params.length<=3/\q.cW.length<=3/\WB d a.length c q.params.length q.body/\q.body.w<=W):yB d b c W:=
 ⟨V,λq g=>by obtain⟨i,e⟩:=List.mem_iff_getElem?.1 g;rw[f];exact h i q e⟩
def IU(G:∀i∈b,i<f.size){D:O}{e cW:List Int}{K:Int}(B:ap f p e)(H:ap f t cW)(P:e.length<=100):
 lA 241 [.agg #[O.v p,O.v t,vi K,O.v D,vi l]] f b λa=>(∀o∈a,0<=o/\o<(e.length:Int))/\a.length<=e.length:=by
 apply Bp
 simp -zeta only[aC,aB]
 intro c d
 have v:J f c:=J.push _ _
 have A:∀x∈[f.size],x<c.size:=by simp[c]
 have E:GI b c d (.mk c.size 0 0 0) []:=GI.nil b c
 have L:J c d:=J.push _ _
 clear_value d
 clear_value c
 have R:=B.len
 refine eB (n:=e.length) V (λm s M=>J c M/\∃a,GI b c M s a/\(∀o∈a,0<=o/\o<(e.length:Int))/\a.length<=m) ⟨L,[],E,aL,ad _⟩ ?_
 rintro m s S N μ Q ⟨w,a,j,k,z⟩ q
 have r:=v.trans w
 refine⟨λg=>?_,λg=>⟨s,a,rfl,j.cz (λ_ g=>g) v.size,⟨k,by simp at g;omega⟩,r⟩⟩
 simp only[ar]at g
 let⟨M,I⟩:=cK e m
 refine⟨V,V,M,(B.ext r).aE I,λ_=>?_,λ_=>q V _ _ ⟨w,a,j,k,V⟩⟩
 refine(dz (H.ext r) m).any.aI w A λx T C u=>⟨_,rfl,λ_=>?_,λ_=>q V _ _ ⟨u,a,j.ext C,k,V⟩⟩
 intro h
 refine GI.kV (j.ext C) (u.fz []) (λi z=>v.lt (G i z)) V λW U F y _ _=>⟨J.oR (u.aK _) y.ext A,q V _ _ ⟨y.ext,_,F,λo i=>?_,bF⟩⟩
 rcases List.mem_append.1 i with i|i
 .exact k o i
 .simp at i;omega
end
section
variable{a:List Nat}{b:E}{d r:O}{c:List gU}
def Iz(hS:∀e∈a,e<b.size){Z aj t:O}{Q:List bA}{q:gU}(hn:eM b d r Q c)(W:ap b Z q.params)(ht:ap b aj q.cW)(hs:eQ b t q.body.aD)(aI:q.params.length<=3)(aq:WB Q c.length False q.params.length q.body)(hw:q.body.w<=95):
 nI 239 [.agg #[O.v d,O.v r],.agg #[O.v Z,O.v aj,vi q.aS,O.v t,vi q.body.aS]] b a λl=>WB Q c.length True q.params.length l/\l.w<=1100*q.body.w:=by
 apply AP
 simp -zeta only[aC,aB]
 intro m0 D H
 let⟨v,h,s0,s1,s2⟩:=qy (a:=m0) (b:=D) (c:=H) rfl rfl rfl
 clear_value H
 have aJ:=W.len
 have T:∀e∈D.size::a,e<H.size:=bP hS v.size (h _ aL)
 refine(DL (S:=[]) aL (hs.le v.le) _ V).aI (J.az H) h λus ul g hu aK P _=>⟨_,rfl,?_⟩
 have ao:ap g us ul:=hu.le (bC _ _)
 intro s I
 have aA:J g I:=(J.push g _).trans (J.push s _)
 have s4:s.size=g.size+1:=by simp[s]
 have i:GI a g I (.mk g.size 0 0 0) []:=(GI.nil a g).ext (J.push s _)
 have gd:GI a g I (.mk s.size 0 0 0) []:=(GI.nil a s).cz (λ_ R=>R) V
 clear_value I
 have z3:=P.size
 have am:∀e∈a,e<g.size:=λe f=>by have:=hS e f;have:=v.size;omega
 refine xc (n:=q.params.length) V (λk L sd M=>J g M/\∃j p,GI a g M L j/\GI a g M sd p/\L.D≠sd.D/\(∀o∈j,0<=o/\o<(q.params.length:Int))/\(∀o∈p,0<=o/\o<(q.params.length:Int))/\j.length<=k/\p.length<=k) ⟨aA,[],[],i,gd,bF,aL,aL,ad _,ad _⟩ ?_
 rintro k L sd m6 aD μ hk ⟨w,j,p,i,gd,G,B,A,cm,cd⟩ K
 have F:=P.trans w
 have v6:=v.trans F
 refine dit (λR=>?_) λR=>?_
 .let⟨ab,Y⟩:=cK q.params k
  have X:∀{m:List Int},(∀o∈m,0<=o/\o<(q.params.length:Int))->∀o∈m++[(k:Int)],0<=o/\o<(q.params.length:Int):=λh o C=>by
   rcases List.mem_append.1 C with C|C
   .exact h o C
   .simp at C;omega
  refine⟨V,V,ab,(W.ext v6).aE Y,λ_=>?_,λ_=>K V _ _ _ ⟨w,j,p,i,gd,G,B,A,V,V⟩⟩
  refine(dz (ht.ext v6) k).any.aI F h λaa m7 u u7=>⟨_,rfl,λ_=>?_,λ_=>K V _ _ _ ⟨w.trans u,j,p,i.ext u,gd.ext u,G,B,A,V,V⟩⟩
  refine(dz (ao.ext (w.trans u)) k).any.aI u7 h λaa m8 x8 u8=>⟨_,rfl,λ_=>?_,λ_=>?_⟩
  .have x:=u.trans x8
   intro m9
   exact GI.Su (i.ext x) (gd.ext x) G ((w.trans x).fz []) V λr m' z N U y=>⟨J.oR ((F.trans x).aK _) (P.trans y.ext) h,K V _ _ _ ⟨y.ext,_,_,z,N,U,X B,A,bF,V⟩⟩
  .have x:=u.trans x8
   intro m9
   exact GI.Su (gd.ext x) (i.ext x) G.symm ((w.trans x).fz []) V λr m' z N U y=>⟨J.oR ((F.trans x).aK _) (P.trans y.ext) h,K V _ _ _ ⟨y.ext,_,_,N,z,U.symm,B,X A,V,bF⟩⟩
 intro y
 have ac:J m6 y:=J.push _ _
 have aa:=F.trans ac
 have ab:=v.trans aa
 have e0:ap y (.mk m6.size 0 0 0) []:=mQ _ _ _ _ _ _
 have ag:∀{M:E}{t:O}{m:List Int},GI a g M t m->m.length<=3->ap M t m:=λz h=>(z.done am V).le (bC _ _)
 clear_value y
 have aG:=q.body.Hu
 refine(GG q.body (D.size::a) y (λe f=>aa.lt (T e f)) d r Z t L _ q.params j [] (hn.le ab.le) (W.ext ab) (hs.le ab.le) ((ag i V).ext ac) e0 ⟨B,V,bF,V,aq⟩).aI aa h λss l C an X ay ax=>⟨_,_,rfl,?_⟩
 intro ar o
 have ae:J C o:=(J.push C _).ah (ad _) _ _
 have aQ:o.size=C.size+1:=by simp[o,ar,aw]
 clear_value o
 have N:=ax.trans ae
 have U:∀e∈[C.size,D.size,m0.size,b.size],e<o.size:=λe f=>by
  rcases List.mem_cons.1 f with x|x
  .omega
  .exact N.lt (h e x)
 have aF:=Bk.mI l;have aE:=gA l.aD
 have aM:=X.2
 refine(eZ (c:=D.size::a) (λe f=>N.lt (T e f)) 15 ((ag gd V).ext ((ac.trans ay).trans ae)) V).aI (J.az o) U λaP _ aN af x u _=>⟨_,rfl,aH (u.same _ V) _,aH (u.same _ V) _,?_⟩
 subst x
 have aR:=u.size
 have Y:=af.bn
 refine GS.all af (u.fz []) ((an.le (ae.dh _)).le (tr u Y.1)) bF λav au al ak aS ah=>⟨λe f=>ah e (u.lt (U e f)) (oh (U e f)),aH (ah _ V V) _,?_⟩
 intro aO
 have az:J b au:=(v.trans N).trans ak.ext
 refine⟨av,.mk _ l.aS,rfl,eQ.le (cD aL λe f=>ai _ f) (al.done gH.mono (λe f=>N.lt (T e f)) bh bF),⟨WB.of ((rX V A).append ?_) ?_,?_⟩,az.ah V _ _⟩
 .rw[j8 V];exact X.1.aT.1
 .rw[cZ,j8 V,bV];exact X.1.aT.2
 .rw[Bk.qQ,dE,oL];omega
def LR(K:∀e∈a,e<b.size){i:List bA}(k:eM b d r i c)(hk:yB i c False 95):ve 222 [.agg #[O.v d,O.v r]] b a i λx=>yB i x True 104500:=by
 apply EF;simp -zeta only[aC,aB];intro f a2;let⟨z,v⟩:=dF (a:=f) (c:=a2) rfl rfl;have s1:f.size=b.size+1:=by simp[f]
 clear_value a2;have ai:=k.jc.len;have ar:=k.oN;refine(fX (b:=f.size::a) (bP K z.size (v _ aL)) (k.le z.le).bq k.types).mono λ_ P⟨ac,j,ae,A⟩=>?_;subst j;refine⟨A.dy v,_,rfl,?_⟩;intro Q am ab;have u2:=z.trans A;let⟨x5,B0,g0,s3,s5⟩:=ly (b:=Q.size::f.size::a) iY.mono (d:=P) (a:=Q) (c:=am) (h:=ab) rfl rfl rfl;clear_value ab;have w:∀e∈[f.size,b.size],e<P.size:=λe g=>A.lt (v e g);have L:∀e∈f.size::a,e<P.size:=λe g=>A.lt (bP K z.size (v _ aL) e g);refine lg (R:=λh o M=>∃d r x,Value.agg #[O.v h,O.v o]=.agg #[O.v d,O.v r]/\eM (bH a M) d r i x/\yB i x True 104500/\J b M) (r:=c.length) (f:=b) (b:=a) iY.mono bh bh K ⟨V,w _ aL⟩ u2 s3 ae ai V x5 B0 g0 (λ_ q=>q.params.length<=3/\q.cW.length<=3/\WB i c.length True q.params.length q.body/\q.body.w<=104500) (λh t N u X Y o p s=>⟨h,t,N,rfl,⟨X,Y,k.types,V⟩,Ib hk.je o p,s⟩) λal M st N ao μ ag ap B W C an=>?_
 let⟨q,hq⟩:=cK c al ag;let⟨aa,ah,ak,hw⟩:=hk.dB q (aq hq);have o:=u2.trans B;let⟨au,av,h,T,U,c3,D,E,F,H,I⟩:=k.jc.aE hq;have G:∀{y:Value}{h s:Nat},af b h s=some y->af M h s=some y:=λu=>o.af u;refine⟨st,C.cg 1,V,V,_,G D,_,G E,_,G F,_,G H,_,G I,V,V,_,G D,_,G E,_,G F,_,G H,_,G I,?_⟩;have hy:=W.bn;have ad:=C.lt;have zM:=B.size;refine(Iz (a:=st.D::Q.size::f.size::a) (λe g=>?_) (k.le o.le) (T.ext o) (U.ext o) (c3.le o.le) aa ak hw).aI B w λss b' M1 aj Z p u1=>⟨_,_,rfl,?_⟩
 .simp only[aV]at g;rcases g with j|j|j|j
  .omega
  .omega
  .have:=L e (by simp[j]);omega
  .have:=L e (by simp[j]);omega
 have t:∀{y:Value}{h s:Nat},af b h s=some y->af M1 h s=af M h s:=λu=>by rw[p.af (G u),G u]
 refine⟨t D,t E,t F,t H,t I,aH (p.same _ (B.lt (w _ aL))) _,aH (p.same _ ad) _,?_⟩;exact wh (b:=f.size::a) (v:=ac) (x:=N) L (λe g=>by have X:=w e g;have Y:=u1.size;omega) u1 (W.ext iY.mono p) (C.ext p) V (T.ext (o.trans p)) (U.ext (o.trans p)) aj ⟨V,V⟩ V λs' Y g' X x'=>an s' Y _ g' X x' ⟨aa,ah,Z.1,by have:=Z.2;simp only;omega⟩
def Qh(L:∀f∈a,f<b.size){t:List bA}(u:eM b d r t c)(hk:yB t c False 95):ve 223 [.agg #[O.v d,O.v r]] b a t λB=>yB t B True 104500:=by
 apply J6;simp -zeta only[aC,aB];intro p a2;let⟨D,y⟩:=dF (a:=p) (c:=a2) rfl rfl;have s1:p.size=b.size+1:=by simp[p]
 clear_value a2;have al:=u.jc.len;have az:=u.oN;refine(fX (b:=p.size::a) (bP L D.size (y _ aL)) (u.le D.le).bq u.types).mono λ_ T⟨ag,h,ah,F⟩=>?_;subst h;refine⟨F.dy y,_,rfl,?_⟩;intro A ap ac;have u2:=D.trans F;let⟨x5,B0,g0,s3,s5⟩:=ly (b:=A.size::p.size::a) iY.mono (d:=T) (a:=A) (c:=ap) (h:=ac) rfl rfl rfl;clear_value ac;have P:∀f∈[p.size,b.size],f<T.size:=λf i=>F.lt (y f i);have N:∀f∈p.size::a,f<T.size:=λf i=>F.lt (bP L D.size (y _ aL) f i);refine lg (R:=λe g M=>∃d r B,Value.agg #[O.v e,O.v g]=.agg #[O.v d,O.v r]/\eM (bH a M) d r t B/\yB t B True 104500/\J b M) (r:=c.length) (f:=b) (b:=a) iY.mono bh bh L ⟨V,P _ aL⟩ u2 s3 ah al V x5 B0 g0 (λ_ q=>q.params.length<=3/\q.cW.length<=3/\WB t c.length True q.params.length q.body/\q.body.w<=104500) (λe o Q s h1 w g j k=>⟨e,o,Q,rfl,⟨h1,w,u.types,V⟩,Ib hk.je g j,k⟩) λao M st Q av μ ai ay Y aa H ar=>?_
 let⟨q,hq⟩:=cK c ao ai;let⟨ak,aj,an,hw⟩:=hk.dB q (aq hq);have C:=u2.trans Y;let⟨au,aD,o,I,c2,c3,e0,e1,e2,e3,e4⟩:=u.jc.aE hq;have G:∀{ae:Value}{o v:Nat},af b o v=some ae->af M o v=some ae:=λK=>C.af K;refine⟨V,V,_,G e0,_,G e1,_,G e2,_,G e3,_,G e4,?_⟩;intro m7 k;have hy:=aa.bn;have ax:=H.lt;have zM:=Y.size;have X:J M k:=(J.push M _).ah (ad _) _ _;have s8:k.size=M.size+1:=by simp[k,m7,aw]
 clear_value k;have z:∀f∈[M.size,p.size,b.size],f<k.size:=λf i=>by
  rcases List.mem_cons.1 i with h|h
  .omega
  .have:=P f h;omega
 have U:=C.trans X;have g:∀{Z M2:E},J k Z->J k M2->∀o,o<k.size->∀v,af M2 o v=af Z o v:=λK h' o hb v=>aH (by rw[h'.same o hb,K.same o hb]) v;have j:M.size<k.size:=V;have i1:b.size<k.size:=z _ aL;have i2:A.size<k.size:=V;refine⟨st,(H.ext X).cg 1,?_⟩;refine(IU (b:=[]) aL (I.ext U) (c2.ext U) V).aI (J.az k) z λow lo m9 go ho e _=>⟨_,rfl,g (J.az _) e _ j _,g (J.az _) e _ j _,g (J.az _) e _ j _,g (J.az _) e _ i1 _,g (J.az _) e _ i1 _,g (J.az _) e _ j _,g (J.az _) e _ j _,g (J.az _) e _ j _,g (J.az _) e _ j _,g (J.az _) e _ j _,g (J.az _) e _ i2 _,?_⟩;have W:=U.trans e;have z9:=e.size;have i:=ho.2;refine(IF q.body (st.D::A.size::p.size::a) m9 (λf i=>?_) d r au o ow q.params lo (u.le W.le) (I.ext W) (c3.le W.le) ((go.done aL V).le (bC _ _)) ⟨ho.1,V,V,an⟩).aI e z λss b' aA am ab aE s=>⟨_,_,rfl,g e s _ j _,g e s _ j _,g e s _ j _,g e s _ j _,g e s _ j _,g e s _ i2 _,?_⟩
 .simp only[aV]at i;rcases i with h|h|h|h
  .omega
  .omega
  .have:=N f (by simp[h]);omega
  .have:=N f (by simp[h]);omega
 have x:=X.trans s;have vH:=s.size;exact wh (b:=p.size::a) (v:=ag) (x:=Q) N (λf i=>by have h1:=z f i;have w:=P f;simp only[aV]at i w;rcases i with h|h|h|h<;>first|omega|(have:=w (by simp[h]);omega)|simp at h) (Y.trans x) (aa.ext iY.mono x) (H.ext x) V (I.ext (C.trans x)) (c2.ext (C.trans x)) am ⟨V,V⟩ V λs' M' g' w x'=>ar s' M' _ g' w x' ⟨ak,aj,ab.1,by have:=ab.2;simp only;omega⟩
end
section
variable{x:cY}{l:List cY}{m d M:E}{i f e h:O}{b:List Nat}{c g:List Int}{a:Int}{K:O->E->Prop}
def Bc(a k:O)(m:E):dw cp 245 [px x a k] m (x.op=14\/x.op=15):=by
 apply GX;simp -zeta only[aC,aB];intro c;have b:J m c:=J.push _ _;refine⟨λh=>iV (Or.inl (by simpa using h)) b,λh=>eV ?_ b⟩;simp only[aj]at h;simp only[aG];omega
def XC(l:List cY):Prop:=∀x∈l,x.args.length=1
def zE(l:List cY)(o:Int):Prop:=∃x∈l,o∈x.args
def XC.at(h:XC l){k:Nat}(a:l[k]? =some x):∃y,x.args[0]? =some y/\zE l y:=by
 have c:=h x (aq a);let⟨y,b⟩:=cK x.args 0;exact⟨y,b,x,aq a,aq b⟩
def O1(p:eQ m i l)(B:XC l)(H:l.length<=10^12)(v:Int):tg 270 [O.v i,vi v] m λb=>-(l.length:Int)<=b/\b<=l.length:=by
 apply IK;have L:=p.len;refine eB (n:=l.length) V (λk b M=>J m M/\-(k:Int)<=b/\b<=(k:Int)) ⟨J.az _,V,V⟩ ?_;rintro k b c I μ K ⟨e,E,F⟩ C
 refine⟨λj=>?_,λj=>⟨b,rfl,⟨V,V⟩,e⟩⟩;simp only[ar]at j;let⟨x,q⟩:=cK l k;obtain⟨y,r,_⟩:=B.at q;obtain⟨a,Q,o,_,z,_,_,A,_⟩:=p.aE q;have G:=o.len;have P:=av r;have s:=e.af z;have G3:=e.af A;have h:=(o.ext e).aE r;have u:cT (b+1)=b+1:=aP V V;have w:cT (b -1)=b -1:=aP V V;rw[u,w];have N:∀d,-((k+1:Nat):Int)<=d->d<=((k+1:Nat):Int)->I d (cT ((k:Int)+1)) c/\μ d (cT ((k:Int)+1)) c<μ b k c:=λd a t=>C V _ _ ⟨e,a,t⟩
 have D:(0:Int)<=(k:Int)/\(k:Int)<(i.len:Int)/\∃f:O,af c i.D (i.off+Int.toNat (k:Int)*5+3)=some (O.v f)/\(0:Int)<=(0:Int)/\(0:Int)<(f.len:Int)/\∃g:Int,af c f.D (f.off+Int.toNat (0:Int)*1)=some (vi g)/\
  ((g==v)=true->I (b -1) (cT ((k:Int)+1)) c/\μ (b -1) (cT ((k:Int)+1)) c<μ b k c)/\((g==v)=false->I b (cT ((k:Int)+1)) c/\μ b (cT ((k:Int)+1)) c<μ b k c):=
  ⟨V,V,a,G3,V,V,y,h,λ_=>N _ V V,λ_=>N _ V V⟩
 exact⟨V,V,a,G3,V,V,y,h,λ_=>⟨V,V,_,s,λ_=>N _ V V,λ_=>D⟩,λ_=>D⟩
def Nl(q:∀f∈b,f<m.size)(u:eQ m i l)(j:XC l)(G:l.length<=100000000000):lA 269 [O.v i] m b λc=>(∀o∈c,zE l o)/\c.length<=l.length:=by
 apply Hp;intro N;have K:=u.len;refine eB (n:=l.length) V (λk s M=>J m M/\∃c,GI b m M s c/\(∀o∈c,zE l o)/\c.length<=k) ⟨J.push m _,[],GI.nil b m,aL,ad _⟩ ?_;rintro k s d I μ H ⟨e,c,p,v,t⟩ C
 refine⟨λh=>?_,λh=>⟨s,c,rfl,p,⟨v,V⟩,e⟩⟩;simp only[ar]at h;let⟨x,w⟩:=cK l k;let⟨z,y,A⟩:=j.at w;obtain⟨a,R,r,_,E,_,_,g,_⟩:=u.aE w;have F:=r.len;have L:=av y;refine⟨V,V,a,e.af g,V,V,z,(r.ext e).aE y,?_⟩;refine(mM (S:=b) (λf t=>aO (q f t) e.size) (p.done q V) z V).then λQ B P g f D=>⟨_,rfl,C V _ _ ⟨e.trans D,B,g.cz (λ_ h=>h) e.size,λo j=>?_,oh f.2⟩⟩;rcases f.1 o j with h|h
 .exact v o h
 .subst h;exact A
structure vM(b:List Nat)(m d M:E)(f e h:O)(c lr g:List Int):Prop where
 x:J m M
 gd:GI b m M f c
 gr:GI b m M e lr
 gv:GI [] d M h g
 n1:f.D≠e.D
 n2:f.D≠h.D
 n3:e.D≠h.D
def vM.ext{b:List Nat}{m d M i:E}{f e h:O}{c j g:List Int}(T:vM b m d M f e h c j g)(a:J M i):vM b m d i f e h c j g:=
 ⟨T.x.trans a,T.gd.ext a,T.gr.ext a,T.gv.ext a,T.n1,T.n2,T.n3⟩
def vM.ZR{j:List Int}(T:vM b m d M f e h c j g)(s:∀i∈b,i<m.size)(t:c.length<=10^12)(u:∀r i,vM b m d i r e h (c++[a]) j g->K r i):
 jT (M.push (.cells (bu [.i a]) aA)) aA [.i 0] 8 f (.mk M.size 0 1 1) K:=by
 have o:=T.gr.bn;have p:=T.gv.bn;have v:=T.n1;have w:=T.n2
 refine GI.kV T.gd (T.x.fz []) s t λr i n l z q=>u r i ⟨l.ext,n,T.gr.jF (q _ o.2 T.n1.symm),T.gv.jF (q _ p.2 T.n2.symm),?_,?_,T.n3⟩<;>rcases z.2 with k|k<;>omega
def vM.Su{j:List Int}(T:vM b m d M f e h c j g)(s:∀i∈b,i<m.size)(t:j.length<=10^12)(u:∀r i,vM b m d i f r h c (j++[a]) g->K r i):
 jT (M.push (.cells (bu [.i a]) aA)) aA [.i 0] 8 e (.mk M.size 0 1 1) K:=by
 have o:=T.gd.bn;have p:=T.gv.bn;have v:=T.n1;have w:=T.n3
 refine GI.kV T.gr (T.x.fz []) s t λr i n l z q=>u r i ⟨l.ext,T.gd.jF (q _ o.2 T.n1),n,T.gv.jF (q _ p.2 T.n3.symm),?_,T.n2,?_⟩<;>rcases z.2 with k|k<;>omega
def VC(l:List cY)(c:List cY):Prop:=∃b a:List Int,c=b.map (fg 14)++a.map (fg 15)/\(∀o∈b,zE l o)/\(∀o∈a,zE l o)/\b.length+a.length<=l.length*l.length
def yw(v:∀t∈b,t<m.size)(Z:eQ m i l)(a:XC l)(x:l.length<=500000):Ru 246 [O.v i] m b (VC l):=by
 apply Dk;intro r d;have P:J m d:=(J.push m _).trans (J.push r _);have s1:r.size=m.size+1:=by simp[r]
 have gd:GI b m d (.mk m.size 0 0 0) []:=(GI.nil b m).ext (J.push r _);have U:GI b m d (.mk r.size 0 0 0) []:=(GI.nil b r).cz (λ_ F=>F) V;clear_value d;have ah:l.length*l.length<=250000000000:=bI (Mz x x) bh;refine(Nl (b:=[]) aL (Z.le P.le) a V).then λh g m3 D L Q=>⟨_,rfl,?_⟩;have hv:ap m3 h g:=(D.done aL (oh L.2)).le (bC _ _);have am:=hv.len;have al:=L.2;have an:=D.bn;have au:=P.size;refine xc (n:=g.length) V (λp f e M=>∃c j,vM b m d M f e h c j g/\(∀o∈c,zE l o)/\(∀o∈j,zE l o)/\c.length+j.length<=p*l.length) ⟨[],[],⟨(P.trans Q),gd.ext Q,U.ext Q,D,bF,oh gd.bn,oh U.bn⟩,aL,aL,aL⟩ ?_;rintro p f e m4 ag μ hi ⟨c,j,T,hd,hr,X⟩ ae
 have ac:p*l.length<=l.length*l.length:=di _ V;have G:∀{M:E}{f e:O}{c j:List Int},vM b m d M f e h c j g->ap M h g:=λT=>(T.gv.done aL V).le (bC _ _);refine dit (λF=>?_) λF=>?_
 .let⟨y,z⟩:=cK g p;have ab:=L.1 y (aq z);refine⟨V,V,y,(G T).aE z,?_⟩;refine(O1 (Z.le T.x.le) a V y).then λw m5 hn s=>⟨_,rfl,?_⟩;have ak:(p+1)*l.length=p*l.length+l.length:=qt _ _;refine⟨λf k M=>k<=w/\(w<=0->k=w)/\(0<w->0<=k)/\∃H,vM b m d M f e h H j g/\(∀o∈H,zE l o)/\H.length+j.length+k.toNat<=p*l.length+w.toNat,λ_ k _=>k.toNat,⟨V,V,V,c,T.ext s,hd,V⟩,?_⟩;rintro af k m6 ⟨n1,n2,n3,I,A,Y,ai⟩;refine dit (λh1=>?_) λh1=>?_
  .refine⟨V,V,y,(G A).aE z,?_⟩;intro q;have u:cT (k -1)=k -1:=aP V V;rw[u];exact A.ZR v V λN R B=>⟨⟨V,V,V,_,B,λo a=>by
    rcases List.mem_append.1 a with a|a
    .exact Y o a
    .simp at a;subst a;exact ab,bF⟩,by dsimp only;omega⟩
  .refine⟨λe q M=>k<=q/\q<=0/\∃K,vM b m d M af e h I K g/\(∀o∈K,zE l o)/\I.length+K.length+(-q).toNat<=p*l.length+l.length,λ_ q _=>(-q).toNat,⟨V,V,j,A,hr,V⟩,?_⟩;rintro ao q m8 ⟨p1,p2,ad,C,aa,aj⟩;refine⟨λW=>?_,λW=>ae V _ _ _ ⟨I,ad,C,Y,aa,V⟩⟩;simp only[ar]at W;refine⟨V,V,y,(G C).aE z,?_⟩;intro m9;have u:cT (q+1)=q+1:=aP V V;rw[u];exact C.Su v V λN R B=>⟨⟨V,V,_,B,λo a=>by
    rcases List.mem_append.1 a with a|a
    .exact aa o a
    .simp at a;subst a;exact ab,bF⟩,by dsimp only;omega⟩
 .have o:∀t∈b,t<m4.size:=λt X=>by have:=v t X;have:=T.x.size;omega
  refine(eZ (c:=b) o 14 ((T.gd.done v V).le (bC _ _)) V).mono λ_ m5⟨s1,C,k,g1,u,s⟩=>?_;subst k;subst u;refine⟨_,rfl,?_⟩;have q:=g1.bn;refine(eZ (c:=s1.D::b) (bP o s.size q.2) 15 (((T.ext s).gr.done v V).le (bC _ _)) V).mono λ_ m6⟨I,H,k,g2,y,w⟩=>?_;subst k;subst y;refine⟨_,rfl,?_⟩;refine GS.all (g1.ext gH.mono w) ((s.trans w).fz []) (g2.done gH.mono (bP o s.size q.2) bh bF) bF λN R A z _ _=>⟨N,_,rfl,A.cz gH.mono (λB x=>Or.inl x) T.x.size,⟨c,j,rfl,hd,hr,?_⟩,T.x.trans z.ext⟩;have:p*l.length<=l.length*l.length:=ac;omega
end
section
variable{a c:Nat}
def Jc(a b:Nat):a*a+b*b<=(a+b)*(a+b):=by
 rw[gS,Nat.mul_add,Nat.mul_add];omega
def Qk{b:Nat}(h:a<=b):a*a<=b*b:=Mz h h
structure CN(ds:List bA)(c:Nat)(S:List Nat)(m2 M:E)(a:Nat)(aD:List cY)(k:Nat)(st run:O)(lo lr:List cY)(P:Nat):Prop where
 x:J m2 M
 gs:GS (run.D::S) m2 M st lo
 gr:GS [st.D] m2 M run lr
 wl:WL ds c True a lo
 XG:dc lo=dc (aD.take k)
 sws:sw lo<=P*P
 P':P+2*lr.length<=sw (aD.take k)
 lX:XC lr
 XO:∀o,zE lr o->0<=o/\o<((a+dc (aD.take k):Nat):Int)
 ne:st.D≠run.D
def Qe{f:List bA}{l b:List cY}(h:VC l b)(e:∀o,zE l o->0<=o/\o<(a:Int)):WL f c True a b/\dc b=0/\sw b<=(2*l.length)*(2*l.length):=by
 obtain⟨k,j,rfl,g,i,m⟩:=h;refine⟨(rX V λo d=>e o (g o d)).append ?_,?_,?_⟩
 .rw[j8 V];exact rX V λo d=>e o (i o d)
 .rw[cZ,j8 V,j8 V]
 .rw[dE,oL,oL];have:(2*l.length)*(2*l.length)=4*(l.length*l.length):=by
   rw[Nat.mul_mul_mul_comm]
  omega
def ZD(e:List bA)(c:Nat)(b:Bk):Prop:=∀(S:List Nat)(m:E),(∀d∈S,d<m.size)->∀(t:O)(a:Nat),eQ m t b.aD->WB e c True a b->b.w<=400000->nI 230 [.agg #[O.v t,vi b.aS]] m S λd=>WB e c True a d/\d.w<=b.w*b.w
def EC{K:List bA}:∀g:Bk,ZD K c g:=by
 refine Bk.ind ?_;intro aD bf ih s I hS bU a hs a9 hw;have aK:=a9.aT;rw[Bk.qQ]at hw⊢;simp only[Bk.j7,Bk.jD]at*;apply xy;simp -zeta only[aC,aB];intro j k Q m3;let⟨x1,hl⟩:=dF (a:=j) (c:=k) rfl rfl;have s0:j.size=I.size+1:=by simp[j]
 have s1:k.size=I.size+2:=by simp[k,s0]
 have bl:J k m3:=(J.push k _).trans (J.push Q _);have s2:Q.size=k.size+1:=by simp[Q]
 have a1:∀u,GS u k m3 (.mk k.size 0 0 0) []:=λu=>(GS.new u k).ext gH.mono (J.push Q _);have a0:∀u,GS u k m3 (.mk Q.size 0 0 0) []:=λu=>(GS.new u Q).cz gH.mono (λg m=>Or.inl m) V;clear_value m3;clear_value k;have a8:=hs.len;have aI:=BP aD;have bz:=gA aD;have az:∀e∈j.size::s,e<k.size:=bP hS x1.size (hl _ aL);refine xc (n:=aD.length) (a8▸hs.gY) (λv G z q=>∃Z t P,CN K c (j.size::s) k q a aD v G z Z t P) ⟨[],[],0,bl,a1 _,a0 _,WL.nil _ _ _ _,rfl,aL,aL,λ_ h=>by simp at h,λaf⟨_,h,_⟩=>by simp at h,bF⟩ ?_;rintro v G z y bn μ hk ⟨Z,t,P,C⟩ aM
 have T:=C.x;have R:=x1.trans T;have bM:=C.gs.bn;have bL:=C.gr.bn;have z4:=T.size;have ay:=C.P';have bB:=aI v;have bo:P*P<=160000000000:=bI (Qk (b:=400000) V) bh;have bx:=gA Z;have a6:=C.sws;have aF:=C.ne;have L:∀{q:E}{u:List Nat},y.size<=q.size->(∀e∈u,e<q.size)->∀e∈u++j.size::s,e<q.size:=λh m e f=>by
  rcases List.mem_append.1 f with h|h
  .exact m e h
  .have:=az e h;omega
 have aG:∀{q:E},J y q->eQ q z t:=λh=>eQ.le (bC _ _) ((C.gr.ext gH.mono h).nT gH.mono (by simpa using aF.symm) bh V);refine dit (λh=>?_) λh=>?_
 .let⟨d,X⟩:=cK aD v;let⟨pa,pk,ha,ab,g0,g1,g2,g3,g4⟩:=hs.aE X;refine⟨V,V,_,R.af g0,_,R.af g1,_,R.af g2,_,R.af g3,_,R.af g4,?_⟩;intro m5 F;have x6:J y F:=(J.push y _).ah (ad _) _ _;have s6:F.size=y.size+1:=by simp[F,m5,aw]
  clear_value F;have O:∀{q:E},F.size<=q.size->∀g∈[y.size,j.size,I.size],g<q.size:=λh g m=>by
   rcases List.mem_cons.1 m with i|i
   .omega
   .have:=hl g i;omega
  have bG:=qd X;have bE:=qV X;have a_:=cY.mI d;have W:=aK.1 v d X;have bD:=aI (v+1);have br:=qA d.bE;refine(Bc pa pk F).aI (J.az F) (O (ad _)) λbp m7 a3 x7 _=>⟨_,rfl,λhp=>?_,λhp=>?_⟩
  · -- a pair goes to the run
   have hp:=a3.1 hp;have D:d.args.length=1:=W.fj.lX V;have N:dn d=0:=ae λh:pB d.op=>by have:=h.2;omega
   have A:=x6.trans x7;intro m8;have r:Le I (bH (z.D::[G.D]) m7):=(Ak I).trans (((R.trans A).fz []).bH aL λe f=>by simp at f;have:=x1.size;exact Or.inr V);refine GS.kV (x:=d) (C.gr.ext gH.mono A) ((T.trans A).fz []) (ha.le r) (ab.le r) V λaZ M' U B l w=>⟨λe f=>?_,aM V _ _ _ ⟨Z,t++[d],P,B.ext,(C.gs.ext gH.mono A).re gH.mono (Y:=[z.D]) ⟨l.1,λe f o=>w e f (by simpa using o)⟩ aL (by simpa using aF) (λe f=>?_),U,C.wl,by rw[C.XG];omega,a6,bF,λak o=>?_,λaf H=>?_,?_⟩⟩
   .have:=O (q:=m7) x7.size e f;rw[w e this (by simp at f;omega),(J.push m7 _).same e this]
   .rcases List.mem_cons.1 f with i|i
    .rcases l.2 with p|p
     .exact Or.inl (by rw[i,p];exact bg)
     .exact Or.inr V
    .exact Or.inl (ai _ i)
   .rcases List.mem_append.1 o with o|o
    .exact C.lX ak o
    .simp at o;subst o;exact D
   .let⟨ak,o,p⟩:=H;have i:dc (aD.take (v+1))=dc (aD.take v):=V;rw[i];rcases List.mem_append.1 o with o|o
    .exact C.XO af ⟨ak,o,p⟩
    .simp at o;subst o;exact W.fj.args af p
   .have:=(C.gs.ext gH.mono A).bn;rcases l.2 with i|i<;>omega
  · -- another step ends the run
   have A:=x6.trans x7;have aS:=A.size;refine(yw (b:=[G.D,z.D]++j.size::s) (L aS bF) (aG A) C.lX V).aI (J.az m7) (O x7.size) λbS ba bN aX bd aO _=>⟨_,rfl,?_⟩;let⟨an,ag,bj⟩:=Qe (f:=K) (c:=c) bd C.XO;have bu:=gA ba;have vH:=aO.size;have z7:=x7.size;have a2:(2*t.length)*(2*t.length)<=160000000000:=bI (Qk (b:=400000) V) bh;have aQ:=A.trans aO;refine GS.all (C.gs.ext gH.mono aQ) ((T.trans aQ).fz []) (aX.done gH.mono (L (u:=[G.D,z.D]) aS bF) bh V) V λw l au aU aR be=>⟨λe f=>be e (O V e f) (by simp at f;omega),?_⟩;have ap:J k l:=aU.ext;have bV:=aR.1;have bJ:=au.bn;have bq:w.D=G.D\/F.size<=w.D:=by have:=aR.2;omega
   intro p am;have aP:J l p:=J.push l _;have bT:p.size=l.size+1:=by simp[p]
   have bk:J p am:=J.push p _;have ar:=ap.trans aP;have gn:GS [w.D] k p (.mk l.size 0 0 0) []:=(GS.new _ l).cz gH.mono (λg m=>Or.inl m) ap.size;have gk:GB ([w.D,l.size]++j.size::s) p am (.mk p.size 0 0 0) []:=GB.new _ p;have aY:GS ([l.size]++j.size::s) k p w _:=au.re gH.mono (Y:=[]) (aP.fz []) aL aL λe f=>by
    rcases List.mem_cons.1 f with i|i
    .exact Or.inr V
    .exact Or.inl (ai _ i)
   clear_value am;clear_value p;have al:=ab.len;have bs:=KK d.bE;have bt:bw d.bE<=400000:=V;refine eB (n:=d.bE.length) (al▸ab.gY) (λD bi q=>J p q/\∃r,GB ([w.D,l.size]++j.size::s) p q bi r/\r.length=D/\(∀(B:Nat)(g:Bk),r[B]? =some g->WB K c True (a+dc (aD.take v)+BY K d.op d.bQ B) g)/\bw r<=bw (d.bE.take D)*bw (d.bE.take D)) ⟨bk,[],gk,rfl,aL,aL⟩ ?_;rintro D ks ac I2 μ2 hj ⟨aa,r,U,bv,aE,a4⟩ bc;have ah:=x1.trans (ar.trans aa);have bW:=aa.size;have bK:=U.bn;have N:∀g∈[y.size,j.size,I.size],g<ac.size:=O V;refine dit (λh2=>?_) λh2=>?_
   .let⟨g,m⟩:=cK d.bE D;let⟨tb,aV,f0,f1⟩:=ab.aE m;have a5:=wW m;have aN:=uF m;refine⟨V,V,_,ah.af f0,_,ah.af f1,?_⟩;refine(ih d (aq X) g (aq m) ([ks.D,w.D,l.size]++j.size::s) ac (L V bF) tb _ (aV.le ah.le) (W.bE D g m) V).aI (J.az ac) N λss b' a7 aT aA ao _=>⟨_,_,rfl,?_⟩;refine GB.kV (c:=b') (U.ext rT.mono ao) ((aa.trans ao).fz []) aT V λaZ M' g2 f2 z2 q2=>⟨J.oR ((aa.trans ao).aK _) f2.ext (λe f=>oh (O (q:=p) V e f)),bc V _ _ ⟨f2.ext,_,g2,bF,λB b2 H=>?_,?_⟩⟩
    .rcases aW B r.length with aj|aj
     .rw[ax aj]at H;exact aE B b2 H
     .rw[aJ aj]at H;have:B -r.length=0:=by have:=av H;simp at this;omega
      rw[this]at H;simp at H;subst H;have:B=D:=V;subst this;exact aA.1
    .rw[pb,uE,zP,aN];have h3:=Jc (bw (d.bE.take D)) g.w;have:=aA.2;omega
   .have a5:r.length=d.bE.length:=V;rw[bY V]at a4;refine(bO ([w.D,l.size]++j.size::s) (ha.ext ah) V).aI (J.az ac) N λs' l' bb ga i H _=>⟨_,rfl,aH (H.same _ (N _ aL)) _,aH (H.same _ (N _ aL)) _,aH (H.same _ (N _ aL)) _,?_⟩;subst i;intro bQ;have aj:=aa.trans H;have bX:=H.size;have ao:∀e∈[w.D,l.size]++j.size::s,e<p.size:=L V bF;have a7:w.D≠l.size:=V;refine GS.kV (x:=⟨d.op,d.bQ,d.bZ,d.args,r⟩) (aY.ext gH.mono aj) ((ar.trans aj).fz []) (ga.done (λe f=>oh (ao e f)) V) (nQ.le (H.dh _) (U.done rT.mono ao bh (by show r.length<=_;omega))) bF λaN bR aZ aV bm aA=>⟨λe f=>?_,aM V _ _ _ ⟨_,[],P+2*t.length+d.w,aV.ext,aZ,?_,((C.wl.append (by rw[C.XG];exact an)).yQ (W.PU id W.fj.bZ a5 aE|>λh=>by rw[cZ,C.XG,ag,jM];exact h)),?_,?_,bF,λ_ h=>by simp at h,λaf⟨_,h,_⟩=>by simp at h,?_⟩⟩
    .have h3:=N e f;rw[aA e V (by simp at f;omega),(J.push bb _).same e V]
    · -- the new run is empty
     have i:=gn.ext gH.mono aj;let⟨p0,aT,p1,p2⟩:=i;refine⟨p0,aT,p1.congr (aA _ (by have:=aj.size;show l.size<_;omega) (kO a7)),p2.len,p2.size,λB cs ak _ o=>by simp at o⟩
    .rw[cZ,cZ,C.XG,ag,kX,tp];have i:dn (⟨d.op,d.bQ,d.bZ,d.args,r⟩:cY)=dn d:=rfl;omega
    .rw[dE,dE,mV,vA];have h3:=Jc P (2*t.length);have h4:=Jc (P+2*t.length) d.w;have h5:(⟨d.op,d.bQ,d.bZ,d.args,r⟩:cY).w=1+d.args.length+bw r:=cY.mI _;have o:=Jc (1+d.args.length) (bw d.bE);have h7:1+d.args.length<=(1+d.args.length)*(1+d.args.length):=Nat.le_mul_of_pos_left _ V;rw[<-a_]at o;omega
    .rcases bm.2 with i|i
     .show aN.D≠l.size;omega
     .show aN.D≠l.size;omega
 .have al:v=aD.length:=V;subst al;rw[fB]at ay;have hd:dc (aD.take aD.length)=dc aD:=by rw[fB]
  have i:∀g∈[j.size,I.size],g<y.size:=λg m=>T.lt (hl g m);refine(yw (b:=[G.D,z.D]++j.size::s) (L (ad _) bF) (aG (J.az _)) C.lX V).aI (J.az y) i λO l F r A d _=>⟨_,rfl,aH (d.same _ (i _ aL)) _,?_⟩;let⟨an,ag,bj⟩:=Qe (f:=K) (c:=c) A C.XO;have D:=gA l;have a2:(2*t.length)*(2*t.length)<=160000000000:=bI (Qk (b:=400000) V) bh;have U:=d.size;refine GS.all (C.gs.ext gH.mono d) ((T.trans d).fz []) (r.done gH.mono (L (u:=[G.D,z.D]) (ad _) bF) bh V) V λB H w p W o=>⟨λe f=>o e (d.lt (i e f)) (oh (hl e f)),aH (o _ (d.lt (i _ aL)) V) _,?_⟩;intro N;refine⟨B,.mk (Z++l) bf,rfl,eQ.le (cD aL λe f=>ai _ f) ((w.re gH.mono (S':=j.size::s) (Y:=[]) (Fz.az _ _) aL aL (λe f=>Or.inl (ai _ f))).done gH.mono az bh bF),⟨WB.of (C.wl.append (by rw[C.XG];exact an)) ?_,?_⟩,(x1.trans p.ext).ah V _ _⟩
  .rw[cZ,C.XG,ag,hd];exact aK.2
  .rw[Bk.qQ,dE];have h3:=Jc P (2*t.length);have h4:=Qk ay;have h5:=Jc 1 (sw aD);omega
end
section
variable{e:List Nat}{c:E}{d f:O}{g:List gU}{W:Nat}
def It(F:∀a∈e,a<c.size){j:List bA}(p:eM c d f j g)(hW:W<=400000)(Z:yB j g True W):ve 209 [.agg #[O.v d,O.v f]] c e j λw=>yB j w True (W*W):=by
 apply AJ;simp -zeta only[aC,aB];intro b a2;let⟨z,u⟩:=dF (a:=b) (c:=a2) rfl rfl;have s1:b.size=c.size+1:=by simp[b]
 clear_value a2;have ai:=p.jc.len;have ar:=p.oN;refine(fX (b:=b.size::e) (bP F z.size (u _ aL)) (p.le z.le).bq p.types).mono λ_ K⟨ab,k,ad,A⟩=>?_;subst k;refine⟨A.dy u,_,rfl,?_⟩;intro L am aa;have u2:=z.trans A;let⟨x5,B0,g0,s3,s5⟩:=ly (b:=L.size::b.size::e) iY.mono (d:=K) (a:=L) (c:=am) (h:=aa) rfl rfl rfl;clear_value aa;have v:∀a∈[b.size,c.size],a<K.size:=λa i=>A.lt (u a i);have H:∀a∈b.size::e,a<K.size:=λa i=>A.lt (bP F z.size (u _ aL) a i);refine lg (R:=λh o M=>∃d f w,Value.agg #[O.v h,O.v o]=.agg #[O.v d,O.v f]/\eM (bH e M) d f j w/\yB j w True (W*W)/\J c M) (r:=g.length) (f:=c) (b:=e) iY.mono bh bh F ⟨V,v _ aL⟩ u2 s3 ad ai V x5 B0 g0 (λ_ q=>q.params.length<=3/\q.cW.length<=3/\WB j g.length True q.params.length q.body/\q.body.w<=W*W) (λh t I x U X o r s=>⟨h,t,I,rfl,⟨U,X,p.types,V⟩,Ib Z.je o r,s⟩) λal M st I ao μ ae ap B T C an=>?_
 let⟨q,hq⟩:=cK g al ae;let⟨ah,ag,ak,hw⟩:=Z.dB q (aq hq);have y:=u2.trans B;let⟨au,av,h,c1,c2,c3,N,P,Q,D,E⟩:=p.jc.aE hq;have G:∀{x:Value}{h r:Nat},af c h r=some x->af M h r=some x:=λt=>y.af t;refine⟨st,C.cg 1,V,V,_,G N,_,G P,_,G Q,_,G D,_,G E,V,V,_,G D,_,G E,?_⟩;have hy:=T.bn;have ac:=C.lt;have zM:=B.size;refine(EC q.body (st.D::L.size::b.size::e) M (λa i=>?_) h q.params.length (c3.le y.le) ak V).aI B v λss b' M1 aj Y o u1=>⟨_,_,rfl,?_⟩
 .simp only[aV]at i;rcases i with k|k|k|k
  .omega
  .omega
  .have:=H a (by simp[k]);omega
  .have:=H a (by simp[k]);omega
 have s:∀{x:Value}{h r:Nat},af c h r=some x->af M1 h r=af M h r:=λt=>by rw[o.af (G t),G t]
 refine⟨s N,s P,s Q,s D,s E,aH (o.same _ (B.lt (v _ aL))) _,aH (o.same _ ac) _,?_⟩;exact wh (b:=b.size::e) (v:=ab) (x:=I) H (λa i=>by have U:=v a i;have X:=u1.size;omega) u1 (T.ext iY.mono o) (C.ext o) V (c1.ext (y.trans o)) (c2.ext (y.trans o)) aj ⟨V,V⟩ V λs' X g' U x'=>an s' X _ g' U x' ⟨ah,ag,Y.1,bI Y.2 (Qk hw)⟩
def XW(b:Bk):Prop:=∀(e:List Nat)(c:E),(∀a∈e,a<c.size)->∀t:O,eQ c t b.aD->b.w<=10^12->nI 287 [.agg #[O.v t,vi b.aS]] c e (b=·)
def yu(H:∀i∈e,i<c.size){z B:O}{x:cY}(I:ap c z x.args)(u:nQ c B x.bE)(hw:x.w<=10^12)(P:∀h∈x.bE,XW h):KB 318 [px x z B] c e (x=·):=by
 apply CK;simp -zeta only[aC,aB];intro d a y;let⟨D,v⟩:=dF (a:=d) (c:=a) rfl rfl;have R:d.size=c.size+1:=by simp[d]
 have s1:a.size=c.size+2:=by simp[a,R]
 have S:J a y:=J.push _ _;have F:GB (d.size::e) a y (.mk a.size 0 0 0) []:=GB.new _ a;clear_value y;clear_value a;have r:∀i∈d.size::e,i<a.size:=bP H D.size (v _ aL);have K:=u.len;have aa:=cY.mI x;have Y:=qA x.bE;refine eB (n:=x.bE.length) (K▸u.gY) (λw s M=>J a M/\GB (d.size::e) a M s (x.bE.take w)) ⟨S,F⟩ ?_;rintro w s p U μ hj ⟨m,o⟩ Q
 have l:=D.trans m;have k:∀h∈[d.size,c.size],h<p.size:=λh j=>m.lt (v h j);have N:=o.bn;have T:=m.size;refine dit (λG=>?_) λG=>?_
 .let⟨h,j⟩:=cK x.bE w;let⟨tb,M,A,E⟩:=u.aE j;have Z:=wW j;refine⟨V,V,_,l.af A,_,l.af E,?_⟩;refine(P h (aq j) (s.D::d.size::e) p (bP r T N.2) tb (M.le l.le) V).aI (J.az p) k λss X C L q g _=>⟨_,_,rfl,?_⟩;subst q;refine GB.kV (c:=h) (o.ext rT.mono g) ((m.trans g).fz []) L bF λf W g2 t z2 q2=>⟨J.oR ((m.trans g).aK _) t.ext v,Q V _ _ ⟨t.ext,?_⟩⟩;rw[aU j];exact g2
 .rw[bY V]at o;refine(bO (d.size::e) (I.ext l) V).aI (J.az p) k λM W C E q g _=>⟨_,rfl,aH (g.same _ (k _ aL)) _,aH (g.same _ (k _ aL)) _,aH (g.same _ (k _ aL)) _,?_⟩;subst q;intro L;have A:Le (bH (d.size::e) C) (bH e L):=cD aL λi t=>ai _ t;exact⟨M,s,x,rfl,(E.done (λi t=>oh (r i t)) V).le A,nQ.le A ((o.ext rT.mono g).done rT.mono r bh V),rfl,(l.trans g).ah V _ _⟩
def wy:∀j:Bk,XW j:=by
 refine Bk.ind ?_;intro aD h ih e c W al z hw;rw[Bk.qQ]at hw;simp only[Bk.j7,Bk.jD]at*;apply rK;simp -zeta only[aC,aB];intro f b d C q;let⟨I,y⟩:=dF (a:=f) (c:=b) rfl rfl;have s0:f.size=c.size+1:=by simp[f]
 have s1:b.size=c.size+2:=by simp[b,s0]
 have s2:d.size=b.size+1:=by simp[d]
 have s3:C.size=d.size+1:=by simp[C]
 have K:J d q:=(J.push d _).ah (ad _) _ _;have ag:J b q:=(J.push b _).trans K;have x:GS (d.size::f.size::e) b q (.mk b.size 0 0 0) []:=(GS.new _ b).ext gH.mono K;have N:cJ q d.size dj [.s (.mk b.size 0 0 0),.i h]:=cJ.ah (m:=C) (o:=0) (r:=[.s (.mk b.size 0 0 0),.i h]) (cJ.push d _ _);clear_value q;have F:∀u∈f.size::e,u<b.size:=bP W I.size (y _ aL);have ae:=z.len;have aj:=gA aD;refine dW (n:=aD.length) (ae▸z.gY) (λA M=>J b M/\∃s,GS (d.size::f.size::e) b M s (aD.take A)/\cJ M d.size dj [.s s,.i h]) ⟨ag,_,x,N⟩ ?_;rintro A D ah μ hk ⟨w,s,l,B⟩ af
 have g:=I.trans w;have ac:∀j∈[f.size,c.size],j<D.size:=λj Y=>w.lt (y j Y);have hy:=l.bn;have z5:=w.size;have E:=B.lt;refine dit (λU=>?_) λU=>?_
 .let⟨H,v⟩:=cK aD A;let⟨pa,pk,X,ab,x,g1,g2,R,T⟩:=z.aE v;have ak:=O9 v;refine⟨s,B.cg 0,V,V,_,g.af x,_,g.af g1,_,g.af g2,_,g.af R,_,g.af T,?_⟩;refine(yu (e:=s.D::d.size::f.size::e) (bP (bP F z5 E) (ad _) hy.2) (X.ext g) (ab.le g.le) V (ih H (aq v))).aI (J.az D) ac λM O x' G Z aa k t _=>⟨_,_,_,_,_,rfl,aH (t.same _ E) _,?_⟩;subst k;intro m7;refine Gr.box (g:=[.i 0,.i 0,.i 0,.s .nil,.s .nil]) (j:=0) (i:=[.s s,.i h]) (w:=H) gH.mono bh (l.ext gH.mono t) ((w.trans t).fz []) ⟨M,O,rfl,Z,aa⟩ bF (B.ext t) aL bh ⟨V,aL⟩ (λu p=>by have L:=y u p;have P:=t.size;omega) λr' m' Q L P z' q'=>af V _ ⟨P.ext,r',?_,L⟩
  rw[aU v];exact Q
 .rw[bY V]at l;refine⟨s,B.cg 0,h,B.cg 1,?_⟩;intro G;have v:=l.ne B bh;have t:Le (bH (d.size::f.size::e) D) (bH e G):=cD aL λu p=>ai _ (ai _ p);refine⟨s,.mk aD h,rfl,eQ.le t (l.nT gH.mono (λp=>?_) bh (by show aD.length<=_;omega)),rfl,g.ah V _ _⟩;rcases List.mem_cons.1 p with k|k
  .exact v k
  .have:=F _ k;omega
def ZB(b:Bk):Prop:=∀(c:E)(t:O)(f:Int),eQ c t b.aD->oX 319 [.agg #[O.v t,vi b.aS],vi f] c
def JU:∀b:Bk,ZB b:=by
 refine Bk.ind ?_;intro aD Y G c t s m;simp only[Bk.j7,Bk.jD]at*;apply CH;simp -zeta only[aC,aB];intro g;have A:J c g:=J.push _ _;have D:∀b∈[c.size],b<g.size:=by simp[g]
 clear_value g;have F:=m.len;refine dW (n:=aD.length) (F▸m.gY) (λ_ M=>J g M) (J.az _) ?_;rintro k o I μ X r N
 have h:=A.trans r;refine⟨λj=>?_,λ_=>rA h⟩;simp only[ar]at j;let⟨x,v⟩:=cK aD k;let⟨pa,w,U,l,B,g1,g2,T,u⟩:=m.aE v;have C:=l.len;have L:∃(i:Int->E->Prop)(μ0_1:Int->E->Nat),i (0:Int) o/\(∀(a:Int)(M:E),i a M->
  (0:Int)<=(k:Int)/\(k:Int)<(t.len:Int)/\∃q:O,af M t.D (t.off+Int.toNat (k:Int)*5+4)=some (O.v q)/\
  ((decide (a<(q.len:Int)))=true->(0:Int)<=(k:Int)/\(k:Int)<(t.len:Int)/\∃d:O,af M t.D (t.off+Int.toNat (k:Int)*5+4)=some (O.v d)/\
   (0:Int)<=a/\a<(d.len:Int)/\∃y:O,af M d.D (d.off+Int.toNat a*2)=some (O.v y)/\∃z:Int,af M d.D (d.off+Int.toNat a*2+1)=some (vi z)/\
   aN cp 319 [.agg #[O.v y,vi z],vi s] M λf e=>eH [c.size] M e/\∃p:Bool,f=vb p/\(p=true->∃b:Bool,vb true=.bool b/\J c e)/\(p=false->i (cT (a+(1:Int))) e/\μ0_1 (cT (a+(1:Int))) e<μ0_1 a M))/\
  ((decide (a<(q.len:Int)))=false->I (cT ((k:Int)+(1:Int))) M/\μ (cT ((k:Int)+(1:Int))) M<μ k o)):=by
  refine dW (n:=x.bE.length) (C▸l.gY) (λ_ M=>J o M) (J.az _) ?_
  rintro H M R μ2 W d K
  have a:=h.trans d
  refine⟨V,V,w,a.af u,λj=>?_,λ_=>N V _ (r.trans d)⟩
  simp only[ar]at j
  let⟨b,p⟩:=cK x.bE H
  let⟨tb,z,q,y⟩:=l.aE p
  refine⟨V,V,w,a.af u,V,V,_,a.af q,_,a.af y,?_⟩
  exact(G x (aq v) b (aq p) M tb s (z.le a.le)).aI (r.trans d) D λS e Q P=>⟨_,rfl,λ_=>rA (A.trans P),λ_=>K V _ (d.trans Q)⟩
 exact⟨V,V,_,h.af B,λ_=>⟨V,V,_,h.af g1,λ_=>rA h,λ_=>L⟩,λ_=>L⟩
def J1{o:List bA}(h:eM c d f o g)(i:Int):oX 288 [.agg #[O.v d,O.v f],vi i] c:=by
 apply CW;simp -zeta only[aC,aB];intro a;have k:J c a:=J.push _ _;have s:∀e∈[c.size],e<a.size:=by simp[a]
 clear_value a;have H:=h.jc.len;have G:=h.oN;refine dW (n:=g.length) V (λ_ M=>J a M) (J.az _) ?_;rintro u v I μ F l w
 have b:=k.trans l;refine⟨λr=>?_,λ_=>rA b⟩;simp only[ar]at r;let⟨x,t⟩:=cK g u;let⟨K,L,e,A,B,m,C,D,E,p,q⟩:=h.jc.aE t;exact⟨V,V,_,b.af p,_,b.af q,(JU x.body v e i (m.le b.le)).aI l s λz y M j=>⟨_,rfl,λ_=>rA (k.trans j),λ_=>w V _ j⟩⟩
abbrev Zm(e:List Nat)(a c:E)(s:O)(l:List (List Int)):Prop:=Gr e a c xY 1 na s l
def Gz(Z:∀a∈e,a<c.size){R:List bA}(o:eM c d f R g)(hp:∀y∈g,y.params.length<=3):
 aN cp 253 [.agg #[O.v d,O.v f]] c λae G=>∃s l,ae=O.v s/\pA (bH e G) s l/\l.length=g.length/\(∀a∈l,a.length<=3)/\J c G:=by
 apply yU
 simp -zeta only[aC,aB]
 intro b x
 have N:J c b:=J.push _ _
 have v:∀z∈[c.size],z<b.size:=by simp[b]
 have af:J b x:=J.push _ _
 have W:Zm e b x (.mk b.size 0 0 0) []:=Gr.new e (ad _) _ _ _
 clear_value x
 clear_value b
 have aj:=o.jc.len;have ai:=o.oN
 have C:∀a∈e,a<b.size:=λa u=>N.lt (Z a u)
 refine eB (n:=g.length) V (λk s M=>J b M/\∃l,Zm e b M s l/\l.length=k/\∀a∈l,a.length<=3) ⟨af,[],W,rfl,aL⟩ ?_
 rintro k s H P μ hk ⟨r,l,t,ag,B⟩ aa
 have q:=N.trans r
 have h:=t.bn
 refine dit (λY=>?_) λY=>?_
 .let⟨y,D⟩:=cK g k
  let⟨ab,ak,z,Q,c2,c3,T,e1,e2,e3,e4⟩:=o.jc.aE D
  have ah:=hp y (aq D)
  have iQ:∀(M:E)(i:O)(a:List Int),J H M->ap (bH (s.D::e) M) i a->a.length<=3->jT (M.push (.cells (bu [.s i]) xY)) xY [.s O.nil] 24 s (O.mk M.size 0 1 1) λK m=>eH [c.size] (M.push (.cells (bu [.s i]) xY)) m/\P K (cT ((k:Int)+(1:Int))) m/\μ K (cT ((k:Int)+(1:Int))) m<μ s k H:=λM i a w hf u=>
   Gr.kV (g:=[.s .nil]) na.mono bh (t.ext na.mono w) ((r.trans w).fz []) ⟨i,rfl,hf⟩ V λr' m U A _ _=>⟨J.oR ((r.trans w).aK _) A.ext v,aa V _ _ ⟨A.ext,_,U,bF,λj h=>by
    rcases List.mem_append.1 h with h|h
    .exact B j h
    .simp at h;subst h;exact u⟩⟩
  refine(J1 (o.le q.le) k).aI r v λa m4 j L=>⟨_,rfl,λ_=>?_,λ_=>⟨V,V,ab,(q.trans j).af T,?_⟩⟩
  .intro p m6
   exact iQ p _ [] (j.aK _) (mQ _ _ _ _ _ _) aL
  .refine(sa (S:=[]) aL (a:=0) ((Q.ext (q.trans j)).le (Ak _)) V).aI L v λac F p X I x5 u5=>⟨_,rfl,?_⟩
   intro m6
   have hg:GI (s.D::e) m4 p ac F:=X.any
   exact iQ p _ F (j.trans x5) (hg.done (bP C L.size (oh j.size)) (oh I.2)) (oh I.2)
 .exact⟨s,l,rfl,t.done na.mono C bh V,V,B,q⟩
def ZC(a:List bA)(g:List gU)(b:Bk):Prop:=∀(c:E)(d f t:O)(v:Int)(h:Prop)(e:Nat),eM c d f a g->eQ c t b.aD->WB a g.length h e b->oX 289 [.agg #[O.v d,O.v f],.agg #[O.v t,vi b.aS],vi v] c
def AL{C:List bA}:∀b:Bk,ZC C g b:=by
 refine Bk.ind ?_;intro aD ah ih c d f ai ae m ag E t Z;have aa:=Z.aT.1;simp only[Bk.j7,Bk.jD]at*;apply vt;simp -zeta only[aC,aB];intro K v;let⟨O,W⟩:=dF (a:=K) (c:=v) rfl rfl;clear_value v;have X:=t.len;refine⟨λ_=>rA O,λ_=>?_⟩;refine dW (n:=aD.length) (X▸t.gY) (λ_ M=>J v M) (J.az _) ?_;rintro I p af μ hk A ac
 have e:=O.trans A;refine⟨λj=>?_,λ_=>rA e⟩;simp only[ar]at j;let⟨x,u⟩:=cK aD I;let⟨pa,pk,o,r,Q,g1,g2,R,S⟩:=t.aE u;have F:=aa I x u;have T:=o.len;have U:=r.len;refine⟨V,V,_,e.af Q,_,e.af g1,_,e.af g2,_,e.af R,_,e.af S,?_⟩;intro m3 h;have B:J p h:=(J.push p _).ah (ad _) _ _;have s4:h.size=p.size+1:=by simp[h,m3,aw]
 clear_value h;have s:∀b∈[p.size,K.size,c.size],b<h.size:=λb k=>by
  rcases List.mem_cons.1 k with D|D
  .omega
  .exact(A.trans B).lt (W b D)
 refine dW (n:=x.args.length) (T▸o.gY) (λ_ M=>J h M) (J.az _) ?_;rintro H L I1 μ1 hj l y;have z:=(e.trans B).trans l;refine⟨λj=>?_,λ_=>?_⟩
 .simp only[ar]at j;let⟨Y,P⟩:=cK x.args H;refine⟨V,V,Y,(o.ext z).aE P,λ_=>?_,λ_=>y V _ l⟩;refine(yr x.op L).aI l s λm w i G=>⟨_,rfl,λ_=>?_,λ_=>y V _ G⟩;have a:=z.trans i;exact(ou (⟨E.le a.le,o.ext a,F.fj.call⟩:At w d f pa pk C g x) H).aI G s λm m7 q N=>⟨_,rfl,λ_=>rA (a.trans q),λ_=>y V _ N⟩
 .refine dW (n:=x.bE.length) (U▸r.gY) (λ_ M=>J L M) (J.az _) ?_;rintro G w I2 μ2 hi i ab;have a:=z.trans i;refine⟨λj=>?_,λ_=>ac V _ (((A.trans B).trans l).trans i)⟩;simp only[ar]at j;let⟨b,k⟩:=cK x.bE G;let⟨tb,Y,M,P⟩:=r.aE k;refine⟨V,V,_,a.af M,_,a.af P,?_⟩;exact(ih x (aq u) b (aq k) w d f tb ae m _ (E.le a.le) (Y.le a.le) (F.bE G b k)).aI (l.trans i) s λm m7 q N=>⟨_,rfl,λ_=>rA (a.trans q),λ_=>ab V _ (i.trans q)⟩
def J3(P:∀h∈e,h<c.size){A:List bA}(r:eM c d f A g){h:Prop}(Q:yB A g h W){B:Nat}{q:gU}(s:g[B]? =some q):lA 254 [.agg #[O.v d,O.v f],vi B] c e λl=>l.length<=q.cW.length:=by
 apply CX;simp -zeta only[aC,aB];intro a u;have y:J c a:=J.push _ _;have E:∀k∈[c.size],k<a.size:=by simp[a]
 have T:J a u:=J.push _ _;have N:GI e a u (.mk a.size 0 0 0) []:=GI.nil e a;clear_value u;clear_value a;have af:=r.jc.len;have aa:=av s;let⟨ae,ac,R,hw⟩:=Q.dB q (aq s);let⟨ah,w,k,X,m,I,Z,o,e2,K,L⟩:=r.jc.aE s;have ag:=m.len;refine eB (n:=q.cW.length) V (λt v M=>J a M/\∃l,GI e a M v l/\l.length<=t) ⟨T,[],N,ad _⟩ ?_;rintro t v S U μ ab ⟨H,l,p,D⟩ G
 have b:=y.trans H;refine⟨V,V,w,b.af o,λi=>?_,λi=>⟨v,l,rfl,p.cz (λ_ i=>i) y.size,V,b⟩⟩;simp only[ar]at i;let⟨z,F⟩:=cK q.cW t;refine⟨V,V,_,b.af K,_,b.af L,V,V,w,b.af o,V,V,z,(m.ext b).aE F,?_⟩;refine(AL q.body S d f k z h _ (r.le b.le) (I.le b.le) R).aI H E λY m4 j x=>⟨_,rfl,λ_=>⟨V,V,w,(b.trans j).af o,V,V,z,(m.ext (b.trans j)).aE F,?_⟩,λ_=>G V _ _ ⟨x,l,p.ext j,V⟩⟩;intro m5;exact GI.kV (p.ext j) (x.fz []) (λh D=>y.lt (P h D)) V λf m6 M C _ _=>⟨J.oR (x.aK _) C.ext E,G V _ _ ⟨C.ext,_,M,bF⟩⟩
end
section
variable{b:List Nat}{e:E}{d g:O}{f:List gU}{c:Prop}{W:Nat}
def yy(Q:∀c∈b,c<e.size){lt:O}{v:List bA}{H:List (List Int)}(y:eM e d g v f)(hW:W<=1000000)(hk:yB v f c W)(ag:pA e lt H)(aQ:H.length=f.length)(av:∀c∈H,c.length<=3):
 ve 252 [.agg #[O.v d,O.v g],O.v lt] e b v λz=>yB v z c W/\z.length=f.length:=by
 apply Dt
 simp -zeta only[aC,aB]
 intro j a2
 let⟨K,D⟩:=dF (a:=j) (c:=a2) rfl rfl
 have s1:j.size=e.size+1:=by simp[j]
 clear_value a2
 have az:=y.jc.len;have aS:=y.oN
 refine(fX (b:=j.size::b) (bP Q K.size (D _ aL)) (y.le K.le).bq y.types).mono λ_ Y⟨dd,h,ar,L⟩=>?_
 subst h
 refine⟨L.dy D,_,rfl,?_⟩
 intro s aJ al
 have u2:=K.trans L
 let⟨x5,B0,g0,s3,s5⟩:=ly (b:=s.size::j.size::b) iY.mono (d:=Y) (a:=s) (c:=aJ) (h:=al) rfl rfl rfl
 clear_value al
 have U:∀c∈[j.size,e.size],c<Y.size:=λc k=>L.lt (D c k)
 have ae:∀c∈j.size::b,c<Y.size:=λc k=>L.lt (bP Q K.size (D _ aL) c k)
 refine lg (R:=λl o M=>∃d g z,Value.agg #[O.v l,O.v o]=.agg #[O.v d,O.v g]/\eM (bH b M) d g v z/\(yB v z c W/\z.length=f.length)/\J e M) (r:=f.length) (f:=e) (b:=b) iY.mono bh bh Q ⟨V,U _ aL⟩ u2 s3 ar az V x5 B0 g0 (λ_ q=>q.params.length<=3/\q.cW.length<=3/\WB v f.length c q.params.length q.body/\q.body.w<=W) (λo Z aj m' h1 C l p r=>⟨o,Z,aj,rfl,⟨h1,C,y.types,V⟩,⟨Ib hk.je l p,l⟩,r⟩) λai M t aj aM μ au aP xM ac N aK=>?_
 let⟨q,hq⟩:=cK f ai au
 let⟨ay,aO,aE,hw⟩:=hk.dB q (aq hq)
 have v6:=u2.trans xM
 let⟨aU,aW,p,c1,c2,c3,e0,e1,e2,e3,e4⟩:=y.jc.aE hq
 have G:∀{am:Value}{p x:Nat},af e p x=some am->af M p x=some am:=λB=>v6.af B
 refine⟨V,V,_,G e0,_,G e1,_,G e2,_,G e3,_,G e4,?_⟩
 intro m7 l
 have hy:=ac.bn
 have aN:=N.lt
 have zM:=xM.size
 have x8:J M l:=(J.push M _).ah (ad _) _ _
 have s8:l.size=M.size+1:=by simp[l,m7,aw]
 clear_value l
 have F:∀c∈[M.size,j.size,e.size],c<l.size:=λc k=>by
  rcases List.mem_cons.1 k with h|h
  .omega
  .have:=U c h;omega
 have A:=v6.trans x8
 have r:∀{M1 M2:E},J l M1->J l M2->∀p,p<l.size->∀x,af M2 p x=af M1 p x:=λB h' p hb x=>aH (by rw[h'.same p hb,B.same p hb]) x
 have w:M.size<l.size:=V
 have X:s.size<l.size:=V
 let⟨ab,ah⟩:=cK H ai
 let⟨yt,aG,P⟩:=ag.aE ah
 have aF:=av ab (aq ah)
 have aR:=ag.len
 have T:∀{M':E},l.size<=M'.size->∀c∈t.D::s.size::j.size::b,c<M'.size:=λB c k=>by
  simp only[aV]at k;rcases k with h|h|h|h
  .omega
  .omega
  .have:=ae c (by simp[h]);omega
  .have:=ae c (by simp[h]);omega
 refine⟨t,(N.ext x8).cg 1,V,V,yt,A.af P,?_⟩
 refine(bO (t.D::s.size::j.size::b) (c1.ext A) V).aI (J.az l) F λp' _ m9 gp h o _=>⟨_,rfl,r (J.az _) o _ w _,r (J.az _) o _ w _,r (J.az _) o _ w _,((A.trans o).af P).trans (A.af P).symm,r (J.az _) o _ X _,?_⟩
 subst h
 refine(bO (t.D::s.size::j.size::b) (aG.ext (A.trans o)) V).aI o F λt' _ aI gt h an u=>⟨_,rfl,r o u _ w _,r o u _ w _,r o u _ w _,r o u _ X _,?_⟩
 subst h
 have z9:=o.size;have vH:=an.size
 refine(wy q.body (t.D::s.size::j.size::b) aI (T V) p (c3.le (A.trans u).le) V).aI u F λss b' ak aA h ao I=>⟨_,_,rfl,r u I _ w _,r u I _ X _,?_⟩
 subst h
 intro aT
 have aa:=x8.trans I
 have aX:=I.size
 have ax:ap (bH (t.D::s.size::j.size::b) ak) p' q.params:=(gp.done (T V) V).le ((an.trans ao).dh _)
 have aD:ap (bH (t.D::s.size::j.size::b) ak) t' ab:=(gt.done (T V) V).le (ao.dh _)
 exact Gr.box (g:=[.s .nil,.s .nil,.i 0,.s .nil,.i 0]) (j:=1) (y:=88) (i:=[.s dd,.s t]) (w:=⟨q.params,ab,q.aS,q.body⟩) iY.mono bh (ac.ext iY.mono aa) ((xM.trans aa).fz []) ⟨p',t',ss,rfl,ax,aD,aA⟩ V (N.ext aa) aL bh ⟨V,aL⟩ (λc k=>by have h1:=F c k;have C:=U c;simp only[aV]at k C;rcases k with h|h|h|h<;>first|omega|(have:=C (by simp[h]);omega)|simp at h) λZ m' g' C f' z' q'=>aK Z m' _ g' C f'.ext ⟨ay,aF,aE,hw⟩
def J8(hS:∀c∈b,c<e.size){A:List bA}(Z:eM e d g A f)(hW:W<=1000000)(hk:yB A f c W):ve 238 [.agg #[O.v d,O.v g]] e b A λt=>yB A t c W:=by
 apply C0;simp -zeta only[aC,aB];intro i a2;let⟨x2,G⟩:=dF (a:=i) (c:=a2) rfl rfl;have s1:i.size=e.size+1:=by simp[i]
 have s2:a2.size=e.size+2:=by simp[a2,s1]
 clear_value a2;have aG:=Z.jc.len;have aE:=Z.oN;have aj:∀c∈i.size::b,c<a2.size:=bP hS x2.size (G _ aL);have p:∀{M q:E},J a2 M->J a2 q->∀ac,af q e.size ac=af M e.size ac:=λu h' ac=>aH (by rw[h'.same _ (G _ aL),u.same _ (G _ aL)]) ac;have tail:∀(Q:E)(a:Nat)(z y:O)(C:List gU),J a2 Q->a2.size<=a->cJ Q a nA [.s z,.s y]->eM (bH (a::i.size::b) Q) z y A C->yB A C c W->
  ∃(I0:Int->E->Prop)(μ0:Int->E->Nat),I0 (0:Int) Q/\(∀(l:Int)(v:E),I0 l v->
   ((decide (l<=(12:Int)))=true->
    let U:E:=v.push (.cells (bu []) xY)
    ∃(w:O->Int->E->Prop)(μ1:O->Int->E->Nat),w (O.mk v.size 0 0 0) (0:Int) U/\(∀(s:O)(x:Int)(h:E),w s x h->
     ∃D:O,af h a 1=some (O.v D)/\
     ((decide (x<(D.len:Int)))=true->∃j:O,af h a 0=some (O.v j)/\∃k:O,af h a 1=some (O.v k)/\
      aN cp 254 [.agg #[O.v j,O.v k],vi x] h λY P=>eH [i.size,e.size] h P/\∃aa:O,Y=O.v aa/\
       let ae:E:=P.push (.cells (bu [.s aa]) xY)
       jT ae xY [.s O.nil] 24 s (O.mk P.size 0 1 1) λF B=>eH [i.size,e.size] ae B/\w F (cT (x+(1:Int))) B/\μ1 F (cT (x+(1:Int))) B<μ1 s x h)/\
     ((decide (x<(D.len:Int)))=false->∃j:O,af h a 0=some (O.v j)/\∃k:O,af h a 1=some (O.v k)/\
      aN cp 252 [.agg #[O.v j,O.v k],O.v s] h λH I=>eH [i.size,e.size] h I/\∃B:O,∃F:O,H=.agg #[O.v B,O.v F]/\fL I a 0 2/\
       let L:E:=ah I a 0 [.s B,.s F]
       eH [i.size,e.size] I L/\I0 (cT (l+(1:Int))) L/\μ0 (cT (l+(1:Int))) L<μ0 l v)))/\
   ((decide (l<=(12:Int)))=false->∃j:O,af v a 0=some (O.v j)/\∃k:O,af v a 1=some (O.v k)/\
    let ag:E:=ah v i.size 0 [.s j,.s k]
    ∃d g t,Value.agg #[O.v j,O.v k]=.agg #[O.v d,O.v g]/\eM (bH b ag) d g A t/\yB A t c W/\J e ag)):=by
  intro Q a z y C T au hB hN R
  refine dW (n:=13) V (λ_ M=>J a2 M/\∃z y C,cJ M a nA [.s z,.s y]/\eM (bH (a::i.size::b) M) z y A C/\yB A C c W) ⟨T,z,y,C,hB,hN,R⟩ ?_
  rintro aJ v az μ aD ⟨x6,z,y,C,H,N,K⟩ ay
  have aA:=H.lt
  have aI:=N.jc.len
  have aF:=N.oN
  refine⟨λu=>?_,λu=>?_⟩
  .simp only[ar]at u
   intro U
   have ao:J v U:=J.push _ _
   have g0:Zm [] v U (.mk v.size 0 0 0) []:=Gr.new _ (ad _) _ _ _
   refine eB (n:=C.length) V (λx s M=>J v M/\∃l,Zm [] v M s l/\l.length=x/\∀c∈l,c.length<=3) ⟨ao,[],g0,rfl,aL⟩ ?_
   rintro x s h I2 μ2 hf ⟨D,l,ab,ap,B⟩ am
   have u8:=x6.trans D
   have N8:=N.le (D.dh _)
   refine⟨y,(H.ext D).cg 1,dit (λF=>?_) λF=>?_⟩
   .let⟨X,hq⟩:=cK C x
    have an:=(K.dB X (aq hq)).2.1
    have j:=ab.bn
    refine⟨z,(H.ext D).cg 0,y,(H.ext D).cg 1,?_⟩
    refine(J3 (e:=[s.D]) bF (N8.le (bC _ _)) K hq).aI u8 G λaa av P ak aw x9 u9=>⟨_,rfl,?_⟩
    intro ae
    refine Gr.kV (g:=[.s .nil]) na.mono bh (ab.ext na.mono x9) ((D.trans x9).fz []) ⟨aa,rfl,ak.done bF V⟩ V λw q g' k _ _=>⟨J.oR (u9.aK _) (x6.trans k.ext) G,am V _ _ ⟨k.ext,_,g',bF,λal j=>?_⟩⟩
    rcases List.mem_append.1 j with j|j
    .exact B al j
    .simp at j;subst j;omega
   .refine⟨z,(H.ext D).cg 0,y,(H.ext D).cg 1,?_⟩
    have ak:pA h s l:=eU.le (ab.done na.mono aL bh V) (bC _ _) (na.le (bC _ _))
    have z8:=D.size;have z6:=x6.size
    refine(yy (b:=a::i.size::b) (λc k=>?_) (N8.le (bC _ _)) hW K ak V B).mono λ_ I⟨d2,Y,an,j,N2,⟨K2,_⟩,aa⟩=>?_
    .rcases List.mem_cons.1 k with j|j
     .omega
     .have:=aj c j;omega
    subst j
    have ae:=(H.ext D).ext aa
    refine⟨u8.Vo G aa,_,_,rfl,ae.fL aL,?_⟩
    intro L
    have al:∀P,P≠a->L[P]? =I[P]? :=λP hb=>bd _ _ _ _ hb
    refine⟨λc k=>al c (oh (G c k)),ay V _ ⟨(u8.trans aa).ah au _ _,d2,Y,an,cJ.ah (m:=I) (o:=0) (r:=[.s d2,.s Y]) ae,N2.le (cD aL λ_ u=>u),K2⟩⟩
  .refine⟨z,H.cg 0,y,H.cg 1,?_⟩
   intro ag
   exact⟨z,y,C,rfl,(N.le (iZ v λc k=>ai _ k)).le (cD aL λc k=>ai _ k),K,(x2.trans x6).ah V _ _⟩
 have av:∀X∈f,X.params.length<=3:=λX hq=>(hk.dB X hq).1;have al:∀(M:E)(L:List Nat)(K:Value->E->Prop),J a2 M->(∀c∈L,c<M.size)->(∀s l q,pA q s l->l.length=f.length->(∀c∈l,c.length<=3)->J M q->K (O.v s) q)->aN cp 253 [.agg #[O.v d,O.v g]] M λak U=>eH L M U/\K ak U:=λM L K T hL R=>
  (Gz (e:=[]) aL (Z.le (x2.trans T).le) av).mono λ_ q⟨s,l,j,I,F,B,Y⟩=>⟨Y.dy hL,j▸R s l q (eU.le I (bC _ _) (na.le (bC _ _))) F B Y⟩
 have cW:∀(M:E)(S' L:List Nat)(K:Value->E->Prop)(s:O)(l:List (List Int)),J a2 M->(∀c∈L,c<M.size)->(∀c∈S',c<M.size)->pA M s l->l.length=f.length->(∀c∈l,c.length<=3)->(∀x w t q,eM (bH S' q) x w A t->yB A t c W->J M q->K (.agg #[O.v x,O.v w]) q)->aN cp 252 [.agg #[O.v d,O.v g],O.v s] M λak U=>eH L M U/\K ak U:=λM S' L K s l T hL ap I F B R=>
  (yy ap (Z.le (x2.trans T).le) hW hk I F B).mono λ_ q⟨x,w,t,j,N,⟨K1,_⟩,Y⟩=>⟨Y.dy hL,j▸R x w t q N K1 Y⟩
 have am:∀{M:E}{a:Nat},J a2 M->a<M.size->∀c∈a::i.size::b,c<M.size:=λu hb c k=>by
  have:=u.size;rcases List.mem_cons.1 k with j|j
  .omega
  .have:=aj c j;omega
 have ag:∀{M:E}{a:Nat},J a2 M->a<M.size->∀c∈[a,i.size,e.size],c<M.size:=λu hb c k=>by
  rcases List.mem_cons.1 k with j|j
  .omega
  .exact u.lt (G c j)
 refine⟨al a2 _ _ (J.az _) G λs l ab I F B h=>⟨_,rfl,p (J.az _) h _,p (J.az _) h _,⟨?_,?_⟩⟩,?_⟩
 .refine cW ab (i.size::b) _ _ s l h (λc k=>h.lt (G c k)) (λc k=>h.lt (aj c k)) I F B λx w t m3 N K P=>⟨_,_,rfl,?_⟩;have D:=h.trans P;intro m4;have u4:J a2 m4:=D.aK _;refine⟨p D u4 _,p D u4 _,p D u4 _,p D u4 _,?_⟩;intro m5;have aa:J m3 m5:=(J.push m3 _).ah (ad _) _ _;exact tail m5 m3.size x w t (D.trans aa) D.size (cJ.ah (m:=m4) (o:=0) (r:=[.s x,.s w]) (cJ.push m3 _ _)) (N.le (aa.bH λc k=>by
   rcases List.mem_cons.1 k with j|j
   .exact Or.inr V
   .exact Or.inl j)) K
 .intro aa;have D:J a2 aa:=h.aK _;refine⟨p h D _,p h D _,p h D _,p h D _,?_⟩;refine cW aa (ab.size::i.size::b) _ _ s l D (ag D (by simp[aa])) (am D (by simp[aa])) (pA.ext (J.push _ _) I) F B λx w t ae N K P=>⟨_,_,rfl,?_⟩;intro an;exact tail an ab.size x w t ((D.trans P).ah h.size _ _) h.size (cJ.ah (m:=ae) (o:=0) (r:=[.s x,.s w]) ((cJ.push ab _ _).ext P)) (N.le (cD aL λ_ u=>u)) K
 .intro aa;have D:J a2 aa:=J.push _ _;refine⟨p (J.az _) D _,p (J.az _) D _,p (J.az _) D _,p (J.az _) D _,?_⟩;refine al aa _ _ D (ag D (by simp[aa])) λs l ao I F B h=>⟨_,rfl,p D (D.trans h) _,p D (D.trans h) _,?_⟩;have ae:=D.trans h;have an:a2.size<ao.size:=h.lt (by simp[aa]);refine cW ao (a2.size::i.size::b) _ _ s l ae (ag ae an) (am ae an) I F B λx w t aw N K P=>⟨_,_,rfl,?_⟩;intro ax;exact tail ax a2.size x w t ((ae.trans P).ah (ad _) _ _) (ad _) (cJ.ah (m:=aw) (o:=0) (r:=[.s x,.s w]) ((cJ.push a2 _ _).ext (h.trans P))) (N.le (cD aL λ_ u=>u)) K
end
section
variable{w:Int}{r:List Int}
structure bN where
 aQ:Int
 kD:Int
 aF:List Int
structure aX where
 fw:Int
 pc:Int
 dst:Int
 ak:List Int
 aR:List Int
 aZ:List Int
structure St where
 cx:Int
 value:Int
 bz:Int
 dX:Int
 aT:List Int
 heap:List bN
 an:List aX
def aE(l:List Int)(i:Int):Int:=l.getD i.toNat 0
def gJ(l:List Int)(i:Int)(v:Int):List Int:=l.set i.toNat v
def ix(w:Int):Nat:=(w -1000).toNat
def gR(w:Int):Prop:=-999<=w/\w<=999
def fQ(h:List bN)(a:Nat):Prop:=∃c,h[a]? =some c/\0<c.aQ
def fW(h:List bN)(w:Int):Prop:=1000<=w/\fQ h (ix w)
def qJ(h:List bN)(w:Int):Prop:=gR w\/fW h w
def ji:bN:=⟨0,0,[]⟩
def aM(h:List bN)(w:Int):bN:=(h[ix w]?).getD ji
def aac:dA:=⟨[],[],0,0,[]⟩
def dQ(a:cU)(n:Int):dA:=(a.cE[n.toNat]?).getD aac
def cr(a:cU):Int:=(eT a.bq).length
def eD:List Int->Nat->Int
 |[],_=>0
 |w::b,a=>(if w=1000+(a:Int)then 1 else 0)+eD b a
def eA:List bN->Nat->Int
 |[],_=>0
 |c::h,a=>eD c.aF a+eA h a
def dg:List Int->List Int->Nat->Int
 |r::c,o::b,a=>(if r=1000+(a:Int)then o else 0)+dg c b a
 |_,_,_=>0
def fD:List aX->Nat->Int
 |[],_=>0
 |f::b,a=>dg f.ak f.aR a+fD b a
def dI:List aX->Nat->Int
 |[],_=>0
 |f::b,a=>eD f.aZ a+dI b a
def nK(a:cU)(x:Instr)(k:Nat):Bool:=(dQ a x.bQ).cW.any (λy=>y==(k:Int))
def iN(a:cU)(x:Instr):Nat->List Int->List Int
 |_,[]=>[]
 |k,r::b=>if nK a x k then iN a x (k+1) b else r::iN a x (k+1) b
def fI(a:cU)(x:Instr):Nat->List Int->List Int
 |_,[]=>[]
 |k,r::b=>if nK a x k then r::fI a x (k+1) b else fI a x (k+1) b
def bR(a:cU)(x:Instr):List Int:=
 if x.op=15\/x.op=6\/x.op=10\/x.op=11\/x.op=18\/x.op=23 then x.args
 else if x.op=16\/x.op=17 then x.args.take 1
 else if x.op=9\/x.op=24 then iN a x 0 x.args
 else[]
def bB(ak aR:List Int):List Int->List Int
 |[]=>aR
 |r::a=>bB ak (if 1000<=aE ak r then gJ aR r (aE aR r -1)else aR) a
def cO(f:aX)(a:List Int):List Int:=a.map (aE f.ak)
def ln(l:List Int):List Int:=l.filter (λw=>decide (1000<=w))
def lD(h:List bN)(a:List Int):Prop:=∀w∈a,1000<=w->(aM h w).aQ+eD a (ix w)<=999999
def Fy(h:List bN)(f:aX)(x:Instr):Prop:=
 let w:=aE f.ak (aE x.args 0)
 fW h w/\ln (aM h w).aF=cO f (x.args.drop 1)/\((aM h w).aQ=1\/lD h (aM h w).aF)/\(x.op=17->aE f.aZ (aE x.args 0)=0)
def vK(a:cU)(h:List bN)(w:Int):Prop:=
 fW h w/\0<=(aM h w).kD -cr a/\(aM h w).kD -cr a<a.cE.length/\
  (dQ a ((aM h w).kD -cr a)).params.length=(aM h w).aF.length+1/\(dQ a ((aM h w).kD -cr a)).cW.length=0/\
  ((aM h w).aQ=1\/lD h (aM h w).aF)
def FA(h:List bN)(f:aX)(x:Instr):Prop:=
 x.bZ≠0->aE f.aZ (x.bZ -1)≠0->(aM h (aE f.aZ (x.bZ -1))).aF.length=x.args.length
def KD(a:cU)(h:List bN)(f:aX)(x:Instr):Prop:=∀r∈fI a x 0 x.args,1000<=aE f.ak r->fW h (aE f.ak r)
def Sr(l:List Int):Prop:=∀n∈l,n=0
structure lj(im:cU)(s:St)(f:aX)(x:Instr)(aR:List Int):Prop where
 nn:∀o∈aR,0<=o
 dst:mf x.op->aE aR x.dst<=0
 nV:(x.op=1\/x.op=2\/x.op=3\/x.op=4\/x.op=5\/x.op=20)->∀r∈x.args,aE f.ak r<1000
 js:x.op=6->FA s.heap f x
 cW:(x.op=9\/x.op=24)->KD im s.heap f x
 zero:(x.op=24\/x.op=23)->Sr aR/\Sr f.aZ
 ret:x.op=23->1<s.an.length\/aE f.ak (aE x.args 0)<1000
 apply:x.op=11->vK im s.heap (aE f.ak (aE x.args 0))
 VF:x.op=14->fW s.heap (aE f.ak (aE x.args 0))/\(aM s.heap (aE f.ak (aE x.args 0))).aQ<999999
 drop:x.op=15->1000<=aE f.ak (aE x.args 0)
 NL:(x.op=16\/x.op=17)->Fy s.heap f x
 load:x.op=19->fW s.heap (aE f.ak (aE x.args 0))/\x.bQ<(aM s.heap (aE f.ak (aE x.args 0))).aF.length
 Fp:x.op=21->fW s.heap (aE f.ak (aE x.args 0))/\(aM s.heap (aE f.ak (aE x.args 0))).kD∈cA im.bq x.bQ
def FI(n:Int):Int:=if n< -999 then -999 else if 999<n then 999 else n
def OU(c a b:Int):Int:=
 if c=1 then FI (a+b)else if c=2 then FI (a -b)else if c=3 then FI (a*b)else if c=4/\a<b then 1 else 0
def dH:List bN->Nat
 |[]=>0
 |c::h=>if c.aQ=0 then 0 else dH h+1
def js(h:List bN)(a:Nat)(c:bN):List bN:=if a=h.length then h++[c]else h.set a c
def mO(h:List bN)(w:Int):List bN:=h.set (ix w) {aM h w with aQ:=(aM h w).aQ+1}
def ft(h:List bN)(w:Int):List bN:=h.set (ix w) {aM h w with aQ:=(aM h w).aQ -1}
def jt(h:List bN):List Int->List bN
 |[]=>h
 |w::a=>jt (mO h w) a
def jw(h:List bN):Nat->Nat
 |0=>0
 |n+1=>match h[n]? with
  |some c=>if c.aQ=0 then jw h n else n+1
  |none=>jw h n
def ny(h:List bN):List bN:=h.take (jw h h.length)
def Cq:List bN->Nat
 |[]=>0
 |c::h=>(if 0<c.aQ then c.aQ.toNat+c.aF.length else 0)+Cq h
def kJ:∀{e:List bN}{f:Nat}{b d:bN},e[f]? =some b->Cq (e.set f d)+(if 0<b.aQ then b.aQ.toNat+b.aF.length else 0)=Cq e+(if 0<d.aQ then d.aQ.toNat+d.aF.length else 0)
 |[],f,b,d,e=>by simp at e
 |i::e,0,b,d,g=>by simp at g;subst g;simp only[iH,Cq];omega
 |i::e,f+1,b,d,g=>by
  have:=kJ (e:=e) (f:=f) (b:=b) (d:=d) (by simpa using g);simp only[jy,Cq];omega
def bS{h:List bN}(b:fW h w):h[ix w]? =some (aM h w)/\0<(aM h w).aQ:=by
 obtain⟨_,d,a,c⟩:=b;simp[aM,a,c]
open Classical in
noncomputable def gX (h:List bN) (c:List Int):List bN:=
 match c with
 |[]=>h
 |w::r=>
  if b:fW h w then
   if a:(aM h w).aQ=1 then gX (h.set (ix w) ji) ((aM h w).aF.reverse++r)
   else gX (ft h w) r
  else gX h r
termination_by Cq h+c.length
decreasing_by
 .let⟨e,a⟩:=bS b
  have:=kJ (d:=ji) e
  simp only[ji,ao a]at this
  simp[ji]
  simp at this
  omega
 .let⟨e,a⟩:=bS b
  have b:=kJ (d:={aM h w with aQ:=(aM h w).aQ -1}) e
  simp only[ao a]at b
  rw[ao V]at b
  simp[ft]
  omega
 .simp
def tc(h:List bN):gX h []=h:=by rw[gX]
def td{h:List bN}(b:fW h w)(a:(aM h w).aQ=1):gX h (w::r)=gX (h.set (ix w) ji) ((aM h w).aF.reverse++r):=by
 rw[gX,Tc b,Tc a]
def qC{h:List bN}(b:fW h w)(a:(aM h w).aQ≠1):gX h (w::r)=gX (ft h w) r:=by
 rw[gX,Tc b,dif_neg a]
def qD{h:List bN}(a:¬fW h w):gX h (w::r)=gX h r:=by
 rw[gX,dif_neg a]
def aX.put(f:aX)(r w o:Int):aX:={f with ak:=gJ f.ak r w,aR:=gJ f.aR r o}
def gN(w:Int):Int:=if 1000<=w then 1 else 0
def dG(aR:List Int):List Int->List Int
 |[]=>aR
 |r::a=>dG (gJ aR r (aE aR r+1)) a
def dm(n:Nat):List Int:=List.replicate n 0
def dO(cW:List Int):Nat->List Int->List Int
 |_,[]=>[]
 |k,w::a=>(if cW.any (λy=>y==(k:Int))then 0 else gN w)::dO cW (k+1) a
def bX(a:cU)(g c:Int)(b:List Int):aX:=
 ⟨g,0,c,b++dm ((dQ a g).ak.toNat -b.length),dO (dQ a g).cW 0 b++dm ((dQ a g).ak.toNat -b.length),dm (dQ a g).ak.toNat⟩
open Classical in
noncomputable def apart (h:List bN) (w:Int):List bN:=
 if(aM h w).aQ=1 then ny (h.set (ix w) ji)else jt (ft h w) (ln (aM h w).aF)
def tv(l:List Int)(n:Int):Nat:=l.findIdx (λy=>y==n)
open Classical in
noncomputable def fu (b:cU) (s:St) (a:List aX) (f:aX) (x:Instr) (aR:List Int):St:=
 let g:aX:={f with aR:=aR,pc:=f.pc+1}
 let c:=aE x.args 0
 let w:=aE f.ak c
 if x.op=0 then{s with an:=a++[g.put x.dst x.bQ 0]}
 else if x.op=1\/x.op=2\/x.op=3\/x.op=4 then{s with an:=a++[g.put x.dst (OU x.op w (aE f.ak (aE x.args 1))) 0]}
 else if x.op=5 then{s with aT:=s.aT++[w],an:=a++[g.put x.dst w 0]}
 else if x.op=6 then
  if x.bZ≠0/\aE f.aZ (x.bZ -1)≠0 then
   {s with heap:=s.heap.set (ix (aE f.aZ (x.bZ -1))) ⟨1,x.bQ,cO f x.args⟩,an:=a++[{g with aZ:=gJ f.aZ (x.bZ -1) 0}.put x.dst (aE f.aZ (x.bZ -1)) 1]}
  else{s with heap:=js s.heap (dH s.heap) ⟨1,x.bQ,cO f x.args⟩,an:=a++[g.put x.dst (1000+dH s.heap) 1]}
 else if x.op=10 then{s with heap:=js s.heap (dH s.heap) ⟨1,cr b+x.bQ,cO f x.args⟩,an:=a++[g.put x.dst (1000+dH s.heap) 1]}
 else if x.op=14 then{s with heap:=mO s.heap w,an:=a++[{g with aR:=gJ aR c (aE aR c+1)}]}
 else if x.op=15 then{s with heap:=ny (gX s.heap [w]),an:=a++[g]}
 else if x.op=16\/x.op=17 then
  let d:={g with aR:=dG aR (x.args.drop 1)}
  if(aM s.heap w).aQ=1/\x.op=17 then{s with heap:=s.heap.set (ix w) ⟨-1,0,dm (aM s.heap w).aF.length⟩,an:=a++[{d with aZ:=gJ f.aZ c w}]}
  else{s with heap:=apart s.heap w,an:=a++[d]}
 else if x.op=18 then{s with an:=a++[g.put x.dst w (gN w)]}
 else if x.op=19 then{s with an:=a++[g.put x.dst (aE (aM s.heap w).aF x.bQ) 0]}
 else if x.op=20 then{s with an:=a++[{g with pc:=if w=0 then x.bQ else f.pc+1}]}
 else if x.op=21 then{s with an:=a++[{g with pc:=aE x.eN (tv (cA b.bq x.bQ) (aM s.heap w).kD)}]}
 else if x.op=22 then{s with an:=a++[{g with pc:=x.bQ}]}
 else if x.op=9 then{s with bz:=s.bz+1,an:=a++[g,bX b x.bQ x.dst (cO f x.args)]}
 else if x.op=24 then{s with bz:=s.bz+1,an:=a++[bX b x.bQ f.dst (cO f x.args)]}
 else if x.op=11 then
  {s with bz:=s.bz+1,heap:=apart s.heap w,an:=a++[g,bX b ((aM s.heap w).kD -cr b) x.dst ((aM s.heap w).aF++[aE f.ak (aE x.args 1)])]}
 else -- 23
  match a.getLast? with
  |none=>{s with cx:=0,value:=w,an:=[]}
  |some p=>{s with an:=a.dropLast++[p.put f.dst w (gN w)]}
def nl(a:Int):Prop:=a=9\/a=11\/a=24
instance(a:Int):Decidable (nl a):=by unfold nl;infer_instance
def cB(a:cU)(f:aX):Instr:=((dQ a f.fw).dv[f.pc.toNat]?).getD ⟨0,0,0,0,[],[]⟩
open Classical in
noncomputable def kC (a:cU) (s:St):St:=
 if s.cx≠3 then s else
 match s.an.getLast? with
 |none=>s
 |some f=>
  if nl (cB a f).op/\s.bz=s.dX then{s with cx:=1}
  else if lj a s f (cB a f) (bB f.ak f.aR (bR a (cB a f)))then
   fu a s s.an.dropLast f (cB a f) (bB f.ak f.aR (bR a (cB a f)))
  else{s with cx:=2}
end
section
variable{f b:Nat}{h g:List bN}{e e':Nat->Int}{w:Int}{c d:bN}
def mj:∀(l r:List Int)(f:Nat),eD (l++r) f=eD l f+eD r f
 |[],r,f=>by simp[eD]
 |w::l,r,f=>by simp only[db,eD,mj l r f];omega
def Al:∀(l:List Int)(f:Nat),eD l.reverse f=eD l f
 |[],f=>rfl
 |w::l,f=>by simp only[Qy,mj,Al l f,eD];omega
def iL:∀(l:List Int)(f:Nat),0<=eD l f
 |[],f=>by simp[eD]
 |w::l,f=>by have:=iL l f;simp only[eD];split<;>omega
def nY:∀{l:List Int}{f:Nat},(1000+(f:Int))∉l->eD l f=0
 |[],f,_=>rfl
 |w::l,f,h=>by
  simp only[aV,vG]at h;simp only[eD,nY h.2];rw[ae (λe=>h.1 e.symm)];rfl
def uK:∀{l:List Int}{f:Nat},(1000+(f:Int))∈l->1<=eD l f
 |[],f,h=>by simp at h
 |w::l,f,h=>by
  simp only[eD];rcases List.mem_cons.1 h with rfl|h
  .rw[ao rfl];have:=iL l f;omega
  .have:=uK h;split<;>omega
def OR{l:List Int}(h:0<eD l f):(1000+(f:Int))∈l:=
 dS λa=>by rw[nY a]at h;omega
def SI(n:Nat)(f:Nat):eD (dm n) f=0:=nY λh=>by have:=Vz h;omega
def wi:∀(l:List Int)(f:Nat),eD (ln l) f=eD l f
 |[],f=>rfl
 |w::l,f=>by
  have:=wi l f;simp only[ln]at this⊢;rw[List.filter_cons];split
  .simp only[eD,this]
  .rename_i h;simp only[eD,this];rw[ae (λe=>h bF)];omega
def kK:∀(l:List Int)(f:Nat),eD l f<=l.length
 |[],f=>by simp[eD]
 |w::l,f=>by have:=kK l f;simp only[eD,ba];split<;>omega
def uN:∀(h k:List bN)(f:Nat),eA (h++k) f=eA h f+eA k f
 |[],k,f=>by simp[eA]
 |c::h,k,f=>by simp only[db,eA,uN h k f];omega
def rf:∀(h:List bN)(f:Nat),0<=eA h f
 |[],f=>by simp[eA]
 |c::h,f=>by have:=rf h f;have:=iL c.aF f;simp only[eA];omega
def Ap:∀{h:List bN}{f:Nat}{c:bN}(e:bN)(_:h[f]? =some c)(b:Nat),eA (h.set f e) b=eA h b -eD c.aF b+eD e.aF b
 |[],f,c,e,h,b=>by simp at h
 |d::h,0,c,e,g,b=>by simp at g;subst g;simp only[iH,eA];omega
 |d::h,f+1,c,e,g,b=>by
  have:=Ap (h:=h) (f:=f) e (by simpa using g) b;simp only[jy,eA,this];omega
def LC:∀{h:List bN}{f:Nat},0<eA h f->∃c∈h,(1000+(f:Int))∈c.aF
 |[],f,h=>by simp[eA]at h
 |c::h,f,e=>by
  simp only[eA]at e;rcases dT (0<eD c.aF f)with b|b
  .exact⟨c,bg,OR b⟩
  .let⟨d,hd,g⟩:=LC (h:=h) (f:=f) (oh (iL c.aF f));exact⟨d,ai _ hd,g⟩
def Sa:∀{h:List bN}{c:bN}(_:c∈h)(f:Nat),eD c.aF f<=eA h f
 |[],c,a,f=>by simp at a
 |d::h,c,a,f=>by
  simp only[eA];rcases List.mem_cons.1 a with rfl|a
  .have:=rf h f;omega
  .have:=Sa a f;have:=iL d.aF f;omega
structure oI(h:List bN)(c:bN):Prop where
 fl:c.aF.length<=3
 lo: -1<=c.aQ
 hi:c.aQ<=999999
 wY:c.aQ<1->c.kD=0/\(∀w∈c.aF,w=0)/\(c.aQ=0->c.aF=[])
 oZ:0<c.aQ->(∀w∈c.aF,qJ h w)/\0<=c.kD/\c.kD<=99
def Td(h:List bN):Prop:=∃a:Nat->Nat,∀(i:Nat)(c:bN),h[i]? =some c->∀w∈c.aF,1000<=w->a (ix w)<a i
structure fO(h:List bN)(e:Nat->Int):Prop where
 cell:∀c∈h,oI h c
 MD:Td h
 ex:∀(f:Nat)(c:bN),h[f]? =some c->0<c.aQ->c.aQ=eA h f+e f
 nn:∀f,0<=e f
 lv:∀f,0<e f->fQ h f
def fO.congr(c:fO h e)(a:∀b,e' b=e b):fO h e':=by
 have:e'=e:=funext a;rw[this];exact c
def lL(f:Nat):ix (1000+(f:Int))=f:=by unfold ix;omega
def iu(h:1000<=w):1000+((ix w:Nat):Int)=w:=by unfold ix;omega
def Q6{v:Int}(a:1000<=v)(b:1000<=w)(h:ix v=ix w):v=w:=by rw[<-iu a,<-iu b,h]
def fO.field(i:fO h e)(g:c∈h)(f:w∈c.aF)(j:1000<=w):fW h w:=by
 have d:=i.cell c g;rcases dT (0<c.aQ)with b|b
 .rcases(d.oZ b).1 w f with a|a
  .have:=a.2;omega
  .exact a
 .have:=(d.wY V).2.1 w f;omega
def fO.Xn(d:fO h e)(g:¬fQ h f):eA h f=0:=by
 rcases dT (0<eA h f)with a|a
 .let⟨c,b,i⟩:=LC a;have:=(d.field b i V).2;rw[lL]at this;exact absurd this g
 .have:=rf h f;omega
def fO.YF(a:fO h e)(c:¬fQ h f):e f=0:=by
 have:=a.nn f;rcases dT (0<e f)with b|b
 .exact absurd (a.lv f b) c
 .omega
def iK(a:b≠f):(h.set f c)[b]? =h[b]? :=by rw[cv (λe=>a e.symm)]
def eK(hd:h[f]? =some d):(h.set f c)[f]? =some c:=by
 rw[dt (av hd)]
def fQ.ne(a:b≠f):fQ (h.set f c) b<->fQ h b:=by unfold fQ;rw[iK a]
def fQ.yO(hd:h[f]? =some d):fQ (h.set f c) f<->0<c.aQ:=by
 unfold fQ;rw[eK hd];simp
def qJ.mono(c:qJ h w)(b:1000<=w->fQ h (ix w)->fQ g (ix w)):qJ g w:=by
 rcases c with a|a
 .exact Or.inl a
 .exact Or.inr ⟨a.1,b a.1 a.2⟩
def oI.mono{h g:List bN}{c:bN}(a:oI h c)(e:0<c.aQ->∀w∈c.aF,1000<=w->fQ h (ix w)->fQ g (ix w)):oI g c:=
 ⟨a.fl,a.lo,a.hi,a.wY,λb=>⟨λw d=>((a.oZ b).1 w d).mono (e b w d),(a.oZ b).2⟩⟩
def nX{x:bN}(i:x∈h.set f c):x=c\/∃b,b≠f/\h[b]? =some x:=by
 let⟨b,a⟩:=List.mem_iff_getElem?.1 i;by_cases e:b=f
 .subst e;rw[List.getElem?_set_self']at a;cases g:h[b]? with
  |none=>simp[g]at a
  |some d=>simp[g]at a;exact Or.inl a.symm
 .rw[iK e]at a;exact Or.inr ⟨b,e,a⟩
def fO.Kv(j:fO h e)(g:h[f]? =some c)(i:0<c.aQ){n:Int}(v:0<n)(u:n<=999999)
 (m:∀b,e' b=e b+if b=f then n -c.aQ else 0)(s:0<=e' f):fO (h.set f {c with aQ:=n}) e':=by
 have p:∀b,fQ (h.set f {c with aQ:=n}) b<->fQ h b:=λb=>by
  by_cases a:b=f
  .subst a;rw[fQ.yO g];exact⟨λ_=>⟨c,g,i⟩,λ_=>v⟩
  .exact fQ.ne a
 have x:∀b,eA (h.set f {c with aQ:=n}) b=eA h b:=λb=>by rw[Ap _ g];simp only[];omega
 refine⟨λA y=>?_,?_,λb d hd t=>?_,λb=>?_,λb l=>?_⟩
 .rcases nX y with rfl|⟨b,_,l⟩
  .have q:=j.cell c (aq g)
   exact⟨q.fl,by simp only[];omega,u,λr=>by simp only[]at r;omega,λ_=>⟨λw k=>((q.oZ i).1 w k).mono λ_ o=>(p _).2 o,(q.oZ i).2⟩⟩
  .exact(j.cell A (aq l)).mono λ_ w _ _ o=>(p _).2 o
 .let⟨z,r⟩:=j.MD
  refine⟨z,λo d hd w k i=>?_⟩
  by_cases q:o=f
  .subst q;rw[eK g]at hd;simp at hd;subst hd;exact r o c g w k i
  .rw[iK q]at hd;exact r o d hd w k i
 .rw[x,m]
  by_cases a:b=f
  .subst a;rw[eK g]at hd;simp at hd;subst hd
   have:=j.ex b c g i
   simp only[ao];omega
  .rw[iK a]at hd
   have:=j.ex b d hd t
   rw[ae a];omega
 .by_cases a:b=f
  .subst a;exact s
  .rw[m,ae a];have:=j.nn b;omega
 .rw[p]
  by_cases a:b=f
  .subst a;exact⟨c,g,i⟩
  .rw[m,ae a]at l;exact j.lv b V
def fO.Q3(j:fO h e)(m:h[f]? =some c)(I:c.aQ=1)(J:0<e f){c':bN}(C: -1<=c'.aQ)(L:c'.aQ<1)(G:c'.kD=0)
 (r:∀w∈c'.aF,w=0)(B:c'.aF.length<=3)(A:c'.aQ=0->c'.aF=[])
 (p:∀b,e' b=e b -(if b=f then 1 else 0)+eD c.aF b):fO (h.set f c') e':=by
 have o:=j.ex f c m V
 have O:=rf h f
 have N:eA h f=0:=V
 have K:e f=1:=V
 have u:∀x∈h,(1000+(f:Int))∉x.aF:=λx o g=>by
  have:=Sa o f;have:=uK g;omega
 have M:eD c.aF f=0:=nY (u c (aq m))
 have E:∀b,eD c'.aF b=0:=λb=>nY λg=>by have:=r _ g;omega
 have t:∀b,b≠f->fQ h b->fQ (h.set f c') b:=λb i q=>(fQ.ne i).2 q
 have D:∀x∈h,∀w∈x.aF,1000<=w->ix w≠f:=λx o w g n y=>by
  have:=iu n;rw[y]at this;rw[<-this]at g;exact u x o g
 refine⟨λx o=>?_,?_,λb d hd z=>?_,λb=>?_,λb k=>?_⟩
 .rcases nX o with rfl|⟨b,_,k⟩
  .exact⟨B,C,V,λ_=>⟨G,r,A⟩,λn=>V⟩
  .exact(j.cell x (aq k)).mono λ_ w g n q=>t _ (D x (aq k) w g n) q
 .let⟨H,F⟩:=j.MD
  refine⟨H,λv d hd w g n=>?_⟩
  by_cases s:v=f
  .subst s;rw[eK m]at hd;simp at hd;subst hd;have:=r w g;omega
  .rw[iK s]at hd;exact F v d hd w g n
 .rw[Ap _ m,E,p]
  by_cases i:b=f
  .subst i;rw[eK m]at hd;simp at hd;subst hd;omega
  .rw[iK i]at hd
   have:=j.ex b d hd z
   rw[ae i];omega
 .rw[p]
  have:=j.nn b
  have:=iL c.aF b
  split
  .rename_i i;subst i;omega
  .omega
 .rw[p]at k
  by_cases i:b=f
  .subst i;rw[ao rfl]at k;omega
  .rw[ae i]at k
   refine t b i ?_
   rcases dT (0<e b)with s|s
   .exact j.lv b s
   .have:=j.nn b
    have g:=OR (l:=c.aF) (f:=b) V
    have:=(j.field (aq m) g V).2
    rwa[lL]at this
def fO.make(l:fO h e){v:Int}{c:List Int}(r:¬fQ h f)(p:g[f]? =some ⟨1,v,c⟩)(o:∀b,b≠f->g[b]? =h[b]?)
 (E:∀b,eA g b=eA h b+eD c b)(z:∀w∈c,qJ h w)(C:c.length<=3)(G:0<=v/\v<=99)(x:∀b,eD c b<=e b)
 (t:∀b,e' b=e b -eD c b+if b=f then 1 else 0):fO g e':=by
 have u:∀b,fQ h b->fQ g b:=λb i=>by
  by_cases a:b=f
  .subst a;exact absurd i r
  .unfold fQ;rw[o b a];exact i
 have L:=l.YF r
 have N:=l.Xn r
 have M:eD c f=0:=by have:=iL c f;have:=x f;omega
 refine⟨λK I=>?_,?_,λb d hd B=>?_,λb=>?_,λb j=>?_⟩
 .let⟨b,j⟩:=List.mem_iff_getElem?.1 I
  by_cases a:b=f
  .subst a;rw[p]at j;simp at j;subst j
   exact⟨C,aL,aL,sx,λ_=>⟨λw n=>(z w n).mono λ_ i=>u _ i,G⟩⟩
  .rw[o b a]at j
   exact(l.cell K (aq j)).mono λ_ w _ _ i=>u _ i
 .let⟨s,F⟩:=l.MD
  refine⟨λk=>if k=f then(c.map λw=>s (ix w)).sum+1 else s k,λk d hd w n y=>?_⟩
  have H:ix w≠f:=λA=>by
   have D:fW h w:=by
    by_cases m:k=f
    .subst m;rw[p]at hd;simp at hd;subst hd;rcases z w n with q|q
     .have:=q.2;omega
     .exact q
    .rw[o k m]at hd;exact l.field (aq hd) n y
   exact r (A▸D.2)
  simp only[ae H]
  by_cases m:k=f
  .subst m;rw[p]at hd;simp at hd;subst hd
   rw[ao rfl]
   have:∀(q:List Int),w∈q->s (ix w)<=(q.map λw=>s (ix w)).sum:=by
    intro q i;induction q with
    |nil=>simp at i
    |cons O q J=>
     simp only[cN,List.sum_cons];rcases List.mem_cons.1 i with rfl|i
     .omega
     .have:=J i;omega
   have:=this c n;omega
  .rw[ae m];rw[o k m]at hd;exact F k d hd w n y
 .rw[E,t]
  by_cases a:b=f
  .subst a;rw[p]at hd;simp at hd;subst hd
   rw[ao rfl];simp only[];omega
  .rw[o b a]at hd
   have:=l.ex b d hd B
   rw[ae a];omega
 .rw[t];have:=x b;split<;>omega
 .rw[t]at j
  by_cases a:b=f
  .subst a;exact⟨_,p,aL⟩
  .rw[ae a]at j
   exact u b (l.lv b (oh (iL c b)))
def fO.gX:∀(n:Nat)(h:List bN)(o:List Int)(e:Nat->Int),Cq h+o.length<=n->fO h (λb=>e b+eD o b)->(∀b,0<=e b)->fO (gX h o) e
 |n,h,[],e,_,a,_=>by rw[tc];exact a.congr λb=>by simp[eD]
 |n,h,w::r,e,f,a,d=>by
  rcases dT (fW h w)with c|c
  .let⟨g,m⟩:=bS c;have s:=iu c.1;have l:∀b,eD (w::r) b=(if b=ix w then 1 else 0)+eD r b:=λb=>by
    simp only[eD];congr 1;by_cases k:b=ix w
    .subst k;rw[ao s.symm,ao rfl]
    .rw[ae k,ae (λi=>k (by rw[i,lL]))]
   have p:=kJ (d:=ji) g;by_cases j:(aM h w).aQ=1
   .rw[td c j];simp only[ao m,ji]at p;simp at p;cases n with
    |zero=>simp at f
    |succ n=>
    refine fO.gX n _ _ e ?_ (fO.Q3 a g j ?_ bh bh rfl (by simp[ji]) (by simp[ji]) (λ_=>rfl) λb=>?_) d
    .simp[ji]at f⊢;omega
    .simp only[l,ao];have:=d (ix w);have:=iL r (ix w);omega
    .simp only[l,mj,Al];omega
   .rw[qC c j];have q:=kJ (d:={aM h w with aQ:=(aM h w).aQ -1}) g;simp only[ao m]at q;rw[ao V]at q;have t:=(a.cell _ (aq g)).hi;cases n with
    |zero=>simp at f
    |succ n=>
    refine fO.gX n _ _ e ?_ (fO.Kv a g m V V (λb=>?_) ?_) d
    .simp only[ba]at f;simp only[ft];omega
    .simp only[l];split<;>omega
    .have:=d (ix w);have:=iL r (ix w);omega
  .rw[qD c];cases n with
   |zero=>simp at f
   |succ n=>
   refine fO.gX n _ _ e (by simp at f;omega) (a.congr λb=>?_) d;simp only[eD];rw[ae]
   .omega
   .intro i;have:=a.lv b (by simp only[eD,ao i];have:=d b;have:=iL r b;omega);exact c ⟨V,by rw[i,lL];exact this⟩
def tW(h:List bN):∀n,jw h n<=n
 |0=>ad _
 |n+1=>by
  simp only[jw];have:=tW h n;split
  .split<;>omega
  .omega
def tV(h:List bN):∀(n k:Nat)(c:bN),jw h n<=k->k<n->h[k]? =some c->c.aQ=0
 |0,k,c,_,d,_=>V
 |n+1,k,c,a,e,b=>by
  simp only[jw]at a;by_cases d:k=n
  .subst d;rw[b]at a;simp only[]at a;split at a
   .assumption
   .omega
  .split at a
   .split at a
    .exact tV h n k c a V b
    .omega
   .exact tV h n k c a V b
def Mr(h:List bN):∀(n:Nat)(c:bN),n<=h.length->h[jw h n -1]? =some c->0<jw h n->c.aQ≠0
 |0,c,_,_,b=>by simp[jw]at b
 |n+1,c,f,a,b=>by
  simp only[jw]at a b;let⟨d,hd⟩:=cK h n;rw[hd]at a b;simp only[]at a b;split at a
  .rename_i e;rw[ao e]at b;exact Mr h n c V a b
  .rename_i e;simp at a;rw[hd]at a;simp at a;subst a;exact e
def oB(h:List bN):Prop:=∀c,h[h.length -1]? =some c->c.aQ≠0
def Hr(h:List bN):oB (ny h):=by
 intro c a;have d:=tW h h.length;unfold ny at a;rw[gP,jq d]at a;rcases km (jw h h.length)with b|b
 .rw[b]at a;simp at a
 .rw[dJ V]at a;exact Mr h _ c (ad _) a b
def NU:∀{h:List bN},(∀c∈h,c.aF=[])->∀f,eA h f=0
 |[],_,f=>rfl
 |c::h,a,f=>by simp only[eA,a c bg,eD,NU (λd hd=>a d (ai _ hd)) f];rfl
def fO.ny{h:List bN}{e:Nat->Int}(d:fO h e):fO (ny h) e:=by
 have u:=tW h h.length;have q:∀(b:Nat)(c:bN),h[b]? =some c->c.aQ≠0->b<jw h h.length:=λb c a i=>
  dS λv=>i (tV h h.length b c V (av a) a)
 have k:∀(b:Nat)(c:bN),(Go.Proofs.YtkoifinbblcbiaaGreat.ny h)[b]? =some c->h[b]? =some c:=λb c a=>by
  unfold Go.Proofs.YtkoifinbblcbiaaGreat.ny at a;have:=av a;rw[gP]at this;rwa[dJ V]at a
 have l:∀b,fQ h b->fQ (Go.Proofs.YtkoifinbblcbiaaGreat.ny h) b:=λb⟨c,a,j⟩=>⟨c,by
  unfold Go.Proofs.YtkoifinbblcbiaaGreat.ny;rw[dJ (q b c a V)];exact a,j⟩
 have s:∀b,eA (Go.Proofs.YtkoifinbblcbiaaGreat.ny h) b=eA h b:=λb=>by
  have m:h=Go.Proofs.YtkoifinbblcbiaaGreat.ny h++h.drop (jw h h.length):=(dp _ _).symm;have n:eA (h.drop (jw h h.length)) b=0:=NU (λc a=>by
   let⟨o,g⟩:=List.mem_iff_getElem?.1 a;rw[sA]at g;have i:=tV h h.length _ c V (av g) g;exact((d.cell c (aq g)).wY V).2.2 i) b
  have o:=nD (λg=>eA g b) m;simp only[uN,n]at o;omega
 refine⟨λc a=>?_,?_,λf c a j=>?_,d.nn,λf p=>l f (d.lv f p)⟩
 .let⟨b,g⟩:=List.mem_iff_getElem?.1 a;exact(d.cell c (aq (k b c g))).mono λ_ w _ _ r=>l _ r
 .let⟨t,r⟩:=d.MD;exact⟨t,λg c a=>r g c (k g c a)⟩
 .rw[s];exact d.ex f c (k f c a) j
end
section
variable{l:List Int}{i x v r:Int}{b:Nat}{c:cU}{f:aX}{s:St}
def lI(b:0<=i)(c:i<l.length):l[i.toNat]? =some (aE l i):=by
 let⟨x,a⟩:=cK l i.toNat;simp[aE,a]
def VE(h:l[b]? =some x):aE l b=x:=by simp[aE,h]
def HL(h:l[i.toNat]? =some x):aE l i=x:=by simp[aE,h]
def fm(a:0<=i)(b:i<l.length):aE l i∈l:=iE (lI a b)
def jz(l:List Int)(i v:Int):(gJ l i v).length=l.length:=by simp[gJ]
def pP(h:x∈gJ l i v):x=v\/x∈l:=by
 rcases cF h with h|h
 .exact Or.inr h
 .exact Or.inl h
def Av(l:List Int)(i v:Int)(b:Nat):(gJ l i v)[b]? =if b=i.toNat/\b<l.length then some v else l[b]? :=by
 unfold gJ;by_cases h:b=i.toNat
 .subst h;by_cases a:i.toNat<l.length
  .rw[dt a,ao ⟨rfl,a⟩]
  .rw[ae V,rR V]
 .rw[ae V,cv (λe=>h e.symm)]
def Rz(a:0<=i)(b:i<l.length)(j:Int)(c:0<=j):aE (gJ l i v) j=if j=i then v else aE l j:=by
 unfold aE;rw[fU,fU,Av];by_cases h:j=i
 .subst h;rw[ao rfl,ao ⟨rfl,V⟩];rfl
 .rw[ae h,ae V]
def If:∀(ak aR:List Int)(b:Nat)(w o f e:Int)(a:Nat),ak[b]? =some f->aR[b]? =some e->
 dg (ak.set b w) (aR.set b o) a=dg ak aR a -(if f=1000+(a:Int)then e else 0)+(if w=1000+(a:Int)then o else 0)
 |[],aR,b,w,o,f,e,a,c,d=>by simp at c
 |r::g,[],b,w,o,f,e,a,c,d=>by simp at d
 |r::g,q::h,0,w,o,f,e,a,c,d=>by
  simp at c d;subst c;subst d;simp only[iH,dg];omega
 |r::g,q::h,b+1,w,o,f,e,a,c,d=>by
  have:=If g h b w o f e a (by simpa using c) (by simpa using d);simp only[jy,dg,this];omega
def Ul(h:l[b]? =some x):l.set b x=l:=by
 apply hO;intro i;by_cases a:b=i
 .subst a;rw[dt (av h),h]
 .rw[cv a]
def Ie{ak aR:List Int}(c:0<=r)(d:r<ak.length)(e:r<aR.length)(o:Int)(a:Nat):
 dg ak (gJ aR r o) a=dg ak aR a+(if aE ak r=1000+(a:Int)then o -aE aR r else 0):=by
 have b:=lI c d
 have:=If ak aR r.toNat (aE ak r) o _ _ a b (lI c e)
 rw[Ul b]at this
 rw[gJ,this];split<;>omega
def NO{ak aR:List Int}(b:0<=r)(c:r<ak.length)(d:r<aR.length)(e:aE aR r=0)(w o:Int)(a:Nat):
 dg (gJ ak r w) (gJ aR r o) a=dg ak aR a+(if w=1000+(a:Int)then o else 0):=by
 have:=If ak aR r.toNat w o _ _ a (lI b c) (lI b d)
 rw[gJ,gJ,this,e];split<;>omega
def tC:∀{ak aR:List Int},(∀o∈aR,0<=o)->∀a,0<=dg ak aR a
 |[],aR,h,a=>by cases aR<;>simp[dg]
 |r::b,[],h,a=>by simp[dg]
 |r::b,o::d,h,a=>by
  have:=tC (ak:=b) (aR:=d) (λx c=>h x (ai _ c)) a;have:=h o bg;simp only[dg];split<;>omega
def tE:∀{ak aR:List Int},Sr aR->∀a,dg ak aR a=0
 |[],aR,h,a=>by cases aR<;>simp[dg]
 |r::b,[],h,a=>by simp[dg]
 |r::b,o::d,h,a=>by
  have:=tE (ak:=b) (aR:=d) (λx c=>h x (ai _ c)) a;have:=h o bg;simp only[dg,this];split<;>omega
def Gn:∀{c o1:List Int}(b o2:List Int),c.length=o1.length->∀a,dg (c++b) (o1++o2) a=dg c o1 a+dg b o2 a
 |[],[],b,o2,_,a=>by simp[dg]
 |[],_::_,_,_,h,_=>by simp at h
 |_::_,[],_,_,h,_=>by simp at h
 |r::e,o::d,b,o2,h,a=>by
  have:=Gn (c:=e) (o1:=d) b o2 (by simpa using h) a;simp only[db,dg,this];omega
def Lv:∀{ak aR:List Int}{b:Nat}{w o:Int}(_:∀o∈aR,0<=o)(_:ak[b]? =some w)(_:aR[b]? =some o){d:Nat}(_:w=1000+(d:Int)),o<=dg ak aR d
 |[],_,_,_,_,_,a,_,_,_=>by simp at a
 |_::_,[],_,_,_,_,_,c,_,_=>by simp at c
 |r::i,q::h,0,w,o,e,a,c,d,f=>by
  simp at a c;subst a;subst c;have:=tC (ak:=i) (aR:=h) (λx g=>e x (ai _ g)) d;simp only[dg,ao f];omega
 |r::i,q::h,b+1,w,o,e,a,c,d,f=>by
  have:=Lv (ak:=i) (aR:=h) (b:=b) (λx g=>e x (ai _ g)) (by simpa using a) (by simpa using c) f;have:=e q bg;simp only[dg];split<;>omega
def fZ:∀(l r:List aX)(a:Nat),fD (l++r) a=fD l a+fD r a
 |[],r,a=>by simp[fD]
 |f::l,r,a=>by simp only[db,fD,fZ l r a];omega
def kZ(f:aX)(a:Nat):fD [f] a=dg f.ak f.aR a:=by simp[fD]
def eL:∀(l r:List aX)(a:Nat),dI (l++r) a=dI l a+dI r a
 |[],r,a=>by simp[dI]
 |f::l,r,a=>by simp only[db,dI,eL l r a];omega
def jg(f:aX)(a:Nat):dI [f] a=eD f.aZ a:=by simp[dI]
def vS:∀(l:List aX)(a:Nat),0<=dI l a
 |[],a=>by simp[dI]
 |f::l,a=>by have:=vS l a;have:=iL f.aZ a;simp only[dI];omega
def kv(ak:List Int):∀(a aR:List Int),(bB ak aR a).length=aR.length
 |[],aR=>rfl
 |r::a,aR=>by simp only[bB];rw[kv ak a];split<;>simp[jz]
def xX{ak:List Int}:∀(b aR:List Int),(∀r∈b,0<=r/\r<ak.length)->ak.length=aR.length->∀a,dg ak (bB ak aR b) a=dg ak aR a -eD (b.map (aE ak)) a
 |[],aR,_,_,a=>by simp[bB,eD]
 |r::b,aR,h,c,a=>by
  have e:=h r bg;have f:=λaR c=>xX (ak:=ak) b aR (λx d=>h x (ai _ d)) c a;simp only[bB,cN,eD];by_cases d:1000<=aE ak r
  .rw[ao d,f _ (by rw[jz];exact c),Ie e.1 e.2 V];split<;>omega
  .rw[ae d,f _ c,ae V];omega
def lz{ak:List Int}:∀(c aR:List Int)(b:Nat)(o:Int),(bB ak aR c)[b]? =some o->∃q,aR[b]? =some q/\o<=q
 |[],aR,b,o,h=>⟨o,h,dx _⟩
 |r::c,aR,b,o,h=>by
  simp only[bB]at h;let⟨q,a,e⟩:=lz c _ b o h;split at a
  .rw[Av]at a;split at a
   .rename_i d;let⟨y,f⟩:=dD d.2;have g:aE aR r=y:=by rw[aE,fU,<-d.1,f];rfl
    simp at a;exact⟨y,f,V⟩
   .exact⟨q,a,e⟩
  .exact⟨q,a,e⟩
def lZ:∀(a aR:List Int),(dG aR a).length=aR.length
 |[],aR=>rfl
 |r::a,aR=>by simp only[dG];rw[lZ a,jz]
def FG{ak:List Int}:∀(b aR:List Int),(∀r∈b,0<=r/\r<ak.length)->ak.length=aR.length->∀a,dg ak (dG aR b) a=dg ak aR a+eD (b.map (aE ak)) a
 |[],aR,_,_,a=>by simp[dG,eD]
 |r::b,aR,h,d,a=>by
  have c:=h r bg;simp only[dG,cN,eD];rw[FG (ak:=ak) b _ (λx e=>h x (ai _ e)) (by rw[jz];exact d) a,Ie c.1 c.2 V];split<;>omega
def KJ{ak:List Int}:∀(d aR:List Int),(∀r∈d,0<=r/\r<aR.length/\1000<=aE ak r)->
 (∀(b:Nat)(o w:Int),aR[b]? =some o->ak[b]? =some w->0<=o/\(0<o->1000<=w))->∀(b:Nat)(o w:Int),(dG aR d)[b]? =some o->ak[b]? =some w->0<=o/\(0<o->1000<=w)
 |[],aR,_,h,b,o,w,a,c=>h b o w a c
 |r::d,aR,g,h,b,o,w,a,c=>by
  refine KJ (ak:=ak) d (gJ aR r (aE aR r+1)) (λx e=>by rw[jz];exact g x (ai _ e)) (λb o w a c=>?_) b o w a c;rw[Av]at a;split at a
  .rename_i f;have e:=g r bg;have i:aE ak r=w:=by rw[aE,fU,<-f.1,c];rfl
   have j:=h b (aE aR r) w (by rw[f.1];exact lI e.1 e.2.1) c;simp at a;exact⟨V,λ_=>V⟩
  .exact h b o w a c
def fP(h:List bN)(a:Nat):Prop:=∃c,h[a]? =some c/\c.aQ<0
structure gT(c:cU)(f:aX):Prop where
 fw:0<=f.fw/\f.fw<c.cE.length
 pc:0<=f.pc/\f.pc<(dQ c f.fw).dv.length
 lr:(f.ak.length:Int)=(dQ c f.fw).ak
 lo:(f.aR.length:Int)=(dQ c f.fw).ak
 lh:(f.aZ.length:Int)=(dQ c f.fw).ak
 Sb:∀w∈f.ak,gR w\/1000<=w
 aR:∀(b:Nat)(o w:Int),f.aR[b]? =some o->f.ak[b]? =some w->0<=o/\(0<o->1000<=w)
 aZ:∀w∈f.aZ,w=0\/1000<=w
structure cX(c:cU)(s:St):Prop where
 fe:nE c
 cx:0<=s.cx/\s.cx<=3
 done:s.cx=0<->s.an=[]
 value:gR s.value
 tY:s.value≠0->s.cx=0
 dX:0<=s.dX/\s.dX<=40
 bz:0<=s.bz/\s.bz<=s.dX
 depth:(s.an.length:Int)<=s.bz+1
 aT:∀n∈s.aT,gR n
 heap:fO s.heap (fD s.an)
 jG:oB s.heap
 an:∀f∈s.an,gT c f
 first:∀f,s.an[0]? =some f->f.dst=0
 chain:∀(b:Nat)(f g:aX),s.an[b]? =some f->s.an[b+1]? =some g->0<=g.dst/\g.dst<f.aR.length/\aE f.aR g.dst=0
 lB:∀a,fP s.heap a->dI s.an a=1
 nB:∀a,¬fP s.heap a->dI s.an a=0
def gT.PY(h:gT c f):∀o∈f.aR,0<=o:=λo d=>by
 let⟨b,a⟩:=List.mem_iff_getElem?.1 d;have g:=av a;have:=h.lo;have:=h.lr;let⟨w,e⟩:=cK f.ak b;exact(h.aR b o w a e).1
def Ku{c:cU}:∀{b:List aX},(∀f∈b,gT c f)->∀a,0<=fD b a
 |[],_,a=>by simp[fD]
 |f::b,h,a=>by
  have:=Ku (λg d=>h g (ai _ d)) a;have:=tC (ak:=f.ak) (h f bg).PY a;simp only[fD];omega
def cX.split(h:cX c s)(b:s.cx=3):∃a f,s.an=a++[f]:=by
 have:s.an≠[]:=λe=>by have:=h.done.2 e;omega
 exact⟨s.an.dropLast,s.an.getLast this,(fy this).symm⟩
def gT.yg(j:nE c)(h:gT c f):∃p,c.cE[f.fw.toNat]? =some p/\dQ c f.fw=p/\HH c p/\p.dv[f.pc.toNat]? =some (cB c f)/\iW c p f.pc.toNat (cB c f):=by
 let⟨p,b⟩:=cK c.cE f.fw.toNat (oh h.fw);have e:dQ c f.fw=p:=by simp[dQ,b]
 have g:=j.dB p (aq b);have k:=h.pc;rw[e]at k;let⟨i,a⟩:=cK p.dv f.pc.toNat;have d:cB c f=i:=by simp[cB,e,a]
 exact⟨p,b,e,g,d▸a,d▸g.dB _ _ a⟩
def cX.fV(h:cX c s)(A:s.cx=3){e:List aX}{g:aX}(k:s.an=e++[f]){d:List bN}{aT:List Int}(o:gT c g)(hd:g.dst=f.dst)
 (r:fO d (fD (e++[g])))(w:oB d)(t:∀a,fP d a->dI (e++[g]) a=1)(x:∀a,¬fP d a->dI (e++[g]) a=0)(v:∀n∈aT,gR n){bz:Int}(n:s.bz<=bz/\bz<=s.dX):
 cX c {s with heap:=d,aT:=aT,bz:=bz,an:=e++[g]}:=by
 have z:=h.bz
 have m:=h.depth
 rw[k]at m
 refine⟨h.fe,h.cx,⟨λj=>by simp at j;omega,sx⟩,h.value,h.tY,h.dX,⟨by simp only[];omega,n.2⟩,by simp at m⊢;omega,v,r,w,λq a=>?_,λq a=>?_,λb p q d a=>?_,t,x⟩
 .rcases List.mem_append.1 a with a|a
  .exact h.an q (by rw[k];exact bJ _ a)
  .simp at a;subst a;exact o
 .have i:=h.first
  rw[k]at i
  cases e with
  |nil=>simp at a;subst a;rw[hd];exact i f aL
  |cons y l=>simp at a;subst a;exact i y aL
 .have l:=h.chain b
  rw[k]at l
  simp only[]at d a
  have u:=av a
  simp at u
  rw[ax V]at d
  rcases aW (b+1) e.length with i|i
  .rw[ax i]at a
   exact l p q (by rw[ax V];exact d) (by rw[ax i];exact a)
  .rw[aJ i]at a
   have j:b+1 -e.length=0:=V
   rw[j]at a;simp at a;subst a
   rw[hd]
   exact l p f (by rw[ax V];exact d) (by rw[aJ i,j];rfl)
end
section
variable{h:List bN}{a:Nat}{c d:bN}{w:Int}{e e':Nat->Int}
def fP.ne{b:Nat}(d:b≠a):fP (h.set a c) b<->fP h b:=by unfold fP;rw[iK d]
def fP.yO(hd:h[a]? =some d):fP (h.set a c) a<->c.aQ<0:=by unfold fP;rw[eK hd];simp
def fP.set(hd:h[a]? =some d)(i:0<=d.aQ)(j:0<=c.aQ)(b:Nat):fP (h.set a c) b<->fP h b:=by
 by_cases g:b=a
 .subst g;rw[fP.yO hd];refine⟨λk=>V,λ⟨e,f,l⟩=>?_⟩;rw[hd]at f;simp at f;subst f;omega
 .exact fP.ne g
def fP.Ur(e:fP h a):¬fQ h a:=λ⟨c,b,g⟩=>by
 let⟨d,hd,f⟩:=e;rw[b]at hd;simp at hd;subst hd;omega
def fP.ft(c:fW h w)(b:Nat):fP (ft h w) b<->fP h b:=by
 let⟨a,d⟩:=bS c;exact fP.set a V (by simp only[];omega) b
def fP.mO(c:fW h w)(b:Nat):fP (mO h w) b<->fP h b:=by
 let⟨a,d⟩:=bS c;exact fP.set a V (by simp only[];omega) b
def fP.Q3(c:fW h w)(b:Nat):fP (h.set (ix w) ji) b<->fP h b:=by
 let⟨a,d⟩:=bS c;exact fP.set a V (by simp[ji]) b
def fP.gX:∀(n:Nat)(h:List bN)(i:List Int),Cq h+i.length<=n->∀b,fP (gX h i) b<->fP h b
 |n,h,[],_,b=>by rw[tc]
 |0,h,w::r,c,b=>by simp at c
 |n+1,h,w::r,c,b=>by
  simp only[ba]at c;rcases dT (fW h w)with a|a
  .let⟨f,g⟩:=bS a;by_cases d:(aM h w).aQ=1
   .have e:=kJ (d:=ji) f;simp only[ao g,ji]at e;simp at e;rw[td a d,fP.gX n _ _ (by simp[ji];omega) b,fP.Q3 a]
   .have e:=kJ (d:={aM h w with aQ:=(aM h w).aQ -1}) f;simp only[ao g]at e;rw[ao V]at e;rw[qC a d,fP.gX n _ _ (by simp only[Go.Proofs.YtkoifinbblcbiaaGreat.ft];omega) b,fP.ft a]
  .rw[qD a,fP.gX n _ _ V b]
def fP.ny{h:List bN}(b:Nat):fP (ny h) b<->fP h b:=by
 have f:=tW h h.length;unfold fP Go.Proofs.YtkoifinbblcbiaaGreat.ny;constructor
 .rintro⟨c,a,d⟩;have:=av a;rw[gP]at this;rw[dJ V]at a;exact⟨c,a,d⟩
 .rintro⟨c,a,d⟩;refine⟨c,?_,d⟩;rw[dJ]
  .exact a
  .exact dS λe=>by have:=tV h h.length b c V (av a) a;omega
def fO.mO(c:fO h e)(f:fW h w)(i:(aM h w).aQ<999999)(a:∀b,e' b=e b+if b=ix w then 1 else 0):fO (mO h w) e':=by
 let⟨d,g⟩:=bS f;refine c.Kv d g V V (λb=>?_) ?_
 .rw[a];split<;>omega
 .rw[a];have:=c.nn (ix w);split<;>omega
def PB(a:fW h w){v:Int}(d:1000<=v):(aM (mO h w) v).aQ=(aM h v).aQ+(if v=w then 1 else 0):=by
 let⟨c,f⟩:=bS a;unfold mO;by_cases e:v=w
 .subst e;rw[ao rfl];conv=>lhs;unfold aM
  rw[eK c];rfl
 .rw[ae e];conv=>lhs;unfold aM
  rw[iK (λb=>e (Q6 d a.1 b))];simp[aM]
def fQ.mO{h:List bN}{w:Int}(a:fW h w)(b:Nat):fQ (mO h w) b<->fQ h b:=by
 let⟨c,d⟩:=bS a;by_cases e:b=ix w
 .subst e;unfold Go.Proofs.YtkoifinbblcbiaaGreat.mO;rw[fQ.yO c];exact⟨λ_=>a.2,λ_=>by simp only[];omega⟩
 .exact fQ.ne e
def jb(d:1000<=w)(r:List Int)(b:Nat):eD (w::r) b=(if b=ix w then 1 else 0)+eD r b:=by
 simp only[eD];congr 1;have e:=iu d;by_cases a:b=ix w
 .subst a;rw[ao e.symm,ao rfl]
 .rw[ae a,ae (λc=>a (by rw[c,lL]))]
def fO.jt:∀(a:List Int)(h:List bN)(e e':Nat->Int),fO h e->(∀w∈a,fW h w/\(aM h w).aQ+eD a (ix w)<=999999)->(∀b,e' b=e b+eD a b)->fO (jt h a) e'/\(∀b,fP (jt h a) b<->fP h b)/\(jt h a).length=h.length
 |[],h,e,e',i,_,g=>⟨i.congr λb=>by rw[g];simp[eD],λ_=>Tb,rfl⟩
 |w::a,h,e,e',i,k,g=>by
  let⟨c,p⟩:=k w bg;rw[jb c.1,ao rfl]at p;have:=iL a (ix w);let⟨m,n,o⟩:=fO.jt a (Go.Proofs.YtkoifinbblcbiaaGreat.mO h w) (λb=>e b+if b=ix w then 1 else 0) e' (i.mO c V λb=>rfl) (λv q=>by
   let⟨d,j⟩:=k v (ai _ q);refine⟨⟨d.1,(fQ.mO c _).2 d.2⟩,?_⟩;rw[PB c d.1];rw[jb c.1]at j;split
   .rename_i f;subst f;rw[ao rfl]at j;omega
   .rename_i f;rw[ae (λl=>f (Q6 d.1 c.1 l))]at j;omega) (λb=>by rw[g,jb c.1];omega)
  refine⟨m,λb=>by rw[Go.Proofs.YtkoifinbblcbiaaGreat.jt,n,fP.mO c],by rw[Go.Proofs.YtkoifinbblcbiaaGreat.jt,o];simp[Go.Proofs.YtkoifinbblcbiaaGreat.mO]⟩
def lO{l:List Int}:w∈ln l<->w∈l/\1000<=w:=by simp[ln]
def fO.apart{h:List bN}{e e':Nat->Int}(j:fO h e){w:Int}(o:fW h w)(H:0<e (ix w))(t:(aM h w).aQ=1\/lD h (aM h w).aF)
 (A:∀b,e' b=e b -(if b=ix w then 1 else 0)+eD (aM h w).aF b)(K:oB h):fO (apart h w) e'/\(∀b,fP (apart h w) b<->fP h b)/\oB (apart h w):=by
 let⟨g,J⟩:=bS o
 unfold Go.Proofs.YtkoifinbblcbiaaGreat.apart
 by_cases r:(aM h w).aQ=1
 .rw[ao r]
  exact⟨(j.Q3 g r H (c':=ji) bh bh rfl (by simp[ji]) (by simp[ji]) (λ_=>rfl) A).ny,λb=>by rw[fP.ny,fP.Q3 o],Hr _⟩
 .rw[ae r]
  have t:lD h (aM h w).aF:=by rcases t with m|m;exact absurd m r;exact m
  have Q:=(j.cell _ (aq g)).hi
  have I:fO (Go.Proofs.YtkoifinbblcbiaaGreat.ft h w) (λb=>e b -if b=ix w then 1 else 0):=j.Kv g J V V (λb=>by split<;>omega) bF
  have u:∀b,fQ h b->fQ (Go.Proofs.YtkoifinbblcbiaaGreat.ft h w) b:=λb f=>by
   by_cases k:b=ix w
   .subst k;unfold Go.Proofs.YtkoifinbblcbiaaGreat.ft;rw[fQ.yO g];simp only[];omega
   .exact(fQ.ne k).2 f
  let⟨m,y,z⟩:=fO.jt (ln (aM h w).aF) _ _ e' I (λv x=>by
   let⟨s,p⟩:=lO.1 x;have a:=j.field (aq g) s p;refine⟨⟨a.1,u _ a.2⟩,?_⟩;have:=t v s p;rw[wi];have O:(aM (Go.Proofs.YtkoifinbblcbiaaGreat.ft h w) v).aQ<=(aM h v).aQ:=by
    by_cases k:ix v=ix w
    .have i:=Q6 p o.1 k;subst i;unfold Go.Proofs.YtkoifinbblcbiaaGreat.ft;conv=>lhs;unfold aM
     rw[eK g];show(aM h v).aQ -1<=(aM h v).aQ;omega
    .unfold Go.Proofs.YtkoifinbblcbiaaGreat.ft;conv=>lhs;unfold aM
     rw[iK k];exact dx _
   omega) (λb=>by rw[A,wi])
  refine⟨m,λb=>by rw[y,fP.ft o],λc n=>?_⟩
  intro M
  rw[z]at n
  have B:(Go.Proofs.YtkoifinbblcbiaaGreat.ft h w).length=h.length:=by simp[Go.Proofs.YtkoifinbblcbiaaGreat.ft]
  rw[B]at n
  have f:=av n
  rw[z,B]at f
  let⟨d,hd⟩:=cK h (h.length -1)
  have N:=K d hd
  have G:=j.cell d (aq hd)
  have P:=G.lo
  rcases dT (0<d.aQ)with C|C
  .have F:∀(q:List Int)(l:List bN),(∀v∈q,fW l v)->∀b,fQ l b->fQ (Go.Proofs.YtkoifinbblcbiaaGreat.jt l q) b:=by
    intro q;induction q with
    |nil=>intro l _ b f;exact f
    |cons v q L=>
     intro l i b f;have a:=i v bg;exact L _ (λE D=>⟨(i E (ai _ D)).1,(fQ.mO a _).2 (i E (ai _ D)).2⟩) b ((fQ.mO a _).2 f)
   let⟨D,i,E⟩:=F (ln (aM h w).aF) (Go.Proofs.YtkoifinbblcbiaaGreat.ft h w) (λv x=>by
    let⟨s,p⟩:=lO.1 x;have a:=j.field (aq g) s p;exact⟨a.1,u _ a.2⟩) _ (u _ ⟨d,hd,C⟩)
   rw[n]at i;simp at i;subst i;omega
  .have l:fP h (h.length -1):=⟨d,hd,V⟩
   let⟨D,i,q⟩:=(y (h.length -1)).2 ((fP.ft o _).2 l)
   rw[n]at i;simp at i;subst i;omega
def qF:∀(h:List bN),dH h<=h.length
 |[]=>ad _
 |c::h=>by have:=qF h;simp only[dH,ba];split<;>omega
def DZ:∀(h:List bN)(c:bN),h[dH h]? =some c->c.aQ=0
 |[],c,a=>by simp[dH]at a
 |d::h,c,a=>by
  simp only[dH]at a;split at a
  .rename_i b;simp at a;subst a;exact b
  .exact DZ h c (by simpa using a)
def fO.alloc(k:fO h e){t:Int}{f:List Int}(s:∀w∈f,qJ h w)(m:f.length<=3)(r:0<=t/\t<=99)(n:∀b,eD f b<=e b)
 (l:∀b,e' b=e b -eD f b+if b=dH h then 1 else 0)(u:oB h):
 fO (js h (dH h) ⟨1,t,f⟩) e'/\(∀b,fP (js h (dH h) ⟨1,t,f⟩) b<->fP h b)/\oB (js h (dH h) ⟨1,t,f⟩):=by
 unfold js
 have o:¬fQ h (dH h):=λ⟨c,a,v⟩=>by have:=DZ h c a;omega
 by_cases i:dH h=h.length
 .rw[ao i]
  have q:(h++[⟨1,t,f⟩])[dH h]? =some ⟨1,t,f⟩:=by rw[i];simp
  have p:∀b,b≠dH h->(h++[⟨1,t,f⟩])[b]? =h[b]? :=λb g=>by
   rcases aW b h.length with j|j
   .rw[ax j]
   .rw[cQ bF,cQ j]
  refine⟨k.make o q p (λb=>by rw[uN];simp[eA]) s m r n l,λb=>?_,λc a=>?_⟩
  .by_cases g:b=dH h
   .rw[g];unfold fP;rw[q,i];simp
   .unfold fP;rw[p b g]
  .simp at a;subst a;simp
 .rw[ae i]
  have q:dH h<h.length:=by have:=qF h;omega
  let⟨d,hd⟩:=dD q
  have j:=DZ h d hd
  have p:=((k.cell d (aq hd)).wY V).2.2 j
  refine⟨k.make o (eK hd) (λb g=>iK g) (λb=>by rw[Ap _ hd,p];simp[eD]) s m r n l,λb=>fP.set hd V aL b,λc a=>?_⟩
  rw[ez]at a
  by_cases g:h.length -1=dH h
  .rw[g,eK hd]at a;simp at a;subst a;simp
  .rw[iK g]at a;exact u c a
end
section
variable{b:cU}{w:Int}{s:St}{f g:aX}
def Fq{b:cU}{x:Instr}:∀{l:List Int}{k:Nat}{r:Int},r∈iN b x k l->r∈l
 |[],k,r,h=>by simp[iN]at h
 |y::l,k,r,h=>by
  simp only[iN]at h;split at h
  .exact ai _ (Fq h)
  .rcases List.mem_cons.1 h with rfl|h
   .exact bg
   .exact ai _ (Fq h)
def Cn{x:Instr}{r:Int}(h:r∈bR b x):r∈x.args:=by
 unfold bR at h;split at h
 .exact h
 split at h
 .exact dC h
 split at h
 .exact Fq h
 .simp at h
def Jn{a:List bA}(h:dV a)(c:Int):(cG a c).length<=3:=by
 unfold cG;split
 .cases g:(eT a)[c.toNat]? with
  |none=>simp
  |some f=>
   have d:=aq g;unfold eT at d;let⟨e,hd,b⟩:=List.mem_flatMap.1 d;let⟨k,i⟩:=List.mem_iff_getElem?.1 hd;have:=(h.dB k e i).je (List.length_pos_of_mem b);exact(this.2.2.2 f b).1
 .simp
def gT.put{b:cU}{g:aX}(h:gT b g){r w o:Int}(i:0<=r)(f:gR w\/1000<=w)(d:0<=o)(e:0<o->1000<=w):gT b (g.put r w o):=by
 refine⟨h.fw,h.pc,by simp only[aX.put,jz];exact h.lr,by simp only[aX.put,jz];exact h.lo,h.lh,λy a=>?_,λk q y c a=>?_,h.aZ⟩
 .rcases pP a with rfl|a
  .exact f
  .exact h.Sb y a
 .simp only[aX.put]at c a;rw[Av]at c a;have:=h.lr;have:=h.lo;split at c<;>split at a
  .simp at c a;subst c;subst a;exact⟨d,e⟩
  .omega
  .omega
  .exact h.aR k q y c a
def Ih(w:Int):0<=gN w:=by unfold gN;split<;>omega
def Em(h:0<gN w):1000<=w:=by unfold gN at h;split at h<;>omega
def xr(w:Int)(b:Nat):(if w=1000+(b:Int)then gN w else 0)=eD [w] b:=by
 simp only[eD,gN];split
 .rw[ao V];rfl
 .rfl
def HN(n:Int):gR (FI n):=by unfold FI gR;split<;>(try split)<;>omega
def P6(c a b:Int):gR (OU c a b):=by
 unfold OU;split
 .exact HN _
 split
 .exact HN _
 split
 .exact HN _
 split<;>(unfold gR;omega)
def mq(cW:List Int):∀(a:List Int)(k:Nat),(dO cW k a).length=a.length
 |[],k=>rfl
 |w::a,k=>by simp only[dO,ba,mq cW a]
def JA(cW:List Int):∀(b:List Int)(k j:Nat)(o w:Int),(dO cW k b)[j]? =some o->b[j]? =some w->0<=o/\(0<o->1000<=w)
 |[],k,j,o,w,_,h=>by simp at h
 |v::b,k,0,o,w,a,c=>by
  simp[dO]at a c;subst c;split at a
  .subst a;omega
  .subst a;exact⟨Ih _,Em⟩
 |v::b,k,j+1,o,w,a,c=>JA cW b (k+1) j o w (by simpa[dO]using a) (by simpa using c)
def kG(n:Nat):(dm n).length=n:=by simp[dm]
def qK{n:Nat}(h:w∈dm n):w=0:=Vz h
def uJ{g j:Int}{d:List Int}{p:dA}(m:nE b)(l:0<=g)(h:b.cE[g.toNat]? =some p)(q:d.length=p.params.length)(n:∀w∈d,gR w\/1000<=w):gT b (bX b g j d):=by
 have e:dQ b g=p:=by simp[dQ,h]
 have i:=m.dB p (aq h);have t:=i.ak;have r:=i.len;have s:=av h;refine⟨⟨l,by simp only[bX];omega⟩,⟨by simp[bX],by simp only[bX,e];omega⟩,?_,?_,?_,λw a=>?_,λk o w c a=>?_,λw a=>Or.inl (qK a)⟩
 .simp only[bX,e,be,kG];omega
 .simp only[bX,e,be,kG,mq];omega
 .simp only[bX,e,kG];omega
 .simp only[bX]at a;rcases List.mem_append.1 a with a|a
  .exact n w a
  .rw[qK a];exact Or.inl (by unfold gR;omega)
 .simp only[bX]at c a;rcases aW k d.length with f|f
  .rw[ax (by rw[mq];exact f)]at c;rw[ax f]at a;exact JA _ d 0 k o w c a
  .rw[aJ (by rw[mq];exact f)]at c;rw[qK (iE c)];omega
def qZ(b:cU)(g d:Int)(a:List Int)(c:Nat):dg (bX b g d a).ak (bX b g d a).aR c=dg a (dO (dQ b g).cW 0 a) c:=by
 simp only[bX];rw[Gn _ _ (mq _ _ _).symm,tE (λn e=>qK e)];omega
def pQ(b:cU)(g c:Int)(d:List Int)(a:Nat):dI [bX b g c d] a=0:=by
 rw[jg];exact SI _ _
def Ig{b:cU}{d:Instr}(f:aX):∀(e:List Int)(k:Nat)(a:Nat),dg (cO f e) (dO (dQ b d.bQ).cW k (cO f e)) a=eD ((iN b d k e).map (aE f.ak)) a
 |[],k,a=>by simp[cO,dg,iN,eD]
 |r::h,k,a=>by
  have g:=Ig (b:=b) (d:=d) f h (k+1) a;simp only[cO,cN,dO,dg,iN]at g⊢;rw[g];by_cases c:nK b d k=true
  .rw[ao c];unfold nK at c;rw[ao c];split<;>omega
  .rw[ae c];unfold nK at c;rw[ae c];simp only[cN,eD];have:=xr (aE f.ak r) a;simp only[eD]at this;omega
def JB:∀(a:List Int)(k:Nat)(b:Nat),dg a (dO [] k a) b=eD a b
 |[],k,b=>by simp[dg,eD]
 |w::a,k,b=>by
  have:=JB a (k+1) b;have c:=xr w b;simp only[eD]at c;simp only[dO,dg,eD,this,Qx,jx,rS];omega
def cX.qG{e:List bN}{c:List aX}(i:cX b s)(l:s.an=c++[f])(m:g.aZ=f.aZ)(j:∀a,fP e a<->fP s.heap a):
 (∀a,fP e a->dI (c++[g]) a=1)/\(∀a,¬fP e a->dI (c++[g]) a=0):=by
 have h:∀a,dI (c++[g]) a=dI s.an a:=λa=>by rw[l,eL,eL,jg,jg,m]
 exact⟨λa d=>by rw[h];exact i.lB a ((j a).1 d),λa d=>by rw[h];exact i.nB a λk=>d ((j a).2 k)⟩
def cX.push(h:cX b s)(C:s.cx=3){d:List aX}(e:s.an=d++[f])(p:gT b g)(hd:0<=g.dst/\g.dst<f.aR.length/\aE f.aR g.dst=0){c:List bN}{bz:Int}
 (r:fO c (fD (d++[f,g])))(v:oB c)(t:∀a,fP c a->dI (d++[f,g]) a=1)(w:∀a,¬fP c a->dI (d++[f,g]) a=0)(z:bz=s.bz+1)(B:s.bz<s.dX):
 cX b {s with heap:=c,bz:=bz,an:=d++[f,g]}:=by
 have A:=h.bz
 have m:=h.depth
 rw[e]at m
 refine⟨h.fe,h.cx,⟨λi=>by simp at i;omega,sx⟩,h.value,h.tY,h.dX,⟨by simp only[];omega,by simp only[];omega⟩,by simp at m⊢;omega,h.aT,r,v,λq a=>?_,λq a=>?_,λk x q c a=>?_,t,w⟩
 .rcases List.mem_append.1 a with a|a
  .exact h.an q (by rw[e];exact bJ _ a)
  .simp at a
   rcases a with rfl|rfl
   .exact h.an _ (by rw[e];simp)
   .exact p
 .have j:=h.first
  rw[e]at j
  cases d with
  |nil=>simp at a;subst a;exact j f aL
  |cons y l=>simp at a;subst a;exact j y aL
 .have l:=h.chain k
  rw[e]at l
  simp only[]at c a
  have i:d++[f,g]=(d++[f])++[g]:=aL
  rw[i]at c a
  have u:=av a
  simp at u
  rw[ax bF]at c
  rcases aW (k+1) (d++[f]).length with j|j
  .rw[ax j]at a
   exact l x q c a
  .simp at j
   rw[aJ bF]at a
   have n:k+1 -(d++[f]).length=0:=bF
   rw[n]at a;simp at a;subst a
   rw[aJ V]at c
   have o:k -d.length=0:=V
   rw[o]at c;simp at c;subst c;exact hd
def Ra{m:List aX}(d:cX b s)(R:s.cx=3)(p:s.an=m++[f])
 (M:lj b s f (cB b f) (bB f.ak f.aR (bR b (cB b f))))(bi:¬(nl (cB b f).op/\s.bz=s.dX)):
 cX b (fu b s m f (cB b f) (bB f.ak f.aR (bR b (cB b f)))):=by
 have I:gT b f:=d.an f (by rw[p];simp)
 let⟨ac,hp,aB,hP,a6,hI⟩:=I.yg d.fe
 generalize cB b f=x at*
 have⟨lr,lo,lh⟩:(f.ak.length:Int)=ac.ak/\(f.aR.length:Int)=ac.ak/\(f.aZ.length:Int)=ac.ak:=⟨aB▸I.lr,aB▸I.lo,aB▸I.lh⟩
 have al:∀q∈x.args,0<=q/\q<f.ak.length:=λq u=>by have:=hI.args q u;omega
 have a4:∀r∈bR b x,0<=r/\r<f.ak.length:=λr R=>al r (Cn R)
 have bp:=xX (ak:=f.ak) (bR b x) f.aR a4 V
 have bo:=kv f.ak (bR b x) f.aR
 have bn:=lz (ak:=f.ak) (bR b x) f.aR
 generalize bB f.ak f.aR (bR b x)=aR at*
 have aH:∀D∈m,gT b D:=λD j=>d.an D (by rw[p];exact bJ _ j)
 have am:∀c,0<=fD m c+dg f.ak aR c:=λc=>by
  have:=Ku aH c;have:=tC (ak:=f.ak) M.nn c;omega
 have E:fO s.heap (λc=>fD m c+dg f.ak aR c+eD ((bR b x).map (aE f.ak)) c):=d.heap.congr λc=>by
  rw[p,fZ,kZ,bp];omega
 have bc:∀O:Int,0<=O->O<ac.dv.length->gT b {f with aR:=aR,pc:=O}:=λO h0 e=>
  ⟨I.fw,⟨h0,by rw[aB];exact e⟩,I.lr,by simp only[bo];exact I.lo,I.lh,I.Sb,λy ab w W n=>by
   let⟨D,j,o⟩:=bn y ab W;have B:=I.aR y D w j n;exact⟨M.nn ab (iE W),λk=>B.2 V⟩,I.aZ⟩
 have bq:=I.pc
 rw[aB]at bq
 have bb:x.op≠23->x.op≠24->f.pc+1<ac.dv.length:=λe B=>by
  rcases dT (f.pc+1<ac.dv.length)with A|A
  .exact A
  .have T:f.pc.toNat=ac.dv.length -1:=V;rw[T]at a6;have:=hP.MS x a6;omega
 have Z:x.op≠23->x.op≠24->gT b {f with aR:=aR,pc:=f.pc+1}:=λe B=>bc _ V (bb e B)
 have ar:∀r:Int,0<=r->r<f.ak.length->gR (aE f.ak r)\/1000<=aE f.ak r:=λr h0 e=>I.Sb _ (fm h0 e)
 have a9:∀r:Int,0<=r->r<f.ak.length->aE f.ak r<1000->gR (aE f.ak r):=λr h0 e B=>by rcases ar r h0 e with A|A;exact A;omega
 have ah:=hI.dst
 have a7:mf x.op->aE aR x.dst=0:=λN=>by
  have e:=M.dst N;have B:=M.nn _ (fm (l:=aR) ah.1 V);omega
 have br:∀r∈bR b x,qJ s.heap (aE f.ak r):=λr bd=>by
  have be:=a4 r bd;rcases ar r be.1 be.2 with A|A
  .exact Or.inl A
  .refine Or.inr ⟨A,E.lv _ ?_⟩;have:=am (ix (aE f.ak r));have:=uK (l:=(bR b x).map (aE f.ak)) (f:=ix (aE f.ak r)) (by rw[iu A];exact List.mem_map.2 ⟨r,bd,rfl⟩);omega
 have aI:∀(O:Int)(a8:List Int)(w ab:Int),mf x.op->∀c,fD (m++[aX.put {f with aR:=aR,pc:=O,aZ:=a8} x.dst w ab]) c=fD m c+dg f.ak aR c+(if w=1000+(c:Int)then ab else 0):=λO a8 w ab N c=>by
  rw[fZ,kZ];simp only[aX.put];rw[NO ah.1 V V (a7 N)];omega
 have aO:∀(w:Int)(aT:List Int),mf x.op->x.op≠23->x.op≠24->bR b x=[]->(gR w\/1000<=w)->(∀k∈aT,gR k)->cX b {s with aT:=aT,an:=m++[aX.put {f with aR:=aR,pc:=f.pc+1} x.dst w 0]}:=λw aT N e B v n W=>by
  let⟨z,P⟩:=d.qG p (g:=aX.put {f with aR:=aR,pc:=f.pc+1} x.dst w 0) rfl (λc=>Tb);refine d.fV R p (hd:=rfl) ((Z e B).put ah.1 n (dx _) (λA=>V)) (E.congr λc=>?_) d.jG z P W (bz:=s.bz) ⟨dx _,d.bz.2⟩;rw[aI _ _ _ _ N,v];simp[eD]
 have aQ:∀O:Int,0<=O->O<ac.dv.length->bR b x=[]->cX b {s with an:=m++[{f with aR:=aR,pc:=O}]}:=λO h0 e v=>by
  let⟨z,P⟩:=d.qG p (g:={f with aR:=aR,pc:=O}) rfl (λc=>Tb);refine d.fV R p (hd:=rfl) (bc O h0 e) (E.congr λc=>?_) d.jG z P d.aT (bz:=s.bz) ⟨dx _,d.bz.2⟩;rw[fZ,kZ,v];simp[eD]
 have o:=hI.op
 unfold lW at o
 unfold fu
 simp only[]
 by_cases e0:x.op=0
 .rw[ao e0]at o⊢
  exact aO _ _ (by unfold mf;omega) V V (by simp[bR,e0]) (Or.inl o.2) d.aT
 rw[ae e0]at o⊢
 by_cases e1:x.op=1\/x.op=2\/x.op=3\/x.op=4
 .rw[ao e1]
  exact aO _ _ (by unfold mf;omega) V V (by unfold bR;rw[ae V,ae V,ae V]) (Or.inl (P6 _ _ _)) d.aT
 rw[ae e1]
 have au:1<=x.args.length->0<=aE x.args 0/\aE x.args 0<f.ak.length:=λe=>al _ (fm V V)
 by_cases e5:x.op=5
 .rw[ao e5]
  rw[ae V,ao V]at o
  have u:=au V
  have az:gR (aE f.ak (aE x.args 0)):=a9 _ u.1 u.2 (M.nV V _ (fm V V))
  refine aO _ _ (by unfold mf;omega) V V (by simp[bR,e5]) (Or.inl az) λk F=>?_
  rcases List.mem_append.1 F with F|F
  .exact d.aT k F
  .simp at F;subst F;exact az
 rw[ae e5]
 have bf:(bR b x=x.args)->∀w∈cO f x.args,qJ s.heap w:=λv w n=>by
  obtain⟨r,Y,rfl⟩:=List.mem_map.1 n;exact br r (v▸Y)
 have a1:∀aC,bR b x=x.args->x.op≠23->x.op≠24->mf x.op->x.args.length<=3->0<=aC/\aC<=99->cX b {s with heap:=js s.heap (dH s.heap) ⟨1,aC,cO f x.args⟩,an:=m++[aX.put {f with aR:=aR,pc:=f.pc+1} x.dst (1000+dH s.heap) 1]}:=λaC v e B N A aY=>by
  let⟨S,k2,k3⟩:=E.alloc (t:=aC) (f:=cO f x.args) (e':=fD (m++[aX.put {f with aR:=aR,pc:=f.pc+1} x.dst (1000+dH s.heap) 1])) (bf v) (by simpa[cO]using A) aY (λc=>by rw[v];have:=am c;simp only[cO];omega) (λc=>by
   rw[aI _ _ _ _ N,v];simp only[cO];have:(if(1000+(dH s.heap:Int))=1000+(c:Int)then(1:Int)else 0)=if c=dH s.heap then 1 else 0:=by
    by_cases k:c=dH s.heap
    .rw[ao k,ao V]
    .rw[ae k,ae V]
   rw[this];omega) d.jG
  let⟨z,P⟩:=d.qG p (g:=aX.put {f with aR:=aR,pc:=f.pc+1} x.dst (1000+dH s.heap) 1) rfl k2;exact d.fV R p (hd:=rfl) ((Z e B).put ah.1 (Or.inr V) V (λ_=>V)) S k3 z P d.aT (bz:=s.bz) ⟨dx _,d.bz.2⟩
 have bs:(eT b.bq).length<=12:=by
  have:=rq d.fe.om.types b.bq.length;rw[nh _ _ (ad _)]at this;exact this
 have bu:=d.fe.om.len
 by_cases Q:x.op=6
 .rw[ao Q]
  rw[ae V,ae V,ao Q]at o
  have v:bR b x=x.args:=by unfold bR;rw[ao V]
  have N:mf x.op:=by unfold mf;omega
  have aa:x.args.length<=3:=by rw[o.2.1];exact Jn d.fe.om.types _
  split
  .rename_i aF
   have J:0<=x.bZ -1/\x.bZ -1<f.aZ.length:=V
   have hv:=I.aZ _ (fm (l:=f.aZ) J.1 J.2)
   have K:1000<=aE f.aZ (x.bZ -1):=V
   have aD:0<dI s.an (ix (aE f.aZ (x.bZ -1))):=by
    rw[p,eL,jg];have:=vS m (ix (aE f.aZ (x.bZ -1)));have:=uK (l:=f.aZ) (f:=ix (aE f.aZ (x.bZ -1))) (by rw[iu K];exact fm J.1 J.2);omega
   have X:fP s.heap (ix (aE f.aZ (x.bZ -1))):=dS λF=>by have:=d.nB _ F;omega
   have aj:=d.lB _ X
   let⟨U,hd,aw⟩:=X
   have ay:∀c,eD U.aF c=0:=λc=>nY λn=>by
    have:=((E.cell U (aq hd)).wY V).2.1 _ n;omega
   have S:=E.make (v:=x.bQ) (c:=cO f x.args) (e':=fD (m++[aX.put {f with aR:=aR,pc:=f.pc+1,aZ:=gJ f.aZ (x.bZ -1) 0} x.dst (aE f.aZ (x.bZ -1)) 1])) (f:=ix (aE f.aZ (x.bZ -1))) (g:=s.heap.set (ix (aE f.aZ (x.bZ -1))) ⟨1,x.bQ,cO f x.args⟩)
    (fP.Ur ⟨U,hd,aw⟩) (eK hd) (λc k=>iK k) (λc=>by rw[Ap _ hd,ay];simp only[];omega) (bf v) (by simpa[cO]using aa) V (λc=>by rw[v];have:=am c;simp only[cO];omega) (λc=>by
     rw[aI _ _ _ _ N,v];simp only[cO];have:(if aE f.aZ (x.bZ -1)=1000+(c:Int)then(1:Int)else 0)=if c=ix (aE f.aZ (x.bZ -1))then 1 else 0:=by
      by_cases k:c=ix (aE f.aZ (x.bZ -1))
      .rw[ao k,ao (by rw[k,iu K])]
      .rw[ae k,ae (λH=>k (by rw[H,lL]))]
     rw[this];omega)
   have aA:∀c,eD (gJ f.aZ (x.bZ -1) 0) c=eD f.aZ c -(if c=ix (aE f.aZ (x.bZ -1))then 1 else 0):=by
    intro c;have ai:∀(C:List Int)(y:Nat)(w:Int),C[y]? =some w->eD (C.set y 0) c=eD C c -(if w=1000+(c:Int)then 1 else 0):=by
     intro C;induction C with
     |nil=>intro y w z;simp at z
     |cons af C ih=>
      intro y w z;cases y with
      |zero=>simp at z;subst z;simp only[iH,eD];rw[ae V];omega
      |succ y=>have:=ih y w (by simpa using z);simp only[jy,eD,this];omega
    rw[gJ,ai _ _ _ (lI J.1 J.2)];by_cases k:c=ix (aE f.aZ (x.bZ -1))
    .rw[ao k,ao (by rw[k,iu K])]
    .rw[ae k,ae (λH=>k (by rw[H,lL]))]
   have L:∀c,dI (m++[aX.put {f with aR:=aR,pc:=f.pc+1,aZ:=gJ f.aZ (x.bZ -1) 0} x.dst (aE f.aZ (x.bZ -1)) 1]) c=dI s.an c -(if c=ix (aE f.aZ (x.bZ -1))then 1 else 0):=λc=>by
    rw[p,eL,eL,jg,jg];simp only[aX.put];rw[aA];omega
   have ap:gT b {f with aR:=aR,pc:=f.pc+1,aZ:=gJ f.aZ (x.bZ -1) 0}:=by
    have e:=Z V V;exact⟨e.fw,e.pc,e.lr,e.lo,by simp only[jz];exact e.lh,e.Sb,e.aR,λw n=>by rcases pP n with n|n;exact Or.inl n;exact e.aZ w n⟩
   refine d.fV R p (hd:=rfl) (ap.put ah.1 (Or.inr K) V (λ_=>K)) S ?_ (λq u=>?_) (λq u=>?_) d.aT (bz:=s.bz) ⟨dx _,d.bz.2⟩
   .intro ag G
    rw[ez]at G
    by_cases k:s.heap.length -1=ix (aE f.aZ (x.bZ -1))
    .rw[k,eK hd]at G;simp at G;subst G;simp
    .rw[iK k]at G;exact d.jG ag G
   .rw[L]
    by_cases k:q=ix (aE f.aZ (x.bZ -1))
    .subst k;rw[fP.yO hd]at u;simp at u
    .rw[ae k];rw[fP.ne k]at u;have:=d.lB q u;omega
   .rw[L]
    by_cases k:q=ix (aE f.aZ (x.bZ -1))
    .subst k;rw[ao rfl];omega
    .rw[ae k];rw[fP.ne k]at u;have:=d.nB q u;omega
  .exact a1 _ v V V N aa V
 rw[ae Q]
 by_cases X:x.op=10
 .rw[ao X]
  rw[ae V,ae V,ae Q,ae V,ao X]at o
  obtain⟨⟨D,aG,ap,aK⟩,_⟩:=o
  have A:=(d.fe.om.dB D (aq ap)).1
  have:=av ap
  exact a1 _ (by unfold bR;rw[ao V]) V V (by unfold mf;omega) V (by unfold cr;omega)
 rw[ae X]
 by_cases aD:x.op=14
 .rw[ao aD]
  rw[ae V,ao V]at o
  have u:=au V
  have v:bR b x=[]:=by simp[bR,aD]
  let⟨F,U⟩:=M.VF aD
  let⟨z,P⟩:=d.qG p (g:={f with aR:=gJ aR (aE x.args 0) (aE aR (aE x.args 0)+1),pc:=f.pc+1}) rfl (λc=>fP.mO F c)
  have e:=Z V V
  refine d.fV R p (hd:=rfl) (g:={f with aR:=gJ aR (aE x.args 0) (aE aR (aE x.args 0)+1),pc:=f.pc+1}) ⟨e.fw,e.pc,e.lr,by simp only[jz];exact e.lo,e.lh,e.Sb,λy ab w W n=>?_,e.aZ⟩ (E.mO F U λc=>?_) ?_ z P d.aT (bz:=s.bz) ⟨dx _,d.bz.2⟩
  .simp only[]at W n
   rw[Av]at W
   split at W
   .rename_i J
    simp at W
    have T:aE f.ak (aE x.args 0)=w:=by rw[aE,fU,<-J.1,n];rfl
    have:=M.nn _ (fm (l:=aR) u.1 V)
    have:=F.1
    exact⟨V,λ_=>V⟩
   .exact e.aR y ab w W n
  .rw[fZ,kZ,v]
   simp only[]
   rw[Ie u.1 u.2 V]
   have J:=iu F.1
   simp only[fG,eD]
   by_cases k:c=ix (aE f.ak (aE x.args 0))
   .rw[ao k,ao (by rw[k,J])];omega
   .rw[ae k,ae (λH=>k (by rw[H,lL]))];omega
  .let⟨G,aA⟩:=bS F
   intro ag K
   unfold mO at K
   rw[ez]at K
   by_cases k:s.heap.length -1=ix (aE f.ak (aE x.args 0))
   .rw[k,eK G]at K;simp at K;subst K;simp only[];omega
   .rw[iK k]at K;exact d.jG ag K
 rw[ae aD]
 have aP:x.args.length=1->x.args=[aE x.args 0]:=λe=>by
  cases hx:x.args with
  |nil=>rw[hx]at e;simp at e
  |cons af C=>cases C with
   |nil=>rfl
   |cons ba C=>rw[hx]at e;simp at e
 by_cases a2:x.op=15
 .rw[ao a2]
  rw[ae V,ao V]at o
  have v:bR b x=[aE x.args 0]:=by unfold bR;rw[ao V];exact aP V
  rw[v]at E
  have S:=fO.gX _ s.heap [aE f.ak (aE x.args 0)] (λc=>fD m c+dg f.ak aR c) (ad _) (E.congr λc=>rfl) am
  let⟨z,P⟩:=d.qG p (g:={f with aR:=aR,pc:=f.pc+1}) rfl (λc=>(fP.ny (h:=gX s.heap [aE f.ak (aE x.args 0)]) c).trans (fP.gX _ _ _ (ad _) c))
  exact d.fV R p (hd:=rfl) (Z V V) (S.ny.congr λc=>by rw[fZ,kZ]) (Hr _) z P d.aT (bz:=s.bz) ⟨dx _,d.bz.2⟩
 rw[ae a2]
 by_cases U:x.op=16\/x.op=17
 .rw[ao U]
  rw[ae V,ae V,ae Q,ae V,ae X,ao U]at o
  have u:=au V
  have v:bR b x=[aE x.args 0]:=by
   unfold bR;rw[ae V,ao U];cases hx:x.args with
   |nil=>rw[hx]at o;simp at o
   |cons af C=>rfl
  let⟨F,aN,aS,a3⟩:=M.NL U
  let⟨G,aA⟩:=bS F
  have aU:∀r∈x.args.drop 1,0<=r/\r<aR.length/\1000<=aE f.ak r:=λr Y=>by
   have e:=al r (wS Y);have B:aE f.ak r∈ln (aM s.heap (aE f.ak (aE x.args 0))).aF:=by rw[aN];exact List.mem_map.2 ⟨r,Y,rfl⟩
   exact⟨e.1,V,(lO.1 B).2⟩
  have e:=Z V V
  have aa:gT b {f with aR:=dG aR (x.args.drop 1),pc:=f.pc+1}:=⟨e.fw,e.pc,e.lr,by simp only[lZ];exact e.lo,e.lh,e.Sb,KJ (ak:=f.ak) _ aR aU e.aR,e.aZ⟩
  have a_:∀c,dg f.ak (dG aR (x.args.drop 1)) c=dg f.ak aR c+eD (aM s.heap (aE f.ak (aE x.args 0))).aF c:=λc=>by
   rw[FG (ak:=f.ak) _ _ (λr Y=>oh (aU r Y)) V,<-wi (aM s.heap _).aF,aN];rfl
  have ay:0<fD m (ix (aE f.ak (aE x.args 0)))+dg f.ak aR (ix (aE f.ak (aE x.args 0)))+eD ((bR b x).map (aE f.ak)) (ix (aE f.ak (aE x.args 0))):=by
   rw[v];have:=am (ix (aE f.ak (aE x.args 0)));simp only[cN,fG,jb F.1,ao,eD];omega
  have aw:∀c,fD m c+dg f.ak (dG aR (x.args.drop 1)) c=(fD m c+dg f.ak aR c+eD ((bR b x).map (aE f.ak)) c) -(if c=ix (aE f.ak (aE x.args 0))then 1 else 0)+eD (aM s.heap (aE f.ak (aE x.args 0))).aF c:=λc=>by
   rw[a_,v];simp only[cN,fG,jb F.1,eD];omega
  split
  .rename_i aj
   have a0:=a3 aj.2
   have S:=E.Q3 G aj.1 ay (c':=⟨-1,0,dm (aM s.heap (aE f.ak (aE x.args 0))).aF.length⟩) aL aL rfl (λw n=>qK n) (by simp only[kG];exact(E.cell _ (aq G)).fl) (sx) (e':=fD (m++[{f with aR:=dG aR (x.args.drop 1),pc:=f.pc+1,aZ:=gJ f.aZ (aE x.args 0) (aE f.ak (aE x.args 0))}])) (λc=>by rw[fZ,kZ];exact aw c)
   have ai:∀(c:Nat)(w:Int)(C:List Int)(y:Nat),C[y]? =some 0->eD (C.set y w) c=eD C c+(if w=1000+(c:Int)then 1 else 0):=by
    intro c w C;induction C with
    |nil=>intro y z;simp at z
    |cons af C ih=>
     intro y z;cases y with
     |zero=>simp at z;subst z;simp only[iH,eD];split<;>simp_all<;>omega
     |succ y=>have:=ih y (by simpa using z);simp only[jy,eD,this];omega
   have aV:aE x.args 0<f.aZ.length:=V
   have L:∀c,dI (m++[{f with aR:=dG aR (x.args.drop 1),pc:=f.pc+1,aZ:=gJ f.aZ (aE x.args 0) (aE f.ak (aE x.args 0))}]) c=dI s.an c+(if c=ix (aE f.ak (aE x.args 0))then 1 else 0):=λc=>by
    rw[p,eL,eL,jg,jg];have aF:=lI (l:=f.aZ) u.1 aV;rw[a0]at aF;simp only[gJ];rw[ai c _ _ _ aF];by_cases k:c=ix (aE f.ak (aE x.args 0))
    .rw[ao k,ao (by rw[k,iu F.1])];omega
    .rw[ae k,ae (λH=>k (by rw[H,lL]))];omega
   have a5:¬fP s.heap (ix (aE f.ak (aE x.args 0))):=λz=>z.Ur F.2
   refine d.fV R p (hd:=rfl) (g:={f with aR:=dG aR (x.args.drop 1),pc:=f.pc+1,aZ:=gJ f.aZ (aE x.args 0) (aE f.ak (aE x.args 0))}) ⟨aa.fw,aa.pc,aa.lr,aa.lo,by simp only[jz];exact aa.lh,aa.Sb,aa.aR,λw n=>?_⟩ S ?_ (λq J=>?_) (λq J=>?_) d.aT (bz:=s.bz) ⟨dx _,d.bz.2⟩
   .rcases pP n with n|n
    .rw[n];exact Or.inr F.1
    .exact I.aZ w n
   .intro ag K
    rw[ez]at K
    by_cases k:s.heap.length -1=ix (aE f.ak (aE x.args 0))
    .rw[k,eK G]at K;simp at K;subst K;simp
    .rw[iK k]at K;exact d.jG ag K
   .rw[L]
    by_cases k:q=ix (aE f.ak (aE x.args 0))
    .rw[ao k,k,d.nB _ a5];rfl
    .rw[ae k];rw[fP.ne k]at J;have:=d.lB q J;omega
   .rw[L]
    by_cases k:q=ix (aE f.ak (aE x.args 0))
    .subst k;rw[fP.yO G]at J;simp at J
    .rw[ae k];rw[fP.ne k]at J;have:=d.nB q J;omega
  .let⟨S,k2,k3⟩:=E.apart F ay aS (e':=fD (m++[{f with aR:=dG aR (x.args.drop 1),pc:=f.pc+1}])) (λc=>by rw[fZ,kZ];exact aw c) d.jG
   let⟨z,P⟩:=d.qG p (g:={f with aR:=dG aR (x.args.drop 1),pc:=f.pc+1}) rfl k2
   exact d.fV R p (hd:=rfl) aa S k3 z P d.aT (bz:=s.bz) ⟨dx _,d.bz.2⟩
 rw[ae U]
 by_cases a3:x.op=18
 .rw[ao a3]
  rw[ae V,ao V]at o
  have u:=au V
  have v:bR b x=[aE x.args 0]:=by unfold bR;rw[ao V];exact aP V
  have N:mf x.op:=by unfold mf;omega
  let⟨z,P⟩:=d.qG p (g:=aX.put {f with aR:=aR,pc:=f.pc+1} x.dst (aE f.ak (aE x.args 0)) (gN (aE f.ak (aE x.args 0)))) rfl (λc=>Tb)
  refine d.fV R p (hd:=rfl) ((Z V V).put ah.1 (ar _ u.1 u.2) (Ih _) Em) (E.congr λc=>?_) d.jG z P d.aT (bz:=s.bz) ⟨dx _,d.bz.2⟩
  rw[aI _ _ _ _ N,v,xr];rfl
 rw[ae a3]
 by_cases K:x.op=19
 .rw[ao K]
  rw[ae V,ae V,ae Q,ae V,ae X,ae U,ao K]at o
  let⟨F,k⟩:=M.load K
  let⟨G,aA⟩:=bS F
  refine aO _ _ (by unfold mf;omega) V V (by simp[bR,K]) ?_ d.aT
  rcases((E.cell _ (aq G)).oZ aA).1 _ (fm o.2.1 k)with B|B
  .exact Or.inl B
  .exact Or.inr B.1
 rw[ae K]
 by_cases aa:x.op=20
 .rw[ao aa]
  rw[ae V,ae V,ae Q,ae V,ae X,ae U,ae K,ao aa]at o
  have:=bb V V
  exact aQ _ (by split<;>omega) (by split<;>omega) (by simp[bR,aa])
 rw[ae aa]
 by_cases aj:x.op=21
 .rw[ao aj]
  rw[ae V,ae V,ae Q,ae V,ae X,ae U,ae K,ae aa,ae V,ao aj]at o
  let⟨F,aY⟩:=M.Fp aj
  have ag:tv (cA b.bq x.bQ) (aM s.heap (aE f.ak (aE x.args 0))).kD<(cA b.bq x.bQ).length:=uc ⟨_,aY,aL⟩
  let⟨ai,k⟩:=o.2.2
  have:=k _ (fm (l:=x.eN) (i:=(tv (cA b.bq x.bQ) (aM s.heap (aE f.ak (aE x.args 0))).kD:Nat)) V V)
  exact aQ _ V V (by simp[bR,aj])
 rw[ae aj]
 by_cases aw:x.op=22
 .rw[ao aw]
  rw[ae V,ae V,ae Q,ae V,ae X,ae U,ae K,ae aa,ao aw]at o
  exact aQ _ V V (by simp[bR,aw])
 rw[ae aw]
 have bg:∀w∈cO f x.args,gR w\/1000<=w:=λw n=>by
  obtain⟨r,Y,rfl⟩:=List.mem_map.1 n;exact ar r (al r Y).1 (al r Y).2
 have aV:nl x.op->s.bz<s.dX:=λG=>by
  have:=d.bz;have:s.bz≠s.dX:=λT=>bi ⟨G,T⟩;omega
 have a_:∀(hp:List bN),s.bz<s.dX->x.op≠23->x.op≠24->∀(g:aX),gT b g->mf x.op->g.dst=x.dst->fO hp (fD (m++[{f with aR:=aR,pc:=f.pc+1},g]))->oB hp->(∀c,fP hp c<->fP s.heap c)->(∀c,dI [g] c=0)->
  cX b {s with bz:=s.bz+1,heap:=hp,an:=m++[{f with aR:=aR,pc:=f.pc+1},g]}:=λhp bt e B g hg N bl hH hT hK bm=>by
  have a5:=d.bz
  have ay:=d.depth
  rw[p]at ay
  have ee:m++[{f with aR:=aR,pc:=f.pc+1},g]=(m++[{f with aR:=aR,pc:=f.pc+1}])++[g]:=aL
  have L:∀c,dI (m++[{f with aR:=aR,pc:=f.pc+1},g]) c=dI s.an c:=λc=>by
   rw[ee,eL,bm,p,eL,eL,jg,jg];simp
  refine⟨d.fe,d.cx,⟨λT=>by simp at T;omega,sx⟩,d.value,d.tY,d.dX,⟨by simp only[];omega,by simp only[];omega⟩,by simp at ay⊢;omega,d.aT,hH,hT,λD j=>?_,λD j=>?_,λy p1 D k j=>?_,λq u=>?_,λq u=>?_⟩
  .rcases List.mem_append.1 j with j|j
   .exact aH D j
   .simp at j
    rcases j with rfl|rfl
    .exact Z e B
    .exact hg
  .have ai:=d.first
   rw[p]at ai
   cases m with
   |nil=>simp at j;subst j;exact ai f aL
   |cons af ys=>simp at j;subst j;exact ai af aL
  .have ag:=d.chain y
   rw[p]at ag
   simp only[]at k j
   rw[ee]at k j
   have aU:=av j
   simp at aU
   rw[ax bF]at k
   rcases aW (y+1) (m.length+1)with A|A
   .rw[ax bF]at j
    rw[ax V]at k
    rcases aW (y+1) m.length with h4|h4
    .rw[ax h4]at j
     exact ag p1 D (by rw[ax V];exact k) (by rw[ax h4];exact j)
    .rw[aJ h4]at j
     have H:y+1 -m.length=0:=V
     rw[H]at j;simp at j;subst j
     exact ag p1 f (by rw[ax V];exact k) (by rw[aJ h4,H];rfl)
   .rw[aJ bF]at j
    have H:y+1 -(m++[{f with aR:=aR,pc:=f.pc+1}]).length=0:=bF
    rw[H]at j;simp at j;subst j
    rw[aJ V]at k
    have e3:y -m.length=0:=V
    rw[e3]at k;simp at k;subst k
    rw[bl]
    exact⟨ah.1,by simp only[];omega,a7 N⟩
  .rw[L];exact d.lB q ((hK q).1 u)
  .rw[L];exact d.nB q λA=>u ((hK q).2 A)
 by_cases e9:x.op=9
 .rw[ao e9]
  rw[ae V,ae V,ae Q,ao V]at o
  let⟨D,aG,ap,aK⟩:=o
  have v:bR b x=iN b x 0 x.args:=by unfold bR;rw[ae V,ae V,ao V]
  refine a_ s.heap (aV (Or.inl e9)) V V (bX b x.bQ x.dst (cO f x.args)) (uJ d.fe aG ap (by simp[cO,aK]) bg) (by unfold mf;omega) rfl (E.congr λc=>?_) d.jG (λ_=>Tb) (pQ _ _ _ _)
  rw[fZ,v]
  simp only[fD]
  rw[qZ,Ig];omega
 rw[ae e9]
 by_cases aF:x.op=24
 .rw[ao aF]
  rw[ae V,ae V,ae Q,ao V]at o
  let⟨D,aG,ap,aK⟩:=o
  have v:bR b x=iN b x 0 x.args:=by unfold bR;rw[ae V,ae V,ao V]
  let⟨aN,a0⟩:=M.zero (Or.inl aF)
  have L:∀c,dI (m++[bX b x.bQ f.dst (cO f x.args)]) c=dI s.an c:=λc=>by
   rw[p,eL,eL,pQ,jg,nY (λn=>oh (a0 _ n))]
  have bh:=aV (Or.inr (Or.inr aF))
  refine d.fV R p (hd:=rfl) (uJ d.fe aG ap (by simp[cO,aK]) bg) (E.congr λc=>?_) d.jG (λq u=>by rw[L];exact d.lB q u) (λq u=>by rw[L];exact d.nB q u) d.aT (bz:=s.bz+1) V
  rw[fZ,kZ,qZ,Ig,v,tE aN];omega
 rw[ae aF]
 by_cases ap:x.op=11
 .rw[ao ap]
  rw[ao V]at o
  have v:bR b x=x.args:=by unfold bR;rw[ao V]
  have bh:x.args=[aE x.args 0,aE x.args 1]:=by
   cases hx:x.args with
   |nil=>rw[hx]at o;simp at o
   |cons af C=>cases C with
    |nil=>rw[hx]at o;simp at o
    |cons ba C=>cases C with
     |nil=>rfl
     |cons _ _=>rw[hx]at o;simp at o
  have aG:0<=aE x.args 1/\aE x.args 1<f.ak.length:=al _ (fm V V)
  let⟨F,bk,bv,bj,aK,aS⟩:=M.apply ap
  let⟨G,aA⟩:=bS F
  let⟨D,j⟩:=cK b.cE (((aM s.heap (aE f.ak (aE x.args 0))).kD -cr b).toNat)
  have ba:dQ b ((aM s.heap (aE f.ak (aE x.args 0))).kD -cr b)=D:=by simp[dQ,j]
  rw[ba]at bj aK
  have C:∀c,eD ((bR b x).map (aE f.ak)) c=(if c=ix (aE f.ak (aE x.args 0))then 1 else 0)+eD [aE f.ak (aE x.args 1)] c:=λc=>by
   rw[v,bh];simp only[cN,fG];rw[jb]
   .rfl
   .exact F.1
  let⟨S,k2,k3⟩:=E.apart F (by simp only[C,ao];have:=am (ix (aE f.ak (aE x.args 0)));have:=iL [aE f.ak (aE x.args 1)] (ix (aE f.ak (aE x.args 0)));omega) aS
   (e':=fD (m++[{f with aR:=aR,pc:=f.pc+1},bX b ((aM s.heap (aE f.ak (aE x.args 0))).kD -cr b) x.dst ((aM s.heap (aE f.ak (aE x.args 0))).aF++[aE f.ak (aE x.args 1)])])) (λc=>by
    rw[fZ,C];simp only[fD];rw[qZ,ba,List.length_eq_zero_iff.1 aK,JB,mj];omega) d.jG
  refine a_ _ (aV (Or.inr (Or.inl ap))) V V _ (uJ d.fe bk j bF λw n=>?_) (by unfold mf;omega) rfl S k3 k2 (pQ _ _ _ _)
  rcases List.mem_append.1 n with n|n
  .rcases((E.cell _ (aq G)).oZ aA).1 w n with B|B
   .exact Or.inl B
   .exact Or.inr B.1
  .simp at n;subst n;exact ar _ aG.1 aG.2
 rw[ae ap]
 have aA:x.op=23:=by
  rw[ae V]at o;by_cases aA:x.op=23
  .exact aA
  .rw[ae V,ae Q,ae V,ae X,ae U,ae K,ae aa,ae aw,ae aj]at o;exact o.elim
 rw[ae V,ao V]at o
 have u:=au V
 have v:bR b x=[aE x.args 0]:=by unfold bR;rw[ao V];exact aP V
 let⟨aN,a0⟩:=M.zero (Or.inr aA)
 have aS:∀c,dI [f] c=0:=λc=>by rw[jg];exact nY (λn=>oh (a0 _ n))
 split
 .rename_i F
  have aG:m=[]:=List.getLast?_eq_none_iff.1 F
  subst aG
  have C:=M.ret aA
  have az:=a9 _ u.1 u.2 (by rcases C with e|e;(rw[p]at e;simp at e);exact e)
  have a5:=d.bz
  refine⟨d.fe,⟨aL,aL⟩,aL,az,aL,d.dX,d.bz,bF,d.aT,E.congr λc=>?_,d.jG,aL,aL,aL,λq J=>?_,λq J=>?_⟩
  .rw[v,tE aN]
   simp only[fD,cN,fG]
   rw[nY (by simp;have:=az.2;omega)];rfl
  .have e:=d.lB q J
   rw[p]at e
   have B:=aS q
   simp only[eG]at e
   omega
  .simp[dI]
 .rename_i C F
  have aG:m=m.dropLast++[C]:=by
   have ba:m≠[]:=λT=>by rw[T]at F;simp at F
   rw[gE ba]at F;simp at F;rw[<-F];exact(fy ba).symm
  generalize m.dropLast=fs' at aG
  subst aG
  have az:gT b C:=aH C aL
  let⟨aK,bh,bj⟩:=d.chain fs'.length C f (by rw[p];simp) (by rw[p];simp)
  have bk:f.dst<C.ak.length:=by have:=az.lr;have:=az.lo;omega
  have a5:=d.bz
  have ay:=d.depth
  rw[p]at ay
  have L:∀c,dI (fs'++[C.put f.dst (aE f.ak (aE x.args 0)) (gN (aE f.ak (aE x.args 0)))]) c=dI s.an c:=λc=>by
   rw[p,eL,eL,aS,eL,jg,jg];simp[aX.put]
  refine⟨d.fe,d.cx,⟨λT=>by simp at T;omega,sx⟩,d.value,d.tY,d.dX,d.bz,by simp at ay⊢;omega,d.aT,E.congr λc=>?_,d.jG,λD j=>?_,λD j=>?_,λy p1 D k j=>?_,λq J=>by rw[L];exact d.lB q J,λq J=>by rw[L];exact d.nB q J⟩
  .rw[fZ,kZ,fZ,kZ,v,tE aN]
   simp only[aX.put,cN,fG]
   rw[NO aK bk bh bj,xr];omega
  .rcases List.mem_append.1 j with j|j
   .exact aH D (bJ _ j)
   .simp at j;subst j
    exact az.put aK (ar _ u.1 u.2) (Ih _) Em
  .have ai:=d.first
   rw[p]at ai
   cases fs' with
   |nil=>simp at j;subst j;exact ai C aL
   |cons af ys=>simp at j;subst j;exact ai af aL
  .have ag:=d.chain y
   rw[p]at ag
   simp only[]at k j
   have aU:=av j
   simp at aU
   rw[ax V]at k
   have e1:(fs'++[C]++[f])[y]? =some p1:=by rw[ax bF,ax V];exact k
   rcases aW (y+1) fs'.length with A|A
   .rw[ax A]at j
    exact ag p1 D e1 (by rw[ax bF,ax A];exact j)
   .rw[aJ A]at j
    have H:y+1 -fs'.length=0:=V
    rw[H]at j;simp at j;subst j
    exact ag p1 C e1 (by rw[ax bF,aJ A,H];rfl)
def Se(h:cX b s):cX b (kC b s):=by
 unfold kC;by_cases c:s.cx=3
 .rw[ae (by simpa using c)];let⟨j,f,a⟩:=h.split c;have g:s.an.getLast?=some f:=by rw[a];simp
  have i:s.an.dropLast=j:=by rw[a];simp
  rw[g,i];simp only[];have d:∀n,1<=n->n<=2->cX b {s with cx:=n}:=λn l m=>
   ⟨h.fe,⟨by simp only[];omega,by simp only[];omega⟩,⟨λe=>by simp only[]at e;omega,λe=>by simp only[]at e;rw[a]at e;simp at e⟩,h.value,λe=>oh (h.tY e),h.dX,h.bz,h.depth,h.aT,h.heap,h.jG,h.an,h.first,h.chain,h.lB,h.nB⟩
  split
  .exact d 1 V V
  .rename_i e;split
   .rename_i k;exact Ra h c a k e
   .exact d 2 V V
 .rw[ao (by simpa using c)];exact h
end
section
variable{a:cU}
def rem(a:cU):List aX->Int
 |[]=>0
 |f::b=>((dQ a f.fw).dv.length -f.pc)+rem a b
noncomputable def aD (a:cU):Nat->St->St
 |0,s=>s
 |n+1,s=>aD a n (kC a s)
def Mm(a:cU):∀(n:Nat)(s:St),aD a (n+1) s=kC a (aD a n s)
 |0,s=>rfl
 |n+1,s=>by rw[aD,Mm a n,aD]
def wP{a:cU}:∀(n:Nat){s:St},cX a s->cX a (aD a n s)
 |0,s,h=>h
 |n+1,s,h=>wP n (Se h)
def sY{s:St}(h:s.cx≠3):kC a s=s:=by unfold kC;rw[ao h]
def DN{a:cU}:∀(n:Nat){s:St},s.cx≠3->aD a n s=s
 |0,s,_=>rfl
 |n+1,s,h=>by rw[aD,sY h,DN n h]
def me(a:cU)(dX:Int):St:=⟨3,0,0,dX,[],[],[bX a 0 0 []]⟩
def Mk{dX:Int}(c:nE a)(n:0<=dX/\dX<=40):cX a (me a dX):=by
 have q:=c.om.len;let⟨p,i⟩:=cK a.cE 0;have l:=c.om.first p i;have k:=uJ (j:=0) (d:=[]) c (dx 0) i (by simp[l.1]) aL;have h:∀f,fD [bX a 0 0 []] f=0:=λf=>by rw[kZ,qZ];simp[dg]
 refine⟨c,by simp[me],by simp[me],by simp[me,gR],by simp[me],n,by simp[me];omega,by simp[me],by simp[me],⟨by simp[me],⟨λ_=>0,by simp[me]⟩,by simp[me],λd=>by simp only[me];rw[h];omega,λd b=>by simp only[me]at b;rw[h]at b;omega⟩,?_,?_,?_,?_,λd⟨j,e,_⟩=>by simp[me]at e,λd _=>pQ _ _ _ _ _⟩
 .intro j e;simp[me]at e
 .intro g b;simp[me]at b;subst b;exact k
 .intro g b;simp[me]at b;subst b;rfl
 .intro r g o b m;simp[me]at m
end
section
variable{k:Nat}{m:E}
def mg{b:List bA}{d:bA}:Hz b k d<->((zG b.length d.tf/\zG b.length d.to/\d.cons.length<=3/\(0<d.cons.length->d.tf=0/\d.to=0))/\
 (∀h∈d.cons,h.length<=3/\Fu b.length h)/\∀e∈b.take k,¬(d.cons.length=0/\e.cons.length=0/\e.tf=d.tf/\e.to=d.to)):=by
 constructor
 .intro l
  rcases km d.cons.length with a|a
  .let⟨c,f,g⟩:=l.R1 a
   refine⟨⟨f,g,V,λl=>V⟩,λh m=>?_,λe i j=>c e i j.2⟩
   rw[List.length_eq_zero_iff.1 a]at m;cases m
  .let⟨c,f,g,h⟩:=l.je a
   exact⟨⟨by unfold zG;omega,by unfold zG;omega,c,λ_=>⟨f,g⟩⟩,h,λe i j=>V⟩
 .rintro⟨⟨c,f,g,h⟩,l,m⟩
  exact⟨λa=>⟨g,(h a).1,(h a).2,l⟩,λa=>⟨λe i j=>m e i ⟨a,j⟩,c,f⟩⟩
def Eb{bq:O}{c:List bA}(hd:cy m bq c):dw cp 192 [O.v bq] m (dV c):=by
 apply yF;simp -zeta only[aC,aB];have v:=hd.len;have an:=hd.cap;refine dit (λaa=>?_) λaa=>?_
 .exact bW (λa=>oh a.len) (J.az _)
 refine dW (n:=c.length) V (λk f=>J m f/\∀(j:Nat)(d:bA),j<k->c[j]? =some d->Hz c j d) ⟨J.az _,aL⟩ ?_;rintro j w al μ hj ⟨H,S⟩ ak
 refine dit (λh1=>?_) λh1=>?_
 .let⟨d,D⟩:=cK c j;let⟨A,F,g0,g1,g2⟩:=(cy.ext H hd).aE D;have ar:=F.len;refine⟨V,V,_,g0,_,g1,A,g2,?_⟩;intro m2 q;have I:J w q:=((J.az w).aK _).ah (ad _) _ _;have G:∀r∈[w.size],r<q.size:=by simp[q,m2,aw]
  clear_value q;have K:=H.trans I;have i:∀{f:E},J q f->¬Hz c j d->∃M:Bool,vb false=.bool M/\(M=true<->dV c)/\J m f:=λag af=>bW (λa=>af (a.dB j d D)) (K.trans ag);refine⟨λf=>J q f/\zG c.length d.tf/\zG c.length d.to/\d.cons.length<=3/\(0<d.cons.length->d.tf=0/\d.to=0),?_,?_⟩
  .refine(pN _ _ _).aI (J.az _) G λr m4 g N s=>⟨_,rfl,λe=>i s λa=>nb g e (v▸(mg.1 a).1.1),λe=>?_⟩;have p:=yb g e;refine(pN _ _ _).aI s G λr u g t b=>⟨_,rfl,λh=>i b λa=>nb g h (v▸(mg.1 a).1.2.1),λh=>?_⟩;have x:=yb g h;rw[v]at p x;refine dit (λy=>?_) λy=>?_
   .exact i b λa=>by have:=(mg.1 a).1.2.2.1;omega
   refine dit (λz=>?_) λz=>?_
   .refine⟨λl=>?_,λl=>?_⟩
    .simp only[vF]at l;exact i b λa=>l ((mg.1 a).1.2.2.2 V).1
    simp only[iS]at l;refine⟨λo=>?_,λo=>?_⟩
    .simp only[vF]at o;exact i b λa=>o ((mg.1 a).1.2.2.2 V).2
    simp only[iS]at o;exact⟨b,p,x,V,λ_=>⟨l,o⟩⟩
   .exact⟨b,p,x,V,λl=>V⟩
  .rintro m4 ⟨W,ae⟩;have ap:=pA.ext (I.trans W) F;refine dW (n:=d.cons.length) V (λk f=>J q f/\∀A∈d.cons.take k,A.length<=3/\Fu c.length A) ⟨W,aL⟩ ?_;rintro L u I2 μ2 hi ⟨l,T⟩ ah;refine dit (λN=>?_) λN=>?_
   .let⟨B,o⟩:=cK d.cons L;let⟨P,C,Q⟩:=(pA.ext (I.trans l) F).aE o;have U:=C.len;refine⟨V,V,P,Q,?_⟩;intro x y;have p:J u y:=((J.az u).aK _).ah (ad _) _ _;have R:∀r∈[u.size,w.size],r<y.size:=by
     have:=l.lt (G w.size aL);simp[y,x,aw];omega
    clear_value y;refine dit (λs=>?_) λs=>?_
    .exact i (l.trans p) λa=>by have:=((mg.1 a).2.1 B (aq o)).1;omega
    exact(vT (C.ext p) _).aI (J.az _) R λr z g e t=>⟨_,rfl,λb=>i ((l.trans p).trans e) λa=>nb g b (v▸((mg.1 a).2.1 B (aq o)).2),λb=>ah V _ ⟨(l.trans p).trans e,bD o T ⟨V,v▸yb g b⟩⟩⟩
   .have ab:=df V T;refine⟨V,V,V,?_⟩;have P:cy u (bq.cut 0 j 3) (c.take j):=eU.TE (cy.ext (K.trans l) hd) V;have am:(bq.cut 0 j 3).len=j:=by rw[P.len];simp;omega
    simp -zeta only[ub,Int.toNat_zero];refine dW (n:=j) V (λk f=>J u f/\∀g∈c.take k,¬(d.cons.length=0/\g.cons.length=0/\g.tf=d.tf/\g.to=d.to)) ⟨J.az _,aL⟩ ?_;rintro p x Y μ3 ax ⟨C,U⟩ ai;refine dit (λs=>?_) λs=>?_
    .let⟨g,Q⟩:=cK c p;have R:(c.take j)[p]? =some g:=by rw[lR,ao V];exact Q
     let⟨Z,ac,q0,q1,q2⟩:=(cy.ext C P).aE R;have au:=ac.len;refine⟨V,V,_,q0,_,q1,Z,q2,?_⟩;intro y z;have X:J x z:=((J.az x).aK _).ah (ad _) _ _;clear_value z;have B:¬(d.cons.length=0/\g.cons.length=0/\g.tf=d.tf/\g.to=d.to)->Y (cT ((p:Int)+1)) z/\μ3 (cT ((p:Int)+1)) z<μ3 p x:=λo=>ai V _ ⟨C.trans X,bD Q U o⟩;refine⟨λe=>?_,λe=>?_⟩
     .simp only[aG]at e;refine⟨λt=>?_,λt=>?_⟩
      .simp only[aG]at t;refine⟨λb=>?_,λb=>?_⟩
       .simp only[aG]at b;refine⟨λh=>?_,λh=>?_⟩
        .simp only[aG]at h;exact i ((l.trans C).trans X) λa=>(mg.1 a).2.2 g (aq R) ⟨V,V,b,h⟩
        .simp only[aj]at h;exact B λo=>h o.2.2.2
       .simp only[aj]at b;exact B λo=>b o.2.2.1
      .simp only[aj]at t;exact B λo=>t V
     .simp only[aj]at e;exact B λo=>e V
    .have:p=j:=V;subst this;refine ak V _ ⟨(K.trans l).trans C,λb e h a=>?_⟩
     by_cases g:b=p
     .subst g;rw[D]at a;simp at a;subst a;exact mg.2 ⟨ae,ab,U⟩
     .exact S b e V a
 .exact iV ⟨V,λL d bH=>S L d (oh (av bH)) bH⟩ H
def Oo(m:E)(b:List Ce)(p:dA):Prop:=∃a l,b=[.s a,.s l,.i p.aS]/\ap m a p.params/\ap m l p.cW
def Oo.ext{m d:E}(b:J m d)(a:List Ce)(c:dA):Oo m a c->Oo d a c:=λ⟨f,g,e,h,i⟩=>⟨f,g,e,h.ext b,i.ext b⟩
abbrev pH(m:E)(s:O)(l:List dA):Prop:=eU m 3 (Oo m) s l
def pH.ext{m b:E}(a:J m b){s:O}{l:List dA}(h:pH m s l):pH b s l:=h.mono a (Oo.ext a)
def pH.aE{s:O}{l:List dA}(h:pH m s l){x:dA}(f:l[k]? =some x):
 ∃a b,ap m a x.params/\ap m b x.cW/\af m s.D (s.off+k*3)=some (O.v a)/\af m s.D (s.off+k*3+1)=some (O.v b)/\af m s.D (s.off+k*3+2)=some (vi x.aS):=by
 obtain⟨g,⟨a,b,rfl,d,e⟩,c⟩:=h.iJ k x f
 exact⟨a,b,d,e,c 0 (.s a) rfl,c 1 (.s b) rfl,c 2 (.i x.aS) rfl⟩
def Gf{Y Z:O}{q:List bA}{c:List dA}(hd:cy m Y q)(P:pH m Z c):
 dw cp 147 [O.v Y,O.v Z] m (KE q c/\∀p∈c,DV p.params p.cW):=by
 apply Af
 simp -zeta only[aC,aB]
 have N:=hd.len
 have aA:=P.len
 refine(Eb hd).then λu m1 e f=>⟨_,rfl,λG=>bW (λa=>nb e G a.1.types) f,λG=>?_⟩
 have ht:=yb e G
 refine dit (λh2=>?_) λh2=>?_
 .exact bW (λa=>oh a.1.len) f
 refine dit (λh3=>?_) λh3=>?_
 .exact bW (λa=>oh a.1.len) f
 let⟨p0,A⟩:=cK c 0
 let⟨a0,l0,al,aD,g0,g1,g2⟩:=(pH.ext f P).aE A
 have ay:=al.len
 refine⟨V,V,a0,g0,dit (λh4=>?_) λh4=>?_⟩
 .exact bW (λa=>oh ((a.1.first p0 A).1)) f
 refine⟨V,V,_,g2,λs=>?_,λs=>?_⟩
 .simp only[vF]at s
  exact bW (λa=>s (a.1.first p0 A).2) f
 simp only[iS]at s
 refine dW (n:=c.length) V (λj U=>J m U/\∀p∈c.take j,(p.params.length<=3/\Fu q.length p.params/\zG q.length p.aS)/\DV p.params p.cW) ⟨f,aL⟩ ?_
 rintro j C au μ hj ⟨l,hn⟩ ap
 refine dit (λh6=>?_) λh6=>?_
 .let⟨p,i⟩:=cK c j
  let⟨ah,ao,M,z,q0,q1,q2⟩:=(pH.ext l P).aE i
  have az:=M.len
  have aF:=z.len
  have aE:=z.gY
  refine⟨V,V,ah,q0,ao,q1,_,q2,?_⟩
  intro m3 D
  have o:J C D:=((J.az C).aK _).ah (ad _) _ _
  have aa:∀u∈[C.size],u<D.size:=by simp[D,m3,aw]
  clear_value D
  refine dit (λh7=>?_) λh7=>?_
  .exact bW (λa=>oh ((a.1.dB p (aq i)).1)) (l.trans o)
  refine(vT (M.ext o) _).aI (J.az _) aa λu m5 e h8 h9=>⟨_,rfl,λH=>bW (λa=>nb e H (N▸(a.1.dB p (aq i)).2.1)) ((l.trans o).trans h8),λH=>?_⟩
  have ac:=yb e H
  refine(pN _ _ _).aI h9 aa λu W e ax I=>⟨_,rfl,λK=>bW (λa=>nb e K (N▸(a.1.dB p (aq i)).2.2)) ((l.trans o).trans I),λK=>?_⟩
  have ab:=yb e K
  rw[N]at ac ab
  have ae:J m W:=(l.trans o).trans I
  have S:J C W:=o.trans I
  refine dW (n:=p.cW.length) V (λk U=>U=W/\∀(j:Nat)(v:Int),j<k->p.cW[j]? =some v->(∃t,0<=v/\p.params[v.toNat]? =some t/\t≠0)/\(∀E:Int,0<j->p.cW[j -1]? =some E->E<v)) ⟨rfl,aL⟩ ?_
  rintro k m7 I2 μ2 hk ⟨rfl,Q⟩ af
  have w:¬DV p.params p.cW->∃X:Bool,vb false=.bool X/\(X=true<->KE q c/\∀p∈c,DV p.params p.cW)/\J m m7:=λan=>bW (λa=>an (a.2 p (aq i))) ae
  refine dit (λai=>?_) λai=>?_
  .let⟨x,g⟩:=cK p.cW k
   refine⟨V,V,x,by simpa using S.af (z.aE g),dit (λak=>?_) λak=>?_⟩
   .exact w λa=>by obtain⟨⟨t,y,_⟩,_⟩:=a k x g;omega
   refine⟨λy=>?_,λy=>?_⟩
   .simp only[oH,ar]at y
    refine w λa=>?_
    obtain⟨⟨t,_,d,_⟩,_⟩:=a k x g
    have:=av d;omega
   simp only[oH,bM]at y
   let⟨t,B⟩:=cK p.params x.toNat
   refine⟨V,V,t,by simpa using S.af (M.aE B),λd=>?_,λd=>?_⟩
   .simp only[aG]at d
    refine w λa=>?_
    obtain⟨⟨b,_,r,L⟩,_⟩:=a k x g
    rw[B]at r;simp at r;exact L (r▸d)
   simp only[aj]at d
   refine dit (λr=>?_) λr=>?_
   .have e2:cT ((k:Int) -1)=((k -1:Nat):Int):=by rw[aP V V];omega
    let⟨ag,T⟩:=cK p.cW (k -1)
    rw[e2]
    refine⟨V,V,ag,by simpa using S.af (z.aE T),dit (λL=>?_) λL=>?_⟩
    .exact w λa=>by have:=(a k x g).2 ag V T;omega
    .refine af V _ ⟨rfl,λh v am b=>?_⟩
     by_cases F:h=k
     .subst F
      rw[g]at b;simp at b;subst b
      refine⟨⟨t,V,B,d⟩,λE _ R=>?_⟩
      rw[T]at R;simp at R;subst R;omega
     .exact Q h v V b
   .refine af V _ ⟨rfl,λh v am b=>?_⟩
    by_cases F:h=k
    .subst F
     rw[g]at b;simp at b;subst b
     exact⟨⟨t,V,B,d⟩,λE L _=>V⟩
    .exact Q h v V b
  .exact ap V _ ⟨ae,bD i hn ⟨⟨V,ac,ab⟩,λh v b=>Q h v (oh (av b)) b⟩⟩
 .have b:=df V hn
  refine iV ⟨⟨ht,V,λp a=>(b p a).1,λp a=>?_⟩,λp a=>(b p a).2⟩ l
  rw[A]at a;simp at a;subst a
  exact⟨V,s⟩
end
section
variable{c:E}{d f a j:O}{b:cU}{i:Instr}
def Gc{H:O}(D:fC c d H b):
 aN cp 74 [.agg #[O.v d,O.v H]] c λan t=>∃T f e,an=.tuple #[.agg #[O.v T,O.v f],vb e]/\(e=true<->KE b.bq b.cE/\∀H∈b.cE,DV H.params H.cW)/\
  (e=true->T=d/\pH t f b.cE)/\J c t:=by
 apply Ae
 simp -zeta only[aC,aB]
 intro G h
 have aq:=D.cE.len
 have s1:G.size=c.size+1:=by simp[G]
 have s2:h.size=c.size+2:=by simp[h,G]
 have ab:J c h:=((J.az c).aK _).aK _
 refine dit (λh1=>?_) λh1=>?_
 .intro g
  exact⟨_,_,_,rfl,⟨sx,λD=>oh D.1.len⟩,sx,ab.ah V _ _⟩
 intro m4 C
 have s5:C.size=c.size+3:=by simp[C,m4,aw,s2]
 have al:J c C:=(ab.aK _).ah V _ _
 have ah:cJ C h.size my [.s d,.s .nil]:=cJ.ah (m:=m4) (o:=0) (r:=[.s d,.s .nil]) (cJ.push h _ _)
 clear_value C
 refine dW (n:=b.cE.length) V (λM t=>J c t/\C.size<=t.size/\∃g w,cJ t h.size my [.s d,.s g]/\ic c t qe 3 g w.flatten/\gV 3 (Oo c) w (b.cE.take M)/\(g≠.nil->h.size<g.D)/\g.len=M)
  ⟨al,ad _,.nil,[],ah,ic.nil _ _ _ _,by simpa using gV.nil 3 (Oo c),aL,rfl⟩ ?_
 rintro M i ao μ hk ⟨l,ar,g,w,s,K,L,Q,aa⟩ am
 refine dit (λh2=>?_) λh2=>?_
 .let⟨N,Y⟩:=cK b.cE M
  let⟨a,e,ac,ha,p,y,g0,g1,g2,g3,g4⟩:=D.cE.aE Y
  refine⟨V,V,a,by simpa using l.af g0,e,by simpa using l.af g1,_,by simpa using l.af g2,_,by simpa using l.af g3,ac,by simpa using l.af g4,?_⟩
  intro S j
  have F:J i j:=((J.az i).aK _).ah (ad _) _ _
  have s8:j.size=i.size+1:=by simp[j,S,aw]
  clear_value j
  refine⟨g,(s.ext F).cg 1,?_⟩
  intro u
  have R:J i u:=F.aK _
  have s9:u.size=i.size+2:=by simp[u,s8]
  have jC:fR u j.size 0 [.s a,.s e,.i N.aS]:=(cJ.push j _ _).iJ
  clear_value u
  refine ic.append (zs:=[.s .nil,.s .nil,.i 0]) (d:=[.s a,.s e,.i N.aS]) (K.ext R) (l.trans R) rfl jC (by simp[aa];omega) ?_
  intro v A h7 h8 U ap ae af
  have Z:v≠.nil->h.size<v.D:=by
   intro z;rcases af with⟨_,x⟩|⟨aj,x,_⟩|x
   .exact absurd x z
   .have:=Q aj;omega
   .omega
  have I:∀k,k<u.size->k<=h.size\/k=i.size/\(g=.nil\/g.D<i.size)->A[k]? =u[k]? :=by
   intro k q y;refine ae k q λz=>?_;have:=Q z;rcases y with y|⟨rfl,y|y⟩
   .omega
   .exact absurd y z
   .omega
  have ai:g=.nil\/g.D<i.size:=K.lt
  have W:cJ A h.size my [.s d,.s g]:=(s.ext R).congr (I _ V (Or.inl (ad _)))
  refine⟨λk q=>?_,W.fL aL,?_⟩
  .simp at q
   rcases q with rfl|rfl|rfl
   .exact I _ V (Or.inr ⟨rfl,ai⟩)
   .exact I _ V (Or.inl V)
   .exact I _ V (Or.inl V)
  intro B
  have au:B.size=A.size:=by simp[B,aw]
  have ag:cJ B h.size my [.s d,.s v]:=cJ.ah (m:=A) (o:=1) (r:=[.s v]) W
  have X:∀e,e≠h.size->B[e]? =A[e]? :=λe p=>bd _ _ _ _ p
  have ak:J c B:=h8.ah V _ _
  clear_value B
  refine⟨λk q=>?_,?_⟩
  .simp at q
   rcases q with rfl|rfl|rfl<;>exact X _ V
  refine am V _ ⟨ak,V,v,w++[[.s a,.s e,.i N.aS]],ag,?_,?_,Z,by simp[U,aa]⟩
  .rw[qR]
   have P:ic c A qe 3 v (w.flatten++[[.s a,.s e,.i N.aS]].flatten):=by simpa using h7
   rcases P.lt with x|x
   .subst x;exact⟨P.len,Or.inl rfl⟩
   .refine P.congr (X _ λe2=>?_)
    by_cases E:v=.nil
    .subst E
     have:=U
     simp at this
    .have:=Z E;omega
  .rw[aU Y]
   exact L.yQ rfl ⟨a,e,rfl,ha,p⟩
 .rw[bY V]at L
  have x:pH i g b.cE:=(eU.gB K L V V).mono (J.az _) (Oo.ext l)
  refine⟨d,s.cg 0,g,s.cg 1,g,s.cg 1,?_⟩
  have u:∀e∈[G.size,c.size],e<i.size:=bF
  refine(Gf (cy.ext l D.bq) x).aI (J.az _) u λe S p k _=>⟨_,rfl,k.de (s.cg 0),k.de (s.cg 1),?_⟩
  intro j
  have z:∀e,e≠G.size->j[e]? =S[e]? :=λe p=>bd _ _ _ _ p
  have F:J c j:=(l.trans k).ah V _ _
  refine⟨d,g,e,rfl,p,λ_=>⟨rfl,?_⟩,F⟩
  have q:=K.ext k
  have v:ic c j qe 3 g w.flatten:=by
   by_cases E:g=.nil
   .subst E;exact⟨q.len,Or.inl rfl⟩
   .exact q.congr (z _ (oh (Q E)))
  exact(eU.gB v L V V).mono (J.az _) (Oo.ext F)
def gQ(b:cU)(i:Instr)(a:Int->Prop):Prop:=
 if i.op=0 then -999<=i.bQ/\i.bQ<=999
 else if i.op=6 then 0<=i.bQ/\i.bQ<(eT b.bq).length
 else if i.op=9\/i.op=24 then 0<=i.bQ/\i.bQ<b.cE.length
 else if i.op=10 then 0<=i.bQ/\∃q,b.cE[i.bQ.toNat]? =some q/\q.cW.length=0
 else if i.op=19 then 0<=i.bQ/\i.bQ<3
 else if i.op=20\/i.op=22 then a i.bQ
 else if i.op=21 then 0<(cA b.bq i.bQ).length/\i.eN.length=(cA b.bq i.bQ).length
 else i.bQ=0
def HY(hd:cy c d b.bq)(x:dV b.bq)(A:pH c f b.cE)(N:ap c a i.args)(E:ap c j i.eN)(t:Nat)(v u:Array Value)(D:GL.elem t=true)(l:Int->Prop)
 (G:∀e,J c e->dw cp t (v.toList++[vi i.bQ]++u.toList) e (l i.bQ)):
 dw cp 150 [.agg #[O.v d,O.v f],.agg #[vi i.op,vi i.dst,vi i.bQ,vi i.bZ,O.v a,O.v j],.func (.func t) v u] c (gQ b i l):=by
 apply qI d f i.op i.dst i.bQ i.bZ a j (.func t,v,u)
 simp -zeta only[aC,aB]
 intro y r
 have e:J c r:=((J.az c).aK _).aK _
 have w:∀z∈[y.size,c.size],z<r.size:=by simp[r,y];omega
 have Q:=A.len
 have R:=E.len
 have C:cJ r y.size dZ [.i i.op,.i i.dst,.i i.bQ,.i i.bZ,.s a,.s j]:=cJ.push _ _ _
 clear_value r
 refine⟨λk=>?_,λk=>?_⟩
 .simp only[aG]at k
  rw[show gQ b i l<->-999<=i.bQ/\i.bQ<=999 by rw[gQ,ao k]]
  refine⟨λh=>eV ?_ e,λh=>bW ?_ e⟩<;>simp at h
  .simp;omega
  .omega
 simp only[aj]at k
 refine⟨λm=>?_,λm=>?_⟩
 .simp only[aG]at m
  rw[show gQ b i l<->0<=i.bQ/\i.bQ<(eT b.bq).length by rw[gQ,ae k,ao m]]
  refine⟨λh=>?_,λh=>bW ?_ e⟩<;>simp at h
  .refine(qH (cy.ext e hd) x.len (Oz x)).aI (J.az _) w λB g _=>⟨_,rfl,g.de (C.cg 2),eV ?_ (e.trans g)⟩
   simp;omega
  .omega
 simp only[aj]at m
 refine⟨λn=>?_,λn=>?_⟩
 .simp only[bT,aG]at n
  rw[show gQ b i l<->0<=i.bQ/\i.bQ<b.cE.length by rw[gQ,ae k,ae m,ao n]]
  refine⟨λh=>eV ?_ e,λh=>bW ?_ e⟩<;>simp at h
  .simp;omega
  .omega
 simp only[bt,aj]at n
 replace n:¬(i.op=9\/i.op=24):=V
 refine⟨λo=>?_,λo=>?_⟩
 .simp only[aG]at o
  rw[show gQ b i l<->0<=i.bQ/\∃q,b.cE[i.bQ.toNat]? =some q/\q.cW.length=0 by rw[gQ,ae k,ae m,ae n,ao o]]
  refine⟨λh=>⟨λp=>?_,λp=>?_⟩,λh=>bW ?_ e⟩<;>simp at h
  .simp at p
   let⟨q,s⟩:=cK b.cE i.bQ.toNat
   let⟨I,H,P,F,K,g1,g2⟩:=(pH.ext e A).aE s
   have:=F.len
   refine⟨V,V,H,g1,eV ?_ e⟩
   simp only[aG]
   refine⟨λL=>⟨h,q,s,V⟩,λ⟨_,S,g,M⟩=>?_⟩
   rw[s]at g;simp at g;subst g;omega
  .simp at p
   exact bW (λ⟨_,q,g,_⟩=>oh (av g)) e
  .omega
 simp only[aj]at o
 refine⟨λp=>?_,λp=>?_⟩
 .simp only[aG]at p
  rw[show gQ b i l<->0<=i.bQ/\i.bQ<3 by rw[gQ,ae k,ae m,ae n,ae o,ao p]]
  refine⟨λh=>eV ?_ e,λh=>bW ?_ e⟩<;>simp at h
  .simp;omega
  .omega
 simp only[aj]at p
 refine⟨λq=>?_,λq=>?_⟩
 .simp only[bT,aG]at q
  rw[show gQ b i l<->l i.bQ by rw[gQ,ae k,ae m,ae n,ae o,ae p,ao q]]
  exact⟨t,rfl,D,(G r e).aI (J.az _) w λz B s g _=>⟨_,rfl,eV s (e.trans g)⟩⟩
 simp only[bt,aj]at q
 replace q:¬(i.op=20\/i.op=22):=V
 refine⟨λs=>?_,λs=>?_⟩
 .simp only[aG]at s
  rw[show gQ b i l<->0<(cA b.bq i.bQ).length/\i.eN.length=(cA b.bq i.bQ).length by rw[gQ,ae k,ae m,ae n,ae o,ae p,ae q,ao s]]
  refine(tw (cy.ext e hd) x _).aI (J.az _) w ?_
  rintro _ B ⟨H,rfl,F,g⟩
  have:=F.len
  refine⟨g,_,rfl,λh=>eV ?_ (e.trans g),λh=>bW ?_ (e.trans g)⟩<;>simp at h
  .simp only[aG];omega
  .omega
 .simp only[aj]at s
  rw[show gQ b i l<->i.bQ=0 by rw[gQ,ae k,ae m,ae n,ae o,ae p,ae q,ae s]]
  exact eV aL e
def ig(b:cU)(i:Instr)(c a:Int):Prop:=
 if i.op=0\/i.op=22 then c=0/\a=0
 else if i.op=1\/i.op=2\/i.op=3\/i.op=4\/i.op=11 then c=2/\a=2
 else if i.op=6 then c=(cG b.bq i.bQ).length/\a=(cG b.bq i.bQ).length
 else if i.op=9\/i.op=24 then∃q,b.cE[i.bQ.toNat]? =some q/\c=q.params.length/\a=q.params.length
 else if i.op=10 then∃q,b.cE[i.bQ.toNat]? =some q/\c=(q.params.length:Int) -1/\a=(q.params.length:Int) -1
 else if i.op=16\/i.op=17 then c=1/\a=4
 else c=1/\a=1
def Lg(hd:cy c d b.bq)(A:dV b.bq)(x:pH c f b.cE){H:Int->Prop}(t:gQ b i H):
 aN cp 151 [.agg #[O.v d,O.v f],.agg #[vi i.op,vi i.dst,vi i.bQ,vi i.bZ,O.v a,O.v j]] c λK I=>∃B z:Int,K=.tuple #[vi B,vi z]/\ig b i B z/\J c I:=by
 apply rZ
 simp -zeta only[aC,aB]
 intro C u
 have g:J c u:=((J.az c).aK _).aK _
 have E:∀D∈[C.size,c.size],D<u.size:=by simp[u,C];omega
 have M:=x.len
 clear_value u
 refine⟨λh=>?_,λh=>?_⟩
 .simp only[bT,aG]at h
  exact⟨_,_,rfl,by rw[ig,ao h];exact⟨rfl,rfl⟩,g⟩
 simp only[bt,aj]at h
 have l:¬(i.op=0\/i.op=22):=V
 refine⟨λq=>?_,λq=>?_⟩
 .simp only[bT,aG]at q
  exact⟨_,_,rfl,by rw[ig,ae l,ao q];exact⟨rfl,rfl⟩,g⟩
 simp only[bt,aj]at q
 have n:¬(i.op=1\/i.op=2\/i.op=3\/i.op=4\/i.op=11):=V
 refine⟨λe=>?_,λe=>?_⟩
 .simp only[aG]at e
  rw[gQ,ae h.1,ao e]at t
  have m:=rq A b.bq.length
  rw[nh _ _ (ad _)]at m
  refine(HR (cy.ext g hd) A _ V).aI (J.az _) E ?_
  rintro _ p ⟨s,rfl,o,k⟩
  have:=o.len
  exact⟨k,_,rfl,_,_,rfl,by rw[ig,ae l,ae n,ao e];omega,g.trans k⟩
 simp only[aj]at e
 refine⟨λo=>?_,λo=>?_⟩
 .simp only[bT,aG]at o
  rw[gQ,ae h.1,ae e,ao o]at t
  let⟨v,m⟩:=cK b.cE i.bQ.toNat
  let⟨p,G,s,F,w,g1,g2⟩:=(pH.ext g x).aE m
  have:=s.len
  exact⟨V,V,p,w,_,_,rfl,by rw[ig,ae l,ae n,ae e,ao o];exact⟨v,m,V,V⟩,g⟩
 simp only[bt,aj]at o
 have r:¬(i.op=9\/i.op=24):=V
 refine⟨λk=>?_,λk=>?_⟩
 .simp only[aG]at k
  rw[gQ,ae h.1,ae e,ae r,ao k]at t
  obtain⟨L,v,m,_⟩:=t
  let⟨p,G,s,F,w,g1,g2⟩:=(pH.ext g x).aE m
  have:=s.len
  have:=s.gY
  have:=av m
  have y:cT ((p.len:Int) -1)=(v.params.length:Int) -1:=by rw[aP V V];omega
  exact⟨V,V,p,w,_,_,rfl,by rw[ig,ae l,ae n,ae e,ae r,ao k];exact⟨v,m,y,y⟩,g⟩
 simp only[aj]at k
 refine⟨λm=>?_,λm=>?_⟩
 .simp only[bT,aG]at m
  exact⟨_,_,rfl,by rw[ig,ae l,ae n,ae e,ae r,ae k,ao m];exact⟨rfl,rfl⟩,g⟩
 .simp only[bt,aj]at m
  have p:¬(i.op=16\/i.op=17):=V
  exact⟨_,_,rfl,by rw[ig,ae l,ae n,ae e,ae r,ae k,ae p];exact⟨rfl,rfl⟩,g⟩
end
section
variable{m:E}{x k:Int}{a b1:Nat}{c:O}
def yh(b:af m a 0=some (vi k))(d:af m b1 4=some (O.v c)):
 dw cp 148 [vi x,vp a 0,vp b1 0] m (k+1<=x/\x<=(c.len:Int) -1):=by
 apply oO (a,0) (b1,0)
 refine⟨k,b,λh=>⟨c,d,eV ?_ (J.az _)⟩,λh=>bW ?_ (J.az _)⟩<;>simp at h
 .simp;omega
 .omega
def JP{b2:Nat}(b:af m a 0=some (vi k))(d:af m b1 4=some (O.v c))
 (e:af m b2 0=some (.func (.func 148) #[] #[vp a 0,vp b1 0])):
 dw cp 149 [vi x,vp b2 0] m (¬(k+1<=x/\x<=(c.len:Int) -1)):=by
 apply oP (b2,0)
 refine⟨(.func 148,#[],#[vp a 0,vp b1 0]),e,_,rfl,rfl,?_⟩
 refine(yh b d).then λh i f g=>⟨_,rfl,eV ?_ g⟩
 rw[<-f];simp
def Jr{u:cU}{p:dA}{k:Nat}{i:Instr}(N:p.ak<=2000)(L:u.cE.length<=4)(F:∀q∈u.cE,q.params.length<=3):
 iW u p k i<->((0<=i.op/\i.op<=24/\i.op≠7/\i.op≠8/\i.op≠12/\i.op≠13)/\(0<=i.dst/\i.dst<p.ak/\(i.dst=0\/mf i.op)/\0<=i.bZ/\i.bZ<=p.ak/\(i.bZ=0\/i.op=6))/\
  (∀n∈i.args,0<=n/\n<p.ak)/\(i.eN.length=0\/i.op=21)/\(∀t∈i.eN,(k:Int)+1<=t/\t<=(p.dv.length:Int) -1)/\
  gQ u i (λt=>(k:Int)+1<=t/\t<=(p.dv.length:Int) -1)/\∀j h,ig u i j h->j<=i.args.length/\(i.args.length:Int)<=h):=by
 have M:(0<=i.dst/\i.dst<p.ak)->0<p.ak:=λw=>V
 constructor
 .intro w
  have b:=w.op
  have hd:=w.dst
  have C:∀n∈i.args,0<=n/\n<p.ak:=λn f=>by have:=w.args n f;omega
  have s:i.op≠21->∀t∈i.eN,(k:Int)+1<=t/\t<=(p.dv.length:Int) -1:=λH t I=>by
   rcases w.eN with o|o
   .exact absurd o H
   .rw[List.length_eq_zero_iff.1 o]at I;cases I
  have D:i.eN.length=0\/i.op=21:=w.eN.symm
  have G:0<=i.dst/\i.dst<p.ak:=V
  have iQ:∀(_:0<=i.op/\i.op<=24/\i.op≠7/\i.op≠8/\i.op≠12/\i.op≠13)(_:0<=i.bZ/\i.bZ<=p.ak)(_:∀t∈i.eN,(k:Int)+1<=t/\t<=(p.dv.length:Int) -1)
   (_:gQ u i (λt=>(k:Int)+1<=t/\t<=(p.dv.length:Int) -1))(_:∀j h,ig u i j h->j<=i.args.length/\(i.args.length:Int)<=h),_:=
   λE B F K o=>(⟨E,⟨G.1,G.2,w.Yl,B.1,B.2,w.bZ⟩,C,D,F,K,o⟩:(0<=i.op/\i.op<=24/\i.op≠7/\i.op≠8/\i.op≠12/\i.op≠13)/\(0<=i.dst/\i.dst<p.ak/\(i.dst=0\/mf i.op)/\0<=i.bZ/\i.bZ<=p.ak/\(i.bZ=0\/i.op=6))/\
   (∀n∈i.args,0<=n/\n<p.ak)/\(i.eN.length=0\/i.op=21)/\(∀t∈i.eN,(k:Int)+1<=t/\t<=(p.dv.length:Int) -1)/\
   gQ u i (λt=>(k:Int)+1<=t/\t<=(p.dv.length:Int) -1)/\∀j h,ig u i j h->j<=i.args.length/\(i.args.length:Int)<=h)
  have r:i.op≠6->0<=i.bZ/\i.bZ<=p.ak:=λH=>by rcases w.bZ with o|o<;>omega
  unfold lW at b
  by_cases c:i.op=0
  .rw[ao c]at b
   refine iQ V (r V) (s V) (by rw[gQ,ao c];exact b.2) (λj h f=>?_)
   rw[ig,ao (Or.inl c)]at f;omega
  rw[ae c]at b
  by_cases g:i.op=1\/i.op=2\/i.op=3\/i.op=4\/i.op=11
  .rw[ao g]at b
   refine iQ V (r V) (s V) ?_ (λj h f=>?_)
   .rw[gQ,ae c,ae V,ae V,ae V,ae V,ae V,ae V];exact b.2
   .rw[ig,ae V,ao g]at f;omega
  rw[ae g]at b
  by_cases A:i.op=5\/i.op=14\/i.op=15\/i.op=18\/i.op=23
  .rw[ao A]at b
   refine iQ V (r V) (s V) ?_ (λj h f=>?_)
   .rw[gQ,ae c,ae V,ae V,ae V,ae V,ae V,ae V];exact b.2
   .rw[ig,ae V,ae g,ae V,ae V,ae V,ae V]at f;omega
  rw[ae A]at b
  by_cases a:i.op=6
  .rw[ao a]at b
   refine iQ V b.2.2 (s V) ?_ (λj h f=>?_)
   .rw[gQ,ae c,ao a];exact b.1
   .rw[ig,ae V,ae g,ao a]at f;omega
  rw[ae a]at b
  by_cases d:i.op=9\/i.op=24
  .rw[ao d]at b
   let⟨q,o,x,v⟩:=b
   have:=av x
   refine iQ V (r V) (s V) ?_ (λj h f=>?_)
   .rw[gQ,ae c,ae a,ao d];omega
   .rw[ig,ae V,ae g,ae a,ao d]at f
    let⟨J,l,y,m⟩:=f
    rw[x]at l;simp at l;subst l;omega
  rw[ae d]at b
  by_cases e:i.op=10
  .rw[ao e]at b
   let⟨⟨q,o,x,v⟩,l⟩:=b
   have:=av x
   refine iQ V (r V) (s V) ?_ (λj h f=>?_)
   .rw[gQ,ae c,ae a,ae d,ao e];exact⟨o,q,x,l q x⟩
   .rw[ig,ae V,ae g,ae a,ae d,ao e]at f
    let⟨J,l,y,m⟩:=f
    rw[x]at l;simp at l;subst l;omega
  rw[ae e]at b
  by_cases l:i.op=16\/i.op=17
  .rw[ao l]at b
   refine iQ V (r V) (s V) ?_ (λj h f=>?_)
   .rw[gQ,ae c,ae a,ae d,ae e,ae V,ae V,ae V];exact b.2
   .rw[ig,ae V,ae g,ae a,ae d,ae e,ao l]at f;omega
  rw[ae l]at b
  by_cases m:i.op=19
  .rw[ao m]at b
   refine iQ V (r V) (s V) ?_ (λj h f=>?_)
   .rw[gQ,ae c,ae a,ae d,ae e,ao m];omega
   .rw[ig,ae V,ae g,ae a,ae d,ae e,ae l]at f;omega
  rw[ae m]at b
  by_cases z:i.op=20
  .rw[ao z]at b
   refine iQ V (r V) (s V) ?_ (λj h f=>?_)
   .rw[gQ,ae c,ae a,ae d,ae e,ae m,ao (Or.inl z)];exact b.2
   .rw[ig,ae V,ae g,ae a,ae d,ae e,ae l]at f;omega
  rw[ae z]at b
  by_cases v:i.op=22
  .rw[ao v]at b
   refine iQ V (r V) (s V) ?_ (λj h f=>?_)
   .rw[gQ,ae c,ae a,ae d,ae e,ae m,ao (Or.inr v)];exact b.2
   .rw[ig,ao (Or.inr v)]at f;omega
  rw[ae v]at b
  by_cases y:i.op=21
  .rw[ao y]at b
   refine iQ V (r V) b.2.2.2 ?_ (λj h f=>?_)
   .rw[gQ,ae c,ae a,ae d,ae e,ae m,ae V,ao y]
    have:=b.2.2.1
    exact⟨b.2.1,V⟩
   .rw[ig,ae V,ae g,ae a,ae d,ae e,ae l]at f;omega
  rw[ae y]at b
  exact b.elim
 .rintro⟨E,B,C,D,s,b,h⟩
  refine⟨λn f=>oh (C n f),V,B.2.2.1,B.2.2.2.2.2,D.symm,?_⟩
  unfold lW
  by_cases c:i.op=0
  .rw[ao c]
   rw[gQ,ao c]at b
   have:=h 0 0 (by rw[ig,ao (Or.inl c)];exact⟨rfl,rfl⟩)
   exact⟨V,b⟩
  rw[ae c]
  by_cases g:i.op=1\/i.op=2\/i.op=3\/i.op=4\/i.op=11
  .rw[ao g]
   rw[gQ,ae c,ae V,ae V,ae V,ae V,ae V,ae V]at b
   have:=h 2 2 (by rw[ig,ae V,ao g];exact⟨rfl,rfl⟩)
   exact⟨V,b⟩
  rw[ae g]
  by_cases A:i.op=5\/i.op=14\/i.op=15\/i.op=18\/i.op=23
  .rw[ao A]
   rw[gQ,ae c,ae V,ae V,ae V,ae V,ae V,ae V]at b
   have:=h 1 1 (by rw[ig,ae V,ae g,ae V,ae V,ae V,ae V];exact⟨rfl,rfl⟩)
   exact⟨V,b⟩
  rw[ae A]
  by_cases a:i.op=6
  .rw[ao a]
   rw[gQ,ae c,ao a]at b
   have:=h _ _ (by rw[ig,ae V,ae g,ao a];exact⟨rfl,rfl⟩)
   exact⟨b,V,V⟩
  rw[ae a]
  by_cases d:i.op=9\/i.op=24
  .rw[ao d]
   rw[gQ,ae c,ae a,ao d]at b
   let⟨q,j⟩:=cK u.cE i.bQ.toNat
   have:=h _ _ (by rw[ig,ae V,ae g,ae a,ao d];exact⟨q,j,rfl,rfl⟩)
   exact⟨q,b.1,j,V⟩
  rw[ae d]
  by_cases e:i.op=10
  .rw[ao e]
   rw[gQ,ae c,ae a,ae d,ao e]at b
   let⟨o,q,j,x⟩:=b
   have:=h _ _ (by rw[ig,ae V,ae g,ae a,ae d,ao e];exact⟨q,j,rfl,rfl⟩)
   refine⟨⟨q,o,j,V⟩,λJ r=>?_⟩
   rw[j]at r;simp at r;subst r;exact x
  rw[ae e]
  by_cases l:i.op=16\/i.op=17
  .rw[ao l]
   rw[gQ,ae c,ae a,ae d,ae e,ae V,ae V,ae V]at b
   have:=h 1 4 (by rw[ig,ae V,ae g,ae a,ae d,ae e,ao l];exact⟨rfl,rfl⟩)
   exact⟨V,b⟩
  have j:i.op≠22->∀(c:¬i.op=0)(g:¬(i.op=1\/i.op=2\/i.op=3\/i.op=4\/i.op=11))(a:¬i.op=6)(d:¬(i.op=9\/i.op=24))(e:¬i.op=10)(l:¬(i.op=16\/i.op=17)),i.args.length=1:=λo c g a d e l=>by
   have:=h 1 1 (by rw[ig,ae V,ae g,ae a,ae d,ae e,ae l];exact⟨rfl,rfl⟩);omega
  rw[ae l]
  by_cases m:i.op=19
  .rw[ao m]
   rw[gQ,ae c,ae a,ae d,ae e,ao m]at b
   exact⟨j V c g a d e l,V,V⟩
  rw[ae m]
  by_cases z:i.op=20
  .rw[ao z]
   rw[gQ,ae c,ae a,ae d,ae e,ae m,ao (Or.inl z)]at b
   exact⟨j V c g a d e l,b⟩
  rw[ae z]
  by_cases v:i.op=22
  .rw[ao v]
   rw[gQ,ae c,ae a,ae d,ae e,ae m,ao (Or.inr v)]at b
   have:=h 0 0 (by rw[ig,ao (Or.inr v)];exact⟨rfl,rfl⟩)
   exact⟨V,b⟩
  rw[ae v]
  by_cases y:i.op=21
  .rw[ao y]
   rw[gQ,ae c,ae a,ae d,ae e,ae m,ae V,ao y]at b
   exact⟨j V c g a d e l,b.1,V,s⟩
  rw[ae y]
  omega
end
section
variable{b:E}{d:O}{c:cU}
def Eg{W ah ax Q:O}(hd:cy b d c.bq)(ht:dV c.bq)(hf:pH b W c.cE)(aI:c.cE.length<=4)(h3:∀q∈c.cE,q.params.length<=3)
 {q:dA}(hc:fq b Q q.dv)(hr:q.ak<=2000){l:Nat}{e:Instr}{K P:O}(X:ap b K e.args)(hj:ap b P e.eN):
 dw cp 75 [.agg #[O.v d,O.v W],.agg #[O.v ah,O.v ax,vi q.aS,vi q.ak,O.v Q],vi l,.agg #[vi e.op,vi e.dst,vi e.bQ,vi e.bZ,O.v K,O.v P]] b (iW c q l e):=by
 apply pO
 simp -zeta only[aC,aB]
 intro B A E w
 have s1:B.size=b.size+1:=by simp[B]
 have s2:A.size=b.size+2:=by simp[A,s1]
 have s3:E.size=b.size+3:=by simp[E,s2]
 have s4:w.size=b.size+4:=by simp[w,s3]
 have z:J b w:=((((J.az b).aK _).aK _).aK _).aK _
 have am:cJ w A.size aA [.i l]:=(cJ.push A _ _).ext (J.push _ _)
 have an:cJ w B.size jH [.s ah,.s ax,.i q.aS,.i q.ak,.s Q]:=(cJ.push B _ _).ext ((J.push A _).aK _)
 have u:=Jr (u:=c) (p:=q) (k:=l) (i:=e) hr aI h3
 have aE:=hc.len
 have aR:=X.len
 have aS:=hj.len
 clear_value w
 clear_value E
 clear_value A
 clear_value B
 refine⟨λh=>bW (λf=>?_) z,λc0=>⟨λh=>bW (λf=>?_) z,λc1=>⟨λh=>bW (λf=>?_) z,λc2=>⟨λh=>bW (λf=>?_) z,λc3=>⟨λh=>bW (λf=>?_) z,λc4=>⟨λh=>bW (λf=>?_) z,λc5=>?_⟩⟩⟩⟩⟩⟩
 any_goals (have:=(u.1 f).1;simp at h;omega)
 simp at c0 c1 c2 c3 c4 c5
 have f1:0<=e.op/\e.op<=24/\e.op≠7/\e.op≠8/\e.op≠12/\e.op≠13:=V
 refine⟨λx=>J w x/\(0<=e.dst/\e.dst<q.ak/\(e.dst=0\/mf e.op)/\0<=e.bZ/\e.bZ<=q.ak/\(e.bZ=0\/e.op=6)),?_,?_⟩
 .refine⟨λh=>bW (λf=>?_) z,λG=>⟨λh=>bW (λf=>?_) z,λI=>?_⟩⟩
  .have:=(u.1 f).2.1;simp at h;omega
  .have:=(u.1 f).2.1;simp at h;omega
  simp at G I
  have tail:∀x,J w x->(e.dst=0\/mf e.op)->((decide (e.bZ<(0:Int)))=true->∃g:Bool,Value.bool false=.bool g/\(g=true<->iW c q l e)/\J b x)/\((decide (e.bZ<(0:Int)))=false->
   ((decide (e.bZ>q.ak))=true->∃g:Bool,Value.bool false=.bool g/\(g=true<->iW c q l e)/\J b x)/\((decide (e.bZ>q.ak))=false->
   ((e.bZ !=(0:Int))=true->((e.op !=(6:Int))=true->∃g:Bool,Value.bool false=.bool g/\(g=true<->iW c q l e)/\J b x)/\((e.op !=(6:Int))=false->J w x/\(0<=e.dst/\e.dst<q.ak/\(e.dst=0\/mf e.op)/\0<=e.bZ/\e.bZ<=q.ak/\(e.bZ=0\/e.op=6))))/\
   ((e.bZ !=(0:Int))=false->J w x/\(0<=e.dst/\e.dst<q.ak/\(e.dst=0\/mf e.op)/\0<=e.bZ/\e.bZ<=q.ak/\(e.bZ=0\/e.op=6))))):=by
   intro x H N
   have L:=z.trans H
   refine⟨λh=>bW (λf=>?_) L,λC=>⟨λh=>bW (λf=>?_) L,λF=>⟨λt=>⟨λh=>bW (λf=>?_) L,λM=>⟨H,?_⟩⟩,λt=>⟨H,?_⟩⟩⟩⟩
   .have:=(u.1 f).2.1;simp at h;omega
   .have:=(u.1 f).2.1;simp at h;omega
   .have:=(u.1 f).2.1.2.2.2.2.2;simp at h t;omega
   .simp at C F M;exact⟨G,I,N,C,F,Or.inr M⟩
   .simp at C F t;exact⟨G,I,N,C,F,Or.inl t⟩
  refine⟨λh=>?_,λh=>tail w (J.az _) (Or.inl (by simpa using h))⟩
  refine(rC e.op w ⟨V,V⟩).aI (J.az _) bF λv x D H _=>⟨v,rfl,λy=>bW (λf=>?_) (z.trans H),λy=>tail x H (Or.inr (yb D y))⟩
  have:=(u.1 f).2.1.2.2.1
  simp at h
  rcases this with s|s
  .exact h s
  .exact nb D y s
 .rintro x ⟨H,f2⟩
  refine dW (n:=e.args.length) (oh X.gY) (λae R=>J w R/\∀G∈e.args.take ae,0<=G/\G<q.ak) ⟨H,aL⟩ ?_
  rintro ae I aQ μ hn ⟨y,aj⟩ aO
  have aa:=z.trans y
  refine dit (λh=>?_) λh=>?_
  .let⟨G,t⟩:=cK e.args ae
   refine⟨V,V,G,by simpa using(X.ext aa).aE t,λs=>bW (λf=>?_) aa,λs=>⟨λC=>bW (λf=>?_) aa,λC=>aO V _ ⟨y,bD t aj ?_⟩⟩⟩
   .have:=(u.1 f).2.2.1 G (aq t);simp at s;omega
   .have:=(u.1 f).2.2.1 G (aq t);simp at C;omega
   .simp at s C;omega
  .have ay:∀G∈e.args,0<=G/\G<q.ak:=df V aj
   intro m7 F
   have s8:F.size=I.size+1:=by simp[F,m7,aw]
   have C:J I F:=((J.az I).aK _).ah (ad _) _ _
   have ac:=aa.trans C
   have al:af F I.size 0=some (.func (.func 148) #[] #[vp A.size 0,vp B.size 0]):=
    (cJ.ah (m:=m7) (o:=0) (r:=[.fn (.func 148) #[] #[vp A.size 0,vp B.size 0]]) (cJ.push I _ _)).cg 0
   have aT:=y.size
   clear_value F
   have aK:∀N,J F N->∀t,dw cp 148 [vi t,vp A.size 0,vp B.size 0] N ((l:Int)+1<=t/\t<=(q.dv.length:Int) -1):=λN s t=>by
    rw[<-aE];exact yh (am.ext (y.trans (C.trans s))|>.cg 0) (an.ext (y.trans (C.trans s))|>.cg 4)
   have jV:(e.eN.length=0\/e.op=21)->aN cp 78 [O.v P,.func (.func 149) #[] #[vp I.size 0]] F λaP U=>
    eH [E.size,b.size] F U/\∃ag:Bool,aP=vb ag/\(ag=true->∃g:Bool,Value.bool false=.bool g/\(g=true<->iW c q l e)/\J b U)/\
    (ag=false->∃L:Fn×Array Value×Array Value,af U I.size 0=some (.func L.1 L.2.1 L.2.2)/\
    aN cp 150 [.agg #[O.v d,O.v W],.agg #[vi e.op,vi e.dst,vi e.bQ,vi e.bZ,O.v K,O.v P],.func L.1 L.2.1 L.2.2] U λab M=>
    eH [E.size,b.size] U M/\∃T:Bool,ab=vb T/\((!T)=true->∃g:Bool,Value.bool false=.bool g/\(g=true<->iW c q l e)/\J b M)/\
    ((!T)=false->aN cp 151 [.agg #[O.v d,O.v W],.agg #[vi e.op,vi e.dst,vi e.bQ,vi e.bZ,O.v K,O.v P]] M λai S=>
    eH [E.size,b.size] M S/\∃Y:Int,∃Z:Int,ai=.tuple #[vi Y,vi Z]/\
    ((decide ((K.len:Int)>=Y))=true->∃g:Bool,Value.bool (decide ((K.len:Int)<=Z))=.bool g/\(g=true<->iW c q l e)/\J b S)/\
    ((decide ((K.len:Int)>=Y))=false->∃g:Bool,Value.bool false=.bool g/\(g=true<->iW c q l e)/\J b S))):=by
    intro aF
    have hl:∀v∈[E.size,b.size],v<F.size:=bF
    refine(jd (hj.ext ac) 149 #[] #[vp I.size 0] bh (λt=>¬((l:Int)+1<=t/\t<=(Q.len:Int) -1)) (λt _ N s=>JP (am.ext (y.trans (C.trans s))|>.cg 0) (an.ext (y.trans (C.trans s))|>.cg 4) (s.af al))).aI (J.az _) hl ?_
    intro v N D s _
    have M:=ac.trans s
    refine⟨v,rfl,λaD=>bW (λf=>?_) M,λaz=>?_⟩
    .let⟨t,ab,g⟩:=D.1 aD
     have:=(u.1 f).2.2.2.2.1 t ab
     exact g V
    have aG:∀t∈e.eN,(l:Int)+1<=t/\t<=(q.dv.length:Int) -1:=λt ab=>by
     rcases dT ((l:Int)+1<=t/\t<=(Q.len:Int) -1)with h|h
     .omega
     .exact absurd (D.2 ⟨t,ab,h⟩) (by simp[az])
    refine⟨(.func 148,#[],#[vp A.size 0,vp B.size 0]),s.af al,?_⟩
    have ao:∀v∈[E.size,b.size],v<N.size:=λv D=>s.lt (hl v D)
    refine(HY (cy.ext M hd) ht (pH.ext M hf) (X.ext M) (hj.ext M) 148 #[] #[vp A.size 0,vp B.size 0] bh (λt=>(l:Int)+1<=t/\t<=(q.dv.length:Int) -1) (λR g=>by simpa using aK R (s.trans g) e.bQ)).aI (J.az _) ao ?_
    intro b2 aM ak L _
    have Z:=M.trans L
    refine⟨b2,rfl,λh=>bW (λf=>nb ak h (u.1 f).2.2.2.2.2.1) Z,λh=>?_⟩
    have au:=yb ak h
    have aH:∀v∈[E.size,b.size],v<aM.size:=λv D=>L.lt (ao v D)
    refine(Lg (cy.ext Z hd) ht (pH.ext Z hf) (a:=K) (j:=P) au).aI (J.az _) aH ?_
    rintro _ aU ⟨lo,Y,rfl,R,ai⟩
    have av:=Z.trans ai
    have aJ:∀T S,ig c e T S->T=lo/\S=Y:=λT S g=>by
     unfold ig at R g;repeat' (split at R)
     all_goals simp_all
     all_goals (obtain⟨q1,e1,e2,e3⟩:=R;simp_all)
    refine⟨ai,lo,Y,rfl,λh=>eV ?_ av,λh=>bW (λf=>?_) av⟩
    .rw[u]
     simp only[ar]at h⊢
     refine⟨λg=>⟨f1,f2,ay,aF,aG,au,λT S h2=>?_⟩,λg=>?_⟩
     .obtain⟨rfl,rfl⟩:=aJ T S h2;omega
     .have:=g.2.2.2.2.2.2 lo Y R;omega
    .have:=(u.1 f).2.2.2.2.2.2 lo Y R
     simp at h;omega
   refine⟨λs=>⟨λL=>bW (λf=>?_) ac,λL=>jV (Or.inr (by simpa using L))⟩,λs=>jV (Or.inl (by simp at s;omega))⟩
   have:=(u.1 f).2.2.2.1
   simp at s L;omega
def D0{ah:O}(v:fC b d ah c):dw cp 43 [.agg #[O.v d,O.v ah]] b (nE c):=by
 apply yD;simp -zeta only[aC,aB];intro F;have ac:J b F:=(J.az b).aK _;have s1:F.size=b.size+1:=by simp[F]
 clear_value F;refine(Gc (v.ext ac)).aI (J.az _) bF ?_;rintro _ M ⟨d',aj,ai,rfl,Y,an,H⟩;refine⟨H,d',aj,ai,rfl,?_⟩;intro m3 t;have s4:t.size=M.size+1:=by simp[t,m3,aw]
 have W:J M t:=((J.az M).aK _).ah (ad _) _ _;have af:J b t:=(ac.trans H).trans W;have:=H.size;have aI:=v.cE.len;have aJ:=v.cE.gY;clear_value t;refine⟨λhn=>bW (λf=>nb Y hn ⟨f.om,λq x=>(f.dB q x).cW⟩) af,λhy=>?_⟩;let⟨D,am⟩:=yb Y hy;obtain⟨rfl,hf⟩:=an (by simpa using hy);refine dW (n:=c.cE.length) V (λQ z=>J t z/\∀q∈c.cE.take Q,HH c q) ⟨J.az _,aL⟩ ?_;rintro Q N ay μ hn ⟨A,X⟩ ax
 have K:=af.trans A;refine dit (λaG=>?_) λaE=>?_
 .let⟨q,x⟩:=cK c.cE Q;let⟨R,ag,S,ha,hl,w,g0,g1,g2,g3,g4⟩:=(v.ext K).cE.aE x;refine⟨V,V,R,by simpa using g0,ag,by simpa using g1,_,by simpa using g2,_,by simpa using g3,S,by simpa using g4,?_⟩;intro m6 u;have s7:u.size=N.size+1:=by simp[u,m6,aw]
  have r:J N u:=((J.az N).aK _).ah (ad _) _ _;have s:=K.trans r;have az:=ha.len;have aA:=w.len;have aD:=w.gY;have o:=aq x;clear_value u;refine⟨λe=>bW (λf=>?_) s,λT=>⟨λe=>bW (λf=>?_) s,λe2=>⟨λe=>bW (λf=>?_) s,λe3=>⟨λe=>bW (λf=>?_) s,λe4=>?_⟩⟩⟩⟩
  .have:=(f.dB q o).ak;simp at e;split at e<;>omega
  .have:=(f.dB q o).ak;simp at e;omega
  .have:=(f.dB q o).len;simp at e;omega
  .have:=(f.dB q o).len;simp at e;omega
  have ab:(q.params.length:Int)<=q.ak/\1<=q.ak/\q.ak<=2000:=by
   simp at T e2;split at T<;>omega
  have al:1<=q.dv.length/\q.dv.length<=2000:=by simp at e3 e4;omega
  let⟨E,I⟩:=cK q.dv (q.dv.length -1);obtain⟨a0,j0,_,_,L,_⟩:=(fq.ext r w).aE I;refine⟨λz=>J u z/\(E.op=23\/E.op=24),?_,?_⟩
  .have e:cT ((S.len:Int) -1)=((q.dv.length -1:Nat):Int):=by rw[aP V V];omega
   rw[e];refine⟨V,V,E.op,by simpa using L,λg=>⟨λh=>bW (λf=>?_) s,λh=>⟨J.az _,Or.inr (by simpa using h)⟩⟩,λg=>⟨J.az _,Or.inl (by simpa using g)⟩⟩;have:=(f.dB q o).MS E I;simp at g h;omega
  .rintro m8 ⟨h8,ak⟩;refine dW (n:=q.dv.length) V (λy z=>J u z/\∀(j:Nat)(h:Instr),j<y->q.dv[j]? =some h->iW c q j h) ⟨h8,λj h C=>V⟩ ?_;rintro y P I2 μ2 hk ⟨m,aa⟩ au;refine dit (λaH=>?_) λaF=>?_
   .let⟨h,g⟩:=cK q.dv y;let⟨xa,xj,ao,ap,L,k1,k2,k3,k4,k5⟩:=(fq.ext (r.trans m) w).aE g;refine⟨V,V,_,by simpa using L,_,by simpa using k1,_,by simpa using k2,_,by simpa using k3,xa,by simpa using k4,xj,by simpa using k5,?_⟩;intro ar G;have aM:G.size=P.size+1:=by simp[G,ar,aw]
    have p:J P G:=((J.az P).aK _).ah (ad _) _ _;have ae:=(s.trans m).trans p;have q1:=m.size;have q2:=A.size;clear_value G;refine(Eg (ah:=R) (ax:=ag) (cy.ext ae v.bq) D.types (pH.ext (W.trans (A.trans (r.trans (m.trans p)))) hf) D.len.2 (λU B=>(D.dB U B).1) (fq.ext (r.trans (m.trans p)) w) ab.2.2 (l:=y) (e:=h) (ao.ext p) (ap.ext p)).aI (J.az _) bF ?_;intro b' aK Z U _;refine⟨b',rfl,λe=>bW (λf=>nb Z e ((f.dB q o).dB y h g)) (ae.trans U),λe=>au V _ ⟨m.trans (p.trans U),λj i' C B=>?_⟩⟩;rcases Nat.lt_succ_iff_lt_or_eq.1 C with C|rfl
    .exact aa j i' C B
    .rw[g]at B;simp at B;subst B;exact yb Z e
   .refine ax V _ ⟨A.trans (r.trans m),bD x X ⟨am q o,ab,al,λj h g=>aa j h (oh (av g)) g,λh g=>?_⟩⟩
    rw[I]at g;simp at g;subst g;exact ak
 .exact iV ⟨D,df V X⟩ K
end
section
variable{m:E}{s:O}{k:Nat}{γ σ:Type}
def Po(m:E)(a:List Ce)(c:bN):Prop:=∃f,a=[.i c.aQ,.i c.kD,.s f]/\ap m f c.aF
def Kx(m:E)(a:List Ce)(f:aX):Prop:=∃r o h,a=[.i f.fw,.i f.pc,.i f.dst,.s r,.s o,.s h]/\ap m r f.ak/\ap m o f.aR/\ap m h f.aZ
abbrev cR(m:E)(s:O)(l:List bN):Prop:=eU m 3 (Po m) s l
abbrev iI(m:E)(s:O)(l:List aX):Prop:=eU m 6 (Kx m) s l
def Po.ext{m b:E}(g:J m b)(a:List Ce)(c:bN):Po m a c->Po b a c:=λ⟨f,d,e⟩=>⟨f,d,e.ext g⟩
def cR.ext{m b:E}(a:J m b){s:O}{l:List bN}(h:cR m s l):cR b s l:=h.mono a (Po.ext a)
def Kx.ext{m d:E}(a:J m d)(b:List Ce)(c:aX):Kx m b c->Kx d b c:=λ⟨r,o,h,e,f,g,i⟩=>⟨r,o,h,e,f.ext a,g.ext a,i.ext a⟩
def iI.ext{m b:E}(a:J m b){s:O}{l:List aX}(h:iI m s l):iI b s l:=h.mono a (Kx.ext a)
def cR.aE{l:List bN}(h:cR m s l){x:bN}(c:l[k]? =some x):
 ∃f,ap m f x.aF/\af m s.D (s.off+k*3)=some (vi x.aQ)/\af m s.D (s.off+k*3+1)=some (vi x.kD)/\af m s.D (s.off+k*3+2)=some (O.v f):=by
 obtain⟨d,⟨f,rfl,b⟩,a⟩:=h.iJ k x c
 exact⟨f,b,a 0 (.i x.aQ) rfl,a 1 (.i x.kD) rfl,a 2 (.s f) rfl⟩
def iI.aE{l:List aX}(h:iI m s l){x:aX}(b:l[k]? =some x):
 ∃r o e,ap m r x.ak/\ap m o x.aR/\ap m e x.aZ/\af m s.D (s.off+k*6)=some (vi x.fw)/\af m s.D (s.off+k*6+1)=some (vi x.pc)/\af m s.D (s.off+k*6+2)=some (vi x.dst)/\
  af m s.D (s.off+k*6+3)=some (O.v r)/\af m s.D (s.off+k*6+4)=some (O.v o)/\af m s.D (s.off+k*6+5)=some (O.v e):=by
 obtain⟨f,⟨r,o,e,rfl,d,c,a⟩,jC⟩:=h.iJ k x b
 exact⟨r,o,e,d,c,a,jC 0 (.i x.fw) rfl,jC 1 (.i x.pc) rfl,jC 2 (.i x.dst) rfl,jC 3 (.s r) rfl,jC 4 (.s o) rfl,jC 5 (.s e) rfl⟩
def _root_.Go.Vc.eU.pJ{l:List Int}(h:eU m 1 UP s l){i:Int}(a:0<=i)(b:i<l.length):af m s.D (s.off+i.toNat*1)=some (vi (aE l i)):=ap.aE h (lI a b)
structure RV(m:E)(mb o:Nat)(d p aT hp fr:O)(im:cU)(s:St):Prop where
 fe:fC m d p im
 bq:af m mb 0=some (O.v d)
 cE:af m mb 1=some (O.v p)
 cx:af m mb o=some (vi s.cx)
 value:af m mb (o+1)=some (vi s.value)
 bz:af m mb (o+2)=some (vi s.bz)
 dX:af m mb (o+3)=some (vi s.dX)
 aab:af m mb (o+4)=some (O.v aT)
 ru:af m mb (o+5)=some (O.v hp)
 OH:af m mb (o+6)=some (O.v fr)
 aT:ap m aT s.aT
 heap:cR m hp s.heap
 an:iI m fr s.an
def RV.ext{m f:E}{g o:Nat}{d p aT c b:O}{e:cU}{s:St}(h:RV m g o d p aT c b e s)(a:J m f):RV f g o d p aT c b e s:=
 ⟨h.fe.ext a,a.af h.bq,a.af h.cE,a.af h.cx,a.af h.value,a.af h.bz,a.af h.dX,a.af h.aab,a.af h.ru,a.af h.OH,h.aT.ext a,cR.ext a h.heap,iI.ext a h.an⟩
def Xm(P:Nat->Prop):∀(n:Nat),P n->∃k,P k/\∀j,P j->k<=j:=by
 intro n;induction n using Nat.strongRecOn with
 |_ n e=>
  intro b;rcases dT (∃j,j<n/\P j)with⟨j,a,d⟩|c
  .exact e j a d
  .exact⟨n,b,λj a=>dS λh=>c ⟨j,V,a⟩⟩
def Pe{p:σ}{j:(σ->E->Prop)->(σ->E->Nat)->σ->E->Prop}(J:γ->σ->E->Prop)(ν:γ->Nat)(l:γ)(r:J l p m)
 (q:∀(g:γ)(s:σ)(a:E)(I:σ->E->Prop)(μ:σ->E->Nat),J g s a->(∀b d c,J b d c->ν b<ν g->I d c/\μ d c<μ s a)->j I μ s a):
 ∃(I:σ->E->Prop)(μ:σ->E->Nat),I p m/\∀s a,I s a->j I μ s a:=by
 classical
 let I:σ->E->Prop:=λs m=>∃g,J g s m
 have h:∀s m,I s m->∃k,(∃g,J g s m/\ν g=k)/\∀o,(∃g,J g s m/\ν g=o)->k<=o:=λs m⟨g,i⟩=>Xm _ (ν g) ⟨g,i,rfl⟩
 let μ:σ->E->Nat:=λs m=>if e:I s m then Classical.choose (h s m e)else 0
 refine⟨I,μ,⟨l,r⟩,λs a e=>?_⟩
 let⟨g,i,u⟩:=(fN (h s a e)).1
 refine q g s a I μ i λb d c f t=>⟨⟨b,f⟩,?_⟩
 have n:I d c:=⟨b,f⟩
 simp only[μ,Tc e,Tc n]
 exact nP ((fN (h d c n)).2 _ ⟨b,f,rfl⟩) (u▸t)
def Si{τ:Type}{i:σ}{j:τ}{h:(σ->τ->E->Prop)->(σ->τ->E->Nat)->σ->τ->E->Prop}(J:γ->σ->τ->E->Prop)(ν:γ->Nat)(k:γ)(n:J k i j m)
 (l:∀(g:γ)(s:σ)(t:τ)(a:E)(I:σ->τ->E->Prop)(μ:σ->τ->E->Nat),J g s t a->(∀f d e c,J f d e c->ν f<ν g->I d e c/\μ d e c<μ s t a)->h I μ s t a):
 ∃(I:σ->τ->E->Prop)(μ:σ->τ->E->Nat),I i j m/\∀s t a,I s t a->h I μ s t a:=by
 let⟨I,μ,o,p⟩:=Pe (σ:=σ×τ) (p:=(i,j)) (j:=λI μ b a=>h (λs t=>I (s,t)) (λs t=>μ (s,t)) b.1 b.2 a) (λg b m=>J g b.1 b.2 m) ν k n (λg b a I μ q r=>l g b.1 b.2 a (λs t=>I (s,t)) (λs t=>μ (s,t)) q λf d e c=>r f (d,e) c)
 exact⟨λs t=>I (s,t),λs t=>μ (s,t),o,λs t=>p (s,t)⟩
end
section
variable{m g:E}{s d p a j t o e:O}{b r:List Int}{f:Nat}{K:Value->E->Prop}{c:cU}{x:Instr}
def _root_.Go.Vc.eU.Il(h:eU m 1 UP s b):fR m s.D s.off (b.map Ce.i):=λi d a=>by
 rw[cL]at a;obtain⟨x,c,rfl⟩:=Option.map_eq_some_iff.1 a;have:=ap.aE h c;rw[eS]at this;exact this
def oJ(f:Nat)(c:List Value)(m:E)(b:List Int):Prop:=aN cp f c m λv a=>∃s,v=O.v s/\ic m a aA 1 s (b.map Ce.i)/\J m a
def oJ.then{c:List Value}(h:oJ f c m b)(i:b.length<=1000000000)(e:∀s a,ic m a aA 1 s (b.map Ce.i)->ap a s b->J m a->K (O.v s) a):aN cp f c m K:=
 h.mono λ_ _⟨s,d,a,g⟩=>d▸e s _ a (ap.gB a V) g
def oJ.aI{c:List Value}{d:List Nat}(h:oJ f c m b)(l:b.length<=1000000000)(i:∀a∈d,a<m.size)(k:∀s a,ic m a aA 1 s (b.map Ce.i)->ap a s b->J m a->K (O.v s) a):aN cp f c m λv a=>eH d m a/\K v a:=
 h.mono λ_ _⟨s,j,e,g⟩=>⟨g.dy i,j▸k s _ e (ap.gB e V) g⟩
def dY(w:Int)(m:E):dw cp 119 [vi w] m (1000<=w):=by
 apply Bd;exact eV aL (J.az _)
def jf{a:O}{h:List bN}(j:cR m a h){w:Int}(C: -9223372036854775808<=w/\w<=9223372036854775807):dw cp 130 [O.v a,vi w] m (fW h w):=by
 apply GW;have z:=j.len;have A:=j.gY;have o:cT ((a.len:Int) -1)=(a.len:Int) -1:=aP V V;rw[o];have x:cT (w -1000)=w -1000\/(w<1000/\¬(0<=cT (w -1000)/\cT (w -1000)<=(a.len:Int) -1))\/(w<1000/\cT (w -1000)=w -1000+18446744073709551616):=by
  rcases dT (-9223372036854775808<=w -1000)with b|b
  .exact Or.inl (aP b V)
  .refine Or.inr (Or.inr ⟨V,?_⟩);simp only[cT,IntKind.wrap,IntKind.signed,IntKind.bits];simp;omega
 refine(aY _ _ _ _).then λn D i b=>⟨n,rfl,λu=>?_,λt=>?_⟩
 .refine(dY _ _).then λb2 E l g=>⟨b2,rfl,λs=>?_,λr=>bW (λc=>fb l r c.1) (b.trans g)⟩;have k:=l.1 s;have p:cT (w -1000)=w -1000:=aP V V;rw[p]at i⊢;have B:=i.1 u;let⟨e,c⟩:=cK h ((w -1000).toNat);obtain⟨f,y,q,_⟩:=(cR.ext (b.trans g) j).aE c;refine⟨V,V,e.aQ,q,eV ?_ (b.trans g)⟩;simp only[kQ,ar];refine⟨λa=>⟨k,e,c,a⟩,λ⟨_,v,d,a⟩=>?_⟩;unfold ix at d;rw[c]at d;simp at d;subst d;exact a
 .refine bW (λ⟨k,e,c,_⟩=>fb i t ?_) b;have:=av c;unfold ix at this;rw[aP V V];omega
def Mc(a:Int)(m:E):dw cp 68 [vi a] m (nl a):=by
 apply GU;refine⟨λh=>iV ?_ (J.az _),λh=>⟨λb=>iV ?_ (J.az _),λb=>eV ?_ (J.az _)⟩⟩<;>simp[nl]at* <;>omega
def Ll{q:dA}(a:c.cE[x.bQ.toNat]? =some q)(k:Nat):nK c x k=true<->(k:Int)∈q.cW:=by
 simp[nK,dQ,a,List.any_eq_true]
def zB(c:cU)(x:Instr):Prop:=(x.op=9\/x.op=24)->0<=x.bQ/\∃q,c.cE[x.bQ.toNat]? =some q
def iW.call{p:dA}{k:Nat}(h:iW c p k x):zB c x:=λe=>by
 have a:=h.op;unfold lW at a;rw[ae V,ae V,ae V,ae V,ao e]at a;obtain⟨q,b,d,_⟩:=a;exact⟨b,q,d⟩
def se(h:fC m d p c)(z:zB c x)(a j:O)(k:Nat):
 dw cp 122 [.agg #[O.v d,O.v p],.agg #[vi x.op,vi x.dst,vi x.bQ,vi x.bZ,O.v a,O.v j],vi k] m ((x.op=9\/x.op=24)/\nK c x k=true):=by
 apply EQ
 simp -zeta only[aC,aB]
 intro o b
 have n:J m b:=((J.az m).aK _).aK _
 have A:∀f∈[o.size,m.size],f<b.size:=by simp[b,o];omega
 have L:=h.cE.len
 clear_value b
 have q:∀e:x.op=9\/x.op=24,(0:Int)<=x.bQ/\x.bQ<(p.len:Int)/\∃u:O,af b p.D (p.off+Int.toNat x.bQ*5+1)=some (O.v u)/\
  aN cp 133 [O.v u,vi k] b λr s=>eH [o.size,m.size] b s/\∃t:Bool,r=vb t/\∃f:Bool,vb t=.bool f/\(f=true<->((x.op=9\/x.op=24)/\nK c x k=true))/\J m s:=λe=>by
  let⟨v,N,l⟩:=z e
  let⟨D,C,E,I,B,K,F,g1,g2,G,H⟩:=(h.ext n).cE.aE l
  have:=av l
  refine⟨v,V,C,g1,(dz B _).aI (J.az _) A λf M y w _=>⟨f,rfl,eV ?_ (n.trans w)⟩⟩
  rw[y,Ll l]
  exact⟨λh=>⟨e,h⟩,λh=>h.2⟩
 refine⟨λi=>q (Or.inl (by simpa using i)),λi=>⟨λg=>q (Or.inr (by simpa using g)),λg=>bW (λ⟨e,_⟩=>?_) n⟩⟩
 simp at i g;omega
def Iw(a:Int)(m:E):dw cp 121 [vi a] m (a=6\/a=9\/a=10\/a=11):=by
 apply sD;refine⟨λh=>iV ?_ (J.az _),λh=>⟨λb=>iV ?_ (J.az _),λb=>⟨λc=>iV ?_ (J.az _),λc=>eV ?_ (J.az _)⟩⟩⟩<;>simp at* <;>omega
def jA(c:cU)(x:Instr)(n:Nat):List Int:=iN c x 0 (x.args.take n)
def vC(c:cU)(x:Instr):∀(b r:List Int)(k:Nat),iN c x k (b++r)=iN c x k b++iN c x (k+b.length) r
 |[],r,k=>by simp[iN]
 |a::b,r,k=>by
  have:=vC c x b r (k+1);simp only[db,iN,this,ba];have e:k+(b.length+1)=k+1+b.length:=V;rw[e];split<;>simp
def tX(c:cU)(x:Instr):∀(b:List Int)(k:Nat),(iN c x k b).length<=b.length
 |[],k=>ad _
 |a::b,k=>by
  have:=tX c x b (k+1);simp only[iN];split<;>simp<;>omega
def Je(c:cU)(x:Instr):(bR c x).length<=x.args.length:=by
 unfold bR;split
 .exact ad _
 split
 .simp;omega
 split
 .exact tX _ _ _ _
 .simp
def J.tG{a c:E}(f:J g a)(h:J g c){b:List Nat}(d:∀x∈b,x<g.size):eH b a c:=λx e=>by rw[f.same x (d x e),h.same x (d x e)]
def nZ{v:Int}{K:O->E->Prop}(c:ic g m aA 1 s (b.map Ce.i))(h:J g m)(n:b.length<1000000000)
 (f:∀r a,ic g a aA 1 r ((b++[v]).map Ce.i)->J g a->K r a):
 jT (m.push (.cells (bu [.i v]) aA)) aA [.i (0:Int)] 8 s (O.mk m.size 0 1 1) K:=by
 have o:s.len=b.length:=by have:=c.len;simp at this;omega
 refine ic.append (zs:=[.i 0]) (d:=[.i v]) (c.ext (J.push _ _)) (h.aK _) rfl (cJ.push m _ _).iJ bF λr a d e i j k l=>?_
 exact f r a (by simpa using d) e
def Kl(aa:fC m d p c)(hc:zB c x)(I:ap m a x.args)(ak:x.args.length<=1000000)(ab:(x.op=16\/x.op=17)->1<=x.args.length):
 oJ 70 [.agg #[O.v d,O.v p],.agg #[vi x.op,vi x.dst,vi x.bQ,vi x.bZ,O.v a,O.v j]] m (bR c x):=by
 apply Fc
 simp -zeta only[aC,aB]
 intro C f Q
 have B:J m f:=((J.az m).aK _).aK _
 have s2:f.size=m.size+2:=by simp[f,C]
 have h3:J f Q:=(J.az f).aK _
 have u:ic f Q aA 1 (.mk f.size 0 0 0) []:=ic.new (J.az f) aA 1 [] 0 aL
 have s1:C.size=m.size+1:=by simp[C]
 have ah:=I.len
 have w:∀v∈[C.size,m.size],v<f.size:=λv t=>by simp at t;omega
 clear_value Q
 clear_value f
 have K:∀{o s b},ic f o aA 1 s b->ic m o aA 1 s b:=λu=>u.cz B.size
 refine⟨λZ o=>J f o/\ic f o aA 1 (.mk f.size 0 0 0) []/\(Z=true<->(x.op=15\/x.op=6\/x.op=10\/x.op=11\/x.op=18\/x.op=23\/x.op=9\/x.op=24)),?_,?_⟩
 .refine(Iw _ _).aI h3 w λv D t g i=>⟨v,rfl,λM=>⟨i,u.ext g,by have:=t.1 M;simp;omega⟩,λL=>?_⟩
  have h:=fb t L
  refine⟨λe=>⟨i,u.ext g,by simp at e;simp;omega⟩,λH=>⟨λe=>⟨i,u.ext g,by simp at e;simp;omega⟩,λq=>⟨λe=>⟨i,u.ext g,by simp at e;simp;omega⟩,λA=>⟨i,u.ext g,by simp at H q A;simp;omega⟩⟩⟩⟩
 .rintro Z D ⟨g,N,W⟩
  refine⟨λad=>?_,λac=>?_⟩
  .have hT:=W.1 ad
   refine eB (n:=x.args.length) V (λk s o=>J f o/\ic f o aA 1 s ((if x.op=9\/x.op=24 then jA c x k else x.args.take k).map Ce.i)) ⟨g,by simpa[jA,iN]using N⟩ ?_
   rintro k s m5 ag μ hk ⟨R,P⟩ Y
   have X:=B.trans R
   refine dit (λaj=>?_) λai=>?_
   .let⟨y,h⟩:=cK x.args k
    have U:jA c x (k+1)=jA c x k++iN c x k [y]:=by
     unfold jA;rw[aU h,vC];simp;congr 2;omega
    refine(se (aa.ext X) hc a j k).aI R w λv m6 t S F=>⟨v,rfl,λM=>?_,λL=>?_⟩
    .have G:=nb t M
     refine⟨V,V,y,by simpa using(I.ext (B.trans F)).aE h,?_⟩
     intro m7
     have T:(if x.op=9\/x.op=24 then jA c x k else x.args.take k).length<=k:=by
      split
      .refine bI (tX _ _ _ _) ?_;simp;omega
      .simp;omega
     refine nZ (P.ext S) F V λr m8 z E=>?_
     refine⟨J.tG (F.aK _) E w,Y V _ _ ⟨E,?_⟩⟩
     by_cases e:x.op=9\/x.op=24
     .rw[ao e]at z⊢
      rw[U]
      have:iN c x k [y]=[y]:=by
       simp only[iN];rw[ae (λw=>G ⟨e,w⟩)]
      rw[this];exact z
     .rw[ae e]at z⊢
      rw[aU h];exact z
    .have G:=yb t L
     refine Y V _ _ ⟨F,?_⟩
     have T:=P.ext S
     rw[ao G.1]at T⊢
     rw[U]
     have:iN c x k [y]=[]:=by
      simp only[iN];rw[ao G.2]
     rw[this,eg];exact T
   .refine⟨s,rfl,?_,X⟩
    have q:bR c x=if x.op=9\/x.op=24 then jA c x k else x.args.take k:=by
     have A:x.args.take k=x.args:=bY V;unfold bR jA;rw[A];by_cases e:x.op=9\/x.op=24
     .rw[ae V,ae V,ao e,ao e]
     .rw[ao V,ae e]
    rw[q];exact K P
  .have hT:¬(x.op=15\/x.op=6\/x.op=10\/x.op=11\/x.op=18\/x.op=23\/x.op=9\/x.op=24):=λe=>by have:=W.2 e;rw[ac]at this;simp at this
   have i:=B.trans g
   have lX:∀e:x.op=16\/x.op=17,(0:Int)<=(0:Int)/\(0:Int)<(a.len:Int)/\∃F:Int,af D a.D (a.off+Int.toNat (0:Int)*1)=some (vi F)/\
    jT (D.push (.cells (bu [.i F]) 3)) 3 [.i (0:Int)] 8 (O.mk f.size 0 0 0) (O.mk D.size 0 1 1) λL k=>eH [C.size,m.size] (D.push (.cells (bu [.i F]) 3)) k/\∃s,O.v L=O.v s/\ic m k aA 1 s ((bR c x).map Ce.i)/\J m k:=λe=>by
    have M:=ab e
    let⟨y,h⟩:=cK x.args 0
    refine⟨V,V,y,by simpa using(I.ext i).aE h,nZ (b:=[]) N g aL λr m8 z E=>⟨J.tG (g.aK _) E w,r,rfl,?_,B.trans E⟩⟩
    have q:bR c x=[y]:=by
     unfold bR;rw[ae V,ao e];cases G:x.args with
     |nil=>rw[G]at h;simp at h
     |cons P b=>rw[G]at h;simp at h;subst h;rfl
    rw[q];exact K z
   refine⟨λe=>lX (Or.inl (by simpa using e)),λH=>⟨λe=>lX (Or.inr (by simpa using e)),λq=>⟨_,rfl,?_,i⟩⟩⟩
   have A:bR c x=[]:=by
    simp at H q;unfold bR;rw[ae V,ae V,ae V]
   rw[A];exact K N
def gW(c:ap m s b)(l:b.length<=1000000000):oJ 66 [O.v s] m b:=by
 apply nM;intro d;have a:J m d:=(J.az m).aK _;have g:ic m d aA 1 (.mk m.size 0 0 0) []:=ic.new (J.az m) aA 1 [] 0 aL;have f:=c.len;refine ic.append (zs:=[.i 0]) (d:=b.map Ce.i) g a (by simp[f]) (c.ext a).Il bF λr n a e h i j k=>⟨r,rfl,by simpa using a,e⟩
def LY(h:ap m s b)(c:ap m t r)(p:b.length+r.length<=1000000000):oJ 187 [O.v s,O.v t] m (b++r):=by
 apply uS;refine(gW h V).then V λq w d e a=>⟨q,rfl,?_⟩;have i:=c.len;have o:=e.len;refine ic.append (zs:=[.i 0]) (d:=r.map Ce.i) d a (by simp[i]) (c.ext a).Il V λu v f g j k l n=>⟨u,rfl,by simpa using f,g⟩
def mE(d:ap m s b):dw cp 128 [O.v s] m (Sr b):=by
 apply Ey;have g:=d.len;refine dW (n:=b.length) (g▸d.gY) (λk a=>J m a/\∀y∈b.take k,y=0) ⟨J.az _,aL⟩ ?_;rintro k o I μ l ⟨a,f⟩ j
 refine⟨λh=>?_,λh=>iV (df (by simp at h;omega) f) a⟩;simp only[ar]at h;let⟨x,e⟩:=cK b k;refine⟨V,V,x,by simpa using a.af (d.aE e),λc=>bW (λi=>?_) a,λc=>j V _ ⟨a,bD e f (by simpa using c)⟩⟩;have:=i x (aq e);simp at c;omega
def Bn(d:ap m s b):dw cp 123 [O.v s] m (∀o∈b,0<=o):=by
 apply wK;have g:=d.len;refine dW (n:=b.length) (g▸d.gY) (λk a=>J m a/\∀y∈b.take k,0<=y) ⟨J.az _,aL⟩ ?_;rintro k p I μ l ⟨a,f⟩ j
 refine⟨λh=>?_,λh=>iV (df (by simp at h;omega) f) a⟩;simp only[ar]at h;let⟨x,e⟩:=cK b k;refine⟨V,V,x,by simpa using a.af (d.aE e),λc=>bW (λi=>?_) a,λc=>j V _ ⟨a,bD e f (by simpa using c)⟩⟩;have:=i x (aq e);simp at c;omega
def qO(f:ap m s b)(j:ap m t r):dw cp 182 [O.v s,O.v t] m (b=r):=by
 apply Dj;have l:=f.len;have q:=j.len;refine⟨λh=>bW (λe=>by subst e;simp at h;omega) (J.az _),λh=>?_⟩;simp at h;refine dW (n:=b.length) (l▸f.gY) (λk a=>J m a/\b.take k=r.take k) ⟨J.az _,aL⟩ ?_;rintro k u I μ p ⟨c,i⟩ o
 refine⟨λh=>?_,λh=>iV (by simp at h;rwa[bY V,bY V]at i) c⟩;simp only[ar]at h;let⟨x,g⟩:=cK b k;let⟨y,d⟩:=cK r k;refine⟨V,V,x,by simpa using c.af (f.aE g),V,V,y,by simpa using c.af (j.aE d),λa=>bW (λe=>?_) c,λa=>o V _ ⟨c,?_⟩⟩
 .subst e;rw[g]at d;simp at d;simp at a;exact a d
 .rw[aU g,aU d,i];simp at a;rw[a]
abbrev fv(f:aX)(r o h:O):Value:=.agg #[vi f.fw,vi f.pc,vi f.dst,O.v r,O.v o,O.v h]
abbrev xv(x:Instr)(a j:O):Value:=.agg #[vi x.op,vi x.dst,vi x.bQ,vi x.bZ,O.v a,O.v j]
def Ew{f:aX}{r:O}(t:ap m r f.ak)(g:ap m a x.args)(C:∀y∈x.args,0<=y/\y<f.ak.length):
 dw cp 125 [fv f r o e,xv x a j] m (∀y∈x.args,aE f.ak y<1000):=by
 apply yS
 simp -zeta only[aC,aB]
 intro w b
 have v:J m b:=((J.az m).aK _).aK _
 have D:∀d∈[w.size,m.size],d<b.size:=by simp[b,w];omega
 have z:=g.len
 have K:=t.len
 clear_value b
 refine dW (n:=x.args.length) (z▸g.gY) (λl c=>J b c/\∀y∈x.args.take l,aE f.ak y<1000) ⟨J.az _,aL⟩ ?_
 rintro l L I μ H ⟨u,s⟩ F
 have i:=v.trans u
 refine⟨λh=>?_,λh=>iV (df (by simp at h;omega) s) i⟩
 simp only[ar]at h
 let⟨y,c⟩:=cK x.args l
 have k:=C y (aq c)
 refine⟨V,V,y,by simpa using i.af (g.aE c),k.1,V,aE f.ak y,by simpa using i.af (t.pJ k.1 k.2),?_⟩
 refine(dY _ _).aI u D λd M q G p=>⟨d,rfl,λB=>bW (λE=>?_) (v.trans p),λA=>F V _ ⟨p,bD c s ?_⟩⟩
 .have:=E y (aq c);have:=q.1 B;omega
 .have:=fb q A;omega
def pp(b r:List Int):ln (b++r)=ln b++ln r:=by simp[ln]
def od(b:List Int):(ln b).length<=b.length:=List.length_filter_le _ _
def oT(f:ap m s b)(A:b.length<=100000000):oJ 181 [O.v s] m (ln b):=by
 apply ze;intro g;have p:J m g:=(J.az m).aK _;have u:ic m g aA 1 (.mk m.size 0 0 0) []:=ic.new (J.az m) aA 1 [] 0 aL;have z:=f.len;clear_value g;refine eB (n:=b.length) V (λk s a=>J m a/\ic m a aA 1 s ((ln (b.take k)).map Ce.i)) ⟨p,by simpa[ln]using u⟩ ?_;rintro k s B I μ y ⟨d,c⟩ j
 refine dit (λo=>?_) λo=>?_
 .let⟨x,e⟩:=cK b k;refine⟨V,V,x,by simpa using d.af (f.aE e),?_⟩;refine(dY _ _).then λl C h a=>⟨l,rfl,λt=>?_,λq=>?_⟩
  .have i:=d.trans a;refine⟨V,V,x,by simpa using i.af (f.aE e),?_⟩;intro D;refine nZ (c.ext a) i (by have:=od (b.take k);simp at this;omega) λr E v w=>j V _ _ ⟨w,?_⟩
   rw[aU e,pp];have:ln [x]=[x]:=by simp[ln,h.1 t]
   rw[this];exact v
  .refine j V _ _ ⟨d.trans a,?_⟩
   rw[aU e,pp];have:ln [x]=[]:=by simp[ln];have:=fb h q;omega
   rw[this,eg];exact c.ext a
 .rw[bY V]at c;exact⟨s,rfl,c,d⟩
def sk{f:aX}{r:O}(l:ap m r f.ak)(p:ap m s b)(x:∀y∈b,0<=y/\y<f.ak.length)(G:b.length<=100000000):
 oJ 183 [fv f r o e,O.v s] m (cO f b):=by
 apply Fm
 simp -zeta only[aC,aB]
 intro a j
 have q:J m a:=(J.az m).aK _
 have w:J a j:=(J.az a).aK _
 have A:ic a j aA 1 (.mk a.size 0 0 0) []:=ic.new (J.az a) aA 1 [] 0 aL
 have z:∀u∈[m.size],u<a.size:=by simp[a]
 have F:=p.len
 have E:=l.len
 clear_value j
 clear_value a
 refine eB (n:=b.length) V (λk s c=>J a c/\ic a c aA 1 s ((cO f (b.take k)).map Ce.i)) ⟨w,by simpa[cO]using A⟩ ?_
 rintro k s H I μ D ⟨d,c⟩ B
 have g:=q.trans d
 refine dit (λv=>?_) λv=>?_
 .let⟨y,h⟩:=cK b k
  have i:=x y (aq h)
  refine⟨V,V,y,by simpa using g.af (p.aE h),i.1,V,aE f.ak y,by simpa using g.af (l.pJ i.1 i.2),?_⟩
  intro K
  refine nZ c d (by simp[cO];omega) λM L C t=>⟨J.tG (d.aK _) t z,B V _ _ ⟨t,?_⟩⟩
  rw[aU h]
  simpa[cO]using C
 .rw[bY V]at c
  exact⟨s,rfl,c.cz q.size,g⟩
end
section
variable{g:E}{b:aX}{t v d p h u j:O}{s:St}{c:List Int}{q:Nat}{k:cU}{w:Int}{e:Nat->Int}{x:Instr}
def IS{e:O}(Q:ap g t b.ak)(ho:ap g v b.aR){s:O}(D:ap g s c)(ad:∀y∈c,0<=y/\y<b.ak.length)(am:b.ak.length=b.aR.length)(ay:b.aR.length<=1000000)(aw:c.length<=1000000)
 (M:∀w∈b.aR,-1000000000<=w/\w<=1000000000):oJ 69 [fv b t v e,O.v s] g (bB b.ak b.aR c):=by
 apply De
 simp -zeta only[aC,aB]
 intro p
 have E:J g p:=(J.az g).aK _
 have H:∀G∈[g.size],G<p.size:=by simp[p]
 have ax:=D.len
 have av:=Q.len
 clear_value p
 refine(gW (ho.ext E) V).aI V H λx m2 o2 i2 Y=>⟨x,rfl,?_⟩
 have P:=i2.len
 have kV:∀(d F aR:List Int),bB b.ak aR (d++F)=bB b.ak (bB b.ak aR d) F:=by
  intro d;induction d with
  |nil=>intro F aR;rfl
  |cons y d k=>intro F aR;simp only[db,bB,k]
 have lo:∀(d aR:List Int)(A:Int),(∀w∈aR,A<=w)->∀w∈bB b.ak aR d,A -d.length<=w:=by
  intro d;induction d with
  |nil=>intro aR A h w q;have:=h w q;simp;omega
  |cons y d k=>
   intro aR A h w q;simp only[bB]at q;have:=k _ (A -1) (λu j=>by
    split at j
    .rcases dT (y.toNat<aR.length)with B|B
     .rcases pP j with j|j
      .have:=h _ (iE (i:=y.toNat) (a:=aE aR y) (by obtain⟨C,z⟩:=dD B;rw[HL z];exact z));omega
      .have:=h u j;omega
     .have z:gJ aR y (aE aR y -1)=aR:=by unfold gJ;rw[rR V]
      rw[z]at j;have:=h u j;omega
    .have:=h u j;omega) w q
   simp only[ba];omega
 refine dW (n:=c.length) V (λk j=>J p j/\ic p j aA 1 x ((bB b.ak b.aR (c.take k)).map Ce.i)) ⟨Y,o2⟩ ?_
 rintro k m3 aj μ hk ⟨R,C⟩ U
 have K:=E.trans R
 refine dit (λh=>?_) λh=>?_
 .let⟨y,u⟩:=cK c k
  have j:=ad y (aq u)
  have an:=kv b.ak (c.take k) b.aR
  refine⟨V,V,y,by simpa using K.af (D.aE u),j.1,V,aE b.ak y,by simpa using K.af (Q.pJ j.1 j.2),?_⟩
  refine(dY _ _).aI R H λG T N L B=>⟨G,rfl,λab=>?_,λZ=>?_⟩
  .have S:=E.trans B
   have I:=C.ext L
   have i4:ap T x (bB b.ak b.aR (c.take k)):=ap.gB I V
   refine⟨V,V,y,by simpa using S.af (D.aE u),V,V,y,by simpa using S.af (D.aE u),j.1,V,aE (bB b.ak b.aR (c.take k)) y,i4.pJ j.1 V,j.1,V,?_⟩
   have au:=lo (c.take k) b.aR (-1000000000) (λw q=>(M w q).1) _ (fm (l:=bB b.ak b.aR (c.take k)) j.1 V)
   have ak:aE (bB b.ak b.aR (c.take k)) y<=1000000000:=by
    let⟨q',ai,al⟩:=lz (c.take k) b.aR y.toNat _ (lI (l:=bB b.ak b.aR (c.take k)) j.1 V);have:=(M q' (aq ai)).2;omega
   have ar:(c.take k).length<=1000000:=bF
   rw[aP V V]
   rcases I.aE with ag|⟨q,X,tail,z,e2,e3,e4,e5⟩
   .rw[ag]at P;simp at P;omega
   .have ah:x.off=0:=by rw[z];rfl
    have aa:x.D=q:=by rw[z];rfl
    rw[ah,aa]
    have ac:0+y.toNat*1=y.toNat:=V
    rw[ac]
    have af:y.toNat<((bB b.ak b.aR (c.take k)).map Ce.i).length:=bF
    refine⟨e3.fL (by simp only[be];omega),?_⟩
    intro m5
    have W:J p m5:=B.ah e2 _ _
    refine⟨J.tG B W H,U V _ ⟨W,?_⟩⟩
    rw[aU u,kV]
    simp only[bB,ao (N.1 ab)]
    refine⟨by rw[eu,jz,<-eu (f:=Ce.i)];exact I.len,Or.inr ⟨q,X,tail,z,e2,?_,?_,e5⟩⟩
    .have:=cJ.ah (m:=T) (o:=y.toNat) (r:=[.i (aE (bB b.ak b.aR (c.take k)) y -1)]) e3
     have z:jm ((bB b.ak b.aR (c.take k)).map Ce.i++tail) y.toNat [.i (aE (bB b.ak b.aR (c.take k)) y -1)]=(gJ (bB b.ak b.aR (c.take k)) y (aE (bB b.ak b.aR (c.take k)) y -1)).map Ce.i++tail:=by
      simp only[jm,gJ,ud];rw[Mx _ _ af]
     rw[z]at this;exact this
    .simp only[be,eu,jz]at e4⊢;exact e4
  .refine U V _ ⟨B,?_⟩
   rw[aU u,kV]
   simp only[bB,ae (fb N Z)]
   exact C.ext L
 .rw[bY V]at C
  exact⟨x,rfl,C.cz E.size,K⟩
def fS{aT t x:O}(a:RV g q 2 d p aT t x k s)(L:1000<=w){c:bN}(j:s.heap[ix w]? =some c):
 aN cp 131 [vp q 0,vi w] g λD v=>∃b,D=.agg #[vi c.aQ,vi c.kD,O.v b]/\ap v b c.aF/\J g v:=by
 apply ur (q,0)
 simp -zeta only[aC,aB]
 intro B
 have f:J g B:=(J.az g).aK _
 have l:=cR.ext f a.heap
 let⟨b,G,r,g1,g2⟩:=l.aE j
 have I:=l.len
 have K:=l.gY
 have A:=av j
 unfold ix at A r g1 g2
 have e:cT (w -1000)=w -1000:=aP V V
 rw[e]
 refine⟨t,f.af a.ru,V,V,c.aQ,r,c.kD,g1,b,g2,?_⟩
 intro C
 have m:J g C:=f.ah (ad _) _ _
 let⟨o,y,M,N,u⟩:=(cR.ext m a.heap).aE j
 unfold ix at u
 have z:o=b:=by
  have F:=f.af (a.ru);obtain⟨E,H,_,_,n⟩:=a.heap.aE j;unfold ix at n;have h:=f.af n;have i:=m.af n;rw[g2]at h;rw[u]at i;simp at h i;rw[O.BR]at h i;rw[h,i]
 subst z
 exact⟨o,rfl,y,m⟩
def uR{aT L D:O}(C:RV g q 2 d p aT L D k s)(G:fO s.heap e){B:O}(o:ap g B c)(I:∀w∈c,fW s.heap w)(Y:c.length<=1000000):
 dw cp 180 [vp q 0,O.v B] g (lD s.heap c):=by
 apply sj (q,0)
 have X:=o.len
 refine dW (n:=c.length) V (λr a=>J g a/\∀w∈c.take r,1000<=w->(aM s.heap w).aQ+eD c (ix w)<=999999) ⟨J.az _,aL⟩ ?_
 rintro r Z P μ T ⟨y,v⟩ N
 refine⟨λh=>?_,λh=>iV (df (by simp at h;omega) v) y⟩
 simp only[ar]at h
 let⟨x,l⟩:=cK c r
 have m:=I x (aq l)
 have M:=iu m.1
 refine eB (n:=c.length) V (λj(z:Int) a=>J g a/\z=eD (c.take j) (ix x)) ⟨y,by simp[eD]⟩ ?_
 rintro j z m2 Q μ2 S ⟨f,rfl⟩ A
 refine dit (λE=>?_) λE=>?_
 .let⟨u,t⟩:=cK c j
  have K:=kK (c.take j) (ix x)
  have H:=iL (c.take j) (ix x)
  have F:(c.take j).length<=1000000:=bF
  have i:eD (c.take (j+1)) (ix x)=eD (c.take j) (ix x)+if u=x then 1 else 0:=by
   rw[aU t,mj];simp only[eD,M];omega
  refine⟨V,V,u,by simpa using f.af (o.aE t),V,V,x,by simpa using f.af (o.aE l),λa=>A V _ _ ⟨f,?_⟩,λa=>A V _ _ ⟨f,?_⟩⟩
  .simp at a;rw[i,ao a];exact aP V V
  .simp at a;rw[i,ae a];omega
 .rw[bY V]
  have K:=kK c (ix x)
  have H:=iL c (ix x)
  let⟨u,W⟩:=bS m
  have U:=(G.cell _ (aq u)).hi
  refine⟨V,V,x,by simpa using f.af (o.aE l),?_⟩
  refine(fS (C.ext f) m.1 u).mono ?_
  rintro _ m3 ⟨b,rfl,R,a⟩
  have t:cT ((aM s.heap x).aQ+eD c (ix x))=(aM s.heap x).aQ+eD c (ix x):=aP V V
  refine⟨_,_,_,rfl,λi=>bW (λF=>?_) (f.trans a),λi=>N V _ ⟨f.trans a,bD l v λ_=>?_⟩⟩
  .have:=F x (aq l) m.1
   rw[t]at i;simp at i;omega
  .rw[t]at i;simp at i;omega
def tm{h:List bN}:lD h (ln c)<->lD h c:=by
 unfold lD;constructor
 .intro b w d a;have:=b w (lO.2 ⟨d,a⟩) a;rwa[wi]at this
 .intro b w d a;rw[wi];exact b w (lO.1 d).1 a
def U8{s:O}(h:ap g s c)(p:1<=c.length):ap g (O.cut s 1 s.len 1) (c.drop 1):=by
 have b:=h.len;have i:=h.cap;have l:=h.gY;cases s with
 |nil=>simp at b;omega
 |zT d v a=>simp at b;omega
 |mk d v r o=>
  simp at b i l;refine⟨by simp[O.cut];omega,by simp[O.cut];omega,by simp[O.cut];omega,λn x a=>?_⟩;rw[sA]at a;have q:=av a;let⟨f,j,jC⟩:=h.iJ (1+n) x a;refine⟨f,j,λm e k=>?_⟩;have:=jC m e k;simp only[O.cut,O.jI,O.nm]at this⊢;rw[ae V];rw[<-this];congr 1;omega
def gT.pT(h:gT k b){t:Int}(d:0<=t)(e:t<b.ak.length)(f:∀w∈b.ak,w<=9223372036854775807): -9223372036854775808<=aE b.ak t/\aE b.ak t<=9223372036854775807:=by
 have c:=fm (l:=b.ak) d e;refine⟨?_,f _ c⟩;rcases h.Sb _ c with a|a
 .have:=a.1;omega
 .omega
def Ka{aT hp fr:O}(z:RV g q 2 d p aT hp fr k s)(M:fO s.heap e)(P:ap g t b.ak)(N:ap g h b.aZ)(r:ap g u x.args)
 (L:gT k b)(ai:∀w∈b.ak,w<=9223372036854775807)(Z:∀l∈x.args,0<=l/\l<b.ak.length)(ax:1<=x.args.length/\x.args.length<=4)(ay:x.op=16\/x.op=17):
 dw cp 132 [vp q 0,fv b t v h,xv x u j] g (Fy s.heap b x):=by
 apply tO (q,0)
 simp -zeta only[aC,aB]
 intro m1 F
 have a:J g F:=((J.az g).aK _).aK _
 have m:∀i∈[m1.size,g.size],i<F.size:=by simp[F,m1];omega
 have ar:=r.len
 have aA:=P.len
 have aw:=N.len
 have ao:=r.cap
 clear_value F
 have c:0<=aE x.args 0/\aE x.args 0<b.ak.length:=Z _ (fm V V)
 have R:aE x.args 0<b.aZ.length:=by have:=L.lr;have:=L.lh;omega
 have al:=L.pT c.1 c.2 ai
 refine⟨V,V,aE x.args 0,(r.ext a).pJ V V,c.1,V,aE b.ak (aE x.args 0),(P.ext a).pJ c.1 c.2,hp,a.af z.ru,?_⟩
 unfold Fy
 simp only[]
 generalize aD:aE b.ak (aE x.args 0)=w at*
 refine(jf (cR.ext a z.heap) al).aI (J.az _) m λi m3 y B _=>⟨i,rfl,λah=>bW (λf=>nb y ah f.1) (a.trans B),λag=>?_⟩
 have n:=yb y ag
 let⟨C,az⟩:=bS n
 have au:=(M.cell _ (aq C)).fl
 have am:=a.trans B
 refine((fS (z.ext am) n.1 C)).aI B m ?_
 rintro _ m4 ⟨fl,rfl,ak,U⟩
 have S:=B.trans U
 refine⟨U,_,_,_,rfl,(oT ak V).aI (oh (od (aM s.heap w).aF)) (λi y=>S.lt (m i y)) λps m5 o5 i5 h5=>⟨ps,rfl,V,V,V,?_⟩⟩
 have G:=S.trans h5
 have aa:=a.trans G
 have e1:(Int.toNat (1:Int))=1:=rfl
 have e2:(Int.toNat (u.len:Int))=u.len:=V
 rw[e1,e2]
 refine(sk (P.ext aa) (U8 (r.ext aa) V) (λl o=>Z l (wS o)) bF).aI (by simp[cO];omega) (λi y=>G.lt (m i y)) λqs m6 o6 i6 I=>⟨qs,rfl,?_⟩
 have ab:=G.trans I
 refine(qO (i5.ext I) i6).aI ab m λb2 m7 W h7 A=>⟨b2,rfl,λad=>?_,λac=>bW (λf=>fb W ac f.2.1) (a.trans A)⟩
 have D:=W.1 ad
 refine(fS (z.ext (a.trans A)) n.1 C).aI A m ?_
 rintro _ m8 ⟨an,rfl,av,K⟩
 have H:=A.trans K
 refine⟨K,_,_,_,rfl,λo=>?_,λo=>?_⟩
 .simp at o
  have E:=a.trans H
  refine⟨λl=>iV ⟨n,D,Or.inl o,λe=>by simp at l;omega⟩ E,λl=>⟨V,V,aE x.args 0,(r.ext E).pJ V V,c.1,V,aE b.aZ (aE x.args 0),(N.ext E).pJ c.1 R,eV ?_ E⟩⟩
  simp only[aG,aj,ne_eq]at l⊢
  exact⟨λQ=>⟨n,D,Or.inl o,λ_=>Q⟩,λf=>f.2.2.2 V⟩
 .simp at o
  refine(uR (z.ext (a.trans H)) M (i5.ext ((I.trans h7).trans K)) (λT E=>M.field (aq C) (lO.1 E).1 (lO.1 E).2) (oh (od (aM s.heap w).aF))).aI H m λb3 m9 X h9 T=>⟨b3,rfl,λaf=>?_,λae=>bW (λf=>?_) (a.trans T)⟩
  .have Y:=tm.1 (X.1 af)
   have E:=a.trans T
   refine⟨λl=>iV ⟨n,D,Or.inr Y,λe=>by simp at l;omega⟩ E,λl=>⟨V,V,aE x.args 0,(r.ext E).pJ V V,c.1,V,aE b.aZ (aE x.args 0),(N.ext E).pJ c.1 R,eV ?_ E⟩⟩
   simp only[aG,aj,ne_eq]at l⊢
   exact⟨λQ=>⟨n,D,Or.inr Y,λ_=>Q⟩,λf=>f.2.2.2 V⟩
  .rcases f.2.2.1 with l|l
   .exact o l
   .exact fb X ae (tm.2 l)
def II{aT P Z:O}(b:RV g q 2 d p aT P Z k s)(G:nE k)(D:fO s.heap e)(hw: -9223372036854775808<=w/\w<=9223372036854775807):
 dw cp 129 [vp q 0,vi w] g (vK k s.heap w):=by
 apply sT (q,0)
 simp -zeta only[aC,aB]
 refine⟨P,b.ru,(jf b.heap hw).then λi m1 x C=>⟨i,rfl,λai=>bW (λa=>nb x ai a.1) C,λah=>?_⟩⟩
 have z:=yb x ah
 let⟨F,al⟩:=bS z
 have K:=D.cell _ (aq F)
 have aE:=(K.oZ al).2
 refine(fS (b.ext C) z.1 F).mono ?_
 rintro _ f ⟨B,rfl,N,j⟩
 refine⟨_,_,_,rfl,?_⟩
 intro T h
 have an:=C.trans j
 have H:J f h:=((J.az f).aK _).ah (ad _) _ _
 have s4:h.size=f.size+1:=by simp[h,T,aw]
 have hB:af h f.size 1=some (vi (aM s.heap w).kD):=(cJ.ah (m:=T) (o:=0) (r:=[.i (aM s.heap w).aQ,.i (aM s.heap w).kD,.s B]) (cJ.push f _ _)).cg 1
 have y:∀i∈[f.size],i<h.size:=by simp[s4]
 clear_value h
 have c:=an.trans H
 have L:=b.ext c
 have aD:=b.fe.cE.len
 have aA:=G.om.len
 have ar:(eT k.bq).length<=12:=by
  have:=rq G.om.types k.bq.length;rw[nh _ _ (ad _)]at this;exact this
 refine⟨d,L.bq,(qM L.fe.bq G.om.types).aI (J.az _) y λm5 t _=>⟨_,rfl,t.de hB,p,(b.ext (c.trans t)).cE,?_⟩⟩
 have aF:=c.trans t
 have W:cT ((aM s.heap w).kD -((eT k.bq).length:Int))=(aM s.heap w).kD -cr k:=aP V V
 have X:cT ((p.len:Int) -1)=(p.len:Int) -1:=aP V V
 rw[W,X]
 refine(aY _ _ _ _).aI t y λb2 m6 M h6 l=>⟨b2,rfl,λae=>?_,λac=>bW (λa=>fb M ac ⟨a.2.1,oh a.2.2.1⟩) (c.trans l)⟩
 have R:=M.1 ae
 have A:=c.trans l
 have E:=b.ext A
 let⟨ao,Q⟩:=cK k.cE (((aM s.heap w).kD -cr k).toNat)
 have am:dQ k ((aM s.heap w).kD -cr k)=ao:=by simp[dQ,Q]
 obtain⟨U,l',c',ab,ak,av,g0,g1,_⟩:=E.fe.cE.aE Q
 have au:=ab.len
 have az:=ak.len
 have ay:=N.len
 have ax:=K.fl
 have Y:cT ((B.len:Int)+1)=(B.len:Int)+1:=aP V V
 rw[Y]
 unfold vK
 rw[am]
 refine⟨p,E.cE,V,V,U,g0,λu=>⟨p,E.cE,V,V,l',g1,λv=>⟨λn=>?_,λn=>?_⟩,λv=>bW (λa=>?_) A⟩,λu=>bW (λa=>?_) A⟩
 .simp at u v n
  exact iV ⟨z,R.1,V,V,V,Or.inl n⟩ A
 .simp at u v n
  refine(oT (N.ext (H.trans l)) V).aI (oh (od (aM s.heap w).aF)) (λi x=>l.lt (y i x)) λps m7 o7 i7 aa=>⟨ps,rfl,?_⟩
  have I:=l.trans aa
  refine(uR (b.ext (c.trans I)) D i7 (λag S=>D.field (aq F) (lO.1 S).1 (lO.1 S).2) (oh (od (aM s.heap w).aF))).aI I y λb3 m8 ag ap S=>⟨b3,rfl,eV ?_ (c.trans S)⟩
  rw[ag,tm]
  refine⟨λaj=>⟨z,R.1,V,V,V,Or.inr aj⟩,λa=>?_⟩
  rcases a.2.2.2.2.2 with j|j
  .exact absurd j n
  .exact j
 .have:=a.2.2.2.2.1;simp at v;omega
 .have:=a.2.2.2.1;simp at u;omega
def IJ{aT M E:O}(C:RV g q 2 d p aT M E k s)(B:ap g h b.aZ)(G:ap g u x.args)(T:0<=x.bZ/\x.bZ<=b.aZ.length)(U:b.aZ.length<=1000000)
 (K:∀w∈b.aZ,w≠0->1000<=w/\∃o,s.heap[ix w]? =some o):
 dw cp 126 [vp q 0,fv b t v h,xv x u j] g (FA s.heap b x):=by
 apply sU (q,0)
 simp -zeta only[aC,aB]
 intro n f
 have c:J g f:=((J.az g).aK _).aK _
 have L:∀D∈[n.size,g.size],D<f.size:=by simp[f,n];omega
 have F:af f n.size 4=some (O.v u):=(cJ.push n _ _).cg 4
 have Q:=G.len
 have S:=B.len
 clear_value f
 unfold FA
 refine⟨λm=>iV (λr=>absurd (by simpa using m) r) c,λm=>?_⟩
 simp at m
 have e:cT (x.bZ -1)=x.bZ -1:=aP V V
 rw[e]
 have A:=(B.ext c).pJ (i:=x.bZ -1) V V
 refine⟨V,V,aE b.aZ (x.bZ -1),A,λa=>iV (λ_ r=>absurd (by simpa using a) r) c,λa=>?_⟩
 simp at a
 let⟨N,o,z⟩:=K _ (fm (l:=b.aZ) (i:=x.bZ -1) V V) a
 refine⟨V,V,aE b.aZ (x.bZ -1),A,(fS (C.ext c) N z).aI (J.az _) L ?_⟩
 rintro _ W ⟨P,rfl,I,r⟩
 have R:=I.len
 have H:aM s.heap (aE b.aZ (x.bZ -1))=o:=by simp[aM,z]
 refine⟨r,_,_,_,rfl,r.de F,eV ?_ (c.trans r)⟩
 rw[H]
 simp
 exact⟨λy _ _=>V,λy=>oh (y m a)⟩
def qY(k:cU)(x:Instr):∀(c t:List Int)(a:Nat),fI k x a (c++t)=fI k x a c++fI k x (a+c.length) t
 |[],t,a=>by simp[fI]
 |u::c,t,a=>by
  have:=qY k x c t (a+1);simp only[db,fI,this,ba];have e:a+(c.length+1)=a+1+c.length:=V;rw[e];split<;>simp
def wG{aT l Y:O}(o:RV g q 2 d p aT l Y k s)(R:ap g t b.ak)(D:ap g u x.args)(Z:gT k b)(af:∀w∈b.ak,w<=9223372036854775807)
 (ag:∀y∈x.args,0<=y/\y<b.ak.length)(hc:zB k x)(ai:x.op=9\/x.op=24):
 dw cp 127 [vp q 0,fv b t v h,xv x u j] g (KD k s.heap b x):=by
 apply sS (q,0)
 simp -zeta only[aC,aB]
 intro W i
 have G:J g i:=((J.az g).aK _).aK _
 have F:∀r∈[W.size,g.size],r<i.size:=by simp[i,W];omega
 have aa:=D.len
 have ak:=R.len
 clear_value i
 refine dW (n:=x.args.length) (aa▸D.gY) (λa c=>J i c/\∀y∈fI k x 0 (x.args.take a),1000<=aE b.ak y->fW s.heap (aE b.ak y)) ⟨J.az _,by simp[fI]⟩ ?_
 rintro a m3 aj μ hk ⟨T,Q⟩ I
 have m:=G.trans T
 refine⟨λh=>?_,λh=>iV (by simp at h;rwa[bY V]at Q) m⟩
 simp only[ar]at h
 let⟨y,H⟩:=cK x.args a
 have f:=ag y (aq H)
 have C:=o.ext m
 have S:fI k x 0 (x.args.take (a+1))=fI k x 0 (x.args.take a)++fI k x a [y]:=by
  rw[aU H,qY];congr 2;simp;omega
 have E:(nK k x a=true->1000<=aE b.ak y->fW s.heap (aE b.ak y))->∀z∈fI k x 0 (x.args.take (a+1)),1000<=aE b.ak z->fW s.heap (aE b.ak z):=λhh z c=>by
  rw[S]at c;rcases List.mem_append.1 c with c|c
  .exact Q z c
  .simp only[fI]at c;split at c
   .rename_i e;simp at c;subst c;exact hh e
   .simp at c
 have ah:nK k x a=true->y∈fI k x 0 x.args:=λe=>by
  have X:x.args=x.args.take (a+1)++x.args.drop (a+1):=(dp _ _).symm;rw[X,qY,S];refine bJ _ (eF _ ?_);simp only[fI];rw[ao e];simp
 refine⟨V,V,y,by simpa using m.af (D.aE H),f.1,V,aE b.ak y,by simpa using m.af (R.pJ f.1 f.2),d,C.bq,p,C.cE,?_⟩
 refine(se C.fe hc u j a).aI T F λr m4 M h4 K=>⟨r,rfl,λae=>?_,λad=>I V _ ⟨K,E λe=>absurd ⟨ai,e⟩ (fb M ad)⟩⟩
 have e:=(M.1 ae).2
 refine(dY _ _).aI K F λb2 m5 N h5 A=>⟨b2,rfl,λac=>?_,λab=>I V _ ⟨A,E λ_ l=>absurd l (fb N ab)⟩⟩
 have U:=G.trans A
 refine⟨l,(o.ext U).ru,(jf (cR.ext U o.heap) (Z.pT f.1 f.2 af)).aI A F λb3 m6 P h6 L=>⟨b3,rfl,λB=>bW (λhM=>nb P B (hM y (ah e) (N.1 ac))) (G.trans L),λB=>I V _ ⟨L,E λ_ _=>yb P B⟩⟩⟩
end
section
structure zy(im:cU)(s:St)(fs:List aX)(f:aX)(x:Instr):Prop where
 ok:cX im s
 run:s.cx=3
 fr:s.an=fs++[f]
 cur:cB im f=x
 uG:∀g∈s.an,∀w∈g.ak,w<=9223372036854775807
section
variable{b:cU}{s:St}{c:List aX}{f:aX}{x:Instr}
def zy.F(a:zy b s c f x):gT b f:=a.ok.an f (by rw[a.fr];simp)
def zy.MI(a:zy b s c f x):∀w∈f.ak,w<=9223372036854775807:=a.uG f (by rw[a.fr];simp)
def zy.I(a:zy b s c f x):∃p,b.cE[f.fw.toNat]? =some p/\dQ b f.fw=p/\HH b p/\p.dv[f.pc.toNat]? =some x/\iW b p f.pc.toNat x:=by
 have:=a.F.yg a.ok.fe;rwa[a.cur]at this
def zy.Gk(a:zy b s c f x):f.ak.length=f.aR.length/\f.aZ.length=f.aR.length/\1<=f.aR.length/\f.aR.length<=2000:=by
 obtain⟨p,_,e,i,_,_⟩:=a.I;have d:=a.F.lr;have g:=a.F.lo;have h:=a.F.lh;rw[e]at d g h;have:=i.ak;omega
def zy.arg(a:zy b s c f x):∀y∈x.args,0<=y/\y<f.ak.length:=λy h=>by
 obtain⟨p,_,e,_,_,g⟩:=a.I;have d:=a.F.lr;rw[e]at d;have:=g.args y h;omega
def zy.dst(a:zy b s c f x):0<=x.dst/\x.dst<f.aR.length:=by
 obtain⟨p,_,e,_,_,g⟩:=a.I;have d:=a.F.lo;rw[e]at d;have:=g.dst;omega
def zy.call(a:zy b s c f x):zB b x:=let⟨_,_,_,_,_,d⟩:=a.I;d.call
def zy.Zw(a:zy b s c f x):0<=x.op/\x.op<=24/\x.op≠7/\x.op≠8/\x.op≠12/\x.op≠13:=by
 obtain⟨p,_,_,e,_,d⟩:=a.I;exact((Jr e.ak.2.2 a.ok.fe.om.len.2 λq g=>(a.ok.fe.om.dB q g).1).1 d).1
def zy.lH(g:zy b s c f x):x.args.length<=4/\((x.op=5\/x.op=14\/x.op=15\/x.op=18\/x.op=23\/x.op=19\/x.op=20\/x.op=21)->x.args.length=1)/\((x.op=1\/x.op=2\/x.op=3\/x.op=4\/x.op=11)->x.args.length=2)/\
 ((x.op=16\/x.op=17)->1<=x.args.length)/\(x.op=6->0<=x.bZ/\x.bZ<=f.aZ.length/\0<=x.bQ/\x.bQ<12/\x.args.length<=3)/\(x.op=10->0<=x.bQ/\x.bQ<4/\x.args.length<=3)/\(x.op=0->-999<=x.bQ/\x.bQ<=999):=by
 obtain⟨z,_,r,y,_,u⟩:=g.I
 have a:=u.op
 have t:=g.F.lh
 rw[r]at t
 have d:=g.ok.fe.om
 have v:(eT b.bq).length<=12:=by
  have:=rq d.types b.bq.length;rw[nh _ _ (ad _)]at this;exact this
 have w:=Jn d.types x.bQ
 unfold lW at a
 by_cases h:x.op=0
 .rw[ao h]at a;omega
 rw[ae h]at a
 by_cases i:x.op=1\/x.op=2\/x.op=3\/x.op=4\/x.op=11
 .rw[ao i]at a;omega
 rw[ae i]at a
 by_cases j:x.op=5\/x.op=14\/x.op=15\/x.op=18\/x.op=23
 .rw[ao j]at a;omega
 rw[ae j]at a
 by_cases k:x.op=6
 .rw[ao k]at a;omega
 rw[ae k]at a
 by_cases l:x.op=9\/x.op=24
 .rw[ao l]at a
  let⟨q,n,e,o⟩:=a
  have:=(d.dB q (aq e)).1;omega
 rw[ae l]at a
 by_cases m:x.op=10
 .rw[ao m]at a
  obtain⟨⟨q,n,e,o⟩,_⟩:=a
  have:=(d.dB q (aq e)).1
  have:=av e
  have:=d.len;omega
 rw[ae m]at a
 by_cases n:x.op=16\/x.op=17
 .rw[ao n]at a;omega
 rw[ae n]at a
 by_cases o:x.op=19
 .rw[ao o]at a;omega
 rw[ae o]at a
 by_cases p:x.op=20
 .rw[ao p]at a;omega
 rw[ae p]at a
 by_cases q:x.op=22
 .rw[ao q]at a;omega
 rw[ae q]at a
 by_cases e:x.op=21
 .rw[ao e]at a
  have:=a.1;omega
 rw[ae e]at a;exact a.elim
def zy.Lk(d:zy b s c f x):∀w∈f.aZ,w≠0->1000<=w/\∃e,s.heap[ix w]? =some e/\e.aQ<0:=λw h k=>by
 have g:1000<=w:=by have:=d.F.aZ w h;omega
 refine⟨g,?_⟩;have j:0<dI s.an (ix w):=by
  rw[d.fr,eL,jg];have:=vS c (ix w);have:=uK (l:=f.aZ) (f:=ix w) (by rw[iu g];exact h);omega
 exact dS λi=>by have:=d.ok.nB (ix w) i;omega
def zy.OT(d:zy b s c f x):∀o∈f.aR,0<=o/\o<=999999:=λo h=>by
 refine⟨(d.F.PY o h),?_⟩;rcases dT (0<o)with i|i
 .let⟨k,e⟩:=List.mem_iff_getElem?.1 h;have:=d.Gk;let⟨w,j⟩:=cK f.ak k (oh (av e));have m:=Lv d.F.PY j e (d:=ix w) (by rw[iu ((d.F.aR k o w e j).2 i)]);have n:o<=fD s.an (ix w):=by
   rw[d.fr,fZ,kZ];have:=Ku (b:=c) (λg l=>d.ok.an g (by rw[d.fr];exact bJ _ l)) (ix w);omega
  let⟨g,hd,l⟩:=d.ok.heap.lv (ix w) V;have p:=d.ok.heap.ex _ g hd l;have q:=rf s.heap (ix w);have r:=(d.ok.heap.cell g (aq hd)).hi;omega
 .omega
def zy.Kw(a:zy b s c f x):∀r∈bR b x,0<=r/\r<f.ak.length:=λr d=>a.arg r (Cn d)
end
def Mf{o:E}{mb:Nat}{ah aw aT d fr:O}{M:cU}{K:St}(Q:RV o mb 2 ah aw aT d fr M K){fs:List aX}{m:aX}{x:Instr}(C:zy M K fs m x){Z ac h S am ow:O}(R:ap o Z m.ak)(U:ap o h m.aZ)(L:ap o S x.args){aR:List Int}(X:ap o ow aR)(aA:aR.length=m.aR.length):
 dw cp 71 [vp mb 0,fv m Z ac h,xv x S am,O.v ow] o (lj M K m x aR):=by
 apply uv (mb,0)
 simp -zeta only[aC,aB]
 intro Y P
 have b:J o P:=((J.az o).aK _).aK _
 have i:∀g∈[Y.size,o.size],g<P.size:=by simp[P,Y];omega
 have ai:cJ P Y.size dZ [.i x.op,.i x.dst,.i x.bQ,.i x.bZ,.s S,.s am]:=cJ.push Y _ _
 have ao:cJ P o.size dR [.i m.fw,.i m.pc,.i m.dst,.s Z,.s ac,.s h]:=(cJ.push o _ _).ext (J.push Y _)
 have ax:=L.len
 have aF:=R.len
 have ay:=U.len
 have aD:=X.len
 have hd:=C.dst
 have az:=C.Gk
 have G:=C.lH
 have hI:=C.ok.heap
 clear_value P
 refine⟨λN=>J P N/\(∀ac∈aR,0<=ac)/\(mf x.op->aE aR x.dst<=0),?_,?_⟩
 .refine(Bn (X.ext b)).aI (J.az _) i λg m3 c n _=>⟨g,rfl,λu=>bW (λl=>nb c u l.nn) (b.trans n),λz=>?_⟩
  refine(xQ _ _).aI n i λb2 A y w a=>⟨b2,rfl,λu=>?_,λv=>⟨a,yb c z,λe=>absurd e (fb y v)⟩⟩
  refine⟨hd.1,V,aE aR x.dst,(X.ext (b.trans a)).pJ hd.1 V,λk=>bW (λl=>?_) (b.trans a),λk=>⟨a,yb c z,λ_=>by simpa using k⟩⟩
  have:=l.dst (y.1 u);simp at k;omega
 .rintro m3 ⟨n,q,p⟩
  have f:=b.trans n
  have t:=Q.ext f
  have mk:∀{ad:Prop},(lj M K m x aR->ad)->(ad->lj M K m x aR)->(lj M K m x aR<->ad):=λI h2=>⟨I,h2⟩
  have B:1<=x.args.length->0<=aE x.args 0/\aE x.args 0<m.ak.length:=λI=>C.arg _ (fm V V)
  have D:∀{N},J o N->1<=x.args.length->af N S.D (S.off+Int.toNat (0:Int)*1)=some (vi (aE x.args 0)):=λhx I=>(L.ext hx).pJ V V
  have F:∀{N},J o N->1<=x.args.length->af N Z.D (Z.off+Int.toNat (aE x.args 0)*1)=some (vi (aE m.ak (aE x.args 0))):=λhx I=>(R.ext hx).pJ (B I).1 (B I).2
  refine⟨λe=>?_,λe1=>?_⟩
  .simp only[bT,aG]at e
   refine(Ew (R.ext f) (L.ext f) C.arg).aI n i λg A c w a=>⟨g,rfl,eV (c.trans ?_) (b.trans a)⟩
   refine⟨λd=>?_,λh=>h.nV V⟩
   refine⟨q,p,?_,?_,?_,?_,?_,?_,?_,?_,?_,?_,?_⟩<;>intro r<;>first|(exfalso;omega)|exact d
  simp only[bt,aj]at e1
  refine⟨λe=>?_,λe2=>?_⟩
  .simp only[aG]at e
   have j:=G.2.2.2.2.1 e
   refine(IJ t (U.ext f) (L.ext f) ⟨j.1,j.2.1⟩ V (λaa W T=>by obtain⟨I,s,H,_⟩:=C.Lk aa W T;exact⟨I,s,H⟩)).aI n i λg A c w a=>⟨g,rfl,eV (c.trans ?_) (b.trans a)⟩
   refine⟨λd=>?_,λh=>h.js e⟩
   refine⟨q,p,?_,?_,?_,?_,?_,?_,?_,?_,?_,?_,?_⟩<;>intro r<;>first|(exfalso;omega)|exact d
  simp only[aj]at e2
  refine⟨λe=>?_,λe3=>?_⟩
  .simp only[aG]at e
   refine(wG t (R.ext f) (L.ext f) C.F C.MI C.arg C.call (Or.inl e)).aI n i λg A c w a=>⟨g,rfl,eV (c.trans ?_) (b.trans a)⟩
   refine⟨λd=>?_,λh=>h.cW (Or.inl e)⟩
   refine⟨q,p,?_,?_,?_,?_,?_,?_,?_,?_,?_,?_,?_⟩<;>intro r<;>first|(exfalso;omega)|exact d
  simp only[aj]at e3
  refine⟨λe=>?_,λe4=>?_⟩
  .simp only[aG]at e
   refine(wG t (R.ext f) (L.ext f) C.F C.MI C.arg C.call (Or.inr e)).aI n i λg A c w a=>⟨g,rfl,λu=>?_,λz=>bW (λl=>fb c z (l.cW (Or.inr e))) (b.trans a)⟩
   refine(mE (X.ext (b.trans a))).aI a i λb2 m5 y k s=>⟨b2,rfl,λag=>?_,λv=>bW (λl=>fb y v (l.zero (Or.inl e)).1) (b.trans s)⟩
   refine(mE (U.ext (b.trans s))).aI s i λb3 m6 H T j=>⟨b3,rfl,eV (H.trans ?_) (b.trans j)⟩
   refine⟨λd=>?_,λh=>(h.zero (Or.inl e)).2⟩
   refine⟨q,p,?_,?_,?_,?_,?_,?_,?_,?_,?_,?_,?_⟩<;>intro r<;>first|(exfalso;omega)|exact c.1 u|exact⟨y.1 ag,d⟩
  simp only[aj]at e4
  refine⟨λe=>?_,λe5=>?_⟩
  .simp only[aG]at e
   have W:=G.2.1 V
   refine(mE (X.ext f)).aI n i λb2 m5 y k s=>⟨b2,rfl,λag=>?_,λv=>bW (λl=>fb y v (l.zero (Or.inr e)).1) (b.trans s)⟩
   refine(mE (U.ext (b.trans s))).aI s i λb3 m6 H T j=>⟨b3,rfl,λau=>?_,λaq=>bW (λl=>fb H aq (l.zero (Or.inr e)).2) (b.trans j)⟩
   have ab:=b.trans j
   have ak:=Q.ext ab
   have aa:=ak.an.len
   have iQ:∀d:1<K.an.length\/aE m.ak (aE x.args 0)<1000,lj M K m x aR:=λd=>by
    refine⟨q,p,?_,?_,?_,?_,?_,?_,?_,?_,?_,?_,?_⟩<;>intro r<;>first|(exfalso;omega)|exact⟨y.1 ag,H.1 au⟩|exact d
   refine⟨fr,ak.OH,λh8=>iV (iQ (Or.inl (by simp at h8;omega))) ab,λh8=>?_⟩
   refine⟨V,V,_,D ab V,(B V).1,oh ((B V).2),_,F ab V,(dY _ _).aI j i λb4 m7 al h9 ae=>⟨b4,rfl,eV ?_ (b.trans ae)⟩⟩
   simp at h8
   constructor
   .intro an
    exact iQ (Or.inr (oh (nb al an)))
   .intro l
    rcases l.ret e with an|an
    .omega
    .have:¬b4=true:=λav=>by have:=al.1 av;omega
     simpa using this
  simp only[aj]at e5
  refine⟨λe=>?_,λe6=>?_⟩
  .simp only[aG]at e
   have W:=G.2.2.1 V
   have j:=B V
   refine⟨V,V,_,D f V,j.1,V,_,F f V,(II t C.ok.fe hI (C.F.pT j.1 j.2 C.MI)).aI n i λg A c w a=>⟨g,rfl,eV (c.trans ?_) (b.trans a)⟩⟩
   refine⟨λd=>?_,λh=>h.apply e⟩
   refine⟨q,p,?_,?_,?_,?_,?_,?_,?_,?_,?_,?_,?_⟩<;>intro r<;>first|(exfalso;omega)|exact d
  simp only[aj]at e6
  refine⟨λe=>?_,λe7=>?_⟩
  .simp only[aG]at e
   have W:=G.2.1 V
   have j:=B V
   refine⟨V,V,_,D f V,j.1,V,_,F f V,d,t.ru,(jf t.heap (C.F.pT j.1 j.2 C.MI)).aI n i λg A c w a=>⟨g,rfl,λu=>?_,λz=>bW (λl=>fb c z (l.VF e).1) (b.trans a)⟩⟩
   have v:=c.1 u
   refine(fS (Q.ext (b.trans a)) v.1 (bS v).1).aI a i ?_
   rintro _ m5 ⟨fl,rfl,aa,k⟩
   refine⟨k,_,_,_,rfl,eV ?_ (b.trans (a.trans k))⟩
   simp only[ar]
   refine⟨λd=>?_,λh=>(h.VF e).2⟩
   refine⟨q,p,?_,?_,?_,?_,?_,?_,?_,?_,?_,?_,?_⟩<;>intro r<;>first|(exfalso;omega)|exact⟨v,d⟩
  simp only[aj]at e7
  refine⟨λe=>?_,λe8=>?_⟩
  .simp only[aG]at e
   have W:=G.2.1 V
   have j:=B V
   refine⟨V,V,_,D f V,j.1,V,_,F f V,(dY _ _).aI n i λg A c w a=>⟨g,rfl,eV (c.trans ?_) (b.trans a)⟩⟩
   refine⟨λd=>?_,λh=>h.drop e⟩
   refine⟨q,p,?_,?_,?_,?_,?_,?_,?_,?_,?_,?_,?_⟩<;>intro r<;>first|(exfalso;omega)|exact d
  simp only[aj]at e8
  refine⟨λe=>?_,λe9=>?_⟩
  .simp only[bT,aG]at e
   refine(Ka t hI (R.ext f) (U.ext f) (L.ext f) C.F C.MI C.arg ⟨G.2.2.2.1 e,G.1⟩ e).aI n i λg A c w a=>⟨g,rfl,eV (c.trans ?_) (b.trans a)⟩
   refine⟨λd=>?_,λh=>h.NL e⟩
   refine⟨q,p,?_,?_,?_,?_,?_,?_,?_,?_,?_,?_,?_⟩<;>intro r<;>first|(exfalso;omega)|exact d
  simp only[bt,aj]at e9
  refine⟨λe=>?_,λab=>?_⟩
  .simp only[aG]at e
   have W:=G.2.1 V
   have j:=B V
   refine⟨d,t.ru,V,V,_,D f V,j.1,V,_,F f V,(jf t.heap (C.F.pT j.1 j.2 C.MI)).aI n i λg A c w a=>⟨g,rfl,λu=>?_,λz=>bW (λl=>fb c z (l.load e).1) (b.trans a)⟩⟩
   have v:=c.1 u
   have H:=b.trans a
   refine⟨V,V,_,D H V,j.1,V,_,F H V,(fS (Q.ext H) v.1 (bS v).1).aI a i ?_⟩
   rintro _ m5 ⟨fl,rfl,aa,k⟩
   have ag:=aa.len
   refine⟨k,_,_,_,rfl,k.de ((ai.ext a).cg 2),eV ?_ (b.trans (a.trans k))⟩
   simp only[ar]
   refine⟨λd=>?_,λh=>oh ((h.load e).2)⟩
   refine⟨q,p,?_,?_,?_,?_,?_,?_,?_,?_,?_,?_,?_⟩<;>intro r<;>first|(exfalso;omega)|exact⟨v,V⟩
  simp only[aj]at ab
  refine⟨λe=>?_,λag=>?_⟩
  .simp only[aG]at e
   have W:=G.2.1 V
   have j:=B V
   refine⟨d,t.ru,V,V,_,D f V,j.1,V,_,F f V,(jf t.heap (C.F.pT j.1 j.2 C.MI)).aI n i λg A c w a=>⟨g,rfl,λu=>?_,λz=>bW (λl=>fb c z (l.Fp e).1) (b.trans a)⟩⟩
   have v:=c.1 u
   have H:=b.trans a
   have l:=Q.ext H
   refine⟨ah,l.bq,V,V,_,D H V,j.1,V,_,F H V,(AK l.fe.bq C.ok.fe.om.types _).aI a i ?_⟩
   rintro _ m5 ⟨cs,rfl,ak,k⟩
   have s:=a.trans k
   refine⟨k,cs,rfl,k.de (F H V),k.de (D H V),k.de ((ai.ext a).cg 4),k.de ((ao.ext a).cg 3),(fS (Q.ext (b.trans s)) v.1 (bS v).1).aI s i ?_⟩
   rintro _ m6 ⟨fl,rfl,aa,T⟩
   refine⟨T,_,_,_,rfl,(dz (ak.ext T) _).aI (s.trans T) i λb2 m7 y h8 ae=>⟨b2,rfl,eV (y.trans ?_) (b.trans ae)⟩⟩
   refine⟨λd=>?_,λh=>(h.Fp e).2⟩
   refine⟨q,p,?_,?_,?_,?_,?_,?_,?_,?_,?_,?_,?_⟩<;>intro r<;>first|(exfalso;omega)|exact⟨v,d⟩
  .simp only[aj]at ag
   refine iV ?_ f
   refine⟨q,p,?_,?_,?_,?_,?_,?_,?_,?_,?_,?_,?_⟩<;>intro r<;>exfalso<;>omega
end
end Go.Proofs.YtkoifinbblcbiaaGreat
