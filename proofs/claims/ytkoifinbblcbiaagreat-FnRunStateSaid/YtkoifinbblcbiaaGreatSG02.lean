/- Part of a proof. -/
import Derived.Test.YtkoifinbblcbiaaGreatSG01
set_option linter.all false
set_option maxHeartbeats 8000000
set_option maxRecDepth 100000
namespace Go.Proofs.YtkoifinbblcbiaaGreat
open Go.Vc
section
variable{c m:E}{k i g a:Nat}{s:O}{d:List Nat}{e:List Int}{x:cU}{f:List gR}
def VQ{a b:E}(h:J a c)(f:Fz [k] c b)(g:a.size<=k):J a b:=Fz.ext (((h.fz [k]).trans f).DR λe d=>Or.inr (by simp at d;omega))
def _root_.Go.Vc.Fz.OO{M b:E}(f:Fz [k] c M)(h:s.D=k\/c.size<=s.D)(g:M.size<=b.size)(q:∀a,a<M.size->a≠s.D->b[a]? =M[a]?):Fz [k] c b:=
 f.sq ⟨g,λa d e=>q a d (by simpa using e)⟩ (Y:=[s.D]) (λy d=>by simp at d⊢;omega)
def GI.ZK{X:List Nat}{b:E}{x:O}{f:List Int}{K:O->E->Prop}(h:GI d b m s e)(k:Fz X b m)(n:ap m x f)(p:e.length+f.length<=10^12)
 (l:∀r a,GI d b a r (e++f)->Fz X b a->(m.size<=a.size/\(r.D=s.D\/m.size<=r.D))->(∀c,c<m.size->c≠s.D->a[c]? =m[c]?)->K r a):jO m aA [.i 0] 8 s x K:=by
 let⟨o,g,i,j⟩:=n.V1 (b:=1) λ_ _ h=>by rw[h];rfl
 exact Gr.next (g:=[.i 0]) ug.mono bn h k g i j V l
def bO(d:List Nat){b:O}(h:ap m b e)(c:e.length<=10^12):k8 66 [O.v b] m d (e=·):=by
 apply nE;intro i;have a:J m i:=J.push m _;exact GI.ZK (e:=[]) (X:=[]) (GI.nil d m) (a.fz []) (h.ext a) (by simpa using c) λr j g f _ _=>⟨r,e,rfl,by simpa using g,rfl,f.ext⟩
abbrev GB(d:List Nat)(a m:E)(s:O)(e:List Bk):Prop:=Gr d a m dh 2 rT s e
def GB.new(d:List Nat)(m:E):GB d m (m.push (.cells (bt []) dh)) (.mk m.size 0 0 0) []:=Gr.new d (ad _) _ _ _
def GB.kL{d X:List Nat}{g m:E}{s a:O}{e:List Bk}{c:Bk}{K:O->E->Prop}(h:GB d g m s e)(k:Fz X g m)(j:eP (bH (s.D::d) m) a c.aB)(l:e.length<=10^12)
 (i:∀r b,GB d g b r (e++[c])->Fz X g b->m.size<=b.size/\(r.D=s.D\/m.size<=r.D)->(∀f,f<m.size->f≠s.D->b[f]? =m[f]?)->K r b):
 jO (m.push (.cells (bt [.s a,.i c.aT]) dh)) dh [.s .nil,.i 0] 32 s (.mk m.size 0 1 1) K:=
 Gr.kL (g:=[.s .nil,.i 0]) rT.mono bn h k (by cases c;exact rT.of j) V i
def KL{a:List bz}{b bQ:Int}{y:Int}(h:b=8)(c:(cy a bQ)[i]? =some y):BY a b bQ i=(cB a y).length:=by unfold BY;rw[an h,c];rfl
def KM{b:List bz}{a bQ:Int}(h:a≠8):BY b a bQ i=0:=by unfold BY;rw[ae h]
def _root_.Go.Vc.WS.P3{b:List bz}{f d:Prop}(h:WS b g f a x)(j:f->d){bZ:Int}(l:0<=bZ/\bZ<=(a:Int)){bC:List Bk}(i:bC.length=x.bC.length)(m:∀(k:Nat)(c:Bk),bC[k]? =some c->WB b g d (a+BY b x.op x.bQ k) c):WS b g d a ⟨x.op,x.bQ,bZ,x.args,bC⟩:=
 ⟨⟨h.fe.op.imp id λh=>⟨j h.1,h.2⟩,h.fe.args,h.fe.lM,l,λe=>i.trans (h.fe.Kr e),λe=>i▸h.fe.all e,h.fe.call⟩,m⟩
def ID(hS:∀g∈d,g<m.size){Y U ae a k ac ab:O}{r:List bz}{G lo la:List Int}(D:eL m Y U r f)(hv:ap m ae G)(ha:ap m a x.args)(R:nI m k x.bC)(ho:ap m ac lo)(aA:ap m ab la)
 (aB:∀o∈lo,0<=o/\o<(G.length:Int))(XG:lo.length+5*x.w<=500)(XE:la.length+1000*x.w<=1000000)(vN:G.length+5*x.w<=1000000)(aa:WS r f.length False G.length x)(ih:∀c∈x.bC,WM r f c):
 KF 293 [.agg #[O.v Y,O.v U],O.v ae,pv x a k,O.v ac,O.v ab] m d λy=>WS r f.length True G.length y/\y.op=x.op/\y.w<=1+x.args.length+1100*bw x.bC:=by
 apply AQ
 simp -zeta only[aD,aC]
 intro m0 o p ak
 let⟨q,u,s0,s1,s2⟩:=qx (a:=m0) (b:=o) (c:=p) rfl rfl rfl
 have ao:J p ak:=J.push _ _
 have gk:=GB.new (o.size::d) p
 clear_value p
 have aK:=ha.len;have az:=R.len;have hw:=cU.mu x;have aQ:=KO x.bC
 refine(iy (e:=[p.size]) (by simp[ak]) (D.le (q.trans ao).le).bo D.types x.bQ).aH ao u λg cl m4 t F x4 u4=>⟨_,rfl,?_⟩
 subst F
 have aR:=t.len
 refine ez (n:=x.bC.length) (az▸R.gV) (λj s M=>Fz [p.size] m4 M/\(s.D=p.size\/m4.size<=s.D)/\∃e,GB (o.size::d) p M s e/\e.length=j/\(∀(i:Nat)(c:Bk),e[i]? =some c->WB r f.length True (G.length+BY r x.op x.bQ i) c)/\bw e<=1100*bw (x.bC.take j)) ⟨Fz.az _ _,Or.inl rfl,[],gk.ext rT.mono x4,rfl,aL,aL⟩ ?_
 rintro j s T au μ hj ⟨N,aF,e,Q,aT,ag,ay⟩ aH
 have h:=VQ u4 N (ad _)
 have hy:=Q.bh
 refine dit (λz=>?_) λz=>?_
 .intro m6
  have l:J T m6:=J.push _ _
  let⟨c,C⟩:=cG x.bC j
  have aM:=wX C
  have aP:=uH C
  have av:∀{M:E},J T M->∀g∈s.D::o.size::d,g<M.size:=λz=>bP (bP hS q.size (u _ aL)) (h.trans z).size (oh z.size)
  have iH:∀(M:E)(H:O)(P:List Int)(w:O),J T M->ap M H P->P.length=BY r x.op x.bQ j->eP M w c.aB->
   aN cq 322 [.agg #[O.v Y,O.v U],O.v ae,O.v H,.agg #[O.v w,vi c.aT],O.v ac,O.v ab] M λrv K=>eF [o.size,m0.size,m.size] M K/\∃am:O,∃an:Int,rv=.agg #[O.v am,vi an]/\
    let M1:E:=K.push (.cells (bt [.s am,.i an]) dh)
    jO M1 dh [.s O.nil,.i (0:Int)] 32 s (O.mk K.size 0 1 1) λal L=>eF [o.size,m0.size,m.size] M1 L/\au al (cO ((j:Int)+(1:Int))) L/\μ al (cO ((j:Int)+(1:Int))) L<μ s j T:=by
   intro M H P w B hf af I
   have X:=q.trans (h.trans B)
   have b3:=QN D.types x.op x.bQ j
   refine(JZ (c:=s.D::o.size::d) (av B) (D.le X.le) (hv.ext X) hf I (ho.ext X) (aA.ext X) ⟨aB,V,V,V,V,af▸aa.bC j c C⟩ (ih c (aq C))).aH (h.trans B) u λss b' K aG F y u'=>⟨_,_,rfl,?_⟩
   refine GB.kL (c:=b') (Q.ext rT.mono (B.trans y)) (u'.fz []) aG (oh (qy x.bC)) λU L g2 f2 z2 q2=>⟨J.oP (u'.aK _) f2.ext u,aH V _ _ ⟨(N.then (B.trans y)).OO aF z2.1 q2,?_,_,g2,bF,λi b2 v=>?_,?_⟩⟩
   .have A:=(N.then (B.trans y)).size
    rcases z2.2 with Z|Z<;>omega
   .rcases aW i e.length with A|A
    .rw[ax A]at v;exact ag i b2 v
    .rw[aJ A]at v
     have:i -e.length=0:=by have:=aw v;simp at this;omega
     rw[this]at v;simp at v;subst v
     have:i=j:=V
     subst this
     rw[<-af];exact F.1
   .rw[oY,uG,zS]
    have:=F.2;omega
  refine⟨λA=>?_,λA=>?_⟩
  .simp only[aI]at A
   have aS:=(aa.fe.all A).1
   let⟨ar,ah⟩:=cG (cy r x.bQ) j
   refine⟨V,V,ar,(eQ.1 ((t.le ((N.then l).df aL)).aG ah)).2,?_⟩
   have W:=h.trans l
   refine(dK (e:=[]) aL ((D.le (q.trans W).le).bo.le (Am _)) D.types ar).aH W u λH P m7 hf F x7 u7=>⟨_,rfl,?_⟩
   subst F
   let⟨w,I,e0,e1⟩:=(R.le (q.trans u7).le).aG C
   exact⟨V,V,_,e0,_,e1,iH m7 H _ w (l.trans x7) (hf.le (bA _ _)) (KL A ah).symm I⟩
  .simp only[aj]at A
   let⟨w,I,e0,e1⟩:=(R.le (q.trans (h.trans l)).le).aG C
   exact⟨V,V,_,e0,_,e1,iH m6 _ [] w l (mI _ _ _ _ _ _) (KM A).symm I⟩
 .have A:e.length=x.bC.length:=V
  rw[bX V]at ay
  refine(bO (o.size::d) (ha.ext (q.trans h)) V).aH h u λB H m6 w Z l W=>⟨_,rfl,aE (l.same _ (h.lt (u _ aL))) _,aE (l.same _ (h.lt (u _ aL))) _,?_⟩
  subst Z
  intro m7
  have C:=(Q.ext rT.mono l).bh
  have v:∀g∈o.size::d,g<p.size:=bP hS q.size V
  refine⟨B,s,⟨x.op,x.bQ,0,x.args,e⟩,rfl,(w.done (λg t=>aO (v g t) h.size) V).le (cz aL λg t=>ai _ t),nI.le (cz aL λg t=>ai _ t) ((Q.ext rT.mono l).done rT.mono v bn (by have:=qy x.bC;show e.length<=_;omega)),⟨aa.P3 (λz=>z.elim) ⟨V,V⟩ A ag,rfl,?_⟩,(q.trans W).ah V _ _⟩
  rw[cU.mu]
  simp only
  omega
def _root_.Go.Vc.RQ{σ τ ρ:Type}{n:Nat}(u:n<=9223372036854775807){j:σ}{l:τ}{h:ρ}{g:(σ->τ->ρ->Int->E->Prop)->(σ->τ->ρ->Int->E->Nat)->σ->τ->ρ->Int->E->Prop}(Q:Nat->σ->τ->ρ->E->Prop)(p:Q 0 j l h m)
 (o:∀(k:Nat)(s:σ)(t:τ)(r:ρ)(a:E)(I:σ->τ->ρ->Int->E->Prop)(μ:σ->τ->ρ->Int->E->Nat),k<=n->Q k s t r a->
  (k<n->∀d e c b,Q (k+1) d e c b->I d e c (cO ((k:Int)+1)) b/\μ d e c (cO ((k:Int)+1)) b<μ s t r k a)->g I μ s t r k a):
 ∃(I:σ->τ->ρ->Int->E->Prop)(μ:σ->τ->ρ->Int->E->Nat),I j l h 0 m/\∀s t r i a,I s t r i a->g I μ s t r i a:=by
 refine⟨λs t r i b=>∃k:Nat,i=k/\k<=n/\Q k s t r b,λ_ _ _ i _=>(n -i).toNat,⟨0,rfl,dH _,p⟩,?_⟩
 rintro s t r i a ⟨k,rfl,q,v⟩
 refine o k s t r a _ _ q v λf d e c b w=>?_
 rw[jW f u]
 exact⟨⟨k+1,rfl,f,w⟩,DI f⟩
structure CB(ds:List bz)(g:Nat)(d:List Nat)(m2 M:E)(v lo:List Int)(aB:List cU)(k:Nat)(st inn mn:O):Prop where
 x:J m2 M
 hs:∃e,GS (inn.D::mn.D::d) m2 M st e/\WL ds g True v.length e/\dc e=dc (aB.take k)/\sw e<=1100*sw (aB.take k)
 hi:∃e,GI d m2 M inn e/\e.length=v.length+dc (aB.take k)
 hm:∃e,GI d m2 M mn e/\e.length<=lo.length+k/\∀o∈e,0<=o/\o<((v.length+dc (aB.take k):Nat):Int)
 ne:inn.D≠mn.D
def ZO{b:List bz}(h:WS b g False a x):dn x=1:=an (h.fe.op.resolve_right λh=>h.1)
def GG{U:List bz}:∀c:Bk,WM U f c:=by
 refine Bk.ind ?_;intro aB v ih d m hS b8 c0 dQ c2 dM c6 aj lo la hn hv hs A bN hp;have bf:=hp.wb.aS;simp only[Bk.jV,Bk.jx]at*;have XG:=hp.XG;have XE:=hp.XE;have vN:=hp.vN;rw[(Bk.qQ aB v)]at XG XE vN;apply y9;simp -zeta only[aD,aC];intro m0 o q aI;let⟨F,N,s0,s1,s2⟩:=qx (a:=m0) (b:=o) (c:=q) rfl rfl rfl;have bo:J q aI:=J.push _ _;have bK:∀am,GS am q aI (.mk q.size 0 0 0) []:=λam=>GS.new am q;have s3:aI.size=q.size+1:=by simp[aI]
 clear_value aI;clear_value q;have bS:=hs.len;have cK:=BP aB;have ds:=gB aB;refine(bO d (hv.ext (F.trans bo)) V).aH bo N λl _ m4 G p x4 u4=>⟨_,rfl,?_⟩;subst p;refine(bO d (A.ext (F.trans u4)) V).aH u4 N λu _ m5 W p x5 u5=>⟨_,rfl,?_⟩;subst p;have bT:=G.bh;have bU:=W.bh;refine RQ (n:=aB.length) (bS▸hs.gV) (λk z l u g=>CB U f.length (o.size::d) q g aj lo aB k z l u) ⟨u5,⟨[],((bK _).ext gC.mono x4).ext gC.mono x5,WL.nil _ _ _ _,rfl,aL⟩,⟨aj,((G.ext x5).cv (λ_ h=>h) bo.size).any,aL⟩,⟨lo,(W.cv (λ_ h=>h) u4.size).any,V,by simpa using hp.aR⟩,V⟩ ?_;clear G W bT bU bK;rintro k z l u B bq μ hk ⟨x6,⟨R,gs,aX,Z,dt⟩,⟨li,G,aT⟩,⟨lm,W,db,bQ⟩,dm⟩ a3
 have v6:=F.trans x6;have dg:=G.len bn;have de:=tn (aB.take k);have dj:=qS k aB;have L:∀j∈o.size::d,j<q.size:=bP hS F.size (N _ aL);have cv:ap B l li:=(G.done L V).le (bA _ _);have cx:ap B u lm:=(W.done L V).le (bA _ _);have dH:=gs.bh;have bT:=G.bh;have bU:=W.bh;have cJ:=gB (aB.take k);have dh:k<=sw (aB.take k):=by rw[gL]at cJ;omega
 refine dit (λh=>?_) λh=>?_
 .let⟨x,r⟩:=cG aB k;let⟨a,kk,ha,bM,g0,g1,g2,g3,g4⟩:=hs.aG r;refine⟨V,V,_,v6.af g0,_,v6.af g1,_,v6.af g2,_,v6.af g3,_,v6.af g4,?_⟩;intro m7 C;have x8:J B C:=(J.push B _).ah (ad _) _ _;have s8:C.size=B.size+1:=by simp[C,m7,av]
  clear_value C;have T:=x6.trans x8;have z6:=x6.size;have t:∀{g:E},C.size<=g.size->∀c∈[B.size,o.size,m0.size,m.size],c<g.size:=λh c hb=>by
   rcases List.mem_cons.1 hb with p|p
   .omega
   .have:=T.lt (N c p);omega
  have dA:=p7 r;have dy:=qV r;have dz:=cU.mu x;have af:WS U f.length False li.length x:=by rw[aT];exact bf.1 k x r
  have bL:=ZO af;have dw:=cK (k+1);have dd:=qy x.bC;have dk:=gB R;have ae:∀{g:E},J q g->At g b8 c0 a kk U f x:=λh=>⟨hn.le (F.trans h).le,ha.ext (F.trans h),af.fe.call⟩;have aW:∀{g:E},GI (o.size::d) q g l li->ap g l li:=λw=>(w.done L V).le (bA _ _);have bd:∀{g:E},GI (o.size::d) q g u lm->ap g u lm:=λw=>(w.done L V).le (bA _ _);have an:∀{g:E}{am:List Nat},C.size<=g.size->(∀j∈am,j<g.size)->∀j∈am++o.size::d,j<g.size:=λh hb j b=>by
   rcases List.mem_append.1 b with h|h
   .exact hb j h
   .have:=L j h;omega
  refine(om (ae T).Q9 (aW (G.ext x8)) (ae T).args (bM.le (F.trans T).le) V λc _=>nt c).aH (J.az C) (t (ad _)) λty m9 x9 _=>⟨_,rfl,?_⟩;intro aZ;have b2:J C aZ:=x9.aK _;have e0:ap (bH [] aZ) (.mk m9.size 0 0 0) []:=mI _ _ _ _ _ _;clear_value aZ;rw[jW (k:=k) (n:=aB.length) V (bS▸hs.gV)]at a3⊢
  refine(AB (.mk aB v) [] aZ aL c2 _ _ _ (k+1) (hs.le (F.trans (T.trans b2)).le) e0 (by simp only[Bk.jV];omega) (by simp only[Bk.qQ,eW];omega)).aH b2 (t (ad _)) λus ul cO hu cL dR bm=>⟨_,rfl,?_⟩;rw[Bk.qQ,eW]at cL;refine(Pe (S:=[]) aL hu ((bN.ext (F.trans (T.trans bm))).le (Am _)) V).aH bm (t (ad _)) λlt ll cP ba bY c3 au=>⟨_,rfl,?_⟩;have aH:∀{g:E},GI [] cO g lt ll->ap g lt ll:=λw=>(w.done aL (oh bY.2)).le (bA _ _);have br:=T.trans au;have bx:=G.ext (x8.trans au);have bG:=W.ext (x8.trans au);have cp:=gs.ext gC.mono (x8.trans au);refine(GJ (b:=[]) aL (ae br) (aW bx) af.fe.args (bd bG) (aH ba) V).aH (J.az cP) (t au.size) λdu dl cQ cj bZ aw _=>⟨_,rfl,?_⟩;have c7:=bZ.2;have dT:=au.size;have dU:=aw.size;have dS:=bm.size;have d8:=c3.size;refine(eY (c:=[z.D,l.D,u.D]++o.size::d) (an V bF) 14 ((cj.done aL V).le (bA _ _)) V).aH (J.az cQ) (t V) λdO _ a0 ce p ax _=>⟨_,rfl,?_⟩;subst p;have dV:=ax.size;refine GS.all (cp.ext gC.mono (aw.trans ax)) (((br.trans aw).trans ax).fz []) (ce.done gC.mono (an (am:=[z.D,l.D,u.D]) V bF) bn bF) bF λbl bV bv b9 b3 a5=>⟨λj b=>a5 j (t V j b) ?_,?_⟩
  .simp at b;omega
  have aS:J q bV:=b9.ext;have cw:l.D<a0.size:=V;have cy:u.D<a0.size:=V;have cA:z.D≠l.D:=gs.Lv G bn;have cB:z.D≠u.D:=gs.Lv W bn;have di:=ba.bh;have bB:=(bx.ext (aw.trans ax)).jz (a5 _ cw cA.symm);have bJ:=(bG.ext (aw.trans ax)).jz (a5 _ cy cB.symm);have bE:=(ba.ext (aw.trans ax)).jz (a5 _ V V);have dp:bl.D=z.D\/a0.size<=bl.D:=b3.2;have dD:=bv.bh;have dW:=b3.1;refine(ID (d:=[bl.D,l.D,u.D]++o.size::d) (an V bF) (ae aS).Q9 (aW bB) (ae aS).args (bM.le (F.trans aS).le) (bd bJ) (aH bE) (by rw[aT];exact bQ) V (oh bY.2) V af (ih x (aq r))).aH (J.az bV) (t V) λc_ da x' bW cr cs cY ay _=>⟨_,_,_,_,_,rfl,?_⟩;let⟨cM,cI,dx⟩:=cY;have dX:=ay.size;refine GS.kL (x:=x') (bv.ext gC.mono ay) ((aS.trans ay).fz []) cr cs bF λaK bg bw b_ b4 a6=>⟨λj b=>?_,?_⟩
  .have:=t (g:=bW) V j b;rw[a6 j this (by simp at b;omega),(J.push bW _).same j this]
  have a8:J q bg:=b_.ext;have bC:=(bB.ext ay).jz (a6 _ V V);have co:=(bJ.ext ay).jz (a6 _ V V);have a_:=(bE.ext ay).jz (a6 _ V V);have dq:aK.D=z.D\/a0.size<=aK.D:=by have:=b4.2;omega
  have dY:=b4.1;refine(II (b:=[]) aL (ae a8) (aW bC) af.fe.args (bd co) (aH a_) V).aH (J.az bg) (t V) λar lf cR gf bj az _=>⟨_,rfl,?_⟩;have bs:=a8.trans az;have dZ:=az.size;have cu:∀{g:E},GI [] bg g ar lf->ap g ar lf:=λw=>(w.done aL (oh bj.2)).le (bA _ _);refine(IJ (b:=[]) aL (ae bs) (cu gf) (aH (a_.ext az)) V).aH (J.az cR) (t V) λc1 Q cS gd b0 aA _=>⟨_,rfl,?_⟩;have d0:=aA.size;have c9:=b0.2;have c8:=bj.2;have dG:=gf.bh;have dF:=gd.bh;have dE:=bw.bh;refine(eY (c:=[aK.D,ar.D,l.D]++o.size::d) (an V bF) 15 ((gd.done aL V).le (bA _ _)) V).aH (J.az cS) (t V) λdP _ cT cg p ak _=>⟨_,rfl,?_⟩;subst p;have b6:=(bs.trans aA).trans ak;have d3:=ak.size;have cf:GS ([ar.D,l.D]++o.size::d) q cT aK _:=bw.re gC.mono (Y:=[]) (((az.trans aA).trans ak).fz []) aL aL λj b=>by
   simp only[cZ,eE,aV]at b⊢;rcases b with h|h|h
   .exact Or.inr V
   .exact Or.inl (Or.inl h)
   .exact Or.inl (Or.inr (Or.inr h))
  refine GS.all cf (b6.fz []) (cg.done gC.mono (an (am:=[aK.D,ar.D,l.D]) V bF) bn bF) bF λH a1 ch ca c4 aJ=>⟨λj b=>aJ j (t V j b) ?_,?_⟩
  .simp at b;omega
  have b7:J q a1:=ca.ext;have d4:=c4.1;have cm:=((bC.ext az).ext (aA.trans ak)).jz (aJ _ V V);have cl:=(gf.ext (aA.trans ak)).jz (aJ _ V V);have ci:=(gd.ext ak).jz (aJ _ V V);have cn:=((a_.ext az).ext (aA.trans ak)).jz (aJ _ V V);have bc:ap a1 c1 Q:=(ci.done aL V).le (bA _ _);have ct:=bc.len;have ck:GI (o.size::d) q a1 ar lf:=(cl.cv (λ_ h=>h) a8.size).any;refine ez (n:=Q.length) (ct▸bc.gV) (λ_ s g=>J a1 g/\∃e,GI (o.size::d) q g s e/\GS ([s.D,l.D]++o.size::d) q g H (R++dl.map (eZ 14)++[x']++Q.map (eZ 15))/\pB lf e/\l.D≠s.D/\C.size<=s.D) ⟨J.az _,lf,ck,ch,⟨λ_ h=>h,ad _⟩,V,V⟩ ?_;rintro i s bh I2 μ2 hi ⟨aE,e,gl,bb,P,cC,dr⟩ cW;have bu:=b7.trans aE;have d5:=aE.size;have cN:=gl.bh;refine dit (λh2=>?_) λh2=>?_
  .let⟨I,K⟩:=cG Q i;refine⟨V,V,I,(bc.ext aE).aG K,?_⟩;refine(BO (S:=[]) aL (((gl.done L (oh P.2)).le (bA _ _)).le (Am _)) I (oh P.2)).aH (J.az bh) (t V) λac X ab g2 y D _=>⟨_,rfl,cW V _ _ ⟨aE.trans D,X,(g2.cv (λ_ h=>h) bu.size).any,?_,⟨λaF hz=>P.1 aF (y.1 aF hz),bI y.2 P.2⟩,?_,?_⟩⟩
   .have aa:=g2.bh;refine bb.re gC.mono (Y:=[]) (D.fz []) aL aL λj b=>?_;simp only[cZ,eE,aV]at b⊢;rcases b with h|h|h
    .exact Or.inr V
    .exact Or.inl (Or.inr (Or.inl h))
    .exact Or.inl (Or.inr (Or.inr h))
   .have:=g2.bh;omega
   .have:=g2.bh;omega
  intro dJ;have bD:=cm.ext aE;refine GI.kL bD (bu.fz []) L V λaa ao ab cb b5 a7=>⟨λj b=>?_,?_⟩
  .have:=t (g:=bh) V j b;rw[a7 j this (by simp at b;omega),(J.push bh _).same j this]
  have a9:J q ao:=cb.ext;have c5:=b5.1;have cF:H.D≠l.D:=bb.Lv bD bn;have aG:=gl.jz (a7 _ cN.2 cC.symm);have bR:=b5.2;have ac:GS ([s.D,aa.D]++o.size::d) q ao H _:=bb.re gC.mono (Y:=[l.D]) ⟨c5,λj b hn=>a7 j b (by simpa using hn)⟩ aL (by simpa using cF) λj b=>by
   simp only[cZ,eE,aV]at b⊢;rcases b with h|h|h
   .exact Or.inl (Or.inl h)
   .rcases bR with p|p
    .exact Or.inl (Or.inr (Or.inl (h.trans p)))
    .exact Or.inr V
   .exact Or.inl (Or.inr (Or.inr h))
  have bi:aa.D≠s.D:=by rcases bR with p|p<;>omega
  have I:WL U f.length True aj.length (R++dl.map (eZ 14)++[x']++Q.map (eZ 15))/\dc (R++dl.map (eZ 14)++[x']++Q.map (eZ 15))=dc (aB.take (k+1))/\sw (R++dl.map (eZ 14)++[x']++Q.map (eZ 15))+2<=1100*sw (aB.take (k+1)):=by
   have df:dn x'=1:=by unfold dn at bL⊢;rw[cI];exact bL
   have d1:dc (dl.map (eZ 14))=0:=jX V _;have d2:dc (Q.map (eZ 15))=0:=jX V _;refine⟨((aX.append (rX V λy A=>?_)).yV ?_).append (rX V λy A=>?_),?_,?_⟩
   .rw[Z,<-aT];exact af.fe.args y (bZ.1 y A)
   .rw[cV,d1,Z,jH,<-aT];exact cM
   .have:=af.fe.args y (b0.1 y A);rw[cV,cV,d1,Z,kN,tp];omega
   .rw[cV,cV,cV,d1,d2,Z,kN,tp];omega
   .rw[dC,dC,dC,oI,oI,mN,vC];omega
  have be:∀y∈e,0<=y/\y<((aj.length+dc (aB.take (k+1)):Nat):Int):=λy A=>by
   have:=bQ y (bj.1 y (P.1 y A));omega
  have bX:∀(g:E),J ao g->bq H aa s ((k+1:Nat):Int) g/\μ H aa s ((k+1:Nat):Int) g<μ z l u k B:=λg r=>
   a3 V _ _ _ _ ⟨a9.trans r,⟨_,(ac.re gC.mono (Y:=[]) (r.fz []) aL aL λj b=>Or.inl (by simp only[cZ,eE,aV]at b⊢;rcases b with h|h|h;exact Or.inr (Or.inl h);exact Or.inl h;exact Or.inr (Or.inr h))),I.1,I.2.1,V⟩,⟨_,ab.ext r,bF⟩,⟨e,aG.ext r,oh P.2,be⟩,bi⟩
  have dI:=ac.bh;have cX:∀(g:E),J ao g->aN cq 227 [vi (15:Int),vi (l.len:Int)] g λrv D=>eF [B.size,o.size,m0.size,m.size] g D/\∃aM:Int,∃aO:Int,∃aP:Int,∃aQ:O,∃aR:O,rv=.agg #[vi aM,vi aO,vi aP,O.v aQ,O.v aR]/\
   let M2:E:=D.push (.cells (bt [.i aM,.i aO,.i aP,.s aQ,.s aR]) gF)
   jO M2 gF [.i (0:Int),.i (0:Int),.i (0:Int),.s O.nil,.s O.nil] 72 H (O.mk D.size 0 1 1) λb1 K=>eF [B.size,o.size,m0.size,m.size] M2 K/\bq b1 aa s ((k+1:Nat):Int) K/\μ b1 aa s ((k+1:Nat):Int) K<μ z l u k B:=by
   intro g r
   have zx:=r.size
   have dB:=ab.bh
   refine(jm (c:=[H.D,s.D,aa.D]++o.size::d) (an V bF) 15 (l.len:Int)).mono λrv D⟨pa,pk,p,X,h2,ag⟩=>?_
   subst p
   have d7:=ag.size
   have aY:=r.trans ag
   refine⟨ag.dq (t V),_,_,_,_,_,rfl,?_⟩
   have cD:H.D≠aa.D:=ac.Lv ab bn
   have cE:H.D≠s.D:=ac.Lv aG bn
   refine GS.kL (x:=eZ 15 (l.len:Int)) (ac.ext gC.mono aY) ((a9.trans aY).fz []) X h2 (Ps I.2.2 (gB (R++dl.map (eZ 14)++[x']++Q.map (eZ 15)))) λr' K w aU aF a4=>⟨λj b=>?_,a3 V _ _ _ _ ⟨aU.ext,⟨_,(w.re gC.mono (Y:=[]) ((J.az _).fz []) aL aL λj b=>Or.inl (by simp only[cZ,eE,aV]at b⊢;rcases b with h|h|h;exact Or.inr (Or.inl h);exact Or.inl h;exact Or.inr (Or.inr h))),I.1.yV (DZ V ?_),?_,?_⟩,⟨_,(ab.ext aY).jz (a4 _ V cD.symm),bF⟩,⟨e,(aG.ext aY).jz (a4 _ V cE.symm),oh P.2,be⟩,bi⟩⟩
   .have:=t (g:=D) V j b
    rw[a4 j this (by simp at b;omega),(J.push D _).same j this]
   .rw[I.2.1];omega
   .rw[cV,I.2.1];simp[kN,dn,eZ,px]
   .rw[dC,mN,vC]
    have h5:(eZ 15 (l.len:Int)).w=2:=by rw[cU.mu];rfl
    have:=I.2.2;omega
  refine⟨λ_=>?_,λh0=>⟨λX=>by rw[h0]at X;simp at X,λ_=>bX ao (J.az _)⟩⟩;refine(dv (aH (((cn.ext aE).jz (a7 _ V V)))) _).any.aH (J.az ao) (t V) λc a2 al _=>⟨_,rfl,λ_=>?_,λ_=>⟨λ_=>cX a2 al,λ_=>bX a2 al⟩⟩;intro dK;have cH:H.D≠s.D:=ac.Lv aG bn;have d6:=al.size;refine GI.kL (aG.ext al) ((a9.trans al).fz []) L (oh P.2) λdN dL cd cc bp bk=>⟨λj b=>?_,a3 V _ _ _ _ ⟨cc.ext,⟨_,(ac.ext gC.mono al).re gC.mono (Y:=[s.D]) ⟨bp.1,λj b hn=>bk j b (by simpa using hn)⟩ aL (by simpa using cH) λj b=>?_,I.1,I.2.1,V⟩,⟨_,(ab.ext al).jz (bk _ ?_ bi),bF⟩,⟨_,cd,?_,?_⟩,?_⟩⟩
  .have:=t (g:=a2) V j b;rw[bk j this (by simp at b;omega),(J.push a2 _).same j this]
  .simp only[cZ,eE,aV]at b⊢;rcases b with h|h|h
   .exact Or.inl (Or.inr (Or.inl h))
   .rcases bp.2 with p|p
    .exact Or.inl (Or.inl (h.trans p))
    .exact Or.inr V
   .exact Or.inl (Or.inr (Or.inr h))
  .have:=ab.bh;omega
  .have:=P.2;simp;omega
  .intro y A;rcases List.mem_append.1 A with A|A
   .exact be y A
   .simp at A;omega
  .have:=ab.bh;rcases bp.2 with p|p<;>omega
 .have aa:k=aB.length:=V;subst aa;rw[fw]at*;have P:∀(g:E)(H:O)(t:List cU),J q g->GS (l.D::u.D::o.size::d) q g H t->WL U f.length True aj.length t->dc t=dc aB->sw t<=1100*sw aB+2->
   let y:E:=ah g o.size 0 [.s H,.i v]
   ∃s c,Value.agg #[O.v H,vi v]=.agg #[O.v s,vi c.aT]/\eP (bH d y) s c.aB/\(WB U f.length True aj.length c/\c.w+1050<=1100*(Bk.mk aB v).w)/\J m y:=by
   intro g H t r w X h2 h3 y
   have ab:=gB t
   have:=w.bh
   refine⟨H,.mk t v,rfl,eP.le (cz aL λj b=>ai _ b) (w.re gC.mono (S':=o.size::d) (Y:=[]) (Fz.az _ _) aL aL (λj b=>Or.inl (ai _ (ai _ b)))|>.done gC.mono L bn bF),⟨WB.of X (by rw[h2];exact bf.2),?_⟩,(F.trans r).ah V _ _⟩
   rw[Bk.qQ,Bk.qQ];omega
  have lM:∀(g:E),J B g->aN cq 227 [vi (14:Int),vi v] g λrv D=>eF [o.size,m0.size,m.size] g D/\∃aM:Int,∃aO:Int,∃aP:Int,∃aQ:O,∃aR:O,rv=.agg #[vi aM,vi aO,vi aP,O.v aQ,O.v aR]/\
   let M2:E:=D.push (.cells (bt [.i aM,.i aO,.i aP,.s aQ,.s aR]) gF)
   jO M2 gF [.i (0:Int),.i (0:Int),.i (0:Int),.s O.nil,.s O.nil] 72 z (O.mk D.size 0 1 1) λQ K=>eF [o.size,m0.size,m.size] M2 K/\
    let y:E:=ah K o.size 0 [.s Q,.i v]
    ∃s c,Value.agg #[O.v Q,vi v]=.agg #[O.v s,vi c.aT]/\eP (bH d y) s c.aB/\(WB U f.length True aj.length c/\c.w+1050<=1100*(Bk.mk aB v).w)/\J m y:=by
   intro g r
   refine(jm (c:=z.D::l.D::u.D::o.size::d) (λj b=>?_) 14 v).mono λrv D⟨a,kk,p,X,h2,x1⟩=>?_
   .have:=r.size
    simp at b
    rcases b with h|h|h|h|h
    .omega
    .omega
    .omega
    .have:=x6.lt (N o.size aL);omega
    .have:=hS _ h;have:=v6.size;omega
   subst p
   have ag:=x6.trans (r.trans x1)
   refine⟨J.oP (x6.trans r) ag N,_,_,_,_,_,rfl,?_⟩
   refine GS.kL (x:=eZ 14 v) (gs.ext gC.mono (r.trans x1)) (ag.fz []) X h2 (oh (gB R)) λr' K w aU aF a4=>⟨J.oP (ag.aK _) aU.ext N,P K r' _ aU.ext w (aX.yV (DZ V (by rw[Z];exact bf.2))) ?_ ?_⟩
   .rw[cV,Z];simp[kN,dn,eZ,px]
   .rw[dC];simp[mN,cU.mu,eZ];omega
  let⟨aF,hz⟩:=cG li v.toNat;refine⟨V,V,aF,cv.aG hz,λ_=>?_,λ_=>P B z R x6 gs aX Z V⟩;refine(dv (bN.ext v6) v).any.aH x6 N λc m7 I u7=>⟨_,rfl,λ_=>lM m7 I,λ_=>?_⟩;exact(dv (cx.ext I) v).any.aH u7 N λc C x8 T=>⟨_,rfl,λ_=>lM C (I.trans x8),λ_=>P C z R T ((gs.ext gC.mono I).ext gC.mono x8) aX Z V⟩
end
structure ZF(ds:List bz)(nr:Nat)(v lm:List Int)(b:Bk):Prop where
 aR:∀o∈lm,0<=o/\o<(v.length:Int)
 lN:lm.length+5*b.w<=1000000
 vN:v.length+5*b.w<=1000000
 wb:WB ds nr False v.length b
def XW(a:List bz)(d:List gR)(b:Bk):Prop:=∀(S:List Nat)(m:E),(∀c∈S,c<m.size)->∀(f r h t g:O)(v c:List Int),eL m f r a d->ap m h v->eP m t b.aB->ap m g c->ZF a d.length v c b->
 nA 240 [.agg #[O.v f,O.v r],O.v h,.agg #[O.v t,vi b.aT],O.v g] m S λe=>WB a d.length True v.length e/\e.w+20<=40*b.w+2*c.length
def J9{o:List Nat}{m:E}(hS:∀c∈o,c<m.size){ag am ay aY K:O}{G:List bz}{rs:List gR}{v:List Int}{x:cU}(hn:eL m ag am G rs)(hv:ap m ay v)(ha:ap m aY x.args)(hk:nI m K x.bC)
 (vN:v.length+5*x.w<=1000000)(aM:WS G rs.length False v.length x)(ih:∀h∈x.bC,XW G rs h):
 KF 260 [.agg #[O.v ag,O.v am],O.v ay,pv x aY K] m o λx'=>WS G rs.length True v.length x'/\x'.op=x.op/\x'.w<=1+x.args.length+40*bw x.bC:=by
 apply Db
 simp -zeta only[aD,aC]
 intro F e k a5
 let⟨N,H,s0,s1,s2⟩:=qx (a:=F) (b:=e) (c:=k) rfl rfl rfl
 have a_:J k a5:=J.push _ _
 have gk:=GB.new (e.size::o) k
 clear_value k
 have bs:=ha.len;have bj:=hk.len;have hw:=cU.mu x;have bE:=KO x.bC;have bo:=hv.len
 have aK:∀c∈e.size::o,c<k.size:=bP hS N.size (H _ aL)
 refine(iy (e:=[k.size]) (by simp[a5]) (hn.le (N.trans a_).le).bo hn.types x.bQ).aH a_ H λc cl m4 d aR x4 u4=>⟨_,rfl,?_⟩
 subst aR
 have bG:=d.len
 refine ez (n:=x.bC.length) (bj▸hk.gV) (λj s M=>Fz [k.size] m4 M/\(s.D=k.size\/m4.size<=s.D)/\∃p,GB (e.size::o) k M s p/\p.length=j/\(∀(aa:Nat)(h:Bk),p[aa]? =some h->WB G rs.length True (v.length+BY G x.op x.bQ aa) h)/\bw p<=40*bw (x.bC.take j)) ⟨Fz.az _ _,Or.inl rfl,[],gk.ext rT.mono x4,rfl,aL,aL⟩ ?_
 rintro j s Z aX μ hj ⟨f5,bl,p,C,bI,a4,a0⟩ bq
 have L:=VQ u4 f5 (ad _)
 have hy:=C.bh
 refine dit (λu=>?_) λu=>?_
 .intro m6
  have x6:J Z m6:=J.push _ _
  have u6:=L.trans x6
  let⟨h,P⟩:=cG x.bC j
  have bB:=wX P
  have bD:=uH P
  have bu:=QN hn.types x.op x.bQ j
  have bx:=qy x.bC
  refine⟨λaZ M=>J Z M/\∃B,ap M aZ B/\B.length=BY G x.op x.bQ j,⟨λh8=>?_,λh8=>?_⟩,?_⟩
  .simp only[aI]at h8
   have g:=(aM.fe.all h8).1
   let⟨y,a⟩:=cG (cy G x.bQ) j
   refine⟨V,V,y,(eQ.1 ((d.le ((f5.then x6).df aL)).aG a)).2,?_⟩
   refine(dK (e:=[]) aL ((hn.le (N.trans u6).le).bo.le (Am _)) hn.types y).aH u6 H λaZ B m7 hf aR f i=>⟨_,rfl,x6.trans f,B,hf.le (bA _ _),?_⟩
   subst aR;exact(KL h8 a).symm
  .simp only[aj]at h8
   exact⟨x6,[],mI _ _ _ _ _ _,(KM h8).symm⟩
  rintro fs m8 ⟨R,B,hf,a2⟩
  have e8:(ay.len:Int)=((v.length:Nat):Int):=by rw[bo]
  rw[e8]
  refine(sa (S:=[]) aL (hf.le (Am _)) v.length V).aH (L.trans R) H λmi ml y gm qm T u9=>⟨_,rfl,?_⟩
  let⟨aU,hs,e0,e1⟩:=hk.aG P
  have v9:=N.trans u9
  refine⟨V,V,_,v9.af e0,_,v9.af e1,?_⟩
  have z5:=L.size
  have g9:=C.ext rT.mono (R.trans T)
  have a3:∀{M:E},J y M->ap M mi ml:=λu=>((gm.done aL (oh qm.2)).le (bA _ _)).ext u
  have bJ:=qm.2
  have E5:∀{M f:E},J k M->J k f->∀{a6:Prop},a6->af f K.D (K.off+Int.toNat (j:Int)*2)=af M K.D (K.off+Int.toNat (j:Int)*2)/\af f K.D (K.off+Int.toNat (j:Int)*2+1)=af M K.D (K.off+Int.toNat (j:Int)*2+1)/\
   af f F.size 4=af M F.size 4/\af f m.size 0=af M m.size 0/\af f m.size 1=af M m.size 1/\a6:=λ{M f} u h' _ hp=>by
   have aB:∀h,h<k.size->∀z,af f h z=af M h z:=λh P z=>aE (by rw[h'.same h P,u.same h P]) z
   exact⟨((N.trans h').af e0).trans ((N.trans u).af e0).symm,((N.trans h').af e1).trans ((N.trans u).af e1).symm,aB _ V _,aB _ V _,aB _ V _,hp⟩
  have ao:∀{M:E},J Z M->∀c∈s.D::e.size::o,c<M.size:=λu c d=>by
   have:=u.size;rcases List.mem_cons.1 d with g|g
   .omega
   .have:=aK c g;omega
  have X:∀{M:E}{a:Nat},J Z M->a<M.size->∀c∈[a,e.size,F.size,m.size],c<M.size:=λu P c d=>by
   rcases List.mem_cons.1 d with g|g
   .omega
   .exact(L.trans u).lt (H c g)
  have tail:∀(M:E)(a:Nat)(Q:O)(i:Bk),GB (a::e.size::o) k M s p->J Z M->J y M->y.size<=a->a<M.size->eP (bH (a::s.D::e.size::o) M) Q i.aB->WB G rs.length True (v.length+B.length) i/\i.w+20<=40*h.w+2*ml.length->
   let l:E:=ah M a 0 [.s Q,.i i.aT]
   aN cq 257 [vi (14:Int),O.v mi] l λrv q=>eF [a,e.size,F.size,m.size] l q/\∃ab:O,rv=O.v ab/\af q a 1=af l a 1/\af q a 0=af l a 0/\
    jO q gF [.i (0:Int),.i (0:Int),.i (0:Int),.s O.nil,.s O.nil] 72 ab Q λau w=>eF [a,e.size,F.size,m.size] q w/\af w a 1=af q a 1/\
     let M4:E:=w.push (.cells (bt [.s au,.i i.aT]) dh)
     jO M4 dh [.s O.nil,.i (0:Int)] 32 s (O.mk w.size 0 1 1) λac W=>eF [a,e.size,F.size,m.size] M4 W/\aX ac (cO ((j:Int)+(1:Int))) W/\μ ac (cO ((j:Int)+(1:Int))) W<μ s j Z:=by
   intro M a Q i C I bp bi bv ak hq l
   have z1:l.size=M.size:=av _ _ _ _
   have z9:=(R.trans T).size
   have ba:J y l:=bp.ah bi _ _
   have U:J Z l:=(R.trans T).trans ba
   have bk:s.D≠a:=V
   have g1:GB (e.size::o) k l s p:=C.re rT.mono (Y:=[a]) ((Fz.az [a] M).ah (Or.inl aL) _ _) aL (by simpa using bk) λc d=>Or.inl (ai _ d)
   have bm:eP (bH (s.D::e.size::o) l) Q i.aB:=ak.le (cz aL λc d=>ai _ d)
   have bC:=Bk.mu i;have a0:=gB i.aB
   refine(eY (c:=s.D::e.size::o) (ao U) 14 (a3 ba) V).aH (J.az l) (X U V) λab _ q aH g an _=>⟨_,rfl,aE (an.same _ V) _,aE (an.same _ V) _,?_⟩
   subst g
   have z2:=an.size
   refine GS.all aH (an.fz []) (bm.le (tr an aH.bh.1)) bF λau w be bd bM a7=>?_
   have ae:J l w:=bd.ext
   have z3:=ae.size
   have bK:=aH.bh
   refine⟨λc d=>a7 c (oh (X U (a:=a) V c d)) (oh (X U (a:=a) V c d)),aE (a7 _ V V) _,?_⟩
   intro M4
   have bg:=be.done gC.mono (ao U) bn bF
   refine GB.kL (c:=.mk (ml.map (eZ 14)++i.aB) i.aT) (g1.ext rT.mono ae) ((((L.trans U).trans ae)).fz []) bg V λac W bf br bc a8=>⟨λc d=>?_,bq V _ _ ⟨(f5.then (U.trans ae)).OO bl bc.1 a8,?_,_,bf,bF,λaa b2 r=>?_,?_⟩⟩
   .have:=X (U.trans ae) (a:=a) V c d
    rw[a8 c this (by simp at d;omega),(J.push w _).same c this]
   .have h1:=(f5.then (U.trans ae)).size
    rcases bc.2 with g|g<;>omega
   .rcases aW aa p.length with t|t
    .rw[ax t]at r;exact a4 aa b2 r
    .rw[aJ t]at r
     have:aa -p.length=0:=by have:=aw r;simp at this;omega
     rw[this]at r;simp at r;subst r
     have:aa=j:=V
     subst this
     rw[<-a2]
     refine WB.of ((rX V λz ho=>?_).append ?_) ?_
     .have:=qm.1 z ho;omega
     .rw[jX V];exact hq.1.aS.1
     .rw[cV,jX V,bT];exact hq.1.aS.2
   .rw[oY,uG,zS,Bk.qQ,dC,oI]
    have:=hq.2;omega
  have a1:∀(M:E)(aG:List Nat)(aF:Value->E->Prop),J y M->(∀c∈aG,c<M.size)->(∀s f,ap f s (v++B)->J M f->aF (O.v s) f)->aN cq 187 [O.v ay,O.v fs] M λv m'=>eF aG M m'/\aF v m':=λM aG aF I X hK=>
   (eO (S:=[]) aL ((hv.ext (v9.trans I)).le (Am _)) ((hf.ext (T.trans I)).le (Am _)) V).aH (J.az M) X λs ll f C g x _=>hK s f (by subst g;exact(C.done aL bF).le (bA _ _)) x
  have D:∀(M:E)(S':List Nat)(t:O),(∀c∈S',c<M.size)->J y M->ap M t (v++B)->nA 240 [.agg #[O.v ag,O.v am],O.v t,.agg #[O.v aU,vi h.aT],O.v mi] M S' λi=>WB G rs.length True (v.length+B.length) i/\i.w+20<=40*h.w+2*ml.length:=by
   intro M S' t bh I r;have hm:=v9.trans I;have:=ih h (aq P) S' M bh ag am t aU mi (v++B) ml (hn.le hm.le) r (hs.le hm.le) (a3 I) ⟨λz ho=>?_,V,bF,by simp;rw[a2];exact aM.bC j h P⟩
   .simpa using this
   .have:=qm.1 z ho;simp;omega
  have iH:∀(M:E)(a:Nat)(t:O),GB (a::e.size::o) k M s p->J y M->y.size<=a->a<M.size->ap M t (v++B)->
   aN cq 240 [.agg #[O.v ag,O.v am],O.v t,.agg #[O.v aU,vi h.aT],O.v mi] M λrv f=>eF [a,e.size,F.size,m.size] M f/\∃aS:O,∃aT:Int,rv=.agg #[O.v aS,vi aT]/\
    let l:E:=ah f a 0 [.s aS,.i aT]
    aN cq 257 [vi (14:Int),O.v mi] l λrv q=>eF [a,e.size,F.size,m.size] l q/\∃ab:O,rv=O.v ab/\af q a 1=af l a 1/\af q a 0=af l a 0/\
     jO q gF [.i (0:Int),.i (0:Int),.i (0:Int),.s O.nil,.s O.nil] 72 ab aS λau w=>eF [a,e.size,F.size,m.size] q w/\af w a 1=af q a 1/\
      let M4:E:=w.push (.cells (bt [.s au,.i aT]) dh)
      jO M4 dh [.s O.nil,.i (0:Int)] 32 s (O.mk w.size 0 1 1) λac W=>eF [a,e.size,F.size,m.size] M4 W/\aX ac (cO ((j:Int)+(1:Int))) W/\μ ac (cO ((j:Int)+(1:Int))) W<μ s j Z:=by
   intro M a t C I h1 h2 h3
   have x5:=(R.trans T).trans I
   have z9:=(R.trans T).size
   refine(D M (a::s.D::e.size::o) t (λc d=>?_) I h3).aH (J.az M) (X x5 h2) λQ i f ak hq ar _=>⟨_,_,rfl,tail f a Q i (C.ext rT.mono ar) (x5.trans ar) (I.trans ar) h1 (ar.lt h2) ak hq⟩
   rcases List.mem_cons.1 d with g|g
   .omega
   .exact ao x5 c g
  have aQ:∀(M:E)(z:Obj),GB (e.size::o) k M s p->GB (M.size::e.size::o) k (M.push z) s p:=λM z C=>
   C.re rT.mono (Y:=[]) ((J.push M z).fz []) aL aL λc d=>by
    rcases List.mem_cons.1 d with g|g
    .exact Or.inr V
    .exact Or.inl g
  refine⟨a1 y _ _ (J.az _) (λc d=>u9.lt (H c d)) λt aP r A=>⟨_,rfl,E5 u9 (u9.trans A) ⟨?_,?_⟩⟩,?_⟩
  .have al:=u9.trans A
   have vG:=A.size
   refine(D aP (s.D::e.size::o) t (ao ((R.trans T).trans A)) A r).aH al H λQ i aA ak hq az a9=>⟨_,_,rfl,?_⟩
   intro aV
   have bL:=az.size
   exact E5 a9 (a9.aK _) (tail aV aA.size Q i (aQ aA _ ((g9.ext rT.mono A).ext rT.mono az)) ((((R.trans T).trans A).trans az).aK _) ((A.trans az).aK _) V (by simp[aV]) (ak.le (tr (J.push aA _) (ad _))) hq)
  .intro az
   have al:=u9.trans A
   have vG:=A.size
   exact E5 al (al.aK _) (iH az aP.size t (aQ aP _ (g9.ext rT.mono A)) (A.aK _) V (by simp[az]) (r.ext (J.push _ _)))
  .intro al
   have az:J y al:=J.push _ _
   have aV:J k al:=u9.trans az
   refine E5 u9 aV (a1 al _ _ az (X ((R.trans T).trans az) (by simp[al])) λt a9 r aA=>⟨_,rfl,E5 aV (aV.trans aA) ?_⟩)
   exact iH a9 y.size t ((aQ y _ g9).ext rT.mono aA) (az.trans aA) (ad _) (aA.lt (by simp[al])) r
 .have f:p.length=x.bC.length:=V
  rw[bX V]at a0
  refine(bO (e.size::o) (ha.ext (N.trans L)) V).aH L H λi l m6 a g x6 u6=>⟨_,rfl,aE (x6.same _ (L.lt (H _ aL))) _,aE (x6.same _ (L.lt (H _ aL))) _,?_⟩
  subst g
  intro m7
  refine⟨i,s,⟨x.op,x.bQ,0,x.args,p⟩,rfl,(a.done (λc d=>aO (aK c d) L.size) V).le (cz aL λc d=>ai _ d),nI.le (cz aL λc d=>ai _ d) ((C.ext rT.mono x6).done rT.mono aK bn (by have:=qy x.bC;show p.length<=_;omega)),⟨aM.P3 (λu=>u.elim) ⟨V,V⟩ f a4,rfl,?_⟩,(N.trans u6).ah V _ _⟩
  rw[cU.mu]
  simp only
  omega
structure LB(ds:List bz)(nr:Nat)(S:List Nat)(m2 M:E)(v lm:List Int)(aB:List cU)(k:Nat)(st inn ow:O):Prop where
 x:J m2 M
 hs:∃l,GS (inn.D::ow.D::S) m2 M st l/\WL ds nr True v.length l/\dc l=dc (aB.take k)/\sw l+2*k<=40*sw (aB.take k)
 hi:∃l,GI S m2 M inn l/\l.length=v.length+dc (aB.take k)
 ho:∃l,GI S m2 M ow l/\l.length<=lm.length+k/\∀o∈l,0<=o/\o<((v.length+dc (aB.take k):Nat):Int)
 ne:inn.D≠ow.D
def IH{D:List bz}{G:List gR}:∀p:Bk,XW D G p:=by
 refine Bk.ind ?_;intro aB A ih j C hS bc bN ch cg ce H lm hn hv hs bq hp;have au:=hp.wb.aS;simp only[Bk.jV,Bk.jx]at*;have lN:=hp.lN;have vN:=hp.vN;rw[(Bk.qQ aB A)]at lN vN;apply Bf;simp -zeta only[aD,aC];intro m d f ac;let⟨B,u,s0,s1,s2⟩:=qx (a:=m) (b:=d) (c:=f) rfl rfl rfl;have aM:J f ac:=J.push _ _;have aW:∀I,GS I f ac (.mk f.size 0 0 0) []:=λI=>GS.new I f;have s3:ac.size=f.size+1:=by simp[ac]
 clear_value ac;clear_value f;have bB:=hs.len;have bD:=BP aB;have b1:=gB aB;refine(bO j (hv.ext (B.trans aM)) V).aH aM u λg _ m4 r e x4 u4=>⟨_,rfl,?_⟩;subst e;refine(bO j (bq.ext (B.trans u4)) V).aH u4 u λi _ m5 z e x5 u5=>⟨_,rfl,?_⟩;subst e;have a5:=r.bh;have bI:=z.bh;refine RQ (n:=aB.length) (bB▸hs.gV) (λk t g i a=>LB D G.length (d.size::j) f a H lm aB k t g i) ⟨u5,⟨[],((aW _).ext gC.mono x4).ext gC.mono x5,WL.nil _ _ _ _,rfl,aL⟩,⟨H,((r.ext x5).cv (λ_ h=>h) aM.size).any,aL⟩,⟨lm,(z.cv (λ_ h=>h) u4.size).any,V,by simpa using hp.aR⟩,V⟩ ?_;clear r z a5 bI aW;rintro k t g i s ba μ hk ⟨W,⟨R,K,aw,P,b2⟩,⟨li,r,an⟩,⟨lo,z,bS,a1⟩,a3⟩ bL
 have v6:=B.trans W;have bV:=r.len bn;have bT:=tn (aB.take k);have bX:=qS k aB;have L:∀c∈d.size::j,c<f.size:=bP hS B.size (u _ aL);have cb:=K.bh;have a5:=r.bh;have b_:=z.bh;have bC:=gB (aB.take k);have bW:k<=sw (aB.take k):=by rw[gL]at bC;omega
 have bY:=gB R;have z6:=W.size;have ak:∀{a:E},GI (d.size::j) f a g li->ap a g li:=λq=>(q.done L V).le (bA _ _);have aZ:∀{a:E},GI (d.size::j) f a i lo->ap a i lo:=λq=>(q.done L V).le (bA _ _);have N:∀{a:E}{I:List Nat},s.size<=a.size->(∀c∈I,c<a.size)->∀c∈I++d.size::j,c<a.size:=λh hb c b=>by
  rcases List.mem_append.1 b with h|h
  .exact hb c h
  .have:=L c h;omega
 have aX:∀{a:E},J s a->∀c∈[d.size,m.size,C.size],c<a.size:=λh c b=>(W.trans h).lt (u c b);have bs:t.D≠g.D:=K.Lv r bn;have a4:t.D≠i.D:=K.Lv z bn;refine dit (λh=>?_) λh=>?_
 .let⟨ae,v⟩:=cG aB k;let⟨bb,kk,ha,a0,g0,g1,g2,g3,g4⟩:=hs.aG v;refine⟨V,V,_,v6.af g0,_,v6.af g1,_,v6.af g2,_,v6.af g3,_,v6.af g4,?_⟩;intro m7 y;have x8:J s y:=(J.push s _).ah (ad _) _ _;have s8:y.size=s.size+1:=by simp[y,m7,av]
  clear_value y;have u8:=W.trans x8;have w:∀{a:E},y.size<=a.size->∀p∈[s.size,d.size,m.size,C.size],p<a.size:=λh p hb=>by
   rcases List.mem_cons.1 hb with e|e
   .omega
   .have:=u8.lt (u p e);omega
  have b7:=p7 v;have b5:=qV v;have b6:=cU.mu ae;have aa:WS D G.length False li.length ae:=by rw[an];exact au.1 k ae v
  have aY:=ZO aa;have b3:=bD (k+1);have Z:∀{a:E},J f a->At a bc bN bb kk D G ae:=λh=>⟨hn.le (B.trans h).le,ha.ext (B.trans h),aa.fe.call⟩;refine(om (Z u8).Q9 (ak (r.ext x8)) (Z u8).args (a0.le (B.trans u8).le) V λp _=>nt p).aH (J.az y) (w (ad _)) λty m9 x9 _=>⟨_,rfl,?_⟩;have X9:=u8.trans x9;have z9:=x9.size;refine(y8 (b:=[]) aL (Z X9) (ak ((r.ext x8).ext x9)) aa.fe.args V).aH (J.az m9) (w V) λdu X bJ bk a8 aJ _=>⟨_,rfl,?_⟩;have bR:=a8.2;have vG:=aJ.size;refine(eY (c:=[t.D,g.D,i.D]++d.size::j) (N V bF) 14 ((bk.done aL V).le (bA _ _)) V).aH (J.az bJ) (w V) λcf _ ax bh e aK _=>⟨_,rfl,?_⟩;subst e;have ci:=aK.size;have aO:J s ax:=(((x8.trans x9).trans aJ).trans aK);refine GS.all (K.ext gC.mono aO) (((X9.trans aJ).trans aK).fz []) (bh.done gC.mono (N (I:=[t.D,g.D,i.D]) V bF) bn bF) bF λaH a6 aR bd a9 ay=>⟨λc b=>ay c (w V c b) ?_,?_⟩
  .simp at b;omega
  have aj:J f a6:=bd.ext;have aS:=(r.ext aO).jz (ay _ V bs.symm);have bl:=(z.ext aO).jz (ay _ V a4.symm);have bZ:aH.D=t.D\/ax.size<=aH.D:=a9.2;have b8:=aR.bh;have cj:=a9.1;refine(J9 (o:=[aH.D,g.D,i.D]++d.size::j) (N V bF) (Z aj).Q9 (ak aS) (Z aj).args (a0.le (B.trans aj).le) V aa (ih ae (aq v))).aH (J.az a6) (w V) λca ck U a7 bo bp bM ag _=>⟨_,_,_,_,_,rfl,?_⟩;let⟨bE,bw,b4⟩:=bM;have cl:=ag.size;refine GS.kL (x:=U) (aR.ext gC.mono ag) ((aj.trans ag).fz []) bo bp bF λF al ao be a_ az=>⟨λc b=>?_,?_⟩
  .have:=w (a:=a7) V c b;rw[az c this (by simp at b;omega),(J.push a7 _).same c this]
  have aQ:J f al:=be.ext;have cm:=a_.1;have aT:=(aS.ext ag).jz (az _ V V);have ar:=(bl.ext ag).jz (az _ V V);have b0:F.D=t.D\/ax.size<=F.D:=by have:=a_.2;omega
  have B1:WL D G.length True H.length (R++X.map (eZ 14)++[U])/\dc (R++X.map (eZ 14)++[U])=dc (aB.take (k+1))/\sw (R++X.map (eZ 14)++[U])+2*(k+1)<=40*sw (aB.take (k+1)):=by
   have bU:dn U=1:=by unfold dn at aY⊢;rw[bw];exact aY
   have d1:dc (X.map (eZ 14))=0:=jX V _;refine⟨((aw.append (rX V λo l=>?_)).yV ?_),?_,?_⟩
   .rw[P,<-an];exact aa.fe.args o (a8.1 o l)
   .rw[cV,d1,P,jH,<-an];exact bE
   .rw[cV,cV,d1,P,kN,tp];omega
   .rw[dC,dC,oI,mN,vC];omega
  have a2:∀o∈lo,0<=o/\o<((H.length+dc (aB.take (k+1)):Nat):Int):=λo l=>by
   have:=a1 o l;omega
  have aU:∀(a:E)(T:O)(ab:List Int),J f a->y.size<=a.size->GS (g.D::T.D::d.size::j) f a F (R++X.map (eZ 14)++[U])->GI (d.size::j) f a g li->GI (d.size::j) f a T ab->g.D≠T.D->ab.length<=lm.length+(k+1)->(∀o∈ab,0<=o/\o<((H.length+dc (aB.take (k+1)):Nat):Int))->
   jO (a.push (.cells (bt [.i ty]) aA)) aA [.i (0:Int)] 8 g (O.mk a.size 0 1 1) λaI M'=>eF [s.size,d.size,m.size,C.size] (a.push (.cells (bt [.i ty]) aA)) M'/\ba F aI T (cO ((k:Int)+(1:Int))) M'/\μ F aI T (cO ((k:Int)+(1:Int))) M'<μ t g i k s:=by
   intro a T ab v Q q gI gO br bm bx
   have b9:=gI.bh;have bG:=gO.bh
   have bv:F.D≠g.D:=q.Lv gI bn
   refine GI.kL gI (v.fz []) L V λaI M' bj bg aP aG=>⟨λc b=>?_,bL V _ _ _ _ ⟨bg.ext,⟨_,q.re gC.mono (Y:=[g.D]) ⟨aP.1,λc b hn=>aG c b (by simpa using hn)⟩ aL (by simpa using bv) (λc b=>?_),B1.1,B1.2.1,B1.2.2⟩,⟨_,bj,bF⟩,⟨ab,gO.jz (aG _ bG.2 br.symm),bm,bx⟩,?_⟩⟩
   .have:=w Q c b
    rw[aG c this (by simp at b;omega),(J.push a _).same c this]
   .simp only[aV]at b⊢
    rcases b with h|h|h
    .rcases aP.2 with e|e
     .exact Or.inl (Or.inl (h.trans e))
     .exact Or.inr V
    .exact Or.inl (Or.inr (Or.inl h))
    .exact Or.inl (Or.inr (Or.inr h))
   .rcases aP.2 with e|e<;>omega
  refine⟨λ_=>?_,λ_=>?_⟩
  .intro cc;have bu:F.D≠i.D:=ao.Lv ar bn;refine GI.kL ar (aQ.fz []) L V λbQ bK bi bf am aF=>⟨λc b=>?_,?_⟩
   .have:=w (a:=al) V c b;rw[aF c this (by simp at b;omega),(J.push al _).same c this]
   intro cd;have cn:=am.1;refine aU bK bQ _ bf.ext V (ao.re gC.mono (Y:=[i.D]) ⟨am.1,λc b hn=>aF c b (by simpa using hn)⟩ aL (by simpa using bu) λc b=>?_) (aT.jz (aF _ V a3)) bi ?_ bF ?_
   .simp only[cZ,eE,aV]at b⊢;rcases b with h|h|h
    .exact Or.inl (Or.inl h)
    .rcases am.2 with e|e
     .exact Or.inl (Or.inr (Or.inl (h.trans e)))
     .exact Or.inr V
    .exact Or.inl (Or.inr (Or.inr h))
   .rcases am.2 with e|e<;>omega
   .intro o l;rcases List.mem_append.1 l with l|l
    .exact a2 o l
    .simp at l;omega
  .intro am;exact aU al i lo aQ V ao aT ar a3 V a2
 .have ar:k=aB.length:=V;subst ar;rw[fw]at*;have al:∀(a:E)(X:O)(F:List cU),J f a->s.size<=a.size->GS (g.D::i.D::d.size::j) f a X F->ap a i lo->WL D G.length True H.length F->dc F=dc aB->sw F+2*aB.length<=40*sw aB+2->
   aN cq 257 [vi (15:Int),O.v i] a λrv y=>eF [d.size,m.size,C.size] a y/\∃ae:O,rv=O.v ae/\af y m.size 1=af a m.size 1/\
    jO y gF [.i (0:Int),.i (0:Int),.i (0:Int),.s O.nil,.s O.nil] 72 X ae λaa Z=>eF [d.size,m.size,C.size] y Z/\af Z m.size 1=af y m.size 1/\
     let T:E:=ah Z d.size 0 [.s aa,.i A]
     ∃am p,Value.agg #[O.v aa,vi A]=.agg #[O.v am,vi p.aT]/\eP (bH j T) am p.aB/\(WB D G.length True H.length p/\p.w+20<=40*(Bk.mk aB A).w+2*lm.length)/\J C T:=by
   intro a X F v Q q l aF aj aH
   have hy:=q.bh
   have aG:=gB F
   have az:m.size<a.size:=v.lt (u _ aL)
   refine(eY (c:=[X.D,g.D,i.D]++d.size::j) (N Q bF) 15 l V).aH v u λae _ y ao e w u1=>⟨_,rfl,aE (w.same _ az) _,?_⟩
   subst e
   have z1:=w.size
   have ax:∀c∈[d.size,m.size,C.size],c<y.size:=λc b=>u1.lt (u c b)
   have ay:∀c∈[d.size,m.size,C.size],c<f.size:=u
   refine GS.all (q.ext gC.mono w) (u1.fz []) (ao.done gC.mono (N (I:=[X.D,g.D,i.D]) Q bF) bn bF) bF λaa Z g2 ab ag U=>⟨λc b=>U c (ax c b) (oh (ay c b)),aE (U _ V V) _,?_⟩
   intro T
   refine⟨aa,.mk _ A,rfl,eP.le (cz aL λc b=>ai _ b) ((g2.re gC.mono (S':=d.size::j) (Y:=[]) (Fz.az _ _) aL aL (λc b=>Or.inl (ai _ (ai _ b)))).done gC.mono L bn bF),⟨WB.of (aF.append (rX V λo l=>?_)) ?_,?_⟩,(B.trans ab.ext).ah V _ _⟩
   .have:=a1 o l;rw[aj];exact this
   .rw[cV,jX V,aj];exact au.2
   .rw[Bk.qQ,Bk.qQ,dC,oI];omega
  let⟨ag,Q⟩:=cG li A.toNat;refine⟨V,V,ag,(ak r).aG Q,λ_=>?_,λ_=>al s t R W (ad _) K (aZ z) aw P V⟩;refine(jm (c:=[t.D,g.D,i.D]++d.size::j) (N (ad _) bF) 14 A).mono λrv y⟨pa,pk,e,h1,h2,w⟩=>?_;subst e;refine⟨w.dq (aX (J.az _)),_,_,_,_,_,rfl,?_⟩;have z1:=w.size;refine GS.kL (x:=eZ 14 A) (K.ext gC.mono w) ((W.trans w).fz []) h1 h2 V λr' T q ab ag U=>⟨λc b=>?_,al T r' _ ab.ext V q (aZ ((z.ext w).jz (U _ V a4.symm))) (aw.yV (DZ V (by rw[P];exact au.2))) ?_ ?_⟩
  .have:=aX w c b;have h5:=u c b;rw[U c this V,(J.push y _).same c this]
  .rw[cV,P];simp[kN,dn,eZ,px]
  .rw[dC,mN,vC];have h5:(eZ 14 A).w=2:=by rw[cU.mu];rfl
   omega
section
variable{b:List Nat}{f d h:E}{p t k:O}{q:gR}{l:Int}{g e j:Nat}
def mR.mono:oG 1 mR:=⟨λh=>mR.le h _ _,λ⟨_,h,_⟩=>by rw[h];rfl⟩
def iO.mono:oG 3 iO:=⟨λh=>iO.le h _ _,λ⟨_,h,_⟩=>by rw[h];rfl⟩
def fX(v:∀c∈b,c<f.size){bo:O}{j:List bz}(hd:cx f bo j)(w:dS j):aN cq 202 [O.v bo] f λT B=>∃s,T=O.v s/\cx (bH b B) s j/\J f B:=by
 apply AM;intro N;have ab:=hd.len;have aa:=w.len;have u:Gr b f N jZ 3 iO (.mk f.size 0 0 0) []:=Gr.new b (ad _) _ _ _;refine ez (n:=j.length) V (λq s M=>J f M/\Gr b f M jZ 3 iO s (j.take q)) ⟨J.push _ _,u⟩ ?_;rintro q s d X μ hk ⟨r,m⟩ R
 have hy:=m.bh;refine dit (λl=>?_) λl=>?_
 .let⟨i,o⟩:=cG j q;let⟨z,A,u,g1,g2⟩:=hd.aG o;have ac:=A.len;have Z:=lA w o;intro P;have k:Gr (s.D::b) d P pp 1 mR (.mk d.size 0 0 0) []:=Gr.new _ (ad _) _ _ _;refine ez (n:=i.cons.length) V (λy c M=>J d M/\Gr (s.D::b) d M pp 1 mR c (i.cons.take y)) ⟨J.push _ _,k⟩ ?_;rintro y c C Y μ2 hj ⟨t,k⟩ Q;have g:=r.trans t;refine⟨V,V,z,g.af g2,dit (λK=>?_) λK=>?_⟩
  .let⟨E,x⟩:=cG i.cons y;let⟨U,L,H⟩:=A.aG x;have ae:E.length<=3:=(((w.dz q i o).iZ V).2.2.2 E (aq x)).1;refine⟨V,V,z,g.af g2,V,V,U,g.af H,?_⟩;have af:=k.bh;refine(bO (c.D::s.D::b) (L.ext g) V).then λW _ h I e D=>⟨_,rfl,?_⟩;subst e;intro M;refine Gr.kL (g:=[.s .nil]) mR.mono bn (k.ext mR.mono D) ((t.trans D).fz []) ⟨W,rfl,I.done (λe p=>?_) V⟩ bF λS m7 G F _ _=>Q V _ _ ⟨F.ext,by rw[aU x];exact G⟩;have:=t.size;simp only[aV]at p;rcases p with l|l|l
   .omega
   .omega
   .have:=v e l;have:=r.size;omega
  .refine⟨V,V,_,g.af u,V,V,_,g.af g1,?_⟩;intro h;rw[bX V]at k;have D:eT (bH (s.D::b) C) 1 (mR (bH (s.D::b) C)) c i.cons:=k.done mR.mono (λe p=>by
    rcases List.mem_cons.1 p with x|x
    .omega
    .have:=v e x;have:=r.size;omega) bn V
   refine Gr.kL (g:=[.i 0,.i 0,.s .nil]) (k:=i) iO.mono bn (m.ext iO.mono t) (g.fz []) ⟨c,rfl,D⟩ bF λS M x p _ _=>R V _ _ ⟨p.ext,by rw[aU o];exact x⟩
 .rw[bX V]at m;exact⟨s,rfl,m.done iO.mono v bn V,r⟩
def yA(H:∀i∈b,i<f.size){B:O}{b1:Int}(I:ap f p q.params)(K:ap f t q.cR)(u:q.params.length<=100/\q.cR.length<=100):
 aN cq 229 [.agg #[O.v p,O.v t,vi q.aT,O.v B,vi l],.agg #[O.v k,vi b1]] f λP x=>∃m n,P=.agg #[O.v m,O.v n,vi q.aT,O.v k,vi b1]/\ap (bH b x) m q.params/\ap (bH b x) n q.cR/\J f x:=by
 apply Dv
 simp -zeta only[aD,aC]
 intro L j d
 let⟨s,w,S,T,U⟩:=qx (a:=L) (b:=j) (c:=d) rfl rfl rfl
 clear_value d
 have z:∀i∈j.size::b,i<d.size:=bP H s.size (w _ aL)
 have c:∀{M y:E},J d M->J d y->∀g,g<d.size->∀o,af y g o=af M g o:=λF G g u o=>aE (by rw[G.same g u,F.same g u]) o
 refine(bO (j.size::b) (I.ext s) V).aH (J.az d) w λm _ R C e a _=>⟨_,rfl,c (J.az _) a _ V _,c (J.az _) a _ V _,c (J.az _) a _ V _,c (J.az _) a _ V _,?_⟩
 subst e
 refine(bO (j.size::b) (K.ext (s.trans a)) V).aH a w λn _ N D e Q r=>⟨_,rfl,c a r _ V _,c a r _ V _,c a r _ V _,?_⟩
 subst e
 intro h
 have A:Le (bH (j.size::b) N) (bH b h):=cz aL λi v=>ai _ v
 exact⟨m,n,rfl,((C.done z V).le (Q.df _)).le A,(D.done (λi v=>a.lt (z i v)) V).le A,(s.trans r).ah V _ _⟩
abbrev GR(b:List Nat)(a f:E)(s:O)(l:List gR):Prop:=Gr b a f jS 5 iU s l
def wj{L:List Nat}{m M:E}{v s:O}{x:List gR}{r:Bk}{N:O}{K:E->Prop}(W:∀c∈b,c<m.size)(w:∀c∈L,c<M.size/\c≠g/\c≠s.D)(A:J m M)(y:GR (g::b) m M s x)
 (z:cD M g nl [.s v,.s s])(Z:m.size<=g)(hp:ap M p q.params)(ht:ap M t q.cR)(aa:eP (bH (s.D::g::b) M) k r.aB)(X:q.params.length<=100/\q.cR.length<=100)(hl:x.length<=100)
 (U:∀u d,GR (g::b) m d u (x++[⟨q.params,q.cR,q.aT,r⟩])->cD d g nl [.s v,.s u]->J m d->K d):
 aN cq 229 [.agg #[O.v p,O.v t,vi q.aT,O.v N,vi l],.agg #[O.v k,vi r.aT]] M λH j=>eF L M j/\∃B:O,∃C:O,∃D:Int,∃F:O,∃G:Int,H=.agg #[O.v B,O.v C,vi D,O.v F,vi G]/\af j g 1=af M g 1/\
  let n:E:=j.push (.cells (bt [.s B,.s C,.i D,.s F,.i G]) jS)
  af n g 1=af j g 1/\
  jO n jS [.s O.nil,.s O.nil,.i (0:Int),.s O.nil,.i (0:Int)] 88 s (O.mk j.size 0 1 1) λab o=>eF L n o/\fL o g 1 1/\
   let d:E:=ah o g 1 [.s ab]
   eF L o d/\K d:=by
 have hy:=y.bh
 have Y:=z.lt
 have hz:=A.size
 refine(yA (b:=s.D::g::b) (λc f=>?_) hp ht X).mono λH j⟨p',t',e,R,T,h⟩=>?_
 .simp only[aV]at f
  rcases f with e|e|e
  .omega
  .omega
  .have:=W c e;omega
 subst e
 refine⟨h.dq λc f=>(w c f).1,_,_,_,_,_,rfl,aE (h.same _ Y) _,?_⟩
 intro n
 refine Gr.box (g:=[.s .nil,.s .nil,.i 0,.s .nil,.i 0]) (j:=1) (i:=[.s v,.s s]) (w:=⟨q.params,q.cR,q.aT,r⟩) iU.mono bn (y.ext iU.mono h) ((A.trans h).fz []) ⟨p',t',k,rfl,R,T,aa.le (h.df _)⟩ V (z.ext h) aL bn ⟨Z,aL⟩ (λc f=>⟨h.lt (w c f).1,(w c f).2⟩) λu m' Q I P z' q'=>U u m' Q I P.ext
def kY{β:Type}{a c:E}{g:O}{l:Nat}{f:E->List Ce->β->Prop}(q:oG l f)(p:a=d.push (.cells (bt []) e))(i:c=a.push (.cells (bt [.s O.nil,.s O.nil]) j))(k:h=ah c a.size 0 [.s g,.s (O.mk d.size 0 0 0)]):
 J d h/\cD h a.size j [.s g,.s (O.mk d.size 0 0 0)]/\Gr b d h e l f (.mk d.size 0 0 0) []/\a.size=d.size+1/\h.size=d.size+2:=by
 subst p
 have n:J (d.push (.cells (bt []) e)) h:=by subst i k;exact(J.push _ _).ah (ad _) _ _
 refine⟨(J.push d _).trans n,?_,(Gr.new b (ad _) e l f).ext q n,aL,by subst i k;simp[av]⟩
 have s:cD c (d.push (.cells (bt []) e)).size j [.s O.nil,.s O.nil]:=by rw[i];exact cD.push _ _ _
 rw[k]
 exact cD.ah (m:=c) (o:=0) (r:=[.s g,.s (.mk d.size 0 0 0)]) s
def kV{β:Type}{o b1 r:Nat}{p:E->List Ce->β->Prop}{c A:O}{F:List bz}(G:oG o p)(hz:0<o)(ac:j≠e)(X:∀w∈b,w<f.size)(Y:f.size<=b1/\b1<d.size)(K:J f d)(ak:g=d.size+1)
 (Z:cx (bH (b1::b) d) c F)(hn:A.len=r)(al:r<=1000)(ad:J d h)(U:cD h g j [.s c,.s (O.mk d.size 0 0 0)])(aa:Gr (g::b1::b) d h e o p (.mk d.size 0 0 0) [])(y:Nat->β->Prop)
 {C:(Int->E->Prop)->(Int->E->Nat)->Int->E->Prop}{R:O->O->E->Prop}
 (W:∀D N l q,cx (bH b q) D F->eT (bH b q) o (p (bH b q)) N l->l.length=r->(∀(i:Nat)(x:β),l[i]? =some x->y i x)->J f q->R D N q)
 (T:∀(k:Nat)(M:E)(s:O)(l:List β)(I:Int->E->Prop)(μ:Int->E->Nat),k<r->l.length=k->J d M->Gr (g::b1::b) d M e o p s l->cD M g j [.s c,.s s]->
  (∀u a x,Gr (g::b1::b) d a e o p u (l++[x])->cD a g j [.s c,.s u]->J d a->y k x->I (cO ((k:Int)+1)) a/\μ (cO ((k:Int)+1)) a<μ k M)->C I μ k M):
 ∃(v:Int->E->Prop)(μ0:Int->E->Nat),v (0:Int) h/\(∀(i:Int)(M:E),v i M->
  ((decide (i<(A.len:Int)))=true->C v μ0 i M)/\
  ((decide (i<(A.len:Int)))=false->∃m:O,af M g 0=some (O.v m)/\∃t:O,af M g 1=some (O.v t)/\
   let a:E:=ah M b1 0 [.s m,.s t]
   R m t a)):=by
 refine dT (n:=r) V (λk M=>J d M/\∃s l,Gr (g::b1::b) d M e o p s l/\cD M g j [.s c,.s s]/\l.length=k/\∀(i:Nat)(x:β),l[i]? =some x->y i x) ⟨ad,_,[],aa,U,rfl,aL⟩ ?_
 rintro k M I μ hk ⟨x,s,l,t,B,ab,H⟩ ae
 refine dit (λS=>?_) λS=>?_
 .refine T k M s l I μ V ab x t B λu a ag Q P x' L=>ae V _ ⟨x',u,_,Q,P,bF,λi aj m=>?_⟩
  rcases aW i l.length with z|z
  .rw[ax z]at m;exact H i aj m
  .rw[aJ z]at m
   have:i -l.length=0:=by have:=aw m;simp at this;omega
   rw[this]at m;simp at m;subst m
   have:i=k:=V
   subst this;exact L
 .refine⟨c,B.cp 0,s,B.cp 1,?_⟩
  intro a
  have L:=t.bh
  have z:=t.ne B ac
  have u:Le (bH (g::b1::b) M) (bH b a):=cz aL λw m=>ai _ (ai _ m)
  refine W c s l a (Z.le ((x.bH λw m=>?_).trans u)) (eT.le (t.nK G (λm=>?_) hz V) u λP ag=>G.le u) V H ((K.trans x).ah Y.1 _ _)
  .rcases List.mem_cons.1 m with e|e
   .exact Or.inr V
   .exact Or.inl e
  .simp only[aV]at m
   rcases m with e|e|e
   .exact z e
   .omega
   .have:=X _ e;have:=K.size;omega
structure yF(ds:List bz)(rs:List gR)(c:Prop)(W:Nat):Prop where
 iZ:0<rs.length
 dz:∀q∈rs,q.params.length<=3/\q.cR.length<=3/\WB ds rs.length c q.params.length q.body/\q.body.w<=W
def ve(h:Nat)(e:List Value)(f:E)(b:List Nat)(g:List bz)(Q:List gR->Prop):Prop:=aN cq h e f λv a=>∃d r c,v=.agg #[O.v d,O.v r]/\eL (bH b a) d r g c/\Q c/\J f a
def Ic{d:List bz}{a b:List gR}{c:Prop}{W:Nat}(j:0<a.length)(f:b.length=a.length)(h:∀(i:Nat)(q:gR),b[i]? =some q->q.params.length<=3/\q.cR.length<=3/\WB d a.length c q.params.length q.body/\q.body.w<=W):yF d b c W:=
 ⟨V,λq g=>by obtain⟨i,e⟩:=List.mem_iff_getElem?.1 g;rw[f];exact h i q e⟩
def IW(G:∀i∈b,i<f.size){D:O}{e cR:List Int}{K:Int}(B:ap f p e)(H:ap f t cR)(P:e.length<=100):
 k8 241 [.agg #[O.v p,O.v t,vi K,O.v D,vi l]] f b λa=>(∀o∈a,0<=o/\o<(e.length:Int))/\a.length<=e.length:=by
 apply Bp
 simp -zeta only[aD,aC]
 intro c d
 have v:J f c:=J.push _ _
 have A:∀x∈[f.size],x<c.size:=by simp[c]
 have E:GI b c d (.mk c.size 0 0 0) []:=GI.nil b c
 have L:J c d:=J.push _ _
 clear_value d
 clear_value c
 have R:=B.len
 refine ez (n:=e.length) V (λm s M=>J c M/\∃a,GI b c M s a/\(∀o∈a,0<=o/\o<(e.length:Int))/\a.length<=m) ⟨L,[],E,aL,ad _⟩ ?_
 rintro m s S N μ Q ⟨w,a,j,k,z⟩ q
 have r:=v.trans w
 refine⟨λg=>?_,λg=>⟨s,a,rfl,j.cv (λ_ g=>g) v.size,⟨k,by simp at g;omega⟩,r⟩⟩
 simp only[ar]at g
 let⟨M,I⟩:=cG e m
 refine⟨V,V,M,(B.ext r).aG I,λ_=>?_,λ_=>q V _ _ ⟨w,a,j,k,V⟩⟩
 refine(dv (H.ext r) m).any.aH w A λx T C u=>⟨_,rfl,λ_=>?_,λ_=>q V _ _ ⟨u,a,j.ext C,k,V⟩⟩
 intro h
 refine GI.kL (j.ext C) (u.fz []) (λi z=>v.lt (G i z)) V λW U F y _ _=>⟨J.oP (u.aK _) y.ext A,q V _ _ ⟨y.ext,_,F,λo i=>?_,bF⟩⟩
 rcases List.mem_append.1 i with i|i
 .exact k o i
 .simp at i;omega
end
section
variable{a:List Nat}{b:E}{d r:O}{c:List gR}
def IC(hS:∀e∈a,e<b.size){Z aj t:O}{Q:List bz}{q:gR}(hn:eL b d r Q c)(W:ap b Z q.params)(ht:ap b aj q.cR)(hs:eP b t q.body.aB)(aI:q.params.length<=3)(aq:WB Q c.length False q.params.length q.body)(hw:q.body.w<=95):
 nA 239 [.agg #[O.v d,O.v r],.agg #[O.v Z,O.v aj,vi q.aT,O.v t,vi q.body.aT]] b a λl=>WB Q c.length True q.params.length l/\l.w<=1100*q.body.w:=by
 apply AP
 simp -zeta only[aD,aC]
 intro m0 D H
 let⟨v,h,s0,s1,s2⟩:=qx (a:=m0) (b:=D) (c:=H) rfl rfl rfl
 clear_value H
 have aJ:=W.len
 have T:∀e∈D.size::a,e<H.size:=bP hS v.size (h _ aL)
 refine(DO (S:=[]) aL (hs.le v.le) _ V).aH (J.az H) h λus ul g hu aK P _=>⟨_,rfl,?_⟩
 have ao:ap g us ul:=hu.le (bA _ _)
 intro s I
 have aA:J g I:=(J.push g _).trans (J.push s _)
 have s4:s.size=g.size+1:=by simp[s]
 have i:GI a g I (.mk g.size 0 0 0) []:=(GI.nil a g).ext (J.push s _)
 have gd:GI a g I (.mk s.size 0 0 0) []:=(GI.nil a s).cv (λ_ R=>R) V
 clear_value I
 have z3:=P.size
 have am:∀e∈a,e<g.size:=λe f=>by have:=hS e f;have:=v.size;omega
 refine xe (n:=q.params.length) V (λk L sd M=>J g M/\∃j p,GI a g M L j/\GI a g M sd p/\L.D≠sd.D/\(∀o∈j,0<=o/\o<(q.params.length:Int))/\(∀o∈p,0<=o/\o<(q.params.length:Int))/\j.length<=k/\p.length<=k) ⟨aA,[],[],i,gd,bF,aL,aL,ad _,ad _⟩ ?_
 rintro k L sd m6 aB μ hk ⟨w,j,p,i,gd,G,B,A,cm,cd⟩ K
 have F:=P.trans w
 have v6:=v.trans F
 refine dit (λR=>?_) λR=>?_
 .let⟨ab,Y⟩:=cG q.params k
  have X:∀{m:List Int},(∀o∈m,0<=o/\o<(q.params.length:Int))->∀o∈m++[(k:Int)],0<=o/\o<(q.params.length:Int):=λh o C=>by
   rcases List.mem_append.1 C with C|C
   .exact h o C
   .simp at C;omega
  refine⟨V,V,ab,(W.ext v6).aG Y,λ_=>?_,λ_=>K V _ _ _ ⟨w,j,p,i,gd,G,B,A,V,V⟩⟩
  refine(dv (ht.ext v6) k).any.aH F h λaa m7 u u7=>⟨_,rfl,λ_=>?_,λ_=>K V _ _ _ ⟨w.trans u,j,p,i.ext u,gd.ext u,G,B,A,V,V⟩⟩
  refine(dv (ao.ext (w.trans u)) k).any.aH u7 h λaa m8 x8 u8=>⟨_,rfl,λ_=>?_,λ_=>?_⟩
  .have x:=u.trans x8
   intro m9
   exact GI.Sr (i.ext x) (gd.ext x) G ((w.trans x).fz []) V λr m' z N U y=>⟨J.oP ((F.trans x).aK _) (P.trans y.ext) h,K V _ _ _ ⟨y.ext,_,_,z,N,U,X B,A,bF,V⟩⟩
  .have x:=u.trans x8
   intro m9
   exact GI.Sr (gd.ext x) (i.ext x) G.symm ((w.trans x).fz []) V λr m' z N U y=>⟨J.oP ((F.trans x).aK _) (P.trans y.ext) h,K V _ _ _ ⟨y.ext,_,_,N,z,U.symm,B,X A,V,bF⟩⟩
 intro y
 have ac:J m6 y:=J.push _ _
 have aa:=F.trans ac
 have ab:=v.trans aa
 have e0:ap y (.mk m6.size 0 0 0) []:=mI _ _ _ _ _ _
 have ag:∀{M:E}{t:O}{m:List Int},GI a g M t m->m.length<=3->ap M t m:=λz h=>(z.done am V).le (bA _ _)
 clear_value y
 have aH:=q.body.Ht
 refine(GG q.body (D.size::a) y (λe f=>aa.lt (T e f)) d r Z t L _ q.params j [] (hn.le ab.le) (W.ext ab) (hs.le ab.le) ((ag i V).ext ac) e0 ⟨B,V,bF,V,aq⟩).aH aa h λss l C an X ay ax=>⟨_,_,rfl,?_⟩
 intro ar o
 have ae:J C o:=(J.push C _).ah (ad _) _ _
 have aQ:o.size=C.size+1:=by simp[o,ar,av]
 clear_value o
 have N:=ax.trans ae
 have U:∀e∈[C.size,D.size,m0.size,b.size],e<o.size:=λe f=>by
  rcases List.mem_cons.1 f with x|x
  .omega
  .exact N.lt (h e x)
 have aG:=Bk.mu l;have aF:=gB l.aB
 have aM:=X.2
 refine(eY (c:=D.size::a) (λe f=>N.lt (T e f)) 15 ((ag gd V).ext ((ac.trans ay).trans ae)) V).aH (J.az o) U λaP _ aN af x u _=>⟨_,rfl,aE (u.same _ V) _,aE (u.same _ V) _,?_⟩
 subst x
 have aR:=u.size
 have Y:=af.bh
 refine GS.all af (u.fz []) ((an.le (ae.df _)).le (tr u Y.1)) bF λaw au al ak aS ah=>⟨λe f=>ah e (u.lt (U e f)) (oh (U e f)),aE (ah _ V V) _,?_⟩
 intro aO
 have az:J b au:=(v.trans N).trans ak.ext
 refine⟨aw,.mk _ l.aT,rfl,eP.le (cz aL λe f=>ai _ f) (al.done gC.mono (λe f=>N.lt (T e f)) bn bF),⟨WB.of ((rX V A).append ?_) ?_,?_⟩,az.ah V _ _⟩
 .rw[jX V];exact X.1.aS.1
 .rw[cV,jX V,bT];exact X.1.aS.2
 .rw[Bk.qQ,dC,oI];omega
def LY(K:∀e∈a,e<b.size){i:List bz}(k:eL b d r i c)(hk:yF i c False 95):ve 222 [.agg #[O.v d,O.v r]] b a i λx=>yF i x True 104500:=by
 apply EG;simp -zeta only[aD,aC];intro f a2;let⟨z,v⟩:=dD (a:=f) (c:=a2) rfl rfl;have s1:f.size=b.size+1:=by simp[f]
 clear_value a2;have ai:=k.iX.len;have ar:=k.oJ;refine(fX (b:=f.size::a) (bP K z.size (v _ aL)) (k.le z.le).bo k.types).mono λ_ P⟨ac,j,ae,A⟩=>?_;subst j;refine⟨A.dq v,_,rfl,?_⟩;intro Q am ab;have u2:=z.trans A;let⟨x5,B0,g0,s3,s5⟩:=kY (b:=Q.size::f.size::a) iU.mono (d:=P) (a:=Q) (c:=am) (h:=ab) rfl rfl rfl;clear_value ab;have w:∀e∈[f.size,b.size],e<P.size:=λe g=>A.lt (v e g);have L:∀e∈f.size::a,e<P.size:=λe g=>A.lt (bP K z.size (v _ aL) e g);refine kV (R:=λh o M=>∃d r x,Value.agg #[O.v h,O.v o]=.agg #[O.v d,O.v r]/\eL (bH a M) d r i x/\yF i x True 104500/\J b M) (r:=c.length) (f:=b) (b:=a) iU.mono bn bn K ⟨V,w _ aL⟩ u2 s3 ae ai V x5 B0 g0 (λ_ q=>q.params.length<=3/\q.cR.length<=3/\WB i c.length True q.params.length q.body/\q.body.w<=104500) (λh t N u X Y o p s=>⟨h,t,N,rfl,⟨X,Y,k.types,V⟩,Ic hk.iZ o p,s⟩) λal M st N ao μ ag ap B W C an=>?_
 let⟨q,hq⟩:=cG c al ag;let⟨aa,ah,ak,hw⟩:=hk.dz q (aq hq);have o:=u2.trans B;let⟨au,av,h,T,U,c3,D,E,F,H,I⟩:=k.iX.aG hq;have G:∀{y:Value}{h s:Nat},af b h s=some y->af M h s=some y:=λu=>o.af u;refine⟨st,C.cp 1,V,V,_,G D,_,G E,_,G F,_,G H,_,G I,V,V,_,G D,_,G E,_,G F,_,G H,_,G I,?_⟩;have hy:=W.bh;have ad:=C.lt;have zM:=B.size;refine(IC (a:=st.D::Q.size::f.size::a) (λe g=>?_) (k.le o.le) (T.ext o) (U.ext o) (c3.le o.le) aa ak hw).aH B w λss b' M1 aj Z p u1=>⟨_,_,rfl,?_⟩
 .simp only[aV]at g;rcases g with j|j|j|j
  .omega
  .omega
  .have:=L e (by simp[j]);omega
  .have:=L e (by simp[j]);omega
 have t:∀{y:Value}{h s:Nat},af b h s=some y->af M1 h s=af M h s:=λu=>by rw[p.af (G u),G u]
 refine⟨t D,t E,t F,t H,t I,aE (p.same _ (B.lt (w _ aL))) _,aE (p.same _ ad) _,?_⟩;exact wj (b:=f.size::a) (v:=ac) (x:=N) L (λe g=>by have X:=w e g;have Y:=u1.size;omega) u1 (W.ext iU.mono p) (C.ext p) V (T.ext (o.trans p)) (U.ext (o.trans p)) aj ⟨V,V⟩ V λs' Y g' X x'=>an s' Y _ g' X x' ⟨aa,ah,Z.1,by have:=Z.2;simp only;omega⟩
def Ql(L:∀f∈a,f<b.size){t:List bz}(u:eL b d r t c)(hk:yF t c False 95):ve 223 [.agg #[O.v d,O.v r]] b a t λB=>yF t B True 104500:=by
 apply Ka;simp -zeta only[aD,aC];intro p a2;let⟨D,y⟩:=dD (a:=p) (c:=a2) rfl rfl;have s1:p.size=b.size+1:=by simp[p]
 clear_value a2;have al:=u.iX.len;have az:=u.oJ;refine(fX (b:=p.size::a) (bP L D.size (y _ aL)) (u.le D.le).bo u.types).mono λ_ T⟨ag,h,ah,F⟩=>?_;subst h;refine⟨F.dq y,_,rfl,?_⟩;intro A ap ac;have u2:=D.trans F;let⟨x5,B0,g0,s3,s5⟩:=kY (b:=A.size::p.size::a) iU.mono (d:=T) (a:=A) (c:=ap) (h:=ac) rfl rfl rfl;clear_value ac;have P:∀f∈[p.size,b.size],f<T.size:=λf i=>F.lt (y f i);have N:∀f∈p.size::a,f<T.size:=λf i=>F.lt (bP L D.size (y _ aL) f i);refine kV (R:=λe g M=>∃d r B,Value.agg #[O.v e,O.v g]=.agg #[O.v d,O.v r]/\eL (bH a M) d r t B/\yF t B True 104500/\J b M) (r:=c.length) (f:=b) (b:=a) iU.mono bn bn L ⟨V,P _ aL⟩ u2 s3 ah al V x5 B0 g0 (λ_ q=>q.params.length<=3/\q.cR.length<=3/\WB t c.length True q.params.length q.body/\q.body.w<=104500) (λe o Q s h1 w g j k=>⟨e,o,Q,rfl,⟨h1,w,u.types,V⟩,Ic hk.iZ g j,k⟩) λao M st Q aw μ ai ay Y aa H ar=>?_
 let⟨q,hq⟩:=cG c ao ai;let⟨ak,aj,an,hw⟩:=hk.dz q (aq hq);have C:=u2.trans Y;let⟨au,aB,o,I,c2,c3,e0,e1,e2,e3,e4⟩:=u.iX.aG hq;have G:∀{ae:Value}{o v:Nat},af b o v=some ae->af M o v=some ae:=λK=>C.af K;refine⟨V,V,_,G e0,_,G e1,_,G e2,_,G e3,_,G e4,?_⟩;intro m7 k;have hy:=aa.bh;have ax:=H.lt;have zM:=Y.size;have X:J M k:=(J.push M _).ah (ad _) _ _;have s8:k.size=M.size+1:=by simp[k,m7,av]
 clear_value k;have z:∀f∈[M.size,p.size,b.size],f<k.size:=λf i=>by
  rcases List.mem_cons.1 i with h|h
  .omega
  .have:=P f h;omega
 have U:=C.trans X;have g:∀{Z M2:E},J k Z->J k M2->∀o,o<k.size->∀v,af M2 o v=af Z o v:=λK h' o hb v=>aE (by rw[h'.same o hb,K.same o hb]) v;have j:M.size<k.size:=V;have i1:b.size<k.size:=z _ aL;have i2:A.size<k.size:=V;refine⟨st,(H.ext X).cp 1,?_⟩;refine(IW (b:=[]) aL (I.ext U) (c2.ext U) V).aH (J.az k) z λow lo m9 go ho e _=>⟨_,rfl,g (J.az _) e _ j _,g (J.az _) e _ j _,g (J.az _) e _ j _,g (J.az _) e _ i1 _,g (J.az _) e _ i1 _,g (J.az _) e _ j _,g (J.az _) e _ j _,g (J.az _) e _ j _,g (J.az _) e _ j _,g (J.az _) e _ j _,g (J.az _) e _ i2 _,?_⟩;have W:=U.trans e;have z9:=e.size;have i:=ho.2;refine(IH q.body (st.D::A.size::p.size::a) m9 (λf i=>?_) d r au o ow q.params lo (u.le W.le) (I.ext W) (c3.le W.le) ((go.done aL V).le (bA _ _)) ⟨ho.1,V,V,an⟩).aH e z λss b' aA am ab aF s=>⟨_,_,rfl,g e s _ j _,g e s _ j _,g e s _ j _,g e s _ j _,g e s _ j _,g e s _ i2 _,?_⟩
 .simp only[aV]at i;rcases i with h|h|h|h
  .omega
  .omega
  .have:=N f (by simp[h]);omega
  .have:=N f (by simp[h]);omega
 have x:=X.trans s;have vG:=s.size;exact wj (b:=p.size::a) (v:=ag) (x:=Q) N (λf i=>by have h1:=z f i;have w:=P f;simp only[aV]at i w;rcases i with h|h|h|h<;>first|omega|(have:=w (by simp[h]);omega)|simp at h) (Y.trans x) (aa.ext iU.mono x) (H.ext x) V (I.ext (C.trans x)) (c2.ext (C.trans x)) am ⟨V,V⟩ V λs' M' g' w x'=>ar s' M' _ g' w x' ⟨ak,aj,ab.1,by have:=ab.2;simp only;omega⟩
end
section
variable{x:cU}{l:List cU}{m d M:E}{i f e h:O}{b:List Nat}{c g:List Int}{a:Int}{K:O->E->Prop}
def Bc(a k:O)(m:E):dt cq 245 [pv x a k] m (x.op=14\/x.op=15):=by
 apply GX;simp -zeta only[aD,aC];intro c;have b:J m c:=J.push _ _;refine⟨λh=>iR (Or.inl (by simpa using h)) b,λh=>eU ?_ b⟩;simp only[aj]at h;simp only[aI];omega
def Xw(l:List cU):Prop:=∀x∈l,x.args.length=1
def zI(l:List cU)(o:Int):Prop:=∃x∈l,o∈x.args
def Xw.at(h:Xw l){k:Nat}(a:l[k]? =some x):∃y,x.args[0]? =some y/\zI l y:=by
 have c:=h x (aq a);let⟨y,b⟩:=cG x.args 0;exact⟨y,b,x,aq a,aq b⟩
def Pb(p:eP m i l)(B:Xw l)(H:l.length<=10^12)(v:Int):tg 270 [O.v i,vi v] m λb=>-(l.length:Int)<=b/\b<=l.length:=by
 apply IM;have L:=p.len;refine ez (n:=l.length) V (λk b M=>J m M/\-(k:Int)<=b/\b<=(k:Int)) ⟨J.az _,V,V⟩ ?_;rintro k b c I μ K ⟨e,E,F⟩ C
 refine⟨λj=>?_,λj=>⟨b,rfl,⟨V,V⟩,e⟩⟩;simp only[ar]at j;let⟨x,q⟩:=cG l k;obtain⟨y,r,_⟩:=B.at q;obtain⟨a,Q,o,_,z,_,_,A,_⟩:=p.aG q;have G:=o.len;have P:=aw r;have s:=e.af z;have G3:=e.af A;have h:=(o.ext e).aG r;have u:cO (b+1)=b+1:=aP V V;have w:cO (b -1)=b -1:=aP V V;rw[u,w];have N:∀d,-((k+1:Nat):Int)<=d->d<=((k+1:Nat):Int)->I d (cO ((k:Int)+1)) c/\μ d (cO ((k:Int)+1)) c<μ b k c:=λd a t=>C V _ _ ⟨e,a,t⟩
 have D:(0:Int)<=(k:Int)/\(k:Int)<(i.len:Int)/\∃f:O,af c i.D (i.off+Int.toNat (k:Int)*5+3)=some (O.v f)/\(0:Int)<=(0:Int)/\(0:Int)<(f.len:Int)/\∃g:Int,af c f.D (f.off+Int.toNat (0:Int)*1)=some (vi g)/\
  ((g==v)=true->I (b -1) (cO ((k:Int)+1)) c/\μ (b -1) (cO ((k:Int)+1)) c<μ b k c)/\((g==v)=false->I b (cO ((k:Int)+1)) c/\μ b (cO ((k:Int)+1)) c<μ b k c):=
  ⟨V,V,a,G3,V,V,y,h,λ_=>N _ V V,λ_=>N _ V V⟩
 exact⟨V,V,a,G3,V,V,y,h,λ_=>⟨V,V,_,s,λ_=>N _ V V,λ_=>D⟩,λ_=>D⟩
def Np(q:∀f∈b,f<m.size)(u:eP m i l)(j:Xw l)(G:l.length<=100000000000):k8 269 [O.v i] m b λc=>(∀o∈c,zI l o)/\c.length<=l.length:=by
 apply Ho;intro N;have K:=u.len;refine ez (n:=l.length) V (λk s M=>J m M/\∃c,GI b m M s c/\(∀o∈c,zI l o)/\c.length<=k) ⟨J.push m _,[],GI.nil b m,aL,ad _⟩ ?_;rintro k s d I μ H ⟨e,c,p,v,t⟩ C
 refine⟨λh=>?_,λh=>⟨s,c,rfl,p,⟨v,V⟩,e⟩⟩;simp only[ar]at h;let⟨x,w⟩:=cG l k;let⟨z,y,A⟩:=j.at w;obtain⟨a,R,r,_,E,_,_,g,_⟩:=u.aG w;have F:=r.len;have L:=aw y;refine⟨V,V,a,e.af g,V,V,z,(r.ext e).aG y,?_⟩;refine(mF (S:=b) (λf t=>aO (q f t) e.size) (p.done q V) z V).then λQ B P g f D=>⟨_,rfl,C V _ _ ⟨e.trans D,B,g.cv (λ_ h=>h) e.size,λo j=>?_,oh f.2⟩⟩;rcases f.1 o j with h|h
 .exact v o h
 .subst h;exact A
structure vP(b:List Nat)(m d M:E)(f e h:O)(c lr g:List Int):Prop where
 x:J m M
 gd:GI b m M f c
 gr:GI b m M e lr
 gv:GI [] d M h g
 n1:f.D≠e.D
 n2:f.D≠h.D
 n3:e.D≠h.D
def vP.ext{b:List Nat}{m d M i:E}{f e h:O}{c j g:List Int}(T:vP b m d M f e h c j g)(a:J M i):vP b m d i f e h c j g:=
 ⟨T.x.trans a,T.gd.ext a,T.gr.ext a,T.gv.ext a,T.n1,T.n2,T.n3⟩
def vP.ZL{j:List Int}(T:vP b m d M f e h c j g)(s:∀i∈b,i<m.size)(t:c.length<=10^12)(u:∀r i,vP b m d i r e h (c++[a]) j g->K r i):
 jO (M.push (.cells (bt [.i a]) aA)) aA [.i 0] 8 f (.mk M.size 0 1 1) K:=by
 have o:=T.gr.bh;have p:=T.gv.bh;have v:=T.n1;have w:=T.n2
 refine GI.kL T.gd (T.x.fz []) s t λr i n l z q=>u r i ⟨l.ext,n,T.gr.jz (q _ o.2 T.n1.symm),T.gv.jz (q _ p.2 T.n2.symm),?_,?_,T.n3⟩<;>rcases z.2 with k|k<;>omega
def vP.Sr{j:List Int}(T:vP b m d M f e h c j g)(s:∀i∈b,i<m.size)(t:j.length<=10^12)(u:∀r i,vP b m d i f r h c (j++[a]) g->K r i):
 jO (M.push (.cells (bt [.i a]) aA)) aA [.i 0] 8 e (.mk M.size 0 1 1) K:=by
 have o:=T.gd.bh;have p:=T.gv.bh;have v:=T.n1;have w:=T.n3
 refine GI.kL T.gr (T.x.fz []) s t λr i n l z q=>u r i ⟨l.ext,T.gd.jz (q _ o.2 T.n1),n,T.gv.jz (q _ p.2 T.n3.symm),?_,T.n2,?_⟩<;>rcases z.2 with k|k<;>omega
def Vy(l:List cU)(c:List cU):Prop:=∃b a:List Int,c=b.map (eZ 14)++a.map (eZ 15)/\(∀o∈b,zI l o)/\(∀o∈a,zI l o)/\b.length+a.length<=l.length*l.length
def yz(v:∀t∈b,t<m.size)(Z:eP m i l)(a:Xw l)(x:l.length<=500000):Rt 246 [O.v i] m b (Vy l):=by
 apply Dn;intro r d;have P:J m d:=(J.push m _).trans (J.push r _);have s1:r.size=m.size+1:=by simp[r]
 have gd:GI b m d (.mk m.size 0 0 0) []:=(GI.nil b m).ext (J.push r _);have U:GI b m d (.mk r.size 0 0 0) []:=(GI.nil b r).cv (λ_ F=>F) V;clear_value d;have ah:l.length*l.length<=250000000000:=bI (MC x x) bn;refine(Np (b:=[]) aL (Z.le P.le) a V).then λh g m3 D L Q=>⟨_,rfl,?_⟩;have hv:ap m3 h g:=(D.done aL (oh L.2)).le (bA _ _);have am:=hv.len;have al:=L.2;have an:=D.bh;have au:=P.size;refine xe (n:=g.length) V (λp f e M=>∃c j,vP b m d M f e h c j g/\(∀o∈c,zI l o)/\(∀o∈j,zI l o)/\c.length+j.length<=p*l.length) ⟨[],[],⟨(P.trans Q),gd.ext Q,U.ext Q,D,bF,oh gd.bh,oh U.bh⟩,aL,aL,aL⟩ ?_;rintro p f e m4 ag μ hi ⟨c,j,T,hd,hr,X⟩ ae
 have ac:p*l.length<=l.length*l.length:=dg _ V;have G:∀{M:E}{f e:O}{c j:List Int},vP b m d M f e h c j g->ap M h g:=λT=>(T.gv.done aL V).le (bA _ _);refine dit (λF=>?_) λF=>?_
 .let⟨y,z⟩:=cG g p;have ab:=L.1 y (aq z);refine⟨V,V,y,(G T).aG z,?_⟩;refine(Pb (Z.le T.x.le) a V y).then λw m5 hn s=>⟨_,rfl,?_⟩;have ak:(p+1)*l.length=p*l.length+l.length:=qj _ _;refine⟨λf k M=>k<=w/\(w<=0->k=w)/\(0<w->0<=k)/\∃H,vP b m d M f e h H j g/\(∀o∈H,zI l o)/\H.length+j.length+k.toNat<=p*l.length+w.toNat,λ_ k _=>k.toNat,⟨V,V,V,c,T.ext s,hd,V⟩,?_⟩;rintro af k m6 ⟨n1,n2,n3,I,A,Y,ai⟩;refine dit (λh1=>?_) λh1=>?_
  .refine⟨V,V,y,(G A).aG z,?_⟩;intro q;have u:cO (k -1)=k -1:=aP V V;rw[u];exact A.ZL v V λN R B=>⟨⟨V,V,V,_,B,λo a=>by
    rcases List.mem_append.1 a with a|a
    .exact Y o a
    .simp at a;subst a;exact ab,bF⟩,by dsimp only;omega⟩
  .refine⟨λe q M=>k<=q/\q<=0/\∃K,vP b m d M af e h I K g/\(∀o∈K,zI l o)/\I.length+K.length+(-q).toNat<=p*l.length+l.length,λ_ q _=>(-q).toNat,⟨V,V,j,A,hr,V⟩,?_⟩;rintro ao q m8 ⟨p1,p2,ad,C,aa,aj⟩;refine⟨λW=>?_,λW=>ae V _ _ _ ⟨I,ad,C,Y,aa,V⟩⟩;simp only[ar]at W;refine⟨V,V,y,(G C).aG z,?_⟩;intro m9;have u:cO (q+1)=q+1:=aP V V;rw[u];exact C.Sr v V λN R B=>⟨⟨V,V,_,B,λo a=>by
    rcases List.mem_append.1 a with a|a
    .exact aa o a
    .simp at a;subst a;exact ab,bF⟩,by dsimp only;omega⟩
 .have o:∀t∈b,t<m4.size:=λt X=>by have:=v t X;have:=T.x.size;omega
  refine(eY (c:=b) o 14 ((T.gd.done v V).le (bA _ _)) V).mono λ_ m5⟨s1,C,k,g1,u,s⟩=>?_;subst k;subst u;refine⟨_,rfl,?_⟩;have q:=g1.bh;refine(eY (c:=s1.D::b) (bP o s.size q.2) 15 (((T.ext s).gr.done v V).le (bA _ _)) V).mono λ_ m6⟨I,H,k,g2,y,w⟩=>?_;subst k;subst y;refine⟨_,rfl,?_⟩;refine GS.all (g1.ext gC.mono w) ((s.trans w).fz []) (g2.done gC.mono (bP o s.size q.2) bn bF) bF λN R A z _ _=>⟨N,_,rfl,A.cv gC.mono (λB x=>Or.inl x) T.x.size,⟨c,j,rfl,hd,hr,?_⟩,T.x.trans z.ext⟩;have:p*l.length<=l.length*l.length:=ac;omega
end
section
variable{a c:Nat}
def Jd(a b:Nat):a*a+b*b<=(a+b)*(a+b):=by
 rw[gQ,Nat.mul_add,Nat.mul_add];omega
def Qn{b:Nat}(h:a<=b):a*a<=b*b:=MC h h
structure CN(ds:List bz)(c:Nat)(S:List Nat)(m2 M:E)(a:Nat)(aB:List cU)(k:Nat)(st run:O)(lo lr:List cU)(P:Nat):Prop where
 x:J m2 M
 gs:GS (run.D::S) m2 M st lo
 gr:GS [st.D] m2 M run lr
 wl:WL ds c True a lo
 Xz:dc lo=dc (aB.take k)
 sws:sw lo<=P*P
 P':P+2*lr.length<=sw (aB.take k)
 lM:Xw lr
 XH:∀o,zI lr o->0<=o/\o<((a+dc (aB.take k):Nat):Int)
 ne:st.D≠run.D
def Qi{f:List bz}{l b:List cU}(h:Vy l b)(e:∀o,zI l o->0<=o/\o<(a:Int)):WL f c True a b/\dc b=0/\sw b<=(2*l.length)*(2*l.length):=by
 obtain⟨k,j,rfl,g,i,m⟩:=h;refine⟨(rX V λo d=>e o (g o d)).append ?_,?_,?_⟩
 .rw[jX V];exact rX V λo d=>e o (i o d)
 .rw[cV,jX V,jX V]
 .rw[dC,oI,oI];have:(2*l.length)*(2*l.length)=4*(l.length*l.length):=by
   rw[Nat.mul_mul_mul_comm]
  omega
def Zx(e:List bz)(c:Nat)(b:Bk):Prop:=∀(S:List Nat)(m:E),(∀d∈S,d<m.size)->∀(t:O)(a:Nat),eP m t b.aB->WB e c True a b->b.w<=400000->nA 230 [.agg #[O.v t,vi b.aT]] m S λd=>WB e c True a d/\d.w<=b.w*b.w
def ED{K:List bz}:∀g:Bk,Zx K c g:=by
 refine Bk.ind ?_;intro aB bf ih s I hS bU a hs a9 hw;have aK:=a9.aS;rw[Bk.qQ]at hw⊢;simp only[Bk.jV,Bk.jx]at*;apply xy;simp -zeta only[aD,aC];intro j k Q m3;let⟨x1,hl⟩:=dD (a:=j) (c:=k) rfl rfl;have s0:j.size=I.size+1:=by simp[j]
 have s1:k.size=I.size+2:=by simp[k,s0]
 have bk:J k m3:=(J.push k _).trans (J.push Q _);have s2:Q.size=k.size+1:=by simp[Q]
 have a1:∀u,GS u k m3 (.mk k.size 0 0 0) []:=λu=>(GS.new u k).ext gC.mono (J.push Q _);have a0:∀u,GS u k m3 (.mk Q.size 0 0 0) []:=λu=>(GS.new u Q).cv gC.mono (λg m=>Or.inl m) V;clear_value m3;clear_value k;have a8:=hs.len;have aI:=BP aB;have bB:=gB aB;have az:∀e∈j.size::s,e<k.size:=bP hS x1.size (hl _ aL);refine xe (n:=aB.length) (a8▸hs.gV) (λv G z q=>∃Z t P,CN K c (j.size::s) k q a aB v G z Z t P) ⟨[],[],0,bk,a1 _,a0 _,WL.nil _ _ _ _,rfl,aL,aL,λ_ h=>by simp at h,λaf⟨_,h,_⟩=>by simp at h,bF⟩ ?_;rintro v G z y bm μ hk ⟨Z,t,P,C⟩ aM
 have T:=C.x;have R:=x1.trans T;have bM:=C.gs.bh;have bL:=C.gr.bh;have z4:=T.size;have ay:=C.P';have bC:=aI v;have bo:P*P<=160000000000:=bI (Qn (b:=400000) V) bn;have bx:=gB Z;have a6:=C.sws;have aG:=C.ne;have L:∀{q:E}{u:List Nat},y.size<=q.size->(∀e∈u,e<q.size)->∀e∈u++j.size::s,e<q.size:=λh m e f=>by
  rcases List.mem_append.1 f with h|h
  .exact m e h
  .have:=az e h;omega
 have aH:∀{q:E},J y q->eP q z t:=λh=>eP.le (bA _ _) ((C.gr.ext gC.mono h).nK gC.mono (by simpa using aG.symm) bn V);refine dit (λh=>?_) λh=>?_
 .let⟨d,X⟩:=cG aB v;let⟨pa,pk,ha,ab,g0,g1,g2,g3,g4⟩:=hs.aG X;refine⟨V,V,_,R.af g0,_,R.af g1,_,R.af g2,_,R.af g3,_,R.af g4,?_⟩;intro m5 F;have x6:J y F:=(J.push y _).ah (ad _) _ _;have s6:F.size=y.size+1:=by simp[F,m5,av]
  clear_value F;have O:∀{q:E},F.size<=q.size->∀g∈[y.size,j.size,I.size],g<q.size:=λh g m=>by
   rcases List.mem_cons.1 m with i|i
   .omega
   .have:=hl g i;omega
  have bG:=p7 X;have bE:=qV X;have a_:=cU.mu d;have W:=aK.1 v d X;have bD:=aI (v+1);have br:=qy d.bC;refine(Bc pa pk F).aH (J.az F) (O (ad _)) λbp m7 a3 x7 _=>⟨_,rfl,λhp=>?_,λhp=>?_⟩
  · -- a pair goes to the run
   have hp:=a3.1 hp;have D:d.args.length=1:=W.fe.lM V;have N:dn d=0:=ae λh:px d.op=>by have:=h.2;omega
   have A:=x6.trans x7;intro m8;have r:Le I (bH (z.D::[G.D]) m7):=(Am I).trans (((R.trans A).fz []).bH aL λe f=>by simp at f;have:=x1.size;exact Or.inr V);refine GS.kL (x:=d) (C.gr.ext gC.mono A) ((T.trans A).fz []) (ha.le r) (ab.le r) V λaZ M' U B l w=>⟨λe f=>?_,aM V _ _ _ ⟨Z,t++[d],P,B.ext,(C.gs.ext gC.mono A).re gC.mono (Y:=[z.D]) ⟨l.1,λe f o=>w e f (by simpa using o)⟩ aL (by simpa using aG) (λe f=>?_),U,C.wl,by rw[C.Xz];omega,a6,bF,λak o=>?_,λaf H=>?_,?_⟩⟩
   .have:=O (q:=m7) x7.size e f;rw[w e this (by simp at f;omega),(J.push m7 _).same e this]
   .rcases List.mem_cons.1 f with i|i
    .rcases l.2 with p|p
     .exact Or.inl (by rw[i,p];exact bg)
     .exact Or.inr V
    .exact Or.inl (ai _ i)
   .rcases List.mem_append.1 o with o|o
    .exact C.lM ak o
    .simp at o;subst o;exact D
   .let⟨ak,o,p⟩:=H;have i:dc (aB.take (v+1))=dc (aB.take v):=V;rw[i];rcases List.mem_append.1 o with o|o
    .exact C.XH af ⟨ak,o,p⟩
    .simp at o;subst o;exact W.fe.args af p
   .have:=(C.gs.ext gC.mono A).bh;rcases l.2 with i|i<;>omega
  · -- another step ends the run
   have A:=x6.trans x7;have aS:=A.size;refine(yz (b:=[G.D,z.D]++j.size::s) (L aS bF) (aH A) C.lM V).aH (J.az m7) (O x7.size) λbS ba bN aX bd aO _=>⟨_,rfl,?_⟩;let⟨an,ag,bi⟩:=Qi (f:=K) (c:=c) bd C.XH;have bu:=gB ba;have vG:=aO.size;have z7:=x7.size;have a2:(2*t.length)*(2*t.length)<=160000000000:=bI (Qn (b:=400000) V) bn;have aQ:=A.trans aO;refine GS.all (C.gs.ext gC.mono aQ) ((T.trans aQ).fz []) (aX.done gC.mono (L (u:=[G.D,z.D]) aS bF) bn V) V λw l au aU aR be=>⟨λe f=>be e (O V e f) (by simp at f;omega),?_⟩;have ap:J k l:=aU.ext;have bV:=aR.1;have bJ:=au.bh;have bq:w.D=G.D\/F.size<=w.D:=by have:=aR.2;omega
   intro p am;have aP:J l p:=J.push l _;have bT:p.size=l.size+1:=by simp[p]
   have bj:J p am:=J.push p _;have ar:=ap.trans aP;have gn:GS [w.D] k p (.mk l.size 0 0 0) []:=(GS.new _ l).cv gC.mono (λg m=>Or.inl m) ap.size;have gk:GB ([w.D,l.size]++j.size::s) p am (.mk p.size 0 0 0) []:=GB.new _ p;have aY:GS ([l.size]++j.size::s) k p w _:=au.re gC.mono (Y:=[]) (aP.fz []) aL aL λe f=>by
    rcases List.mem_cons.1 f with i|i
    .exact Or.inr V
    .exact Or.inl (ai _ i)
   clear_value am;clear_value p;have al:=ab.len;have bs:=KO d.bC;have bt:bw d.bC<=400000:=V;refine ez (n:=d.bC.length) (al▸ab.gV) (λD bh q=>J p q/\∃r,GB ([w.D,l.size]++j.size::s) p q bh r/\r.length=D/\(∀(B:Nat)(g:Bk),r[B]? =some g->WB K c True (a+dc (aB.take v)+BY K d.op d.bQ B) g)/\bw r<=bw (d.bC.take D)*bw (d.bC.take D)) ⟨bj,[],gk,rfl,aL,aL⟩ ?_;rintro D ks ac I2 μ2 hj ⟨aa,r,U,bv,aF,a4⟩ bc;have ah:=x1.trans (ar.trans aa);have bW:=aa.size;have bK:=U.bh;have N:∀g∈[y.size,j.size,I.size],g<ac.size:=O V;refine dit (λh2=>?_) λh2=>?_
   .let⟨g,m⟩:=cG d.bC D;let⟨tb,aV,f0,f1⟩:=ab.aG m;have a5:=wX m;have aN:=uH m;refine⟨V,V,_,ah.af f0,_,ah.af f1,?_⟩;refine(ih d (aq X) g (aq m) ([ks.D,w.D,l.size]++j.size::s) ac (L V bF) tb _ (aV.le ah.le) (W.bC D g m) V).aH (J.az ac) N λss b' a7 aT aA ao _=>⟨_,_,rfl,?_⟩;refine GB.kL (c:=b') (U.ext rT.mono ao) ((aa.trans ao).fz []) aT V λaZ M' g2 f2 z2 q2=>⟨J.oP ((aa.trans ao).aK _) f2.ext (λe f=>oh (O (q:=p) V e f)),bc V _ _ ⟨f2.ext,_,g2,bF,λB b2 H=>?_,?_⟩⟩
    .rcases aW B r.length with aj|aj
     .rw[ax aj]at H;exact aF B b2 H
     .rw[aJ aj]at H;have:B -r.length=0:=by have:=aw H;simp at this;omega
      rw[this]at H;simp at H;subst H;have:B=D:=V;subst this;exact aA.1
    .rw[oY,uG,zS,aN];have h3:=Jd (bw (d.bC.take D)) g.w;have:=aA.2;omega
   .have a5:r.length=d.bC.length:=V;rw[bX V]at a4;refine(bO ([w.D,l.size]++j.size::s) (ha.ext ah) V).aH (J.az ac) N λs' l' bb ga i H _=>⟨_,rfl,aE (H.same _ (N _ aL)) _,aE (H.same _ (N _ aL)) _,aE (H.same _ (N _ aL)) _,?_⟩;subst i;intro bQ;have aj:=aa.trans H;have bY:=H.size;have ao:∀e∈[w.D,l.size]++j.size::s,e<p.size:=L V bF;have a7:w.D≠l.size:=V;refine GS.kL (x:=⟨d.op,d.bQ,d.bZ,d.args,r⟩) (aY.ext gC.mono aj) ((ar.trans aj).fz []) (ga.done (λe f=>oh (ao e f)) V) (nI.le (H.df _) (U.done rT.mono ao bn (by show r.length<=_;omega))) bF λaN bR aZ aV bl aA=>⟨λe f=>?_,aM V _ _ _ ⟨_,[],P+2*t.length+d.w,aV.ext,aZ,?_,((C.wl.append (by rw[C.Xz];exact an)).yV (W.P3 id W.fe.bZ a5 aF|>λh=>by rw[cV,C.Xz,ag,jH];exact h)),?_,?_,bF,λ_ h=>by simp at h,λaf⟨_,h,_⟩=>by simp at h,?_⟩⟩
    .have h3:=N e f;rw[aA e V (by simp at f;omega),(J.push bb _).same e V]
    · -- the new run is empty
     have i:=gn.ext gC.mono aj;let⟨p0,aT,p1,p2⟩:=i;refine⟨p0,aT,p1.congr (aA _ (by have:=aj.size;show l.size<_;omega) (kG a7)),p2.len,p2.size,λB cs ak _ o=>by simp at o⟩
    .rw[cV,cV,C.Xz,ag,kN,tp];have i:dn (⟨d.op,d.bQ,d.bZ,d.args,r⟩:cU)=dn d:=rfl;omega
    .rw[dC,dC,mN,vC];have h3:=Jd P (2*t.length);have h4:=Jd (P+2*t.length) d.w;have h5:(⟨d.op,d.bQ,d.bZ,d.args,r⟩:cU).w=1+d.args.length+bw r:=cU.mu _;have o:=Jd (1+d.args.length) (bw d.bC);have h7:1+d.args.length<=(1+d.args.length)*(1+d.args.length):=Nat.le_mul_of_pos_left _ V;rw[<-a_]at o;omega
    .rcases bl.2 with i|i
     .show aN.D≠l.size;omega
     .show aN.D≠l.size;omega
 .have al:v=aB.length:=V;subst al;rw[fw]at ay;have hd:dc (aB.take aB.length)=dc aB:=by rw[fw]
  have i:∀g∈[j.size,I.size],g<y.size:=λg m=>T.lt (hl g m);refine(yz (b:=[G.D,z.D]++j.size::s) (L (ad _) bF) (aH (J.az _)) C.lM V).aH (J.az y) i λO l F r A d _=>⟨_,rfl,aE (d.same _ (i _ aL)) _,?_⟩;let⟨an,ag,bi⟩:=Qi (f:=K) (c:=c) A C.XH;have D:=gB l;have a2:(2*t.length)*(2*t.length)<=160000000000:=bI (Qn (b:=400000) V) bn;have U:=d.size;refine GS.all (C.gs.ext gC.mono d) ((T.trans d).fz []) (r.done gC.mono (L (u:=[G.D,z.D]) (ad _) bF) bn V) V λB H w p W o=>⟨λe f=>o e (d.lt (i e f)) (oh (hl e f)),aE (o _ (d.lt (i _ aL)) V) _,?_⟩;intro N;refine⟨B,.mk (Z++l) bf,rfl,eP.le (cz aL λe f=>ai _ f) ((w.re gC.mono (S':=j.size::s) (Y:=[]) (Fz.az _ _) aL aL (λe f=>Or.inl (ai _ f))).done gC.mono az bn bF),⟨WB.of (C.wl.append (by rw[C.Xz];exact an)) ?_,?_⟩,(x1.trans p.ext).ah V _ _⟩
  .rw[cV,C.Xz,ag,hd];exact aK.2
  .rw[Bk.qQ,dC];have h3:=Jd P (2*t.length);have h4:=Qn ay;have h5:=Jd 1 (sw aB);omega
end
section
variable{e:List Nat}{c:E}{d f:O}{g:List gR}{W:Nat}
def Iv(F:∀a∈e,a<c.size){j:List bz}(p:eL c d f j g)(hW:W<=400000)(Z:yF j g True W):ve 209 [.agg #[O.v d,O.v f]] c e j λw=>yF j w True (W*W):=by
 apply AJ;simp -zeta only[aD,aC];intro b a2;let⟨z,u⟩:=dD (a:=b) (c:=a2) rfl rfl;have s1:b.size=c.size+1:=by simp[b]
 clear_value a2;have ai:=p.iX.len;have ar:=p.oJ;refine(fX (b:=b.size::e) (bP F z.size (u _ aL)) (p.le z.le).bo p.types).mono λ_ K⟨ab,k,ad,A⟩=>?_;subst k;refine⟨A.dq u,_,rfl,?_⟩;intro L am aa;have u2:=z.trans A;let⟨x5,B0,g0,s3,s5⟩:=kY (b:=L.size::b.size::e) iU.mono (d:=K) (a:=L) (c:=am) (h:=aa) rfl rfl rfl;clear_value aa;have v:∀a∈[b.size,c.size],a<K.size:=λa i=>A.lt (u a i);have H:∀a∈b.size::e,a<K.size:=λa i=>A.lt (bP F z.size (u _ aL) a i);refine kV (R:=λh o M=>∃d f w,Value.agg #[O.v h,O.v o]=.agg #[O.v d,O.v f]/\eL (bH e M) d f j w/\yF j w True (W*W)/\J c M) (r:=g.length) (f:=c) (b:=e) iU.mono bn bn F ⟨V,v _ aL⟩ u2 s3 ad ai V x5 B0 g0 (λ_ q=>q.params.length<=3/\q.cR.length<=3/\WB j g.length True q.params.length q.body/\q.body.w<=W*W) (λh t I x U X o r s=>⟨h,t,I,rfl,⟨U,X,p.types,V⟩,Ic Z.iZ o r,s⟩) λal M st I ao μ ae ap B T C an=>?_
 let⟨q,hq⟩:=cG g al ae;let⟨ah,ag,ak,hw⟩:=Z.dz q (aq hq);have y:=u2.trans B;let⟨au,av,h,c1,c2,c3,N,P,Q,D,E⟩:=p.iX.aG hq;have G:∀{x:Value}{h r:Nat},af c h r=some x->af M h r=some x:=λt=>y.af t;refine⟨st,C.cp 1,V,V,_,G N,_,G P,_,G Q,_,G D,_,G E,V,V,_,G D,_,G E,?_⟩;have hy:=T.bh;have ac:=C.lt;have zM:=B.size;refine(ED q.body (st.D::L.size::b.size::e) M (λa i=>?_) h q.params.length (c3.le y.le) ak V).aH B v λss b' M1 aj Y o u1=>⟨_,_,rfl,?_⟩
 .simp only[aV]at i;rcases i with k|k|k|k
  .omega
  .omega
  .have:=H a (by simp[k]);omega
  .have:=H a (by simp[k]);omega
 have s:∀{x:Value}{h r:Nat},af c h r=some x->af M1 h r=af M h r:=λt=>by rw[o.af (G t),G t]
 refine⟨s N,s P,s Q,s D,s E,aE (o.same _ (B.lt (v _ aL))) _,aE (o.same _ ac) _,?_⟩;exact wj (b:=b.size::e) (v:=ab) (x:=I) H (λa i=>by have U:=v a i;have X:=u1.size;omega) u1 (T.ext iU.mono o) (C.ext o) V (c1.ext (y.trans o)) (c2.ext (y.trans o)) aj ⟨V,V⟩ V λs' X g' U x'=>an s' X _ g' U x' ⟨ah,ag,Y.1,bI Y.2 (Qn hw)⟩
def XR(b:Bk):Prop:=∀(e:List Nat)(c:E),(∀a∈e,a<c.size)->∀t:O,eP c t b.aB->b.w<=10^12->nA 287 [.agg #[O.v t,vi b.aT]] c e (b=·)
def yx(H:∀i∈e,i<c.size){z B:O}{x:cU}(I:ap c z x.args)(u:nI c B x.bC)(hw:x.w<=10^12)(P:∀h∈x.bC,XR h):KF 318 [pv x z B] c e (x=·):=by
 apply CO;simp -zeta only[aD,aC];intro d a y;let⟨D,v⟩:=dD (a:=d) (c:=a) rfl rfl;have R:d.size=c.size+1:=by simp[d]
 have s1:a.size=c.size+2:=by simp[a,R]
 have S:J a y:=J.push _ _;have F:GB (d.size::e) a y (.mk a.size 0 0 0) []:=GB.new _ a;clear_value y;clear_value a;have r:∀i∈d.size::e,i<a.size:=bP H D.size (v _ aL);have K:=u.len;have aa:=cU.mu x;have Y:=qy x.bC;refine ez (n:=x.bC.length) (K▸u.gV) (λw s M=>J a M/\GB (d.size::e) a M s (x.bC.take w)) ⟨S,F⟩ ?_;rintro w s p U μ hj ⟨m,o⟩ Q
 have l:=D.trans m;have k:∀h∈[d.size,c.size],h<p.size:=λh j=>m.lt (v h j);have N:=o.bh;have T:=m.size;refine dit (λG=>?_) λG=>?_
 .let⟨h,j⟩:=cG x.bC w;let⟨tb,M,A,E⟩:=u.aG j;have Z:=wX j;refine⟨V,V,_,l.af A,_,l.af E,?_⟩;refine(P h (aq j) (s.D::d.size::e) p (bP r T N.2) tb (M.le l.le) V).aH (J.az p) k λss X C L q g _=>⟨_,_,rfl,?_⟩;subst q;refine GB.kL (c:=h) (o.ext rT.mono g) ((m.trans g).fz []) L bF λf W g2 t z2 q2=>⟨J.oP ((m.trans g).aK _) t.ext v,Q V _ _ ⟨t.ext,?_⟩⟩;rw[aU j];exact g2
 .rw[bX V]at o;refine(bO (d.size::e) (I.ext l) V).aH (J.az p) k λM W C E q g _=>⟨_,rfl,aE (g.same _ (k _ aL)) _,aE (g.same _ (k _ aL)) _,aE (g.same _ (k _ aL)) _,?_⟩;subst q;intro L;have A:Le (bH (d.size::e) C) (bH e L):=cz aL λi t=>ai _ t;exact⟨M,s,x,rfl,(E.done (λi t=>oh (r i t)) V).le A,nI.le A ((o.ext rT.mono g).done rT.mono r bn V),rfl,(l.trans g).ah V _ _⟩
def wB:∀j:Bk,XR j:=by
 refine Bk.ind ?_;intro aB h ih e c W al z hw;rw[Bk.qQ]at hw;simp only[Bk.jV,Bk.jx]at*;apply rK;simp -zeta only[aD,aC];intro f b d C q;let⟨I,y⟩:=dD (a:=f) (c:=b) rfl rfl;have s0:f.size=c.size+1:=by simp[f]
 have s1:b.size=c.size+2:=by simp[b,s0]
 have s2:d.size=b.size+1:=by simp[d]
 have s3:C.size=d.size+1:=by simp[C]
 have K:J d q:=(J.push d _).ah (ad _) _ _;have ag:J b q:=(J.push b _).trans K;have x:GS (d.size::f.size::e) b q (.mk b.size 0 0 0) []:=(GS.new _ b).ext gC.mono K;have N:cD q d.size dh [.s (.mk b.size 0 0 0),.i h]:=cD.ah (m:=C) (o:=0) (r:=[.s (.mk b.size 0 0 0),.i h]) (cD.push d _ _);clear_value q;have F:∀u∈f.size::e,u<b.size:=bP W I.size (y _ aL);have ae:=z.len;have aj:=gB aB;refine dT (n:=aB.length) (ae▸z.gV) (λA M=>J b M/\∃s,GS (d.size::f.size::e) b M s (aB.take A)/\cD M d.size dh [.s s,.i h]) ⟨ag,_,x,N⟩ ?_;rintro A D ah μ hk ⟨w,s,l,B⟩ af
 have g:=I.trans w;have ac:∀j∈[f.size,c.size],j<D.size:=λj Y=>w.lt (y j Y);have hy:=l.bh;have z5:=w.size;have E:=B.lt;refine dit (λU=>?_) λU=>?_
 .let⟨H,v⟩:=cG aB A;let⟨pa,pk,X,ab,x,g1,g2,R,T⟩:=z.aG v;have ak:=Pg v;refine⟨s,B.cp 0,V,V,_,g.af x,_,g.af g1,_,g.af g2,_,g.af R,_,g.af T,?_⟩;refine(yx (e:=s.D::d.size::f.size::e) (bP (bP F z5 E) (ad _) hy.2) (X.ext g) (ab.le g.le) V (ih H (aq v))).aH (J.az D) ac λM O x' G Z aa k t _=>⟨_,_,_,_,_,rfl,aE (t.same _ E) _,?_⟩;subst k;intro m7;refine Gr.box (g:=[.i 0,.i 0,.i 0,.s .nil,.s .nil]) (j:=0) (i:=[.s s,.i h]) (w:=H) gC.mono bn (l.ext gC.mono t) ((w.trans t).fz []) ⟨M,O,rfl,Z,aa⟩ bF (B.ext t) aL bn ⟨V,aL⟩ (λu p=>by have L:=y u p;have P:=t.size;omega) λr' m' Q L P z' q'=>af V _ ⟨P.ext,r',?_,L⟩
  rw[aU v];exact Q
 .rw[bX V]at l;refine⟨s,B.cp 0,h,B.cp 1,?_⟩;intro G;have v:=l.ne B bn;have t:Le (bH (d.size::f.size::e) D) (bH e G):=cz aL λu p=>ai _ (ai _ p);refine⟨s,.mk aB h,rfl,eP.le t (l.nK gC.mono (λp=>?_) bn (by show aB.length<=_;omega)),rfl,g.ah V _ _⟩;rcases List.mem_cons.1 p with k|k
  .exact v k
  .have:=F _ k;omega
def Zv(b:Bk):Prop:=∀(c:E)(t:O)(f:Int),eP c t b.aB->oV 319 [.agg #[O.v t,vi b.aT],vi f] c
def JY:∀b:Bk,Zv b:=by
 refine Bk.ind ?_;intro aB Y G c t s m;simp only[Bk.jV,Bk.jx]at*;apply CK;simp -zeta only[aD,aC];intro g;have A:J c g:=J.push _ _;have D:∀b∈[c.size],b<g.size:=by simp[g]
 clear_value g;have F:=m.len;refine dT (n:=aB.length) (F▸m.gV) (λ_ M=>J g M) (J.az _) ?_;rintro k o I μ X r N
 have h:=A.trans r;refine⟨λj=>?_,λ_=>rA h⟩;simp only[ar]at j;let⟨x,v⟩:=cG aB k;let⟨pa,w,U,l,B,g1,g2,T,u⟩:=m.aG v;have C:=l.len;have L:∃(i:Int->E->Prop)(μ0_1:Int->E->Nat),i (0:Int) o/\(∀(a:Int)(M:E),i a M->
  (0:Int)<=(k:Int)/\(k:Int)<(t.len:Int)/\∃q:O,af M t.D (t.off+Int.toNat (k:Int)*5+4)=some (O.v q)/\
  ((decide (a<(q.len:Int)))=true->(0:Int)<=(k:Int)/\(k:Int)<(t.len:Int)/\∃d:O,af M t.D (t.off+Int.toNat (k:Int)*5+4)=some (O.v d)/\
   (0:Int)<=a/\a<(d.len:Int)/\∃y:O,af M d.D (d.off+Int.toNat a*2)=some (O.v y)/\∃z:Int,af M d.D (d.off+Int.toNat a*2+1)=some (vi z)/\
   aN cq 319 [.agg #[O.v y,vi z],vi s] M λf e=>eF [c.size] M e/\∃p:Bool,f=vb p/\(p=true->∃b:Bool,vb true=.bool b/\J c e)/\(p=false->i (cO (a+(1:Int))) e/\μ0_1 (cO (a+(1:Int))) e<μ0_1 a M))/\
  ((decide (a<(q.len:Int)))=false->I (cO ((k:Int)+(1:Int))) M/\μ (cO ((k:Int)+(1:Int))) M<μ k o)):=by
  refine dT (n:=x.bC.length) (C▸l.gV) (λ_ M=>J o M) (J.az _) ?_
  rintro H M R μ2 W d K
  have a:=h.trans d
  refine⟨V,V,w,a.af u,λj=>?_,λ_=>N V _ (r.trans d)⟩
  simp only[ar]at j
  let⟨b,p⟩:=cG x.bC H
  let⟨tb,z,q,y⟩:=l.aG p
  refine⟨V,V,w,a.af u,V,V,_,a.af q,_,a.af y,?_⟩
  exact(G x (aq v) b (aq p) M tb s (z.le a.le)).aH (r.trans d) D λS e Q P=>⟨_,rfl,λ_=>rA (A.trans P),λ_=>K V _ (d.trans Q)⟩
 exact⟨V,V,_,h.af B,λ_=>⟨V,V,_,h.af g1,λ_=>rA h,λ_=>L⟩,λ_=>L⟩
def J5{o:List bz}(h:eL c d f o g)(i:Int):oV 288 [.agg #[O.v d,O.v f],vi i] c:=by
 apply CZ;simp -zeta only[aD,aC];intro a;have k:J c a:=J.push _ _;have s:∀e∈[c.size],e<a.size:=by simp[a]
 clear_value a;have H:=h.iX.len;have G:=h.oJ;refine dT (n:=g.length) V (λ_ M=>J a M) (J.az _) ?_;rintro u v I μ F l w
 have b:=k.trans l;refine⟨λr=>?_,λ_=>rA b⟩;simp only[ar]at r;let⟨x,t⟩:=cG g u;let⟨K,L,e,A,B,m,C,D,E,p,q⟩:=h.iX.aG t;exact⟨V,V,_,b.af p,_,b.af q,(JY x.body v e i (m.le b.le)).aH l s λz y M j=>⟨_,rfl,λ_=>rA (k.trans j),λ_=>w V _ j⟩⟩
abbrev Zg(e:List Nat)(a c:E)(s:O)(l:List (List Int)):Prop:=Gr e a c ye 1 mR s l
def Gz(Z:∀a∈e,a<c.size){R:List bz}(o:eL c d f R g)(hp:∀y∈g,y.params.length<=3):
 aN cq 253 [.agg #[O.v d,O.v f]] c λae G=>∃s l,ae=O.v s/\pw (bH e G) s l/\l.length=g.length/\(∀a∈l,a.length<=3)/\J c G:=by
 apply yZ
 simp -zeta only[aD,aC]
 intro b x
 have N:J c b:=J.push _ _
 have v:∀z∈[c.size],z<b.size:=by simp[b]
 have af:J b x:=J.push _ _
 have W:Zg e b x (.mk b.size 0 0 0) []:=Gr.new e (ad _) _ _ _
 clear_value x
 clear_value b
 have aj:=o.iX.len;have ai:=o.oJ
 have C:∀a∈e,a<b.size:=λa u=>N.lt (Z a u)
 refine ez (n:=g.length) V (λk s M=>J b M/\∃l,Zg e b M s l/\l.length=k/\∀a∈l,a.length<=3) ⟨af,[],W,rfl,aL⟩ ?_
 rintro k s H P μ hk ⟨r,l,t,ag,B⟩ aa
 have q:=N.trans r
 have h:=t.bh
 refine dit (λY=>?_) λY=>?_
 .let⟨y,D⟩:=cG g k
  let⟨ab,ak,z,Q,c2,c3,T,e1,e2,e3,e4⟩:=o.iX.aG D
  have ah:=hp y (aq D)
  have iH:∀(M:E)(i:O)(a:List Int),J H M->ap (bH (s.D::e) M) i a->a.length<=3->jO (M.push (.cells (bt [.s i]) ye)) ye [.s O.nil] 24 s (O.mk M.size 0 1 1) λK m=>eF [c.size] (M.push (.cells (bt [.s i]) ye)) m/\P K (cO ((k:Int)+(1:Int))) m/\μ K (cO ((k:Int)+(1:Int))) m<μ s k H:=λM i a w hf u=>
   Gr.kL (g:=[.s .nil]) mR.mono bn (t.ext mR.mono w) ((r.trans w).fz []) ⟨i,rfl,hf⟩ V λr' m U A _ _=>⟨J.oP ((r.trans w).aK _) A.ext v,aa V _ _ ⟨A.ext,_,U,bF,λj h=>by
    rcases List.mem_append.1 h with h|h
    .exact B j h
    .simp at h;subst h;exact u⟩⟩
  refine(J5 (o.le q.le) k).aH r v λa m4 j L=>⟨_,rfl,λ_=>?_,λ_=>⟨V,V,ab,(q.trans j).af T,?_⟩⟩
  .intro p m6
   exact iH p _ [] (j.aK _) (mI _ _ _ _ _ _) aL
  .refine(sa (S:=[]) aL (a:=0) ((Q.ext (q.trans j)).le (Am _)) V).aH L v λac F p X I x5 u5=>⟨_,rfl,?_⟩
   intro m6
   have hg:GI (s.D::e) m4 p ac F:=X.any
   exact iH p _ F (j.trans x5) (hg.done (bP C L.size (oh j.size)) (oh I.2)) (oh I.2)
 .exact⟨s,l,rfl,t.done mR.mono C bn V,V,B,q⟩
def Zw(a:List bz)(g:List gR)(b:Bk):Prop:=∀(c:E)(d f t:O)(v:Int)(h:Prop)(e:Nat),eL c d f a g->eP c t b.aB->WB a g.length h e b->oV 289 [.agg #[O.v d,O.v f],.agg #[O.v t,vi b.aT],vi v] c
def AL{C:List bz}:∀b:Bk,Zw C g b:=by
 refine Bk.ind ?_;intro aB ah ih c d f ai ae m ag E t Z;have aa:=Z.aS.1;simp only[Bk.jV,Bk.jx]at*;apply vu;simp -zeta only[aD,aC];intro K v;let⟨O,W⟩:=dD (a:=K) (c:=v) rfl rfl;clear_value v;have X:=t.len;refine⟨λ_=>rA O,λ_=>?_⟩;refine dT (n:=aB.length) (X▸t.gV) (λ_ M=>J v M) (J.az _) ?_;rintro I p af μ hk A ac
 have e:=O.trans A;refine⟨λj=>?_,λ_=>rA e⟩;simp only[ar]at j;let⟨x,u⟩:=cG aB I;let⟨pa,pk,o,r,Q,g1,g2,R,S⟩:=t.aG u;have F:=aa I x u;have T:=o.len;have U:=r.len;refine⟨V,V,_,e.af Q,_,e.af g1,_,e.af g2,_,e.af R,_,e.af S,?_⟩;intro m3 h;have B:J p h:=(J.push p _).ah (ad _) _ _;have s4:h.size=p.size+1:=by simp[h,m3,av]
 clear_value h;have s:∀b∈[p.size,K.size,c.size],b<h.size:=λb k=>by
  rcases List.mem_cons.1 k with D|D
  .omega
  .exact(A.trans B).lt (W b D)
 refine dT (n:=x.args.length) (T▸o.gV) (λ_ M=>J h M) (J.az _) ?_;rintro H L I1 μ1 hj l y;have z:=(e.trans B).trans l;refine⟨λj=>?_,λ_=>?_⟩
 .simp only[ar]at j;let⟨Y,P⟩:=cG x.args H;refine⟨V,V,Y,(o.ext z).aG P,λ_=>?_,λ_=>y V _ l⟩;refine(yw x.op L).aH l s λm w i G=>⟨_,rfl,λ_=>?_,λ_=>y V _ G⟩;have a:=z.trans i;exact(nU (⟨E.le a.le,o.ext a,F.fe.call⟩:At w d f pa pk C g x) H).aH G s λm m7 q N=>⟨_,rfl,λ_=>rA (a.trans q),λ_=>y V _ N⟩
 .refine dT (n:=x.bC.length) (U▸r.gV) (λ_ M=>J L M) (J.az _) ?_;rintro G w I2 μ2 hi i ab;have a:=z.trans i;refine⟨λj=>?_,λ_=>ac V _ (((A.trans B).trans l).trans i)⟩;simp only[ar]at j;let⟨b,k⟩:=cG x.bC G;let⟨tb,Y,M,P⟩:=r.aG k;refine⟨V,V,_,a.af M,_,a.af P,?_⟩;exact(ih x (aq u) b (aq k) w d f tb ae m _ (E.le a.le) (Y.le a.le) (F.bC G b k)).aH (l.trans i) s λm m7 q N=>⟨_,rfl,λ_=>rA (a.trans q),λ_=>ab V _ (i.trans q)⟩
def J7(P:∀h∈e,h<c.size){A:List bz}(r:eL c d f A g){h:Prop}(Q:yF A g h W){B:Nat}{q:gR}(s:g[B]? =some q):k8 254 [.agg #[O.v d,O.v f],vi B] c e λl=>l.length<=q.cR.length:=by
 apply C0;simp -zeta only[aD,aC];intro a u;have y:J c a:=J.push _ _;have E:∀k∈[c.size],k<a.size:=by simp[a]
 have T:J a u:=J.push _ _;have N:GI e a u (.mk a.size 0 0 0) []:=GI.nil e a;clear_value u;clear_value a;have af:=r.iX.len;have aa:=aw s;let⟨ae,ac,R,hw⟩:=Q.dz q (aq s);let⟨ah,w,k,X,m,I,Z,o,e2,K,L⟩:=r.iX.aG s;have ag:=m.len;refine ez (n:=q.cR.length) V (λt v M=>J a M/\∃l,GI e a M v l/\l.length<=t) ⟨T,[],N,ad _⟩ ?_;rintro t v S U μ ab ⟨H,l,p,D⟩ G
 have b:=y.trans H;refine⟨V,V,w,b.af o,λi=>?_,λi=>⟨v,l,rfl,p.cv (λ_ i=>i) y.size,V,b⟩⟩;simp only[ar]at i;let⟨z,F⟩:=cG q.cR t;refine⟨V,V,_,b.af K,_,b.af L,V,V,w,b.af o,V,V,z,(m.ext b).aG F,?_⟩;refine(AL q.body S d f k z h _ (r.le b.le) (I.le b.le) R).aH H E λY m4 j x=>⟨_,rfl,λ_=>⟨V,V,w,(b.trans j).af o,V,V,z,(m.ext (b.trans j)).aG F,?_⟩,λ_=>G V _ _ ⟨x,l,p.ext j,V⟩⟩;intro m5;exact GI.kL (p.ext j) (x.fz []) (λh D=>y.lt (P h D)) V λf m6 M C _ _=>⟨J.oP (x.aK _) C.ext E,G V _ _ ⟨C.ext,_,M,bF⟩⟩
end
section
variable{b:List Nat}{e:E}{d g:O}{f:List gR}{c:Prop}{W:Nat}
def yB(Q:∀c∈b,c<e.size){lt:O}{v:List bz}{H:List (List Int)}(y:eL e d g v f)(hW:W<=1000000)(hk:yF v f c W)(ag:pw e lt H)(aQ:H.length=f.length)(aw:∀c∈H,c.length<=3):
 ve 252 [.agg #[O.v d,O.v g],O.v lt] e b v λz=>yF v z c W/\z.length=f.length:=by
 apply Dw
 simp -zeta only[aD,aC]
 intro j a2
 let⟨K,D⟩:=dD (a:=j) (c:=a2) rfl rfl
 have s1:j.size=e.size+1:=by simp[j]
 clear_value a2
 have az:=y.iX.len;have aS:=y.oJ
 refine(fX (b:=j.size::b) (bP Q K.size (D _ aL)) (y.le K.le).bo y.types).mono λ_ Y⟨dd,h,ar,L⟩=>?_
 subst h
 refine⟨L.dq D,_,rfl,?_⟩
 intro s aJ al
 have u2:=K.trans L
 let⟨x5,B0,g0,s3,s5⟩:=kY (b:=s.size::j.size::b) iU.mono (d:=Y) (a:=s) (c:=aJ) (h:=al) rfl rfl rfl
 clear_value al
 have U:∀c∈[j.size,e.size],c<Y.size:=λc k=>L.lt (D c k)
 have ae:∀c∈j.size::b,c<Y.size:=λc k=>L.lt (bP Q K.size (D _ aL) c k)
 refine kV (R:=λl o M=>∃d g z,Value.agg #[O.v l,O.v o]=.agg #[O.v d,O.v g]/\eL (bH b M) d g v z/\(yF v z c W/\z.length=f.length)/\J e M) (r:=f.length) (f:=e) (b:=b) iU.mono bn bn Q ⟨V,U _ aL⟩ u2 s3 ar az V x5 B0 g0 (λ_ q=>q.params.length<=3/\q.cR.length<=3/\WB v f.length c q.params.length q.body/\q.body.w<=W) (λo Z aj m' h1 C l p r=>⟨o,Z,aj,rfl,⟨h1,C,y.types,V⟩,⟨Ic hk.iZ l p,l⟩,r⟩) λai M t aj aM μ au aP xM ac N aK=>?_
 let⟨q,hq⟩:=cG f ai au
 let⟨ay,aO,aF,hw⟩:=hk.dz q (aq hq)
 have v6:=u2.trans xM
 let⟨aU,aW,p,c1,c2,c3,e0,e1,e2,e3,e4⟩:=y.iX.aG hq
 have G:∀{am:Value}{p x:Nat},af e p x=some am->af M p x=some am:=λB=>v6.af B
 refine⟨V,V,_,G e0,_,G e1,_,G e2,_,G e3,_,G e4,?_⟩
 intro m7 l
 have hy:=ac.bh
 have aN:=N.lt
 have zM:=xM.size
 have x8:J M l:=(J.push M _).ah (ad _) _ _
 have s8:l.size=M.size+1:=by simp[l,m7,av]
 clear_value l
 have F:∀c∈[M.size,j.size,e.size],c<l.size:=λc k=>by
  rcases List.mem_cons.1 k with h|h
  .omega
  .have:=U c h;omega
 have A:=v6.trans x8
 have r:∀{M1 M2:E},J l M1->J l M2->∀p,p<l.size->∀x,af M2 p x=af M1 p x:=λB h' p hb x=>aE (by rw[h'.same p hb,B.same p hb]) x
 have w:M.size<l.size:=V
 have X:s.size<l.size:=V
 let⟨ab,ah⟩:=cG H ai
 let⟨yt,aH,P⟩:=ag.aG ah
 have aG:=aw ab (aq ah)
 have aR:=ag.len
 have T:∀{M':E},l.size<=M'.size->∀c∈t.D::s.size::j.size::b,c<M'.size:=λB c k=>by
  simp only[aV]at k;rcases k with h|h|h|h
  .omega
  .omega
  .have:=ae c (by simp[h]);omega
  .have:=ae c (by simp[h]);omega
 refine⟨t,(N.ext x8).cp 1,V,V,yt,A.af P,?_⟩
 refine(bO (t.D::s.size::j.size::b) (c1.ext A) V).aH (J.az l) F λp' _ m9 gp h o _=>⟨_,rfl,r (J.az _) o _ w _,r (J.az _) o _ w _,r (J.az _) o _ w _,((A.trans o).af P).trans (A.af P).symm,r (J.az _) o _ X _,?_⟩
 subst h
 refine(bO (t.D::s.size::j.size::b) (aH.ext (A.trans o)) V).aH o F λt' _ aI gt h an u=>⟨_,rfl,r o u _ w _,r o u _ w _,r o u _ w _,r o u _ X _,?_⟩
 subst h
 have z9:=o.size;have vG:=an.size
 refine(wB q.body (t.D::s.size::j.size::b) aI (T V) p (c3.le (A.trans u).le) V).aH u F λss b' ak aA h ao I=>⟨_,_,rfl,r u I _ w _,r u I _ X _,?_⟩
 subst h
 intro aT
 have aa:=x8.trans I
 have aX:=I.size
 have ax:ap (bH (t.D::s.size::j.size::b) ak) p' q.params:=(gp.done (T V) V).le ((an.trans ao).df _)
 have aB:ap (bH (t.D::s.size::j.size::b) ak) t' ab:=(gt.done (T V) V).le (ao.df _)
 exact Gr.box (g:=[.s .nil,.s .nil,.i 0,.s .nil,.i 0]) (j:=1) (y:=88) (i:=[.s dd,.s t]) (w:=⟨q.params,ab,q.aT,q.body⟩) iU.mono bn (ac.ext iU.mono aa) ((xM.trans aa).fz []) ⟨p',t',ss,rfl,ax,aB,aA⟩ V (N.ext aa) aL bn ⟨V,aL⟩ (λc k=>by have h1:=F c k;have C:=U c;simp only[aV]at k C;rcases k with h|h|h|h<;>first|omega|(have:=C (by simp[h]);omega)|simp at h) λZ m' g' C f' z' q'=>aK Z m' _ g' C f'.ext ⟨ay,aG,aF,hw⟩
def Kc(hS:∀c∈b,c<e.size){A:List bz}(Z:eL e d g A f)(hW:W<=1000000)(hk:yF A f c W):ve 238 [.agg #[O.v d,O.v g]] e b A λt=>yF A t c W:=by
 apply Dc;simp -zeta only[aD,aC];intro i a2;let⟨x2,G⟩:=dD (a:=i) (c:=a2) rfl rfl;have s1:i.size=e.size+1:=by simp[i]
 have s2:a2.size=e.size+2:=by simp[a2,s1]
 clear_value a2;have aH:=Z.iX.len;have aF:=Z.oJ;have aj:∀c∈i.size::b,c<a2.size:=bP hS x2.size (G _ aL);have p:∀{M q:E},J a2 M->J a2 q->∀ac,af q e.size ac=af M e.size ac:=λu h' ac=>aE (by rw[h'.same _ (G _ aL),u.same _ (G _ aL)]) ac;have tail:∀(Q:E)(a:Nat)(z y:O)(C:List gR),J a2 Q->a2.size<=a->cD Q a nl [.s z,.s y]->eL (bH (a::i.size::b) Q) z y A C->yF A C c W->
  ∃(I0:Int->E->Prop)(μ0:Int->E->Nat),I0 (0:Int) Q/\(∀(l:Int)(v:E),I0 l v->
   ((decide (l<=(12:Int)))=true->
    let U:E:=v.push (.cells (bt []) ye)
    ∃(w:O->Int->E->Prop)(μ1:O->Int->E->Nat),w (O.mk v.size 0 0 0) (0:Int) U/\(∀(s:O)(x:Int)(h:E),w s x h->
     ∃D:O,af h a 1=some (O.v D)/\
     ((decide (x<(D.len:Int)))=true->∃j:O,af h a 0=some (O.v j)/\∃k:O,af h a 1=some (O.v k)/\
      aN cq 254 [.agg #[O.v j,O.v k],vi x] h λY P=>eF [i.size,e.size] h P/\∃aa:O,Y=O.v aa/\
       let ae:E:=P.push (.cells (bt [.s aa]) ye)
       jO ae ye [.s O.nil] 24 s (O.mk P.size 0 1 1) λF B=>eF [i.size,e.size] ae B/\w F (cO (x+(1:Int))) B/\μ1 F (cO (x+(1:Int))) B<μ1 s x h)/\
     ((decide (x<(D.len:Int)))=false->∃j:O,af h a 0=some (O.v j)/\∃k:O,af h a 1=some (O.v k)/\
      aN cq 252 [.agg #[O.v j,O.v k],O.v s] h λH I=>eF [i.size,e.size] h I/\∃B:O,∃F:O,H=.agg #[O.v B,O.v F]/\fL I a 0 2/\
       let L:E:=ah I a 0 [.s B,.s F]
       eF [i.size,e.size] I L/\I0 (cO (l+(1:Int))) L/\μ0 (cO (l+(1:Int))) L<μ0 l v)))/\
   ((decide (l<=(12:Int)))=false->∃j:O,af v a 0=some (O.v j)/\∃k:O,af v a 1=some (O.v k)/\
    let ag:E:=ah v i.size 0 [.s j,.s k]
    ∃d g t,Value.agg #[O.v j,O.v k]=.agg #[O.v d,O.v g]/\eL (bH b ag) d g A t/\yF A t c W/\J e ag)):=by
  intro Q a z y C T au hB hN R
  refine dT (n:=13) V (λ_ M=>J a2 M/\∃z y C,cD M a nl [.s z,.s y]/\eL (bH (a::i.size::b) M) z y A C/\yF A C c W) ⟨T,z,y,C,hB,hN,R⟩ ?_
  rintro aJ v az μ aB ⟨x6,z,y,C,H,N,K⟩ ay
  have aA:=H.lt
  have aI:=N.iX.len
  have aG:=N.oJ
  refine⟨λu=>?_,λu=>?_⟩
  .simp only[ar]at u
   intro U
   have ao:J v U:=J.push _ _
   have g0:Zg [] v U (.mk v.size 0 0 0) []:=Gr.new _ (ad _) _ _ _
   refine ez (n:=C.length) V (λx s M=>J v M/\∃l,Zg [] v M s l/\l.length=x/\∀c∈l,c.length<=3) ⟨ao,[],g0,rfl,aL⟩ ?_
   rintro x s h I2 μ2 hf ⟨D,l,ab,ap,B⟩ am
   have u8:=x6.trans D
   have N8:=N.le (D.df _)
   refine⟨y,(H.ext D).cp 1,dit (λF=>?_) λF=>?_⟩
   .let⟨X,hq⟩:=cG C x
    have an:=(K.dz X (aq hq)).2.1
    have j:=ab.bh
    refine⟨z,(H.ext D).cp 0,y,(H.ext D).cp 1,?_⟩
    refine(J7 (e:=[s.D]) bF (N8.le (bA _ _)) K hq).aH u8 G λaa av P ak aw x9 u9=>⟨_,rfl,?_⟩
    intro ae
    refine Gr.kL (g:=[.s .nil]) mR.mono bn (ab.ext mR.mono x9) ((D.trans x9).fz []) ⟨aa,rfl,ak.done bF V⟩ V λw q g' k _ _=>⟨J.oP (u9.aK _) (x6.trans k.ext) G,am V _ _ ⟨k.ext,_,g',bF,λal j=>?_⟩⟩
    rcases List.mem_append.1 j with j|j
    .exact B al j
    .simp at j;subst j;omega
   .refine⟨z,(H.ext D).cp 0,y,(H.ext D).cp 1,?_⟩
    have ak:pw h s l:=eT.le (ab.done mR.mono aL bn V) (bA _ _) (mR.le (bA _ _))
    have z8:=D.size;have z6:=x6.size
    refine(yB (b:=a::i.size::b) (λc k=>?_) (N8.le (bA _ _)) hW K ak V B).mono λ_ I⟨d2,Y,an,j,N2,⟨K2,_⟩,aa⟩=>?_
    .rcases List.mem_cons.1 k with j|j
     .omega
     .have:=aj c j;omega
    subst j
    have ae:=(H.ext D).ext aa
    refine⟨u8.Vl G aa,_,_,rfl,ae.fL aL,?_⟩
    intro L
    have al:∀P,P≠a->L[P]? =I[P]? :=λP hb=>bd _ _ _ _ hb
    refine⟨λc k=>al c (oh (G c k)),ay V _ ⟨(u8.trans aa).ah au _ _,d2,Y,an,cD.ah (m:=I) (o:=0) (r:=[.s d2,.s Y]) ae,N2.le (cz aL λ_ u=>u),K2⟩⟩
  .refine⟨z,H.cp 0,y,H.cp 1,?_⟩
   intro ag
   exact⟨z,y,C,rfl,(N.le (iV v λc k=>ai _ k)).le (cz aL λc k=>ai _ k),K,(x2.trans x6).ah V _ _⟩
 have av:∀X∈f,X.params.length<=3:=λX hq=>(hk.dz X hq).1;have al:∀(M:E)(L:List Nat)(K:Value->E->Prop),J a2 M->(∀c∈L,c<M.size)->(∀s l q,pw q s l->l.length=f.length->(∀c∈l,c.length<=3)->J M q->K (O.v s) q)->aN cq 253 [.agg #[O.v d,O.v g]] M λak U=>eF L M U/\K ak U:=λM L K T hL R=>
  (Gz (e:=[]) aL (Z.le (x2.trans T).le) av).mono λ_ q⟨s,l,j,I,F,B,Y⟩=>⟨Y.dq hL,j▸R s l q (eT.le I (bA _ _) (mR.le (bA _ _))) F B Y⟩
 have cR:∀(M:E)(S' L:List Nat)(K:Value->E->Prop)(s:O)(l:List (List Int)),J a2 M->(∀c∈L,c<M.size)->(∀c∈S',c<M.size)->pw M s l->l.length=f.length->(∀c∈l,c.length<=3)->(∀x w t q,eL (bH S' q) x w A t->yF A t c W->J M q->K (.agg #[O.v x,O.v w]) q)->aN cq 252 [.agg #[O.v d,O.v g],O.v s] M λak U=>eF L M U/\K ak U:=λM S' L K s l T hL ap I F B R=>
  (yB ap (Z.le (x2.trans T).le) hW hk I F B).mono λ_ q⟨x,w,t,j,N,⟨K1,_⟩,Y⟩=>⟨Y.dq hL,j▸R x w t q N K1 Y⟩
 have am:∀{M:E}{a:Nat},J a2 M->a<M.size->∀c∈a::i.size::b,c<M.size:=λu hb c k=>by
  have:=u.size;rcases List.mem_cons.1 k with j|j
  .omega
  .have:=aj c j;omega
 have ag:∀{M:E}{a:Nat},J a2 M->a<M.size->∀c∈[a,i.size,e.size],c<M.size:=λu hb c k=>by
  rcases List.mem_cons.1 k with j|j
  .omega
  .exact u.lt (G c j)
 refine⟨al a2 _ _ (J.az _) G λs l ab I F B h=>⟨_,rfl,p (J.az _) h _,p (J.az _) h _,⟨?_,?_⟩⟩,?_⟩
 .refine cR ab (i.size::b) _ _ s l h (λc k=>h.lt (G c k)) (λc k=>h.lt (aj c k)) I F B λx w t m3 N K P=>⟨_,_,rfl,?_⟩;have D:=h.trans P;intro m4;have u4:J a2 m4:=D.aK _;refine⟨p D u4 _,p D u4 _,p D u4 _,p D u4 _,?_⟩;intro m5;have aa:J m3 m5:=(J.push m3 _).ah (ad _) _ _;exact tail m5 m3.size x w t (D.trans aa) D.size (cD.ah (m:=m4) (o:=0) (r:=[.s x,.s w]) (cD.push m3 _ _)) (N.le (aa.bH λc k=>by
   rcases List.mem_cons.1 k with j|j
   .exact Or.inr V
   .exact Or.inl j)) K
 .intro aa;have D:J a2 aa:=h.aK _;refine⟨p h D _,p h D _,p h D _,p h D _,?_⟩;refine cR aa (ab.size::i.size::b) _ _ s l D (ag D (by simp[aa])) (am D (by simp[aa])) (pw.ext (J.push _ _) I) F B λx w t ae N K P=>⟨_,_,rfl,?_⟩;intro an;exact tail an ab.size x w t ((D.trans P).ah h.size _ _) h.size (cD.ah (m:=ae) (o:=0) (r:=[.s x,.s w]) ((cD.push ab _ _).ext P)) (N.le (cz aL λ_ u=>u)) K
 .intro aa;have D:J a2 aa:=J.push _ _;refine⟨p (J.az _) D _,p (J.az _) D _,p (J.az _) D _,p (J.az _) D _,?_⟩;refine al aa _ _ D (ag D (by simp[aa])) λs l ao I F B h=>⟨_,rfl,p D (D.trans h) _,p D (D.trans h) _,?_⟩;have ae:=D.trans h;have an:a2.size<ao.size:=h.lt (by simp[aa]);refine cR ao (a2.size::i.size::b) _ _ s l ae (ag ae an) (am ae an) I F B λx w t aw N K P=>⟨_,_,rfl,?_⟩;intro ax;exact tail ax a2.size x w t ((ae.trans P).ah (ad _) _ _) (ad _) (cD.ah (m:=aw) (o:=0) (r:=[.s x,.s w]) ((cD.push a2 _ _).ext (h.trans P))) (N.le (cz aL λ_ u=>u)) K
end
section
variable{w:Int}{r:List Int}
structure bN where
 aQ:Int
 kj:Int
 aF:List Int
structure aY where
 fG:Int
 pc:Int
 dst:Int
 ak:List Int
 aR:List Int
 ba:List Int
structure St where
 cE:Int
 value:Int
 bu:Int
 dU:Int
 aS:List Int
 heap:List bN
 ao:List aY
def aG(l:List Int)(i:Int):Int:=l.getD i.toNat 0
def gT(l:List Int)(i:Int)(v:Int):List Int:=l.set i.toNat v
def ix(w:Int):Nat:=(w -1000).toNat
def gP(w:Int):Prop:=-999<=w/\w<=999
def fQ(h:List bN)(a:Nat):Prop:=∃c,h[a]? =some c/\0<c.aQ
def gA(h:List bN)(w:Int):Prop:=1000<=w/\fQ h (ix w)
def qJ(h:List bN)(w:Int):Prop:=gP w\/gA h w
def jd:bN:=⟨0,0,[]⟩
def aM(h:List bN)(w:Int):bN:=(h[ix w]?).getD jd
def aac:dy:=⟨[],[],0,0,[]⟩
def dO(a:cT)(n:Int):dy:=(a.cF[n.toNat]?).getD aac
def cg(a:cT):Int:=(eS a.bo).length
def eB:List Int->Nat->Int
 |[],_=>0
 |w::b,a=>(if w=1000+(a:Int)then 1 else 0)+eB b a
def eu:List bN->Nat->Int
 |[],_=>0
 |c::h,a=>eB c.aF a+eu h a
def de:List Int->List Int->Nat->Int
 |r::c,o::b,a=>(if r=1000+(a:Int)then o else 0)+de c b a
 |_,_,_=>0
def fA:List aY->Nat->Int
 |[],_=>0
 |f::b,a=>de f.ak f.aR a+fA b a
def dG:List aY->Nat->Int
 |[],_=>0
 |f::b,a=>eB f.ba a+dG b a
def nC(a:cT)(x:Instr)(k:Nat):Bool:=(dO a x.bQ).cR.any (λy=>y==(k:Int))
def iG(a:cT)(x:Instr):Nat->List Int->List Int
 |_,[]=>[]
 |k,r::b=>if nC a x k then iG a x (k+1) b else r::iG a x (k+1) b
def fI(a:cT)(x:Instr):Nat->List Int->List Int
 |_,[]=>[]
 |k,r::b=>if nC a x k then r::fI a x (k+1) b else fI a x (k+1) b
def bU(a:cT)(x:Instr):List Int:=
 if x.op=15\/x.op=6\/x.op=10\/x.op=11\/x.op=18\/x.op=23 then x.args
 else if x.op=16\/x.op=17 then x.args.take 1
 else if x.op=9\/x.op=24 then iG a x 0 x.args
 else[]
def bD(ak aR:List Int):List Int->List Int
 |[]=>aR
 |r::a=>bD ak (if 1000<=aG ak r then gT aR r (aG aR r -1)else aR) a
def cL(f:aY)(a:List Int):List Int:=a.map (aG f.ak)
def kW(l:List Int):List Int:=l.filter (λw=>decide (1000<=w))
def ln(h:List bN)(a:List Int):Prop:=∀w∈a,1000<=w->(aM h w).aQ+eB a (ix w)<=999999
def FC(h:List bN)(f:aY)(x:Instr):Prop:=
 let w:=aG f.ak (aG x.args 0)
 gA h w/\kW (aM h w).aF=cL f (x.args.drop 1)/\((aM h w).aQ=1\/ln h (aM h w).aF)/\(x.op=17->aG f.ba (aG x.args 0)=0)
def vM(a:cT)(h:List bN)(w:Int):Prop:=
 gA h w/\0<=(aM h w).kj -cg a/\(aM h w).kj -cg a<a.cF.length/\
  (dO a ((aM h w).kj -cg a)).params.length=(aM h w).aF.length+1/\(dO a ((aM h w).kj -cg a)).cR.length=0/\
  ((aM h w).aQ=1\/ln h (aM h w).aF)
def FD(h:List bN)(f:aY)(x:Instr):Prop:=
 x.bZ≠0->aG f.ba (x.bZ -1)≠0->(aM h (aG f.ba (x.bZ -1))).aF.length=x.args.length
def KH(a:cT)(h:List bN)(f:aY)(x:Instr):Prop:=∀r∈fI a x 0 x.args,1000<=aG f.ak r->gA h (aG f.ak r)
def Sp(l:List Int):Prop:=∀n∈l,n=0
structure lp(im:cT)(s:St)(f:aY)(x:Instr)(aR:List Int):Prop where
 nn:∀o∈aR,0<=o
 dst:lR x.op->aG aR x.dst<=0
 nM:(x.op=1\/x.op=2\/x.op=3\/x.op=4\/x.op=5\/x.op=20)->∀r∈x.args,aG f.ak r<1000
 jg:x.op=6->FD s.heap f x
 cR:(x.op=9\/x.op=24)->KH im s.heap f x
 zero:(x.op=24\/x.op=23)->Sp aR/\Sp f.ba
 ret:x.op=23->1<s.ao.length\/aG f.ak (aG x.args 0)<1000
 apply:x.op=11->vM im s.heap (aG f.ak (aG x.args 0))
 Xa:x.op=14->gA s.heap (aG f.ak (aG x.args 0))/\(aM s.heap (aG f.ak (aG x.args 0))).aQ<999999
 drop:x.op=15->1000<=aG f.ak (aG x.args 0)
 NQ:(x.op=16\/x.op=17)->FC s.heap f x
 load:x.op=19->gA s.heap (aG f.ak (aG x.args 0))/\x.bQ<(aM s.heap (aG f.ak (aG x.args 0))).aF.length
 Fs:x.op=21->gA s.heap (aG f.ak (aG x.args 0))/\(aM s.heap (aG f.ak (aG x.args 0))).kj∈cy im.bo x.bQ
def FK(n:Int):Int:=if n< -999 then -999 else if 999<n then 999 else n
def OY(c a b:Int):Int:=
 if c=1 then FK (a+b)else if c=2 then FK (a -b)else if c=3 then FK (a*b)else if c=4/\a<b then 1 else 0
def dF:List bN->Nat
 |[]=>0
 |c::h=>if c.aQ=0 then 0 else dF h+1
def jg(h:List bN)(a:Nat)(c:bN):List bN:=if a=h.length then h++[c]else h.set a c
def mT(h:List bN)(w:Int):List bN:=h.set (ix w) {aM h w with aQ:=(aM h w).aQ+1}
def fm(h:List bN)(w:Int):List bN:=h.set (ix w) {aM h w with aQ:=(aM h w).aQ -1}
def ji(h:List bN):List Int->List bN
 |[]=>h
 |w::a=>ji (mT h w) a
def jq(h:List bN):Nat->Nat
 |0=>0
 |n+1=>match h[n]? with
  |some c=>if c.aQ=0 then jq h n else n+1
  |none=>jq h n
def nv(h:List bN):List bN:=h.take (jq h h.length)
def Cq:List bN->Nat
 |[]=>0
 |c::h=>(if 0<c.aQ then c.aQ.toNat+c.aF.length else 0)+Cq h
def kA:∀{e:List bN}{f:Nat}{b d:bN},e[f]? =some b->Cq (e.set f d)+(if 0<b.aQ then b.aQ.toNat+b.aF.length else 0)=Cq e+(if 0<d.aQ then d.aQ.toNat+d.aF.length else 0)
 |[],f,b,d,e=>by simp at e
 |i::e,0,b,d,g=>by simp at g;subst g;simp only[iB,Cq];omega
 |i::e,f+1,b,d,g=>by
  have:=kA (e:=e) (f:=f) (b:=b) (d:=d) (by simpa using g);simp only[jt,Cq];omega
def bS{h:List bN}(b:gA h w):h[ix w]? =some (aM h w)/\0<(aM h w).aQ:=by
 obtain⟨_,d,a,c⟩:=b;simp[aM,a,c]
open Classical in
noncomputable def ic (h:List bN) (c:List Int):List bN:=
 match c with
 |[]=>h
 |w::r=>
  if b:gA h w then
   if a:(aM h w).aQ=1 then ic (h.set (ix w) jd) ((aM h w).aF.reverse++r)
   else ic (fm h w) r
  else ic h r
termination_by Cq h+c.length
decreasing_by
 .let⟨e,a⟩:=bS b
  have:=kA (d:=jd) e
  simp only[jd,an a]at this
  simp[jd]
  simp at this
  omega
 .let⟨e,a⟩:=bS b
  have b:=kA (d:={aM h w with aQ:=(aM h w).aQ -1}) e
  simp only[an a]at b
  rw[an V]at b
  simp[fm]
  omega
 .simp
def tc(h:List bN):ic h []=h:=by rw[ic]
def td{h:List bN}(b:gA h w)(a:(aM h w).aQ=1):ic h (w::r)=ic (h.set (ix w) jd) ((aM h w).aF.reverse++r):=by
 rw[ic,S0 b,S0 a]
def qB{h:List bN}(b:gA h w)(a:(aM h w).aQ≠1):ic h (w::r)=ic (fm h w) r:=by
 rw[ic,S0 b,dif_neg a]
def qC{h:List bN}(a:¬gA h w):ic h (w::r)=ic h r:=by
 rw[ic,dif_neg a]
def aY.put(f:aY)(r w o:Int):aY:={f with ak:=gT f.ak r w,aR:=gT f.aR r o}
def gK(w:Int):Int:=if 1000<=w then 1 else 0
def dE(aR:List Int):List Int->List Int
 |[]=>aR
 |r::a=>dE (gT aR r (aG aR r+1)) a
def dj(n:Nat):List Int:=List.replicate n 0
def dN(cR:List Int):Nat->List Int->List Int
 |_,[]=>[]
 |k,w::a=>(if cR.any (λy=>y==(k:Int))then 0 else gK w)::dN cR (k+1) a
def bW(a:cT)(g c:Int)(b:List Int):aY:=
 ⟨g,0,c,b++dj ((dO a g).ak.toNat -b.length),dN (dO a g).cR 0 b++dj ((dO a g).ak.toNat -b.length),dj (dO a g).ak.toNat⟩
open Classical in
noncomputable def apart (h:List bN) (w:Int):List bN:=
 if(aM h w).aQ=1 then nv (h.set (ix w) jd)else ji (fm h w) (kW (aM h w).aF)
def tv(l:List Int)(n:Int):Nat:=l.findIdx (λy=>y==n)
open Classical in
noncomputable def fV (b:cT) (s:St) (a:List aY) (f:aY) (x:Instr) (aR:List Int):St:=
 let g:aY:={f with aR:=aR,pc:=f.pc+1}
 let c:=aG x.args 0
 let w:=aG f.ak c
 if x.op=0 then{s with ao:=a++[g.put x.dst x.bQ 0]}
 else if x.op=1\/x.op=2\/x.op=3\/x.op=4 then{s with ao:=a++[g.put x.dst (OY x.op w (aG f.ak (aG x.args 1))) 0]}
 else if x.op=5 then{s with aS:=s.aS++[w],ao:=a++[g.put x.dst w 0]}
 else if x.op=6 then
  if x.bZ≠0/\aG f.ba (x.bZ -1)≠0 then
   {s with heap:=s.heap.set (ix (aG f.ba (x.bZ -1))) ⟨1,x.bQ,cL f x.args⟩,ao:=a++[{g with ba:=gT f.ba (x.bZ -1) 0}.put x.dst (aG f.ba (x.bZ -1)) 1]}
  else{s with heap:=jg s.heap (dF s.heap) ⟨1,x.bQ,cL f x.args⟩,ao:=a++[g.put x.dst (1000+dF s.heap) 1]}
 else if x.op=10 then{s with heap:=jg s.heap (dF s.heap) ⟨1,cg b+x.bQ,cL f x.args⟩,ao:=a++[g.put x.dst (1000+dF s.heap) 1]}
 else if x.op=14 then{s with heap:=mT s.heap w,ao:=a++[{g with aR:=gT aR c (aG aR c+1)}]}
 else if x.op=15 then{s with heap:=nv (ic s.heap [w]),ao:=a++[g]}
 else if x.op=16\/x.op=17 then
  let d:={g with aR:=dE aR (x.args.drop 1)}
  if(aM s.heap w).aQ=1/\x.op=17 then{s with heap:=s.heap.set (ix w) ⟨-1,0,dj (aM s.heap w).aF.length⟩,ao:=a++[{d with ba:=gT f.ba c w}]}
  else{s with heap:=apart s.heap w,ao:=a++[d]}
 else if x.op=18 then{s with ao:=a++[g.put x.dst w (gK w)]}
 else if x.op=19 then{s with ao:=a++[g.put x.dst (aG (aM s.heap w).aF x.bQ) 0]}
 else if x.op=20 then{s with ao:=a++[{g with pc:=if w=0 then x.bQ else f.pc+1}]}
 else if x.op=21 then{s with ao:=a++[{g with pc:=aG x.eM (tv (cy b.bo x.bQ) (aM s.heap w).kj)}]}
 else if x.op=22 then{s with ao:=a++[{g with pc:=x.bQ}]}
 else if x.op=9 then{s with bu:=s.bu+1,ao:=a++[g,bW b x.bQ x.dst (cL f x.args)]}
 else if x.op=24 then{s with bu:=s.bu+1,ao:=a++[bW b x.bQ f.dst (cL f x.args)]}
 else if x.op=11 then
  {s with bu:=s.bu+1,heap:=apart s.heap w,ao:=a++[g,bW b ((aM s.heap w).kj -cg b) x.dst ((aM s.heap w).aF++[aG f.ak (aG x.args 1)])]}
 else -- 23
  match a.getLast? with
  |none=>{s with cE:=0,value:=w,ao:=[]}
  |some p=>{s with ao:=a.dropLast++[p.put f.dst w (gK w)]}
def mX(a:Int):Prop:=a=9\/a=11\/a=24
instance(a:Int):Decidable (mX a):=by unfold mX;infer_instance
def eI(a:cT)(f:aY):Instr:=((dO a f.fG).dp[f.pc.toNat]?).getD ⟨0,0,0,0,[],[]⟩
open Classical in
noncomputable def nV (a:cT) (s:St):St:=
 if s.cE≠3 then s else
 match s.ao.getLast? with
 |none=>s
 |some f=>
  if mX (eI a f).op/\s.bu=s.dU then{s with cE:=1}
  else if lp a s f (eI a f) (bD f.ak f.aR (bU a (eI a f)))then
   fV a s s.ao.dropLast f (eI a f) (bD f.ak f.aR (bU a (eI a f)))
  else{s with cE:=2}
end
section
variable{f b:Nat}{h g:List bN}{e e':Nat->Int}{w:Int}{c d:bN}
def lU:∀(l r:List Int)(f:Nat),eB (l++r) f=eB l f+eB r f
 |[],r,f=>by simp[eB]
 |w::l,r,f=>by simp only[cZ,eB,lU l r f];omega
def An:∀(l:List Int)(f:Nat),eB l.reverse f=eB l f
 |[],f=>rfl
 |w::l,f=>by simp only[QB,lU,An l f,eB];omega
def iF:∀(l:List Int)(f:Nat),0<=eB l f
 |[],f=>by simp[eB]
 |w::l,f=>by have:=iF l f;simp only[eB];split<;>omega
def nP:∀{l:List Int}{f:Nat},(1000+(f:Int))∉l->eB l f=0
 |[],f,_=>rfl
 |w::l,f,h=>by
  simp only[aV,vK]at h;simp only[eB,nP h.2];rw[ae (λe=>h.1 e.symm)];rfl
def uL:∀{l:List Int}{f:Nat},(1000+(f:Int))∈l->1<=eB l f
 |[],f,h=>by simp at h
 |w::l,f,h=>by
  simp only[eB];rcases List.mem_cons.1 h with rfl|h
  .rw[an rfl];have:=iF l f;omega
  .have:=uL h;split<;>omega
def OW{l:List Int}(h:0<eB l f):(1000+(f:Int))∈l:=
 dQ λa=>by rw[nP a]at h;omega
def SH(n:Nat)(f:Nat):eB (dj n) f=0:=nP λh=>by have:=Vv h;omega
def wm:∀(l:List Int)(f:Nat),eB (kW l) f=eB l f
 |[],f=>rfl
 |w::l,f=>by
  have:=wm l f;simp only[kW]at this⊢;rw[List.filter_cons];split
  .simp only[eB,this]
  .rename_i h;simp only[eB,this];rw[ae (λe=>h bF)];omega
def kC:∀(l:List Int)(f:Nat),eB l f<=l.length
 |[],f=>by simp[eB]
 |w::l,f=>by have:=kC l f;simp only[eB,aZ];split<;>omega
def uO:∀(h k:List bN)(f:Nat),eu (h++k) f=eu h f+eu k f
 |[],k,f=>by simp[eu]
 |c::h,k,f=>by simp only[cZ,eu,uO h k f];omega
def rf:∀(h:List bN)(f:Nat),0<=eu h f
 |[],f=>by simp[eu]
 |c::h,f=>by have:=rf h f;have:=iF c.aF f;simp only[eu];omega
def Ar:∀{h:List bN}{f:Nat}{c:bN}(e:bN)(_:h[f]? =some c)(b:Nat),eu (h.set f e) b=eu h b -eB c.aF b+eB e.aF b
 |[],f,c,e,h,b=>by simp at h
 |d::h,0,c,e,g,b=>by simp at g;subst g;simp only[iB,eu];omega
 |d::h,f+1,c,e,g,b=>by
  have:=Ar (h:=h) (f:=f) e (by simpa using g) b;simp only[jt,eu,this];omega
def LH:∀{h:List bN}{f:Nat},0<eu h f->∃c∈h,(1000+(f:Int))∈c.aF
 |[],f,h=>by simp[eu]at h
 |c::h,f,e=>by
  simp only[eu]at e;rcases eg (0<eB c.aF f)with b|b
  .exact⟨c,bg,OW b⟩
  .let⟨d,hd,g⟩:=LH (h:=h) (f:=f) (oh (iF c.aF f));exact⟨d,ai _ hd,g⟩
def Sa:∀{h:List bN}{c:bN}(_:c∈h)(f:Nat),eB c.aF f<=eu h f
 |[],c,a,f=>by simp at a
 |d::h,c,a,f=>by
  simp only[eu];rcases List.mem_cons.1 a with rfl|a
  .have:=rf h f;omega
  .have:=Sa a f;have:=iF d.aF f;omega
structure oE(h:List bN)(c:bN):Prop where
 fl:c.aF.length<=3
 lo: -1<=c.aQ
 hi:c.aQ<=999999
 wZ:c.aQ<1->c.kj=0/\(∀w∈c.aF,w=0)/\(c.aQ=0->c.aF=[])
 oX:0<c.aQ->(∀w∈c.aF,qJ h w)/\0<=c.kj/\c.kj<=99
def Ta(h:List bN):Prop:=∃a:Nat->Nat,∀(i:Nat)(c:bN),h[i]? =some c->∀w∈c.aF,1000<=w->a (ix w)<a i
structure fO(h:List bN)(e:Nat->Int):Prop where
 cell:∀c∈h,oE h c
 MH:Ta h
 ex:∀(f:Nat)(c:bN),h[f]? =some c->0<c.aQ->c.aQ=eu h f+e f
 nn:∀f,0<=e f
 lv:∀f,0<e f->fQ h f
def fO.congr(c:fO h e)(a:∀b,e' b=e b):fO h e':=by
 have:e'=e:=funext a;rw[this];exact c
def lC(f:Nat):ix (1000+(f:Int))=f:=by unfold ix;omega
def iv(h:1000<=w):1000+((ix w:Nat):Int)=w:=by unfold ix;omega
def Q8{v:Int}(a:1000<=v)(b:1000<=w)(h:ix v=ix w):v=w:=by rw[<-iv a,<-iv b,h]
def fO.field(i:fO h e)(g:c∈h)(f:w∈c.aF)(j:1000<=w):gA h w:=by
 have d:=i.cell c g;rcases eg (0<c.aQ)with b|b
 .rcases(d.oX b).1 w f with a|a
  .have:=a.2;omega
  .exact a
 .have:=(d.wZ V).2.1 w f;omega
def fO.Xh(d:fO h e)(g:¬fQ h f):eu h f=0:=by
 rcases eg (0<eu h f)with a|a
 .let⟨c,b,i⟩:=LH a;have:=(d.field b i V).2;rw[lC]at this;exact absurd this g
 .have:=rf h f;omega
def fO.YA(a:fO h e)(c:¬fQ h f):e f=0:=by
 have:=a.nn f;rcases eg (0<e f)with b|b
 .exact absurd (a.lv f b) c
 .omega
def iE(a:b≠f):(h.set f c)[b]? =h[b]? :=by rw[cr (λe=>a e.symm)]
def eJ(hd:h[f]? =some d):(h.set f c)[f]? =some c:=by
 rw[dx (aw hd)]
def fQ.ne(a:b≠f):fQ (h.set f c) b<->fQ h b:=by unfold fQ;rw[iE a]
def fQ.yT(hd:h[f]? =some d):fQ (h.set f c) f<->0<c.aQ:=by
 unfold fQ;rw[eJ hd];simp
def qJ.mono(c:qJ h w)(b:1000<=w->fQ h (ix w)->fQ g (ix w)):qJ g w:=by
 rcases c with a|a
 .exact Or.inl a
 .exact Or.inr ⟨a.1,b a.1 a.2⟩
def oE.mono{h g:List bN}{c:bN}(a:oE h c)(e:0<c.aQ->∀w∈c.aF,1000<=w->fQ h (ix w)->fQ g (ix w)):oE g c:=
 ⟨a.fl,a.lo,a.hi,a.wZ,λb=>⟨λw d=>((a.oX b).1 w d).mono (e b w d),(a.oX b).2⟩⟩
def nO{x:bN}(i:x∈h.set f c):x=c\/∃b,b≠f/\h[b]? =some x:=by
 let⟨b,a⟩:=List.mem_iff_getElem?.1 i;by_cases e:b=f
 .subst e;rw[List.getElem?_set_self']at a;cases g:h[b]? with
  |none=>simp[g]at a
  |some d=>simp[g]at a;exact Or.inl a.symm
 .rw[iE e]at a;exact Or.inr ⟨b,e,a⟩
def fO.Kz(j:fO h e)(g:h[f]? =some c)(i:0<c.aQ){n:Int}(v:0<n)(u:n<=999999)
 (m:∀b,e' b=e b+if b=f then n -c.aQ else 0)(s:0<=e' f):fO (h.set f {c with aQ:=n}) e':=by
 have p:∀b,fQ (h.set f {c with aQ:=n}) b<->fQ h b:=λb=>by
  by_cases a:b=f
  .subst a;rw[fQ.yT g];exact⟨λ_=>⟨c,g,i⟩,λ_=>v⟩
  .exact fQ.ne a
 have x:∀b,eu (h.set f {c with aQ:=n}) b=eu h b:=λb=>by rw[Ar _ g];simp only[];omega
 refine⟨λA y=>?_,?_,λb d hd t=>?_,λb=>?_,λb l=>?_⟩
 .rcases nO y with rfl|⟨b,_,l⟩
  .have q:=j.cell c (aq g)
   exact⟨q.fl,by simp only[];omega,u,λr=>by simp only[]at r;omega,λ_=>⟨λw k=>((q.oX i).1 w k).mono λ_ o=>(p _).2 o,(q.oX i).2⟩⟩
  .exact(j.cell A (aq l)).mono λ_ w _ _ o=>(p _).2 o
 .let⟨z,r⟩:=j.MH
  refine⟨z,λo d hd w k i=>?_⟩
  by_cases q:o=f
  .subst q;rw[eJ g]at hd;simp at hd;subst hd;exact r o c g w k i
  .rw[iE q]at hd;exact r o d hd w k i
 .rw[x,m]
  by_cases a:b=f
  .subst a;rw[eJ g]at hd;simp at hd;subst hd
   have:=j.ex b c g i
   simp only[an];omega
  .rw[iE a]at hd
   have:=j.ex b d hd t
   rw[ae a];omega
 .by_cases a:b=f
  .subst a;exact s
  .rw[m,ae a];have:=j.nn b;omega
 .rw[p]
  by_cases a:b=f
  .subst a;exact⟨c,g,i⟩
  .rw[m,ae a]at l;exact j.lv b V
def fO.Q5(j:fO h e)(m:h[f]? =some c)(I:c.aQ=1)(J:0<e f){c':bN}(C: -1<=c'.aQ)(L:c'.aQ<1)(G:c'.kj=0)
 (r:∀w∈c'.aF,w=0)(B:c'.aF.length<=3)(A:c'.aQ=0->c'.aF=[])
 (p:∀b,e' b=e b -(if b=f then 1 else 0)+eB c.aF b):fO (h.set f c') e':=by
 have o:=j.ex f c m V
 have O:=rf h f
 have N:eu h f=0:=V
 have K:e f=1:=V
 have u:∀x∈h,(1000+(f:Int))∉x.aF:=λx o g=>by
  have:=Sa o f;have:=uL g;omega
 have M:eB c.aF f=0:=nP (u c (aq m))
 have E:∀b,eB c'.aF b=0:=λb=>nP λg=>by have:=r _ g;omega
 have t:∀b,b≠f->fQ h b->fQ (h.set f c') b:=λb i q=>(fQ.ne i).2 q
 have D:∀x∈h,∀w∈x.aF,1000<=w->ix w≠f:=λx o w g n y=>by
  have:=iv n;rw[y]at this;rw[<-this]at g;exact u x o g
 refine⟨λx o=>?_,?_,λb d hd z=>?_,λb=>?_,λb k=>?_⟩
 .rcases nO o with rfl|⟨b,_,k⟩
  .exact⟨B,C,V,λ_=>⟨G,r,A⟩,λn=>V⟩
  .exact(j.cell x (aq k)).mono λ_ w g n q=>t _ (D x (aq k) w g n) q
 .let⟨H,F⟩:=j.MH
  refine⟨H,λv d hd w g n=>?_⟩
  by_cases s:v=f
  .subst s;rw[eJ m]at hd;simp at hd;subst hd;have:=r w g;omega
  .rw[iE s]at hd;exact F v d hd w g n
 .rw[Ar _ m,E,p]
  by_cases i:b=f
  .subst i;rw[eJ m]at hd;simp at hd;subst hd;omega
  .rw[iE i]at hd
   have:=j.ex b d hd z
   rw[ae i];omega
 .rw[p]
  have:=j.nn b
  have:=iF c.aF b
  split
  .rename_i i;subst i;omega
  .omega
 .rw[p]at k
  by_cases i:b=f
  .subst i;rw[an rfl]at k;omega
  .rw[ae i]at k
   refine t b i ?_
   rcases eg (0<e b)with s|s
   .exact j.lv b s
   .have:=j.nn b
    have g:=OW (l:=c.aF) (f:=b) V
    have:=(j.field (aq m) g V).2
    rwa[lC]at this
def fO.make(l:fO h e){v:Int}{c:List Int}(r:¬fQ h f)(p:g[f]? =some ⟨1,v,c⟩)(o:∀b,b≠f->g[b]? =h[b]?)
 (E:∀b,eu g b=eu h b+eB c b)(z:∀w∈c,qJ h w)(C:c.length<=3)(G:0<=v/\v<=99)(x:∀b,eB c b<=e b)
 (t:∀b,e' b=e b -eB c b+if b=f then 1 else 0):fO g e':=by
 have u:∀b,fQ h b->fQ g b:=λb i=>by
  by_cases a:b=f
  .subst a;exact absurd i r
  .unfold fQ;rw[o b a];exact i
 have L:=l.YA r
 have N:=l.Xh r
 have M:eB c f=0:=by have:=iF c f;have:=x f;omega
 refine⟨λK I=>?_,?_,λb d hd B=>?_,λb=>?_,λb j=>?_⟩
 .let⟨b,j⟩:=List.mem_iff_getElem?.1 I
  by_cases a:b=f
  .subst a;rw[p]at j;simp at j;subst j
   exact⟨C,aL,aL,sx,λ_=>⟨λw n=>(z w n).mono λ_ i=>u _ i,G⟩⟩
  .rw[o b a]at j
   exact(l.cell K (aq j)).mono λ_ w _ _ i=>u _ i
 .let⟨s,F⟩:=l.MH
  refine⟨λk=>if k=f then(c.map λw=>s (ix w)).sum+1 else s k,λk d hd w n y=>?_⟩
  have H:ix w≠f:=λA=>by
   have D:gA h w:=by
    by_cases m:k=f
    .subst m;rw[p]at hd;simp at hd;subst hd;rcases z w n with q|q
     .have:=q.2;omega
     .exact q
    .rw[o k m]at hd;exact l.field (aq hd) n y
   exact r (A▸D.2)
  simp only[ae H]
  by_cases m:k=f
  .subst m;rw[p]at hd;simp at hd;subst hd
   rw[an rfl]
   have:∀(q:List Int),w∈q->s (ix w)<=(q.map λw=>s (ix w)).sum:=by
    intro q i;induction q with
    |nil=>simp at i
    |cons O q J=>
     simp only[cK,List.sum_cons];rcases List.mem_cons.1 i with rfl|i
     .omega
     .have:=J i;omega
   have:=this c n;omega
  .rw[ae m];rw[o k m]at hd;exact F k d hd w n y
 .rw[E,t]
  by_cases a:b=f
  .subst a;rw[p]at hd;simp at hd;subst hd
   rw[an rfl];simp only[];omega
  .rw[o b a]at hd
   have:=l.ex b d hd B
   rw[ae a];omega
 .rw[t];have:=x b;split<;>omega
 .rw[t]at j
  by_cases a:b=f
  .subst a;exact⟨_,p,aL⟩
  .rw[ae a]at j
   exact u b (l.lv b (oh (iF c b)))
def fO.ic:∀(n:Nat)(h:List bN)(o:List Int)(e:Nat->Int),Cq h+o.length<=n->fO h (λb=>e b+eB o b)->(∀b,0<=e b)->fO (ic h o) e
 |n,h,[],e,_,a,_=>by rw[tc];exact a.congr λb=>by simp[eB]
 |n,h,w::r,e,f,a,d=>by
  rcases eg (gA h w)with c|c
  .let⟨g,m⟩:=bS c;have s:=iv c.1;have l:∀b,eB (w::r) b=(if b=ix w then 1 else 0)+eB r b:=λb=>by
    simp only[eB];congr 1;by_cases k:b=ix w
    .subst k;rw[an s.symm,an rfl]
    .rw[ae k,ae (λi=>k (by rw[i,lC]))]
   have p:=kA (d:=jd) g;by_cases j:(aM h w).aQ=1
   .rw[td c j];simp only[an m,jd]at p;simp at p;cases n with
    |zero=>simp at f
    |succ n=>
    refine fO.ic n _ _ e ?_ (fO.Q5 a g j ?_ bn bn rfl (by simp[jd]) (by simp[jd]) (λ_=>rfl) λb=>?_) d
    .simp[jd]at f⊢;omega
    .simp only[l,an];have:=d (ix w);have:=iF r (ix w);omega
    .simp only[l,lU,An];omega
   .rw[qB c j];have q:=kA (d:={aM h w with aQ:=(aM h w).aQ -1}) g;simp only[an m]at q;rw[an V]at q;have t:=(a.cell _ (aq g)).hi;cases n with
    |zero=>simp at f
    |succ n=>
    refine fO.ic n _ _ e ?_ (fO.Kz a g m V V (λb=>?_) ?_) d
    .simp only[aZ]at f;simp only[fm];omega
    .simp only[l];split<;>omega
    .have:=d (ix w);have:=iF r (ix w);omega
  .rw[qC c];cases n with
   |zero=>simp at f
   |succ n=>
   refine fO.ic n _ _ e (by simp at f;omega) (a.congr λb=>?_) d;simp only[eB];rw[ae]
   .omega
   .intro i;have:=a.lv b (by simp only[eB,an i];have:=d b;have:=iF r b;omega);exact c ⟨V,by rw[i,lC];exact this⟩
def tY(h:List bN):∀n,jq h n<=n
 |0=>ad _
 |n+1=>by
  simp only[jq];have:=tY h n;split
  .split<;>omega
  .omega
def tX(h:List bN):∀(n k:Nat)(c:bN),jq h n<=k->k<n->h[k]? =some c->c.aQ=0
 |0,k,c,_,d,_=>V
 |n+1,k,c,a,e,b=>by
  simp only[jq]at a;by_cases d:k=n
  .subst d;rw[b]at a;simp only[]at a;split at a
   .assumption
   .omega
  .split at a
   .split at a
    .exact tX h n k c a V b
    .omega
   .exact tX h n k c a V b
def Mu(h:List bN):∀(n:Nat)(c:bN),n<=h.length->h[jq h n -1]? =some c->0<jq h n->c.aQ≠0
 |0,c,_,_,b=>by simp[jq]at b
 |n+1,c,f,a,b=>by
  simp only[jq]at a b;let⟨d,hd⟩:=cG h n;rw[hd]at a b;simp only[]at a b;split at a
  .rename_i e;rw[an e]at b;exact Mu h n c V a b
  .rename_i e;simp at a;rw[hd]at a;simp at a;subst a;exact e
def nZ(h:List bN):Prop:=∀c,h[h.length -1]? =some c->c.aQ≠0
def Hq(h:List bN):nZ (nv h):=by
 intro c a;have d:=tY h h.length;unfold nv at a;rw[gL,jf d]at a;rcases j8 (jq h h.length)with b|b
 .rw[b]at a;simp at a
 .rw[dI V]at a;exact Mu h _ c (ad _) a b
def NZ:∀{h:List bN},(∀c∈h,c.aF=[])->∀f,eu h f=0
 |[],_,f=>rfl
 |c::h,a,f=>by simp only[eu,a c bg,eB,NZ (λd hd=>a d (ai _ hd)) f];rfl
def fO.nv{h:List bN}{e:Nat->Int}(d:fO h e):fO (nv h) e:=by
 have u:=tY h h.length;have q:∀(b:Nat)(c:bN),h[b]? =some c->c.aQ≠0->b<jq h h.length:=λb c a i=>
  dQ λv=>i (tX h h.length b c V (aw a) a)
 have k:∀(b:Nat)(c:bN),(Go.Proofs.YtkoifinbblcbiaaGreat.nv h)[b]? =some c->h[b]? =some c:=λb c a=>by
  unfold Go.Proofs.YtkoifinbblcbiaaGreat.nv at a;have:=aw a;rw[gL]at this;rwa[dI V]at a
 have l:∀b,fQ h b->fQ (Go.Proofs.YtkoifinbblcbiaaGreat.nv h) b:=λb⟨c,a,j⟩=>⟨c,by
  unfold Go.Proofs.YtkoifinbblcbiaaGreat.nv;rw[dI (q b c a V)];exact a,j⟩
 have s:∀b,eu (Go.Proofs.YtkoifinbblcbiaaGreat.nv h) b=eu h b:=λb=>by
  have m:h=Go.Proofs.YtkoifinbblcbiaaGreat.nv h++h.drop (jq h h.length):=(dk _ _).symm;have n:eu (h.drop (jq h h.length)) b=0:=NZ (λc a=>by
   let⟨o,g⟩:=List.mem_iff_getElem?.1 a;rw[sA]at g;have i:=tX h h.length _ c V (aw g) g;exact((d.cell c (aq g)).wZ V).2.2 i) b
  have o:=nY (λg=>eu g b) m;simp only[uO,n]at o;omega
 refine⟨λc a=>?_,?_,λf c a j=>?_,d.nn,λf p=>l f (d.lv f p)⟩
 .let⟨b,g⟩:=List.mem_iff_getElem?.1 a;exact(d.cell c (aq (k b c g))).mono λ_ w _ _ r=>l _ r
 .let⟨t,r⟩:=d.MH;exact⟨t,λg c a=>r g c (k g c a)⟩
 .rw[s];exact d.ex f c (k f c a) j
end
section
variable{l:List Int}{i x v r:Int}{b:Nat}{c:cT}{f:aY}{s:St}
def oH(b:0<=i)(c:i<l.length):l[i.toNat]? =some (aG l i):=by
 let⟨x,a⟩:=cG l i.toNat;simp[aG,a]
def Ya(h:l[b]? =some x):aG l b=x:=by simp[aG,h]
def HM(h:l[i.toNat]? =some x):aG l i=x:=by simp[aG,h]
def fx(a:0<=i)(b:i<l.length):aG l i∈l:=iA (oH a b)
def jU(l:List Int)(i v:Int):(gT l i v).length=l.length:=by simp[gT]
def pN(h:x∈gT l i v):x=v\/x∈l:=by
 rcases cA h with h|h
 .exact Or.inr h
 .exact Or.inl h
def Ax(l:List Int)(i v:Int)(b:Nat):(gT l i v)[b]? =if b=i.toNat/\b<l.length then some v else l[b]? :=by
 unfold gT;by_cases h:b=i.toNat
 .subst h;by_cases a:i.toNat<l.length
  .rw[dx a,an ⟨rfl,a⟩]
  .rw[ae V,rR V]
 .rw[ae V,cr (λe=>h e.symm)]
def UO(a:0<=i)(b:i<l.length)(j:Int)(c:0<=j):aG (gT l i v) j=if j=i then v else aG l j:=by
 unfold aG;rw[fU,fU,Ax];by_cases h:j=i
 .subst h;rw[an rfl,an ⟨rfl,V⟩];rfl
 .rw[ae h,ae V]
def Ig:∀(ak aR:List Int)(b:Nat)(w o f e:Int)(a:Nat),ak[b]? =some f->aR[b]? =some e->
 de (ak.set b w) (aR.set b o) a=de ak aR a -(if f=1000+(a:Int)then e else 0)+(if w=1000+(a:Int)then o else 0)
 |[],aR,b,w,o,f,e,a,c,d=>by simp at c
 |r::g,[],b,w,o,f,e,a,c,d=>by simp at d
 |r::g,q::h,0,w,o,f,e,a,c,d=>by
  simp at c d;subst c;subst d;simp only[iB,de];omega
 |r::g,q::h,b+1,w,o,f,e,a,c,d=>by
  have:=Ig g h b w o f e a (by simpa using c) (by simpa using d);simp only[jt,de,this];omega
def Uh(h:l[b]? =some x):l.set b x=l:=by
 apply gX;intro i;by_cases a:b=i
 .subst a;rw[dx (aw h),h]
 .rw[cr a]
def If{ak aR:List Int}(c:0<=r)(d:r<ak.length)(e:r<aR.length)(o:Int)(a:Nat):
 de ak (gT aR r o) a=de ak aR a+(if aG ak r=1000+(a:Int)then o -aG aR r else 0):=by
 have b:=oH c d
 have:=Ig ak aR r.toNat (aG ak r) o _ _ a b (oH c e)
 rw[Uh b]at this
 rw[gT,this];split<;>omega
def NU{ak aR:List Int}(b:0<=r)(c:r<ak.length)(d:r<aR.length)(e:aG aR r=0)(w o:Int)(a:Nat):
 de (gT ak r w) (gT aR r o) a=de ak aR a+(if w=1000+(a:Int)then o else 0):=by
 have:=Ig ak aR r.toNat w o _ _ a (oH b c) (oH b d)
 rw[gT,gT,this,e];split<;>omega
def tC:∀{ak aR:List Int},(∀o∈aR,0<=o)->∀a,0<=de ak aR a
 |[],aR,h,a=>by cases aR<;>simp[de]
 |r::b,[],h,a=>by simp[de]
 |r::b,o::d,h,a=>by
  have:=tC (ak:=b) (aR:=d) (λx c=>h x (ai _ c)) a;have:=h o bg;simp only[de];split<;>omega
def tE:∀{ak aR:List Int},Sp aR->∀a,de ak aR a=0
 |[],aR,h,a=>by cases aR<;>simp[de]
 |r::b,[],h,a=>by simp[de]
 |r::b,o::d,h,a=>by
  have:=tE (ak:=b) (aR:=d) (λx c=>h x (ai _ c)) a;have:=h o bg;simp only[de,this];split<;>omega
def Gp:∀{c o1:List Int}(b o2:List Int),c.length=o1.length->∀a,de (c++b) (o1++o2) a=de c o1 a+de b o2 a
 |[],[],b,o2,_,a=>by simp[de]
 |[],_::_,_,_,h,_=>by simp at h
 |_::_,[],_,_,h,_=>by simp at h
 |r::e,o::d,b,o2,h,a=>by
  have:=Gp (c:=e) (o1:=d) b o2 (by simpa using h) a;simp only[cZ,de,this];omega
def LC:∀{ak aR:List Int}{b:Nat}{w o:Int}(_:∀o∈aR,0<=o)(_:ak[b]? =some w)(_:aR[b]? =some o){d:Nat}(_:w=1000+(d:Int)),o<=de ak aR d
 |[],_,_,_,_,_,a,_,_,_=>by simp at a
 |_::_,[],_,_,_,_,_,c,_,_=>by simp at c
 |r::i,q::h,0,w,o,e,a,c,d,f=>by
  simp at a c;subst a;subst c;have:=tC (ak:=i) (aR:=h) (λx g=>e x (ai _ g)) d;simp only[de,an f];omega
 |r::i,q::h,b+1,w,o,e,a,c,d,f=>by
  have:=LC (ak:=i) (aR:=h) (b:=b) (λx g=>e x (ai _ g)) (by simpa using a) (by simpa using c) f;have:=e q bg;simp only[de];split<;>omega
def fZ:∀(l r:List aY)(a:Nat),fA (l++r) a=fA l a+fA r a
 |[],r,a=>by simp[fA]
 |f::l,r,a=>by simp only[cZ,fA,fZ l r a];omega
def kT(f:aY)(a:Nat):fA [f] a=de f.ak f.aR a:=by simp[fA]
def eK:∀(l r:List aY)(a:Nat),dG (l++r) a=dG l a+dG r a
 |[],r,a=>by simp[dG]
 |f::l,r,a=>by simp only[cZ,dG,eK l r a];omega
def jc(f:aY)(a:Nat):dG [f] a=eB f.ba a:=by simp[dG]
def vU:∀(l:List aY)(a:Nat),0<=dG l a
 |[],a=>by simp[dG]
 |f::l,a=>by have:=vU l a;have:=iF f.ba a;simp only[dG];omega
def ka(ak:List Int):∀(a aR:List Int),(bD ak aR a).length=aR.length
 |[],aR=>rfl
 |r::a,aR=>by simp only[bD];rw[ka ak a];split<;>simp[jU]
def yd{ak:List Int}:∀(b aR:List Int),(∀r∈b,0<=r/\r<ak.length)->ak.length=aR.length->∀a,de ak (bD ak aR b) a=de ak aR a -eB (b.map (aG ak)) a
 |[],aR,_,_,a=>by simp[bD,eB]
 |r::b,aR,h,c,a=>by
  have e:=h r bg;have f:=λaR c=>yd (ak:=ak) b aR (λx d=>h x (ai _ d)) c a;simp only[bD,cK,eB];by_cases d:1000<=aG ak r
  .rw[an d,f _ (by rw[jU];exact c),If e.1 e.2 V];split<;>omega
  .rw[ae d,f _ c,ae V];omega
def kZ{ak:List Int}:∀(c aR:List Int)(b:Nat)(o:Int),(bD ak aR c)[b]? =some o->∃q,aR[b]? =some q/\o<=q
 |[],aR,b,o,h=>⟨o,h,dw _⟩
 |r::c,aR,b,o,h=>by
  simp only[bD]at h;let⟨q,a,e⟩:=kZ c _ b o h;split at a
  .rw[Ax]at a;split at a
   .rename_i d;let⟨y,f⟩:=dB d.2;have g:aG aR r=y:=by rw[aG,fU,<-d.1,f];rfl
    simp at a;exact⟨y,f,V⟩
   .exact⟨q,a,e⟩
  .exact⟨q,a,e⟩
def lP:∀(a aR:List Int),(dE aR a).length=aR.length
 |[],aR=>rfl
 |r::a,aR=>by simp only[dE];rw[lP a,jU]
def FI{ak:List Int}:∀(b aR:List Int),(∀r∈b,0<=r/\r<ak.length)->ak.length=aR.length->∀a,de ak (dE aR b) a=de ak aR a+eB (b.map (aG ak)) a
 |[],aR,_,_,a=>by simp[dE,eB]
 |r::b,aR,h,d,a=>by
  have c:=h r bg;simp only[dE,cK,eB];rw[FI (ak:=ak) b _ (λx e=>h x (ai _ e)) (by rw[jU];exact d) a,If c.1 c.2 V];split<;>omega
def KN{ak:List Int}:∀(d aR:List Int),(∀r∈d,0<=r/\r<aR.length/\1000<=aG ak r)->
 (∀(b:Nat)(o w:Int),aR[b]? =some o->ak[b]? =some w->0<=o/\(0<o->1000<=w))->∀(b:Nat)(o w:Int),(dE aR d)[b]? =some o->ak[b]? =some w->0<=o/\(0<o->1000<=w)
 |[],aR,_,h,b,o,w,a,c=>h b o w a c
 |r::d,aR,g,h,b,o,w,a,c=>by
  refine KN (ak:=ak) d (gT aR r (aG aR r+1)) (λx e=>by rw[jU];exact g x (ai _ e)) (λb o w a c=>?_) b o w a c;rw[Ax]at a;split at a
  .rename_i f;have e:=g r bg;have i:aG ak r=w:=by rw[aG,fU,<-f.1,c];rfl
   have j:=h b (aG aR r) w (by rw[f.1];exact oH e.1 e.2.1) c;simp at a;exact⟨V,λ_=>V⟩
  .exact h b o w a c
def fP(h:List bN)(a:Nat):Prop:=∃c,h[a]? =some c/\c.aQ<0
structure iC(c:cT)(f:aY):Prop where
 fG:0<=f.fG/\f.fG<c.cF.length
 pc:0<=f.pc/\f.pc<(dO c f.fG).dp.length
 lr:(f.ak.length:Int)=(dO c f.fG).ak
 lo:(f.aR.length:Int)=(dO c f.fG).ak
 lh:(f.ba.length:Int)=(dO c f.fG).ak
 Sb:∀w∈f.ak,gP w\/1000<=w
 aR:∀(b:Nat)(o w:Int),f.aR[b]? =some o->f.ak[b]? =some w->0<=o/\(0<o->1000<=w)
 ba:∀w∈f.ba,w=0\/1000<=w
structure cY(c:cT)(s:St):Prop where
 fy:ns c
 cE:0<=s.cE/\s.cE<=3
 done:s.cE=0<->s.ao=[]
 value:gP s.value
 ua:s.value≠0->s.cE=0
 dU:0<=s.dU/\s.dU<=40
 bu:0<=s.bu/\s.bu<=s.dU
 depth:(s.ao.length:Int)<=s.bu+1
 aS:∀n∈s.aS,gP n
 heap:fO s.heap (fA s.ao)
 jB:nZ s.heap
 ao:∀f∈s.ao,iC c f
 first:∀f,s.ao[0]? =some f->f.dst=0
 chain:∀(b:Nat)(f g:aY),s.ao[b]? =some f->s.ao[b+1]? =some g->0<=g.dst/\g.dst<f.aR.length/\aG f.aR g.dst=0
 lg:∀a,fP s.heap a->dG s.ao a=1
 nm:∀a,¬fP s.heap a->dG s.ao a=0
def iC.P7(h:iC c f):∀o∈f.aR,0<=o:=λo d=>by
 let⟨b,a⟩:=List.mem_iff_getElem?.1 d;have g:=aw a;have:=h.lo;have:=h.lr;let⟨w,e⟩:=cG f.ak b;exact(h.aR b o w a e).1
def Ky{c:cT}:∀{b:List aY},(∀f∈b,iC c f)->∀a,0<=fA b a
 |[],_,a=>by simp[fA]
 |f::b,h,a=>by
  have:=Ky (λg d=>h g (ai _ d)) a;have:=tC (ak:=f.ak) (h f bg).P7 a;simp only[fA];omega
def cY.split(h:cY c s)(b:s.cE=3):∃a f,s.ao=a++[f]:=by
 have:s.ao≠[]:=λe=>by have:=h.done.2 e;omega
 exact⟨s.ao.dropLast,s.ao.getLast this,(ft this).symm⟩
def iC.Jt(j:ns c)(h:iC c f):∃p,c.cF[f.fG.toNat]? =some p/\dO c f.fG=p/\HI c p/\p.dp[f.pc.toNat]? =some (eI c f)/\iS c p f.pc.toNat (eI c f):=by
 let⟨p,b⟩:=cG c.cF f.fG.toNat (oh h.fG);have e:dO c f.fG=p:=by simp[dO,b]
 have g:=j.dz p (aq b);have k:=h.pc;rw[e]at k;let⟨i,a⟩:=cG p.dp f.pc.toNat;have d:eI c f=i:=by simp[eI,e,a]
 exact⟨p,b,e,g,d▸a,d▸g.dz _ _ a⟩
def cY.fW(h:cY c s)(A:s.cE=3){e:List aY}{g:aY}(k:s.ao=e++[f]){d:List bN}{aS:List Int}(o:iC c g)(hd:g.dst=f.dst)
 (r:fO d (fA (e++[g])))(w:nZ d)(t:∀a,fP d a->dG (e++[g]) a=1)(x:∀a,¬fP d a->dG (e++[g]) a=0)(v:∀n∈aS,gP n){bu:Int}(n:s.bu<=bu/\bu<=s.dU):
 cY c {s with heap:=d,aS:=aS,bu:=bu,ao:=e++[g]}:=by
 have z:=h.bu
 have m:=h.depth
 rw[k]at m
 refine⟨h.fy,h.cE,⟨λj=>by simp at j;omega,sx⟩,h.value,h.ua,h.dU,⟨by simp only[];omega,n.2⟩,by simp at m⊢;omega,v,r,w,λq a=>?_,λq a=>?_,λb p q d a=>?_,t,x⟩
 .rcases List.mem_append.1 a with a|a
  .exact h.ao q (by rw[k];exact bJ _ a)
  .simp at a;subst a;exact o
 .have i:=h.first
  rw[k]at i
  cases e with
  |nil=>simp at a;subst a;rw[hd];exact i f aL
  |cons y l=>simp at a;subst a;exact i y aL
 .have l:=h.chain b
  rw[k]at l
  simp only[]at d a
  have u:=aw a
  simp at u
  rw[ax V]at d
  rcases aW (b+1) e.length with i|i
  .rw[ax i]at a
   exact l p q (by rw[ax V];exact d) (by rw[ax i];exact a)
  .rw[aJ i]at a
   have j:b+1 -e.length=0:=V
   rw[j]at a;simp at a;subst a
   rw[hd]
   exact l p f (by rw[ax V];exact d) (by rw[aJ i,j];rfl)
end
section
variable{h:List bN}{a:Nat}{c d:bN}{w:Int}{e e':Nat->Int}
def fP.ne{b:Nat}(d:b≠a):fP (h.set a c) b<->fP h b:=by unfold fP;rw[iE d]
def fP.yT(hd:h[a]? =some d):fP (h.set a c) a<->c.aQ<0:=by unfold fP;rw[eJ hd];simp
def fP.set(hd:h[a]? =some d)(i:0<=d.aQ)(j:0<=c.aQ)(b:Nat):fP (h.set a c) b<->fP h b:=by
 by_cases g:b=a
 .subst g;rw[fP.yT hd];refine⟨λk=>V,λ⟨e,f,l⟩=>?_⟩;rw[hd]at f;simp at f;subst f;omega
 .exact fP.ne g
def fP.Um(e:fP h a):¬fQ h a:=λ⟨c,b,g⟩=>by
 let⟨d,hd,f⟩:=e;rw[b]at hd;simp at hd;subst hd;omega
def fP.fm(c:gA h w)(b:Nat):fP (fm h w) b<->fP h b:=by
 let⟨a,d⟩:=bS c;exact fP.set a V (by simp only[];omega) b
def fP.mT(c:gA h w)(b:Nat):fP (mT h w) b<->fP h b:=by
 let⟨a,d⟩:=bS c;exact fP.set a V (by simp only[];omega) b
def fP.Q5(c:gA h w)(b:Nat):fP (h.set (ix w) jd) b<->fP h b:=by
 let⟨a,d⟩:=bS c;exact fP.set a V (by simp[jd]) b
def fP.ic:∀(n:Nat)(h:List bN)(i:List Int),Cq h+i.length<=n->∀b,fP (ic h i) b<->fP h b
 |n,h,[],_,b=>by rw[tc]
 |0,h,w::r,c,b=>by simp at c
 |n+1,h,w::r,c,b=>by
  simp only[aZ]at c;rcases eg (gA h w)with a|a
  .let⟨f,g⟩:=bS a;by_cases d:(aM h w).aQ=1
   .have e:=kA (d:=jd) f;simp only[an g,jd]at e;simp at e;rw[td a d,fP.ic n _ _ (by simp[jd];omega) b,fP.Q5 a]
   .have e:=kA (d:={aM h w with aQ:=(aM h w).aQ -1}) f;simp only[an g]at e;rw[an V]at e;rw[qB a d,fP.ic n _ _ (by simp only[Go.Proofs.YtkoifinbblcbiaaGreat.fm];omega) b,fP.fm a]
  .rw[qC a,fP.ic n _ _ V b]
def fP.nv{h:List bN}(b:Nat):fP (nv h) b<->fP h b:=by
 have f:=tY h h.length;unfold fP Go.Proofs.YtkoifinbblcbiaaGreat.nv;constructor
 .rintro⟨c,a,d⟩;have:=aw a;rw[gL]at this;rw[dI V]at a;exact⟨c,a,d⟩
 .rintro⟨c,a,d⟩;refine⟨c,?_,d⟩;rw[dI]
  .exact a
  .exact dQ λe=>by have:=tX h h.length b c V (aw a) a;omega
def fO.mT(c:fO h e)(f:gA h w)(i:(aM h w).aQ<999999)(a:∀b,e' b=e b+if b=ix w then 1 else 0):fO (mT h w) e':=by
 let⟨d,g⟩:=bS f;refine c.Kz d g V V (λb=>?_) ?_
 .rw[a];split<;>omega
 .rw[a];have:=c.nn (ix w);split<;>omega
def PJ(a:gA h w){v:Int}(d:1000<=v):(aM (mT h w) v).aQ=(aM h v).aQ+(if v=w then 1 else 0):=by
 let⟨c,f⟩:=bS a;unfold mT;by_cases e:v=w
 .subst e;rw[an rfl];conv=>lhs;unfold aM
  rw[eJ c];rfl
 .rw[ae e];conv=>lhs;unfold aM
  rw[iE (λb=>e (Q8 d a.1 b))];simp[aM]
def fQ.mT{h:List bN}{w:Int}(a:gA h w)(b:Nat):fQ (mT h w) b<->fQ h b:=by
 let⟨c,d⟩:=bS a;by_cases e:b=ix w
 .subst e;unfold Go.Proofs.YtkoifinbblcbiaaGreat.mT;rw[fQ.yT c];exact⟨λ_=>a.2,λ_=>by simp only[];omega⟩
 .exact fQ.ne e
def iW(d:1000<=w)(r:List Int)(b:Nat):eB (w::r) b=(if b=ix w then 1 else 0)+eB r b:=by
 simp only[eB];congr 1;have e:=iv d;by_cases a:b=ix w
 .subst a;rw[an e.symm,an rfl]
 .rw[ae a,ae (λc=>a (by rw[c,lC]))]
def fO.ji:∀(a:List Int)(h:List bN)(e e':Nat->Int),fO h e->(∀w∈a,gA h w/\(aM h w).aQ+eB a (ix w)<=999999)->(∀b,e' b=e b+eB a b)->fO (ji h a) e'/\(∀b,fP (ji h a) b<->fP h b)/\(ji h a).length=h.length
 |[],h,e,e',i,_,g=>⟨i.congr λb=>by rw[g];simp[eB],λ_=>SZ,rfl⟩
 |w::a,h,e,e',i,k,g=>by
  let⟨c,p⟩:=k w bg;rw[iW c.1,an rfl]at p;have:=iF a (ix w);let⟨m,n,o⟩:=fO.ji a (Go.Proofs.YtkoifinbblcbiaaGreat.mT h w) (λb=>e b+if b=ix w then 1 else 0) e' (i.mT c V λb=>rfl) (λv q=>by
   let⟨d,j⟩:=k v (ai _ q);refine⟨⟨d.1,(fQ.mT c _).2 d.2⟩,?_⟩;rw[PJ c d.1];rw[iW c.1]at j;split
   .rename_i f;subst f;rw[an rfl]at j;omega
   .rename_i f;rw[ae (λl=>f (Q8 d.1 c.1 l))]at j;omega) (λb=>by rw[g,iW c.1];omega)
  refine⟨m,λb=>by rw[Go.Proofs.YtkoifinbblcbiaaGreat.ji,n,fP.mT c],by rw[Go.Proofs.YtkoifinbblcbiaaGreat.ji,o];simp[Go.Proofs.YtkoifinbblcbiaaGreat.mT]⟩
def lE{l:List Int}:w∈kW l<->w∈l/\1000<=w:=by simp[kW]
def fO.apart{h:List bN}{e e':Nat->Int}(j:fO h e){w:Int}(o:gA h w)(H:0<e (ix w))(t:(aM h w).aQ=1\/ln h (aM h w).aF)
 (A:∀b,e' b=e b -(if b=ix w then 1 else 0)+eB (aM h w).aF b)(K:nZ h):fO (apart h w) e'/\(∀b,fP (apart h w) b<->fP h b)/\nZ (apart h w):=by
 let⟨g,J⟩:=bS o
 unfold Go.Proofs.YtkoifinbblcbiaaGreat.apart
 by_cases r:(aM h w).aQ=1
 .rw[an r]
  exact⟨(j.Q5 g r H (c':=jd) bn bn rfl (by simp[jd]) (by simp[jd]) (λ_=>rfl) A).nv,λb=>by rw[fP.nv,fP.Q5 o],Hq _⟩
 .rw[ae r]
  have t:ln h (aM h w).aF:=by rcases t with m|m;exact absurd m r;exact m
  have Q:=(j.cell _ (aq g)).hi
  have I:fO (Go.Proofs.YtkoifinbblcbiaaGreat.fm h w) (λb=>e b -if b=ix w then 1 else 0):=j.Kz g J V V (λb=>by split<;>omega) bF
  have u:∀b,fQ h b->fQ (Go.Proofs.YtkoifinbblcbiaaGreat.fm h w) b:=λb f=>by
   by_cases k:b=ix w
   .subst k;unfold Go.Proofs.YtkoifinbblcbiaaGreat.fm;rw[fQ.yT g];simp only[];omega
   .exact(fQ.ne k).2 f
  let⟨m,y,z⟩:=fO.ji (kW (aM h w).aF) _ _ e' I (λv x=>by
   let⟨s,p⟩:=lE.1 x;have a:=j.field (aq g) s p;refine⟨⟨a.1,u _ a.2⟩,?_⟩;have:=t v s p;rw[wm];have O:(aM (Go.Proofs.YtkoifinbblcbiaaGreat.fm h w) v).aQ<=(aM h v).aQ:=by
    by_cases k:ix v=ix w
    .have i:=Q8 p o.1 k;subst i;unfold Go.Proofs.YtkoifinbblcbiaaGreat.fm;conv=>lhs;unfold aM
     rw[eJ g];show(aM h v).aQ -1<=(aM h v).aQ;omega
    .unfold Go.Proofs.YtkoifinbblcbiaaGreat.fm;conv=>lhs;unfold aM
     rw[iE k];exact dw _
   omega) (λb=>by rw[A,wm])
  refine⟨m,λb=>by rw[y,fP.fm o],λc n=>?_⟩
  intro M
  rw[z]at n
  have B:(Go.Proofs.YtkoifinbblcbiaaGreat.fm h w).length=h.length:=by simp[Go.Proofs.YtkoifinbblcbiaaGreat.fm]
  rw[B]at n
  have f:=aw n
  rw[z,B]at f
  let⟨d,hd⟩:=cG h (h.length -1)
  have N:=K d hd
  have G:=j.cell d (aq hd)
  have P:=G.lo
  rcases eg (0<d.aQ)with C|C
  .have F:∀(q:List Int)(l:List bN),(∀v∈q,gA l v)->∀b,fQ l b->fQ (Go.Proofs.YtkoifinbblcbiaaGreat.ji l q) b:=by
    intro q;induction q with
    |nil=>intro l _ b f;exact f
    |cons v q L=>
     intro l i b f;have a:=i v bg;exact L _ (λE D=>⟨(i E (ai _ D)).1,(fQ.mT a _).2 (i E (ai _ D)).2⟩) b ((fQ.mT a _).2 f)
   let⟨D,i,E⟩:=F (kW (aM h w).aF) (Go.Proofs.YtkoifinbblcbiaaGreat.fm h w) (λv x=>by
    let⟨s,p⟩:=lE.1 x;have a:=j.field (aq g) s p;exact⟨a.1,u _ a.2⟩) _ (u _ ⟨d,hd,C⟩)
   rw[n]at i;simp at i;subst i;omega
  .have l:fP h (h.length -1):=⟨d,hd,V⟩
   let⟨D,i,q⟩:=(y (h.length -1)).2 ((fP.fm o _).2 l)
   rw[n]at i;simp at i;subst i;omega
def qE:∀(h:List bN),dF h<=h.length
 |[]=>ad _
 |c::h=>by have:=qE h;simp only[dF,aZ];split<;>omega
def Ea:∀(h:List bN)(c:bN),h[dF h]? =some c->c.aQ=0
 |[],c,a=>by simp[dF]at a
 |d::h,c,a=>by
  simp only[dF]at a;split at a
  .rename_i b;simp at a;subst a;exact b
  .exact Ea h c (by simpa using a)
def fO.alloc(k:fO h e){t:Int}{f:List Int}(s:∀w∈f,qJ h w)(m:f.length<=3)(r:0<=t/\t<=99)(n:∀b,eB f b<=e b)
 (l:∀b,e' b=e b -eB f b+if b=dF h then 1 else 0)(u:nZ h):
 fO (jg h (dF h) ⟨1,t,f⟩) e'/\(∀b,fP (jg h (dF h) ⟨1,t,f⟩) b<->fP h b)/\nZ (jg h (dF h) ⟨1,t,f⟩):=by
 unfold jg
 have o:¬fQ h (dF h):=λ⟨c,a,v⟩=>by have:=Ea h c a;omega
 by_cases i:dF h=h.length
 .rw[an i]
  have q:(h++[⟨1,t,f⟩])[dF h]? =some ⟨1,t,f⟩:=by rw[i];simp
  have p:∀b,b≠dF h->(h++[⟨1,t,f⟩])[b]? =h[b]? :=λb g=>by
   rcases aW b h.length with j|j
   .rw[ax j]
   .rw[cN bF,cN j]
  refine⟨k.make o q p (λb=>by rw[uO];simp[eu]) s m r n l,λb=>?_,λc a=>?_⟩
  .by_cases g:b=dF h
   .rw[g];unfold fP;rw[q,i];simp
   .unfold fP;rw[p b g]
  .simp at a;subst a;simp
 .rw[ae i]
  have q:dF h<h.length:=by have:=qE h;omega
  let⟨d,hd⟩:=dB q
  have j:=Ea h d hd
  have p:=((k.cell d (aq hd)).wZ V).2.2 j
  refine⟨k.make o (eJ hd) (λb g=>iE g) (λb=>by rw[Ar _ hd,p];simp[eB]) s m r n l,λb=>fP.set hd V aL b,λc a=>?_⟩
  rw[dZ]at a
  by_cases g:h.length -1=dF h
  .rw[g,eJ hd]at a;simp at a;subst a;simp
  .rw[iE g]at a;exact u c a
end
section
variable{b:cT}{w:Int}{s:St}{f g:aY}
def Ft{b:cT}{x:Instr}:∀{l:List Int}{k:Nat}{r:Int},r∈iG b x k l->r∈l
 |[],k,r,h=>by simp[iG]at h
 |y::l,k,r,h=>by
  simp only[iG]at h;split at h
  .exact ai _ (Ft h)
  .rcases List.mem_cons.1 h with rfl|h
   .exact bg
   .exact ai _ (Ft h)
def Cn{x:Instr}{r:Int}(h:r∈bU b x):r∈x.args:=by
 unfold bU at h;split at h
 .exact h
 split at h
 .exact dA h
 split at h
 .exact Ft h
 .simp at h
def Jp{a:List bz}(h:dS a)(c:Int):(cB a c).length<=3:=by
 unfold cB;split
 .cases g:(eS a)[c.toNat]? with
  |none=>simp
  |some f=>
   have d:=aq g;unfold eS at d;let⟨e,hd,b⟩:=List.mem_flatMap.1 d;let⟨k,i⟩:=List.mem_iff_getElem?.1 hd;have:=(h.dz k e i).iZ (List.length_pos_of_mem b);exact(this.2.2.2 f b).1
 .simp
def iC.put{b:cT}{g:aY}(h:iC b g){r w o:Int}(i:0<=r)(f:gP w\/1000<=w)(d:0<=o)(e:0<o->1000<=w):iC b (g.put r w o):=by
 refine⟨h.fG,h.pc,by simp only[aY.put,jU];exact h.lr,by simp only[aY.put,jU];exact h.lo,h.lh,λy a=>?_,λk q y c a=>?_,h.ba⟩
 .rcases pN a with rfl|a
  .exact f
  .exact h.Sb y a
 .simp only[aY.put]at c a;rw[Ax]at c a;have:=h.lr;have:=h.lo;split at c<;>split at a
  .simp at c a;subst c;subst a;exact⟨d,e⟩
  .omega
  .omega
  .exact h.aR k q y c a
def Ii(w:Int):0<=gK w:=by unfold gK;split<;>omega
def Eo(h:0<gK w):1000<=w:=by unfold gK at h;split at h<;>omega
def xr(w:Int)(b:Nat):(if w=1000+(b:Int)then gK w else 0)=eB [w] b:=by
 simp only[eB,gK];split
 .rw[an V];rfl
 .rfl
def HO(n:Int):gP (FK n):=by unfold FK gP;split<;>(try split)<;>omega
def Qa(c a b:Int):gP (OY c a b):=by
 unfold OY;split
 .exact HO _
 split
 .exact HO _
 split
 .exact HO _
 split<;>(unfold gP;omega)
def lV(cR:List Int):∀(a:List Int)(k:Nat),(dN cR k a).length=a.length
 |[],k=>rfl
 |w::a,k=>by simp only[dN,aZ,lV cR a]
def JD(cR:List Int):∀(b:List Int)(k j:Nat)(o w:Int),(dN cR k b)[j]? =some o->b[j]? =some w->0<=o/\(0<o->1000<=w)
 |[],k,j,o,w,_,h=>by simp at h
 |v::b,k,0,o,w,a,c=>by
  simp[dN]at a c;subst c;split at a
  .subst a;omega
  .subst a;exact⟨Ii _,Eo⟩
 |v::b,k,j+1,o,w,a,c=>JD cR b (k+1) j o w (by simpa[dN]using a) (by simpa using c)
def ku(n:Nat):(dj n).length=n:=by simp[dj]
def qK{n:Nat}(h:w∈dj n):w=0:=Vv h
def uK{g j:Int}{d:List Int}{p:dy}(m:ns b)(l:0<=g)(h:b.cF[g.toNat]? =some p)(q:d.length=p.params.length)(n:∀w∈d,gP w\/1000<=w):iC b (bW b g j d):=by
 have e:dO b g=p:=by simp[dO,h]
 have i:=m.dz p (aq h);have t:=i.ak;have r:=i.len;have s:=aw h;refine⟨⟨l,by simp only[bW];omega⟩,⟨by simp[bW],by simp only[bW,e];omega⟩,?_,?_,?_,λw a=>?_,λk o w c a=>?_,λw a=>Or.inl (qK a)⟩
 .simp only[bW,e,be,ku];omega
 .simp only[bW,e,be,ku,lV];omega
 .simp only[bW,e,ku];omega
 .simp only[bW]at a;rcases List.mem_append.1 a with a|a
  .exact n w a
  .rw[qK a];exact Or.inl (by unfold gP;omega)
 .simp only[bW]at c a;rcases aW k d.length with f|f
  .rw[ax (by rw[lV];exact f)]at c;rw[ax f]at a;exact JD _ d 0 k o w c a
  .rw[aJ (by rw[lV];exact f)]at c;rw[qK (iA c)];omega
def qZ(b:cT)(g d:Int)(a:List Int)(c:Nat):de (bW b g d a).ak (bW b g d a).aR c=de a (dN (dO b g).cR 0 a) c:=by
 simp only[bW];rw[Gp _ _ (lV _ _ _).symm,tE (λn e=>qK e)];omega
def pO(b:cT)(g c:Int)(d:List Int)(a:Nat):dG [bW b g c d] a=0:=by
 rw[jc];exact SH _ _
def Ih{b:cT}{d:Instr}(f:aY):∀(e:List Int)(k:Nat)(a:Nat),de (cL f e) (dN (dO b d.bQ).cR k (cL f e)) a=eB ((iG b d k e).map (aG f.ak)) a
 |[],k,a=>by simp[cL,de,iG,eB]
 |r::h,k,a=>by
  have g:=Ih (b:=b) (d:=d) f h (k+1) a;simp only[cL,cK,dN,de,iG]at g⊢;rw[g];by_cases c:nC b d k=true
  .rw[an c];unfold nC at c;rw[an c];split<;>omega
  .rw[ae c];unfold nC at c;rw[ae c];simp only[cK,eB];have:=xr (aG f.ak r) a;simp only[eB]at this;omega
def JE:∀(a:List Int)(k:Nat)(b:Nat),de a (dN [] k a) b=eB a b
 |[],k,b=>by simp[de,eB]
 |w::a,k,b=>by
  have:=JE a (k+1) b;have c:=xr w b;simp only[eB]at c;simp only[dN,de,eB,this,QA,js,rS];omega
def cY.qF{e:List bN}{c:List aY}(i:cY b s)(l:s.ao=c++[f])(m:g.ba=f.ba)(j:∀a,fP e a<->fP s.heap a):
 (∀a,fP e a->dG (c++[g]) a=1)/\(∀a,¬fP e a->dG (c++[g]) a=0):=by
 have h:∀a,dG (c++[g]) a=dG s.ao a:=λa=>by rw[l,eK,eK,jc,jc,m]
 exact⟨λa d=>by rw[h];exact i.lg a ((j a).1 d),λa d=>by rw[h];exact i.nm a λk=>d ((j a).2 k)⟩
def cY.push(h:cY b s)(C:s.cE=3){d:List aY}(e:s.ao=d++[f])(p:iC b g)(hd:0<=g.dst/\g.dst<f.aR.length/\aG f.aR g.dst=0){c:List bN}{bu:Int}
 (r:fO c (fA (d++[f,g])))(v:nZ c)(t:∀a,fP c a->dG (d++[f,g]) a=1)(w:∀a,¬fP c a->dG (d++[f,g]) a=0)(z:bu=s.bu+1)(B:s.bu<s.dU):
 cY b {s with heap:=c,bu:=bu,ao:=d++[f,g]}:=by
 have A:=h.bu
 have m:=h.depth
 rw[e]at m
 refine⟨h.fy,h.cE,⟨λi=>by simp at i;omega,sx⟩,h.value,h.ua,h.dU,⟨by simp only[];omega,by simp only[];omega⟩,by simp at m⊢;omega,h.aS,r,v,λq a=>?_,λq a=>?_,λk x q c a=>?_,t,w⟩
 .rcases List.mem_append.1 a with a|a
  .exact h.ao q (by rw[e];exact bJ _ a)
  .simp at a
   rcases a with rfl|rfl
   .exact h.ao _ (by rw[e];simp)
   .exact p
 .have j:=h.first
  rw[e]at j
  cases d with
  |nil=>simp at a;subst a;exact j f aL
  |cons y l=>simp at a;subst a;exact j y aL
 .have l:=h.chain k
  rw[e]at l
  simp only[]at c a
  have i:d++[f,g]=(d++[f])++[g]:=aL
  rw[i]at c a
  have u:=aw a
  simp at u
  rw[ax bF]at c
  rcases aW (k+1) (d++[f]).length with j|j
  .rw[ax j]at a
   exact l x q c a
  .simp at j
   rw[aJ bF]at a
   have n:k+1 -(d++[f]).length=0:=bF
   rw[n]at a;simp at a;subst a
   rw[aJ V]at c
   have o:k -d.length=0:=V
   rw[o]at c;simp at c;subst c;exact hd
def Rc{m:List aY}(d:cY b s)(R:s.cE=3)(p:s.ao=m++[f])
 (M:lp b s f (eI b f) (bD f.ak f.aR (bU b (eI b f))))(bi:¬(mX (eI b f).op/\s.bu=s.dU)):
 cY b (fV b s m f (eI b f) (bD f.ak f.aR (bU b (eI b f)))):=by
 have I:iC b f:=d.ao f (by rw[p];simp)
 let⟨ac,hp,aB,hP,a5,hI⟩:=I.Jt d.fy
 generalize eI b f=x at*
 have⟨lr,lo,lh⟩:(f.ak.length:Int)=ac.ak/\(f.aR.length:Int)=ac.ak/\(f.ba.length:Int)=ac.ak:=⟨aB▸I.lr,aB▸I.lo,aB▸I.lh⟩
 have al:∀q∈x.args,0<=q/\q<f.ak.length:=λq u=>by have:=hI.args q u;omega
 have a3:∀r∈bU b x,0<=r/\r<f.ak.length:=λr R=>al r (Cn R)
 have bp:=yd (ak:=f.ak) (bU b x) f.aR a3 V
 have bo:=ka f.ak (bU b x) f.aR
 have bn:=kZ (ak:=f.ak) (bU b x) f.aR
 generalize bD f.ak f.aR (bU b x)=aR at*
 have aH:∀D∈m,iC b D:=λD j=>d.ao D (by rw[p];exact bJ _ j)
 have am:∀c,0<=fA m c+de f.ak aR c:=λc=>by
  have:=Ky aH c;have:=tC (ak:=f.ak) M.nn c;omega
 have E:fO s.heap (λc=>fA m c+de f.ak aR c+eB ((bU b x).map (aG f.ak)) c):=d.heap.congr λc=>by
  rw[p,fZ,kT,bp];omega
 have bc:∀O:Int,0<=O->O<ac.dp.length->iC b {f with aR:=aR,pc:=O}:=λO h0 e=>
  ⟨I.fG,⟨h0,by rw[aB];exact e⟩,I.lr,by simp only[bo];exact I.lo,I.lh,I.Sb,λy ab w W n=>by
   let⟨D,j,o⟩:=bn y ab W;have B:=I.aR y D w j n;exact⟨M.nn ab (iA W),λk=>B.2 V⟩,I.ba⟩
 have bq:=I.pc
 rw[aB]at bq
 have bb:x.op≠23->x.op≠24->f.pc+1<ac.dp.length:=λe B=>by
  rcases eg (f.pc+1<ac.dp.length)with A|A
  .exact A
  .have T:f.pc.toNat=ac.dp.length -1:=V;rw[T]at a5;have:=hP.MW x a5;omega
 have Z:x.op≠23->x.op≠24->iC b {f with aR:=aR,pc:=f.pc+1}:=λe B=>bc _ V (bb e B)
 have ar:∀r:Int,0<=r->r<f.ak.length->gP (aG f.ak r)\/1000<=aG f.ak r:=λr h0 e=>I.Sb _ (fx h0 e)
 have a8:∀r:Int,0<=r->r<f.ak.length->aG f.ak r<1000->gP (aG f.ak r):=λr h0 e B=>by rcases ar r h0 e with A|A;exact A;omega
 have ah:=hI.dst
 have a6:lR x.op->aG aR x.dst=0:=λN=>by
  have e:=M.dst N;have B:=M.nn _ (fx (l:=aR) ah.1 V);omega
 have br:∀r∈bU b x,qJ s.heap (aG f.ak r):=λr bd=>by
  have be:=a3 r bd;rcases ar r be.1 be.2 with A|A
  .exact Or.inl A
  .refine Or.inr ⟨A,E.lv _ ?_⟩;have:=am (ix (aG f.ak r));have:=uL (l:=(bU b x).map (aG f.ak)) (f:=ix (aG f.ak r)) (by rw[iv A];exact List.mem_map.2 ⟨r,bd,rfl⟩);omega
 have aI:∀(O:Int)(a7:List Int)(w ab:Int),lR x.op->∀c,fA (m++[aY.put {f with aR:=aR,pc:=O,ba:=a7} x.dst w ab]) c=fA m c+de f.ak aR c+(if w=1000+(c:Int)then ab else 0):=λO a7 w ab N c=>by
  rw[fZ,kT];simp only[aY.put];rw[NU ah.1 V V (a6 N)];omega
 have aO:∀(w:Int)(aS:List Int),lR x.op->x.op≠23->x.op≠24->bU b x=[]->(gP w\/1000<=w)->(∀k∈aS,gP k)->cY b {s with aS:=aS,ao:=m++[aY.put {f with aR:=aR,pc:=f.pc+1} x.dst w 0]}:=λw aS N e B v n W=>by
  let⟨z,P⟩:=d.qF p (g:=aY.put {f with aR:=aR,pc:=f.pc+1} x.dst w 0) rfl (λc=>SZ);refine d.fW R p (hd:=rfl) ((Z e B).put ah.1 n (dw _) (λA=>V)) (E.congr λc=>?_) d.jB z P W (bu:=s.bu) ⟨dw _,d.bu.2⟩;rw[aI _ _ _ _ N,v];simp[eB]
 have aQ:∀O:Int,0<=O->O<ac.dp.length->bU b x=[]->cY b {s with ao:=m++[{f with aR:=aR,pc:=O}]}:=λO h0 e v=>by
  let⟨z,P⟩:=d.qF p (g:={f with aR:=aR,pc:=O}) rfl (λc=>SZ);refine d.fW R p (hd:=rfl) (bc O h0 e) (E.congr λc=>?_) d.jB z P d.aS (bu:=s.bu) ⟨dw _,d.bu.2⟩;rw[fZ,kT,v];simp[eB]
 have o:=hI.op
 unfold mf at o
 unfold fV
 simp only[]
 by_cases e0:x.op=0
 .rw[an e0]at o⊢
  exact aO _ _ (by unfold lR;omega) V V (by simp[bU,e0]) (Or.inl o.2) d.aS
 rw[ae e0]at o⊢
 by_cases e1:x.op=1\/x.op=2\/x.op=3\/x.op=4
 .rw[an e1]
  exact aO _ _ (by unfold lR;omega) V V (by unfold bU;rw[ae V,ae V,ae V]) (Or.inl (Qa _ _ _)) d.aS
 rw[ae e1]
 have au:1<=x.args.length->0<=aG x.args 0/\aG x.args 0<f.ak.length:=λe=>al _ (fx V V)
 by_cases e5:x.op=5
 .rw[an e5]
  rw[ae V,an V]at o
  have u:=au V
  have az:gP (aG f.ak (aG x.args 0)):=a8 _ u.1 u.2 (M.nM V _ (fx V V))
  refine aO _ _ (by unfold lR;omega) V V (by simp[bU,e5]) (Or.inl az) λk F=>?_
  rcases List.mem_append.1 F with F|F
  .exact d.aS k F
  .simp at F;subst F;exact az
 rw[ae e5]
 have bf:(bU b x=x.args)->∀w∈cL f x.args,qJ s.heap w:=λv w n=>by
  obtain⟨r,Y,rfl⟩:=List.mem_map.1 n;exact br r (v▸Y)
 have a0:∀aC,bU b x=x.args->x.op≠23->x.op≠24->lR x.op->x.args.length<=3->0<=aC/\aC<=99->cY b {s with heap:=jg s.heap (dF s.heap) ⟨1,aC,cL f x.args⟩,ao:=m++[aY.put {f with aR:=aR,pc:=f.pc+1} x.dst (1000+dF s.heap) 1]}:=λaC v e B N A aX=>by
  let⟨S,k2,k3⟩:=E.alloc (t:=aC) (f:=cL f x.args) (e':=fA (m++[aY.put {f with aR:=aR,pc:=f.pc+1} x.dst (1000+dF s.heap) 1])) (bf v) (by simpa[cL]using A) aX (λc=>by rw[v];have:=am c;simp only[cL];omega) (λc=>by
   rw[aI _ _ _ _ N,v];simp only[cL];have:(if(1000+(dF s.heap:Int))=1000+(c:Int)then(1:Int)else 0)=if c=dF s.heap then 1 else 0:=by
    by_cases k:c=dF s.heap
    .rw[an k,an V]
    .rw[ae k,ae V]
   rw[this];omega) d.jB
  let⟨z,P⟩:=d.qF p (g:=aY.put {f with aR:=aR,pc:=f.pc+1} x.dst (1000+dF s.heap) 1) rfl k2;exact d.fW R p (hd:=rfl) ((Z e B).put ah.1 (Or.inr V) V (λ_=>V)) S k3 z P d.aS (bu:=s.bu) ⟨dw _,d.bu.2⟩
 have bs:(eS b.bo).length<=12:=by
  have:=rq d.fy.nT.types b.bo.length;rw[mU _ _ (ad _)]at this;exact this
 have bv:=d.fy.nT.len
 by_cases Q:x.op=6
 .rw[an Q]
  rw[ae V,ae V,an Q]at o
  have v:bU b x=x.args:=by unfold bU;rw[an V]
  have N:lR x.op:=by unfold lR;omega
  have aa:x.args.length<=3:=by rw[o.2.1];exact Jp d.fy.nT.types _
  split
  .rename_i aE
   have J:0<=x.bZ -1/\x.bZ -1<f.ba.length:=V
   have hv:=I.ba _ (fx (l:=f.ba) J.1 J.2)
   have K:1000<=aG f.ba (x.bZ -1):=V
   have aD:0<dG s.ao (ix (aG f.ba (x.bZ -1))):=by
    rw[p,eK,jc];have:=vU m (ix (aG f.ba (x.bZ -1)));have:=uL (l:=f.ba) (f:=ix (aG f.ba (x.bZ -1))) (by rw[iv K];exact fx J.1 J.2);omega
   have X:fP s.heap (ix (aG f.ba (x.bZ -1))):=dQ λF=>by have:=d.nm _ F;omega
   have aj:=d.lg _ X
   let⟨U,hd,av⟩:=X
   have ay:∀c,eB U.aF c=0:=λc=>nP λn=>by
    have:=((E.cell U (aq hd)).wZ V).2.1 _ n;omega
   have S:=E.make (v:=x.bQ) (c:=cL f x.args) (e':=fA (m++[aY.put {f with aR:=aR,pc:=f.pc+1,ba:=gT f.ba (x.bZ -1) 0} x.dst (aG f.ba (x.bZ -1)) 1])) (f:=ix (aG f.ba (x.bZ -1))) (g:=s.heap.set (ix (aG f.ba (x.bZ -1))) ⟨1,x.bQ,cL f x.args⟩)
    (fP.Um ⟨U,hd,av⟩) (eJ hd) (λc k=>iE k) (λc=>by rw[Ar _ hd,ay];simp only[];omega) (bf v) (by simpa[cL]using aa) V (λc=>by rw[v];have:=am c;simp only[cL];omega) (λc=>by
     rw[aI _ _ _ _ N,v];simp only[cL];have:(if aG f.ba (x.bZ -1)=1000+(c:Int)then(1:Int)else 0)=if c=ix (aG f.ba (x.bZ -1))then 1 else 0:=by
      by_cases k:c=ix (aG f.ba (x.bZ -1))
      .rw[an k,an (by rw[k,iv K])]
      .rw[ae k,ae (λH=>k (by rw[H,lC]))]
     rw[this];omega)
   have aA:∀c,eB (gT f.ba (x.bZ -1) 0) c=eB f.ba c -(if c=ix (aG f.ba (x.bZ -1))then 1 else 0):=by
    intro c;have ai:∀(C:List Int)(y:Nat)(w:Int),C[y]? =some w->eB (C.set y 0) c=eB C c -(if w=1000+(c:Int)then 1 else 0):=by
     intro C;induction C with
     |nil=>intro y w z;simp at z
     |cons af C ih=>
      intro y w z;cases y with
      |zero=>simp at z;subst z;simp only[iB,eB];rw[ae V];omega
      |succ y=>have:=ih y w (by simpa using z);simp only[jt,eB,this];omega
    rw[gT,ai _ _ _ (oH J.1 J.2)];by_cases k:c=ix (aG f.ba (x.bZ -1))
    .rw[an k,an (by rw[k,iv K])]
    .rw[ae k,ae (λH=>k (by rw[H,lC]))]
   have L:∀c,dG (m++[aY.put {f with aR:=aR,pc:=f.pc+1,ba:=gT f.ba (x.bZ -1) 0} x.dst (aG f.ba (x.bZ -1)) 1]) c=dG s.ao c -(if c=ix (aG f.ba (x.bZ -1))then 1 else 0):=λc=>by
    rw[p,eK,eK,jc,jc];simp only[aY.put];rw[aA];omega
   have ap:iC b {f with aR:=aR,pc:=f.pc+1,ba:=gT f.ba (x.bZ -1) 0}:=by
    have e:=Z V V;exact⟨e.fG,e.pc,e.lr,e.lo,by simp only[jU];exact e.lh,e.Sb,e.aR,λw n=>by rcases pN n with n|n;exact Or.inl n;exact e.ba w n⟩
   refine d.fW R p (hd:=rfl) (ap.put ah.1 (Or.inr K) V (λ_=>K)) S ?_ (λq u=>?_) (λq u=>?_) d.aS (bu:=s.bu) ⟨dw _,d.bu.2⟩
   .intro ag G
    rw[dZ]at G
    by_cases k:s.heap.length -1=ix (aG f.ba (x.bZ -1))
    .rw[k,eJ hd]at G;simp at G;subst G;simp
    .rw[iE k]at G;exact d.jB ag G
   .rw[L]
    by_cases k:q=ix (aG f.ba (x.bZ -1))
    .subst k;rw[fP.yT hd]at u;simp at u
    .rw[ae k];rw[fP.ne k]at u;have:=d.lg q u;omega
   .rw[L]
    by_cases k:q=ix (aG f.ba (x.bZ -1))
    .subst k;rw[an rfl];omega
    .rw[ae k];rw[fP.ne k]at u;have:=d.nm q u;omega
  .exact a0 _ v V V N aa V
 rw[ae Q]
 by_cases X:x.op=10
 .rw[an X]
  rw[ae V,ae V,ae Q,ae V,an X]at o
  obtain⟨⟨D,aF,ap,aK⟩,_⟩:=o
  have A:=(d.fy.nT.dz D (aq ap)).1
  have:=aw ap
  exact a0 _ (by unfold bU;rw[an V]) V V (by unfold lR;omega) V (by unfold cg;omega)
 rw[ae X]
 by_cases aD:x.op=14
 .rw[an aD]
  rw[ae V,an V]at o
  have u:=au V
  have v:bU b x=[]:=by simp[bU,aD]
  let⟨F,U⟩:=M.Xa aD
  let⟨z,P⟩:=d.qF p (g:={f with aR:=gT aR (aG x.args 0) (aG aR (aG x.args 0)+1),pc:=f.pc+1}) rfl (λc=>fP.mT F c)
  have e:=Z V V
  refine d.fW R p (hd:=rfl) (g:={f with aR:=gT aR (aG x.args 0) (aG aR (aG x.args 0)+1),pc:=f.pc+1}) ⟨e.fG,e.pc,e.lr,by simp only[jU];exact e.lo,e.lh,e.Sb,λy ab w W n=>?_,e.ba⟩ (E.mT F U λc=>?_) ?_ z P d.aS (bu:=s.bu) ⟨dw _,d.bu.2⟩
  .simp only[]at W n
   rw[Ax]at W
   split at W
   .rename_i J
    simp at W
    have T:aG f.ak (aG x.args 0)=w:=by rw[aG,fU,<-J.1,n];rfl
    have:=M.nn _ (fx (l:=aR) u.1 V)
    have:=F.1
    exact⟨V,λ_=>V⟩
   .exact e.aR y ab w W n
  .rw[fZ,kT,v]
   simp only[]
   rw[If u.1 u.2 V]
   have J:=iv F.1
   simp only[fF,eB]
   by_cases k:c=ix (aG f.ak (aG x.args 0))
   .rw[an k,an (by rw[k,J])];omega
   .rw[ae k,ae (λH=>k (by rw[H,lC]))];omega
  .let⟨G,aA⟩:=bS F
   intro ag K
   unfold mT at K
   rw[dZ]at K
   by_cases k:s.heap.length -1=ix (aG f.ak (aG x.args 0))
   .rw[k,eJ G]at K;simp at K;subst K;simp only[];omega
   .rw[iE k]at K;exact d.jB ag K
 rw[ae aD]
 have aP:x.args.length=1->x.args=[aG x.args 0]:=λe=>by
  cases hx:x.args with
  |nil=>rw[hx]at e;simp at e
  |cons af C=>cases C with
   |nil=>rfl
   |cons a_ C=>rw[hx]at e;simp at e
 by_cases a1:x.op=15
 .rw[an a1]
  rw[ae V,an V]at o
  have v:bU b x=[aG x.args 0]:=by unfold bU;rw[an V];exact aP V
  rw[v]at E
  have S:=fO.ic _ s.heap [aG f.ak (aG x.args 0)] (λc=>fA m c+de f.ak aR c) (ad _) (E.congr λc=>rfl) am
  let⟨z,P⟩:=d.qF p (g:={f with aR:=aR,pc:=f.pc+1}) rfl (λc=>(fP.nv (h:=ic s.heap [aG f.ak (aG x.args 0)]) c).trans (fP.ic _ _ _ (ad _) c))
  exact d.fW R p (hd:=rfl) (Z V V) (S.nv.congr λc=>by rw[fZ,kT]) (Hq _) z P d.aS (bu:=s.bu) ⟨dw _,d.bu.2⟩
 rw[ae a1]
 by_cases U:x.op=16\/x.op=17
 .rw[an U]
  rw[ae V,ae V,ae Q,ae V,ae X,an U]at o
  have u:=au V
  have v:bU b x=[aG x.args 0]:=by
   unfold bU;rw[ae V,an U];cases hx:x.args with
   |nil=>rw[hx]at o;simp at o
   |cons af C=>rfl
  let⟨F,aN,aT,a2⟩:=M.NQ U
  let⟨G,aA⟩:=bS F
  have aU:∀r∈x.args.drop 1,0<=r/\r<aR.length/\1000<=aG f.ak r:=λr Y=>by
   have e:=al r (wT Y);have B:aG f.ak r∈kW (aM s.heap (aG f.ak (aG x.args 0))).aF:=by rw[aN];exact List.mem_map.2 ⟨r,Y,rfl⟩
   exact⟨e.1,V,(lE.1 B).2⟩
  have e:=Z V V
  have aa:iC b {f with aR:=dE aR (x.args.drop 1),pc:=f.pc+1}:=⟨e.fG,e.pc,e.lr,by simp only[lP];exact e.lo,e.lh,e.Sb,KN (ak:=f.ak) _ aR aU e.aR,e.ba⟩
  have a9:∀c,de f.ak (dE aR (x.args.drop 1)) c=de f.ak aR c+eB (aM s.heap (aG f.ak (aG x.args 0))).aF c:=λc=>by
   rw[FI (ak:=f.ak) _ _ (λr Y=>oh (aU r Y)) V,<-wm (aM s.heap _).aF,aN];rfl
  have ay:0<fA m (ix (aG f.ak (aG x.args 0)))+de f.ak aR (ix (aG f.ak (aG x.args 0)))+eB ((bU b x).map (aG f.ak)) (ix (aG f.ak (aG x.args 0))):=by
   rw[v];have:=am (ix (aG f.ak (aG x.args 0)));simp only[cK,fF,iW F.1,an,eB];omega
  have av:∀c,fA m c+de f.ak (dE aR (x.args.drop 1)) c=(fA m c+de f.ak aR c+eB ((bU b x).map (aG f.ak)) c) -(if c=ix (aG f.ak (aG x.args 0))then 1 else 0)+eB (aM s.heap (aG f.ak (aG x.args 0))).aF c:=λc=>by
   rw[a9,v];simp only[cK,fF,iW F.1,eB];omega
  split
  .rename_i aj
   have aZ:=a2 aj.2
   have S:=E.Q5 G aj.1 ay (c':=⟨-1,0,dj (aM s.heap (aG f.ak (aG x.args 0))).aF.length⟩) aL aL rfl (λw n=>qK n) (by simp only[ku];exact(E.cell _ (aq G)).fl) (sx) (e':=fA (m++[{f with aR:=dE aR (x.args.drop 1),pc:=f.pc+1,ba:=gT f.ba (aG x.args 0) (aG f.ak (aG x.args 0))}])) (λc=>by rw[fZ,kT];exact av c)
   have ai:∀(c:Nat)(w:Int)(C:List Int)(y:Nat),C[y]? =some 0->eB (C.set y w) c=eB C c+(if w=1000+(c:Int)then 1 else 0):=by
    intro c w C;induction C with
    |nil=>intro y z;simp at z
    |cons af C ih=>
     intro y z;cases y with
     |zero=>simp at z;subst z;simp only[iB,eB];split<;>simp_all<;>omega
     |succ y=>have:=ih y (by simpa using z);simp only[jt,eB,this];omega
   have aV:aG x.args 0<f.ba.length:=V
   have L:∀c,dG (m++[{f with aR:=dE aR (x.args.drop 1),pc:=f.pc+1,ba:=gT f.ba (aG x.args 0) (aG f.ak (aG x.args 0))}]) c=dG s.ao c+(if c=ix (aG f.ak (aG x.args 0))then 1 else 0):=λc=>by
    rw[p,eK,eK,jc,jc];have aE:=oH (l:=f.ba) u.1 aV;rw[aZ]at aE;simp only[gT];rw[ai c _ _ _ aE];by_cases k:c=ix (aG f.ak (aG x.args 0))
    .rw[an k,an (by rw[k,iv F.1])];omega
    .rw[ae k,ae (λH=>k (by rw[H,lC]))];omega
   have a4:¬fP s.heap (ix (aG f.ak (aG x.args 0))):=λz=>z.Um F.2
   refine d.fW R p (hd:=rfl) (g:={f with aR:=dE aR (x.args.drop 1),pc:=f.pc+1,ba:=gT f.ba (aG x.args 0) (aG f.ak (aG x.args 0))}) ⟨aa.fG,aa.pc,aa.lr,aa.lo,by simp only[jU];exact aa.lh,aa.Sb,aa.aR,λw n=>?_⟩ S ?_ (λq J=>?_) (λq J=>?_) d.aS (bu:=s.bu) ⟨dw _,d.bu.2⟩
   .rcases pN n with n|n
    .rw[n];exact Or.inr F.1
    .exact I.ba w n
   .intro ag K
    rw[dZ]at K
    by_cases k:s.heap.length -1=ix (aG f.ak (aG x.args 0))
    .rw[k,eJ G]at K;simp at K;subst K;simp
    .rw[iE k]at K;exact d.jB ag K
   .rw[L]
    by_cases k:q=ix (aG f.ak (aG x.args 0))
    .rw[an k,k,d.nm _ a4];rfl
    .rw[ae k];rw[fP.ne k]at J;have:=d.lg q J;omega
   .rw[L]
    by_cases k:q=ix (aG f.ak (aG x.args 0))
    .subst k;rw[fP.yT G]at J;simp at J
    .rw[ae k];rw[fP.ne k]at J;have:=d.nm q J;omega
  .let⟨S,k2,k3⟩:=E.apart F ay aT (e':=fA (m++[{f with aR:=dE aR (x.args.drop 1),pc:=f.pc+1}])) (λc=>by rw[fZ,kT];exact av c) d.jB
   let⟨z,P⟩:=d.qF p (g:={f with aR:=dE aR (x.args.drop 1),pc:=f.pc+1}) rfl k2
   exact d.fW R p (hd:=rfl) aa S k3 z P d.aS (bu:=s.bu) ⟨dw _,d.bu.2⟩
 rw[ae U]
 by_cases a2:x.op=18
 .rw[an a2]
  rw[ae V,an V]at o
  have u:=au V
  have v:bU b x=[aG x.args 0]:=by unfold bU;rw[an V];exact aP V
  have N:lR x.op:=by unfold lR;omega
  let⟨z,P⟩:=d.qF p (g:=aY.put {f with aR:=aR,pc:=f.pc+1} x.dst (aG f.ak (aG x.args 0)) (gK (aG f.ak (aG x.args 0)))) rfl (λc=>SZ)
  refine d.fW R p (hd:=rfl) ((Z V V).put ah.1 (ar _ u.1 u.2) (Ii _) Eo) (E.congr λc=>?_) d.jB z P d.aS (bu:=s.bu) ⟨dw _,d.bu.2⟩
  rw[aI _ _ _ _ N,v,xr];rfl
 rw[ae a2]
 by_cases K:x.op=19
 .rw[an K]
  rw[ae V,ae V,ae Q,ae V,ae X,ae U,an K]at o
  let⟨F,k⟩:=M.load K
  let⟨G,aA⟩:=bS F
  refine aO _ _ (by unfold lR;omega) V V (by simp[bU,K]) ?_ d.aS
  rcases((E.cell _ (aq G)).oX aA).1 _ (fx o.2.1 k)with B|B
  .exact Or.inl B
  .exact Or.inr B.1
 rw[ae K]
 by_cases aa:x.op=20
 .rw[an aa]
  rw[ae V,ae V,ae Q,ae V,ae X,ae U,ae K,an aa]at o
  have:=bb V V
  exact aQ _ (by split<;>omega) (by split<;>omega) (by simp[bU,aa])
 rw[ae aa]
 by_cases aj:x.op=21
 .rw[an aj]
  rw[ae V,ae V,ae Q,ae V,ae X,ae U,ae K,ae aa,ae V,an aj]at o
  let⟨F,aX⟩:=M.Fs aj
  have ag:tv (cy b.bo x.bQ) (aM s.heap (aG f.ak (aG x.args 0))).kj<(cy b.bo x.bQ).length:=ud ⟨_,aX,aL⟩
  let⟨ai,k⟩:=o.2.2
  have:=k _ (fx (l:=x.eM) (i:=(tv (cy b.bo x.bQ) (aM s.heap (aG f.ak (aG x.args 0))).kj:Nat)) V V)
  exact aQ _ V V (by simp[bU,aj])
 rw[ae aj]
 by_cases av:x.op=22
 .rw[an av]
  rw[ae V,ae V,ae Q,ae V,ae X,ae U,ae K,ae aa,an av]at o
  exact aQ _ V V (by simp[bU,av])
 rw[ae av]
 have bg:∀w∈cL f x.args,gP w\/1000<=w:=λw n=>by
  obtain⟨r,Y,rfl⟩:=List.mem_map.1 n;exact ar r (al r Y).1 (al r Y).2
 have aV:mX x.op->s.bu<s.dU:=λG=>by
  have:=d.bu;have:s.bu≠s.dU:=λT=>bi ⟨G,T⟩;omega
 have a9:∀(hp:List bN),s.bu<s.dU->x.op≠23->x.op≠24->∀(g:aY),iC b g->lR x.op->g.dst=x.dst->fO hp (fA (m++[{f with aR:=aR,pc:=f.pc+1},g]))->nZ hp->(∀c,fP hp c<->fP s.heap c)->(∀c,dG [g] c=0)->
  cY b {s with bu:=s.bu+1,heap:=hp,ao:=m++[{f with aR:=aR,pc:=f.pc+1},g]}:=λhp bt e B g hg N bl hH hT hK bm=>by
  have a4:=d.bu
  have ay:=d.depth
  rw[p]at ay
  have ee:m++[{f with aR:=aR,pc:=f.pc+1},g]=(m++[{f with aR:=aR,pc:=f.pc+1}])++[g]:=aL
  have L:∀c,dG (m++[{f with aR:=aR,pc:=f.pc+1},g]) c=dG s.ao c:=λc=>by
   rw[ee,eK,bm,p,eK,eK,jc,jc];simp
  refine⟨d.fy,d.cE,⟨λT=>by simp at T;omega,sx⟩,d.value,d.ua,d.dU,⟨by simp only[];omega,by simp only[];omega⟩,by simp at ay⊢;omega,d.aS,hH,hT,λD j=>?_,λD j=>?_,λy p1 D k j=>?_,λq u=>?_,λq u=>?_⟩
  .rcases List.mem_append.1 j with j|j
   .exact aH D j
   .simp at j
    rcases j with rfl|rfl
    .exact Z e B
    .exact hg
  .have ai:=d.first
   rw[p]at ai
   cases m with
   |nil=>simp at j;subst j;exact ai f aL
   |cons af ys=>simp at j;subst j;exact ai af aL
  .have ag:=d.chain y
   rw[p]at ag
   simp only[]at k j
   rw[ee]at k j
   have aU:=aw j
   simp at aU
   rw[ax bF]at k
   rcases aW (y+1) (m.length+1)with A|A
   .rw[ax bF]at j
    rw[ax V]at k
    rcases aW (y+1) m.length with h4|h4
    .rw[ax h4]at j
     exact ag p1 D (by rw[ax V];exact k) (by rw[ax h4];exact j)
    .rw[aJ h4]at j
     have H:y+1 -m.length=0:=V
     rw[H]at j;simp at j;subst j
     exact ag p1 f (by rw[ax V];exact k) (by rw[aJ h4,H];rfl)
   .rw[aJ bF]at j
    have H:y+1 -(m++[{f with aR:=aR,pc:=f.pc+1}]).length=0:=bF
    rw[H]at j;simp at j;subst j
    rw[aJ V]at k
    have e3:y -m.length=0:=V
    rw[e3]at k;simp at k;subst k
    rw[bl]
    exact⟨ah.1,by simp only[];omega,a6 N⟩
  .rw[L];exact d.lg q ((hK q).1 u)
  .rw[L];exact d.nm q λA=>u ((hK q).2 A)
 by_cases e9:x.op=9
 .rw[an e9]
  rw[ae V,ae V,ae Q,an V]at o
  let⟨D,aF,ap,aK⟩:=o
  have v:bU b x=iG b x 0 x.args:=by unfold bU;rw[ae V,ae V,an V]
  refine a9 s.heap (aV (Or.inl e9)) V V (bW b x.bQ x.dst (cL f x.args)) (uK d.fy aF ap (by simp[cL,aK]) bg) (by unfold lR;omega) rfl (E.congr λc=>?_) d.jB (λ_=>SZ) (pO _ _ _ _)
  rw[fZ,v]
  simp only[fA]
  rw[qZ,Ih];omega
 rw[ae e9]
 by_cases aE:x.op=24
 .rw[an aE]
  rw[ae V,ae V,ae Q,an V]at o
  let⟨D,aF,ap,aK⟩:=o
  have v:bU b x=iG b x 0 x.args:=by unfold bU;rw[ae V,ae V,an V]
  let⟨aN,aZ⟩:=M.zero (Or.inl aE)
  have L:∀c,dG (m++[bW b x.bQ f.dst (cL f x.args)]) c=dG s.ao c:=λc=>by
   rw[p,eK,eK,pO,jc,nP (λn=>oh (aZ _ n))]
  have bh:=aV (Or.inr (Or.inr aE))
  refine d.fW R p (hd:=rfl) (uK d.fy aF ap (by simp[cL,aK]) bg) (E.congr λc=>?_) d.jB (λq u=>by rw[L];exact d.lg q u) (λq u=>by rw[L];exact d.nm q u) d.aS (bu:=s.bu+1) V
  rw[fZ,kT,qZ,Ih,v,tE aN];omega
 rw[ae aE]
 by_cases ap:x.op=11
 .rw[an ap]
  rw[an V]at o
  have v:bU b x=x.args:=by unfold bU;rw[an V]
  have bh:x.args=[aG x.args 0,aG x.args 1]:=by
   cases hx:x.args with
   |nil=>rw[hx]at o;simp at o
   |cons af C=>cases C with
    |nil=>rw[hx]at o;simp at o
    |cons a_ C=>cases C with
     |nil=>rfl
     |cons _ _=>rw[hx]at o;simp at o
  have aF:0<=aG x.args 1/\aG x.args 1<f.ak.length:=al _ (fx V V)
  let⟨F,bk,bw,bj,aK,aT⟩:=M.apply ap
  let⟨G,aA⟩:=bS F
  let⟨D,j⟩:=cG b.cF (((aM s.heap (aG f.ak (aG x.args 0))).kj -cg b).toNat)
  have a_:dO b ((aM s.heap (aG f.ak (aG x.args 0))).kj -cg b)=D:=by simp[dO,j]
  rw[a_]at bj aK
  have C:∀c,eB ((bU b x).map (aG f.ak)) c=(if c=ix (aG f.ak (aG x.args 0))then 1 else 0)+eB [aG f.ak (aG x.args 1)] c:=λc=>by
   rw[v,bh];simp only[cK,fF];rw[iW]
   .rfl
   .exact F.1
  let⟨S,k2,k3⟩:=E.apart F (by simp only[C,an];have:=am (ix (aG f.ak (aG x.args 0)));have:=iF [aG f.ak (aG x.args 1)] (ix (aG f.ak (aG x.args 0)));omega) aT
   (e':=fA (m++[{f with aR:=aR,pc:=f.pc+1},bW b ((aM s.heap (aG f.ak (aG x.args 0))).kj -cg b) x.dst ((aM s.heap (aG f.ak (aG x.args 0))).aF++[aG f.ak (aG x.args 1)])])) (λc=>by
    rw[fZ,C];simp only[fA];rw[qZ,a_,List.length_eq_zero_iff.1 aK,JE,lU];omega) d.jB
  refine a9 _ (aV (Or.inr (Or.inl ap))) V V _ (uK d.fy bk j bF λw n=>?_) (by unfold lR;omega) rfl S k3 k2 (pO _ _ _ _)
  rcases List.mem_append.1 n with n|n
  .rcases((E.cell _ (aq G)).oX aA).1 w n with B|B
   .exact Or.inl B
   .exact Or.inr B.1
  .simp at n;subst n;exact ar _ aF.1 aF.2
 rw[ae ap]
 have aA:x.op=23:=by
  rw[ae V]at o;by_cases aA:x.op=23
  .exact aA
  .rw[ae V,ae Q,ae V,ae X,ae U,ae K,ae aa,ae av,ae aj]at o;exact o.elim
 rw[ae V,an V]at o
 have u:=au V
 have v:bU b x=[aG x.args 0]:=by unfold bU;rw[an V];exact aP V
 let⟨aN,aZ⟩:=M.zero (Or.inr aA)
 have aT:∀c,dG [f] c=0:=λc=>by rw[jc];exact nP (λn=>oh (aZ _ n))
 split
 .rename_i F
  have aF:m=[]:=List.getLast?_eq_none_iff.1 F
  subst aF
  have C:=M.ret aA
  have az:=a8 _ u.1 u.2 (by rcases C with e|e;(rw[p]at e;simp at e);exact e)
  have a4:=d.bu
  refine⟨d.fy,⟨aL,aL⟩,aL,az,aL,d.dU,d.bu,bF,d.aS,E.congr λc=>?_,d.jB,aL,aL,aL,λq J=>?_,λq J=>?_⟩
  .rw[v,tE aN]
   simp only[fA,cK,fF]
   rw[nP (by simp;have:=az.2;omega)];rfl
  .have e:=d.lg q J
   rw[p]at e
   have B:=aT q
   simp only[eE]at e
   omega
  .simp[dG]
 .rename_i C F
  have aF:m=m.dropLast++[C]:=by
   have a_:m≠[]:=λT=>by rw[T]at F;simp at F
   rw[gG a_]at F;simp at F;rw[<-F];exact(ft a_).symm
  generalize m.dropLast=fs' at aF
  subst aF
  have az:iC b C:=aH C aL
  let⟨aK,bh,bj⟩:=d.chain fs'.length C f (by rw[p];simp) (by rw[p];simp)
  have bk:f.dst<C.ak.length:=by have:=az.lr;have:=az.lo;omega
  have a4:=d.bu
  have ay:=d.depth
  rw[p]at ay
  have L:∀c,dG (fs'++[C.put f.dst (aG f.ak (aG x.args 0)) (gK (aG f.ak (aG x.args 0)))]) c=dG s.ao c:=λc=>by
   rw[p,eK,eK,aT,eK,jc,jc];simp[aY.put]
  refine⟨d.fy,d.cE,⟨λT=>by simp at T;omega,sx⟩,d.value,d.ua,d.dU,d.bu,by simp at ay⊢;omega,d.aS,E.congr λc=>?_,d.jB,λD j=>?_,λD j=>?_,λy p1 D k j=>?_,λq J=>by rw[L];exact d.lg q J,λq J=>by rw[L];exact d.nm q J⟩
  .rw[fZ,kT,fZ,kT,v,tE aN]
   simp only[aY.put,cK,fF]
   rw[NU aK bk bh bj,xr];omega
  .rcases List.mem_append.1 j with j|j
   .exact aH D (bJ _ j)
   .simp at j;subst j
    exact az.put aK (ar _ u.1 u.2) (Ii _) Eo
  .have ai:=d.first
   rw[p]at ai
   cases fs' with
   |nil=>simp at j;subst j;exact ai C aL
   |cons af ys=>simp at j;subst j;exact ai af aL
  .have ag:=d.chain y
   rw[p]at ag
   simp only[]at k j
   have aU:=aw j
   simp at aU
   rw[ax V]at k
   have e1:(fs'++[C]++[f])[y]? =some p1:=by rw[ax bF,ax V];exact k
   rcases aW (y+1) fs'.length with A|A
   .rw[ax A]at j
    exact ag p1 D e1 (by rw[ax bF,ax A];exact j)
   .rw[aJ A]at j
    have H:y+1 -fs'.length=0:=V
    rw[H]at j;simp at j;subst j
    exact ag p1 C e1 (by rw[ax bF,aJ A,H];rfl)
def Sd(h:cY b s):cY b (nV b s):=by
 unfold nV;by_cases c:s.cE=3
 .rw[ae (by simpa using c)];let⟨j,f,a⟩:=h.split c;have g:s.ao.getLast?=some f:=by rw[a];simp
  have i:s.ao.dropLast=j:=by rw[a];simp
  rw[g,i];simp only[];have d:∀n,1<=n->n<=2->cY b {s with cE:=n}:=λn l m=>
   ⟨h.fy,⟨by simp only[];omega,by simp only[];omega⟩,⟨λe=>by simp only[]at e;omega,λe=>by simp only[]at e;rw[a]at e;simp at e⟩,h.value,λe=>oh (h.ua e),h.dU,h.bu,h.depth,h.aS,h.heap,h.jB,h.ao,h.first,h.chain,h.lg,h.nm⟩
  split
  .exact d 1 V V
  .rename_i e;split
   .rename_i k;exact Rc h c a k e
   .exact d 2 V V
 .rw[an (by simpa using c)];exact h
end
section
variable{a:cT}
def rem(a:cT):List aY->Int
 |[]=>0
 |f::b=>((dO a f.fG).dp.length -f.pc)+rem a b
noncomputable def aB (a:cT):Nat->St->St
 |0,s=>s
 |n+1,s=>aB a n (nV a s)
def Fq(a:cT):∀(n:Nat)(s:St),aB a (n+1) s=nV a (aB a n s)
 |0,s=>rfl
 |n+1,s=>by rw[aB,Fq a n,aB]
def tT{a:cT}:∀(n:Nat){s:St},cY a s->cY a (aB a n s)
 |0,s,h=>h
 |n+1,s,h=>tT n (Sd h)
def sY{s:St}(h:s.cE≠3):nV a s=s:=by unfold nV;rw[an h]
def vB{a:cT}:∀(n:Nat){s:St},s.cE≠3->aB a n s=s
 |0,s,_=>rfl
 |n+1,s,h=>by rw[aB,sY h,vB n h]
def lQ(a:cT)(dU:Int):St:=⟨3,0,0,dU,[],[],[bW a 0 0 []]⟩
def Mp{dU:Int}(c:ns a)(n:0<=dU/\dU<=40):cY a (lQ a dU):=by
 have q:=c.nT.len;let⟨p,i⟩:=cG a.cF 0;have l:=c.nT.first p i;have k:=uK (j:=0) (d:=[]) c (dw 0) i (by simp[l.1]) aL;have h:∀f,fA [bW a 0 0 []] f=0:=λf=>by rw[kT,qZ];simp[de]
 refine⟨c,by simp[lQ],by simp[lQ],by simp[lQ,gP],by simp[lQ],n,by simp[lQ];omega,by simp[lQ],by simp[lQ],⟨by simp[lQ],⟨λ_=>0,by simp[lQ]⟩,by simp[lQ],λd=>by simp only[lQ];rw[h];omega,λd b=>by simp only[lQ]at b;rw[h]at b;omega⟩,?_,?_,?_,?_,λd⟨j,e,_⟩=>by simp[lQ]at e,λd _=>pO _ _ _ _ _⟩
 .intro j e;simp[lQ]at e
 .intro g b;simp[lQ]at b;subst b;exact k
 .intro g b;simp[lQ]at b;subst b;rfl
 .intro r g o b m;simp[lQ]at m
end
section
variable{k:Nat}{m:E}
def lS{b:List bz}{d:bz}:Hz b k d<->((zJ b.length d.tf/\zJ b.length d.to/\d.cons.length<=3/\(0<d.cons.length->d.tf=0/\d.to=0))/\
 (∀h∈d.cons,h.length<=3/\Fw b.length h)/\∀e∈b.take k,¬(d.cons.length=0/\e.cons.length=0/\e.tf=d.tf/\e.to=d.to)):=by
 constructor
 .intro l
  rcases j8 d.cons.length with a|a
  .let⟨c,f,g⟩:=l.R1 a
   refine⟨⟨f,g,V,λl=>V⟩,λh m=>?_,λe i j=>c e i j.2⟩
   rw[List.length_eq_zero_iff.1 a]at m;cases m
  .let⟨c,f,g,h⟩:=l.iZ a
   exact⟨⟨by unfold zJ;omega,by unfold zJ;omega,c,λ_=>⟨f,g⟩⟩,h,λe i j=>V⟩
 .rintro⟨⟨c,f,g,h⟩,l,m⟩
  exact⟨λa=>⟨g,(h a).1,(h a).2,l⟩,λa=>⟨λe i j=>m e i ⟨a,j⟩,c,f⟩⟩
def Ec{bo:O}{c:List bz}(hd:cx m bo c):dt cq 192 [O.v bo] m (dS c):=by
 apply yJ;simp -zeta only[aD,aC];have v:=hd.len;have ao:=hd.cap;refine dit (λaa=>?_) λaa=>?_
 .exact bV (λa=>oh a.len) (J.az _)
 refine dT (n:=c.length) V (λk f=>J m f/\∀(j:Nat)(d:bz),j<k->c[j]? =some d->Hz c j d) ⟨J.az _,aL⟩ ?_;rintro j w al μ hj ⟨H,S⟩ ak
 refine dit (λh1=>?_) λh1=>?_
 .let⟨d,D⟩:=cG c j;let⟨A,F,g0,g1,g2⟩:=(cx.ext H hd).aG D;have ar:=F.len;refine⟨V,V,_,g0,_,g1,A,g2,?_⟩;intro m2 q;have I:J w q:=((J.az w).aK _).ah (ad _) _ _;have G:∀r∈[w.size],r<q.size:=by simp[q,m2,av]
  clear_value q;have K:=H.trans I;have i:∀{f:E},J q f->¬Hz c j d->∃M:Bool,vb false=.bool M/\(M=true<->dS c)/\J m f:=λag af=>bV (λa=>af (a.dz j d D)) (K.trans ag);refine⟨λf=>J q f/\zJ c.length d.tf/\zJ c.length d.to/\d.cons.length<=3/\(0<d.cons.length->d.tf=0/\d.to=0),?_,?_⟩
  .refine(pL _ _ _).aH (J.az _) G λr m4 g N s=>⟨_,rfl,λe=>i s λa=>nb g e (v▸(lS.1 a).1.1),λe=>?_⟩;have p:=yb g e;refine(pL _ _ _).aH s G λr u g t b=>⟨_,rfl,λh=>i b λa=>nb g h (v▸(lS.1 a).1.2.1),λh=>?_⟩;have x:=yb g h;rw[v]at p x;refine dit (λy=>?_) λy=>?_
   .exact i b λa=>by have:=(lS.1 a).1.2.2.1;omega
   refine dit (λz=>?_) λz=>?_
   .refine⟨λl=>?_,λl=>?_⟩
    .simp only[vJ]at l;exact i b λa=>l ((lS.1 a).1.2.2.2 V).1
    simp only[iN]at l;refine⟨λo=>?_,λo=>?_⟩
    .simp only[vJ]at o;exact i b λa=>o ((lS.1 a).1.2.2.2 V).2
    simp only[iN]at o;exact⟨b,p,x,V,λ_=>⟨l,o⟩⟩
   .exact⟨b,p,x,V,λl=>V⟩
  .rintro m4 ⟨W,ae⟩;have ap:=pw.ext (I.trans W) F;refine dT (n:=d.cons.length) V (λk f=>J q f/\∀A∈d.cons.take k,A.length<=3/\Fw c.length A) ⟨W,aL⟩ ?_;rintro L u I2 μ2 hi ⟨l,T⟩ ah;refine dit (λN=>?_) λN=>?_
   .let⟨B,o⟩:=cG d.cons L;let⟨P,C,Q⟩:=(pw.ext (I.trans l) F).aG o;have U:=C.len;refine⟨V,V,P,Q,?_⟩;intro x y;have p:J u y:=((J.az u).aK _).ah (ad _) _ _;have R:∀r∈[u.size,w.size],r<y.size:=by
     have:=l.lt (G w.size aL);simp[y,x,av];omega
    clear_value y;refine dit (λs=>?_) λs=>?_
    .exact i (l.trans p) λa=>by have:=((lS.1 a).2.1 B (aq o)).1;omega
    exact(vV (C.ext p) _).aH (J.az _) R λr z g e t=>⟨_,rfl,λb=>i ((l.trans p).trans e) λa=>nb g b (v▸((lS.1 a).2.1 B (aq o)).2),λb=>ah V _ ⟨(l.trans p).trans e,bB o T ⟨V,v▸yb g b⟩⟩⟩
   .have ab:=db V T;refine⟨V,V,V,?_⟩;have P:cx u (bo.cut 0 j 3) (c.take j):=eT.TB (cx.ext (K.trans l) hd) V;have am:(bo.cut 0 j 3).len=j:=by rw[P.len];simp;omega
    simp -zeta only[uc,Int.toNat_zero];refine dT (n:=j) V (λk f=>J u f/\∀g∈c.take k,¬(d.cons.length=0/\g.cons.length=0/\g.tf=d.tf/\g.to=d.to)) ⟨J.az _,aL⟩ ?_;rintro p x Y μ3 ax ⟨C,U⟩ ai;refine dit (λs=>?_) λs=>?_
    .let⟨g,Q⟩:=cG c p;have R:(c.take j)[p]? =some g:=by rw[lH,an V];exact Q
     let⟨Z,ac,q0,q1,q2⟩:=(cx.ext C P).aG R;have au:=ac.len;refine⟨V,V,_,q0,_,q1,Z,q2,?_⟩;intro y z;have X:J x z:=((J.az x).aK _).ah (ad _) _ _;clear_value z;have B:¬(d.cons.length=0/\g.cons.length=0/\g.tf=d.tf/\g.to=d.to)->Y (cO ((p:Int)+1)) z/\μ3 (cO ((p:Int)+1)) z<μ3 p x:=λo=>ai V _ ⟨C.trans X,bB Q U o⟩;refine⟨λe=>?_,λe=>?_⟩
     .simp only[aI]at e;refine⟨λt=>?_,λt=>?_⟩
      .simp only[aI]at t;refine⟨λb=>?_,λb=>?_⟩
       .simp only[aI]at b;refine⟨λh=>?_,λh=>?_⟩
        .simp only[aI]at h;exact i ((l.trans C).trans X) λa=>(lS.1 a).2.2 g (aq R) ⟨V,V,b,h⟩
        .simp only[aj]at h;exact B λo=>h o.2.2.2
       .simp only[aj]at b;exact B λo=>b o.2.2.1
      .simp only[aj]at t;exact B λo=>t V
     .simp only[aj]at e;exact B λo=>e V
    .have:p=j:=V;subst this;refine ak V _ ⟨(K.trans l).trans C,λb e h a=>?_⟩
     by_cases g:b=p
     .subst g;rw[D]at a;simp at a;subst a;exact lS.2 ⟨ae,ab,U⟩
     .exact S b e V a
 .exact iR ⟨V,λL d bH=>S L d (oh (aw bH)) bH⟩ H
def Ov(m:E)(b:List Ce)(p:dy):Prop:=∃a l,b=[.s a,.s l,.i p.aT]/\ap m a p.params/\ap m l p.cR
def Ov.ext{m d:E}(b:J m d)(a:List Ce)(c:dy):Ov m a c->Ov d a c:=λ⟨f,g,e,h,i⟩=>⟨f,g,e,h.ext b,i.ext b⟩
abbrev pF(m:E)(s:O)(l:List dy):Prop:=eT m 3 (Ov m) s l
def pF.ext{m b:E}(a:J m b){s:O}{l:List dy}(h:pF m s l):pF b s l:=h.mono a (Ov.ext a)
def pF.aG{s:O}{l:List dy}(h:pF m s l){x:dy}(f:l[k]? =some x):
 ∃a b,ap m a x.params/\ap m b x.cR/\af m s.D (s.off+k*3)=some (O.v a)/\af m s.D (s.off+k*3+1)=some (O.v b)/\af m s.D (s.off+k*3+2)=some (vi x.aT):=by
 obtain⟨g,⟨a,b,rfl,d,e⟩,c⟩:=h.iD k x f
 exact⟨a,b,d,e,c 0 (.s a) rfl,c 1 (.s b) rfl,c 2 (.i x.aT) rfl⟩
def Gg{Y Z:O}{q:List bz}{c:List dy}(hd:cx m Y q)(P:pF m Z c):
 dt cq 147 [O.v Y,O.v Z] m (KI q c/\∀p∈c,DX p.params p.cR):=by
 apply Ah
 simp -zeta only[aD,aC]
 have N:=hd.len
 have aA:=P.len
 refine(Ec hd).then λu m1 e f=>⟨_,rfl,λG=>bV (λa=>nb e G a.1.types) f,λG=>?_⟩
 have ht:=yb e G
 refine dit (λh2=>?_) λh2=>?_
 .exact bV (λa=>oh a.1.len) f
 refine dit (λh3=>?_) λh3=>?_
 .exact bV (λa=>oh a.1.len) f
 let⟨p0,A⟩:=cG c 0
 let⟨a0,l0,al,aB,g0,g1,g2⟩:=(pF.ext f P).aG A
 have ay:=al.len
 refine⟨V,V,a0,g0,dit (λh4=>?_) λh4=>?_⟩
 .exact bV (λa=>oh ((a.1.first p0 A).1)) f
 refine⟨V,V,_,g2,λs=>?_,λs=>?_⟩
 .simp only[vJ]at s
  exact bV (λa=>s (a.1.first p0 A).2) f
 simp only[iN]at s
 refine dT (n:=c.length) V (λj U=>J m U/\∀p∈c.take j,(p.params.length<=3/\Fw q.length p.params/\zJ q.length p.aT)/\DX p.params p.cR) ⟨f,aL⟩ ?_
 rintro j C au μ hj ⟨l,hn⟩ ap
 refine dit (λh6=>?_) λh6=>?_
 .let⟨p,i⟩:=cG c j
  let⟨ah,ao,M,z,q0,q1,q2⟩:=(pF.ext l P).aG i
  have az:=M.len
  have aF:=z.len
  have aE:=z.gV
  refine⟨V,V,ah,q0,ao,q1,_,q2,?_⟩
  intro m3 D
  have o:J C D:=((J.az C).aK _).ah (ad _) _ _
  have aa:∀u∈[C.size],u<D.size:=by simp[D,m3,av]
  clear_value D
  refine dit (λh7=>?_) λh7=>?_
  .exact bV (λa=>oh ((a.1.dz p (aq i)).1)) (l.trans o)
  refine(vV (M.ext o) _).aH (J.az _) aa λu m5 e h8 h9=>⟨_,rfl,λH=>bV (λa=>nb e H (N▸(a.1.dz p (aq i)).2.1)) ((l.trans o).trans h8),λH=>?_⟩
  have ac:=yb e H
  refine(pL _ _ _).aH h9 aa λu W e ax I=>⟨_,rfl,λK=>bV (λa=>nb e K (N▸(a.1.dz p (aq i)).2.2)) ((l.trans o).trans I),λK=>?_⟩
  have ab:=yb e K
  rw[N]at ac ab
  have ae:J m W:=(l.trans o).trans I
  have S:J C W:=o.trans I
  refine dT (n:=p.cR.length) V (λk U=>U=W/\∀(j:Nat)(v:Int),j<k->p.cR[j]? =some v->(∃t,0<=v/\p.params[v.toNat]? =some t/\t≠0)/\(∀E:Int,0<j->p.cR[j -1]? =some E->E<v)) ⟨rfl,aL⟩ ?_
  rintro k m7 I2 μ2 hk ⟨rfl,Q⟩ af
  have w:¬DX p.params p.cR->∃X:Bool,vb false=.bool X/\(X=true<->KI q c/\∀p∈c,DX p.params p.cR)/\J m m7:=λan=>bV (λa=>an (a.2 p (aq i))) ae
  refine dit (λai=>?_) λai=>?_
  .let⟨x,g⟩:=cG p.cR k
   refine⟨V,V,x,by simpa using S.af (z.aG g),dit (λak=>?_) λak=>?_⟩
   .exact w λa=>by obtain⟨⟨t,y,_⟩,_⟩:=a k x g;omega
   refine⟨λy=>?_,λy=>?_⟩
   .simp only[oD,ar]at y
    refine w λa=>?_
    obtain⟨⟨t,_,d,_⟩,_⟩:=a k x g
    have:=aw d;omega
   simp only[oD,bE]at y
   let⟨t,B⟩:=cG p.params x.toNat
   refine⟨V,V,t,by simpa using S.af (M.aG B),λd=>?_,λd=>?_⟩
   .simp only[aI]at d
    refine w λa=>?_
    obtain⟨⟨b,_,r,L⟩,_⟩:=a k x g
    rw[B]at r;simp at r;exact L (r▸d)
   simp only[aj]at d
   refine dit (λr=>?_) λr=>?_
   .have e2:cO ((k:Int) -1)=((k -1:Nat):Int):=by rw[aP V V];omega
    let⟨ag,T⟩:=cG p.cR (k -1)
    rw[e2]
    refine⟨V,V,ag,by simpa using S.af (z.aG T),dit (λL=>?_) λL=>?_⟩
    .exact w λa=>by have:=(a k x g).2 ag V T;omega
    .refine af V _ ⟨rfl,λh v am b=>?_⟩
     by_cases F:h=k
     .subst F
      rw[g]at b;simp at b;subst b
      refine⟨⟨t,V,B,d⟩,λE _ R=>?_⟩
      rw[T]at R;simp at R;subst R;omega
     .exact Q h v V b
   .refine af V _ ⟨rfl,λh v am b=>?_⟩
    by_cases F:h=k
    .subst F
     rw[g]at b;simp at b;subst b
     exact⟨⟨t,V,B,d⟩,λE L _=>V⟩
    .exact Q h v V b
  .exact ap V _ ⟨ae,bB i hn ⟨⟨V,ac,ab⟩,λh v b=>Q h v (oh (aw b)) b⟩⟩
 .have b:=db V hn
  refine iR ⟨⟨ht,V,λp a=>(b p a).1,λp a=>?_⟩,λp a=>(b p a).2⟩ l
  rw[A]at a;simp at a;subst a
  exact⟨V,s⟩
end
section
variable{c:E}{d f a j:O}{b:cT}{i:Instr}
def Gd{H:O}(D:fg c d H b):
 aN cq 74 [.agg #[O.v d,O.v H]] c λan t=>∃T f e,an=.tuple #[.agg #[O.v T,O.v f],vb e]/\(e=true<->KI b.bo b.cF/\∀H∈b.cF,DX H.params H.cR)/\
  (e=true->T=d/\pF t f b.cF)/\J c t:=by
 apply Ag
 simp -zeta only[aD,aC]
 intro G h
 have aq:=D.cF.len
 have s1:G.size=c.size+1:=by simp[G]
 have s2:h.size=c.size+2:=by simp[h,G]
 have ab:J c h:=((J.az c).aK _).aK _
 refine dit (λh1=>?_) λh1=>?_
 .intro g
  exact⟨_,_,_,rfl,⟨sx,λD=>oh D.1.len⟩,sx,ab.ah V _ _⟩
 intro m4 C
 have s5:C.size=c.size+3:=by simp[C,m4,av,s2]
 have al:J c C:=(ab.aK _).ah V _ _
 have ah:cD C h.size me [.s d,.s .nil]:=cD.ah (m:=m4) (o:=0) (r:=[.s d,.s .nil]) (cD.push h _ _)
 clear_value C
 refine dT (n:=b.cF.length) V (λM t=>J c t/\C.size<=t.size/\∃g w,cD t h.size me [.s d,.s g]/\gY c t qb 3 g w.flatten/\gS 3 (Ov c) w (b.cF.take M)/\(g≠.nil->h.size<g.D)/\g.len=M)
  ⟨al,ad _,.nil,[],ah,gY.nil _ _ _ _,by simpa using gS.nil 3 (Ov c),aL,rfl⟩ ?_
 rintro M i ao μ hk ⟨l,ar,g,w,s,K,L,Q,aa⟩ am
 refine dit (λh2=>?_) λh2=>?_
 .let⟨N,Y⟩:=cG b.cF M
  let⟨a,e,ac,ha,p,y,g0,g1,g2,g3,g4⟩:=D.cF.aG Y
  refine⟨V,V,a,by simpa using l.af g0,e,by simpa using l.af g1,_,by simpa using l.af g2,_,by simpa using l.af g3,ac,by simpa using l.af g4,?_⟩
  intro S j
  have F:J i j:=((J.az i).aK _).ah (ad _) _ _
  have s8:j.size=i.size+1:=by simp[j,S,av]
  clear_value j
  refine⟨g,(s.ext F).cp 1,?_⟩
  intro u
  have R:J i u:=F.aK _
  have s9:u.size=i.size+2:=by simp[u,s8]
  have jw:fR u j.size 0 [.s a,.s e,.i N.aT]:=(cD.push j _ _).iD
  clear_value u
  refine gY.append (zs:=[.s .nil,.s .nil,.i 0]) (d:=[.s a,.s e,.i N.aT]) (K.ext R) (l.trans R) rfl jw (by simp[aa];omega) ?_
  intro v A h7 h8 U ap ae af
  have Z:v≠.nil->h.size<v.D:=by
   intro z;rcases af with⟨_,x⟩|⟨aj,x,_⟩|x
   .exact absurd x z
   .have:=Q aj;omega
   .omega
  have I:∀k,k<u.size->k<=h.size\/k=i.size/\(g=.nil\/g.D<i.size)->A[k]? =u[k]? :=by
   intro k q y;refine ae k q λz=>?_;have:=Q z;rcases y with y|⟨rfl,y|y⟩
   .omega
   .exact absurd y z
   .omega
  have ai:g=.nil\/g.D<i.size:=K.lt
  have W:cD A h.size me [.s d,.s g]:=(s.ext R).congr (I _ V (Or.inl (ad _)))
  refine⟨λk q=>?_,W.fL aL,?_⟩
  .simp at q
   rcases q with rfl|rfl|rfl
   .exact I _ V (Or.inr ⟨rfl,ai⟩)
   .exact I _ V (Or.inl V)
   .exact I _ V (Or.inl V)
  intro B
  have au:B.size=A.size:=by simp[B,av]
  have ag:cD B h.size me [.s d,.s v]:=cD.ah (m:=A) (o:=1) (r:=[.s v]) W
  have X:∀e,e≠h.size->B[e]? =A[e]? :=λe p=>bd _ _ _ _ p
  have ak:J c B:=h8.ah V _ _
  clear_value B
  refine⟨λk q=>?_,?_⟩
  .simp at q
   rcases q with rfl|rfl|rfl<;>exact X _ V
  refine am V _ ⟨ak,V,v,w++[[.s a,.s e,.i N.aT]],ag,?_,?_,Z,by simp[U,aa]⟩
  .rw[qR]
   have P:gY c A qb 3 v (w.flatten++[[.s a,.s e,.i N.aT]].flatten):=by simpa using h7
   rcases P.lt with x|x
   .subst x;exact⟨P.len,Or.inl rfl⟩
   .refine P.congr (X _ λe2=>?_)
    by_cases E:v=.nil
    .subst E
     have:=U
     simp at this
    .have:=Z E;omega
  .rw[aU Y]
   exact L.yV rfl ⟨a,e,rfl,ha,p⟩
 .rw[bX V]at L
  have x:pF i g b.cF:=(eT.gD K L V V).mono (J.az _) (Ov.ext l)
  refine⟨d,s.cp 0,g,s.cp 1,g,s.cp 1,?_⟩
  have u:∀e∈[G.size,c.size],e<i.size:=bF
  refine(Gg (cx.ext l D.bo) x).aH (J.az _) u λe S p k _=>⟨_,rfl,k.da (s.cp 0),k.da (s.cp 1),?_⟩
  intro j
  have z:∀e,e≠G.size->j[e]? =S[e]? :=λe p=>bd _ _ _ _ p
  have F:J c j:=(l.trans k).ah V _ _
  refine⟨d,g,e,rfl,p,λ_=>⟨rfl,?_⟩,F⟩
  have q:=K.ext k
  have v:gY c j qb 3 g w.flatten:=by
   by_cases E:g=.nil
   .subst E;exact⟨q.len,Or.inl rfl⟩
   .exact q.congr (z _ (oh (Q E)))
  exact(eT.gD v L V V).mono (J.az _) (Ov.ext F)
def gN(b:cT)(i:Instr)(a:Int->Prop):Prop:=
 if i.op=0 then -999<=i.bQ/\i.bQ<=999
 else if i.op=6 then 0<=i.bQ/\i.bQ<(eS b.bo).length
 else if i.op=9\/i.op=24 then 0<=i.bQ/\i.bQ<b.cF.length
 else if i.op=10 then 0<=i.bQ/\∃q,b.cF[i.bQ.toNat]? =some q/\q.cR.length=0
 else if i.op=19 then 0<=i.bQ/\i.bQ<3
 else if i.op=20\/i.op=22 then a i.bQ
 else if i.op=21 then 0<(cy b.bo i.bQ).length/\i.eM.length=(cy b.bo i.bQ).length
 else i.bQ=0
def HZ(hd:cx c d b.bo)(x:dS b.bo)(A:pF c f b.cF)(N:ap c a i.args)(E:ap c j i.eM)(t:Nat)(v u:Array Value)(D:GL.elem t=true)(l:Int->Prop)
 (G:∀e,J c e->dt cq t (v.toList++[vi i.bQ]++u.toList) e (l i.bQ)):
 dt cq 150 [.agg #[O.v d,O.v f],.agg #[vi i.op,vi i.dst,vi i.bQ,vi i.bZ,O.v a,O.v j],.func (.func t) v u] c (gN b i l):=by
 apply qI d f i.op i.dst i.bQ i.bZ a j (.func t,v,u)
 simp -zeta only[aD,aC]
 intro y r
 have e:J c r:=((J.az c).aK _).aK _
 have w:∀z∈[y.size,c.size],z<r.size:=by simp[r,y];omega
 have Q:=A.len
 have R:=E.len
 have C:cD r y.size dW [.i i.op,.i i.dst,.i i.bQ,.i i.bZ,.s a,.s j]:=cD.push _ _ _
 clear_value r
 refine⟨λk=>?_,λk=>?_⟩
 .simp only[aI]at k
  rw[show gN b i l<->-999<=i.bQ/\i.bQ<=999 by rw[gN,an k]]
  refine⟨λh=>eU ?_ e,λh=>bV ?_ e⟩<;>simp at h
  .simp;omega
  .omega
 simp only[aj]at k
 refine⟨λm=>?_,λm=>?_⟩
 .simp only[aI]at m
  rw[show gN b i l<->0<=i.bQ/\i.bQ<(eS b.bo).length by rw[gN,ae k,an m]]
  refine⟨λh=>?_,λh=>bV ?_ e⟩<;>simp at h
  .refine(qH (cx.ext e hd) x.len (OE x)).aH (J.az _) w λB g _=>⟨_,rfl,g.da (C.cp 2),eU ?_ (e.trans g)⟩
   simp;omega
  .omega
 simp only[aj]at m
 refine⟨λn=>?_,λn=>?_⟩
 .simp only[bR,aI]at n
  rw[show gN b i l<->0<=i.bQ/\i.bQ<b.cF.length by rw[gN,ae k,ae m,an n]]
  refine⟨λh=>eU ?_ e,λh=>bV ?_ e⟩<;>simp at h
  .simp;omega
  .omega
 simp only[br,aj]at n
 replace n:¬(i.op=9\/i.op=24):=V
 refine⟨λo=>?_,λo=>?_⟩
 .simp only[aI]at o
  rw[show gN b i l<->0<=i.bQ/\∃q,b.cF[i.bQ.toNat]? =some q/\q.cR.length=0 by rw[gN,ae k,ae m,ae n,an o]]
  refine⟨λh=>⟨λp=>?_,λp=>?_⟩,λh=>bV ?_ e⟩<;>simp at h
  .simp at p
   let⟨q,s⟩:=cG b.cF i.bQ.toNat
   let⟨I,H,P,F,K,g1,g2⟩:=(pF.ext e A).aG s
   have:=F.len
   refine⟨V,V,H,g1,eU ?_ e⟩
   simp only[aI]
   refine⟨λL=>⟨h,q,s,V⟩,λ⟨_,S,g,M⟩=>?_⟩
   rw[s]at g;simp at g;subst g;omega
  .simp at p
   exact bV (λ⟨_,q,g,_⟩=>oh (aw g)) e
  .omega
 simp only[aj]at o
 refine⟨λp=>?_,λp=>?_⟩
 .simp only[aI]at p
  rw[show gN b i l<->0<=i.bQ/\i.bQ<3 by rw[gN,ae k,ae m,ae n,ae o,an p]]
  refine⟨λh=>eU ?_ e,λh=>bV ?_ e⟩<;>simp at h
  .simp;omega
  .omega
 simp only[aj]at p
 refine⟨λq=>?_,λq=>?_⟩
 .simp only[bR,aI]at q
  rw[show gN b i l<->l i.bQ by rw[gN,ae k,ae m,ae n,ae o,ae p,an q]]
  exact⟨t,rfl,D,(G r e).aH (J.az _) w λz B s g _=>⟨_,rfl,eU s (e.trans g)⟩⟩
 simp only[br,aj]at q
 replace q:¬(i.op=20\/i.op=22):=V
 refine⟨λs=>?_,λs=>?_⟩
 .simp only[aI]at s
  rw[show gN b i l<->0<(cy b.bo i.bQ).length/\i.eM.length=(cy b.bo i.bQ).length by rw[gN,ae k,ae m,ae n,ae o,ae p,ae q,an s]]
  refine(tx (cx.ext e hd) x _).aH (J.az _) w ?_
  rintro _ B ⟨H,rfl,F,g⟩
  have:=F.len
  refine⟨g,_,rfl,λh=>eU ?_ (e.trans g),λh=>bV ?_ (e.trans g)⟩<;>simp at h
  .simp only[aI];omega
  .omega
 .simp only[aj]at s
  rw[show gN b i l<->i.bQ=0 by rw[gN,ae k,ae m,ae n,ae o,ae p,ae q,ae s]]
  exact eU aL e
def gZ(b:cT)(i:Instr)(c a:Int):Prop:=
 if i.op=0\/i.op=22 then c=0/\a=0
 else if i.op=1\/i.op=2\/i.op=3\/i.op=4\/i.op=11 then c=2/\a=2
 else if i.op=6 then c=(cB b.bo i.bQ).length/\a=(cB b.bo i.bQ).length
 else if i.op=9\/i.op=24 then∃q,b.cF[i.bQ.toNat]? =some q/\c=q.params.length/\a=q.params.length
 else if i.op=10 then∃q,b.cF[i.bQ.toNat]? =some q/\c=(q.params.length:Int) -1/\a=(q.params.length:Int) -1
 else if i.op=16\/i.op=17 then c=1/\a=4
 else c=1/\a=1
def Lk(hd:cx c d b.bo)(A:dS b.bo)(x:pF c f b.cF){H:Int->Prop}(t:gN b i H):
 aN cq 151 [.agg #[O.v d,O.v f],.agg #[vi i.op,vi i.dst,vi i.bQ,vi i.bZ,O.v a,O.v j]] c λK I=>∃B z:Int,K=.tuple #[vi B,vi z]/\gZ b i B z/\J c I:=by
 apply rZ
 simp -zeta only[aD,aC]
 intro C u
 have g:J c u:=((J.az c).aK _).aK _
 have E:∀D∈[C.size,c.size],D<u.size:=by simp[u,C];omega
 have M:=x.len
 clear_value u
 refine⟨λh=>?_,λh=>?_⟩
 .simp only[bR,aI]at h
  exact⟨_,_,rfl,by rw[gZ,an h];exact⟨rfl,rfl⟩,g⟩
 simp only[br,aj]at h
 have l:¬(i.op=0\/i.op=22):=V
 refine⟨λq=>?_,λq=>?_⟩
 .simp only[bR,aI]at q
  exact⟨_,_,rfl,by rw[gZ,ae l,an q];exact⟨rfl,rfl⟩,g⟩
 simp only[br,aj]at q
 have n:¬(i.op=1\/i.op=2\/i.op=3\/i.op=4\/i.op=11):=V
 refine⟨λe=>?_,λe=>?_⟩
 .simp only[aI]at e
  rw[gN,ae h.1,an e]at t
  have m:=rq A b.bo.length
  rw[mU _ _ (ad _)]at m
  refine(HT (cx.ext g hd) A _ V).aH (J.az _) E ?_
  rintro _ p ⟨s,rfl,o,k⟩
  have:=o.len
  exact⟨k,_,rfl,_,_,rfl,by rw[gZ,ae l,ae n,an e];omega,g.trans k⟩
 simp only[aj]at e
 refine⟨λo=>?_,λo=>?_⟩
 .simp only[bR,aI]at o
  rw[gN,ae h.1,ae e,an o]at t
  let⟨v,m⟩:=cG b.cF i.bQ.toNat
  let⟨p,G,s,F,w,g1,g2⟩:=(pF.ext g x).aG m
  have:=s.len
  exact⟨V,V,p,w,_,_,rfl,by rw[gZ,ae l,ae n,ae e,an o];exact⟨v,m,V,V⟩,g⟩
 simp only[br,aj]at o
 have r:¬(i.op=9\/i.op=24):=V
 refine⟨λk=>?_,λk=>?_⟩
 .simp only[aI]at k
  rw[gN,ae h.1,ae e,ae r,an k]at t
  obtain⟨L,v,m,_⟩:=t
  let⟨p,G,s,F,w,g1,g2⟩:=(pF.ext g x).aG m
  have:=s.len
  have:=s.gV
  have:=aw m
  have y:cO ((p.len:Int) -1)=(v.params.length:Int) -1:=by rw[aP V V];omega
  exact⟨V,V,p,w,_,_,rfl,by rw[gZ,ae l,ae n,ae e,ae r,an k];exact⟨v,m,y,y⟩,g⟩
 simp only[aj]at k
 refine⟨λm=>?_,λm=>?_⟩
 .simp only[bR,aI]at m
  exact⟨_,_,rfl,by rw[gZ,ae l,ae n,ae e,ae r,ae k,an m];exact⟨rfl,rfl⟩,g⟩
 .simp only[br,aj]at m
  have p:¬(i.op=16\/i.op=17):=V
  exact⟨_,_,rfl,by rw[gZ,ae l,ae n,ae e,ae r,ae k,ae p];exact⟨rfl,rfl⟩,g⟩
end
section
variable{m:E}{x k:Int}{a b1:Nat}{c:O}
def yl(b:af m a 0=some (vi k))(d:af m b1 4=some (O.v c)):
 dt cq 148 [vi x,vp a 0,vp b1 0] m (k+1<=x/\x<=(c.len:Int) -1):=by
 apply oK (a,0) (b1,0)
 refine⟨k,b,λh=>⟨c,d,eU ?_ (J.az _)⟩,λh=>bV ?_ (J.az _)⟩<;>simp at h
 .simp;omega
 .omega
def JT{b2:Nat}(b:af m a 0=some (vi k))(d:af m b1 4=some (O.v c))
 (e:af m b2 0=some (.func (.func 148) #[] #[vp a 0,vp b1 0])):
 dt cq 149 [vi x,vp b2 0] m (¬(k+1<=x/\x<=(c.len:Int) -1)):=by
 apply oL (b2,0)
 refine⟨(.func 148,#[],#[vp a 0,vp b1 0]),e,_,rfl,rfl,?_⟩
 refine(yl b d).then λh i f g=>⟨_,rfl,eU ?_ g⟩
 rw[<-f];simp
def Ju{u:cT}{p:dy}{k:Nat}{i:Instr}(N:p.ak<=2000)(L:u.cF.length<=4)(F:∀q∈u.cF,q.params.length<=3):
 iS u p k i<->((0<=i.op/\i.op<=24/\i.op≠7/\i.op≠8/\i.op≠12/\i.op≠13)/\(0<=i.dst/\i.dst<p.ak/\(i.dst=0\/lR i.op)/\0<=i.bZ/\i.bZ<=p.ak/\(i.bZ=0\/i.op=6))/\
  (∀n∈i.args,0<=n/\n<p.ak)/\(i.eM.length=0\/i.op=21)/\(∀t∈i.eM,(k:Int)+1<=t/\t<=(p.dp.length:Int) -1)/\
  gN u i (λt=>(k:Int)+1<=t/\t<=(p.dp.length:Int) -1)/\∀j h,gZ u i j h->j<=i.args.length/\(i.args.length:Int)<=h):=by
 have M:(0<=i.dst/\i.dst<p.ak)->0<p.ak:=λw=>V
 constructor
 .intro w
  have b:=w.op
  have hd:=w.dst
  have C:∀n∈i.args,0<=n/\n<p.ak:=λn f=>by have:=w.args n f;omega
  have s:i.op≠21->∀t∈i.eM,(k:Int)+1<=t/\t<=(p.dp.length:Int) -1:=λH t I=>by
   rcases w.eM with o|o
   .exact absurd o H
   .rw[List.length_eq_zero_iff.1 o]at I;cases I
  have D:i.eM.length=0\/i.op=21:=w.eM.symm
  have G:0<=i.dst/\i.dst<p.ak:=V
  have iH:∀(_:0<=i.op/\i.op<=24/\i.op≠7/\i.op≠8/\i.op≠12/\i.op≠13)(_:0<=i.bZ/\i.bZ<=p.ak)(_:∀t∈i.eM,(k:Int)+1<=t/\t<=(p.dp.length:Int) -1)
   (_:gN u i (λt=>(k:Int)+1<=t/\t<=(p.dp.length:Int) -1))(_:∀j h,gZ u i j h->j<=i.args.length/\(i.args.length:Int)<=h),_:=
   λE B F K o=>(⟨E,⟨G.1,G.2,w.Yg,B.1,B.2,w.bZ⟩,C,D,F,K,o⟩:(0<=i.op/\i.op<=24/\i.op≠7/\i.op≠8/\i.op≠12/\i.op≠13)/\(0<=i.dst/\i.dst<p.ak/\(i.dst=0\/lR i.op)/\0<=i.bZ/\i.bZ<=p.ak/\(i.bZ=0\/i.op=6))/\
   (∀n∈i.args,0<=n/\n<p.ak)/\(i.eM.length=0\/i.op=21)/\(∀t∈i.eM,(k:Int)+1<=t/\t<=(p.dp.length:Int) -1)/\
   gN u i (λt=>(k:Int)+1<=t/\t<=(p.dp.length:Int) -1)/\∀j h,gZ u i j h->j<=i.args.length/\(i.args.length:Int)<=h)
  have r:i.op≠6->0<=i.bZ/\i.bZ<=p.ak:=λH=>by rcases w.bZ with o|o<;>omega
  unfold mf at b
  by_cases c:i.op=0
  .rw[an c]at b
   refine iH V (r V) (s V) (by rw[gN,an c];exact b.2) (λj h f=>?_)
   rw[gZ,an (Or.inl c)]at f;omega
  rw[ae c]at b
  by_cases g:i.op=1\/i.op=2\/i.op=3\/i.op=4\/i.op=11
  .rw[an g]at b
   refine iH V (r V) (s V) ?_ (λj h f=>?_)
   .rw[gN,ae c,ae V,ae V,ae V,ae V,ae V,ae V];exact b.2
   .rw[gZ,ae V,an g]at f;omega
  rw[ae g]at b
  by_cases A:i.op=5\/i.op=14\/i.op=15\/i.op=18\/i.op=23
  .rw[an A]at b
   refine iH V (r V) (s V) ?_ (λj h f=>?_)
   .rw[gN,ae c,ae V,ae V,ae V,ae V,ae V,ae V];exact b.2
   .rw[gZ,ae V,ae g,ae V,ae V,ae V,ae V]at f;omega
  rw[ae A]at b
  by_cases a:i.op=6
  .rw[an a]at b
   refine iH V b.2.2 (s V) ?_ (λj h f=>?_)
   .rw[gN,ae c,an a];exact b.1
   .rw[gZ,ae V,ae g,an a]at f;omega
  rw[ae a]at b
  by_cases d:i.op=9\/i.op=24
  .rw[an d]at b
   let⟨q,o,x,v⟩:=b
   have:=aw x
   refine iH V (r V) (s V) ?_ (λj h f=>?_)
   .rw[gN,ae c,ae a,an d];omega
   .rw[gZ,ae V,ae g,ae a,an d]at f
    let⟨J,l,y,m⟩:=f
    rw[x]at l;simp at l;subst l;omega
  rw[ae d]at b
  by_cases e:i.op=10
  .rw[an e]at b
   let⟨⟨q,o,x,v⟩,l⟩:=b
   have:=aw x
   refine iH V (r V) (s V) ?_ (λj h f=>?_)
   .rw[gN,ae c,ae a,ae d,an e];exact⟨o,q,x,l q x⟩
   .rw[gZ,ae V,ae g,ae a,ae d,an e]at f
    let⟨J,l,y,m⟩:=f
    rw[x]at l;simp at l;subst l;omega
  rw[ae e]at b
  by_cases l:i.op=16\/i.op=17
  .rw[an l]at b
   refine iH V (r V) (s V) ?_ (λj h f=>?_)
   .rw[gN,ae c,ae a,ae d,ae e,ae V,ae V,ae V];exact b.2
   .rw[gZ,ae V,ae g,ae a,ae d,ae e,an l]at f;omega
  rw[ae l]at b
  by_cases m:i.op=19
  .rw[an m]at b
   refine iH V (r V) (s V) ?_ (λj h f=>?_)
   .rw[gN,ae c,ae a,ae d,ae e,an m];omega
   .rw[gZ,ae V,ae g,ae a,ae d,ae e,ae l]at f;omega
  rw[ae m]at b
  by_cases z:i.op=20
  .rw[an z]at b
   refine iH V (r V) (s V) ?_ (λj h f=>?_)
   .rw[gN,ae c,ae a,ae d,ae e,ae m,an (Or.inl z)];exact b.2
   .rw[gZ,ae V,ae g,ae a,ae d,ae e,ae l]at f;omega
  rw[ae z]at b
  by_cases v:i.op=22
  .rw[an v]at b
   refine iH V (r V) (s V) ?_ (λj h f=>?_)
   .rw[gN,ae c,ae a,ae d,ae e,ae m,an (Or.inr v)];exact b.2
   .rw[gZ,an (Or.inr v)]at f;omega
  rw[ae v]at b
  by_cases y:i.op=21
  .rw[an y]at b
   refine iH V (r V) b.2.2.2 ?_ (λj h f=>?_)
   .rw[gN,ae c,ae a,ae d,ae e,ae m,ae V,an y]
    have:=b.2.2.1
    exact⟨b.2.1,V⟩
   .rw[gZ,ae V,ae g,ae a,ae d,ae e,ae l]at f;omega
  rw[ae y]at b
  exact b.elim
 .rintro⟨E,B,C,D,s,b,h⟩
  refine⟨λn f=>oh (C n f),V,B.2.2.1,B.2.2.2.2.2,D.symm,?_⟩
  unfold mf
  by_cases c:i.op=0
  .rw[an c]
   rw[gN,an c]at b
   have:=h 0 0 (by rw[gZ,an (Or.inl c)];exact⟨rfl,rfl⟩)
   exact⟨V,b⟩
  rw[ae c]
  by_cases g:i.op=1\/i.op=2\/i.op=3\/i.op=4\/i.op=11
  .rw[an g]
   rw[gN,ae c,ae V,ae V,ae V,ae V,ae V,ae V]at b
   have:=h 2 2 (by rw[gZ,ae V,an g];exact⟨rfl,rfl⟩)
   exact⟨V,b⟩
  rw[ae g]
  by_cases A:i.op=5\/i.op=14\/i.op=15\/i.op=18\/i.op=23
  .rw[an A]
   rw[gN,ae c,ae V,ae V,ae V,ae V,ae V,ae V]at b
   have:=h 1 1 (by rw[gZ,ae V,ae g,ae V,ae V,ae V,ae V];exact⟨rfl,rfl⟩)
   exact⟨V,b⟩
  rw[ae A]
  by_cases a:i.op=6
  .rw[an a]
   rw[gN,ae c,an a]at b
   have:=h _ _ (by rw[gZ,ae V,ae g,an a];exact⟨rfl,rfl⟩)
   exact⟨b,V,V⟩
  rw[ae a]
  by_cases d:i.op=9\/i.op=24
  .rw[an d]
   rw[gN,ae c,ae a,an d]at b
   let⟨q,j⟩:=cG u.cF i.bQ.toNat
   have:=h _ _ (by rw[gZ,ae V,ae g,ae a,an d];exact⟨q,j,rfl,rfl⟩)
   exact⟨q,b.1,j,V⟩
  rw[ae d]
  by_cases e:i.op=10
  .rw[an e]
   rw[gN,ae c,ae a,ae d,an e]at b
   let⟨o,q,j,x⟩:=b
   have:=h _ _ (by rw[gZ,ae V,ae g,ae a,ae d,an e];exact⟨q,j,rfl,rfl⟩)
   refine⟨⟨q,o,j,V⟩,λJ r=>?_⟩
   rw[j]at r;simp at r;subst r;exact x
  rw[ae e]
  by_cases l:i.op=16\/i.op=17
  .rw[an l]
   rw[gN,ae c,ae a,ae d,ae e,ae V,ae V,ae V]at b
   have:=h 1 4 (by rw[gZ,ae V,ae g,ae a,ae d,ae e,an l];exact⟨rfl,rfl⟩)
   exact⟨V,b⟩
  have j:i.op≠22->∀(c:¬i.op=0)(g:¬(i.op=1\/i.op=2\/i.op=3\/i.op=4\/i.op=11))(a:¬i.op=6)(d:¬(i.op=9\/i.op=24))(e:¬i.op=10)(l:¬(i.op=16\/i.op=17)),i.args.length=1:=λo c g a d e l=>by
   have:=h 1 1 (by rw[gZ,ae V,ae g,ae a,ae d,ae e,ae l];exact⟨rfl,rfl⟩);omega
  rw[ae l]
  by_cases m:i.op=19
  .rw[an m]
   rw[gN,ae c,ae a,ae d,ae e,an m]at b
   exact⟨j V c g a d e l,V,V⟩
  rw[ae m]
  by_cases z:i.op=20
  .rw[an z]
   rw[gN,ae c,ae a,ae d,ae e,ae m,an (Or.inl z)]at b
   exact⟨j V c g a d e l,b⟩
  rw[ae z]
  by_cases v:i.op=22
  .rw[an v]
   rw[gN,ae c,ae a,ae d,ae e,ae m,an (Or.inr v)]at b
   have:=h 0 0 (by rw[gZ,an (Or.inr v)];exact⟨rfl,rfl⟩)
   exact⟨V,b⟩
  rw[ae v]
  by_cases y:i.op=21
  .rw[an y]
   rw[gN,ae c,ae a,ae d,ae e,ae m,ae V,an y]at b
   exact⟨j V c g a d e l,b.1,V,s⟩
  rw[ae y]
  omega
end
section
variable{b:E}{d:O}{c:cT}
def Eh{W ah ax Q:O}(hd:cx b d c.bo)(ht:dS c.bo)(hf:pF b W c.cF)(aI:c.cF.length<=4)(h3:∀q∈c.cF,q.params.length<=3)
 {q:dy}(hc:fj b Q q.dp)(hr:q.ak<=2000){l:Nat}{e:Instr}{K P:O}(X:ap b K e.args)(hj:ap b P e.eM):
 dt cq 75 [.agg #[O.v d,O.v W],.agg #[O.v ah,O.v ax,vi q.aT,vi q.ak,O.v Q],vi l,.agg #[vi e.op,vi e.dst,vi e.bQ,vi e.bZ,O.v K,O.v P]] b (iS c q l e):=by
 apply pM
 simp -zeta only[aD,aC]
 intro B A E w
 have s1:B.size=b.size+1:=by simp[B]
 have s2:A.size=b.size+2:=by simp[A,s1]
 have s3:E.size=b.size+3:=by simp[E,s2]
 have s4:w.size=b.size+4:=by simp[w,s3]
 have z:J b w:=((((J.az b).aK _).aK _).aK _).aK _
 have am:cD w A.size aA [.i l]:=(cD.push A _ _).ext (J.push _ _)
 have an:cD w B.size jC [.s ah,.s ax,.i q.aT,.i q.ak,.s Q]:=(cD.push B _ _).ext ((J.push A _).aK _)
 have u:=Ju (u:=c) (p:=q) (k:=l) (i:=e) hr aI h3
 have aE:=hc.len
 have aR:=X.len
 have aS:=hj.len
 clear_value w
 clear_value E
 clear_value A
 clear_value B
 refine⟨λh=>bV (λf=>?_) z,λc0=>⟨λh=>bV (λf=>?_) z,λc1=>⟨λh=>bV (λf=>?_) z,λc2=>⟨λh=>bV (λf=>?_) z,λc3=>⟨λh=>bV (λf=>?_) z,λc4=>⟨λh=>bV (λf=>?_) z,λc5=>?_⟩⟩⟩⟩⟩⟩
 any_goals (have:=(u.1 f).1;simp at h;omega)
 simp at c0 c1 c2 c3 c4 c5
 have f1:0<=e.op/\e.op<=24/\e.op≠7/\e.op≠8/\e.op≠12/\e.op≠13:=V
 refine⟨λx=>J w x/\(0<=e.dst/\e.dst<q.ak/\(e.dst=0\/lR e.op)/\0<=e.bZ/\e.bZ<=q.ak/\(e.bZ=0\/e.op=6)),?_,?_⟩
 .refine⟨λh=>bV (λf=>?_) z,λG=>⟨λh=>bV (λf=>?_) z,λI=>?_⟩⟩
  .have:=(u.1 f).2.1;simp at h;omega
  .have:=(u.1 f).2.1;simp at h;omega
  simp at G I
  have tail:∀x,J w x->(e.dst=0\/lR e.op)->((decide (e.bZ<(0:Int)))=true->∃g:Bool,Value.bool false=.bool g/\(g=true<->iS c q l e)/\J b x)/\((decide (e.bZ<(0:Int)))=false->
   ((decide (e.bZ>q.ak))=true->∃g:Bool,Value.bool false=.bool g/\(g=true<->iS c q l e)/\J b x)/\((decide (e.bZ>q.ak))=false->
   ((e.bZ !=(0:Int))=true->((e.op !=(6:Int))=true->∃g:Bool,Value.bool false=.bool g/\(g=true<->iS c q l e)/\J b x)/\((e.op !=(6:Int))=false->J w x/\(0<=e.dst/\e.dst<q.ak/\(e.dst=0\/lR e.op)/\0<=e.bZ/\e.bZ<=q.ak/\(e.bZ=0\/e.op=6))))/\
   ((e.bZ !=(0:Int))=false->J w x/\(0<=e.dst/\e.dst<q.ak/\(e.dst=0\/lR e.op)/\0<=e.bZ/\e.bZ<=q.ak/\(e.bZ=0\/e.op=6))))):=by
   intro x H N
   have L:=z.trans H
   refine⟨λh=>bV (λf=>?_) L,λC=>⟨λh=>bV (λf=>?_) L,λF=>⟨λt=>⟨λh=>bV (λf=>?_) L,λM=>⟨H,?_⟩⟩,λt=>⟨H,?_⟩⟩⟩⟩
   .have:=(u.1 f).2.1;simp at h;omega
   .have:=(u.1 f).2.1;simp at h;omega
   .have:=(u.1 f).2.1.2.2.2.2.2;simp at h t;omega
   .simp at C F M;exact⟨G,I,N,C,F,Or.inr M⟩
   .simp at C F t;exact⟨G,I,N,C,F,Or.inl t⟩
  refine⟨λh=>?_,λh=>tail w (J.az _) (Or.inl (by simpa using h))⟩
  refine(rC e.op w ⟨V,V⟩).aH (J.az _) bF λv x D H _=>⟨v,rfl,λy=>bV (λf=>?_) (z.trans H),λy=>tail x H (Or.inr (yb D y))⟩
  have:=(u.1 f).2.1.2.2.1
  simp at h
  rcases this with s|s
  .exact h s
  .exact nb D y s
 .rintro x ⟨H,f2⟩
  refine dT (n:=e.args.length) (oh X.gV) (λae R=>J w R/\∀G∈e.args.take ae,0<=G/\G<q.ak) ⟨H,aL⟩ ?_
  rintro ae I aQ μ hn ⟨y,aj⟩ aO
  have aa:=z.trans y
  refine dit (λh=>?_) λh=>?_
  .let⟨G,t⟩:=cG e.args ae
   refine⟨V,V,G,by simpa using(X.ext aa).aG t,λs=>bV (λf=>?_) aa,λs=>⟨λC=>bV (λf=>?_) aa,λC=>aO V _ ⟨y,bB t aj ?_⟩⟩⟩
   .have:=(u.1 f).2.2.1 G (aq t);simp at s;omega
   .have:=(u.1 f).2.2.1 G (aq t);simp at C;omega
   .simp at s C;omega
  .have ay:∀G∈e.args,0<=G/\G<q.ak:=db V aj
   intro m7 F
   have s8:F.size=I.size+1:=by simp[F,m7,av]
   have C:J I F:=((J.az I).aK _).ah (ad _) _ _
   have ac:=aa.trans C
   have al:af F I.size 0=some (.func (.func 148) #[] #[vp A.size 0,vp B.size 0]):=
    (cD.ah (m:=m7) (o:=0) (r:=[.fn (.func 148) #[] #[vp A.size 0,vp B.size 0]]) (cD.push I _ _)).cp 0
   have aT:=y.size
   clear_value F
   have aK:∀N,J F N->∀t,dt cq 148 [vi t,vp A.size 0,vp B.size 0] N ((l:Int)+1<=t/\t<=(q.dp.length:Int) -1):=λN s t=>by
    rw[<-aE];exact yl (am.ext (y.trans (C.trans s))|>.cp 0) (an.ext (y.trans (C.trans s))|>.cp 4)
   have jQ:(e.eM.length=0\/e.op=21)->aN cq 78 [O.v P,.func (.func 149) #[] #[vp I.size 0]] F λaP U=>
    eF [E.size,b.size] F U/\∃ag:Bool,aP=vb ag/\(ag=true->∃g:Bool,Value.bool false=.bool g/\(g=true<->iS c q l e)/\J b U)/\
    (ag=false->∃L:Fn×Array Value×Array Value,af U I.size 0=some (.func L.1 L.2.1 L.2.2)/\
    aN cq 150 [.agg #[O.v d,O.v W],.agg #[vi e.op,vi e.dst,vi e.bQ,vi e.bZ,O.v K,O.v P],.func L.1 L.2.1 L.2.2] U λab M=>
    eF [E.size,b.size] U M/\∃T:Bool,ab=vb T/\((!T)=true->∃g:Bool,Value.bool false=.bool g/\(g=true<->iS c q l e)/\J b M)/\
    ((!T)=false->aN cq 151 [.agg #[O.v d,O.v W],.agg #[vi e.op,vi e.dst,vi e.bQ,vi e.bZ,O.v K,O.v P]] M λai S=>
    eF [E.size,b.size] M S/\∃Y:Int,∃Z:Int,ai=.tuple #[vi Y,vi Z]/\
    ((decide ((K.len:Int)>=Y))=true->∃g:Bool,Value.bool (decide ((K.len:Int)<=Z))=.bool g/\(g=true<->iS c q l e)/\J b S)/\
    ((decide ((K.len:Int)>=Y))=false->∃g:Bool,Value.bool false=.bool g/\(g=true<->iS c q l e)/\J b S))):=by
    intro aF
    have hl:∀v∈[E.size,b.size],v<F.size:=bF
    refine(iY (hj.ext ac) 149 #[] #[vp I.size 0] bn (λt=>¬((l:Int)+1<=t/\t<=(Q.len:Int) -1)) (λt _ N s=>JT (am.ext (y.trans (C.trans s))|>.cp 0) (an.ext (y.trans (C.trans s))|>.cp 4) (s.af al))).aH (J.az _) hl ?_
    intro v N D s _
    have M:=ac.trans s
    refine⟨v,rfl,λaB=>bV (λf=>?_) M,λaz=>?_⟩
    .let⟨t,ab,g⟩:=D.1 aB
     have:=(u.1 f).2.2.2.2.1 t ab
     exact g V
    have aG:∀t∈e.eM,(l:Int)+1<=t/\t<=(q.dp.length:Int) -1:=λt ab=>by
     rcases eg ((l:Int)+1<=t/\t<=(Q.len:Int) -1)with h|h
     .omega
     .exact absurd (D.2 ⟨t,ab,h⟩) (by simp[az])
    refine⟨(.func 148,#[],#[vp A.size 0,vp B.size 0]),s.af al,?_⟩
    have ao:∀v∈[E.size,b.size],v<N.size:=λv D=>s.lt (hl v D)
    refine(HZ (cx.ext M hd) ht (pF.ext M hf) (X.ext M) (hj.ext M) 148 #[] #[vp A.size 0,vp B.size 0] bn (λt=>(l:Int)+1<=t/\t<=(q.dp.length:Int) -1) (λR g=>by simpa using aK R (s.trans g) e.bQ)).aH (J.az _) ao ?_
    intro b2 aM ak L _
    have Z:=M.trans L
    refine⟨b2,rfl,λh=>bV (λf=>nb ak h (u.1 f).2.2.2.2.2.1) Z,λh=>?_⟩
    have au:=yb ak h
    have aH:∀v∈[E.size,b.size],v<aM.size:=λv D=>L.lt (ao v D)
    refine(Lk (cx.ext Z hd) ht (pF.ext Z hf) (a:=K) (j:=P) au).aH (J.az _) aH ?_
    rintro _ aU ⟨lo,Y,rfl,R,ai⟩
    have aw:=Z.trans ai
    have aJ:∀T S,gZ c e T S->T=lo/\S=Y:=λT S g=>by
     unfold gZ at R g;repeat' (split at R)
     all_goals simp_all
     all_goals (obtain⟨q1,e1,e2,e3⟩:=R;simp_all)
    refine⟨ai,lo,Y,rfl,λh=>eU ?_ aw,λh=>bV (λf=>?_) aw⟩
    .rw[u]
     simp only[ar]at h⊢
     refine⟨λg=>⟨f1,f2,ay,aF,aG,au,λT S h2=>?_⟩,λg=>?_⟩
     .obtain⟨rfl,rfl⟩:=aJ T S h2;omega
     .have:=g.2.2.2.2.2.2 lo Y R;omega
    .have:=(u.1 f).2.2.2.2.2.2 lo Y R
     simp at h;omega
   refine⟨λs=>⟨λL=>bV (λf=>?_) ac,λL=>jQ (Or.inr (by simpa using L))⟩,λs=>jQ (Or.inl (by simp at s;omega))⟩
   have:=(u.1 f).2.2.2.1
   simp at s L;omega
def Eb{ah:O}(v:fg b d ah c):dt cq 43 [.agg #[O.v d,O.v ah]] b (ns c):=by
 apply yH;simp -zeta only[aD,aC];intro F;have ac:J b F:=(J.az b).aK _;have s1:F.size=b.size+1:=by simp[F]
 clear_value F;refine(Gd (v.ext ac)).aH (J.az _) bF ?_;rintro _ M ⟨d',aj,ai,rfl,Y,an,H⟩;refine⟨H,d',aj,ai,rfl,?_⟩;intro m3 t;have s4:t.size=M.size+1:=by simp[t,m3,av]
 have W:J M t:=((J.az M).aK _).ah (ad _) _ _;have af:J b t:=(ac.trans H).trans W;have:=H.size;have aI:=v.cF.len;have aJ:=v.cF.gV;clear_value t;refine⟨λhn=>bV (λf=>nb Y hn ⟨f.nT,λq x=>(f.dz q x).cR⟩) af,λhy=>?_⟩;let⟨D,am⟩:=yb Y hy;obtain⟨rfl,hf⟩:=an (by simpa using hy);refine dT (n:=c.cF.length) V (λQ z=>J t z/\∀q∈c.cF.take Q,HI c q) ⟨J.az _,aL⟩ ?_;rintro Q N ay μ hn ⟨A,X⟩ ax
 have K:=af.trans A;refine dit (λaG=>?_) λaE=>?_
 .let⟨q,x⟩:=cG c.cF Q;let⟨R,ag,S,ha,hl,w,g0,g1,g2,g3,g4⟩:=(v.ext K).cF.aG x;refine⟨V,V,R,by simpa using g0,ag,by simpa using g1,_,by simpa using g2,_,by simpa using g3,S,by simpa using g4,?_⟩;intro m6 u;have s7:u.size=N.size+1:=by simp[u,m6,av]
  have r:J N u:=((J.az N).aK _).ah (ad _) _ _;have s:=K.trans r;have az:=ha.len;have aA:=w.len;have aB:=w.gV;have o:=aq x;clear_value u;refine⟨λe=>bV (λf=>?_) s,λT=>⟨λe=>bV (λf=>?_) s,λe2=>⟨λe=>bV (λf=>?_) s,λe3=>⟨λe=>bV (λf=>?_) s,λe4=>?_⟩⟩⟩⟩
  .have:=(f.dz q o).ak;simp at e;split at e<;>omega
  .have:=(f.dz q o).ak;simp at e;omega
  .have:=(f.dz q o).len;simp at e;omega
  .have:=(f.dz q o).len;simp at e;omega
  have ab:(q.params.length:Int)<=q.ak/\1<=q.ak/\q.ak<=2000:=by
   simp at T e2;split at T<;>omega
  have al:1<=q.dp.length/\q.dp.length<=2000:=by simp at e3 e4;omega
  let⟨E,I⟩:=cG q.dp (q.dp.length -1);obtain⟨a0,j0,_,_,L,_⟩:=(fj.ext r w).aG I;refine⟨λz=>J u z/\(E.op=23\/E.op=24),?_,?_⟩
  .have e:cO ((S.len:Int) -1)=((q.dp.length -1:Nat):Int):=by rw[aP V V];omega
   rw[e];refine⟨V,V,E.op,by simpa using L,λg=>⟨λh=>bV (λf=>?_) s,λh=>⟨J.az _,Or.inr (by simpa using h)⟩⟩,λg=>⟨J.az _,Or.inl (by simpa using g)⟩⟩;have:=(f.dz q o).MW E I;simp at g h;omega
  .rintro m8 ⟨h8,ak⟩;refine dT (n:=q.dp.length) V (λy z=>J u z/\∀(j:Nat)(h:Instr),j<y->q.dp[j]? =some h->iS c q j h) ⟨h8,λj h C=>V⟩ ?_;rintro y P I2 μ2 hk ⟨m,aa⟩ au;refine dit (λaH=>?_) λaF=>?_
   .let⟨h,g⟩:=cG q.dp y;let⟨xa,xj,ao,ap,L,k1,k2,k3,k4,k5⟩:=(fj.ext (r.trans m) w).aG g;refine⟨V,V,_,by simpa using L,_,by simpa using k1,_,by simpa using k2,_,by simpa using k3,xa,by simpa using k4,xj,by simpa using k5,?_⟩;intro ar G;have aM:G.size=P.size+1:=by simp[G,ar,av]
    have p:J P G:=((J.az P).aK _).ah (ad _) _ _;have ae:=(s.trans m).trans p;have q1:=m.size;have q2:=A.size;clear_value G;refine(Eh (ah:=R) (ax:=ag) (cx.ext ae v.bo) D.types (pF.ext (W.trans (A.trans (r.trans (m.trans p)))) hf) D.len.2 (λU B=>(D.dz U B).1) (fj.ext (r.trans (m.trans p)) w) ab.2.2 (l:=y) (e:=h) (ao.ext p) (ap.ext p)).aH (J.az _) bF ?_;intro b' aK Z U _;refine⟨b',rfl,λe=>bV (λf=>nb Z e ((f.dz q o).dz y h g)) (ae.trans U),λe=>au V _ ⟨m.trans (p.trans U),λj i' C B=>?_⟩⟩;rcases Nat.lt_succ_iff_lt_or_eq.1 C with C|rfl
    .exact aa j i' C B
    .rw[g]at B;simp at B;subst B;exact yb Z e
   .refine ax V _ ⟨A.trans (r.trans m),bB x X ⟨am q o,ab,al,λj h g=>aa j h (oh (aw g)) g,λh g=>?_⟩⟩
    rw[I]at g;simp at g;subst g;exact ak
 .exact iR ⟨D,db V X⟩ K
end
section
variable{m:E}{s:O}{k:Nat}{γ σ:Type}
def Pw(m:E)(a:List Ce)(c:bN):Prop:=∃f,a=[.i c.aQ,.i c.kj,.s f]/\ap m f c.aF
def KB(m:E)(a:List Ce)(f:aY):Prop:=∃r o h,a=[.i f.fG,.i f.pc,.i f.dst,.s r,.s o,.s h]/\ap m r f.ak/\ap m o f.aR/\ap m h f.ba
abbrev cW(m:E)(s:O)(l:List bN):Prop:=eT m 3 (Pw m) s l
abbrev jA(m:E)(s:O)(l:List aY):Prop:=eT m 6 (KB m) s l
def Pw.ext{m b:E}(g:J m b)(a:List Ce)(c:bN):Pw m a c->Pw b a c:=λ⟨f,d,e⟩=>⟨f,d,e.ext g⟩
def cW.ext{m b:E}(a:J m b){s:O}{l:List bN}(h:cW m s l):cW b s l:=h.mono a (Pw.ext a)
def KB.ext{m d:E}(a:J m d)(b:List Ce)(c:aY):KB m b c->KB d b c:=λ⟨r,o,h,e,f,g,i⟩=>⟨r,o,h,e,f.ext a,g.ext a,i.ext a⟩
def jA.ext{m b:E}(a:J m b){s:O}{l:List aY}(h:jA m s l):jA b s l:=h.mono a (KB.ext a)
def cW.aG{l:List bN}(h:cW m s l){x:bN}(c:l[k]? =some x):
 ∃f,ap m f x.aF/\af m s.D (s.off+k*3)=some (vi x.aQ)/\af m s.D (s.off+k*3+1)=some (vi x.kj)/\af m s.D (s.off+k*3+2)=some (O.v f):=by
 obtain⟨d,⟨f,rfl,b⟩,a⟩:=h.iD k x c
 exact⟨f,b,a 0 (.i x.aQ) rfl,a 1 (.i x.kj) rfl,a 2 (.s f) rfl⟩
def jA.aG{l:List aY}(h:jA m s l){x:aY}(b:l[k]? =some x):
 ∃r o e,ap m r x.ak/\ap m o x.aR/\ap m e x.ba/\af m s.D (s.off+k*6)=some (vi x.fG)/\af m s.D (s.off+k*6+1)=some (vi x.pc)/\af m s.D (s.off+k*6+2)=some (vi x.dst)/\
  af m s.D (s.off+k*6+3)=some (O.v r)/\af m s.D (s.off+k*6+4)=some (O.v o)/\af m s.D (s.off+k*6+5)=some (O.v e):=by
 obtain⟨f,⟨r,o,e,rfl,d,c,a⟩,jw⟩:=h.iD k x b
 exact⟨r,o,e,d,c,a,jw 0 (.i x.fG) rfl,jw 1 (.i x.pc) rfl,jw 2 (.i x.dst) rfl,jw 3 (.s r) rfl,jw 4 (.s o) rfl,jw 5 (.s e) rfl⟩
def _root_.Go.Vc.eT.pH{l:List Int}(h:eT m 1 UJ s l){i:Int}(a:0<=i)(b:i<l.length):af m s.D (s.off+i.toNat*1)=some (vi (aG l i)):=ap.aG h (oH a b)
structure RV(m:E)(mb o:Nat)(d p aS hp fr:O)(im:cT)(s:St):Prop where
 fy:fg m d p im
 bo:af m mb 0=some (O.v d)
 cF:af m mb 1=some (O.v p)
 cE:af m mb o=some (vi s.cE)
 value:af m mb (o+1)=some (vi s.value)
 bu:af m mb (o+2)=some (vi s.bu)
 dU:af m mb (o+3)=some (vi s.dU)
 aab:af m mb (o+4)=some (O.v aS)
 ru:af m mb (o+5)=some (O.v hp)
 OM:af m mb (o+6)=some (O.v fr)
 aS:ap m aS s.aS
 heap:cW m hp s.heap
 ao:jA m fr s.ao
def RV.ext{m f:E}{g o:Nat}{d p aS c b:O}{e:cT}{s:St}(h:RV m g o d p aS c b e s)(a:J m f):RV f g o d p aS c b e s:=
 ⟨h.fy.ext a,a.af h.bo,a.af h.cF,a.af h.cE,a.af h.value,a.af h.bu,a.af h.dU,a.af h.aab,a.af h.ru,a.af h.OM,h.aS.ext a,cW.ext a h.heap,jA.ext a h.ao⟩
def Xg(P:Nat->Prop):∀(n:Nat),P n->∃k,P k/\∀j,P j->k<=j:=by
 intro n;induction n using Nat.strongRecOn with
 |_ n e=>
  intro b;rcases eg (∃j,j<n/\P j)with⟨j,a,d⟩|c
  .exact e j a d
  .exact⟨n,b,λj a=>dQ λh=>c ⟨j,V,a⟩⟩
def Pm{p:σ}{j:(σ->E->Prop)->(σ->E->Nat)->σ->E->Prop}(J:γ->σ->E->Prop)(ν:γ->Nat)(l:γ)(r:J l p m)
 (q:∀(g:γ)(s:σ)(a:E)(I:σ->E->Prop)(μ:σ->E->Nat),J g s a->(∀b d c,J b d c->ν b<ν g->I d c/\μ d c<μ s a)->j I μ s a):
 ∃(I:σ->E->Prop)(μ:σ->E->Nat),I p m/\∀s a,I s a->j I μ s a:=by
 classical
 let I:σ->E->Prop:=λs m=>∃g,J g s m
 have h:∀s m,I s m->∃k,(∃g,J g s m/\ν g=k)/\∀o,(∃g,J g s m/\ν g=o)->k<=o:=λs m⟨g,i⟩=>Xg _ (ν g) ⟨g,i,rfl⟩
 let μ:σ->E->Nat:=λs m=>if e:I s m then Classical.choose (h s m e)else 0
 refine⟨I,μ,⟨l,r⟩,λs a e=>?_⟩
 let⟨g,i,u⟩:=(fN (h s a e)).1
 refine q g s a I μ i λb d c f t=>⟨⟨b,f⟩,?_⟩
 have n:I d c:=⟨b,f⟩
 simp only[μ,S0 e,S0 n]
 exact nH ((fN (h d c n)).2 _ ⟨b,f,rfl⟩) (u▸t)
def Sg{τ:Type}{i:σ}{j:τ}{h:(σ->τ->E->Prop)->(σ->τ->E->Nat)->σ->τ->E->Prop}(J:γ->σ->τ->E->Prop)(ν:γ->Nat)(k:γ)(n:J k i j m)
 (l:∀(g:γ)(s:σ)(t:τ)(a:E)(I:σ->τ->E->Prop)(μ:σ->τ->E->Nat),J g s t a->(∀f d e c,J f d e c->ν f<ν g->I d e c/\μ d e c<μ s t a)->h I μ s t a):
 ∃(I:σ->τ->E->Prop)(μ:σ->τ->E->Nat),I i j m/\∀s t a,I s t a->h I μ s t a:=by
 let⟨I,μ,o,p⟩:=Pm (σ:=σ×τ) (p:=(i,j)) (j:=λI μ b a=>h (λs t=>I (s,t)) (λs t=>μ (s,t)) b.1 b.2 a) (λg b m=>J g b.1 b.2 m) ν k n (λg b a I μ q r=>l g b.1 b.2 a (λs t=>I (s,t)) (λs t=>μ (s,t)) q λf d e c=>r f (d,e) c)
 exact⟨λs t=>I (s,t),λs t=>μ (s,t),o,λs t=>p (s,t)⟩
end
section
variable{m g:E}{s d p a j t o e:O}{b r:List Int}{f:Nat}{K:Value->E->Prop}{c:cT}{x:Instr}
def _root_.Go.Vc.eT.Im(h:eT m 1 UJ s b):fR m s.D s.off (b.map Ce.i):=λi d a=>by
 rw[cJ]at a;obtain⟨x,c,rfl⟩:=Option.map_eq_some_iff.1 a;have:=ap.aG h c;rw[eR]at this;exact this
def oF(f:Nat)(c:List Value)(m:E)(b:List Int):Prop:=aN cq f c m λv a=>∃s,v=O.v s/\gY m a aA 1 s (b.map Ce.i)/\J m a
def oF.then{c:List Value}(h:oF f c m b)(i:b.length<=1000000000)(e:∀s a,gY m a aA 1 s (b.map Ce.i)->ap a s b->J m a->K (O.v s) a):aN cq f c m K:=
 h.mono λ_ _⟨s,d,a,g⟩=>d▸e s _ a (ap.gD a V) g
def oF.aH{c:List Value}{d:List Nat}(h:oF f c m b)(l:b.length<=1000000000)(i:∀a∈d,a<m.size)(k:∀s a,gY m a aA 1 s (b.map Ce.i)->ap a s b->J m a->K (O.v s) a):aN cq f c m λv a=>eF d m a/\K v a:=
 h.mono λ_ _⟨s,j,e,g⟩=>⟨g.dq i,j▸k s _ e (ap.gD e V) g⟩
def dV(w:Int)(m:E):dt cq 119 [vi w] m (1000<=w):=by
 apply Bd;exact eU aL (J.az _)
def jb{a:O}{h:List bN}(j:cW m a h){w:Int}(C: -9223372036854775808<=w/\w<=9223372036854775807):dt cq 130 [O.v a,vi w] m (gA h w):=by
 apply GW;have z:=j.len;have A:=j.gV;have o:cO ((a.len:Int) -1)=(a.len:Int) -1:=aP V V;rw[o];have x:cO (w -1000)=w -1000\/(w<1000/\¬(0<=cO (w -1000)/\cO (w -1000)<=(a.len:Int) -1))\/(w<1000/\cO (w -1000)=w -1000+18446744073709551616):=by
  rcases eg (-9223372036854775808<=w -1000)with b|b
  .exact Or.inl (aP b V)
  .refine Or.inr (Or.inr ⟨V,?_⟩);simp only[cO,IntKind.wrap,IntKind.signed,IntKind.bits];simp;omega
 refine(aX _ _ _ _).then λn D i b=>⟨n,rfl,λu=>?_,λt=>?_⟩
 .refine(dV _ _).then λb2 E l g=>⟨b2,rfl,λs=>?_,λr=>bV (λc=>fb l r c.1) (b.trans g)⟩;have k:=l.1 s;have p:cO (w -1000)=w -1000:=aP V V;rw[p]at i⊢;have B:=i.1 u;let⟨e,c⟩:=cG h ((w -1000).toNat);obtain⟨f,y,q,_⟩:=(cW.ext (b.trans g) j).aG c;refine⟨V,V,e.aQ,q,eU ?_ (b.trans g)⟩;simp only[kH,ar];refine⟨λa=>⟨k,e,c,a⟩,λ⟨_,v,d,a⟩=>?_⟩;unfold ix at d;rw[c]at d;simp at d;subst d;exact a
 .refine bV (λ⟨k,e,c,_⟩=>fb i t ?_) b;have:=aw c;unfold ix at this;rw[aP V V];omega
def Mg(a:Int)(m:E):dt cq 68 [vi a] m (mX a):=by
 apply GU;refine⟨λh=>iR ?_ (J.az _),λh=>⟨λb=>iR ?_ (J.az _),λb=>eU ?_ (J.az _)⟩⟩<;>simp[mX]at* <;>omega
def Lq{q:dy}(a:c.cF[x.bQ.toNat]? =some q)(k:Nat):nC c x k=true<->(k:Int)∈q.cR:=by
 simp[nC,dO,a,List.any_eq_true]
def zH(c:cT)(x:Instr):Prop:=(x.op=9\/x.op=24)->0<=x.bQ/\∃q,c.cF[x.bQ.toNat]? =some q
def iS.call{p:dy}{k:Nat}(h:iS c p k x):zH c x:=λe=>by
 have a:=h.op;unfold mf at a;rw[ae V,ae V,ae V,ae V,an e]at a;obtain⟨q,b,d,_⟩:=a;exact⟨b,q,d⟩
def se(h:fg m d p c)(z:zH c x)(a j:O)(k:Nat):
 dt cq 122 [.agg #[O.v d,O.v p],.agg #[vi x.op,vi x.dst,vi x.bQ,vi x.bZ,O.v a,O.v j],vi k] m ((x.op=9\/x.op=24)/\nC c x k=true):=by
 apply ER
 simp -zeta only[aD,aC]
 intro o b
 have n:J m b:=((J.az m).aK _).aK _
 have A:∀f∈[o.size,m.size],f<b.size:=by simp[b,o];omega
 have L:=h.cF.len
 clear_value b
 have q:∀e:x.op=9\/x.op=24,(0:Int)<=x.bQ/\x.bQ<(p.len:Int)/\∃u:O,af b p.D (p.off+Int.toNat x.bQ*5+1)=some (O.v u)/\
  aN cq 133 [O.v u,vi k] b λr s=>eF [o.size,m.size] b s/\∃t:Bool,r=vb t/\∃f:Bool,vb t=.bool f/\(f=true<->((x.op=9\/x.op=24)/\nC c x k=true))/\J m s:=λe=>by
  let⟨v,N,l⟩:=z e
  let⟨D,C,E,I,B,K,F,g1,g2,G,H⟩:=(h.ext n).cF.aG l
  have:=aw l
  refine⟨v,V,C,g1,(dv B _).aH (J.az _) A λf M y w _=>⟨f,rfl,eU ?_ (n.trans w)⟩⟩
  rw[y,Lq l]
  exact⟨λh=>⟨e,h⟩,λh=>h.2⟩
 refine⟨λi=>q (Or.inl (by simpa using i)),λi=>⟨λg=>q (Or.inr (by simpa using g)),λg=>bV (λ⟨e,_⟩=>?_) n⟩⟩
 simp at i g;omega
def Iy(a:Int)(m:E):dt cq 121 [vi a] m (a=6\/a=9\/a=10\/a=11):=by
 apply sD;refine⟨λh=>iR ?_ (J.az _),λh=>⟨λb=>iR ?_ (J.az _),λb=>⟨λc=>iR ?_ (J.az _),λc=>eU ?_ (J.az _)⟩⟩⟩<;>simp at* <;>omega
def ju(c:cT)(x:Instr)(n:Nat):List Int:=iG c x 0 (x.args.take n)
def vE(c:cT)(x:Instr):∀(b r:List Int)(k:Nat),iG c x k (b++r)=iG c x k b++iG c x (k+b.length) r
 |[],r,k=>by simp[iG]
 |a::b,r,k=>by
  have:=vE c x b r (k+1);simp only[cZ,iG,this,aZ];have e:k+(b.length+1)=k+1+b.length:=V;rw[e];split<;>simp
def tZ(c:cT)(x:Instr):∀(b:List Int)(k:Nat),(iG c x k b).length<=b.length
 |[],k=>ad _
 |a::b,k=>by
  have:=tZ c x b (k+1);simp only[iG];split<;>simp<;>omega
def Jg(c:cT)(x:Instr):(bU c x).length<=x.args.length:=by
 unfold bU;split
 .exact ad _
 split
 .simp;omega
 split
 .exact tZ _ _ _ _
 .simp
def J.tG{a c:E}(f:J g a)(h:J g c){b:List Nat}(d:∀x∈b,x<g.size):eF b a c:=λx e=>by rw[f.same x (d x e),h.same x (d x e)]
def nQ{v:Int}{K:O->E->Prop}(c:gY g m aA 1 s (b.map Ce.i))(h:J g m)(n:b.length<1000000000)
 (f:∀r a,gY g a aA 1 r ((b++[v]).map Ce.i)->J g a->K r a):
 jO (m.push (.cells (bt [.i v]) aA)) aA [.i (0:Int)] 8 s (O.mk m.size 0 1 1) K:=by
 have o:s.len=b.length:=by have:=c.len;simp at this;omega
 refine gY.append (zs:=[.i 0]) (d:=[.i v]) (c.ext (J.push _ _)) (h.aK _) rfl (cD.push m _ _).iD bF λr a d e i j k l=>?_
 exact f r a (by simpa using d) e
def Kp(aa:fg m d p c)(hc:zH c x)(I:ap m a x.args)(ak:x.args.length<=1000000)(ab:(x.op=16\/x.op=17)->1<=x.args.length):
 oF 70 [.agg #[O.v d,O.v p],.agg #[vi x.op,vi x.dst,vi x.bQ,vi x.bZ,O.v a,O.v j]] m (bU c x):=by
 apply Fe
 simp -zeta only[aD,aC]
 intro C f Q
 have B:J m f:=((J.az m).aK _).aK _
 have s2:f.size=m.size+2:=by simp[f,C]
 have h3:J f Q:=(J.az f).aK _
 have u:gY f Q aA 1 (.mk f.size 0 0 0) []:=gY.new (J.az f) aA 1 [] 0 aL
 have s1:C.size=m.size+1:=by simp[C]
 have ah:=I.len
 have w:∀v∈[C.size,m.size],v<f.size:=λv t=>by simp at t;omega
 clear_value Q
 clear_value f
 have K:∀{o s b},gY f o aA 1 s b->gY m o aA 1 s b:=λu=>u.cv B.size
 refine⟨λZ o=>J f o/\gY f o aA 1 (.mk f.size 0 0 0) []/\(Z=true<->(x.op=15\/x.op=6\/x.op=10\/x.op=11\/x.op=18\/x.op=23\/x.op=9\/x.op=24)),?_,?_⟩
 .refine(Iy _ _).aH h3 w λv D t g i=>⟨v,rfl,λM=>⟨i,u.ext g,by have:=t.1 M;simp;omega⟩,λL=>?_⟩
  have h:=fb t L
  refine⟨λe=>⟨i,u.ext g,by simp at e;simp;omega⟩,λH=>⟨λe=>⟨i,u.ext g,by simp at e;simp;omega⟩,λq=>⟨λe=>⟨i,u.ext g,by simp at e;simp;omega⟩,λA=>⟨i,u.ext g,by simp at H q A;simp;omega⟩⟩⟩⟩
 .rintro Z D ⟨g,N,W⟩
  refine⟨λad=>?_,λac=>?_⟩
  .have hT:=W.1 ad
   refine ez (n:=x.args.length) V (λk s o=>J f o/\gY f o aA 1 s ((if x.op=9\/x.op=24 then ju c x k else x.args.take k).map Ce.i)) ⟨g,by simpa[ju,iG]using N⟩ ?_
   rintro k s m5 ag μ hk ⟨R,P⟩ Y
   have X:=B.trans R
   refine dit (λaj=>?_) λai=>?_
   .let⟨y,h⟩:=cG x.args k
    have U:ju c x (k+1)=ju c x k++iG c x k [y]:=by
     unfold ju;rw[aU h,vE];simp;congr 2;omega
    refine(se (aa.ext X) hc a j k).aH R w λv m6 t S F=>⟨v,rfl,λM=>?_,λL=>?_⟩
    .have G:=nb t M
     refine⟨V,V,y,by simpa using(I.ext (B.trans F)).aG h,?_⟩
     intro m7
     have T:(if x.op=9\/x.op=24 then ju c x k else x.args.take k).length<=k:=by
      split
      .refine bI (tZ _ _ _ _) ?_;simp;omega
      .simp;omega
     refine nQ (P.ext S) F V λr m8 z E=>?_
     refine⟨J.tG (F.aK _) E w,Y V _ _ ⟨E,?_⟩⟩
     by_cases e:x.op=9\/x.op=24
     .rw[an e]at z⊢
      rw[U]
      have:iG c x k [y]=[y]:=by
       simp only[iG];rw[ae (λw=>G ⟨e,w⟩)]
      rw[this];exact z
     .rw[ae e]at z⊢
      rw[aU h];exact z
    .have G:=yb t L
     refine Y V _ _ ⟨F,?_⟩
     have T:=P.ext S
     rw[an G.1]at T⊢
     rw[U]
     have:iG c x k [y]=[]:=by
      simp only[iG];rw[an G.2]
     rw[this,dX];exact T
   .refine⟨s,rfl,?_,X⟩
    have q:bU c x=if x.op=9\/x.op=24 then ju c x k else x.args.take k:=by
     have A:x.args.take k=x.args:=bX V;unfold bU ju;rw[A];by_cases e:x.op=9\/x.op=24
     .rw[ae V,ae V,an e,an e]
     .rw[an V,ae e]
    rw[q];exact K P
  .have hT:¬(x.op=15\/x.op=6\/x.op=10\/x.op=11\/x.op=18\/x.op=23\/x.op=9\/x.op=24):=λe=>by have:=W.2 e;rw[ac]at this;simp at this
   have i:=B.trans g
   have lM:∀e:x.op=16\/x.op=17,(0:Int)<=(0:Int)/\(0:Int)<(a.len:Int)/\∃F:Int,af D a.D (a.off+Int.toNat (0:Int)*1)=some (vi F)/\
    jO (D.push (.cells (bt [.i F]) 3)) 3 [.i (0:Int)] 8 (O.mk f.size 0 0 0) (O.mk D.size 0 1 1) λL k=>eF [C.size,m.size] (D.push (.cells (bt [.i F]) 3)) k/\∃s,O.v L=O.v s/\gY m k aA 1 s ((bU c x).map Ce.i)/\J m k:=λe=>by
    have M:=ab e
    let⟨y,h⟩:=cG x.args 0
    refine⟨V,V,y,by simpa using(I.ext i).aG h,nQ (b:=[]) N g aL λr m8 z E=>⟨J.tG (g.aK _) E w,r,rfl,?_,B.trans E⟩⟩
    have q:bU c x=[y]:=by
     unfold bU;rw[ae V,an e];cases G:x.args with
     |nil=>rw[G]at h;simp at h
     |cons P b=>rw[G]at h;simp at h;subst h;rfl
    rw[q];exact K z
   refine⟨λe=>lM (Or.inl (by simpa using e)),λH=>⟨λe=>lM (Or.inr (by simpa using e)),λq=>⟨_,rfl,?_,i⟩⟩⟩
   have A:bU c x=[]:=by
    simp at H q;unfold bU;rw[ae V,ae V,ae V]
   rw[A];exact K N
def gU(c:ap m s b)(l:b.length<=1000000000):oF 66 [O.v s] m b:=by
 apply nE;intro d;have a:J m d:=(J.az m).aK _;have g:gY m d aA 1 (.mk m.size 0 0 0) []:=gY.new (J.az m) aA 1 [] 0 aL;have f:=c.len;refine gY.append (zs:=[.i 0]) (d:=b.map Ce.i) g a (by simp[f]) (c.ext a).Im bF λr n a e h i j k=>⟨r,rfl,by simpa using a,e⟩
def Mc(h:ap m s b)(c:ap m t r)(p:b.length+r.length<=1000000000):oF 187 [O.v s,O.v t] m (b++r):=by
 apply uS;refine(gU h V).then V λq w d e a=>⟨q,rfl,?_⟩;have i:=c.len;have o:=e.len;refine gY.append (zs:=[.i 0]) (d:=r.map Ce.i) d a (by simp[i]) (c.ext a).Im V λu v f g j k l n=>⟨u,rfl,by simpa using f,g⟩
def mj(d:ap m s b):dt cq 128 [O.v s] m (Sp b):=by
 apply Ez;have g:=d.len;refine dT (n:=b.length) (g▸d.gV) (λk a=>J m a/\∀y∈b.take k,y=0) ⟨J.az _,aL⟩ ?_;rintro k o I μ l ⟨a,f⟩ j
 refine⟨λh=>?_,λh=>iR (db (by simp at h;omega) f) a⟩;simp only[ar]at h;let⟨x,e⟩:=cG b k;refine⟨V,V,x,by simpa using a.af (d.aG e),λc=>bV (λi=>?_) a,λc=>j V _ ⟨a,bB e f (by simpa using c)⟩⟩;have:=i x (aq e);simp at c;omega
def Bn(d:ap m s b):dt cq 123 [O.v s] m (∀o∈b,0<=o):=by
 apply wN;have g:=d.len;refine dT (n:=b.length) (g▸d.gV) (λk a=>J m a/\∀y∈b.take k,0<=y) ⟨J.az _,aL⟩ ?_;rintro k p I μ l ⟨a,f⟩ j
 refine⟨λh=>?_,λh=>iR (db (by simp at h;omega) f) a⟩;simp only[ar]at h;let⟨x,e⟩:=cG b k;refine⟨V,V,x,by simpa using a.af (d.aG e),λc=>bV (λi=>?_) a,λc=>j V _ ⟨a,bB e f (by simpa using c)⟩⟩;have:=i x (aq e);simp at c;omega
def qO(f:ap m s b)(j:ap m t r):dt cq 182 [O.v s,O.v t] m (b=r):=by
 apply Dm;have l:=f.len;have q:=j.len;refine⟨λh=>bV (λe=>by subst e;simp at h;omega) (J.az _),λh=>?_⟩;simp at h;refine dT (n:=b.length) (l▸f.gV) (λk a=>J m a/\b.take k=r.take k) ⟨J.az _,aL⟩ ?_;rintro k u I μ p ⟨c,i⟩ o
 refine⟨λh=>?_,λh=>iR (by simp at h;rwa[bX V,bX V]at i) c⟩;simp only[ar]at h;let⟨x,g⟩:=cG b k;let⟨y,d⟩:=cG r k;refine⟨V,V,x,by simpa using c.af (f.aG g),V,V,y,by simpa using c.af (j.aG d),λa=>bV (λe=>?_) c,λa=>o V _ ⟨c,?_⟩⟩
 .subst e;rw[g]at d;simp at d;simp at a;exact a d
 .rw[aU g,aU d,i];simp at a;rw[a]
abbrev fv(f:aY)(r o h:O):Value:=.agg #[vi f.fG,vi f.pc,vi f.dst,O.v r,O.v o,O.v h]
abbrev xv(x:Instr)(a j:O):Value:=.agg #[vi x.op,vi x.dst,vi x.bQ,vi x.bZ,O.v a,O.v j]
def Ey{f:aY}{r:O}(t:ap m r f.ak)(g:ap m a x.args)(C:∀y∈x.args,0<=y/\y<f.ak.length):
 dt cq 125 [fv f r o e,xv x a j] m (∀y∈x.args,aG f.ak y<1000):=by
 apply yX
 simp -zeta only[aD,aC]
 intro w b
 have v:J m b:=((J.az m).aK _).aK _
 have D:∀d∈[w.size,m.size],d<b.size:=by simp[b,w];omega
 have z:=g.len
 have K:=t.len
 clear_value b
 refine dT (n:=x.args.length) (z▸g.gV) (λl c=>J b c/\∀y∈x.args.take l,aG f.ak y<1000) ⟨J.az _,aL⟩ ?_
 rintro l L I μ H ⟨u,s⟩ F
 have i:=v.trans u
 refine⟨λh=>?_,λh=>iR (db (by simp at h;omega) s) i⟩
 simp only[ar]at h
 let⟨y,c⟩:=cG x.args l
 have k:=C y (aq c)
 refine⟨V,V,y,by simpa using i.af (g.aG c),k.1,V,aG f.ak y,by simpa using i.af (t.pH k.1 k.2),?_⟩
 refine(dV _ _).aH u D λd M q G p=>⟨d,rfl,λB=>bV (λE=>?_) (v.trans p),λA=>F V _ ⟨p,bB c s ?_⟩⟩
 .have:=E y (aq c);have:=q.1 B;omega
 .have:=fb q A;omega
def pd(b r:List Int):kW (b++r)=kW b++kW r:=by simp[kW]
def nR(b:List Int):(kW b).length<=b.length:=List.length_filter_le _ _
def oQ(f:ap m s b)(A:b.length<=100000000):oF 181 [O.v s] m (kW b):=by
 apply zj;intro g;have p:J m g:=(J.az m).aK _;have u:gY m g aA 1 (.mk m.size 0 0 0) []:=gY.new (J.az m) aA 1 [] 0 aL;have z:=f.len;clear_value g;refine ez (n:=b.length) V (λk s a=>J m a/\gY m a aA 1 s ((kW (b.take k)).map Ce.i)) ⟨p,by simpa[kW]using u⟩ ?_;rintro k s B I μ y ⟨d,c⟩ j
 refine dit (λo=>?_) λo=>?_
 .let⟨x,e⟩:=cG b k;refine⟨V,V,x,by simpa using d.af (f.aG e),?_⟩;refine(dV _ _).then λl C h a=>⟨l,rfl,λt=>?_,λq=>?_⟩
  .have i:=d.trans a;refine⟨V,V,x,by simpa using i.af (f.aG e),?_⟩;intro D;refine nQ (c.ext a) i (by have:=nR (b.take k);simp at this;omega) λr E v w=>j V _ _ ⟨w,?_⟩
   rw[aU e,pd];have:kW [x]=[x]:=by simp[kW,h.1 t]
   rw[this];exact v
  .refine j V _ _ ⟨d.trans a,?_⟩
   rw[aU e,pd];have:kW [x]=[]:=by simp[kW];have:=fb h q;omega
   rw[this,dX];exact c.ext a
 .rw[bX V]at c;exact⟨s,rfl,c,d⟩
def sk{f:aY}{r:O}(l:ap m r f.ak)(p:ap m s b)(x:∀y∈b,0<=y/\y<f.ak.length)(G:b.length<=100000000):
 oF 183 [fv f r o e,O.v s] m (cL f b):=by
 apply Fo
 simp -zeta only[aD,aC]
 intro a j
 have q:J m a:=(J.az m).aK _
 have w:J a j:=(J.az a).aK _
 have A:gY a j aA 1 (.mk a.size 0 0 0) []:=gY.new (J.az a) aA 1 [] 0 aL
 have z:∀u∈[m.size],u<a.size:=by simp[a]
 have F:=p.len
 have E:=l.len
 clear_value j
 clear_value a
 refine ez (n:=b.length) V (λk s c=>J a c/\gY a c aA 1 s ((cL f (b.take k)).map Ce.i)) ⟨w,by simpa[cL]using A⟩ ?_
 rintro k s H I μ D ⟨d,c⟩ B
 have g:=q.trans d
 refine dit (λv=>?_) λv=>?_
 .let⟨y,h⟩:=cG b k
  have i:=x y (aq h)
  refine⟨V,V,y,by simpa using g.af (p.aG h),i.1,V,aG f.ak y,by simpa using g.af (l.pH i.1 i.2),?_⟩
  intro K
  refine nQ c d (by simp[cL];omega) λM L C t=>⟨J.tG (d.aK _) t z,B V _ _ ⟨t,?_⟩⟩
  rw[aU h]
  simpa[cL]using C
 .rw[bX V]at c
  exact⟨s,rfl,c.cv q.size,g⟩
end
section
variable{g:E}{b:aY}{t v d p h u j:O}{s:St}{c:List Int}{q:Nat}{k:cT}{w:Int}{e:Nat->Int}{x:Instr}
def IV{e:O}(Q:ap g t b.ak)(ho:ap g v b.aR){s:O}(D:ap g s c)(ad:∀y∈c,0<=y/\y<b.ak.length)(am:b.ak.length=b.aR.length)(ay:b.aR.length<=1000000)(aw:c.length<=1000000)
 (M:∀w∈b.aR,-1000000000<=w/\w<=1000000000):oF 69 [fv b t v e,O.v s] g (bD b.ak b.aR c):=by
 apply Dh
 simp -zeta only[aD,aC]
 intro p
 have E:J g p:=(J.az g).aK _
 have H:∀G∈[g.size],G<p.size:=by simp[p]
 have ax:=D.len
 have av:=Q.len
 clear_value p
 refine(gU (ho.ext E) V).aH V H λx m2 o2 i2 Y=>⟨x,rfl,?_⟩
 have P:=i2.len
 have kL:∀(d F aR:List Int),bD b.ak aR (d++F)=bD b.ak (bD b.ak aR d) F:=by
  intro d;induction d with
  |nil=>intro F aR;rfl
  |cons y d k=>intro F aR;simp only[cZ,bD,k]
 have lo:∀(d aR:List Int)(A:Int),(∀w∈aR,A<=w)->∀w∈bD b.ak aR d,A -d.length<=w:=by
  intro d;induction d with
  |nil=>intro aR A h w q;have:=h w q;simp;omega
  |cons y d k=>
   intro aR A h w q;simp only[bD]at q;have:=k _ (A -1) (λu j=>by
    split at j
    .rcases eg (y.toNat<aR.length)with B|B
     .rcases pN j with j|j
      .have:=h _ (iA (i:=y.toNat) (a:=aG aR y) (by obtain⟨C,z⟩:=dB B;rw[HM z];exact z));omega
      .have:=h u j;omega
     .have z:gT aR y (aG aR y -1)=aR:=by unfold gT;rw[rR V]
      rw[z]at j;have:=h u j;omega
    .have:=h u j;omega) w q
   simp only[aZ];omega
 refine dT (n:=c.length) V (λk j=>J p j/\gY p j aA 1 x ((bD b.ak b.aR (c.take k)).map Ce.i)) ⟨Y,o2⟩ ?_
 rintro k m3 aj μ hk ⟨R,C⟩ U
 have K:=E.trans R
 refine dit (λh=>?_) λh=>?_
 .let⟨y,u⟩:=cG c k
  have j:=ad y (aq u)
  have ao:=ka b.ak (c.take k) b.aR
  refine⟨V,V,y,by simpa using K.af (D.aG u),j.1,V,aG b.ak y,by simpa using K.af (Q.pH j.1 j.2),?_⟩
  refine(dV _ _).aH R H λG T N L B=>⟨G,rfl,λab=>?_,λZ=>?_⟩
  .have S:=E.trans B
   have I:=C.ext L
   have i4:ap T x (bD b.ak b.aR (c.take k)):=ap.gD I V
   refine⟨V,V,y,by simpa using S.af (D.aG u),V,V,y,by simpa using S.af (D.aG u),j.1,V,aG (bD b.ak b.aR (c.take k)) y,i4.pH j.1 V,j.1,V,?_⟩
   have au:=lo (c.take k) b.aR (-1000000000) (λw q=>(M w q).1) _ (fx (l:=bD b.ak b.aR (c.take k)) j.1 V)
   have ak:aG (bD b.ak b.aR (c.take k)) y<=1000000000:=by
    let⟨q',ai,al⟩:=kZ (c.take k) b.aR y.toNat _ (oH (l:=bD b.ak b.aR (c.take k)) j.1 V);have:=(M q' (aq ai)).2;omega
   have ar:(c.take k).length<=1000000:=bF
   rw[aP V V]
   rcases I.aG with ag|⟨q,X,tail,z,e2,e3,e4,e5⟩
   .rw[ag]at P;simp at P;omega
   .have ah:x.off=0:=by rw[z];rfl
    have aa:x.D=q:=by rw[z];rfl
    rw[ah,aa]
    have ac:0+y.toNat*1=y.toNat:=V
    rw[ac]
    have af:y.toNat<((bD b.ak b.aR (c.take k)).map Ce.i).length:=bF
    refine⟨e3.fL (by simp only[be];omega),?_⟩
    intro m5
    have W:J p m5:=B.ah e2 _ _
    refine⟨J.tG B W H,U V _ ⟨W,?_⟩⟩
    rw[aU u,kL]
    simp only[bD,an (N.1 ab)]
    refine⟨by rw[dY,jU,<-dY (f:=Ce.i)];exact I.len,Or.inr ⟨q,X,tail,z,e2,?_,?_,e5⟩⟩
    .have:=cD.ah (m:=T) (o:=y.toNat) (r:=[.i (aG (bD b.ak b.aR (c.take k)) y -1)]) e3
     have z:je ((bD b.ak b.aR (c.take k)).map Ce.i++tail) y.toNat [.i (aG (bD b.ak b.aR (c.take k)) y -1)]=(gT (bD b.ak b.aR (c.take k)) y (aG (bD b.ak b.aR (c.take k)) y -1)).map Ce.i++tail:=by
      simp only[je,gT,ue];rw[MA _ _ af]
     rw[z]at this;exact this
    .simp only[be,dY,jU]at e4⊢;exact e4
  .refine U V _ ⟨B,?_⟩
   rw[aU u,kL]
   simp only[bD,ae (fb N Z)]
   exact C.ext L
 .rw[bX V]at C
  exact⟨x,rfl,C.cv E.size,K⟩
def fS{aS t x:O}(a:RV g q 2 d p aS t x k s)(L:1000<=w){c:bN}(j:s.heap[ix w]? =some c):
 aN cq 131 [vp q 0,vi w] g λD v=>∃b,D=.agg #[vi c.aQ,vi c.kj,O.v b]/\ap v b c.aF/\J g v:=by
 apply ur (q,0)
 simp -zeta only[aD,aC]
 intro B
 have f:J g B:=(J.az g).aK _
 have l:=cW.ext f a.heap
 let⟨b,G,r,g1,g2⟩:=l.aG j
 have I:=l.len
 have K:=l.gV
 have A:=aw j
 unfold ix at A r g1 g2
 have e:cO (w -1000)=w -1000:=aP V V
 rw[e]
 refine⟨t,f.af a.ru,V,V,c.aQ,r,c.kj,g1,b,g2,?_⟩
 intro C
 have m:J g C:=f.ah (ad _) _ _
 let⟨o,y,M,N,u⟩:=(cW.ext m a.heap).aG j
 unfold ix at u
 have z:o=b:=by
  have F:=f.af (a.ru);obtain⟨E,H,_,_,n⟩:=a.heap.aG j;unfold ix at n;have h:=f.af n;have i:=m.af n;rw[g2]at h;rw[u]at i;simp at h i;rw[O.BR]at h i;rw[h,i]
 subst z
 exact⟨o,rfl,y,m⟩
def uR{aS L D:O}(C:RV g q 2 d p aS L D k s)(G:fO s.heap e){B:O}(o:ap g B c)(I:∀w∈c,gA s.heap w)(Y:c.length<=1000000):
 dt cq 180 [vp q 0,O.v B] g (ln s.heap c):=by
 apply sj (q,0)
 have X:=o.len
 refine dT (n:=c.length) V (λr a=>J g a/\∀w∈c.take r,1000<=w->(aM s.heap w).aQ+eB c (ix w)<=999999) ⟨J.az _,aL⟩ ?_
 rintro r Z P μ T ⟨y,v⟩ N
 refine⟨λh=>?_,λh=>iR (db (by simp at h;omega) v) y⟩
 simp only[ar]at h
 let⟨x,l⟩:=cG c r
 have m:=I x (aq l)
 have M:=iv m.1
 refine ez (n:=c.length) V (λj(z:Int) a=>J g a/\z=eB (c.take j) (ix x)) ⟨y,by simp[eB]⟩ ?_
 rintro j z m2 Q μ2 S ⟨f,rfl⟩ A
 refine dit (λE=>?_) λE=>?_
 .let⟨u,t⟩:=cG c j
  have K:=kC (c.take j) (ix x)
  have H:=iF (c.take j) (ix x)
  have F:(c.take j).length<=1000000:=bF
  have i:eB (c.take (j+1)) (ix x)=eB (c.take j) (ix x)+if u=x then 1 else 0:=by
   rw[aU t,lU];simp only[eB,M];omega
  refine⟨V,V,u,by simpa using f.af (o.aG t),V,V,x,by simpa using f.af (o.aG l),λa=>A V _ _ ⟨f,?_⟩,λa=>A V _ _ ⟨f,?_⟩⟩
  .simp at a;rw[i,an a];exact aP V V
  .simp at a;rw[i,ae a];omega
 .rw[bX V]
  have K:=kC c (ix x)
  have H:=iF c (ix x)
  let⟨u,W⟩:=bS m
  have U:=(G.cell _ (aq u)).hi
  refine⟨V,V,x,by simpa using f.af (o.aG l),?_⟩
  refine(fS (C.ext f) m.1 u).mono ?_
  rintro _ m3 ⟨b,rfl,R,a⟩
  have t:cO ((aM s.heap x).aQ+eB c (ix x))=(aM s.heap x).aQ+eB c (ix x):=aP V V
  refine⟨_,_,_,rfl,λi=>bV (λF=>?_) (f.trans a),λi=>N V _ ⟨f.trans a,bB l v λ_=>?_⟩⟩
  .have:=F x (aq l) m.1
   rw[t]at i;simp at i;omega
  .rw[t]at i;simp at i;omega
def tm{h:List bN}:ln h (kW c)<->ln h c:=by
 unfold ln;constructor
 .intro b w d a;have:=b w (lE.2 ⟨d,a⟩) a;rwa[wm]at this
 .intro b w d a;rw[wm];exact b w (lE.1 d).1 a
def U1{s:O}(h:ap g s c)(p:1<=c.length):ap g (O.cut s 1 s.len 1) (c.drop 1):=by
 have b:=h.len;have i:=h.cap;have l:=h.gV;cases s with
 |nil=>simp at b;omega
 |zW d v a=>simp at b;omega
 |mk d v r o=>
  simp at b i l;refine⟨by simp[O.cut];omega,by simp[O.cut];omega,by simp[O.cut];omega,λn x a=>?_⟩;rw[sA]at a;have q:=aw a;let⟨f,j,jw⟩:=h.iD (1+n) x a;refine⟨f,j,λm e k=>?_⟩;have:=jw m e k;simp only[O.cut,O.jD,O.mZ]at this⊢;rw[ae V];rw[<-this];congr 1;omega
def iC.pR(h:iC k b){t:Int}(d:0<=t)(e:t<b.ak.length)(f:∀w∈b.ak,w<=9223372036854775807): -9223372036854775808<=aG b.ak t/\aG b.ak t<=9223372036854775807:=by
 have c:=fx (l:=b.ak) d e;refine⟨?_,f _ c⟩;rcases h.Sb _ c with a|a
 .have:=a.1;omega
 .omega
def Ke{aS hp fr:O}(z:RV g q 2 d p aS hp fr k s)(M:fO s.heap e)(P:ap g t b.ak)(N:ap g h b.ba)(r:ap g u x.args)
 (L:iC k b)(ai:∀w∈b.ak,w<=9223372036854775807)(Z:∀l∈x.args,0<=l/\l<b.ak.length)(ax:1<=x.args.length/\x.args.length<=4)(ay:x.op=16\/x.op=17):
 dt cq 132 [vp q 0,fv b t v h,xv x u j] g (FC s.heap b x):=by
 apply tO (q,0)
 simp -zeta only[aD,aC]
 intro m1 F
 have a:J g F:=((J.az g).aK _).aK _
 have m:∀i∈[m1.size,g.size],i<F.size:=by simp[F,m1];omega
 have ar:=r.len
 have aA:=P.len
 have aw:=N.len
 have ao:=r.cap
 clear_value F
 have c:0<=aG x.args 0/\aG x.args 0<b.ak.length:=Z _ (fx V V)
 have R:aG x.args 0<b.ba.length:=by have:=L.lr;have:=L.lh;omega
 have al:=L.pR c.1 c.2 ai
 refine⟨V,V,aG x.args 0,(r.ext a).pH V V,c.1,V,aG b.ak (aG x.args 0),(P.ext a).pH c.1 c.2,hp,a.af z.ru,?_⟩
 unfold FC
 simp only[]
 generalize aB:aG b.ak (aG x.args 0)=w at*
 refine(jb (cW.ext a z.heap) al).aH (J.az _) m λi m3 y B _=>⟨i,rfl,λah=>bV (λf=>nb y ah f.1) (a.trans B),λag=>?_⟩
 have n:=yb y ag
 let⟨C,az⟩:=bS n
 have au:=(M.cell _ (aq C)).fl
 have am:=a.trans B
 refine((fS (z.ext am) n.1 C)).aH B m ?_
 rintro _ m4 ⟨fl,rfl,ak,U⟩
 have S:=B.trans U
 refine⟨U,_,_,_,rfl,(oQ ak V).aH (oh (nR (aM s.heap w).aF)) (λi y=>S.lt (m i y)) λps m5 o5 i5 h5=>⟨ps,rfl,V,V,V,?_⟩⟩
 have G:=S.trans h5
 have aa:=a.trans G
 have e1:(Int.toNat (1:Int))=1:=rfl
 have e2:(Int.toNat (u.len:Int))=u.len:=V
 rw[e1,e2]
 refine(sk (P.ext aa) (U1 (r.ext aa) V) (λl o=>Z l (wT o)) bF).aH (by simp[cL];omega) (λi y=>G.lt (m i y)) λqs m6 o6 i6 I=>⟨qs,rfl,?_⟩
 have ab:=G.trans I
 refine(qO (i5.ext I) i6).aH ab m λb2 m7 W h7 A=>⟨b2,rfl,λad=>?_,λac=>bV (λf=>fb W ac f.2.1) (a.trans A)⟩
 have D:=W.1 ad
 refine(fS (z.ext (a.trans A)) n.1 C).aH A m ?_
 rintro _ m8 ⟨an,rfl,av,K⟩
 have H:=A.trans K
 refine⟨K,_,_,_,rfl,λo=>?_,λo=>?_⟩
 .simp at o
  have E:=a.trans H
  refine⟨λl=>iR ⟨n,D,Or.inl o,λe=>by simp at l;omega⟩ E,λl=>⟨V,V,aG x.args 0,(r.ext E).pH V V,c.1,V,aG b.ba (aG x.args 0),(N.ext E).pH c.1 R,eU ?_ E⟩⟩
  simp only[aI,aj,ne_eq]at l⊢
  exact⟨λQ=>⟨n,D,Or.inl o,λ_=>Q⟩,λf=>f.2.2.2 V⟩
 .simp at o
  refine(uR (z.ext (a.trans H)) M (i5.ext ((I.trans h7).trans K)) (λT E=>M.field (aq C) (lE.1 E).1 (lE.1 E).2) (oh (nR (aM s.heap w).aF))).aH H m λb3 m9 X h9 T=>⟨b3,rfl,λaf=>?_,λae=>bV (λf=>?_) (a.trans T)⟩
  .have Y:=tm.1 (X.1 af)
   have E:=a.trans T
   refine⟨λl=>iR ⟨n,D,Or.inr Y,λe=>by simp at l;omega⟩ E,λl=>⟨V,V,aG x.args 0,(r.ext E).pH V V,c.1,V,aG b.ba (aG x.args 0),(N.ext E).pH c.1 R,eU ?_ E⟩⟩
   simp only[aI,aj,ne_eq]at l⊢
   exact⟨λQ=>⟨n,D,Or.inr Y,λ_=>Q⟩,λf=>f.2.2.2 V⟩
  .rcases f.2.2.1 with l|l
   .exact o l
   .exact fb X ae (tm.2 l)
def IK{aS P Z:O}(b:RV g q 2 d p aS P Z k s)(G:ns k)(D:fO s.heap e)(hw: -9223372036854775808<=w/\w<=9223372036854775807):
 dt cq 129 [vp q 0,vi w] g (vM k s.heap w):=by
 apply sT (q,0)
 simp -zeta only[aD,aC]
 refine⟨P,b.ru,(jb b.heap hw).then λi m1 x C=>⟨i,rfl,λai=>bV (λa=>nb x ai a.1) C,λah=>?_⟩⟩
 have z:=yb x ah
 let⟨F,al⟩:=bS z
 have K:=D.cell _ (aq F)
 have aE:=(K.oX al).2
 refine(fS (b.ext C) z.1 F).mono ?_
 rintro _ f ⟨B,rfl,N,j⟩
 refine⟨_,_,_,rfl,?_⟩
 intro T h
 have an:=C.trans j
 have H:J f h:=((J.az f).aK _).ah (ad _) _ _
 have s4:h.size=f.size+1:=by simp[h,T,av]
 have hB:af h f.size 1=some (vi (aM s.heap w).kj):=(cD.ah (m:=T) (o:=0) (r:=[.i (aM s.heap w).aQ,.i (aM s.heap w).kj,.s B]) (cD.push f _ _)).cp 1
 have y:∀i∈[f.size],i<h.size:=by simp[s4]
 clear_value h
 have c:=an.trans H
 have L:=b.ext c
 have aB:=b.fy.cF.len
 have aA:=G.nT.len
 have ar:(eS k.bo).length<=12:=by
  have:=rq G.nT.types k.bo.length;rw[mU _ _ (ad _)]at this;exact this
 refine⟨d,L.bo,(qM L.fy.bo G.nT.types).aH (J.az _) y λm5 t _=>⟨_,rfl,t.da hB,p,(b.ext (c.trans t)).cF,?_⟩⟩
 have aF:=c.trans t
 have W:cO ((aM s.heap w).kj -((eS k.bo).length:Int))=(aM s.heap w).kj -cg k:=aP V V
 have X:cO ((p.len:Int) -1)=(p.len:Int) -1:=aP V V
 rw[W,X]
 refine(aX _ _ _ _).aH t y λb2 m6 M h6 l=>⟨b2,rfl,λae=>?_,λac=>bV (λa=>fb M ac ⟨a.2.1,oh a.2.2.1⟩) (c.trans l)⟩
 have R:=M.1 ae
 have A:=c.trans l
 have E:=b.ext A
 let⟨ao,Q⟩:=cG k.cF (((aM s.heap w).kj -cg k).toNat)
 have am:dO k ((aM s.heap w).kj -cg k)=ao:=by simp[dO,Q]
 obtain⟨U,l',c',ab,ak,aw,g0,g1,_⟩:=E.fy.cF.aG Q
 have au:=ab.len
 have az:=ak.len
 have ay:=N.len
 have ax:=K.fl
 have Y:cO ((B.len:Int)+1)=(B.len:Int)+1:=aP V V
 rw[Y]
 unfold vM
 rw[am]
 refine⟨p,E.cF,V,V,U,g0,λu=>⟨p,E.cF,V,V,l',g1,λv=>⟨λn=>?_,λn=>?_⟩,λv=>bV (λa=>?_) A⟩,λu=>bV (λa=>?_) A⟩
 .simp at u v n
  exact iR ⟨z,R.1,V,V,V,Or.inl n⟩ A
 .simp at u v n
  refine(oQ (N.ext (H.trans l)) V).aH (oh (nR (aM s.heap w).aF)) (λi x=>l.lt (y i x)) λps m7 o7 i7 aa=>⟨ps,rfl,?_⟩
  have I:=l.trans aa
  refine(uR (b.ext (c.trans I)) D i7 (λag S=>D.field (aq F) (lE.1 S).1 (lE.1 S).2) (oh (nR (aM s.heap w).aF))).aH I y λb3 m8 ag ap S=>⟨b3,rfl,eU ?_ (c.trans S)⟩
  rw[ag,tm]
  refine⟨λaj=>⟨z,R.1,V,V,V,Or.inr aj⟩,λa=>?_⟩
  rcases a.2.2.2.2.2 with j|j
  .exact absurd j n
  .exact j
 .have:=a.2.2.2.2.1;simp at v;omega
 .have:=a.2.2.2.1;simp at u;omega
def IL{aS M E:O}(C:RV g q 2 d p aS M E k s)(B:ap g h b.ba)(G:ap g u x.args)(T:0<=x.bZ/\x.bZ<=b.ba.length)(U:b.ba.length<=1000000)
 (K:∀w∈b.ba,w≠0->1000<=w/\∃o,s.heap[ix w]? =some o):
 dt cq 126 [vp q 0,fv b t v h,xv x u j] g (FD s.heap b x):=by
 apply sU (q,0)
 simp -zeta only[aD,aC]
 intro n f
 have c:J g f:=((J.az g).aK _).aK _
 have L:∀D∈[n.size,g.size],D<f.size:=by simp[f,n];omega
 have F:af f n.size 4=some (O.v u):=(cD.push n _ _).cp 4
 have Q:=G.len
 have S:=B.len
 clear_value f
 unfold FD
 refine⟨λm=>iR (λr=>absurd (by simpa using m) r) c,λm=>?_⟩
 simp at m
 have e:cO (x.bZ -1)=x.bZ -1:=aP V V
 rw[e]
 have A:=(B.ext c).pH (i:=x.bZ -1) V V
 refine⟨V,V,aG b.ba (x.bZ -1),A,λa=>iR (λ_ r=>absurd (by simpa using a) r) c,λa=>?_⟩
 simp at a
 let⟨N,o,z⟩:=K _ (fx (l:=b.ba) (i:=x.bZ -1) V V) a
 refine⟨V,V,aG b.ba (x.bZ -1),A,(fS (C.ext c) N z).aH (J.az _) L ?_⟩
 rintro _ W ⟨P,rfl,I,r⟩
 have R:=I.len
 have H:aM s.heap (aG b.ba (x.bZ -1))=o:=by simp[aM,z]
 refine⟨r,_,_,_,rfl,r.da F,eU ?_ (c.trans r)⟩
 rw[H]
 simp
 exact⟨λy _ _=>V,λy=>oh (y m a)⟩
def qY(k:cT)(x:Instr):∀(c t:List Int)(a:Nat),fI k x a (c++t)=fI k x a c++fI k x (a+c.length) t
 |[],t,a=>by simp[fI]
 |u::c,t,a=>by
  have:=qY k x c t (a+1);simp only[cZ,fI,this,aZ];have e:a+(c.length+1)=a+1+c.length:=V;rw[e];split<;>simp
def wJ{aS l Y:O}(o:RV g q 2 d p aS l Y k s)(R:ap g t b.ak)(D:ap g u x.args)(Z:iC k b)(af:∀w∈b.ak,w<=9223372036854775807)
 (ag:∀y∈x.args,0<=y/\y<b.ak.length)(hc:zH k x)(ai:x.op=9\/x.op=24):
 dt cq 127 [vp q 0,fv b t v h,xv x u j] g (KH k s.heap b x):=by
 apply sS (q,0)
 simp -zeta only[aD,aC]
 intro W i
 have G:J g i:=((J.az g).aK _).aK _
 have F:∀r∈[W.size,g.size],r<i.size:=by simp[i,W];omega
 have aa:=D.len
 have ak:=R.len
 clear_value i
 refine dT (n:=x.args.length) (aa▸D.gV) (λa c=>J i c/\∀y∈fI k x 0 (x.args.take a),1000<=aG b.ak y->gA s.heap (aG b.ak y)) ⟨J.az _,by simp[fI]⟩ ?_
 rintro a m3 aj μ hk ⟨T,Q⟩ I
 have m:=G.trans T
 refine⟨λh=>?_,λh=>iR (by simp at h;rwa[bX V]at Q) m⟩
 simp only[ar]at h
 let⟨y,H⟩:=cG x.args a
 have f:=ag y (aq H)
 have C:=o.ext m
 have S:fI k x 0 (x.args.take (a+1))=fI k x 0 (x.args.take a)++fI k x a [y]:=by
  rw[aU H,qY];congr 2;simp;omega
 have E:(nC k x a=true->1000<=aG b.ak y->gA s.heap (aG b.ak y))->∀z∈fI k x 0 (x.args.take (a+1)),1000<=aG b.ak z->gA s.heap (aG b.ak z):=λhh z c=>by
  rw[S]at c;rcases List.mem_append.1 c with c|c
  .exact Q z c
  .simp only[fI]at c;split at c
   .rename_i e;simp at c;subst c;exact hh e
   .simp at c
 have ah:nC k x a=true->y∈fI k x 0 x.args:=λe=>by
  have X:x.args=x.args.take (a+1)++x.args.drop (a+1):=(dk _ _).symm;rw[X,qY,S];refine bJ _ (eD _ ?_);simp only[fI];rw[an e];simp
 refine⟨V,V,y,by simpa using m.af (D.aG H),f.1,V,aG b.ak y,by simpa using m.af (R.pH f.1 f.2),d,C.bo,p,C.cF,?_⟩
 refine(se C.fy hc u j a).aH T F λr m4 M h4 K=>⟨r,rfl,λae=>?_,λad=>I V _ ⟨K,E λe=>absurd ⟨ai,e⟩ (fb M ad)⟩⟩
 have e:=(M.1 ae).2
 refine(dV _ _).aH K F λb2 m5 N h5 A=>⟨b2,rfl,λac=>?_,λab=>I V _ ⟨A,E λ_ l=>absurd l (fb N ab)⟩⟩
 have U:=G.trans A
 refine⟨l,(o.ext U).ru,(jb (cW.ext U o.heap) (Z.pR f.1 f.2 af)).aH A F λb3 m6 P h6 L=>⟨b3,rfl,λB=>bV (λhM=>nb P B (hM y (ah e) (N.1 ac))) (G.trans L),λB=>I V _ ⟨L,E λ_ _=>yb P B⟩⟩⟩
end
section
structure zG(im:cT)(s:St)(fs:List aY)(f:aY)(x:Instr):Prop where
 ok:cY im s
 run:s.cE=3
 fr:s.ao=fs++[f]
 cur:eI im f=x
 vh:∀g∈s.ao,∀w∈g.ak,w<=9223372036854775807
section
variable{b:cT}{s:St}{c:List aY}{f:aY}{x:Instr}
def zG.F(a:zG b s c f x):iC b f:=a.ok.ao f (by rw[a.fr];simp)
def zG.MM(a:zG b s c f x):∀w∈f.ak,w<=9223372036854775807:=a.vh f (by rw[a.fr];simp)
def zG.I(a:zG b s c f x):∃p,b.cF[f.fG.toNat]? =some p/\dO b f.fG=p/\HI b p/\p.dp[f.pc.toNat]? =some x/\iS b p f.pc.toNat x:=by
 have:=a.F.Jt a.ok.fy;rwa[a.cur]at this
def zG.Gl(a:zG b s c f x):f.ak.length=f.aR.length/\f.ba.length=f.aR.length/\1<=f.aR.length/\f.aR.length<=2000:=by
 obtain⟨p,_,e,i,_,_⟩:=a.I;have d:=a.F.lr;have g:=a.F.lo;have h:=a.F.lh;rw[e]at d g h;have:=i.ak;omega
def zG.arg(a:zG b s c f x):∀y∈x.args,0<=y/\y<f.ak.length:=λy h=>by
 obtain⟨p,_,e,_,_,g⟩:=a.I;have d:=a.F.lr;rw[e]at d;have:=g.args y h;omega
def zG.dst(a:zG b s c f x):0<=x.dst/\x.dst<f.aR.length:=by
 obtain⟨p,_,e,_,_,g⟩:=a.I;have d:=a.F.lo;rw[e]at d;have:=g.dst;omega
def zG.call(a:zG b s c f x):zH b x:=let⟨_,_,_,_,_,d⟩:=a.I;d.call
def zG.Zq(a:zG b s c f x):0<=x.op/\x.op<=24/\x.op≠7/\x.op≠8/\x.op≠12/\x.op≠13:=by
 obtain⟨p,_,_,e,_,d⟩:=a.I;exact((Ju e.ak.2.2 a.ok.fy.nT.len.2 λq g=>(a.ok.fy.nT.dz q g).1).1 d).1
def zG.ly(g:zG b s c f x):x.args.length<=4/\((x.op=5\/x.op=14\/x.op=15\/x.op=18\/x.op=23\/x.op=19\/x.op=20\/x.op=21)->x.args.length=1)/\((x.op=1\/x.op=2\/x.op=3\/x.op=4\/x.op=11)->x.args.length=2)/\
 ((x.op=16\/x.op=17)->1<=x.args.length)/\(x.op=6->0<=x.bZ/\x.bZ<=f.ba.length/\0<=x.bQ/\x.bQ<12/\x.args.length<=3)/\(x.op=10->0<=x.bQ/\x.bQ<4/\x.args.length<=3)/\(x.op=0->-999<=x.bQ/\x.bQ<=999):=by
 obtain⟨z,_,r,y,_,u⟩:=g.I
 have a:=u.op
 have t:=g.F.lh
 rw[r]at t
 have d:=g.ok.fy.nT
 have v:(eS b.bo).length<=12:=by
  have:=rq d.types b.bo.length;rw[mU _ _ (ad _)]at this;exact this
 have w:=Jp d.types x.bQ
 unfold mf at a
 by_cases h:x.op=0
 .rw[an h]at a;omega
 rw[ae h]at a
 by_cases i:x.op=1\/x.op=2\/x.op=3\/x.op=4\/x.op=11
 .rw[an i]at a;omega
 rw[ae i]at a
 by_cases j:x.op=5\/x.op=14\/x.op=15\/x.op=18\/x.op=23
 .rw[an j]at a;omega
 rw[ae j]at a
 by_cases k:x.op=6
 .rw[an k]at a;omega
 rw[ae k]at a
 by_cases l:x.op=9\/x.op=24
 .rw[an l]at a
  let⟨q,n,e,o⟩:=a
  have:=(d.dz q (aq e)).1;omega
 rw[ae l]at a
 by_cases m:x.op=10
 .rw[an m]at a
  obtain⟨⟨q,n,e,o⟩,_⟩:=a
  have:=(d.dz q (aq e)).1
  have:=aw e
  have:=d.len;omega
 rw[ae m]at a
 by_cases n:x.op=16\/x.op=17
 .rw[an n]at a;omega
 rw[ae n]at a
 by_cases o:x.op=19
 .rw[an o]at a;omega
 rw[ae o]at a
 by_cases p:x.op=20
 .rw[an p]at a;omega
 rw[ae p]at a
 by_cases q:x.op=22
 .rw[an q]at a;omega
 rw[ae q]at a
 by_cases e:x.op=21
 .rw[an e]at a
  have:=a.1;omega
 rw[ae e]at a;exact a.elim
def zG.Lp(d:zG b s c f x):∀w∈f.ba,w≠0->1000<=w/\∃e,s.heap[ix w]? =some e/\e.aQ<0:=λw h k=>by
 have g:1000<=w:=by have:=d.F.ba w h;omega
 refine⟨g,?_⟩;have j:0<dG s.ao (ix w):=by
  rw[d.fr,eK,jc];have:=vU c (ix w);have:=uL (l:=f.ba) (f:=ix w) (by rw[iv g];exact h);omega
 exact dQ λi=>by have:=d.ok.nm (ix w) i;omega
def zG.OX(d:zG b s c f x):∀o∈f.aR,0<=o/\o<=999999:=λo h=>by
 refine⟨(d.F.P7 o h),?_⟩;rcases eg (0<o)with i|i
 .let⟨k,e⟩:=List.mem_iff_getElem?.1 h;have:=d.Gl;let⟨w,j⟩:=cG f.ak k (oh (aw e));have m:=LC d.F.P7 j e (d:=ix w) (by rw[iv ((d.F.aR k o w e j).2 i)]);have n:o<=fA s.ao (ix w):=by
   rw[d.fr,fZ,kT];have:=Ky (b:=c) (λg l=>d.ok.ao g (by rw[d.fr];exact bJ _ l)) (ix w);omega
  let⟨g,hd,l⟩:=d.ok.heap.lv (ix w) V;have p:=d.ok.heap.ex _ g hd l;have q:=rf s.heap (ix w);have r:=(d.ok.heap.cell g (aq hd)).hi;omega
 .omega
def zG.KA(a:zG b s c f x):∀r∈bU b x,0<=r/\r<f.ak.length:=λr d=>a.arg r (Cn d)
end
def Mj{o:E}{mb:Nat}{ah aw aS d fr:O}{M:cT}{K:St}(Q:RV o mb 2 ah aw aS d fr M K){fs:List aY}{m:aY}{x:Instr}(C:zG M K fs m x){Z ac h S am ow:O}(R:ap o Z m.ak)(U:ap o h m.ba)(L:ap o S x.args){aR:List Int}(X:ap o ow aR)(aA:aR.length=m.aR.length):
 dt cq 71 [vp mb 0,fv m Z ac h,xv x S am,O.v ow] o (lp M K m x aR):=by
 apply uv (mb,0)
 simp -zeta only[aD,aC]
 intro Y P
 have b:J o P:=((J.az o).aK _).aK _
 have i:∀g∈[Y.size,o.size],g<P.size:=by simp[P,Y];omega
 have ai:cD P Y.size dW [.i x.op,.i x.dst,.i x.bQ,.i x.bZ,.s S,.s am]:=cD.push Y _ _
 have ao:cD P o.size dP [.i m.fG,.i m.pc,.i m.dst,.s Z,.s ac,.s h]:=(cD.push o _ _).ext (J.push Y _)
 have ax:=L.len
 have aE:=R.len
 have ay:=U.len
 have aB:=X.len
 have hd:=C.dst
 have az:=C.Gl
 have G:=C.ly
 have hI:=C.ok.heap
 clear_value P
 refine⟨λN=>J P N/\(∀ac∈aR,0<=ac)/\(lR x.op->aG aR x.dst<=0),?_,?_⟩
 .refine(Bn (X.ext b)).aH (J.az _) i λg m3 c n _=>⟨g,rfl,λu=>bV (λl=>nb c u l.nn) (b.trans n),λz=>?_⟩
  refine(xT _ _).aH n i λb2 A y w a=>⟨b2,rfl,λu=>?_,λv=>⟨a,yb c z,λe=>absurd e (fb y v)⟩⟩
  refine⟨hd.1,V,aG aR x.dst,(X.ext (b.trans a)).pH hd.1 V,λk=>bV (λl=>?_) (b.trans a),λk=>⟨a,yb c z,λ_=>by simpa using k⟩⟩
  have:=l.dst (y.1 u);simp at k;omega
 .rintro m3 ⟨n,q,p⟩
  have f:=b.trans n
  have t:=Q.ext f
  have mk:∀{ad:Prop},(lp M K m x aR->ad)->(ad->lp M K m x aR)->(lp M K m x aR<->ad):=λI h2=>⟨I,h2⟩
  have B:1<=x.args.length->0<=aG x.args 0/\aG x.args 0<m.ak.length:=λI=>C.arg _ (fx V V)
  have D:∀{N},J o N->1<=x.args.length->af N S.D (S.off+Int.toNat (0:Int)*1)=some (vi (aG x.args 0)):=λhx I=>(L.ext hx).pH V V
  have F:∀{N},J o N->1<=x.args.length->af N Z.D (Z.off+Int.toNat (aG x.args 0)*1)=some (vi (aG m.ak (aG x.args 0))):=λhx I=>(R.ext hx).pH (B I).1 (B I).2
  refine⟨λe=>?_,λe1=>?_⟩
  .simp only[bR,aI]at e
   refine(Ey (R.ext f) (L.ext f) C.arg).aH n i λg A c w a=>⟨g,rfl,eU (c.trans ?_) (b.trans a)⟩
   refine⟨λd=>?_,λh=>h.nM V⟩
   refine⟨q,p,?_,?_,?_,?_,?_,?_,?_,?_,?_,?_,?_⟩<;>intro r<;>first|(exfalso;omega)|exact d
  simp only[br,aj]at e1
  refine⟨λe=>?_,λe2=>?_⟩
  .simp only[aI]at e
   have j:=G.2.2.2.2.1 e
   refine(IL t (U.ext f) (L.ext f) ⟨j.1,j.2.1⟩ V (λaa W T=>by obtain⟨I,s,H,_⟩:=C.Lp aa W T;exact⟨I,s,H⟩)).aH n i λg A c w a=>⟨g,rfl,eU (c.trans ?_) (b.trans a)⟩
   refine⟨λd=>?_,λh=>h.jg e⟩
   refine⟨q,p,?_,?_,?_,?_,?_,?_,?_,?_,?_,?_,?_⟩<;>intro r<;>first|(exfalso;omega)|exact d
  simp only[aj]at e2
  refine⟨λe=>?_,λe3=>?_⟩
  .simp only[aI]at e
   refine(wJ t (R.ext f) (L.ext f) C.F C.MM C.arg C.call (Or.inl e)).aH n i λg A c w a=>⟨g,rfl,eU (c.trans ?_) (b.trans a)⟩
   refine⟨λd=>?_,λh=>h.cR (Or.inl e)⟩
   refine⟨q,p,?_,?_,?_,?_,?_,?_,?_,?_,?_,?_,?_⟩<;>intro r<;>first|(exfalso;omega)|exact d
  simp only[aj]at e3
  refine⟨λe=>?_,λe4=>?_⟩
  .simp only[aI]at e
   refine(wJ t (R.ext f) (L.ext f) C.F C.MM C.arg C.call (Or.inr e)).aH n i λg A c w a=>⟨g,rfl,λu=>?_,λz=>bV (λl=>fb c z (l.cR (Or.inr e))) (b.trans a)⟩
   refine(mj (X.ext (b.trans a))).aH a i λb2 m5 y k s=>⟨b2,rfl,λag=>?_,λv=>bV (λl=>fb y v (l.zero (Or.inl e)).1) (b.trans s)⟩
   refine(mj (U.ext (b.trans s))).aH s i λb3 m6 H T j=>⟨b3,rfl,eU (H.trans ?_) (b.trans j)⟩
   refine⟨λd=>?_,λh=>(h.zero (Or.inl e)).2⟩
   refine⟨q,p,?_,?_,?_,?_,?_,?_,?_,?_,?_,?_,?_⟩<;>intro r<;>first|(exfalso;omega)|exact c.1 u|exact⟨y.1 ag,d⟩
  simp only[aj]at e4
  refine⟨λe=>?_,λe5=>?_⟩
  .simp only[aI]at e
   have W:=G.2.1 V
   refine(mj (X.ext f)).aH n i λb2 m5 y k s=>⟨b2,rfl,λag=>?_,λv=>bV (λl=>fb y v (l.zero (Or.inr e)).1) (b.trans s)⟩
   refine(mj (U.ext (b.trans s))).aH s i λb3 m6 H T j=>⟨b3,rfl,λau=>?_,λaq=>bV (λl=>fb H aq (l.zero (Or.inr e)).2) (b.trans j)⟩
   have ab:=b.trans j
   have ak:=Q.ext ab
   have aa:=ak.ao.len
   have iH:∀d:1<K.ao.length\/aG m.ak (aG x.args 0)<1000,lp M K m x aR:=λd=>by
    refine⟨q,p,?_,?_,?_,?_,?_,?_,?_,?_,?_,?_,?_⟩<;>intro r<;>first|(exfalso;omega)|exact⟨y.1 ag,H.1 au⟩|exact d
   refine⟨fr,ak.OM,λh8=>iR (iH (Or.inl (by simp at h8;omega))) ab,λh8=>?_⟩
   refine⟨V,V,_,D ab V,(B V).1,oh ((B V).2),_,F ab V,(dV _ _).aH j i λb4 m7 al h9 ae=>⟨b4,rfl,eU ?_ (b.trans ae)⟩⟩
   simp at h8
   constructor
   .intro an
    exact iH (Or.inr (oh (nb al an)))
   .intro l
    rcases l.ret e with an|an
    .omega
    .have:¬b4=true:=λav=>by have:=al.1 av;omega
     simpa using this
  simp only[aj]at e5
  refine⟨λe=>?_,λe6=>?_⟩
  .simp only[aI]at e
   have W:=G.2.2.1 V
   have j:=B V
   refine⟨V,V,_,D f V,j.1,V,_,F f V,(IK t C.ok.fy hI (C.F.pR j.1 j.2 C.MM)).aH n i λg A c w a=>⟨g,rfl,eU (c.trans ?_) (b.trans a)⟩⟩
   refine⟨λd=>?_,λh=>h.apply e⟩
   refine⟨q,p,?_,?_,?_,?_,?_,?_,?_,?_,?_,?_,?_⟩<;>intro r<;>first|(exfalso;omega)|exact d
  simp only[aj]at e6
  refine⟨λe=>?_,λe7=>?_⟩
  .simp only[aI]at e
   have W:=G.2.1 V
   have j:=B V
   refine⟨V,V,_,D f V,j.1,V,_,F f V,d,t.ru,(jb t.heap (C.F.pR j.1 j.2 C.MM)).aH n i λg A c w a=>⟨g,rfl,λu=>?_,λz=>bV (λl=>fb c z (l.Xa e).1) (b.trans a)⟩⟩
   have v:=c.1 u
   refine(fS (Q.ext (b.trans a)) v.1 (bS v).1).aH a i ?_
   rintro _ m5 ⟨fl,rfl,aa,k⟩
   refine⟨k,_,_,_,rfl,eU ?_ (b.trans (a.trans k))⟩
   simp only[ar]
   refine⟨λd=>?_,λh=>(h.Xa e).2⟩
   refine⟨q,p,?_,?_,?_,?_,?_,?_,?_,?_,?_,?_,?_⟩<;>intro r<;>first|(exfalso;omega)|exact⟨v,d⟩
  simp only[aj]at e7
  refine⟨λe=>?_,λe8=>?_⟩
  .simp only[aI]at e
   have W:=G.2.1 V
   have j:=B V
   refine⟨V,V,_,D f V,j.1,V,_,F f V,(dV _ _).aH n i λg A c w a=>⟨g,rfl,eU (c.trans ?_) (b.trans a)⟩⟩
   refine⟨λd=>?_,λh=>h.drop e⟩
   refine⟨q,p,?_,?_,?_,?_,?_,?_,?_,?_,?_,?_,?_⟩<;>intro r<;>first|(exfalso;omega)|exact d
  simp only[aj]at e8
  refine⟨λe=>?_,λe9=>?_⟩
  .simp only[bR,aI]at e
   refine(Ke t hI (R.ext f) (U.ext f) (L.ext f) C.F C.MM C.arg ⟨G.2.2.2.1 e,G.1⟩ e).aH n i λg A c w a=>⟨g,rfl,eU (c.trans ?_) (b.trans a)⟩
   refine⟨λd=>?_,λh=>h.NQ e⟩
   refine⟨q,p,?_,?_,?_,?_,?_,?_,?_,?_,?_,?_,?_⟩<;>intro r<;>first|(exfalso;omega)|exact d
  simp only[br,aj]at e9
  refine⟨λe=>?_,λab=>?_⟩
  .simp only[aI]at e
   have W:=G.2.1 V
   have j:=B V
   refine⟨d,t.ru,V,V,_,D f V,j.1,V,_,F f V,(jb t.heap (C.F.pR j.1 j.2 C.MM)).aH n i λg A c w a=>⟨g,rfl,λu=>?_,λz=>bV (λl=>fb c z (l.load e).1) (b.trans a)⟩⟩
   have v:=c.1 u
   have H:=b.trans a
   refine⟨V,V,_,D H V,j.1,V,_,F H V,(fS (Q.ext H) v.1 (bS v).1).aH a i ?_⟩
   rintro _ m5 ⟨fl,rfl,aa,k⟩
   have ag:=aa.len
   refine⟨k,_,_,_,rfl,k.da ((ai.ext a).cp 2),eU ?_ (b.trans (a.trans k))⟩
   simp only[ar]
   refine⟨λd=>?_,λh=>oh ((h.load e).2)⟩
   refine⟨q,p,?_,?_,?_,?_,?_,?_,?_,?_,?_,?_,?_⟩<;>intro r<;>first|(exfalso;omega)|exact⟨v,V⟩
  simp only[aj]at ab
  refine⟨λe=>?_,λag=>?_⟩
  .simp only[aI]at e
   have W:=G.2.1 V
   have j:=B V
   refine⟨d,t.ru,V,V,_,D f V,j.1,V,_,F f V,(jb t.heap (C.F.pR j.1 j.2 C.MM)).aH n i λg A c w a=>⟨g,rfl,λu=>?_,λz=>bV (λl=>fb c z (l.Fs e).1) (b.trans a)⟩⟩
   have v:=c.1 u
   have H:=b.trans a
   have l:=Q.ext H
   refine⟨ah,l.bo,V,V,_,D H V,j.1,V,_,F H V,(AK l.fy.bo C.ok.fy.nT.types _).aH a i ?_⟩
   rintro _ m5 ⟨cs,rfl,ak,k⟩
   have s:=a.trans k
   refine⟨k,cs,rfl,k.da (F H V),k.da (D H V),k.da ((ai.ext a).cp 4),k.da ((ao.ext a).cp 3),(fS (Q.ext (b.trans s)) v.1 (bS v).1).aH s i ?_⟩
   rintro _ m6 ⟨fl,rfl,aa,T⟩
   refine⟨T,_,_,_,rfl,(dv (ak.ext T) _).aH (s.trans T) i λb2 m7 y h8 ae=>⟨b2,rfl,eU (y.trans ?_) (b.trans ae)⟩⟩
   refine⟨λd=>?_,λh=>(h.Fs e).2⟩
   refine⟨q,p,?_,?_,?_,?_,?_,?_,?_,?_,?_,?_,?_⟩<;>intro r<;>first|(exfalso;omega)|exact⟨v,d⟩
  .simp only[aj]at ag
   refine iR ?_ f
   refine⟨q,p,?_,?_,?_,?_,?_,?_,?_,?_,?_,?_,?_⟩<;>intro r<;>exfalso<;>omega
end
end Go.Proofs.YtkoifinbblcbiaaGreat
