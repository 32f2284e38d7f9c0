/- Part of a proof. -/
import Derived.Test.YtkoifinbblcbiaaGreatSF01
set_option linter.all false
set_option maxHeartbeats 8000000
set_option maxRecDepth 100000
namespace Go.Proofs.YtkoifinbblcbiaaGreat
open Go.Vc
section
variable{c m:E}{k i g a:Nat}{s:O}{d:List Nat}{e:List Int}{x:cU}{f:List gP}
def VC{a b:E}(h:J a c)(f:Fz [k] c b)(g:a.size<=k):J a b:=Fz.ext (((h.fz [k]).trans f).DB λe d=>Or.inr (by simp at d;omega))
def _root_.Go.Vc.Fz.Ox{M b:E}(f:Fz [k] c M)(h:s.D=k\/c.size<=s.D)(g:M.size<=b.size)(q:∀a,a<M.size->a≠s.D->b[a]? =M[a]?):Fz [k] c b:=
 f.rX ⟨g,λa d e=>q a d (by simpa using e)⟩ (Y:=[s.D]) (λy d=>by simp at d⊢;omega)
def GI.Zy{X:List Nat}{b:E}{x:O}{f:List Int}{K:O->E->Prop}(h:GI d b m s e)(k:Fz X b m)(n:ap m x f)(p:e.length+f.length<=10^12)
 (l:∀r a,GI d b a r (e++f)->Fz X b a->(m.size<=a.size/\(r.D=s.D\/m.size<=r.D))->(∀c,c<m.size->c≠s.D->a[c]? =m[c]?)->K r a):jL m aA [.i 0] 8 s x K:=by
 let⟨o,g,i,j⟩:=n.VN (b:=1) λ_ _ h=>by rw[h];rfl
 exact Gr.next (g:=[.i 0]) tW.mono bh h k g i j V l
def bN(d:List Nat){b:O}(h:ap m b e)(c:e.length<=10^12):kZ 66 [O.v b] m d (e=·):=by
 apply nB;intro i;have a:J m i:=J.push m _;exact GI.Zy (e:=[]) (X:=[]) (GI.nil d m) (a.fz []) (h.ext a) (by simpa using c) λr j g f _ _=>⟨r,e,rfl,by simpa using g,rfl,f.ext⟩
abbrev GB(d:List Nat)(a m:E)(s:O)(e:List Bk):Prop:=Gr d a m di 2 rJ s e
def GB.new(d:List Nat)(m:E):GB d m (m.push (.cells (bt []) di)) (.mk m.size 0 0 0) []:=Gr.new d (ad _) _ _ _
def GB.kK{d X:List Nat}{g m:E}{s a:O}{e:List Bk}{c:Bk}{K:O->E->Prop}(h:GB d g m s e)(k:Fz X g m)(j:eP (bG (s.D::d) m) a c.aD)(l:e.length<=10^12)
 (i:∀r b,GB d g b r (e++[c])->Fz X g b->m.size<=b.size/\(r.D=s.D\/m.size<=r.D)->(∀f,f<m.size->f≠s.D->b[f]? =m[f]?)->K r b):
 jL (m.push (.cells (bt [.s a,.i c.aS]) di)) di [.s .nil,.i 0] 32 s (.mk m.size 0 1 1) K:=
 Gr.kK (g:=[.s .nil,.i 0]) rJ.mono bh h k (by cases c;exact rJ.of j) V i
def Kw{a:List bz}{b bP:Int}{y:Int}(h:b=8)(c:(cz a bP)[i]? =some y):BH a b bP i=(cD a y).length:=by unfold BH;rw[an h,c];rfl
def Kx{b:List bz}{a bP:Int}(h:a≠8):BH b a bP i=0:=by unfold BH;rw[ae h]
def _root_.Go.Vc.WS.PH{b:List bz}{f d:Prop}(h:WS b g f a x)(j:f->d){bZ:Int}(l:0<=bZ/\bZ<=(a:Int)){bD:List Bk}(i:bD.length=x.bD.length)(m:∀(k:Nat)(c:Bk),bD[k]? =some c->WB b g d (a+BH b x.op x.bP k) c):WS b g d a ⟨x.op,x.bP,bZ,x.args,bD⟩:=
 ⟨⟨h.fe.op.imp id λh=>⟨j h.1,h.2⟩,h.fe.args,h.fe.lK,l,λe=>i.trans (h.fe.Kc e),λe=>i▸h.fe.all e,h.fe.call⟩,m⟩
def Io(hS:∀g∈d,g<m.size){Y U ae a k ac ab:O}{r:List bz}{G lo la:List Int}(D:eL m Y U r f)(hv:ap m ae G)(ha:ap m a x.args)(R:nF m k x.bD)(ho:ap m ac lo)(aA:ap m ab la)
 (aD:∀o∈lo,0<=o/\o<(G.length:Int))(Xr:lo.length+5*x.w<=500)(Xq:la.length+1000*x.w<=1000000)(vN:G.length+5*x.w<=1000000)(aa:WS r f.length False G.length x)(ih:∀c∈x.bD,Wv r f c):
 Ko 293 [.agg #[O.v Y,O.v U],O.v ae,oZ x a k,O.v ac,O.v ab] m d λy=>WS r f.length True G.length y/\y.op=x.op/\y.w<=1+x.args.length+1100*bw x.bD:=by
 apply Az
 simp -zeta only[aC,aB]
 intro m0 o p ak
 let⟨q,u,s0,s1,s2⟩:=qd (a:=m0) (b:=o) (c:=p) rfl rfl rfl
 have ao:J p ak:=J.push _ _
 have gk:=GB.new (o.size::d) p
 clear_value p
 have aK:=ha.len;have az:=R.len;have hw:=cU.mu x;have aQ:=Kz x.bD
 refine(iu (e:=[p.size]) (by simp[ak]) (D.le (q.trans ao).le).bo D.types x.bP).aH ao u λg cl m4 t F x4 u4=>⟨_,rfl,?_⟩
 subst F
 have aR:=t.len
 refine eA (n:=x.bD.length) (az▸R.gT) (λj s M=>Fz [p.size] m4 M/\(s.D=p.size\/m4.size<=s.D)/\∃e,GB (o.size::d) p M s e/\e.length=j/\(∀(i:Nat)(c:Bk),e[i]? =some c->WB r f.length True (G.length+BH r x.op x.bP i) c)/\bw e<=1100*bw (x.bD.take j)) ⟨Fz.az _ _,Or.inl rfl,[],gk.ext rJ.mono x4,rfl,aL,aL⟩ ?_
 rintro j s T au μ hj ⟨N,aE,e,Q,aT,ag,ay⟩ aH
 have h:=VC u4 N (ad _)
 have hy:=Q.bn
 refine dit (λz=>?_) λz=>?_
 .intro m6
  have l:J T m6:=J.push _ _
  let⟨c,C⟩:=cG x.bD j
  have aM:=wK C
  have aP:=ur C
  have aw:∀{M:E},J T M->∀g∈s.D::o.size::d,g<M.size:=λz=>bO (bO hS q.size (u _ aL)) (h.trans z).size (oh z.size)
  have iI:∀(M:E)(H:O)(P:List Int)(w:O),J T M->ap M H P->P.length=BH r x.op x.bP j->eP M w c.aD->
   aN cp 322 [.agg #[O.v Y,O.v U],O.v ae,O.v H,.agg #[O.v w,vi c.aS],O.v ac,O.v ab] M λrv K=>eG [o.size,m0.size,m.size] M K/\∃am:O,∃an:Int,rv=.agg #[O.v am,vi an]/\
    let M1:E:=K.push (.cells (bt [.s am,.i an]) di)
    jL M1 di [.s O.nil,.i (0:Int)] 32 s (O.mk K.size 0 1 1) λal L=>eG [o.size,m0.size,m.size] M1 L/\au al (cT ((j:Int)+(1:Int))) L/\μ al (cT ((j:Int)+(1:Int))) L<μ s j T:=by
   intro M H P w B hf af I
   have X:=q.trans (h.trans B)
   have b3:=Qw D.types x.op x.bP j
   refine(JK (c:=s.D::o.size::d) (aw B) (D.le X.le) (hv.ext X) hf I (ho.ext X) (aA.ext X) ⟨aD,V,V,V,V,af▸aa.bD j c C⟩ (ih c (aq C))).aH (h.trans B) u λss b' K aF F y u'=>⟨_,_,rfl,?_⟩
   refine GB.kK (c:=b') (Q.ext rJ.mono (B.trans y)) (u'.fz []) aF (oh (qe x.bD)) λU L g2 f2 z2 q2=>⟨J.oH (u'.aK _) f2.ext u,aH V _ _ ⟨(N.then (B.trans y)).Ox aE z2.1 q2,?_,_,g2,bE,λi b2 v=>?_,?_⟩⟩
   .have A:=(N.then (B.trans y)).size
    rcases z2.2 with Z|Z<;>omega
   .rcases aW i e.length with A|A
    .rw[ax A]at v;exact ag i b2 v
    .rw[aI A]at v
     have:i -e.length=0:=by have:=av v;simp at this;omega
     rw[this]at v;simp at v;subst v
     have:i=j:=V
     subst this
     rw[<-af];exact F.1
   .rw[oQ,uq,zw]
    have:=F.2;omega
  refine⟨λA=>?_,λA=>?_⟩
  .simp only[aG]at A
   have aS:=(aa.fe.all A).1
   let⟨ar,ah⟩:=cG (cz r x.bP) j
   refine⟨V,V,ar,(eQ.1 ((t.le ((N.then l).df aL)).aF ah)).2,?_⟩
   have W:=h.trans l
   refine(dJ (e:=[]) aL ((D.le (q.trans W).le).bo.le (zV _)) D.types ar).aH W u λH P m7 hf F x7 u7=>⟨_,rfl,?_⟩
   subst F
   let⟨w,I,e0,e1⟩:=(R.le (q.trans u7).le).aF C
   exact⟨V,V,_,e0,_,e1,iI m7 H _ w (l.trans x7) (hf.le (bA _ _)) (Kw A ah).symm I⟩
  .simp only[aj]at A
   let⟨w,I,e0,e1⟩:=(R.le (q.trans (h.trans l)).le).aF C
   exact⟨V,V,_,e0,_,e1,iI m6 _ [] w l (mF _ _ _ _ _ _) (Kx A).symm I⟩
 .have A:e.length=x.bD.length:=V
  rw[bY V]at ay
  refine(bN (o.size::d) (ha.ext (q.trans h)) V).aH h u λB H m6 w Z l W=>⟨_,rfl,aJ (l.same _ (h.lt (u _ aL))) _,aJ (l.same _ (h.lt (u _ aL))) _,?_⟩
  subst Z
  intro m7
  have C:=(Q.ext rJ.mono l).bn
  have v:∀g∈o.size::d,g<p.size:=bO hS q.size V
  refine⟨B,s,⟨x.op,x.bP,0,x.args,e⟩,rfl,(w.done (λg t=>aO (v g t) h.size) V).le (cA aL λg t=>ai _ t),nF.le (cA aL λg t=>ai _ t) ((Q.ext rJ.mono l).done rJ.mono v bh (by have:=qe x.bD;show e.length<=_;omega)),⟨aa.PH (λz=>z.elim) ⟨V,V⟩ A ag,rfl,?_⟩,(q.trans W).ah V _ _⟩
  rw[cU.mu]
  simp only
  omega
def _root_.Go.Vc.Rx{σ τ ρ:Type}{n:Nat}(u:n<=9223372036854775807){j:σ}{l:τ}{h:ρ}{g:(σ->τ->ρ->Int->E->Prop)->(σ->τ->ρ->Int->E->Nat)->σ->τ->ρ->Int->E->Prop}(Q:Nat->σ->τ->ρ->E->Prop)(p:Q 0 j l h m)
 (o:∀(k:Nat)(s:σ)(t:τ)(r:ρ)(a:E)(I:σ->τ->ρ->Int->E->Prop)(μ:σ->τ->ρ->Int->E->Nat),k<=n->Q k s t r a->
  (k<n->∀d e c b,Q (k+1) d e c b->I d e c (cT ((k:Int)+1)) b/\μ d e c (cT ((k:Int)+1)) b<μ s t r k a)->g I μ s t r k a):
 ∃(I:σ->τ->ρ->Int->E->Prop)(μ:σ->τ->ρ->Int->E->Nat),I j l h 0 m/\∀s t r i a,I s t r i a->g I μ s t r i a:=by
 refine⟨λs t r i b=>∃k:Nat,i=k/\k<=n/\Q k s t r b,λ_ _ _ i _=>(n -i).toNat,⟨0,rfl,dN _,p⟩,?_⟩
 rintro s t r i a ⟨k,rfl,q,v⟩
 refine o k s t r a _ _ q v λf d e c b w=>?_
 rw[kC f u]
 exact⟨⟨k+1,rfl,f,w⟩,Dr f⟩
structure CB(ds:List bz)(g:Nat)(d:List Nat)(m2 M:E)(v lo:List Int)(aD:List cU)(k:Nat)(st inn mn:O):Prop where
 x:J m2 M
 hs:∃e,GS (inn.D::mn.D::d) m2 M st e/\WL ds g True v.length e/\dc e=dc (aD.take k)/\sw e<=1100*sw (aD.take k)
 hi:∃e,GI d m2 M inn e/\e.length=v.length+dc (aD.take k)
 hm:∃e,GI d m2 M mn e/\e.length<=lo.length+k/\∀o∈e,0<=o/\o<((v.length+dc (aD.take k):Nat):Int)
 ne:inn.D≠mn.D
def ZC{b:List bz}(h:WS b g False a x):dn x=1:=an (h.fe.op.resolve_right λh=>h.1)
def Gp{U:List bz}:∀c:Bk,Wv U f c:=by
 refine Bk.ind ?_;intro aD v ih d m hS b8 c0 dQ c2 dM c6 aj lo la hn hv hs A bP hp;have bf:=hp.wb.aT;simp only[Bk.jT,Bk.jv]at*;have Xr:=hp.Xr;have Xq:=hp.Xq;have vN:=hp.vN;rw[(Bk.qI aD v)]at Xr Xq vN;apply yJ;simp -zeta only[aC,aB];intro m0 o q aI;let⟨F,N,s0,s1,s2⟩:=qd (a:=m0) (b:=o) (c:=q) rfl rfl rfl;have bo:J q aI:=J.push _ _;have bK:∀am,GS am q aI (.mk q.size 0 0 0) []:=λam=>GS.new am q;have s3:aI.size=q.size+1:=by simp[aI]
 clear_value aI;clear_value q;have bS:=hs.len;have cK:=By aD;have ds:=fZ aD;refine(bN d (hv.ext (F.trans bo)) V).aH bo N λl _ m4 G p x4 u4=>⟨_,rfl,?_⟩;subst p;refine(bN d (A.ext (F.trans u4)) V).aH u4 N λu _ m5 W p x5 u5=>⟨_,rfl,?_⟩;subst p;have bT:=G.bn;have bU:=W.bn;refine Rx (n:=aD.length) (bS▸hs.gT) (λk z l u g=>CB U f.length (o.size::d) q g aj lo aD k z l u) ⟨u5,⟨[],((bK _).ext gE.mono x4).ext gE.mono x5,WL.nil _ _ _ _,rfl,aL⟩,⟨aj,((G.ext x5).cy (λ_ h=>h) bo.size).any,aL⟩,⟨lo,(W.cy (λ_ h=>h) u4.size).any,V,by simpa using hp.aR⟩,V⟩ ?_;clear G W bT bU bK;rintro k z l u B bq μ hk ⟨x6,⟨R,gs,aX,Z,dt⟩,⟨li,G,aT⟩,⟨lm,W,db,bQ⟩,dm⟩ a3
 have v6:=F.trans x6;have dg:=G.len bh;have de:=sZ (aD.take k);have dj:=qK k aD;have L:∀j∈o.size::d,j<q.size:=bO hS F.size (N _ aL);have cv:ap B l li:=(G.done L V).le (bA _ _);have cx:ap B u lm:=(W.done L V).le (bA _ _);have dH:=gs.bn;have bT:=G.bn;have bU:=W.bn;have cJ:=fZ (aD.take k);have dh:k<=sw (aD.take k):=by rw[gJ]at cJ;omega
 refine dit (λh=>?_) λh=>?_
 .let⟨x,r⟩:=cG aD k;let⟨a,kk,ha,bM,g0,g1,g2,g3,g4⟩:=hs.aF r;refine⟨V,V,_,v6.af g0,_,v6.af g1,_,v6.af g2,_,v6.af g3,_,v6.af g4,?_⟩;intro m7 C;have x8:J B C:=(J.push B _).ah (ad _) _ _;have s8:C.size=B.size+1:=by simp[C,m7,aw]
  clear_value C;have T:=x6.trans x8;have z6:=x6.size;have t:∀{g:E},C.size<=g.size->∀c∈[B.size,o.size,m0.size,m.size],c<g.size:=λh c hb=>by
   rcases List.mem_cons.1 hb with p|p
   .omega
   .have:=T.lt (N c p);omega
  have dA:=pU r;have dy:=qN r;have dz:=cU.mu x;have af:WS U f.length False li.length x:=by rw[aT];exact bf.1 k x r
  have bL:=ZC af;have dv:=cK (k+1);have dd:=qe x.bD;have dk:=fZ R;have ae:∀{g:E},J q g->At g b8 c0 a kk U f x:=λh=>⟨hn.le (F.trans h).le,ha.ext (F.trans h),af.fe.call⟩;have aW:∀{g:E},GI (o.size::d) q g l li->ap g l li:=λw=>(w.done L V).le (bA _ _);have bd:∀{g:E},GI (o.size::d) q g u lm->ap g u lm:=λw=>(w.done L V).le (bA _ _);have an:∀{g:E}{am:List Nat},C.size<=g.size->(∀j∈am,j<g.size)->∀j∈am++o.size::d,j<g.size:=λh hb j b=>by
   rcases List.mem_append.1 b with h|h
   .exact hb j h
   .have:=L j h;omega
  refine(nX (ae T).QS (aW (G.ext x8)) (ae T).args (bM.le (F.trans T).le) V λc _=>nm c).aH (J.az C) (t (ad _)) λty m9 x9 _=>⟨_,rfl,?_⟩;intro aZ;have b2:J C aZ:=x9.aK _;have e0:ap (bG [] aZ) (.mk m9.size 0 0 0) []:=mF _ _ _ _ _ _;clear_value aZ;rw[kC (k:=k) (n:=aD.length) V (bS▸hs.gT)]at a3⊢
  refine(Ak (.mk aD v) [] aZ aL c2 _ _ _ (k+1) (hs.le (F.trans (T.trans b2)).le) e0 (by simp only[Bk.jT];omega) (by simp only[Bk.qI,eW];omega)).aH b2 (t (ad _)) λus ul cO hu cL dR bn=>⟨_,rfl,?_⟩;rw[Bk.qI,eW]at cL;refine(OR (S:=[]) aL hu ((bP.ext (F.trans (T.trans bn))).le (zV _)) V).aH bn (t (ad _)) λlt ll cP ba bY c3 au=>⟨_,rfl,?_⟩;have aH:∀{g:E},GI [] cO g lt ll->ap g lt ll:=λw=>(w.done aL (oh bY.2)).le (bA _ _);have br:=T.trans au;have bx:=G.ext (x8.trans au);have bI:=W.ext (x8.trans au);have cq:=gs.ext gE.mono (x8.trans au);refine(Gs (b:=[]) aL (ae br) (aW bx) af.fe.args (bd bI) (aH ba) V).aH (J.az cP) (t au.size) λdu dl cQ cj bZ av _=>⟨_,rfl,?_⟩;have c7:=bZ.2;have dT:=au.size;have dU:=av.size;have dS:=bn.size;have d8:=c3.size;refine(eY (c:=[z.D,l.D,u.D]++o.size::d) (an V bE) 14 ((cj.done aL V).le (bA _ _)) V).aH (J.az cQ) (t V) λdO _ a0 ce p ax _=>⟨_,rfl,?_⟩;subst p;have dV:=ax.size;refine GS.all (cq.ext gE.mono (av.trans ax)) (((br.trans av).trans ax).fz []) (ce.done gE.mono (an (am:=[z.D,l.D,u.D]) V bE) bh bE) bE λbm bV bv b9 b3 a5=>⟨λj b=>a5 j (t V j b) ?_,?_⟩
  .simp at b;omega
  have aS:J q bV:=b9.ext;have cw:l.D<a0.size:=V;have cy:u.D<a0.size:=V;have cz:z.D≠l.D:=gs.Ld G bh;have cB:z.D≠u.D:=gs.Ld W bh;have di:=ba.bn;have bB:=(bx.ext (av.trans ax)).jx (a5 _ cw cz.symm);have bJ:=(bI.ext (av.trans ax)).jx (a5 _ cy cB.symm);have bF:=(ba.ext (av.trans ax)).jx (a5 _ V V);have dp:bm.D=z.D\/a0.size<=bm.D:=b3.2;have dD:=bv.bn;have dW:=b3.1;refine(Io (d:=[bm.D,l.D,u.D]++o.size::d) (an V bE) (ae aS).QS (aW bB) (ae aS).args (bM.le (F.trans aS).le) (bd bJ) (aH bF) (by rw[aT];exact bQ) V (oh bY.2) V af (ih x (aq r))).aH (J.az bV) (t V) λc_ da x' bW cr cs cY ay _=>⟨_,_,_,_,_,rfl,?_⟩;let⟨cM,cI,dx⟩:=cY;have dX:=ay.size;refine GS.kK (x:=x') (bv.ext gE.mono ay) ((aS.trans ay).fz []) cr cs bE λaK bg bw b_ b4 a6=>⟨λj b=>?_,?_⟩
  .have:=t (g:=bW) V j b;rw[a6 j this (by simp at b;omega),(J.push bW _).same j this]
  have a8:J q bg:=b_.ext;have bC:=(bB.ext ay).jx (a6 _ V V);have co:=(bJ.ext ay).jx (a6 _ V V);have a_:=(bF.ext ay).jx (a6 _ V V);have dq:aK.D=z.D\/a0.size<=aK.D:=by have:=b4.2;omega
  have dY:=b4.1;refine(Iu (b:=[]) aL (ae a8) (aW bC) af.fe.args (bd co) (aH a_) V).aH (J.az bg) (t V) λar lf cR gf bk az _=>⟨_,rfl,?_⟩;have bs:=a8.trans az;have dZ:=az.size;have cu:∀{g:E},GI [] bg g ar lf->ap g ar lf:=λw=>(w.done aL (oh bk.2)).le (bA _ _);refine(Iv (b:=[]) aL (ae bs) (cu gf) (aH (a_.ext az)) V).aH (J.az cR) (t V) λc1 Q cS gd b0 aA _=>⟨_,rfl,?_⟩;have d0:=aA.size;have c9:=b0.2;have c8:=bk.2;have dG:=gf.bn;have dF:=gd.bn;have dE:=bw.bn;refine(eY (c:=[aK.D,ar.D,l.D]++o.size::d) (an V bE) 15 ((gd.done aL V).le (bA _ _)) V).aH (J.az cS) (t V) λdP _ cT cg p ak _=>⟨_,rfl,?_⟩;subst p;have b6:=(bs.trans aA).trans ak;have d3:=ak.size;have cf:GS ([ar.D,l.D]++o.size::d) q cT aK _:=bw.re gE.mono (Y:=[]) (((az.trans aA).trans ak).fz []) aL aL λj b=>by
   simp only[cZ,eF,aV]at b⊢;rcases b with h|h|h
   .exact Or.inr V
   .exact Or.inl (Or.inl h)
   .exact Or.inl (Or.inr (Or.inr h))
  refine GS.all cf (b6.fz []) (cg.done gE.mono (an (am:=[aK.D,ar.D,l.D]) V bE) bh bE) bE λH a1 ch ca c4 aJ=>⟨λj b=>aJ j (t V j b) ?_,?_⟩
  .simp at b;omega
  have b7:J q a1:=ca.ext;have d4:=c4.1;have cm:=((bC.ext az).ext (aA.trans ak)).jx (aJ _ V V);have cl:=(gf.ext (aA.trans ak)).jx (aJ _ V V);have ci:=(gd.ext ak).jx (aJ _ V V);have cn:=((a_.ext az).ext (aA.trans ak)).jx (aJ _ V V);have bc:ap a1 c1 Q:=(ci.done aL V).le (bA _ _);have ct:=bc.len;have ck:GI (o.size::d) q a1 ar lf:=(cl.cy (λ_ h=>h) a8.size).any;refine eA (n:=Q.length) (ct▸bc.gT) (λ_ s g=>J a1 g/\∃e,GI (o.size::d) q g s e/\GS ([s.D,l.D]++o.size::d) q g H (R++dl.map (eZ 14)++[x']++Q.map (eZ 15))/\pp lf e/\l.D≠s.D/\C.size<=s.D) ⟨J.az _,lf,ck,ch,⟨λ_ h=>h,ad _⟩,V,V⟩ ?_;rintro i s bi I2 μ2 hi ⟨aE,e,gl,bb,P,cC,dr⟩ cW;have bu:=b7.trans aE;have d5:=aE.size;have cN:=gl.bn;refine dit (λh2=>?_) λh2=>?_
  .let⟨I,K⟩:=cG Q i;refine⟨V,V,I,(bc.ext aE).aF K,?_⟩;refine(Bu (S:=[]) aL (((gl.done L (oh P.2)).le (bA _ _)).le (zV _)) I (oh P.2)).aH (J.az bi) (t V) λac X ab g2 y D _=>⟨_,rfl,cW V _ _ ⟨aE.trans D,X,(g2.cy (λ_ h=>h) bu.size).any,?_,⟨λaF hz=>P.1 aF (y.1 aF hz),bH y.2 P.2⟩,?_,?_⟩⟩
   .have aa:=g2.bn;refine bb.re gE.mono (Y:=[]) (D.fz []) aL aL λj b=>?_;simp only[cZ,eF,aV]at b⊢;rcases b with h|h|h
    .exact Or.inr V
    .exact Or.inl (Or.inr (Or.inl h))
    .exact Or.inl (Or.inr (Or.inr h))
   .have:=g2.bn;omega
   .have:=g2.bn;omega
  intro dJ;have bD:=cm.ext aE;refine GI.kK bD (bu.fz []) L V λaa ao ab cb b5 a7=>⟨λj b=>?_,?_⟩
  .have:=t (g:=bi) V j b;rw[a7 j this (by simp at b;omega),(J.push bi _).same j this]
  have a9:J q ao:=cb.ext;have c5:=b5.1;have cF:H.D≠l.D:=bb.Ld bD bh;have aG:=gl.jx (a7 _ cN.2 cC.symm);have bR:=b5.2;have ac:GS ([s.D,aa.D]++o.size::d) q ao H _:=bb.re gE.mono (Y:=[l.D]) ⟨c5,λj b hn=>a7 j b (by simpa using hn)⟩ aL (by simpa using cF) λj b=>by
   simp only[cZ,eF,aV]at b⊢;rcases b with h|h|h
   .exact Or.inl (Or.inl h)
   .rcases bR with p|p
    .exact Or.inl (Or.inr (Or.inl (h.trans p)))
    .exact Or.inr V
   .exact Or.inl (Or.inr (Or.inr h))
  have bj:aa.D≠s.D:=by rcases bR with p|p<;>omega
  have I:WL U f.length True aj.length (R++dl.map (eZ 14)++[x']++Q.map (eZ 15))/\dc (R++dl.map (eZ 14)++[x']++Q.map (eZ 15))=dc (aD.take (k+1))/\sw (R++dl.map (eZ 14)++[x']++Q.map (eZ 15))+2<=1100*sw (aD.take (k+1)):=by
   have df:dn x'=1:=by unfold dn at bL⊢;rw[cI];exact bL
   have d1:dc (dl.map (eZ 14))=0:=jU V _;have d2:dc (Q.map (eZ 15))=0:=jU V _;refine⟨((aX.append (rP V λy A=>?_)).yD ?_).append (rP V λy A=>?_),?_,?_⟩
   .rw[Z,<-aT];exact af.fe.args y (bZ.1 y A)
   .rw[cV,d1,Z,jF,<-aT];exact cM
   .have:=af.fe.args y (b0.1 y A);rw[cV,cV,d1,Z,kM,ta];omega
   .rw[cV,cV,cV,d1,d2,Z,kM,ta];omega
   .rw[dC,dC,dC,oC,oC,mK,vm];omega
  have be:∀y∈e,0<=y/\y<((aj.length+dc (aD.take (k+1)):Nat):Int):=λy A=>by
   have:=bQ y (bk.1 y (P.1 y A));omega
  have bX:∀(g:E),J ao g->bq H aa s ((k+1:Nat):Int) g/\μ H aa s ((k+1:Nat):Int) g<μ z l u k B:=λg r=>
   a3 V _ _ _ _ ⟨a9.trans r,⟨_,(ac.re gE.mono (Y:=[]) (r.fz []) aL aL λj b=>Or.inl (by simp only[cZ,eF,aV]at b⊢;rcases b with h|h|h;exact Or.inr (Or.inl h);exact Or.inl h;exact Or.inr (Or.inr h))),I.1,I.2.1,V⟩,⟨_,ab.ext r,bE⟩,⟨e,aG.ext r,oh P.2,be⟩,bj⟩
  have dI:=ac.bn;have cX:∀(g:E),J ao g->aN cp 227 [vi (15:Int),vi (l.len:Int)] g λrv D=>eG [B.size,o.size,m0.size,m.size] g D/\∃aM:Int,∃aO:Int,∃aP:Int,∃aQ:O,∃aR:O,rv=.agg #[vi aM,vi aO,vi aP,O.v aQ,O.v aR]/\
   let M2:E:=D.push (.cells (bt [.i aM,.i aO,.i aP,.s aQ,.s aR]) gC)
   jL M2 gC [.i (0:Int),.i (0:Int),.i (0:Int),.s O.nil,.s O.nil] 72 H (O.mk D.size 0 1 1) λb1 K=>eG [B.size,o.size,m0.size,m.size] M2 K/\bq b1 aa s ((k+1:Nat):Int) K/\μ b1 aa s ((k+1:Nat):Int) K<μ z l u k B:=by
   intro g r
   have zx:=r.size
   have dB:=ab.bn
   refine(jg (c:=[H.D,s.D,aa.D]++o.size::d) (an V bE) 15 (l.len:Int)).mono λrv D⟨pa,pk,p,X,h2,ag⟩=>?_
   subst p
   have d7:=ag.size
   have aY:=r.trans ag
   refine⟨ag.dv (t V),_,_,_,_,_,rfl,?_⟩
   have cD:H.D≠aa.D:=ac.Ld ab bh
   have cE:H.D≠s.D:=ac.Ld aG bh
   refine GS.kK (x:=eZ 15 (l.len:Int)) (ac.ext gE.mono aY) ((a9.trans aY).fz []) X h2 (O8 I.2.2 (fZ (R++dl.map (eZ 14)++[x']++Q.map (eZ 15)))) λr' K w aU aF a4=>⟨λj b=>?_,a3 V _ _ _ _ ⟨aU.ext,⟨_,(w.re gE.mono (Y:=[]) ((J.az _).fz []) aL aL λj b=>Or.inl (by simp only[cZ,eF,aV]at b⊢;rcases b with h|h|h;exact Or.inr (Or.inl h);exact Or.inl h;exact Or.inr (Or.inr h))),I.1.yD (DL V ?_),?_,?_⟩,⟨_,(ab.ext aY).jx (a4 _ V cD.symm),bE⟩,⟨e,(aG.ext aY).jx (a4 _ V cE.symm),oh P.2,be⟩,bj⟩⟩
   .have:=t (g:=D) V j b
    rw[a4 j this (by simp at b;omega),(J.push D _).same j this]
   .rw[I.2.1];omega
   .rw[cV,I.2.1];simp[kM,dn,eZ,pd]
   .rw[dC,mK,vm]
    have h5:(eZ 15 (l.len:Int)).w=2:=by rw[cU.mu];rfl
    have:=I.2.2;omega
  refine⟨λ_=>?_,λh0=>⟨λX=>by rw[h0]at X;simp at X,λ_=>bX ao (J.az _)⟩⟩;refine(dw (aH (((cn.ext aE).jx (a7 _ V V)))) _).any.aH (J.az ao) (t V) λc a2 al _=>⟨_,rfl,λ_=>?_,λ_=>⟨λ_=>cX a2 al,λ_=>bX a2 al⟩⟩;intro dK;have cH:H.D≠s.D:=ac.Ld aG bh;have d6:=al.size;refine GI.kK (aG.ext al) ((a9.trans al).fz []) L (oh P.2) λdN dL cd cc bp bl=>⟨λj b=>?_,a3 V _ _ _ _ ⟨cc.ext,⟨_,(ac.ext gE.mono al).re gE.mono (Y:=[s.D]) ⟨bp.1,λj b hn=>bl j b (by simpa using hn)⟩ aL (by simpa using cH) λj b=>?_,I.1,I.2.1,V⟩,⟨_,(ab.ext al).jx (bl _ ?_ bj),bE⟩,⟨_,cd,?_,?_⟩,?_⟩⟩
  .have:=t (g:=a2) V j b;rw[bl j this (by simp at b;omega),(J.push a2 _).same j this]
  .simp only[cZ,eF,aV]at b⊢;rcases b with h|h|h
   .exact Or.inl (Or.inr (Or.inl h))
   .rcases bp.2 with p|p
    .exact Or.inl (Or.inl (h.trans p))
    .exact Or.inr V
   .exact Or.inl (Or.inr (Or.inr h))
  .have:=ab.bn;omega
  .have:=P.2;simp;omega
  .intro y A;rcases List.mem_append.1 A with A|A
   .exact be y A
   .simp at A;omega
  .have:=ab.bn;rcases bp.2 with p|p<;>omega
 .have aa:k=aD.length:=V;subst aa;rw[fu]at*;have P:∀(g:E)(H:O)(t:List cU),J q g->GS (l.D::u.D::o.size::d) q g H t->WL U f.length True aj.length t->dc t=dc aD->sw t<=1100*sw aD+2->
   let y:E:=ah g o.size 0 [.s H,.i v]
   ∃s c,Value.agg #[O.v H,vi v]=.agg #[O.v s,vi c.aS]/\eP (bG d y) s c.aD/\(WB U f.length True aj.length c/\c.w+1050<=1100*(Bk.mk aD v).w)/\J m y:=by
   intro g H t r w X h2 h3 y
   have ab:=fZ t
   have:=w.bn
   refine⟨H,.mk t v,rfl,eP.le (cA aL λj b=>ai _ b) (w.re gE.mono (S':=o.size::d) (Y:=[]) (Fz.az _ _) aL aL (λj b=>Or.inl (ai _ (ai _ b)))|>.done gE.mono L bh bE),⟨WB.of X (by rw[h2];exact bf.2),?_⟩,(F.trans r).ah V _ _⟩
   rw[Bk.qI,Bk.qI];omega
  have lK:∀(g:E),J B g->aN cp 227 [vi (14:Int),vi v] g λrv D=>eG [o.size,m0.size,m.size] g D/\∃aM:Int,∃aO:Int,∃aP:Int,∃aQ:O,∃aR:O,rv=.agg #[vi aM,vi aO,vi aP,O.v aQ,O.v aR]/\
   let M2:E:=D.push (.cells (bt [.i aM,.i aO,.i aP,.s aQ,.s aR]) gC)
   jL M2 gC [.i (0:Int),.i (0:Int),.i (0:Int),.s O.nil,.s O.nil] 72 z (O.mk D.size 0 1 1) λQ K=>eG [o.size,m0.size,m.size] M2 K/\
    let y:E:=ah K o.size 0 [.s Q,.i v]
    ∃s c,Value.agg #[O.v Q,vi v]=.agg #[O.v s,vi c.aS]/\eP (bG d y) s c.aD/\(WB U f.length True aj.length c/\c.w+1050<=1100*(Bk.mk aD v).w)/\J m y:=by
   intro g r
   refine(jg (c:=z.D::l.D::u.D::o.size::d) (λj b=>?_) 14 v).mono λrv D⟨a,kk,p,X,h2,x1⟩=>?_
   .have:=r.size
    simp at b
    rcases b with h|h|h|h|h
    .omega
    .omega
    .omega
    .have:=x6.lt (N o.size aL);omega
    .have:=hS _ h;have:=v6.size;omega
   subst p
   have ag:=x6.trans (r.trans x1)
   refine⟨J.oH (x6.trans r) ag N,_,_,_,_,_,rfl,?_⟩
   refine GS.kK (x:=eZ 14 v) (gs.ext gE.mono (r.trans x1)) (ag.fz []) X h2 (oh (fZ R)) λr' K w aU aF a4=>⟨J.oH (ag.aK _) aU.ext N,P K r' _ aU.ext w (aX.yD (DL V (by rw[Z];exact bf.2))) ?_ ?_⟩
   .rw[cV,Z];simp[kM,dn,eZ,pd]
   .rw[dC];simp[mK,cU.mu,eZ];omega
  let⟨aF,hz⟩:=cG li v.toNat;refine⟨V,V,aF,cv.aF hz,λ_=>?_,λ_=>P B z R x6 gs aX Z V⟩;refine(dw (bP.ext v6) v).any.aH x6 N λc m7 I u7=>⟨_,rfl,λ_=>lK m7 I,λ_=>?_⟩;exact(dw (cx.ext I) v).any.aH u7 N λc C x8 T=>⟨_,rfl,λ_=>lK C (I.trans x8),λ_=>P C z R T ((gs.ext gE.mono I).ext gE.mono x8) aX Z V⟩
end
structure Zt(ds:List bz)(nr:Nat)(v lm:List Int)(b:Bk):Prop where
 aR:∀o∈lm,0<=o/\o<(v.length:Int)
 lN:lm.length+5*b.w<=1000000
 vN:v.length+5*b.w<=1000000
 wb:WB ds nr False v.length b
def XG(a:List bz)(d:List gP)(b:Bk):Prop:=∀(S:List Nat)(m:E),(∀c∈S,c<m.size)->∀(f r h t g:O)(v c:List Int),eL m f r a d->ap m h v->eP m t b.aD->ap m g c->Zt a d.length v c b->
 nu 240 [.agg #[O.v f,O.v r],O.v h,.agg #[O.v t,vi b.aS],O.v g] m S λe=>WB a d.length True v.length e/\e.w+20<=40*b.w+2*c.length
def JU{o:List Nat}{m:E}(hS:∀c∈o,c<m.size){ag am ay aY K:O}{G:List bz}{rs:List gP}{v:List Int}{x:cU}(hn:eL m ag am G rs)(hv:ap m ay v)(ha:ap m aY x.args)(hk:nF m K x.bD)
 (vN:v.length+5*x.w<=1000000)(aM:WS G rs.length False v.length x)(ih:∀h∈x.bD,XG G rs h):
 Ko 260 [.agg #[O.v ag,O.v am],O.v ay,oZ x aY K] m o λx'=>WS G rs.length True v.length x'/\x'.op=x.op/\x'.w<=1+x.args.length+40*bw x.bD:=by
 apply CL
 simp -zeta only[aC,aB]
 intro F e k a5
 let⟨N,H,s0,s1,s2⟩:=qd (a:=F) (b:=e) (c:=k) rfl rfl rfl
 have a_:J k a5:=J.push _ _
 have gk:=GB.new (e.size::o) k
 clear_value k
 have bs:=ha.len;have bk:=hk.len;have hw:=cU.mu x;have bF:=Kz x.bD;have bo:=hv.len
 have aK:∀c∈e.size::o,c<k.size:=bO hS N.size (H _ aL)
 refine(iu (e:=[k.size]) (by simp[a5]) (hn.le (N.trans a_).le).bo hn.types x.bP).aH a_ H λc cl m4 d aR x4 u4=>⟨_,rfl,?_⟩
 subst aR
 have bH:=d.len
 refine eA (n:=x.bD.length) (bk▸hk.gT) (λj s M=>Fz [k.size] m4 M/\(s.D=k.size\/m4.size<=s.D)/\∃p,GB (e.size::o) k M s p/\p.length=j/\(∀(aa:Nat)(h:Bk),p[aa]? =some h->WB G rs.length True (v.length+BH G x.op x.bP aa) h)/\bw p<=40*bw (x.bD.take j)) ⟨Fz.az _ _,Or.inl rfl,[],gk.ext rJ.mono x4,rfl,aL,aL⟩ ?_
 rintro j s Z aX μ hj ⟨f5,bm,p,C,bI,a4,a0⟩ bq
 have L:=VC u4 f5 (ad _)
 have hy:=C.bn
 refine dit (λu=>?_) λu=>?_
 .intro m6
  have x6:J Z m6:=J.push _ _
  have u6:=L.trans x6
  let⟨h,P⟩:=cG x.bD j
  have bB:=wK P
  have bD:=ur P
  have bu:=Qw hn.types x.op x.bP j
  have bx:=qe x.bD
  refine⟨λaZ M=>J Z M/\∃B,ap M aZ B/\B.length=BH G x.op x.bP j,⟨λh8=>?_,λh8=>?_⟩,?_⟩
  .simp only[aG]at h8
   have g:=(aM.fe.all h8).1
   let⟨y,a⟩:=cG (cz G x.bP) j
   refine⟨V,V,y,(eQ.1 ((d.le ((f5.then x6).df aL)).aF a)).2,?_⟩
   refine(dJ (e:=[]) aL ((hn.le (N.trans u6).le).bo.le (zV _)) hn.types y).aH u6 H λaZ B m7 hf aR f i=>⟨_,rfl,x6.trans f,B,hf.le (bA _ _),?_⟩
   subst aR;exact(Kw h8 a).symm
  .simp only[aj]at h8
   exact⟨x6,[],mF _ _ _ _ _ _,(Kx h8).symm⟩
  rintro fs m8 ⟨R,B,hf,a2⟩
  have e8:(ay.len:Int)=((v.length:Nat):Int):=by rw[bo]
  rw[e8]
  refine(rS (S:=[]) aL (hf.le (zV _)) v.length V).aH (L.trans R) H λmi ml y gm qm T u9=>⟨_,rfl,?_⟩
  let⟨aU,hs,e0,e1⟩:=hk.aF P
  have v9:=N.trans u9
  refine⟨V,V,_,v9.af e0,_,v9.af e1,?_⟩
  have z5:=L.size
  have g9:=C.ext rJ.mono (R.trans T)
  have a3:∀{M:E},J y M->ap M mi ml:=λu=>((gm.done aL (oh qm.2)).le (bA _ _)).ext u
  have bJ:=qm.2
  have E5:∀{M f:E},J k M->J k f->∀{a6:Prop},a6->af f K.D (K.off+Int.toNat (j:Int)*2)=af M K.D (K.off+Int.toNat (j:Int)*2)/\af f K.D (K.off+Int.toNat (j:Int)*2+1)=af M K.D (K.off+Int.toNat (j:Int)*2+1)/\
   af f F.size 4=af M F.size 4/\af f m.size 0=af M m.size 0/\af f m.size 1=af M m.size 1/\a6:=λ{M f} u h' _ hp=>by
   have aD:∀h,h<k.size->∀z,af f h z=af M h z:=λh P z=>aJ (by rw[h'.same h P,u.same h P]) z
   exact⟨((N.trans h').af e0).trans ((N.trans u).af e0).symm,((N.trans h').af e1).trans ((N.trans u).af e1).symm,aD _ V _,aD _ V _,aD _ V _,hp⟩
  have ao:∀{M:E},J Z M->∀c∈s.D::e.size::o,c<M.size:=λu c d=>by
   have:=u.size;rcases List.mem_cons.1 d with g|g
   .omega
   .have:=aK c g;omega
  have X:∀{M:E}{a:Nat},J Z M->a<M.size->∀c∈[a,e.size,F.size,m.size],c<M.size:=λu P c d=>by
   rcases List.mem_cons.1 d with g|g
   .omega
   .exact(L.trans u).lt (H c g)
  have tail:∀(M:E)(a:Nat)(Q:O)(i:Bk),GB (a::e.size::o) k M s p->J Z M->J y M->y.size<=a->a<M.size->eP (bG (a::s.D::e.size::o) M) Q i.aD->WB G rs.length True (v.length+B.length) i/\i.w+20<=40*h.w+2*ml.length->
   let l:E:=ah M a 0 [.s Q,.i i.aS]
   aN cp 257 [vi (14:Int),O.v mi] l λrv q=>eG [a,e.size,F.size,m.size] l q/\∃ab:O,rv=O.v ab/\af q a 1=af l a 1/\af q a 0=af l a 0/\
    jL q gC [.i (0:Int),.i (0:Int),.i (0:Int),.s O.nil,.s O.nil] 72 ab Q λau w=>eG [a,e.size,F.size,m.size] q w/\af w a 1=af q a 1/\
     let M4:E:=w.push (.cells (bt [.s au,.i i.aS]) di)
     jL M4 di [.s O.nil,.i (0:Int)] 32 s (O.mk w.size 0 1 1) λac W=>eG [a,e.size,F.size,m.size] M4 W/\aX ac (cT ((j:Int)+(1:Int))) W/\μ ac (cT ((j:Int)+(1:Int))) W<μ s j Z:=by
   intro M a Q i C I bp bj bv ak hq l
   have z1:l.size=M.size:=aw _ _ _ _
   have z9:=(R.trans T).size
   have ba:J y l:=bp.ah bj _ _
   have U:J Z l:=(R.trans T).trans ba
   have bl:s.D≠a:=V
   have g1:GB (e.size::o) k l s p:=C.re rJ.mono (Y:=[a]) ((Fz.az [a] M).ah (Or.inl aL) _ _) aL (by simpa using bl) λc d=>Or.inl (ai _ d)
   have bn:eP (bG (s.D::e.size::o) l) Q i.aD:=ak.le (cA aL λc d=>ai _ d)
   have bC:=Bk.mu i;have a0:=fZ i.aD
   refine(eY (c:=s.D::e.size::o) (ao U) 14 (a3 ba) V).aH (J.az l) (X U V) λab _ q aH g an _=>⟨_,rfl,aJ (an.same _ V) _,aJ (an.same _ V) _,?_⟩
   subst g
   have z2:=an.size
   refine GS.all aH (an.fz []) (bn.le (td an aH.bn.1)) bE λau w be bd bM a7=>?_
   have ae:J l w:=bd.ext
   have z3:=ae.size
   have bK:=aH.bn
   refine⟨λc d=>a7 c (oh (X U (a:=a) V c d)) (oh (X U (a:=a) V c d)),aJ (a7 _ V V) _,?_⟩
   intro M4
   have bg:=be.done gE.mono (ao U) bh bE
   refine GB.kK (c:=.mk (ml.map (eZ 14)++i.aD) i.aS) (g1.ext rJ.mono ae) ((((L.trans U).trans ae)).fz []) bg V λac W bf br bc a8=>⟨λc d=>?_,bq V _ _ ⟨(f5.then (U.trans ae)).Ox bm bc.1 a8,?_,_,bf,bE,λaa b2 r=>?_,?_⟩⟩
   .have:=X (U.trans ae) (a:=a) V c d
    rw[a8 c this (by simp at d;omega),(J.push w _).same c this]
   .have h1:=(f5.then (U.trans ae)).size
    rcases bc.2 with g|g<;>omega
   .rcases aW aa p.length with t|t
    .rw[ax t]at r;exact a4 aa b2 r
    .rw[aI t]at r
     have:aa -p.length=0:=by have:=av r;simp at this;omega
     rw[this]at r;simp at r;subst r
     have:aa=j:=V
     subst this
     rw[<-a2]
     refine WB.of ((rP V λz ho=>?_).append ?_) ?_
     .have:=qm.1 z ho;omega
     .rw[jU V];exact hq.1.aT.1
     .rw[cV,jU V,bU];exact hq.1.aT.2
   .rw[oQ,uq,zw,Bk.qI,dC,oC]
    have:=hq.2;omega
  have a1:∀(M:E)(aF:List Nat)(aE:Value->E->Prop),J y M->(∀c∈aF,c<M.size)->(∀s f,ap f s (v++B)->J M f->aE (O.v s) f)->aN cp 187 [O.v ay,O.v fs] M λv m'=>eG aF M m'/\aE v m':=λM aF aE I X hK=>
   (eO (S:=[]) aL ((hv.ext (v9.trans I)).le (zV _)) ((hf.ext (T.trans I)).le (zV _)) V).aH (J.az M) X λs ll f C g x _=>hK s f (by subst g;exact(C.done aL bE).le (bA _ _)) x
  have D:∀(M:E)(S':List Nat)(t:O),(∀c∈S',c<M.size)->J y M->ap M t (v++B)->nu 240 [.agg #[O.v ag,O.v am],O.v t,.agg #[O.v aU,vi h.aS],O.v mi] M S' λi=>WB G rs.length True (v.length+B.length) i/\i.w+20<=40*h.w+2*ml.length:=by
   intro M S' t bi I r;have hm:=v9.trans I;have:=ih h (aq P) S' M bi ag am t aU mi (v++B) ml (hn.le hm.le) r (hs.le hm.le) (a3 I) ⟨λz ho=>?_,V,bE,by simp;rw[a2];exact aM.bD j h P⟩
   .simpa using this
   .have:=qm.1 z ho;simp;omega
  have iI:∀(M:E)(a:Nat)(t:O),GB (a::e.size::o) k M s p->J y M->y.size<=a->a<M.size->ap M t (v++B)->
   aN cp 240 [.agg #[O.v ag,O.v am],O.v t,.agg #[O.v aU,vi h.aS],O.v mi] M λrv f=>eG [a,e.size,F.size,m.size] M f/\∃aS:O,∃aT:Int,rv=.agg #[O.v aS,vi aT]/\
    let l:E:=ah f a 0 [.s aS,.i aT]
    aN cp 257 [vi (14:Int),O.v mi] l λrv q=>eG [a,e.size,F.size,m.size] l q/\∃ab:O,rv=O.v ab/\af q a 1=af l a 1/\af q a 0=af l a 0/\
     jL q gC [.i (0:Int),.i (0:Int),.i (0:Int),.s O.nil,.s O.nil] 72 ab aS λau w=>eG [a,e.size,F.size,m.size] q w/\af w a 1=af q a 1/\
      let M4:E:=w.push (.cells (bt [.s au,.i aT]) di)
      jL M4 di [.s O.nil,.i (0:Int)] 32 s (O.mk w.size 0 1 1) λac W=>eG [a,e.size,F.size,m.size] M4 W/\aX ac (cT ((j:Int)+(1:Int))) W/\μ ac (cT ((j:Int)+(1:Int))) W<μ s j Z:=by
   intro M a t C I h1 h2 h3
   have x5:=(R.trans T).trans I
   have z9:=(R.trans T).size
   refine(D M (a::s.D::e.size::o) t (λc d=>?_) I h3).aH (J.az M) (X x5 h2) λQ i f ak hq ar _=>⟨_,_,rfl,tail f a Q i (C.ext rJ.mono ar) (x5.trans ar) (I.trans ar) h1 (ar.lt h2) ak hq⟩
   rcases List.mem_cons.1 d with g|g
   .omega
   .exact ao x5 c g
  have aQ:∀(M:E)(z:Obj),GB (e.size::o) k M s p->GB (M.size::e.size::o) k (M.push z) s p:=λM z C=>
   C.re rJ.mono (Y:=[]) ((J.push M z).fz []) aL aL λc d=>by
    rcases List.mem_cons.1 d with g|g
    .exact Or.inr V
    .exact Or.inl g
  refine⟨a1 y _ _ (J.az _) (λc d=>u9.lt (H c d)) λt aP r A=>⟨_,rfl,E5 u9 (u9.trans A) ⟨?_,?_⟩⟩,?_⟩
  .have al:=u9.trans A
   have vw:=A.size
   refine(D aP (s.D::e.size::o) t (ao ((R.trans T).trans A)) A r).aH al H λQ i aA ak hq az a9=>⟨_,_,rfl,?_⟩
   intro aV
   have bL:=az.size
   exact E5 a9 (a9.aK _) (tail aV aA.size Q i (aQ aA _ ((g9.ext rJ.mono A).ext rJ.mono az)) ((((R.trans T).trans A).trans az).aK _) ((A.trans az).aK _) V (by simp[aV]) (ak.le (td (J.push aA _) (ad _))) hq)
  .intro az
   have al:=u9.trans A
   have vw:=A.size
   exact E5 al (al.aK _) (iI az aP.size t (aQ aP _ (g9.ext rJ.mono A)) (A.aK _) V (by simp[az]) (r.ext (J.push _ _)))
  .intro al
   have az:J y al:=J.push _ _
   have aV:J k al:=u9.trans az
   refine E5 u9 aV (a1 al _ _ az (X ((R.trans T).trans az) (by simp[al])) λt a9 r aA=>⟨_,rfl,E5 aV (aV.trans aA) ?_⟩)
   exact iI a9 y.size t ((aQ y _ g9).ext rJ.mono aA) (az.trans aA) (ad _) (aA.lt (by simp[al])) r
 .have f:p.length=x.bD.length:=V
  rw[bY V]at a0
  refine(bN (e.size::o) (ha.ext (N.trans L)) V).aH L H λi l m6 a g x6 u6=>⟨_,rfl,aJ (x6.same _ (L.lt (H _ aL))) _,aJ (x6.same _ (L.lt (H _ aL))) _,?_⟩
  subst g
  intro m7
  refine⟨i,s,⟨x.op,x.bP,0,x.args,p⟩,rfl,(a.done (λc d=>aO (aK c d) L.size) V).le (cA aL λc d=>ai _ d),nF.le (cA aL λc d=>ai _ d) ((C.ext rJ.mono x6).done rJ.mono aK bh (by have:=qe x.bD;show p.length<=_;omega)),⟨aM.PH (λu=>u.elim) ⟨V,V⟩ f a4,rfl,?_⟩,(N.trans u6).ah V _ _⟩
  rw[cU.mu]
  simp only
  omega
structure LB(ds:List bz)(nr:Nat)(S:List Nat)(m2 M:E)(v lm:List Int)(aD:List cU)(k:Nat)(st inn ow:O):Prop where
 x:J m2 M
 hs:∃l,GS (inn.D::ow.D::S) m2 M st l/\WL ds nr True v.length l/\dc l=dc (aD.take k)/\sw l+2*k<=40*sw (aD.take k)
 hi:∃l,GI S m2 M inn l/\l.length=v.length+dc (aD.take k)
 ho:∃l,GI S m2 M ow l/\l.length<=lm.length+k/\∀o∈l,0<=o/\o<((v.length+dc (aD.take k):Nat):Int)
 ne:inn.D≠ow.D
def It{D:List bz}{G:List gP}:∀p:Bk,XG D G p:=by
 refine Bk.ind ?_;intro aD A ih j C hS bc bP ch cg ce H lm hn hv hs bq hp;have au:=hp.wb.aT;simp only[Bk.jT,Bk.jv]at*;have lN:=hp.lN;have vN:=hp.vN;rw[(Bk.qI aD A)]at lN vN;apply AO;simp -zeta only[aC,aB];intro m d f ac;let⟨B,u,s0,s1,s2⟩:=qd (a:=m) (b:=d) (c:=f) rfl rfl rfl;have aM:J f ac:=J.push _ _;have aW:∀I,GS I f ac (.mk f.size 0 0 0) []:=λI=>GS.new I f;have s3:ac.size=f.size+1:=by simp[ac]
 clear_value ac;clear_value f;have bB:=hs.len;have bD:=By aD;have b1:=fZ aD;refine(bN j (hv.ext (B.trans aM)) V).aH aM u λg _ m4 r e x4 u4=>⟨_,rfl,?_⟩;subst e;refine(bN j (bq.ext (B.trans u4)) V).aH u4 u λi _ m5 z e x5 u5=>⟨_,rfl,?_⟩;subst e;have a5:=r.bn;have bI:=z.bn;refine Rx (n:=aD.length) (bB▸hs.gT) (λk t g i a=>LB D G.length (d.size::j) f a H lm aD k t g i) ⟨u5,⟨[],((aW _).ext gE.mono x4).ext gE.mono x5,WL.nil _ _ _ _,rfl,aL⟩,⟨H,((r.ext x5).cy (λ_ h=>h) aM.size).any,aL⟩,⟨lm,(z.cy (λ_ h=>h) u4.size).any,V,by simpa using hp.aR⟩,V⟩ ?_;clear r z a5 bI aW;rintro k t g i s ba μ hk ⟨W,⟨R,K,av,P,b2⟩,⟨li,r,an⟩,⟨lo,z,bS,a1⟩,a3⟩ bL
 have v6:=B.trans W;have bV:=r.len bh;have bT:=sZ (aD.take k);have bX:=qK k aD;have L:∀c∈d.size::j,c<f.size:=bO hS B.size (u _ aL);have cb:=K.bn;have a5:=r.bn;have b_:=z.bn;have bC:=fZ (aD.take k);have bW:k<=sw (aD.take k):=by rw[gJ]at bC;omega
 have bY:=fZ R;have z6:=W.size;have ak:∀{a:E},GI (d.size::j) f a g li->ap a g li:=λq=>(q.done L V).le (bA _ _);have aZ:∀{a:E},GI (d.size::j) f a i lo->ap a i lo:=λq=>(q.done L V).le (bA _ _);have N:∀{a:E}{I:List Nat},s.size<=a.size->(∀c∈I,c<a.size)->∀c∈I++d.size::j,c<a.size:=λh hb c b=>by
  rcases List.mem_append.1 b with h|h
  .exact hb c h
  .have:=L c h;omega
 have aX:∀{a:E},J s a->∀c∈[d.size,m.size,C.size],c<a.size:=λh c b=>(W.trans h).lt (u c b);have bs:t.D≠g.D:=K.Ld r bh;have a4:t.D≠i.D:=K.Ld z bh;refine dit (λh=>?_) λh=>?_
 .let⟨ae,v⟩:=cG aD k;let⟨bb,kk,ha,a0,g0,g1,g2,g3,g4⟩:=hs.aF v;refine⟨V,V,_,v6.af g0,_,v6.af g1,_,v6.af g2,_,v6.af g3,_,v6.af g4,?_⟩;intro m7 y;have x8:J s y:=(J.push s _).ah (ad _) _ _;have s8:y.size=s.size+1:=by simp[y,m7,aw]
  clear_value y;have u8:=W.trans x8;have w:∀{a:E},y.size<=a.size->∀p∈[s.size,d.size,m.size,C.size],p<a.size:=λh p hb=>by
   rcases List.mem_cons.1 hb with e|e
   .omega
   .have:=u8.lt (u p e);omega
  have b7:=pU v;have b5:=qN v;have b6:=cU.mu ae;have aa:WS D G.length False li.length ae:=by rw[an];exact au.1 k ae v
  have aY:=ZC aa;have b3:=bD (k+1);have Z:∀{a:E},J f a->At a bc bP bb kk D G ae:=λh=>⟨hn.le (B.trans h).le,ha.ext (B.trans h),aa.fe.call⟩;refine(nX (Z u8).QS (ak (r.ext x8)) (Z u8).args (a0.le (B.trans u8).le) V λp _=>nm p).aH (J.az y) (w (ad _)) λty m9 x9 _=>⟨_,rfl,?_⟩;have X9:=u8.trans x9;have z9:=x9.size;refine(yI (b:=[]) aL (Z X9) (ak ((r.ext x8).ext x9)) aa.fe.args V).aH (J.az m9) (w V) λdu X bJ bl a8 aI _=>⟨_,rfl,?_⟩;have bR:=a8.2;have vw:=aI.size;refine(eY (c:=[t.D,g.D,i.D]++d.size::j) (N V bE) 14 ((bl.done aL V).le (bA _ _)) V).aH (J.az bJ) (w V) λcf _ ax bi e aK _=>⟨_,rfl,?_⟩;subst e;have ci:=aK.size;have aO:J s ax:=(((x8.trans x9).trans aI).trans aK);refine GS.all (K.ext gE.mono aO) (((X9.trans aI).trans aK).fz []) (bi.done gE.mono (N (I:=[t.D,g.D,i.D]) V bE) bh bE) bE λaG a6 aR bd a9 ay=>⟨λc b=>ay c (w V c b) ?_,?_⟩
  .simp at b;omega
  have aj:J f a6:=bd.ext;have aS:=(r.ext aO).jx (ay _ V bs.symm);have bm:=(z.ext aO).jx (ay _ V a4.symm);have bZ:aG.D=t.D\/ax.size<=aG.D:=a9.2;have b8:=aR.bn;have cj:=a9.1;refine(JU (o:=[aG.D,g.D,i.D]++d.size::j) (N V bE) (Z aj).QS (ak aS) (Z aj).args (a0.le (B.trans aj).le) V aa (ih ae (aq v))).aH (J.az a6) (w V) λca ck U a7 bo bp bM ag _=>⟨_,_,_,_,_,rfl,?_⟩;let⟨bF,bw,b4⟩:=bM;have cl:=ag.size;refine GS.kK (x:=U) (aR.ext gE.mono ag) ((aj.trans ag).fz []) bo bp bE λF al ao be a_ az=>⟨λc b=>?_,?_⟩
  .have:=w (a:=a7) V c b;rw[az c this (by simp at b;omega),(J.push a7 _).same c this]
  have aQ:J f al:=be.ext;have cm:=a_.1;have aT:=(aS.ext ag).jx (az _ V V);have ar:=(bm.ext ag).jx (az _ V V);have b0:F.D=t.D\/ax.size<=F.D:=by have:=a_.2;omega
  have B1:WL D G.length True H.length (R++X.map (eZ 14)++[U])/\dc (R++X.map (eZ 14)++[U])=dc (aD.take (k+1))/\sw (R++X.map (eZ 14)++[U])+2*(k+1)<=40*sw (aD.take (k+1)):=by
   have bU:dn U=1:=by unfold dn at aY⊢;rw[bw];exact aY
   have d1:dc (X.map (eZ 14))=0:=jU V _;refine⟨((av.append (rP V λo l=>?_)).yD ?_),?_,?_⟩
   .rw[P,<-an];exact aa.fe.args o (a8.1 o l)
   .rw[cV,d1,P,jF,<-an];exact bF
   .rw[cV,cV,d1,P,kM,ta];omega
   .rw[dC,dC,oC,mK,vm];omega
  have a2:∀o∈lo,0<=o/\o<((H.length+dc (aD.take (k+1)):Nat):Int):=λo l=>by
   have:=a1 o l;omega
  have aU:∀(a:E)(T:O)(ab:List Int),J f a->y.size<=a.size->GS (g.D::T.D::d.size::j) f a F (R++X.map (eZ 14)++[U])->GI (d.size::j) f a g li->GI (d.size::j) f a T ab->g.D≠T.D->ab.length<=lm.length+(k+1)->(∀o∈ab,0<=o/\o<((H.length+dc (aD.take (k+1)):Nat):Int))->
   jL (a.push (.cells (bt [.i ty]) aA)) aA [.i (0:Int)] 8 g (O.mk a.size 0 1 1) λaH M'=>eG [s.size,d.size,m.size,C.size] (a.push (.cells (bt [.i ty]) aA)) M'/\ba F aH T (cT ((k:Int)+(1:Int))) M'/\μ F aH T (cT ((k:Int)+(1:Int))) M'<μ t g i k s:=by
   intro a T ab v Q q gI gO br bn bx
   have b9:=gI.bn;have bH:=gO.bn
   have bv:F.D≠g.D:=q.Ld gI bh
   refine GI.kK gI (v.fz []) L V λaH M' bk bg aP aF=>⟨λc b=>?_,bL V _ _ _ _ ⟨bg.ext,⟨_,q.re gE.mono (Y:=[g.D]) ⟨aP.1,λc b hn=>aF c b (by simpa using hn)⟩ aL (by simpa using bv) (λc b=>?_),B1.1,B1.2.1,B1.2.2⟩,⟨_,bk,bE⟩,⟨ab,gO.jx (aF _ bH.2 br.symm),bn,bx⟩,?_⟩⟩
   .have:=w Q c b
    rw[aF c this (by simp at b;omega),(J.push a _).same c this]
   .simp only[aV]at b⊢
    rcases b with h|h|h
    .rcases aP.2 with e|e
     .exact Or.inl (Or.inl (h.trans e))
     .exact Or.inr V
    .exact Or.inl (Or.inr (Or.inl h))
    .exact Or.inl (Or.inr (Or.inr h))
   .rcases aP.2 with e|e<;>omega
  refine⟨λ_=>?_,λ_=>?_⟩
  .intro cc;have bu:F.D≠i.D:=ao.Ld ar bh;refine GI.kK ar (aQ.fz []) L V λbQ bK bj bf am aE=>⟨λc b=>?_,?_⟩
   .have:=w (a:=al) V c b;rw[aE c this (by simp at b;omega),(J.push al _).same c this]
   intro cd;have cn:=am.1;refine aU bK bQ _ bf.ext V (ao.re gE.mono (Y:=[i.D]) ⟨am.1,λc b hn=>aE c b (by simpa using hn)⟩ aL (by simpa using bu) λc b=>?_) (aT.jx (aE _ V a3)) bj ?_ bE ?_
   .simp only[cZ,eF,aV]at b⊢;rcases b with h|h|h
    .exact Or.inl (Or.inl h)
    .rcases am.2 with e|e
     .exact Or.inl (Or.inr (Or.inl (h.trans e)))
     .exact Or.inr V
    .exact Or.inl (Or.inr (Or.inr h))
   .rcases am.2 with e|e<;>omega
   .intro o l;rcases List.mem_append.1 l with l|l
    .exact a2 o l
    .simp at l;omega
  .intro am;exact aU al i lo aQ V ao aT ar a3 V a2
 .have ar:k=aD.length:=V;subst ar;rw[fu]at*;have al:∀(a:E)(X:O)(F:List cU),J f a->s.size<=a.size->GS (g.D::i.D::d.size::j) f a X F->ap a i lo->WL D G.length True H.length F->dc F=dc aD->sw F+2*aD.length<=40*sw aD+2->
   aN cp 257 [vi (15:Int),O.v i] a λrv y=>eG [d.size,m.size,C.size] a y/\∃ae:O,rv=O.v ae/\af y m.size 1=af a m.size 1/\
    jL y gC [.i (0:Int),.i (0:Int),.i (0:Int),.s O.nil,.s O.nil] 72 X ae λaa Z=>eG [d.size,m.size,C.size] y Z/\af Z m.size 1=af y m.size 1/\
     let T:E:=ah Z d.size 0 [.s aa,.i A]
     ∃am p,Value.agg #[O.v aa,vi A]=.agg #[O.v am,vi p.aS]/\eP (bG j T) am p.aD/\(WB D G.length True H.length p/\p.w+20<=40*(Bk.mk aD A).w+2*lm.length)/\J C T:=by
   intro a X F v Q q l aE aj aG
   have hy:=q.bn
   have aF:=fZ F
   have az:m.size<a.size:=v.lt (u _ aL)
   refine(eY (c:=[X.D,g.D,i.D]++d.size::j) (N Q bE) 15 l V).aH v u λae _ y ao e w u1=>⟨_,rfl,aJ (w.same _ az) _,?_⟩
   subst e
   have z1:=w.size
   have ax:∀c∈[d.size,m.size,C.size],c<y.size:=λc b=>u1.lt (u c b)
   have ay:∀c∈[d.size,m.size,C.size],c<f.size:=u
   refine GS.all (q.ext gE.mono w) (u1.fz []) (ao.done gE.mono (N (I:=[X.D,g.D,i.D]) Q bE) bh bE) bE λaa Z g2 ab ag U=>⟨λc b=>U c (ax c b) (oh (ay c b)),aJ (U _ V V) _,?_⟩
   intro T
   refine⟨aa,.mk _ A,rfl,eP.le (cA aL λc b=>ai _ b) ((g2.re gE.mono (S':=d.size::j) (Y:=[]) (Fz.az _ _) aL aL (λc b=>Or.inl (ai _ (ai _ b)))).done gE.mono L bh bE),⟨WB.of (aE.append (rP V λo l=>?_)) ?_,?_⟩,(B.trans ab.ext).ah V _ _⟩
   .have:=a1 o l;rw[aj];exact this
   .rw[cV,jU V,aj];exact au.2
   .rw[Bk.qI,Bk.qI,dC,oC];omega
  let⟨ag,Q⟩:=cG li A.toNat;refine⟨V,V,ag,(ak r).aF Q,λ_=>?_,λ_=>al s t R W (ad _) K (aZ z) av P V⟩;refine(jg (c:=[t.D,g.D,i.D]++d.size::j) (N (ad _) bE) 14 A).mono λrv y⟨pa,pk,e,h1,h2,w⟩=>?_;subst e;refine⟨w.dv (aX (J.az _)),_,_,_,_,_,rfl,?_⟩;have z1:=w.size;refine GS.kK (x:=eZ 14 A) (K.ext gE.mono w) ((W.trans w).fz []) h1 h2 V λr' T q ab ag U=>⟨λc b=>?_,al T r' _ ab.ext V q (aZ ((z.ext w).jx (U _ V a4.symm))) (av.yD (DL V (by rw[P];exact au.2))) ?_ ?_⟩
  .have:=aX w c b;have h5:=u c b;rw[U c this V,(J.push y _).same c this]
  .rw[cV,P];simp[kM,dn,eZ,pd]
  .rw[dC,mK,vm];have h5:(eZ 14 A).w=2:=by rw[cU.mu];rfl
   omega
section
variable{b:List Nat}{f d h:E}{p t k:O}{q:gP}{l:Int}{g e j:Nat}
def mO.mono:oA 1 mO:=⟨λh=>mO.le h _ _,λ⟨_,h,_⟩=>by rw[h];rfl⟩
def iL.mono:oA 3 iL:=⟨λh=>iL.le h _ _,λ⟨_,h,_⟩=>by rw[h];rfl⟩
def fV(v:∀c∈b,c<f.size){bo:O}{j:List bz}(hd:cx f bo j)(w:dT j):aN cp 202 [O.v bo] f λT B=>∃s,T=O.v s/\cx (bG b B) s j/\J f B:=by
 apply Av;intro N;have ab:=hd.len;have aa:=w.len;have u:Gr b f N jW 3 iL (.mk f.size 0 0 0) []:=Gr.new b (ad _) _ _ _;refine eA (n:=j.length) V (λq s M=>J f M/\Gr b f M jW 3 iL s (j.take q)) ⟨J.push _ _,u⟩ ?_;rintro q s d X μ hk ⟨r,m⟩ R
 have hy:=m.bn;refine dit (λl=>?_) λl=>?_
 .let⟨i,o⟩:=cG j q;let⟨z,A,u,g1,g2⟩:=hd.aF o;have ac:=A.len;have Z:=lz w o;intro P;have k:Gr (s.D::b) d P oW 1 mO (.mk d.size 0 0 0) []:=Gr.new _ (ad _) _ _ _;refine eA (n:=i.cons.length) V (λy c M=>J d M/\Gr (s.D::b) d M oW 1 mO c (i.cons.take y)) ⟨J.push _ _,k⟩ ?_;rintro y c C Y μ2 hj ⟨t,k⟩ Q;have g:=r.trans t;refine⟨V,V,z,g.af g2,dit (λK=>?_) λK=>?_⟩
  .let⟨E,x⟩:=cG i.cons y;let⟨U,L,H⟩:=A.aF x;have ae:E.length<=3:=(((w.dz q i o).iW V).2.2.2 E (aq x)).1;refine⟨V,V,z,g.af g2,V,V,U,g.af H,?_⟩;have af:=k.bn;refine(bN (c.D::s.D::b) (L.ext g) V).then λW _ h I e D=>⟨_,rfl,?_⟩;subst e;intro M;refine Gr.kK (g:=[.s .nil]) mO.mono bh (k.ext mO.mono D) ((t.trans D).fz []) ⟨W,rfl,I.done (λe p=>?_) V⟩ bE λS m7 G F _ _=>Q V _ _ ⟨F.ext,by rw[aU x];exact G⟩;have:=t.size;simp only[aV]at p;rcases p with l|l|l
   .omega
   .omega
   .have:=v e l;have:=r.size;omega
  .refine⟨V,V,_,g.af u,V,V,_,g.af g1,?_⟩;intro h;rw[bY V]at k;have D:eT (bG (s.D::b) C) 1 (mO (bG (s.D::b) C)) c i.cons:=k.done mO.mono (λe p=>by
    rcases List.mem_cons.1 p with x|x
    .omega
    .have:=v e x;have:=r.size;omega) bh V
   refine Gr.kK (g:=[.i 0,.i 0,.s .nil]) (k:=i) iL.mono bh (m.ext iL.mono t) (g.fz []) ⟨c,rfl,D⟩ bE λS M x p _ _=>R V _ _ ⟨p.ext,by rw[aU o];exact x⟩
 .rw[bY V]at m;exact⟨s,rfl,m.done iL.mono v bh V,r⟩
def ye(H:∀i∈b,i<f.size){B:O}{b1:Int}(I:ap f p q.params)(K:ap f t q.cR)(u:q.params.length<=100/\q.cR.length<=100):
 aN cp 229 [.agg #[O.v p,O.v t,vi q.aS,O.v B,vi l],.agg #[O.v k,vi b1]] f λP x=>∃m n,P=.agg #[O.v m,O.v n,vi q.aS,O.v k,vi b1]/\ap (bG b x) m q.params/\ap (bG b x) n q.cR/\J f x:=by
 apply De
 simp -zeta only[aC,aB]
 intro L j d
 let⟨s,w,S,T,U⟩:=qd (a:=L) (b:=j) (c:=d) rfl rfl rfl
 clear_value d
 have z:∀i∈j.size::b,i<d.size:=bO H s.size (w _ aL)
 have c:∀{M y:E},J d M->J d y->∀g,g<d.size->∀o,af y g o=af M g o:=λF G g u o=>aJ (by rw[G.same g u,F.same g u]) o
 refine(bN (j.size::b) (I.ext s) V).aH (J.az d) w λm _ R C e a _=>⟨_,rfl,c (J.az _) a _ V _,c (J.az _) a _ V _,c (J.az _) a _ V _,c (J.az _) a _ V _,?_⟩
 subst e
 refine(bN (j.size::b) (K.ext (s.trans a)) V).aH a w λn _ N D e Q r=>⟨_,rfl,c a r _ V _,c a r _ V _,c a r _ V _,?_⟩
 subst e
 intro h
 have A:Le (bG (j.size::b) N) (bG b h):=cA aL λi v=>ai _ v
 exact⟨m,n,rfl,((C.done z V).le (Q.df _)).le A,(D.done (λi v=>a.lt (z i v)) V).le A,(s.trans r).ah V _ _⟩
abbrev GR(b:List Nat)(a f:E)(s:O)(l:List gP):Prop:=Gr b a f jP 5 iR s l
def vU{L:List Nat}{m M:E}{v s:O}{x:List gP}{r:Bk}{N:O}{K:E->Prop}(W:∀c∈b,c<m.size)(w:∀c∈L,c<M.size/\c≠g/\c≠s.D)(A:J m M)(y:GR (g::b) m M s x)
 (z:cE M g nh [.s v,.s s])(Z:m.size<=g)(hp:ap M p q.params)(ht:ap M t q.cR)(aa:eP (bG (s.D::g::b) M) k r.aD)(X:q.params.length<=100/\q.cR.length<=100)(hl:x.length<=100)
 (U:∀u d,GR (g::b) m d u (x++[⟨q.params,q.cR,q.aS,r⟩])->cE d g nh [.s v,.s u]->J m d->K d):
 aN cp 229 [.agg #[O.v p,O.v t,vi q.aS,O.v N,vi l],.agg #[O.v k,vi r.aS]] M λH j=>eG L M j/\∃B:O,∃C:O,∃D:Int,∃F:O,∃G:Int,H=.agg #[O.v B,O.v C,vi D,O.v F,vi G]/\af j g 1=af M g 1/\
  let n:E:=j.push (.cells (bt [.s B,.s C,.i D,.s F,.i G]) jP)
  af n g 1=af j g 1/\
  jL n jP [.s O.nil,.s O.nil,.i (0:Int),.s O.nil,.i (0:Int)] 88 s (O.mk j.size 0 1 1) λab o=>eG L n o/\fK o g 1 1/\
   let d:E:=ah o g 1 [.s ab]
   eG L o d/\K d:=by
 have hy:=y.bn
 have Y:=z.lt
 have hz:=A.size
 refine(ye (b:=s.D::g::b) (λc f=>?_) hp ht X).mono λH j⟨p',t',e,R,T,h⟩=>?_
 .simp only[aV]at f
  rcases f with e|e|e
  .omega
  .omega
  .have:=W c e;omega
 subst e
 refine⟨h.dv λc f=>(w c f).1,_,_,_,_,_,rfl,aJ (h.same _ Y) _,?_⟩
 intro n
 refine Gr.box (g:=[.s .nil,.s .nil,.i 0,.s .nil,.i 0]) (j:=1) (i:=[.s v,.s s]) (w:=⟨q.params,q.cR,q.aS,r⟩) iR.mono bh (y.ext iR.mono h) ((A.trans h).fz []) ⟨p',t',k,rfl,R,T,aa.le (h.df _)⟩ V (z.ext h) aL bh ⟨Z,aL⟩ (λc f=>⟨h.lt (w c f).1,(w c f).2⟩) λu m' Q I P z' q'=>U u m' Q I P.ext
def kX{β:Type}{a c:E}{g:O}{l:Nat}{f:E->List Ce->β->Prop}(q:oA l f)(p:a=d.push (.cells (bt []) e))(i:c=a.push (.cells (bt [.s O.nil,.s O.nil]) j))(k:h=ah c a.size 0 [.s g,.s (O.mk d.size 0 0 0)]):
 J d h/\cE h a.size j [.s g,.s (O.mk d.size 0 0 0)]/\Gr b d h e l f (.mk d.size 0 0 0) []/\a.size=d.size+1/\h.size=d.size+2:=by
 subst p
 have n:J (d.push (.cells (bt []) e)) h:=by subst i k;exact(J.push _ _).ah (ad _) _ _
 refine⟨(J.push d _).trans n,?_,(Gr.new b (ad _) e l f).ext q n,aL,by subst i k;simp[aw]⟩
 have s:cE c (d.push (.cells (bt []) e)).size j [.s O.nil,.s O.nil]:=by rw[i];exact cE.push _ _ _
 rw[k]
 exact cE.ah (m:=c) (o:=0) (r:=[.s g,.s (.mk d.size 0 0 0)]) s
def kU{β:Type}{o b1 r:Nat}{p:E->List Ce->β->Prop}{c A:O}{F:List bz}(G:oA o p)(hz:0<o)(ac:j≠e)(X:∀w∈b,w<f.size)(Y:f.size<=b1/\b1<d.size)(K:J f d)(ak:g=d.size+1)
 (Z:cx (bG (b1::b) d) c F)(hn:A.len=r)(al:r<=1000)(ad:J d h)(U:cE h g j [.s c,.s (O.mk d.size 0 0 0)])(aa:Gr (g::b1::b) d h e o p (.mk d.size 0 0 0) [])(y:Nat->β->Prop)
 {C:(Int->E->Prop)->(Int->E->Nat)->Int->E->Prop}{R:O->O->E->Prop}
 (W:∀D N l q,cx (bG b q) D F->eT (bG b q) o (p (bG b q)) N l->l.length=r->(∀(i:Nat)(x:β),l[i]? =some x->y i x)->J f q->R D N q)
 (T:∀(k:Nat)(M:E)(s:O)(l:List β)(I:Int->E->Prop)(μ:Int->E->Nat),k<r->l.length=k->J d M->Gr (g::b1::b) d M e o p s l->cE M g j [.s c,.s s]->
  (∀u a x,Gr (g::b1::b) d a e o p u (l++[x])->cE a g j [.s c,.s u]->J d a->y k x->I (cT ((k:Int)+1)) a/\μ (cT ((k:Int)+1)) a<μ k M)->C I μ k M):
 ∃(v:Int->E->Prop)(μ0:Int->E->Nat),v (0:Int) h/\(∀(i:Int)(M:E),v i M->
  ((decide (i<(A.len:Int)))=true->C v μ0 i M)/\
  ((decide (i<(A.len:Int)))=false->∃m:O,af M g 0=some (O.v m)/\∃t:O,af M g 1=some (O.v t)/\
   let a:E:=ah M b1 0 [.s m,.s t]
   R m t a)):=by
 refine dU (n:=r) V (λk M=>J d M/\∃s l,Gr (g::b1::b) d M e o p s l/\cE M g j [.s c,.s s]/\l.length=k/\∀(i:Nat)(x:β),l[i]? =some x->y i x) ⟨ad,_,[],aa,U,rfl,aL⟩ ?_
 rintro k M I μ hk ⟨x,s,l,t,B,ab,H⟩ ae
 refine dit (λS=>?_) λS=>?_
 .refine T k M s l I μ V ab x t B λu a ag Q P x' L=>ae V _ ⟨x',u,_,Q,P,bE,λi aj m=>?_⟩
  rcases aW i l.length with z|z
  .rw[ax z]at m;exact H i aj m
  .rw[aI z]at m
   have:i -l.length=0:=by have:=av m;simp at this;omega
   rw[this]at m;simp at m;subst m
   have:i=k:=V
   subst this;exact L
 .refine⟨c,B.cg 0,s,B.cg 1,?_⟩
  intro a
  have L:=t.bn
  have z:=t.ne B ac
  have u:Le (bG (g::b1::b) M) (bG b a):=cA aL λw m=>ai _ (ai _ m)
  refine W c s l a (Z.le ((x.bG λw m=>?_).trans u)) (eT.le (t.nH G (λm=>?_) hz V) u λP ag=>G.le u) V H ((K.trans x).ah Y.1 _ _)
  .rcases List.mem_cons.1 m with e|e
   .exact Or.inr V
   .exact Or.inl e
  .simp only[aV]at m
   rcases m with e|e|e
   .exact z e
   .omega
   .have:=X _ e;have:=K.size;omega
structure yi(ds:List bz)(rs:List gP)(c:Prop)(W:Nat):Prop where
 iW:0<rs.length
 dz:∀q∈rs,q.params.length<=3/\q.cR.length<=3/\WB ds rs.length c q.params.length q.body/\q.body.w<=W
def uR(h:Nat)(e:List Value)(f:E)(b:List Nat)(g:List bz)(Q:List gP->Prop):Prop:=aN cp h e f λv a=>∃d r c,v=.agg #[O.v d,O.v r]/\eL (bG b a) d r g c/\Q c/\J f a
def HP{d:List bz}{a b:List gP}{c:Prop}{W:Nat}(j:0<a.length)(f:b.length=a.length)(h:∀(i:Nat)(q:gP),b[i]? =some q->q.params.length<=3/\q.cR.length<=3/\WB d a.length c q.params.length q.body/\q.body.w<=W):yi d b c W:=
 ⟨V,λq g=>by obtain⟨i,e⟩:=List.mem_iff_getElem?.1 g;rw[f];exact h i q e⟩
def IG(G:∀i∈b,i<f.size){D:O}{e cR:List Int}{K:Int}(B:ap f p e)(H:ap f t cR)(P:e.length<=100):
 kZ 241 [.agg #[O.v p,O.v t,vi K,O.v D,vi l]] f b λa=>(∀o∈a,0<=o/\o<(e.length:Int))/\a.length<=e.length:=by
 apply A2
 simp -zeta only[aC,aB]
 intro c d
 have v:J f c:=J.push _ _
 have A:∀x∈[f.size],x<c.size:=by simp[c]
 have E:GI b c d (.mk c.size 0 0 0) []:=GI.nil b c
 have L:J c d:=J.push _ _
 clear_value d
 clear_value c
 have R:=B.len
 refine eA (n:=e.length) V (λm s M=>J c M/\∃a,GI b c M s a/\(∀o∈a,0<=o/\o<(e.length:Int))/\a.length<=m) ⟨L,[],E,aL,ad _⟩ ?_
 rintro m s S N μ Q ⟨w,a,j,k,z⟩ q
 have r:=v.trans w
 refine⟨λg=>?_,λg=>⟨s,a,rfl,j.cy (λ_ g=>g) v.size,⟨k,by simp at g;omega⟩,r⟩⟩
 simp only[ar]at g
 let⟨M,I⟩:=cG e m
 refine⟨V,V,M,(B.ext r).aF I,λ_=>?_,λ_=>q V _ _ ⟨w,a,j,k,V⟩⟩
 refine(dw (H.ext r) m).any.aH w A λx T C u=>⟨_,rfl,λ_=>?_,λ_=>q V _ _ ⟨u,a,j.ext C,k,V⟩⟩
 intro h
 refine GI.kK (j.ext C) (u.fz []) (λi z=>v.lt (G i z)) V λW U F y _ _=>⟨J.oH (u.aK _) y.ext A,q V _ _ ⟨y.ext,_,F,λo i=>?_,bE⟩⟩
 rcases List.mem_append.1 i with i|i
 .exact k o i
 .simp at i;omega
end
section
variable{a:List Nat}{b:E}{d r:O}{c:List gP}
def Im(hS:∀e∈a,e<b.size){Z aj t:O}{Q:List bz}{q:gP}(hn:eL b d r Q c)(W:ap b Z q.params)(ht:ap b aj q.cR)(hs:eP b t q.body.aD)(aH:q.params.length<=3)(aq:WB Q c.length False q.params.length q.body)(hw:q.body.w<=95):
 nu 239 [.agg #[O.v d,O.v r],.agg #[O.v Z,O.v aj,vi q.aS,O.v t,vi q.body.aS]] b a λl=>WB Q c.length True q.params.length l/\l.w<=1100*q.body.w:=by
 apply Ay
 simp -zeta only[aC,aB]
 intro m0 D H
 let⟨v,h,s0,s1,s2⟩:=qd (a:=m0) (b:=D) (c:=H) rfl rfl rfl
 clear_value H
 have aI:=W.len
 have T:∀e∈D.size::a,e<H.size:=bO hS v.size (h _ aL)
 refine(Dx (S:=[]) aL (hs.le v.le) _ V).aH (J.az H) h λus ul g hu aK P _=>⟨_,rfl,?_⟩
 have ao:ap g us ul:=hu.le (bA _ _)
 intro s I
 have aA:J g I:=(J.push g _).trans (J.push s _)
 have s4:s.size=g.size+1:=by simp[s]
 have i:GI a g I (.mk g.size 0 0 0) []:=(GI.nil a g).ext (J.push s _)
 have gd:GI a g I (.mk s.size 0 0 0) []:=(GI.nil a s).cy (λ_ R=>R) V
 clear_value I
 have z3:=P.size
 have am:∀e∈a,e<g.size:=λe f=>by have:=hS e f;have:=v.size;omega
 refine wO (n:=q.params.length) V (λk L sd M=>J g M/\∃j p,GI a g M L j/\GI a g M sd p/\L.D≠sd.D/\(∀o∈j,0<=o/\o<(q.params.length:Int))/\(∀o∈p,0<=o/\o<(q.params.length:Int))/\j.length<=k/\p.length<=k) ⟨aA,[],[],i,gd,bE,aL,aL,ad _,ad _⟩ ?_
 rintro k L sd m6 aD μ hk ⟨w,j,p,i,gd,G,B,A,cm,cd⟩ K
 have F:=P.trans w
 have v6:=v.trans F
 refine dit (λR=>?_) λR=>?_
 .let⟨ab,Y⟩:=cG q.params k
  have X:∀{m:List Int},(∀o∈m,0<=o/\o<(q.params.length:Int))->∀o∈m++[(k:Int)],0<=o/\o<(q.params.length:Int):=λh o C=>by
   rcases List.mem_append.1 C with C|C
   .exact h o C
   .simp at C;omega
  refine⟨V,V,ab,(W.ext v6).aF Y,λ_=>?_,λ_=>K V _ _ _ ⟨w,j,p,i,gd,G,B,A,V,V⟩⟩
  refine(dw (ht.ext v6) k).any.aH F h λaa m7 u u7=>⟨_,rfl,λ_=>?_,λ_=>K V _ _ _ ⟨w.trans u,j,p,i.ext u,gd.ext u,G,B,A,V,V⟩⟩
  refine(dw (ao.ext (w.trans u)) k).any.aH u7 h λaa m8 x8 u8=>⟨_,rfl,λ_=>?_,λ_=>?_⟩
  .have x:=u.trans x8
   intro m9
   exact GI.R8 (i.ext x) (gd.ext x) G ((w.trans x).fz []) V λr m' z N U y=>⟨J.oH ((F.trans x).aK _) (P.trans y.ext) h,K V _ _ _ ⟨y.ext,_,_,z,N,U,X B,A,bE,V⟩⟩
  .have x:=u.trans x8
   intro m9
   exact GI.R8 (gd.ext x) (i.ext x) G.symm ((w.trans x).fz []) V λr m' z N U y=>⟨J.oH ((F.trans x).aK _) (P.trans y.ext) h,K V _ _ _ ⟨y.ext,_,_,N,z,U.symm,B,X A,V,bE⟩⟩
 intro y
 have ac:J m6 y:=J.push _ _
 have aa:=F.trans ac
 have ab:=v.trans aa
 have e0:ap y (.mk m6.size 0 0 0) []:=mF _ _ _ _ _ _
 have ag:∀{M:E}{t:O}{m:List Int},GI a g M t m->m.length<=3->ap M t m:=λz h=>(z.done am V).le (bA _ _)
 clear_value y
 have aG:=q.body.Hh
 refine(Gp q.body (D.size::a) y (λe f=>aa.lt (T e f)) d r Z t L _ q.params j [] (hn.le ab.le) (W.ext ab) (hs.le ab.le) ((ag i V).ext ac) e0 ⟨B,V,bE,V,aq⟩).aH aa h λss l C an X ay ax=>⟨_,_,rfl,?_⟩
 intro ar o
 have ae:J C o:=(J.push C _).ah (ad _) _ _
 have aQ:o.size=C.size+1:=by simp[o,ar,aw]
 clear_value o
 have N:=ax.trans ae
 have U:∀e∈[C.size,D.size,m0.size,b.size],e<o.size:=λe f=>by
  rcases List.mem_cons.1 f with x|x
  .omega
  .exact N.lt (h e x)
 have aF:=Bk.mu l;have aE:=fZ l.aD
 have aM:=X.2
 refine(eY (c:=D.size::a) (λe f=>N.lt (T e f)) 15 ((ag gd V).ext ((ac.trans ay).trans ae)) V).aH (J.az o) U λaP _ aN af x u _=>⟨_,rfl,aJ (u.same _ V) _,aJ (u.same _ V) _,?_⟩
 subst x
 have aR:=u.size
 have Y:=af.bn
 refine GS.all af (u.fz []) ((an.le (ae.df _)).le (td u Y.1)) bE λav au al ak aS ah=>⟨λe f=>ah e (u.lt (U e f)) (oh (U e f)),aJ (ah _ V V) _,?_⟩
 intro aO
 have az:J b au:=(v.trans N).trans ak.ext
 refine⟨av,.mk _ l.aS,rfl,eP.le (cA aL λe f=>ai _ f) (al.done gE.mono (λe f=>N.lt (T e f)) bh bE),⟨WB.of ((rP V A).append ?_) ?_,?_⟩,az.ah V _ _⟩
 .rw[jU V];exact X.1.aT.1
 .rw[cV,jU V,bU];exact X.1.aT.2
 .rw[Bk.qI,dC,oC];omega
def LC(K:∀e∈a,e<b.size){i:List bz}(k:eL b d r i c)(hk:yi i c False 95):uR 222 [.agg #[O.v d,O.v r]] b a i λx=>yi i x True 104500:=by
 apply Es;simp -zeta only[aC,aB];intro f a2;let⟨z,v⟩:=dD (a:=f) (c:=a2) rfl rfl;have s1:f.size=b.size+1:=by simp[f]
 clear_value a2;have ai:=k.iU.len;have ar:=k.oD;refine(fV (b:=f.size::a) (bO K z.size (v _ aL)) (k.le z.le).bo k.types).mono λ_ P⟨ac,j,ae,A⟩=>?_;subst j;refine⟨A.dv v,_,rfl,?_⟩;intro Q am ab;have u2:=z.trans A;let⟨x5,B0,g0,s3,s5⟩:=kX (b:=Q.size::f.size::a) iR.mono (d:=P) (a:=Q) (c:=am) (h:=ab) rfl rfl rfl;clear_value ab;have w:∀e∈[f.size,b.size],e<P.size:=λe g=>A.lt (v e g);have L:∀e∈f.size::a,e<P.size:=λe g=>A.lt (bO K z.size (v _ aL) e g);refine kU (R:=λh o M=>∃d r x,Value.agg #[O.v h,O.v o]=.agg #[O.v d,O.v r]/\eL (bG a M) d r i x/\yi i x True 104500/\J b M) (r:=c.length) (f:=b) (b:=a) iR.mono bh bh K ⟨V,w _ aL⟩ u2 s3 ae ai V x5 B0 g0 (λ_ q=>q.params.length<=3/\q.cR.length<=3/\WB i c.length True q.params.length q.body/\q.body.w<=104500) (λh t N u X Y o p s=>⟨h,t,N,rfl,⟨X,Y,k.types,V⟩,HP hk.iW o p,s⟩) λal M st N ao μ ag ap B W C an=>?_
 let⟨q,hq⟩:=cG c al ag;let⟨aa,ah,ak,hw⟩:=hk.dz q (aq hq);have o:=u2.trans B;let⟨au,av,h,T,U,c3,D,E,F,H,I⟩:=k.iU.aF hq;have G:∀{y:Value}{h s:Nat},af b h s=some y->af M h s=some y:=λu=>o.af u;refine⟨st,C.cg 1,V,V,_,G D,_,G E,_,G F,_,G H,_,G I,V,V,_,G D,_,G E,_,G F,_,G H,_,G I,?_⟩;have hy:=W.bn;have ad:=C.lt;have zM:=B.size;refine(Im (a:=st.D::Q.size::f.size::a) (λe g=>?_) (k.le o.le) (T.ext o) (U.ext o) (c3.le o.le) aa ak hw).aH B w λss b' M1 aj Z p u1=>⟨_,_,rfl,?_⟩
 .simp only[aV]at g;rcases g with j|j|j|j
  .omega
  .omega
  .have:=L e (by simp[j]);omega
  .have:=L e (by simp[j]);omega
 have t:∀{y:Value}{h s:Nat},af b h s=some y->af M1 h s=af M h s:=λu=>by rw[p.af (G u),G u]
 refine⟨t D,t E,t F,t H,t I,aJ (p.same _ (B.lt (w _ aL))) _,aJ (p.same _ ad) _,?_⟩;exact vU (b:=f.size::a) (v:=ac) (x:=N) L (λe g=>by have X:=w e g;have Y:=u1.size;omega) u1 (W.ext iR.mono p) (C.ext p) V (T.ext (o.trans p)) (U.ext (o.trans p)) aj ⟨V,V⟩ V λs' Y g' X x'=>an s' Y _ g' X x' ⟨aa,ah,Z.1,by have:=Z.2;simp only;omega⟩
def P2(L:∀f∈a,f<b.size){t:List bz}(u:eL b d r t c)(hk:yi t c False 95):uR 223 [.agg #[O.v d,O.v r]] b a t λB=>yi t B True 104500:=by
 apply JV;simp -zeta only[aC,aB];intro p a2;let⟨D,y⟩:=dD (a:=p) (c:=a2) rfl rfl;have s1:p.size=b.size+1:=by simp[p]
 clear_value a2;have al:=u.iU.len;have az:=u.oD;refine(fV (b:=p.size::a) (bO L D.size (y _ aL)) (u.le D.le).bo u.types).mono λ_ T⟨ag,h,ah,F⟩=>?_;subst h;refine⟨F.dv y,_,rfl,?_⟩;intro A ap ac;have u2:=D.trans F;let⟨x5,B0,g0,s3,s5⟩:=kX (b:=A.size::p.size::a) iR.mono (d:=T) (a:=A) (c:=ap) (h:=ac) rfl rfl rfl;clear_value ac;have P:∀f∈[p.size,b.size],f<T.size:=λf i=>F.lt (y f i);have N:∀f∈p.size::a,f<T.size:=λf i=>F.lt (bO L D.size (y _ aL) f i);refine kU (R:=λe g M=>∃d r B,Value.agg #[O.v e,O.v g]=.agg #[O.v d,O.v r]/\eL (bG a M) d r t B/\yi t B True 104500/\J b M) (r:=c.length) (f:=b) (b:=a) iR.mono bh bh L ⟨V,P _ aL⟩ u2 s3 ah al V x5 B0 g0 (λ_ q=>q.params.length<=3/\q.cR.length<=3/\WB t c.length True q.params.length q.body/\q.body.w<=104500) (λe o Q s h1 w g j k=>⟨e,o,Q,rfl,⟨h1,w,u.types,V⟩,HP hk.iW g j,k⟩) λao M st Q av μ ai ay Y aa H ar=>?_
 let⟨q,hq⟩:=cG c ao ai;let⟨ak,aj,an,hw⟩:=hk.dz q (aq hq);have C:=u2.trans Y;let⟨au,aD,o,I,c2,c3,e0,e1,e2,e3,e4⟩:=u.iU.aF hq;have G:∀{ae:Value}{o v:Nat},af b o v=some ae->af M o v=some ae:=λK=>C.af K;refine⟨V,V,_,G e0,_,G e1,_,G e2,_,G e3,_,G e4,?_⟩;intro m7 k;have hy:=aa.bn;have ax:=H.lt;have zM:=Y.size;have X:J M k:=(J.push M _).ah (ad _) _ _;have s8:k.size=M.size+1:=by simp[k,m7,aw]
 clear_value k;have z:∀f∈[M.size,p.size,b.size],f<k.size:=λf i=>by
  rcases List.mem_cons.1 i with h|h
  .omega
  .have:=P f h;omega
 have U:=C.trans X;have g:∀{Z M2:E},J k Z->J k M2->∀o,o<k.size->∀v,af M2 o v=af Z o v:=λK h' o hb v=>aJ (by rw[h'.same o hb,K.same o hb]) v;have j:M.size<k.size:=V;have i1:b.size<k.size:=z _ aL;have i2:A.size<k.size:=V;refine⟨st,(H.ext X).cg 1,?_⟩;refine(IG (b:=[]) aL (I.ext U) (c2.ext U) V).aH (J.az k) z λow lo m9 go ho e _=>⟨_,rfl,g (J.az _) e _ j _,g (J.az _) e _ j _,g (J.az _) e _ j _,g (J.az _) e _ i1 _,g (J.az _) e _ i1 _,g (J.az _) e _ j _,g (J.az _) e _ j _,g (J.az _) e _ j _,g (J.az _) e _ j _,g (J.az _) e _ j _,g (J.az _) e _ i2 _,?_⟩;have W:=U.trans e;have z9:=e.size;have i:=ho.2;refine(It q.body (st.D::A.size::p.size::a) m9 (λf i=>?_) d r au o ow q.params lo (u.le W.le) (I.ext W) (c3.le W.le) ((go.done aL V).le (bA _ _)) ⟨ho.1,V,V,an⟩).aH e z λss b' aA am ab aE s=>⟨_,_,rfl,g e s _ j _,g e s _ j _,g e s _ j _,g e s _ j _,g e s _ j _,g e s _ i2 _,?_⟩
 .simp only[aV]at i;rcases i with h|h|h|h
  .omega
  .omega
  .have:=N f (by simp[h]);omega
  .have:=N f (by simp[h]);omega
 have x:=X.trans s;have vw:=s.size;exact vU (b:=p.size::a) (v:=ag) (x:=Q) N (λf i=>by have h1:=z f i;have w:=P f;simp only[aV]at i w;rcases i with h|h|h|h<;>first|omega|(have:=w (by simp[h]);omega)|simp at h) (Y.trans x) (aa.ext iR.mono x) (H.ext x) V (I.ext (C.trans x)) (c2.ext (C.trans x)) am ⟨V,V⟩ V λs' M' g' w x'=>ar s' M' _ g' w x' ⟨ak,aj,ab.1,by have:=ab.2;simp only;omega⟩
end
section
variable{x:cU}{l:List cU}{m d M:E}{i f e h:O}{b:List Nat}{c g:List Int}{a:Int}{K:O->E->Prop}
def AL(a k:O)(m:E):dt cp 245 [oZ x a k] m (x.op=14\/x.op=15):=by
 apply GD;simp -zeta only[aC,aB];intro c;have b:J m c:=J.push _ _;refine⟨λh=>iO (Or.inl (by simpa using h)) b,λh=>eU ?_ b⟩;simp only[aj]at h;simp only[aG];omega
def Xj(l:List cU):Prop:=∀x∈l,x.args.length=1
def zk(l:List cU)(o:Int):Prop:=∃x∈l,o∈x.args
def Xj.at(h:Xj l){k:Nat}(a:l[k]? =some x):∃y,x.args[0]? =some y/\zk l y:=by
 have c:=h x (aq a);let⟨y,b⟩:=cG x.args 0;exact⟨y,b,x,aq a,aq b⟩
def OP(p:eP m i l)(B:Xj l)(H:l.length<=10^12)(v:Int):sV 270 [O.v i,vi v] m λb=>-(l.length:Int)<=b/\b<=l.length:=by
 apply Iy;have L:=p.len;refine eA (n:=l.length) V (λk b M=>J m M/\-(k:Int)<=b/\b<=(k:Int)) ⟨J.az _,V,V⟩ ?_;rintro k b c I μ K ⟨e,E,F⟩ C
 refine⟨λj=>?_,λj=>⟨b,rfl,⟨V,V⟩,e⟩⟩;simp only[ar]at j;let⟨x,q⟩:=cG l k;obtain⟨y,r,_⟩:=B.at q;obtain⟨a,Q,o,_,z,_,_,A,_⟩:=p.aF q;have G:=o.len;have P:=av r;have s:=e.af z;have G3:=e.af A;have h:=(o.ext e).aF r;have u:cT (b+1)=b+1:=aQ V V;have w:cT (b -1)=b -1:=aQ V V;rw[u,w];have N:∀d,-((k+1:Nat):Int)<=d->d<=((k+1:Nat):Int)->I d (cT ((k:Int)+1)) c/\μ d (cT ((k:Int)+1)) c<μ b k c:=λd a t=>C V _ _ ⟨e,a,t⟩
 have D:(0:Int)<=(k:Int)/\(k:Int)<(i.len:Int)/\∃f:O,af c i.D (i.off+Int.toNat (k:Int)*5+3)=some (O.v f)/\(0:Int)<=(0:Int)/\(0:Int)<(f.len:Int)/\∃g:Int,af c f.D (f.off+Int.toNat (0:Int)*1)=some (vi g)/\
  ((g==v)=true->I (b -1) (cT ((k:Int)+1)) c/\μ (b -1) (cT ((k:Int)+1)) c<μ b k c)/\((g==v)=false->I b (cT ((k:Int)+1)) c/\μ b (cT ((k:Int)+1)) c<μ b k c):=
  ⟨V,V,a,G3,V,V,y,h,λ_=>N _ V V,λ_=>N _ V V⟩
 exact⟨V,V,a,G3,V,V,y,h,λ_=>⟨V,V,_,s,λ_=>N _ V V,λ_=>D⟩,λ_=>D⟩
def MZ(q:∀f∈b,f<m.size)(u:eP m i l)(j:Xj l)(G:l.length<=100000000000):kZ 269 [O.v i] m b λc=>(∀o∈c,zk l o)/\c.length<=l.length:=by
 apply Hc;intro N;have K:=u.len;refine eA (n:=l.length) V (λk s M=>J m M/\∃c,GI b m M s c/\(∀o∈c,zk l o)/\c.length<=k) ⟨J.push m _,[],GI.nil b m,aL,ad _⟩ ?_;rintro k s d I μ H ⟨e,c,p,v,t⟩ C
 refine⟨λh=>?_,λh=>⟨s,c,rfl,p,⟨v,V⟩,e⟩⟩;simp only[ar]at h;let⟨x,w⟩:=cG l k;let⟨z,y,A⟩:=j.at w;obtain⟨a,R,r,_,E,_,_,g,_⟩:=u.aF w;have F:=r.len;have L:=av y;refine⟨V,V,a,e.af g,V,V,z,(r.ext e).aF y,?_⟩;refine(mC (S:=b) (λf t=>aO (q f t) e.size) (p.done q V) z V).then λQ B P g f D=>⟨_,rfl,C V _ _ ⟨e.trans D,B,g.cy (λ_ h=>h) e.size,λo j=>?_,oh f.2⟩⟩;rcases f.1 o j with h|h
 .exact v o h
 .subst h;exact A
structure vB(b:List Nat)(m d M:E)(f e h:O)(c lr g:List Int):Prop where
 x:J m M
 gd:GI b m M f c
 gr:GI b m M e lr
 gv:GI [] d M h g
 n1:f.D≠e.D
 n2:f.D≠h.D
 n3:e.D≠h.D
def vB.ext{b:List Nat}{m d M i:E}{f e h:O}{c j g:List Int}(T:vB b m d M f e h c j g)(a:J M i):vB b m d i f e h c j g:=
 ⟨T.x.trans a,T.gd.ext a,T.gr.ext a,T.gv.ext a,T.n1,T.n2,T.n3⟩
def vB.Zz{j:List Int}(T:vB b m d M f e h c j g)(s:∀i∈b,i<m.size)(t:c.length<=10^12)(u:∀r i,vB b m d i r e h (c++[a]) j g->K r i):
 jL (M.push (.cells (bt [.i a]) aA)) aA [.i 0] 8 f (.mk M.size 0 1 1) K:=by
 have o:=T.gr.bn;have p:=T.gv.bn;have v:=T.n1;have w:=T.n2
 refine GI.kK T.gd (T.x.fz []) s t λr i n l z q=>u r i ⟨l.ext,n,T.gr.jx (q _ o.2 T.n1.symm),T.gv.jx (q _ p.2 T.n2.symm),?_,?_,T.n3⟩<;>rcases z.2 with k|k<;>omega
def vB.R8{j:List Int}(T:vB b m d M f e h c j g)(s:∀i∈b,i<m.size)(t:j.length<=10^12)(u:∀r i,vB b m d i f r h c (j++[a]) g->K r i):
 jL (M.push (.cells (bt [.i a]) aA)) aA [.i 0] 8 e (.mk M.size 0 1 1) K:=by
 have o:=T.gd.bn;have p:=T.gv.bn;have v:=T.n1;have w:=T.n3
 refine GI.kK T.gr (T.x.fz []) s t λr i n l z q=>u r i ⟨l.ext,T.gd.jx (q _ o.2 T.n1),n,T.gv.jx (q _ p.2 T.n3.symm),?_,T.n2,?_⟩<;>rcases z.2 with k|k<;>omega
def Vk(l:List cU)(c:List cU):Prop:=∃b a:List Int,c=b.map (eZ 14)++a.map (eZ 15)/\(∀o∈b,zk l o)/\(∀o∈a,zk l o)/\b.length+a.length<=l.length*l.length
def yd(v:∀t∈b,t<m.size)(Z:eP m i l)(a:Xj l)(x:l.length<=500000):Re 246 [O.v i] m b (Vk l):=by
 apply CY;intro r d;have P:J m d:=(J.push m _).trans (J.push r _);have s1:r.size=m.size+1:=by simp[r]
 have gd:GI b m d (.mk m.size 0 0 0) []:=(GI.nil b m).ext (J.push r _);have U:GI b m d (.mk r.size 0 0 0) []:=(GI.nil b r).cy (λ_ F=>F) V;clear_value d;have ah:l.length*l.length<=250000000000:=bH (Mm x x) bh;refine(MZ (b:=[]) aL (Z.le P.le) a V).then λh g m3 D L Q=>⟨_,rfl,?_⟩;have hv:ap m3 h g:=(D.done aL (oh L.2)).le (bA _ _);have am:=hv.len;have al:=L.2;have an:=D.bn;have au:=P.size;refine wO (n:=g.length) V (λp f e M=>∃c j,vB b m d M f e h c j g/\(∀o∈c,zk l o)/\(∀o∈j,zk l o)/\c.length+j.length<=p*l.length) ⟨[],[],⟨(P.trans Q),gd.ext Q,U.ext Q,D,bE,oh gd.bn,oh U.bn⟩,aL,aL,aL⟩ ?_;rintro p f e m4 ag μ hi ⟨c,j,T,hd,hr,X⟩ ae
 have ac:p*l.length<=l.length*l.length:=dh _ V;have G:∀{M:E}{f e:O}{c j:List Int},vB b m d M f e h c j g->ap M h g:=λT=>(T.gv.done aL V).le (bA _ _);refine dit (λF=>?_) λF=>?_
 .let⟨y,z⟩:=cG g p;have ab:=L.1 y (aq z);refine⟨V,V,y,(G T).aF z,?_⟩;refine(OP (Z.le T.x.le) a V y).then λw m5 hn s=>⟨_,rfl,?_⟩;have ak:(p+1)*l.length=p*l.length+l.length:=pY _ _;refine⟨λf k M=>k<=w/\(w<=0->k=w)/\(0<w->0<=k)/\∃H,vB b m d M f e h H j g/\(∀o∈H,zk l o)/\H.length+j.length+k.toNat<=p*l.length+w.toNat,λ_ k _=>k.toNat,⟨V,V,V,c,T.ext s,hd,V⟩,?_⟩;rintro af k m6 ⟨n1,n2,n3,I,A,Y,ai⟩;refine dit (λh1=>?_) λh1=>?_
  .refine⟨V,V,y,(G A).aF z,?_⟩;intro q;have u:cT (k -1)=k -1:=aQ V V;rw[u];exact A.Zz v V λN R B=>⟨⟨V,V,V,_,B,λo a=>by
    rcases List.mem_append.1 a with a|a
    .exact Y o a
    .simp at a;subst a;exact ab,bE⟩,by dsimp only;omega⟩
  .refine⟨λe q M=>k<=q/\q<=0/\∃K,vB b m d M af e h I K g/\(∀o∈K,zk l o)/\I.length+K.length+(-q).toNat<=p*l.length+l.length,λ_ q _=>(-q).toNat,⟨V,V,j,A,hr,V⟩,?_⟩;rintro ao q m8 ⟨p1,p2,ad,C,aa,aj⟩;refine⟨λW=>?_,λW=>ae V _ _ _ ⟨I,ad,C,Y,aa,V⟩⟩;simp only[ar]at W;refine⟨V,V,y,(G C).aF z,?_⟩;intro m9;have u:cT (q+1)=q+1:=aQ V V;rw[u];exact C.R8 v V λN R B=>⟨⟨V,V,_,B,λo a=>by
    rcases List.mem_append.1 a with a|a
    .exact aa o a
    .simp at a;subst a;exact ab,bE⟩,by dsimp only;omega⟩
 .have o:∀t∈b,t<m4.size:=λt X=>by have:=v t X;have:=T.x.size;omega
  refine(eY (c:=b) o 14 ((T.gd.done v V).le (bA _ _)) V).mono λ_ m5⟨s1,C,k,g1,u,s⟩=>?_;subst k;subst u;refine⟨_,rfl,?_⟩;have q:=g1.bn;refine(eY (c:=s1.D::b) (bO o s.size q.2) 15 (((T.ext s).gr.done v V).le (bA _ _)) V).mono λ_ m6⟨I,H,k,g2,y,w⟩=>?_;subst k;subst y;refine⟨_,rfl,?_⟩;refine GS.all (g1.ext gE.mono w) ((s.trans w).fz []) (g2.done gE.mono (bO o s.size q.2) bh bE) bE λN R A z _ _=>⟨N,_,rfl,A.cy gE.mono (λB x=>Or.inl x) T.x.size,⟨c,j,rfl,hd,hr,?_⟩,T.x.trans z.ext⟩;have:p*l.length<=l.length*l.length:=ac;omega
end
section
variable{a c:Nat}
def IU(a b:Nat):a*a+b*b<=(a+b)*(a+b):=by
 rw[gN,Nat.mul_add,Nat.mul_add];omega
def P5{b:Nat}(h:a<=b):a*a<=b*b:=Mm h h
structure CN(ds:List bz)(c:Nat)(S:List Nat)(m2 M:E)(a:Nat)(aD:List cU)(k:Nat)(st run:O)(lo lr:List cU)(P:Nat):Prop where
 x:J m2 M
 gs:GS (run.D::S) m2 M st lo
 gr:GS [st.D] m2 M run lr
 wl:WL ds c True a lo
 Xm:dc lo=dc (aD.take k)
 sws:sw lo<=P*P
 P':P+2*lr.length<=sw (aD.take k)
 lK:Xj lr
 Xs:∀o,zk lr o->0<=o/\o<((a+dc (aD.take k):Nat):Int)
 ne:st.D≠run.D
def PY{f:List bz}{l b:List cU}(h:Vk l b)(e:∀o,zk l o->0<=o/\o<(a:Int)):WL f c True a b/\dc b=0/\sw b<=(2*l.length)*(2*l.length):=by
 obtain⟨k,j,rfl,g,i,m⟩:=h;refine⟨(rP V λo d=>e o (g o d)).append ?_,?_,?_⟩
 .rw[jU V];exact rP V λo d=>e o (i o d)
 .rw[cV,jU V,jU V]
 .rw[dC,oC,oC];have:(2*l.length)*(2*l.length)=4*(l.length*l.length):=by
   rw[Nat.mul_mul_mul_comm]
  omega
def Zl(e:List bz)(c:Nat)(b:Bk):Prop:=∀(S:List Nat)(m:E),(∀d∈S,d<m.size)->∀(t:O)(a:Nat),eP m t b.aD->WB e c True a b->b.w<=400000->nu 230 [.agg #[O.v t,vi b.aS]] m S λd=>WB e c True a d/\d.w<=b.w*b.w
def Eo{K:List bz}:∀g:Bk,Zl K c g:=by
 refine Bk.ind ?_;intro aD bf ih s I hS bU a hs a9 hw;have aK:=a9.aT;rw[Bk.qI]at hw⊢;simp only[Bk.jT,Bk.jv]at*;apply wZ;simp -zeta only[aC,aB];intro j k Q m3;let⟨x1,hl⟩:=dD (a:=j) (c:=k) rfl rfl;have s0:j.size=I.size+1:=by simp[j]
 have s1:k.size=I.size+2:=by simp[k,s0]
 have bl:J k m3:=(J.push k _).trans (J.push Q _);have s2:Q.size=k.size+1:=by simp[Q]
 have a1:∀u,GS u k m3 (.mk k.size 0 0 0) []:=λu=>(GS.new u k).ext gE.mono (J.push Q _);have a0:∀u,GS u k m3 (.mk Q.size 0 0 0) []:=λu=>(GS.new u Q).cy gE.mono (λg m=>Or.inl m) V;clear_value m3;clear_value k;have a8:=hs.len;have aH:=By aD;have bB:=fZ aD;have az:∀e∈j.size::s,e<k.size:=bO hS x1.size (hl _ aL);refine wO (n:=aD.length) (a8▸hs.gT) (λv G z q=>∃Z t P,CN K c (j.size::s) k q a aD v G z Z t P) ⟨[],[],0,bl,a1 _,a0 _,WL.nil _ _ _ _,rfl,aL,aL,λ_ h=>by simp at h,λaf⟨_,h,_⟩=>by simp at h,bE⟩ ?_;rintro v G z y bn μ hk ⟨Z,t,P,C⟩ aM
 have T:=C.x;have R:=x1.trans T;have bM:=C.gs.bn;have bL:=C.gr.bn;have z4:=T.size;have ay:=C.P';have bC:=aH v;have bo:P*P<=160000000000:=bH (P5 (b:=400000) V) bh;have bx:=fZ Z;have a6:=C.sws;have aF:=C.ne;have L:∀{q:E}{u:List Nat},y.size<=q.size->(∀e∈u,e<q.size)->∀e∈u++j.size::s,e<q.size:=λh m e f=>by
  rcases List.mem_append.1 f with h|h
  .exact m e h
  .have:=az e h;omega
 have aG:∀{q:E},J y q->eP q z t:=λh=>eP.le (bA _ _) ((C.gr.ext gE.mono h).nH gE.mono (by simpa using aF.symm) bh V);refine dit (λh=>?_) λh=>?_
 .let⟨d,X⟩:=cG aD v;let⟨pa,pk,ha,ab,g0,g1,g2,g3,g4⟩:=hs.aF X;refine⟨V,V,_,R.af g0,_,R.af g1,_,R.af g2,_,R.af g3,_,R.af g4,?_⟩;intro m5 F;have x6:J y F:=(J.push y _).ah (ad _) _ _;have s6:F.size=y.size+1:=by simp[F,m5,aw]
  clear_value F;have O:∀{q:E},F.size<=q.size->∀g∈[y.size,j.size,I.size],g<q.size:=λh g m=>by
   rcases List.mem_cons.1 m with i|i
   .omega
   .have:=hl g i;omega
  have bI:=pU X;have bF:=qN X;have a_:=cU.mu d;have W:=aK.1 v d X;have bD:=aH (v+1);have br:=qe d.bD;refine(AL pa pk F).aH (J.az F) (O (ad _)) λbp m7 a3 x7 _=>⟨_,rfl,λhp=>?_,λhp=>?_⟩
  · -- a pair goes to the run
   have hp:=a3.1 hp;have D:d.args.length=1:=W.fe.lK V;have N:dn d=0:=ae λh:pd d.op=>by have:=h.2;omega
   have A:=x6.trans x7;intro m8;have r:Le I (bG (z.D::[G.D]) m7):=(zV I).trans (((R.trans A).fz []).bG aL λe f=>by simp at f;have:=x1.size;exact Or.inr V);refine GS.kK (x:=d) (C.gr.ext gE.mono A) ((T.trans A).fz []) (ha.le r) (ab.le r) V λaZ M' U B l w=>⟨λe f=>?_,aM V _ _ _ ⟨Z,t++[d],P,B.ext,(C.gs.ext gE.mono A).re gE.mono (Y:=[z.D]) ⟨l.1,λe f o=>w e f (by simpa using o)⟩ aL (by simpa using aF) (λe f=>?_),U,C.wl,by rw[C.Xm];omega,a6,bE,λak o=>?_,λaf H=>?_,?_⟩⟩
   .have:=O (q:=m7) x7.size e f;rw[w e this (by simp at f;omega),(J.push m7 _).same e this]
   .rcases List.mem_cons.1 f with i|i
    .rcases l.2 with p|p
     .exact Or.inl (by rw[i,p];exact bg)
     .exact Or.inr V
    .exact Or.inl (ai _ i)
   .rcases List.mem_append.1 o with o|o
    .exact C.lK ak o
    .simp at o;subst o;exact D
   .let⟨ak,o,p⟩:=H;have i:dc (aD.take (v+1))=dc (aD.take v):=V;rw[i];rcases List.mem_append.1 o with o|o
    .exact C.Xs af ⟨ak,o,p⟩
    .simp at o;subst o;exact W.fe.args af p
   .have:=(C.gs.ext gE.mono A).bn;rcases l.2 with i|i<;>omega
  · -- another step ends the run
   have A:=x6.trans x7;have aS:=A.size;refine(yd (b:=[G.D,z.D]++j.size::s) (L aS bE) (aG A) C.lK V).aH (J.az m7) (O x7.size) λbS ba bP aX bd aO _=>⟨_,rfl,?_⟩;let⟨an,ag,bj⟩:=PY (f:=K) (c:=c) bd C.Xs;have bu:=fZ ba;have vw:=aO.size;have z7:=x7.size;have a2:(2*t.length)*(2*t.length)<=160000000000:=bH (P5 (b:=400000) V) bh;have aQ:=A.trans aO;refine GS.all (C.gs.ext gE.mono aQ) ((T.trans aQ).fz []) (aX.done gE.mono (L (u:=[G.D,z.D]) aS bE) bh V) V λw l au aU aR be=>⟨λe f=>be e (O V e f) (by simp at f;omega),?_⟩;have ap:J k l:=aU.ext;have bV:=aR.1;have bJ:=au.bn;have bq:w.D=G.D\/F.size<=w.D:=by have:=aR.2;omega
   intro p am;have aP:J l p:=J.push l _;have bT:p.size=l.size+1:=by simp[p]
   have bk:J p am:=J.push p _;have ar:=ap.trans aP;have gn:GS [w.D] k p (.mk l.size 0 0 0) []:=(GS.new _ l).cy gE.mono (λg m=>Or.inl m) ap.size;have gk:GB ([w.D,l.size]++j.size::s) p am (.mk p.size 0 0 0) []:=GB.new _ p;have aY:GS ([l.size]++j.size::s) k p w _:=au.re gE.mono (Y:=[]) (aP.fz []) aL aL λe f=>by
    rcases List.mem_cons.1 f with i|i
    .exact Or.inr V
    .exact Or.inl (ai _ i)
   clear_value am;clear_value p;have al:=ab.len;have bs:=Kz d.bD;have bt:bw d.bD<=400000:=V;refine eA (n:=d.bD.length) (al▸ab.gT) (λD bi q=>J p q/\∃r,GB ([w.D,l.size]++j.size::s) p q bi r/\r.length=D/\(∀(B:Nat)(g:Bk),r[B]? =some g->WB K c True (a+dc (aD.take v)+BH K d.op d.bP B) g)/\bw r<=bw (d.bD.take D)*bw (d.bD.take D)) ⟨bk,[],gk,rfl,aL,aL⟩ ?_;rintro D ks ac I2 μ2 hj ⟨aa,r,U,bv,aE,a4⟩ bc;have ah:=x1.trans (ar.trans aa);have bW:=aa.size;have bK:=U.bn;have N:∀g∈[y.size,j.size,I.size],g<ac.size:=O V;refine dit (λh2=>?_) λh2=>?_
   .let⟨g,m⟩:=cG d.bD D;let⟨tb,aV,f0,f1⟩:=ab.aF m;have a5:=wK m;have aN:=ur m;refine⟨V,V,_,ah.af f0,_,ah.af f1,?_⟩;refine(ih d (aq X) g (aq m) ([ks.D,w.D,l.size]++j.size::s) ac (L V bE) tb _ (aV.le ah.le) (W.bD D g m) V).aH (J.az ac) N λss b' a7 aT aA ao _=>⟨_,_,rfl,?_⟩;refine GB.kK (c:=b') (U.ext rJ.mono ao) ((aa.trans ao).fz []) aT V λaZ M' g2 f2 z2 q2=>⟨J.oH ((aa.trans ao).aK _) f2.ext (λe f=>oh (O (q:=p) V e f)),bc V _ _ ⟨f2.ext,_,g2,bE,λB b2 H=>?_,?_⟩⟩
    .rcases aW B r.length with aj|aj
     .rw[ax aj]at H;exact aE B b2 H
     .rw[aI aj]at H;have:B -r.length=0:=by have:=av H;simp at this;omega
      rw[this]at H;simp at H;subst H;have:B=D:=V;subst this;exact aA.1
    .rw[oQ,uq,zw,aN];have h3:=IU (bw (d.bD.take D)) g.w;have:=aA.2;omega
   .have a5:r.length=d.bD.length:=V;rw[bY V]at a4;refine(bN ([w.D,l.size]++j.size::s) (ha.ext ah) V).aH (J.az ac) N λs' l' bb ga i H _=>⟨_,rfl,aJ (H.same _ (N _ aL)) _,aJ (H.same _ (N _ aL)) _,aJ (H.same _ (N _ aL)) _,?_⟩;subst i;intro bQ;have aj:=aa.trans H;have bX:=H.size;have ao:∀e∈[w.D,l.size]++j.size::s,e<p.size:=L V bE;have a7:w.D≠l.size:=V;refine GS.kK (x:=⟨d.op,d.bP,d.bZ,d.args,r⟩) (aY.ext gE.mono aj) ((ar.trans aj).fz []) (ga.done (λe f=>oh (ao e f)) V) (nF.le (H.df _) (U.done rJ.mono ao bh (by show r.length<=_;omega))) bE λaN bR aZ aV bm aA=>⟨λe f=>?_,aM V _ _ _ ⟨_,[],P+2*t.length+d.w,aV.ext,aZ,?_,((C.wl.append (by rw[C.Xm];exact an)).yD (W.PH id W.fe.bZ a5 aE|>λh=>by rw[cV,C.Xm,ag,jF];exact h)),?_,?_,bE,λ_ h=>by simp at h,λaf⟨_,h,_⟩=>by simp at h,?_⟩⟩
    .have h3:=N e f;rw[aA e V (by simp at f;omega),(J.push bb _).same e V]
    · -- the new run is empty
     have i:=gn.ext gE.mono aj;let⟨p0,aT,p1,p2⟩:=i;refine⟨p0,aT,p1.congr (aA _ (by have:=aj.size;show l.size<_;omega) (kE a7)),p2.len,p2.size,λB cs ak _ o=>by simp at o⟩
    .rw[cV,cV,C.Xm,ag,kM,ta];have i:dn (⟨d.op,d.bP,d.bZ,d.args,r⟩:cU)=dn d:=rfl;omega
    .rw[dC,dC,mK,vm];have h3:=IU P (2*t.length);have h4:=IU (P+2*t.length) d.w;have h5:(⟨d.op,d.bP,d.bZ,d.args,r⟩:cU).w=1+d.args.length+bw r:=cU.mu _;have o:=IU (1+d.args.length) (bw d.bD);have h7:1+d.args.length<=(1+d.args.length)*(1+d.args.length):=Nat.le_mul_of_pos_left _ V;rw[<-a_]at o;omega
    .rcases bm.2 with i|i
     .show aN.D≠l.size;omega
     .show aN.D≠l.size;omega
 .have al:v=aD.length:=V;subst al;rw[fu]at ay;have hd:dc (aD.take aD.length)=dc aD:=by rw[fu]
  have i:∀g∈[j.size,I.size],g<y.size:=λg m=>T.lt (hl g m);refine(yd (b:=[G.D,z.D]++j.size::s) (L (ad _) bE) (aG (J.az _)) C.lK V).aH (J.az y) i λO l F r A d _=>⟨_,rfl,aJ (d.same _ (i _ aL)) _,?_⟩;let⟨an,ag,bj⟩:=PY (f:=K) (c:=c) A C.Xs;have D:=fZ l;have a2:(2*t.length)*(2*t.length)<=160000000000:=bH (P5 (b:=400000) V) bh;have U:=d.size;refine GS.all (C.gs.ext gE.mono d) ((T.trans d).fz []) (r.done gE.mono (L (u:=[G.D,z.D]) (ad _) bE) bh V) V λB H w p W o=>⟨λe f=>o e (d.lt (i e f)) (oh (hl e f)),aJ (o _ (d.lt (i _ aL)) V) _,?_⟩;intro N;refine⟨B,.mk (Z++l) bf,rfl,eP.le (cA aL λe f=>ai _ f) ((w.re gE.mono (S':=j.size::s) (Y:=[]) (Fz.az _ _) aL aL (λe f=>Or.inl (ai _ f))).done gE.mono az bh bE),⟨WB.of (C.wl.append (by rw[C.Xm];exact an)) ?_,?_⟩,(x1.trans p.ext).ah V _ _⟩
  .rw[cV,C.Xm,ag,hd];exact aK.2
  .rw[Bk.qI,dC];have h3:=IU P (2*t.length);have h4:=P5 ay;have h5:=IU 1 (sw aD);omega
end
section
variable{e:List Nat}{c:E}{d f:O}{g:List gP}{W:Nat}
def Ig(F:∀a∈e,a<c.size){j:List bz}(p:eL c d f j g)(hW:W<=400000)(Z:yi j g True W):uR 209 [.agg #[O.v d,O.v f]] c e j λw=>yi j w True (W*W):=by
 apply Aq;simp -zeta only[aC,aB];intro b a2;let⟨z,u⟩:=dD (a:=b) (c:=a2) rfl rfl;have s1:b.size=c.size+1:=by simp[b]
 clear_value a2;have ai:=p.iU.len;have ar:=p.oD;refine(fV (b:=b.size::e) (bO F z.size (u _ aL)) (p.le z.le).bo p.types).mono λ_ K⟨ab,k,ad,A⟩=>?_;subst k;refine⟨A.dv u,_,rfl,?_⟩;intro L am aa;have u2:=z.trans A;let⟨x5,B0,g0,s3,s5⟩:=kX (b:=L.size::b.size::e) iR.mono (d:=K) (a:=L) (c:=am) (h:=aa) rfl rfl rfl;clear_value aa;have v:∀a∈[b.size,c.size],a<K.size:=λa i=>A.lt (u a i);have H:∀a∈b.size::e,a<K.size:=λa i=>A.lt (bO F z.size (u _ aL) a i);refine kU (R:=λh o M=>∃d f w,Value.agg #[O.v h,O.v o]=.agg #[O.v d,O.v f]/\eL (bG e M) d f j w/\yi j w True (W*W)/\J c M) (r:=g.length) (f:=c) (b:=e) iR.mono bh bh F ⟨V,v _ aL⟩ u2 s3 ad ai V x5 B0 g0 (λ_ q=>q.params.length<=3/\q.cR.length<=3/\WB j g.length True q.params.length q.body/\q.body.w<=W*W) (λh t I x U X o r s=>⟨h,t,I,rfl,⟨U,X,p.types,V⟩,HP Z.iW o r,s⟩) λal M st I ao μ ae ap B T C an=>?_
 let⟨q,hq⟩:=cG g al ae;let⟨ah,ag,ak,hw⟩:=Z.dz q (aq hq);have y:=u2.trans B;let⟨au,av,h,c1,c2,c3,N,P,Q,D,E⟩:=p.iU.aF hq;have G:∀{x:Value}{h r:Nat},af c h r=some x->af M h r=some x:=λt=>y.af t;refine⟨st,C.cg 1,V,V,_,G N,_,G P,_,G Q,_,G D,_,G E,V,V,_,G D,_,G E,?_⟩;have hy:=T.bn;have ac:=C.lt;have zM:=B.size;refine(Eo q.body (st.D::L.size::b.size::e) M (λa i=>?_) h q.params.length (c3.le y.le) ak V).aH B v λss b' M1 aj Y o u1=>⟨_,_,rfl,?_⟩
 .simp only[aV]at i;rcases i with k|k|k|k
  .omega
  .omega
  .have:=H a (by simp[k]);omega
  .have:=H a (by simp[k]);omega
 have s:∀{x:Value}{h r:Nat},af c h r=some x->af M1 h r=af M h r:=λt=>by rw[o.af (G t),G t]
 refine⟨s N,s P,s Q,s D,s E,aJ (o.same _ (B.lt (v _ aL))) _,aJ (o.same _ ac) _,?_⟩;exact vU (b:=b.size::e) (v:=ab) (x:=I) H (λa i=>by have U:=v a i;have X:=u1.size;omega) u1 (T.ext iR.mono o) (C.ext o) V (c1.ext (y.trans o)) (c2.ext (y.trans o)) aj ⟨V,V⟩ V λs' X g' U x'=>an s' X _ g' U x' ⟨ah,ag,Y.1,bH Y.2 (P5 hw)⟩
def Xz(b:Bk):Prop:=∀(e:List Nat)(c:E),(∀a∈e,a<c.size)->∀t:O,eP c t b.aD->b.w<=10^12->nu 287 [.agg #[O.v t,vi b.aS]] c e (b=·)
def xY(H:∀i∈e,i<c.size){z B:O}{x:cU}(I:ap c z x.args)(u:nF c B x.bD)(hw:x.w<=10^12)(P:∀h∈x.bD,Xz h):Ko 318 [oZ x z B] c e (x=·):=by
 apply Cw;simp -zeta only[aC,aB];intro d a y;let⟨D,v⟩:=dD (a:=d) (c:=a) rfl rfl;have R:d.size=c.size+1:=by simp[d]
 have s1:a.size=c.size+2:=by simp[a,R]
 have S:J a y:=J.push _ _;have F:GB (d.size::e) a y (.mk a.size 0 0 0) []:=GB.new _ a;clear_value y;clear_value a;have r:∀i∈d.size::e,i<a.size:=bO H D.size (v _ aL);have K:=u.len;have aa:=cU.mu x;have Y:=qe x.bD;refine eA (n:=x.bD.length) (K▸u.gT) (λw s M=>J a M/\GB (d.size::e) a M s (x.bD.take w)) ⟨S,F⟩ ?_;rintro w s p U μ hj ⟨m,o⟩ Q
 have l:=D.trans m;have k:∀h∈[d.size,c.size],h<p.size:=λh j=>m.lt (v h j);have N:=o.bn;have T:=m.size;refine dit (λG=>?_) λG=>?_
 .let⟨h,j⟩:=cG x.bD w;let⟨tb,M,A,E⟩:=u.aF j;have Z:=wK j;refine⟨V,V,_,l.af A,_,l.af E,?_⟩;refine(P h (aq j) (s.D::d.size::e) p (bO r T N.2) tb (M.le l.le) V).aH (J.az p) k λss X C L q g _=>⟨_,_,rfl,?_⟩;subst q;refine GB.kK (c:=h) (o.ext rJ.mono g) ((m.trans g).fz []) L bE λf W g2 t z2 q2=>⟨J.oH ((m.trans g).aK _) t.ext v,Q V _ _ ⟨t.ext,?_⟩⟩;rw[aU j];exact g2
 .rw[bY V]at o;refine(bN (d.size::e) (I.ext l) V).aH (J.az p) k λM W C E q g _=>⟨_,rfl,aJ (g.same _ (k _ aL)) _,aJ (g.same _ (k _ aL)) _,aJ (g.same _ (k _ aL)) _,?_⟩;subst q;intro L;have A:Le (bG (d.size::e) C) (bG e L):=cA aL λi t=>ai _ t;exact⟨M,s,x,rfl,(E.done (λi t=>oh (r i t)) V).le A,nF.le A ((o.ext rJ.mono g).done rJ.mono r bh V),rfl,(l.trans g).ah V _ _⟩
def we:∀j:Bk,Xz j:=by
 refine Bk.ind ?_;intro aD h ih e c W al z hw;rw[Bk.qI]at hw;simp only[Bk.jT,Bk.jv]at*;apply rB;simp -zeta only[aC,aB];intro f b d C q;let⟨I,y⟩:=dD (a:=f) (c:=b) rfl rfl;have s0:f.size=c.size+1:=by simp[f]
 have s1:b.size=c.size+2:=by simp[b,s0]
 have s2:d.size=b.size+1:=by simp[d]
 have s3:C.size=d.size+1:=by simp[C]
 have K:J d q:=(J.push d _).ah (ad _) _ _;have ag:J b q:=(J.push b _).trans K;have x:GS (d.size::f.size::e) b q (.mk b.size 0 0 0) []:=(GS.new _ b).ext gE.mono K;have N:cE q d.size di [.s (.mk b.size 0 0 0),.i h]:=cE.ah (m:=C) (o:=0) (r:=[.s (.mk b.size 0 0 0),.i h]) (cE.push d _ _);clear_value q;have F:∀u∈f.size::e,u<b.size:=bO W I.size (y _ aL);have ae:=z.len;have aj:=fZ aD;refine dU (n:=aD.length) (ae▸z.gT) (λA M=>J b M/\∃s,GS (d.size::f.size::e) b M s (aD.take A)/\cE M d.size di [.s s,.i h]) ⟨ag,_,x,N⟩ ?_;rintro A D ah μ hk ⟨w,s,l,B⟩ af
 have g:=I.trans w;have ac:∀j∈[f.size,c.size],j<D.size:=λj Y=>w.lt (y j Y);have hy:=l.bn;have z5:=w.size;have E:=B.lt;refine dit (λU=>?_) λU=>?_
 .let⟨H,v⟩:=cG aD A;let⟨pa,pk,X,ab,x,g1,g2,R,T⟩:=z.aF v;have ak:=OT v;refine⟨s,B.cg 0,V,V,_,g.af x,_,g.af g1,_,g.af g2,_,g.af R,_,g.af T,?_⟩;refine(xY (e:=s.D::d.size::f.size::e) (bO (bO F z5 E) (ad _) hy.2) (X.ext g) (ab.le g.le) V (ih H (aq v))).aH (J.az D) ac λM O x' G Z aa k t _=>⟨_,_,_,_,_,rfl,aJ (t.same _ E) _,?_⟩;subst k;intro m7;refine Gr.box (g:=[.i 0,.i 0,.i 0,.s .nil,.s .nil]) (j:=0) (i:=[.s s,.i h]) (w:=H) gE.mono bh (l.ext gE.mono t) ((w.trans t).fz []) ⟨M,O,rfl,Z,aa⟩ bE (B.ext t) aL bh ⟨V,aL⟩ (λu p=>by have L:=y u p;have P:=t.size;omega) λr' m' Q L P z' q'=>af V _ ⟨P.ext,r',?_,L⟩
  rw[aU v];exact Q
 .rw[bY V]at l;refine⟨s,B.cg 0,h,B.cg 1,?_⟩;intro G;have v:=l.ne B bh;have t:Le (bG (d.size::f.size::e) D) (bG e G):=cA aL λu p=>ai _ (ai _ p);refine⟨s,.mk aD h,rfl,eP.le t (l.nH gE.mono (λp=>?_) bh (by show aD.length<=_;omega)),rfl,g.ah V _ _⟩;rcases List.mem_cons.1 p with k|k
  .exact v k
  .have:=F _ k;omega
def Zj(b:Bk):Prop:=∀(c:E)(t:O)(f:Int),eP c t b.aD->oN 319 [.agg #[O.v t,vi b.aS],vi f] c
def JJ:∀b:Bk,Zj b:=by
 refine Bk.ind ?_;intro aD Y G c t s m;simp only[Bk.jT,Bk.jv]at*;apply Ct;simp -zeta only[aC,aB];intro g;have A:J c g:=J.push _ _;have D:∀b∈[c.size],b<g.size:=by simp[g]
 clear_value g;have F:=m.len;refine dU (n:=aD.length) (F▸m.gT) (λ_ M=>J g M) (J.az _) ?_;rintro k o I μ X r N
 have h:=A.trans r;refine⟨λj=>?_,λ_=>rA h⟩;simp only[ar]at j;let⟨x,v⟩:=cG aD k;let⟨pa,w,U,l,B,g1,g2,T,u⟩:=m.aF v;have C:=l.len;have L:∃(i:Int->E->Prop)(μ0_1:Int->E->Nat),i (0:Int) o/\(∀(a:Int)(M:E),i a M->
  (0:Int)<=(k:Int)/\(k:Int)<(t.len:Int)/\∃q:O,af M t.D (t.off+Int.toNat (k:Int)*5+4)=some (O.v q)/\
  ((decide (a<(q.len:Int)))=true->(0:Int)<=(k:Int)/\(k:Int)<(t.len:Int)/\∃d:O,af M t.D (t.off+Int.toNat (k:Int)*5+4)=some (O.v d)/\
   (0:Int)<=a/\a<(d.len:Int)/\∃y:O,af M d.D (d.off+Int.toNat a*2)=some (O.v y)/\∃z:Int,af M d.D (d.off+Int.toNat a*2+1)=some (vi z)/\
   aN cp 319 [.agg #[O.v y,vi z],vi s] M λf e=>eG [c.size] M e/\∃p:Bool,f=vb p/\(p=true->∃b:Bool,vb true=.bool b/\J c e)/\(p=false->i (cT (a+(1:Int))) e/\μ0_1 (cT (a+(1:Int))) e<μ0_1 a M))/\
  ((decide (a<(q.len:Int)))=false->I (cT ((k:Int)+(1:Int))) M/\μ (cT ((k:Int)+(1:Int))) M<μ k o)):=by
  refine dU (n:=x.bD.length) (C▸l.gT) (λ_ M=>J o M) (J.az _) ?_
  rintro H M R μ2 W d K
  have a:=h.trans d
  refine⟨V,V,w,a.af u,λj=>?_,λ_=>N V _ (r.trans d)⟩
  simp only[ar]at j
  let⟨b,p⟩:=cG x.bD H
  let⟨tb,z,q,y⟩:=l.aF p
  refine⟨V,V,w,a.af u,V,V,_,a.af q,_,a.af y,?_⟩
  exact(G x (aq v) b (aq p) M tb s (z.le a.le)).aH (r.trans d) D λS e Q P=>⟨_,rfl,λ_=>rA (A.trans P),λ_=>K V _ (d.trans Q)⟩
 exact⟨V,V,_,h.af B,λ_=>⟨V,V,_,h.af g1,λ_=>rA h,λ_=>L⟩,λ_=>L⟩
def JQ{o:List bz}(h:eL c d f o g)(i:Int):oN 288 [.agg #[O.v d,O.v f],vi i] c:=by
 apply CI;simp -zeta only[aC,aB];intro a;have k:J c a:=J.push _ _;have s:∀e∈[c.size],e<a.size:=by simp[a]
 clear_value a;have H:=h.iU.len;have G:=h.oD;refine dU (n:=g.length) V (λ_ M=>J a M) (J.az _) ?_;rintro u v I μ F l w
 have b:=k.trans l;refine⟨λr=>?_,λ_=>rA b⟩;simp only[ar]at r;let⟨x,t⟩:=cG g u;let⟨K,L,e,A,B,m,C,D,E,p,q⟩:=h.iU.aF t;exact⟨V,V,_,b.af p,_,b.af q,(JJ x.body v e i (m.le b.le)).aH l s λz y M j=>⟨_,rfl,λ_=>rA (k.trans j),λ_=>w V _ j⟩⟩
abbrev Y4(e:List Nat)(a c:E)(s:O)(l:List (List Int)):Prop:=Gr e a c xK 1 mO s l
def Gl(Z:∀a∈e,a<c.size){R:List bz}(o:eL c d f R g)(hp:∀y∈g,y.params.length<=3):
 aN cp 253 [.agg #[O.v d,O.v f]] c λae G=>∃s l,ae=O.v s/\pb (bG e G) s l/\l.length=g.length/\(∀a∈l,a.length<=3)/\J c G:=by
 apply yH
 simp -zeta only[aC,aB]
 intro b x
 have N:J c b:=J.push _ _
 have v:∀z∈[c.size],z<b.size:=by simp[b]
 have af:J b x:=J.push _ _
 have W:Y4 e b x (.mk b.size 0 0 0) []:=Gr.new e (ad _) _ _ _
 clear_value x
 clear_value b
 have aj:=o.iU.len;have ai:=o.oD
 have C:∀a∈e,a<b.size:=λa u=>N.lt (Z a u)
 refine eA (n:=g.length) V (λk s M=>J b M/\∃l,Y4 e b M s l/\l.length=k/\∀a∈l,a.length<=3) ⟨af,[],W,rfl,aL⟩ ?_
 rintro k s H P μ hk ⟨r,l,t,ag,B⟩ aa
 have q:=N.trans r
 have h:=t.bn
 refine dit (λY=>?_) λY=>?_
 .let⟨y,D⟩:=cG g k
  let⟨ab,ak,z,Q,c2,c3,T,e1,e2,e3,e4⟩:=o.iU.aF D
  have ah:=hp y (aq D)
  have iI:∀(M:E)(i:O)(a:List Int),J H M->ap (bG (s.D::e) M) i a->a.length<=3->jL (M.push (.cells (bt [.s i]) xK)) xK [.s O.nil] 24 s (O.mk M.size 0 1 1) λK m=>eG [c.size] (M.push (.cells (bt [.s i]) xK)) m/\P K (cT ((k:Int)+(1:Int))) m/\μ K (cT ((k:Int)+(1:Int))) m<μ s k H:=λM i a w hf u=>
   Gr.kK (g:=[.s .nil]) mO.mono bh (t.ext mO.mono w) ((r.trans w).fz []) ⟨i,rfl,hf⟩ V λr' m U A _ _=>⟨J.oH ((r.trans w).aK _) A.ext v,aa V _ _ ⟨A.ext,_,U,bE,λj h=>by
    rcases List.mem_append.1 h with h|h
    .exact B j h
    .simp at h;subst h;exact u⟩⟩
  refine(JQ (o.le q.le) k).aH r v λa m4 j L=>⟨_,rfl,λ_=>?_,λ_=>⟨V,V,ab,(q.trans j).af T,?_⟩⟩
  .intro p m6
   exact iI p _ [] (j.aK _) (mF _ _ _ _ _ _) aL
  .refine(rS (S:=[]) aL (a:=0) ((Q.ext (q.trans j)).le (zV _)) V).aH L v λac F p X I x5 u5=>⟨_,rfl,?_⟩
   intro m6
   have hg:GI (s.D::e) m4 p ac F:=X.any
   exact iI p _ F (j.trans x5) (hg.done (bO C L.size (oh j.size)) (oh I.2)) (oh I.2)
 .exact⟨s,l,rfl,t.done mO.mono C bh V,V,B,q⟩
def Zk(a:List bz)(g:List gP)(b:Bk):Prop:=∀(c:E)(d f t:O)(v:Int)(h:Prop)(e:Nat),eL c d f a g->eP c t b.aD->WB a g.length h e b->oN 289 [.agg #[O.v d,O.v f],.agg #[O.v t,vi b.aS],vi v] c
def Au{C:List bz}:∀b:Bk,Zk C g b:=by
 refine Bk.ind ?_;intro aD ah ih c d f ai ae m ag E t Z;have aa:=Z.aT.1;simp only[Bk.jT,Bk.jv]at*;apply vd;simp -zeta only[aC,aB];intro K v;let⟨O,W⟩:=dD (a:=K) (c:=v) rfl rfl;clear_value v;have X:=t.len;refine⟨λ_=>rA O,λ_=>?_⟩;refine dU (n:=aD.length) (X▸t.gT) (λ_ M=>J v M) (J.az _) ?_;rintro I p af μ hk A ac
 have e:=O.trans A;refine⟨λj=>?_,λ_=>rA e⟩;simp only[ar]at j;let⟨x,u⟩:=cG aD I;let⟨pa,pk,o,r,Q,g1,g2,R,S⟩:=t.aF u;have F:=aa I x u;have T:=o.len;have U:=r.len;refine⟨V,V,_,e.af Q,_,e.af g1,_,e.af g2,_,e.af R,_,e.af S,?_⟩;intro m3 h;have B:J p h:=(J.push p _).ah (ad _) _ _;have s4:h.size=p.size+1:=by simp[h,m3,aw]
 clear_value h;have s:∀b∈[p.size,K.size,c.size],b<h.size:=λb k=>by
  rcases List.mem_cons.1 k with D|D
  .omega
  .exact(A.trans B).lt (W b D)
 refine dU (n:=x.args.length) (T▸o.gT) (λ_ M=>J h M) (J.az _) ?_;rintro H L I1 μ1 hj l y;have z:=(e.trans B).trans l;refine⟨λj=>?_,λ_=>?_⟩
 .simp only[ar]at j;let⟨Y,P⟩:=cG x.args H;refine⟨V,V,Y,(o.ext z).aF P,λ_=>?_,λ_=>y V _ l⟩;refine(xX x.op L).aH l s λm w i G=>⟨_,rfl,λ_=>?_,λ_=>y V _ G⟩;have a:=z.trans i;exact(nQ (⟨E.le a.le,o.ext a,F.fe.call⟩:At w d f pa pk C g x) H).aH G s λm m7 q N=>⟨_,rfl,λ_=>rA (a.trans q),λ_=>y V _ N⟩
 .refine dU (n:=x.bD.length) (U▸r.gT) (λ_ M=>J L M) (J.az _) ?_;rintro G w I2 μ2 hi i ab;have a:=z.trans i;refine⟨λj=>?_,λ_=>ac V _ (((A.trans B).trans l).trans i)⟩;simp only[ar]at j;let⟨b,k⟩:=cG x.bD G;let⟨tb,Y,M,P⟩:=r.aF k;refine⟨V,V,_,a.af M,_,a.af P,?_⟩;exact(ih x (aq u) b (aq k) w d f tb ae m _ (E.le a.le) (Y.le a.le) (F.bD G b k)).aH (l.trans i) s λm m7 q N=>⟨_,rfl,λ_=>rA (a.trans q),λ_=>ab V _ (i.trans q)⟩
def JS(P:∀h∈e,h<c.size){A:List bz}(r:eL c d f A g){h:Prop}(Q:yi A g h W){B:Nat}{q:gP}(s:g[B]? =some q):kZ 254 [.agg #[O.v d,O.v f],vi B] c e λl=>l.length<=q.cR.length:=by
 apply CJ;simp -zeta only[aC,aB];intro a u;have y:J c a:=J.push _ _;have E:∀k∈[c.size],k<a.size:=by simp[a]
 have T:J a u:=J.push _ _;have N:GI e a u (.mk a.size 0 0 0) []:=GI.nil e a;clear_value u;clear_value a;have af:=r.iU.len;have aa:=av s;let⟨ae,ac,R,hw⟩:=Q.dz q (aq s);let⟨ah,w,k,X,m,I,Z,o,e2,K,L⟩:=r.iU.aF s;have ag:=m.len;refine eA (n:=q.cR.length) V (λt v M=>J a M/\∃l,GI e a M v l/\l.length<=t) ⟨T,[],N,ad _⟩ ?_;rintro t v S U μ ab ⟨H,l,p,D⟩ G
 have b:=y.trans H;refine⟨V,V,w,b.af o,λi=>?_,λi=>⟨v,l,rfl,p.cy (λ_ i=>i) y.size,V,b⟩⟩;simp only[ar]at i;let⟨z,F⟩:=cG q.cR t;refine⟨V,V,_,b.af K,_,b.af L,V,V,w,b.af o,V,V,z,(m.ext b).aF F,?_⟩;refine(Au q.body S d f k z h _ (r.le b.le) (I.le b.le) R).aH H E λY m4 j x=>⟨_,rfl,λ_=>⟨V,V,w,(b.trans j).af o,V,V,z,(m.ext (b.trans j)).aF F,?_⟩,λ_=>G V _ _ ⟨x,l,p.ext j,V⟩⟩;intro m5;exact GI.kK (p.ext j) (x.fz []) (λh D=>y.lt (P h D)) V λf m6 M C _ _=>⟨J.oH (x.aK _) C.ext E,G V _ _ ⟨C.ext,_,M,bE⟩⟩
end
section
variable{b:List Nat}{e:E}{d g:O}{f:List gP}{c:Prop}{W:Nat}
def yf(Q:∀c∈b,c<e.size){lt:O}{v:List bz}{H:List (List Int)}(y:eL e d g v f)(hW:W<=1000000)(hk:yi v f c W)(ag:pb e lt H)(aQ:H.length=f.length)(av:∀c∈H,c.length<=3):
 uR 252 [.agg #[O.v d,O.v g],O.v lt] e b v λz=>yi v z c W/\z.length=f.length:=by
 apply Df
 simp -zeta only[aC,aB]
 intro j a2
 let⟨K,D⟩:=dD (a:=j) (c:=a2) rfl rfl
 have s1:j.size=e.size+1:=by simp[j]
 clear_value a2
 have az:=y.iU.len;have aS:=y.oD
 refine(fV (b:=j.size::b) (bO Q K.size (D _ aL)) (y.le K.le).bo y.types).mono λ_ Y⟨dd,h,ar,L⟩=>?_
 subst h
 refine⟨L.dv D,_,rfl,?_⟩
 intro s aI al
 have u2:=K.trans L
 let⟨x5,B0,g0,s3,s5⟩:=kX (b:=s.size::j.size::b) iR.mono (d:=Y) (a:=s) (c:=aI) (h:=al) rfl rfl rfl
 clear_value al
 have U:∀c∈[j.size,e.size],c<Y.size:=λc k=>L.lt (D c k)
 have ae:∀c∈j.size::b,c<Y.size:=λc k=>L.lt (bO Q K.size (D _ aL) c k)
 refine kU (R:=λl o M=>∃d g z,Value.agg #[O.v l,O.v o]=.agg #[O.v d,O.v g]/\eL (bG b M) d g v z/\(yi v z c W/\z.length=f.length)/\J e M) (r:=f.length) (f:=e) (b:=b) iR.mono bh bh Q ⟨V,U _ aL⟩ u2 s3 ar az V x5 B0 g0 (λ_ q=>q.params.length<=3/\q.cR.length<=3/\WB v f.length c q.params.length q.body/\q.body.w<=W) (λo Z aj m' h1 C l p r=>⟨o,Z,aj,rfl,⟨h1,C,y.types,V⟩,⟨HP hk.iW l p,l⟩,r⟩) λai M t aj aM μ au aP xM ac N aK=>?_
 let⟨q,hq⟩:=cG f ai au
 let⟨ay,aO,aE,hw⟩:=hk.dz q (aq hq)
 have v6:=u2.trans xM
 let⟨aU,aW,p,c1,c2,c3,e0,e1,e2,e3,e4⟩:=y.iU.aF hq
 have G:∀{am:Value}{p x:Nat},af e p x=some am->af M p x=some am:=λB=>v6.af B
 refine⟨V,V,_,G e0,_,G e1,_,G e2,_,G e3,_,G e4,?_⟩
 intro m7 l
 have hy:=ac.bn
 have aN:=N.lt
 have zM:=xM.size
 have x8:J M l:=(J.push M _).ah (ad _) _ _
 have s8:l.size=M.size+1:=by simp[l,m7,aw]
 clear_value l
 have F:∀c∈[M.size,j.size,e.size],c<l.size:=λc k=>by
  rcases List.mem_cons.1 k with h|h
  .omega
  .have:=U c h;omega
 have A:=v6.trans x8
 have r:∀{M1 M2:E},J l M1->J l M2->∀p,p<l.size->∀x,af M2 p x=af M1 p x:=λB h' p hb x=>aJ (by rw[h'.same p hb,B.same p hb]) x
 have w:M.size<l.size:=V
 have X:s.size<l.size:=V
 let⟨ab,ah⟩:=cG H ai
 let⟨yt,aG,P⟩:=ag.aF ah
 have aF:=av ab (aq ah)
 have aR:=ag.len
 have T:∀{M':E},l.size<=M'.size->∀c∈t.D::s.size::j.size::b,c<M'.size:=λB c k=>by
  simp only[aV]at k;rcases k with h|h|h|h
  .omega
  .omega
  .have:=ae c (by simp[h]);omega
  .have:=ae c (by simp[h]);omega
 refine⟨t,(N.ext x8).cg 1,V,V,yt,A.af P,?_⟩
 refine(bN (t.D::s.size::j.size::b) (c1.ext A) V).aH (J.az l) F λp' _ m9 gp h o _=>⟨_,rfl,r (J.az _) o _ w _,r (J.az _) o _ w _,r (J.az _) o _ w _,((A.trans o).af P).trans (A.af P).symm,r (J.az _) o _ X _,?_⟩
 subst h
 refine(bN (t.D::s.size::j.size::b) (aG.ext (A.trans o)) V).aH o F λt' _ aH gt h an u=>⟨_,rfl,r o u _ w _,r o u _ w _,r o u _ w _,r o u _ X _,?_⟩
 subst h
 have z9:=o.size;have vw:=an.size
 refine(we q.body (t.D::s.size::j.size::b) aH (T V) p (c3.le (A.trans u).le) V).aH u F λss b' ak aA h ao I=>⟨_,_,rfl,r u I _ w _,r u I _ X _,?_⟩
 subst h
 intro aT
 have aa:=x8.trans I
 have aX:=I.size
 have ax:ap (bG (t.D::s.size::j.size::b) ak) p' q.params:=(gp.done (T V) V).le ((an.trans ao).df _)
 have aD:ap (bG (t.D::s.size::j.size::b) ak) t' ab:=(gt.done (T V) V).le (ao.df _)
 exact Gr.box (g:=[.s .nil,.s .nil,.i 0,.s .nil,.i 0]) (j:=1) (y:=88) (i:=[.s dd,.s t]) (w:=⟨q.params,ab,q.aS,q.body⟩) iR.mono bh (ac.ext iR.mono aa) ((xM.trans aa).fz []) ⟨p',t',ss,rfl,ax,aD,aA⟩ V (N.ext aa) aL bh ⟨V,aL⟩ (λc k=>by have h1:=F c k;have C:=U c;simp only[aV]at k C;rcases k with h|h|h|h<;>first|omega|(have:=C (by simp[h]);omega)|simp at h) λZ m' g' C f' z' q'=>aK Z m' _ g' C f'.ext ⟨ay,aF,aE,hw⟩
def JX(hS:∀c∈b,c<e.size){A:List bz}(Z:eL e d g A f)(hW:W<=1000000)(hk:yi A f c W):uR 238 [.agg #[O.v d,O.v g]] e b A λt=>yi A t c W:=by
 apply CM;simp -zeta only[aC,aB];intro i a2;let⟨x2,G⟩:=dD (a:=i) (c:=a2) rfl rfl;have s1:i.size=e.size+1:=by simp[i]
 have s2:a2.size=e.size+2:=by simp[a2,s1]
 clear_value a2;have aG:=Z.iU.len;have aE:=Z.oD;have aj:∀c∈i.size::b,c<a2.size:=bO hS x2.size (G _ aL);have p:∀{M q:E},J a2 M->J a2 q->∀ac,af q e.size ac=af M e.size ac:=λu h' ac=>aJ (by rw[h'.same _ (G _ aL),u.same _ (G _ aL)]) ac;have tail:∀(Q:E)(a:Nat)(z y:O)(C:List gP),J a2 Q->a2.size<=a->cE Q a nh [.s z,.s y]->eL (bG (a::i.size::b) Q) z y A C->yi A C c W->
  ∃(I0:Int->E->Prop)(μ0:Int->E->Nat),I0 (0:Int) Q/\(∀(l:Int)(v:E),I0 l v->
   ((decide (l<=(12:Int)))=true->
    let U:E:=v.push (.cells (bt []) xK)
    ∃(w:O->Int->E->Prop)(μ1:O->Int->E->Nat),w (O.mk v.size 0 0 0) (0:Int) U/\(∀(s:O)(x:Int)(h:E),w s x h->
     ∃D:O,af h a 1=some (O.v D)/\
     ((decide (x<(D.len:Int)))=true->∃j:O,af h a 0=some (O.v j)/\∃k:O,af h a 1=some (O.v k)/\
      aN cp 254 [.agg #[O.v j,O.v k],vi x] h λY P=>eG [i.size,e.size] h P/\∃aa:O,Y=O.v aa/\
       let ae:E:=P.push (.cells (bt [.s aa]) xK)
       jL ae xK [.s O.nil] 24 s (O.mk P.size 0 1 1) λF B=>eG [i.size,e.size] ae B/\w F (cT (x+(1:Int))) B/\μ1 F (cT (x+(1:Int))) B<μ1 s x h)/\
     ((decide (x<(D.len:Int)))=false->∃j:O,af h a 0=some (O.v j)/\∃k:O,af h a 1=some (O.v k)/\
      aN cp 252 [.agg #[O.v j,O.v k],O.v s] h λH I=>eG [i.size,e.size] h I/\∃B:O,∃F:O,H=.agg #[O.v B,O.v F]/\fK I a 0 2/\
       let L:E:=ah I a 0 [.s B,.s F]
       eG [i.size,e.size] I L/\I0 (cT (l+(1:Int))) L/\μ0 (cT (l+(1:Int))) L<μ0 l v)))/\
   ((decide (l<=(12:Int)))=false->∃j:O,af v a 0=some (O.v j)/\∃k:O,af v a 1=some (O.v k)/\
    let ag:E:=ah v i.size 0 [.s j,.s k]
    ∃d g t,Value.agg #[O.v j,O.v k]=.agg #[O.v d,O.v g]/\eL (bG b ag) d g A t/\yi A t c W/\J e ag)):=by
  intro Q a z y C T au hB hN R
  refine dU (n:=13) V (λ_ M=>J a2 M/\∃z y C,cE M a nh [.s z,.s y]/\eL (bG (a::i.size::b) M) z y A C/\yi A C c W) ⟨T,z,y,C,hB,hN,R⟩ ?_
  rintro aI v az μ aD ⟨x6,z,y,C,H,N,K⟩ ay
  have aA:=H.lt
  have aH:=N.iU.len
  have aF:=N.oD
  refine⟨λu=>?_,λu=>?_⟩
  .simp only[ar]at u
   intro U
   have ao:J v U:=J.push _ _
   have g0:Y4 [] v U (.mk v.size 0 0 0) []:=Gr.new _ (ad _) _ _ _
   refine eA (n:=C.length) V (λx s M=>J v M/\∃l,Y4 [] v M s l/\l.length=x/\∀c∈l,c.length<=3) ⟨ao,[],g0,rfl,aL⟩ ?_
   rintro x s h I2 μ2 hf ⟨D,l,ab,ap,B⟩ am
   have u8:=x6.trans D
   have N8:=N.le (D.df _)
   refine⟨y,(H.ext D).cg 1,dit (λF=>?_) λF=>?_⟩
   .let⟨X,hq⟩:=cG C x
    have an:=(K.dz X (aq hq)).2.1
    have j:=ab.bn
    refine⟨z,(H.ext D).cg 0,y,(H.ext D).cg 1,?_⟩
    refine(JS (e:=[s.D]) bE (N8.le (bA _ _)) K hq).aH u8 G λaa av P ak aw x9 u9=>⟨_,rfl,?_⟩
    intro ae
    refine Gr.kK (g:=[.s .nil]) mO.mono bh (ab.ext mO.mono x9) ((D.trans x9).fz []) ⟨aa,rfl,ak.done bE V⟩ V λw q g' k _ _=>⟨J.oH (u9.aK _) (x6.trans k.ext) G,am V _ _ ⟨k.ext,_,g',bE,λal j=>?_⟩⟩
    rcases List.mem_append.1 j with j|j
    .exact B al j
    .simp at j;subst j;omega
   .refine⟨z,(H.ext D).cg 0,y,(H.ext D).cg 1,?_⟩
    have ak:pb h s l:=eT.le (ab.done mO.mono aL bh V) (bA _ _) (mO.le (bA _ _))
    have z8:=D.size;have z6:=x6.size
    refine(yf (b:=a::i.size::b) (λc k=>?_) (N8.le (bA _ _)) hW K ak V B).mono λ_ I⟨d2,Y,an,j,N2,⟨K2,_⟩,aa⟩=>?_
    .rcases List.mem_cons.1 k with j|j
     .omega
     .have:=aj c j;omega
    subst j
    have ae:=(H.ext D).ext aa
    refine⟨u8.U0 G aa,_,_,rfl,ae.fK aL,?_⟩
    intro L
    have al:∀P,P≠a->L[P]? =I[P]? :=λP hb=>bd _ _ _ _ hb
    refine⟨λc k=>al c (oh (G c k)),ay V _ ⟨(u8.trans aa).ah au _ _,d2,Y,an,cE.ah (m:=I) (o:=0) (r:=[.s d2,.s Y]) ae,N2.le (cA aL λ_ u=>u),K2⟩⟩
  .refine⟨z,H.cg 0,y,H.cg 1,?_⟩
   intro ag
   exact⟨z,y,C,rfl,(N.le (iS v λc k=>ai _ k)).le (cA aL λc k=>ai _ k),K,(x2.trans x6).ah V _ _⟩
 have av:∀X∈f,X.params.length<=3:=λX hq=>(hk.dz X hq).1;have al:∀(M:E)(L:List Nat)(K:Value->E->Prop),J a2 M->(∀c∈L,c<M.size)->(∀s l q,pb q s l->l.length=f.length->(∀c∈l,c.length<=3)->J M q->K (O.v s) q)->aN cp 253 [.agg #[O.v d,O.v g]] M λak U=>eG L M U/\K ak U:=λM L K T hL R=>
  (Gl (e:=[]) aL (Z.le (x2.trans T).le) av).mono λ_ q⟨s,l,j,I,F,B,Y⟩=>⟨Y.dv hL,j▸R s l q (eT.le I (bA _ _) (mO.le (bA _ _))) F B Y⟩
 have cR:∀(M:E)(S' L:List Nat)(K:Value->E->Prop)(s:O)(l:List (List Int)),J a2 M->(∀c∈L,c<M.size)->(∀c∈S',c<M.size)->pb M s l->l.length=f.length->(∀c∈l,c.length<=3)->(∀x w t q,eL (bG S' q) x w A t->yi A t c W->J M q->K (.agg #[O.v x,O.v w]) q)->aN cp 252 [.agg #[O.v d,O.v g],O.v s] M λak U=>eG L M U/\K ak U:=λM S' L K s l T hL ap I F B R=>
  (yf ap (Z.le (x2.trans T).le) hW hk I F B).mono λ_ q⟨x,w,t,j,N,⟨K1,_⟩,Y⟩=>⟨Y.dv hL,j▸R x w t q N K1 Y⟩
 have am:∀{M:E}{a:Nat},J a2 M->a<M.size->∀c∈a::i.size::b,c<M.size:=λu hb c k=>by
  have:=u.size;rcases List.mem_cons.1 k with j|j
  .omega
  .have:=aj c j;omega
 have ag:∀{M:E}{a:Nat},J a2 M->a<M.size->∀c∈[a,i.size,e.size],c<M.size:=λu hb c k=>by
  rcases List.mem_cons.1 k with j|j
  .omega
  .exact u.lt (G c j)
 refine⟨al a2 _ _ (J.az _) G λs l ab I F B h=>⟨_,rfl,p (J.az _) h _,p (J.az _) h _,⟨?_,?_⟩⟩,?_⟩
 .refine cR ab (i.size::b) _ _ s l h (λc k=>h.lt (G c k)) (λc k=>h.lt (aj c k)) I F B λx w t m3 N K P=>⟨_,_,rfl,?_⟩;have D:=h.trans P;intro m4;have u4:J a2 m4:=D.aK _;refine⟨p D u4 _,p D u4 _,p D u4 _,p D u4 _,?_⟩;intro m5;have aa:J m3 m5:=(J.push m3 _).ah (ad _) _ _;exact tail m5 m3.size x w t (D.trans aa) D.size (cE.ah (m:=m4) (o:=0) (r:=[.s x,.s w]) (cE.push m3 _ _)) (N.le (aa.bG λc k=>by
   rcases List.mem_cons.1 k with j|j
   .exact Or.inr V
   .exact Or.inl j)) K
 .intro aa;have D:J a2 aa:=h.aK _;refine⟨p h D _,p h D _,p h D _,p h D _,?_⟩;refine cR aa (ab.size::i.size::b) _ _ s l D (ag D (by simp[aa])) (am D (by simp[aa])) (pb.ext (J.push _ _) I) F B λx w t ae N K P=>⟨_,_,rfl,?_⟩;intro an;exact tail an ab.size x w t ((D.trans P).ah h.size _ _) h.size (cE.ah (m:=ae) (o:=0) (r:=[.s x,.s w]) ((cE.push ab _ _).ext P)) (N.le (cA aL λ_ u=>u)) K
 .intro aa;have D:J a2 aa:=J.push _ _;refine⟨p (J.az _) D _,p (J.az _) D _,p (J.az _) D _,p (J.az _) D _,?_⟩;refine al aa _ _ D (ag D (by simp[aa])) λs l ao I F B h=>⟨_,rfl,p D (D.trans h) _,p D (D.trans h) _,?_⟩;have ae:=D.trans h;have an:a2.size<ao.size:=h.lt (by simp[aa]);refine cR ao (a2.size::i.size::b) _ _ s l ae (ag ae an) (am ae an) I F B λx w t aw N K P=>⟨_,_,rfl,?_⟩;intro ax;exact tail ax a2.size x w t ((ae.trans P).ah (ad _) _ _) (ad _) (cE.ah (m:=aw) (o:=0) (r:=[.s x,.s w]) ((cE.push a2 _ _).ext (h.trans P))) (N.le (cA aL λ_ u=>u)) K
end
section
variable{w:Int}{r:List Int}
structure bM where
 aP:Int
 j9:Int
 aE:List Int
structure aX where
 fE:Int
 pc:Int
 dst:Int
 ak:List Int
 aR:List Int
 ba:List Int
structure St where
 bV:Int
 value:Int
 bu:Int
 dV:Int
 aT:List Int
 heap:List bM
 ao:List aX
def aF(l:List Int)(i:Int):Int:=l.getD i.toNat 0
def gR(l:List Int)(i:Int)(v:Int):List Int:=l.set i.toNat v
def ix(w:Int):Nat:=(w -1000).toNat
def gL(w:Int):Prop:=-999<=w/\w<=999
def fP(h:List bM)(a:Nat):Prop:=∃c,h[a]? =some c/\0<c.aP
def fY(h:List bM)(w:Int):Prop:=1000<=w/\fP h (ix w)
def qB(h:List bM)(w:Int):Prop:=gL w\/fY h w
def iZ:bM:=⟨0,0,[]⟩
def aM(h:List bM)(w:Int):bM:=(h[ix w]?).getD iZ
def Z3:dy:=⟨[],[],0,0,[]⟩
def dO(a:cO)(n:Int):dy:=(a.cF[n.toNat]?).getD Z3
def cr(a:cO):Int:=(eS a.bo).length
def eC:List Int->Nat->Int
 |[],_=>0
 |w::b,a=>(if w=1000+(a:Int)then 1 else 0)+eC b a
def eu:List bM->Nat->Int
 |[],_=>0
 |c::h,a=>eC c.aE a+eu h a
def de:List Int->List Int->Nat->Int
 |r::c,o::b,a=>(if r=1000+(a:Int)then o else 0)+de c b a
 |_,_,_=>0
def fA:List aX->Nat->Int
 |[],_=>0
 |f::b,a=>de f.ak f.aR a+fA b a
def dG:List aX->Nat->Int
 |[],_=>0
 |f::b,a=>eC f.ba a+dG b a
def ny(a:cO)(x:Instr)(k:Nat):Bool:=(dO a x.bP).cR.any (λy=>y==(k:Int))
def iE(a:cO)(x:Instr):Nat->List Int->List Int
 |_,[]=>[]
 |k,r::b=>if ny a x k then iE a x (k+1) b else r::iE a x (k+1) b
def fH(a:cO)(x:Instr):Nat->List Int->List Int
 |_,[]=>[]
 |k,r::b=>if ny a x k then r::fH a x (k+1) b else fH a x (k+1) b
def bT(a:cO)(x:Instr):List Int:=
 if x.op=15\/x.op=6\/x.op=10\/x.op=11\/x.op=18\/x.op=23 then x.args
 else if x.op=16\/x.op=17 then x.args.take 1
 else if x.op=9\/x.op=24 then iE a x 0 x.args
 else[]
def bC(ak aR:List Int):List Int->List Int
 |[]=>aR
 |r::a=>bC ak (if 1000<=aF ak r then gR aR r (aF aR r -1)else aR) a
def cL(f:aX)(a:List Int):List Int:=a.map (aF f.ak)
def kV(l:List Int):List Int:=l.filter (λw=>decide (1000<=w))
def lj(h:List bM)(a:List Int):Prop:=∀w∈a,1000<=w->(aM h w).aP+eC a (ix w)<=999999
def Fk(h:List bM)(f:aX)(x:Instr):Prop:=
 let w:=aF f.ak (aF x.args 0)
 fY h w/\kV (aM h w).aE=cL f (x.args.drop 1)/\((aM h w).aP=1\/lj h (aM h w).aE)/\(x.op=17->aF f.ba (aF x.args 0)=0)
def vz(a:cO)(h:List bM)(w:Int):Prop:=
 fY h w/\0<=(aM h w).j9 -cr a/\(aM h w).j9 -cr a<a.cF.length/\
  (dO a ((aM h w).j9 -cr a)).params.length=(aM h w).aE.length+1/\(dO a ((aM h w).j9 -cr a)).cR.length=0/\
  ((aM h w).aP=1\/lj h (aM h w).aE)
def Fl(h:List bM)(f:aX)(x:Instr):Prop:=
 x.bZ≠0->aF f.ba (x.bZ -1)≠0->(aM h (aF f.ba (x.bZ -1))).aE.length=x.args.length
def Kq(a:cO)(h:List bM)(f:aX)(x:Instr):Prop:=∀r∈fH a x 0 x.args,1000<=aF f.ak r->fY h (aF f.ak r)
def RZ(l:List Int):Prop:=∀n∈l,n=0
structure ln(im:cO)(s:St)(f:aX)(x:Instr)(aR:List Int):Prop where
 nn:∀o∈aR,0<=o
 dst:lP x.op->aF aR x.dst<=0
 nJ:(x.op=1\/x.op=2\/x.op=3\/x.op=4\/x.op=5\/x.op=20)->∀r∈x.args,aF f.ak r<1000
 jd:x.op=6->Fl s.heap f x
 cR:(x.op=9\/x.op=24)->Kq im s.heap f x
 zero:(x.op=24\/x.op=23)->RZ aR/\RZ f.ba
 ret:x.op=23->1<s.ao.length\/aF f.ak (aF x.args 0)<1000
 apply:x.op=11->vz im s.heap (aF f.ak (aF x.args 0))
 WM:x.op=14->fY s.heap (aF f.ak (aF x.args 0))/\(aM s.heap (aF f.ak (aF x.args 0))).aP<999999
 drop:x.op=15->1000<=aF f.ak (aF x.args 0)
 NA:(x.op=16\/x.op=17)->Fk s.heap f x
 load:x.op=19->fY s.heap (aF f.ak (aF x.args 0))/\x.bP<(aM s.heap (aF f.ak (aF x.args 0))).aE.length
 Fb:x.op=21->fY s.heap (aF f.ak (aF x.args 0))/\(aM s.heap (aF f.ak (aF x.args 0))).j9∈cz im.bo x.bP
def Fu(n:Int):Int:=if n< -999 then -999 else if 999<n then 999 else n
def OI(c a b:Int):Int:=
 if c=1 then Fu (a+b)else if c=2 then Fu (a -b)else if c=3 then Fu (a*b)else if c=4/\a<b then 1 else 0
def dF:List bM->Nat
 |[]=>0
 |c::h=>if c.aP=0 then 0 else dF h+1
def jd(h:List bM)(a:Nat)(c:bM):List bM:=if a=h.length then h++[c]else h.set a c
def mQ(h:List bM)(w:Int):List bM:=h.set (ix w) {aM h w with aP:=(aM h w).aP+1}
def fj(h:List bM)(w:Int):List bM:=h.set (ix w) {aM h w with aP:=(aM h w).aP -1}
def je(h:List bM):List Int->List bM
 |[]=>h
 |w::a=>je (mQ h w) a
def ji(h:List bM):Nat->Nat
 |0=>0
 |n+1=>match h[n]? with
  |some c=>if c.aP=0 then ji h n else n+1
  |none=>ji h n
def ns(h:List bM):List bM:=h.take (ji h h.length)
def Cb:List bM->Nat
 |[]=>0
 |c::h=>(if 0<c.aP then c.aP.toNat+c.aE.length else 0)+Cb h
def km:∀{e:List bM}{f:Nat}{b d:bM},e[f]? =some b->Cb (e.set f d)+(if 0<b.aP then b.aP.toNat+b.aE.length else 0)=Cb e+(if 0<d.aP then d.aP.toNat+d.aE.length else 0)
 |[],f,b,d,e=>by simp at e
 |i::e,0,b,d,g=>by simp at g;subst g;simp only[iz,Cb];omega
 |i::e,f+1,b,d,g=>by
  have:=km (e:=e) (f:=f) (b:=b) (d:=d) (by simpa using g);simp only[jq,Cb];omega
def bS{h:List bM}(b:fY h w):h[ix w]? =some (aM h w)/\0<(aM h w).aP:=by
 obtain⟨_,d,a,c⟩:=b;simp[aM,a,c]
open Classical in
noncomputable def gZ (h:List bM) (c:List Int):List bM:=
 match c with
 |[]=>h
 |w::r=>
  if b:fY h w then
   if a:(aM h w).aP=1 then gZ (h.set (ix w) iZ) ((aM h w).aE.reverse++r)
   else gZ (fj h w) r
  else gZ h r
termination_by Cb h+c.length
decreasing_by
 .let⟨e,a⟩:=bS b
  have:=km (d:=iZ) e
  simp only[iZ,an a]at this
  simp[iZ]
  simp at this
  omega
 .let⟨e,a⟩:=bS b
  have b:=km (d:={aM h w with aP:=(aM h w).aP -1}) e
  simp only[an a]at b
  rw[an V]at b
  simp[fj]
  omega
 .simp
def sS(h:List bM):gZ h []=h:=by rw[gZ]
def sT{h:List bM}(b:fY h w)(a:(aM h w).aP=1):gZ h (w::r)=gZ (h.set (ix w) iZ) ((aM h w).aE.reverse++r):=by
 rw[gZ,SE b,SE a]
def ql{h:List bM}(b:fY h w)(a:(aM h w).aP≠1):gZ h (w::r)=gZ (fj h w) r:=by
 rw[gZ,SE b,dif_neg a]
def qt{h:List bM}(a:¬fY h w):gZ h (w::r)=gZ h r:=by
 rw[gZ,dif_neg a]
def aX.put(f:aX)(r w o:Int):aX:={f with ak:=gR f.ak r w,aR:=gR f.aR r o}
def gH(w:Int):Int:=if 1000<=w then 1 else 0
def dE(aR:List Int):List Int->List Int
 |[]=>aR
 |r::a=>dE (gR aR r (aF aR r+1)) a
def dk(n:Nat):List Int:=List.replicate n 0
def dL(cR:List Int):Nat->List Int->List Int
 |_,[]=>[]
 |k,w::a=>(if cR.any (λy=>y==(k:Int))then 0 else gH w)::dL cR (k+1) a
def bX(a:cO)(g c:Int)(b:List Int):aX:=
 ⟨g,0,c,b++dk ((dO a g).ak.toNat -b.length),dL (dO a g).cR 0 b++dk ((dO a g).ak.toNat -b.length),dk (dO a g).ak.toNat⟩
open Classical in
noncomputable def apart (h:List bM) (w:Int):List bM:=
 if(aM h w).aP=1 then ns (h.set (ix w) iZ)else je (fj h w) (kV (aM h w).aE)
def tf(l:List Int)(n:Int):Nat:=l.findIdx (λy=>y==n)
open Classical in
noncomputable def fF (b:cO) (s:St) (a:List aX) (f:aX) (x:Instr) (aR:List Int):St:=
 let g:aX:={f with aR:=aR,pc:=f.pc+1}
 let c:=aF x.args 0
 let w:=aF f.ak c
 if x.op=0 then{s with ao:=a++[g.put x.dst x.bP 0]}
 else if x.op=1\/x.op=2\/x.op=3\/x.op=4 then{s with ao:=a++[g.put x.dst (OI x.op w (aF f.ak (aF x.args 1))) 0]}
 else if x.op=5 then{s with aT:=s.aT++[w],ao:=a++[g.put x.dst w 0]}
 else if x.op=6 then
  if x.bZ≠0/\aF f.ba (x.bZ -1)≠0 then
   {s with heap:=s.heap.set (ix (aF f.ba (x.bZ -1))) ⟨1,x.bP,cL f x.args⟩,ao:=a++[{g with ba:=gR f.ba (x.bZ -1) 0}.put x.dst (aF f.ba (x.bZ -1)) 1]}
  else{s with heap:=jd s.heap (dF s.heap) ⟨1,x.bP,cL f x.args⟩,ao:=a++[g.put x.dst (1000+dF s.heap) 1]}
 else if x.op=10 then{s with heap:=jd s.heap (dF s.heap) ⟨1,cr b+x.bP,cL f x.args⟩,ao:=a++[g.put x.dst (1000+dF s.heap) 1]}
 else if x.op=14 then{s with heap:=mQ s.heap w,ao:=a++[{g with aR:=gR aR c (aF aR c+1)}]}
 else if x.op=15 then{s with heap:=ns (gZ s.heap [w]),ao:=a++[g]}
 else if x.op=16\/x.op=17 then
  let d:={g with aR:=dE aR (x.args.drop 1)}
  if(aM s.heap w).aP=1/\x.op=17 then{s with heap:=s.heap.set (ix w) ⟨-1,0,dk (aM s.heap w).aE.length⟩,ao:=a++[{d with ba:=gR f.ba c w}]}
  else{s with heap:=apart s.heap w,ao:=a++[d]}
 else if x.op=18 then{s with ao:=a++[g.put x.dst w (gH w)]}
 else if x.op=19 then{s with ao:=a++[g.put x.dst (aF (aM s.heap w).aE x.bP) 0]}
 else if x.op=20 then{s with ao:=a++[{g with pc:=if w=0 then x.bP else f.pc+1}]}
 else if x.op=21 then{s with ao:=a++[{g with pc:=aF x.eM (tf (cz b.bo x.bP) (aM s.heap w).j9)}]}
 else if x.op=22 then{s with ao:=a++[{g with pc:=x.bP}]}
 else if x.op=9 then{s with bu:=s.bu+1,ao:=a++[g,bX b x.bP x.dst (cL f x.args)]}
 else if x.op=24 then{s with bu:=s.bu+1,ao:=a++[bX b x.bP f.dst (cL f x.args)]}
 else if x.op=11 then
  {s with bu:=s.bu+1,heap:=apart s.heap w,ao:=a++[g,bX b ((aM s.heap w).j9 -cr b) x.dst ((aM s.heap w).aE++[aF f.ak (aF x.args 1)])]}
 else -- 23
  match a.getLast? with
  |none=>{s with bV:=0,value:=w,ao:=[]}
  |some p=>{s with ao:=a.dropLast++[p.put f.dst w (gH w)]}
def mU(a:Int):Prop:=a=9\/a=11\/a=24
instance(a:Int):Decidable (mU a):=by unfold mU;infer_instance
def ez(a:cO)(f:aX):Instr:=((dO a f.fE).dq[f.pc.toNat]?).getD ⟨0,0,0,0,[],[]⟩
open Classical in
noncomputable def kD (a:cO) (s:St):St:=
 if s.bV≠3 then s else
 match s.ao.getLast? with
 |none=>s
 |some f=>
  if mU (ez a f).op/\s.bu=s.dV then{s with bV:=1}
  else if ln a s f (ez a f) (bC f.ak f.aR (bT a (ez a f)))then
   fF a s s.ao.dropLast f (ez a f) (bC f.ak f.aR (bT a (ez a f)))
  else{s with bV:=2}
end
section
variable{f b:Nat}{h g:List bM}{e e':Nat->Int}{w:Int}{c d:bM}
def lT:∀(l r:List Int)(f:Nat),eC (l++r) f=eC l f+eC r f
 |[],r,f=>by simp[eC]
 |w::l,r,f=>by simp only[cZ,eC,lT l r f];omega
def zW:∀(l:List Int)(f:Nat),eC l.reverse f=eC l f
 |[],f=>rfl
 |w::l,f=>by simp only[Qj,lT,zW l f,eC];omega
def iD:∀(l:List Int)(f:Nat),0<=eC l f
 |[],f=>by simp[eC]
 |w::l,f=>by have:=iD l f;simp only[eC];split<;>omega
def nM:∀{l:List Int}{f:Nat},(1000+(f:Int))∉l->eC l f=0
 |[],f,_=>rfl
 |w::l,f,h=>by
  simp only[aV,vv]at h;simp only[eC,nM h.2];rw[ae (λe=>h.1 e.symm)];rfl
def uz:∀{l:List Int}{f:Nat},(1000+(f:Int))∈l->1<=eC l f
 |[],f,h=>by simp at h
 |w::l,f,h=>by
  simp only[eC];rcases List.mem_cons.1 h with rfl|h
  .rw[an rfl];have:=iD l f;omega
  .have:=uz h;split<;>omega
def OF{l:List Int}(h:0<eC l f):(1000+(f:Int))∈l:=
 dQ λa=>by rw[nM a]at h;omega
def So(n:Nat)(f:Nat):eC (dk n) f=0:=nM λh=>by have:=Vg h;omega
def vV:∀(l:List Int)(f:Nat),eC (kV l) f=eC l f
 |[],f=>rfl
 |w::l,f=>by
  have:=vV l f;simp only[kV]at this⊢;rw[List.filter_cons];split
  .simp only[eC,this]
  .rename_i h;simp only[eC,this];rw[ae (λe=>h bE)];omega
def ku:∀(l:List Int)(f:Nat),eC l f<=l.length
 |[],f=>by simp[eC]
 |w::l,f=>by have:=ku l f;simp only[eC,aZ];split<;>omega
def uC:∀(h k:List bM)(f:Nat),eu (h++k) f=eu h f+eu k f
 |[],k,f=>by simp[eu]
 |c::h,k,f=>by simp only[cZ,eu,uC h k f];omega
def qT:∀(h:List bM)(f:Nat),0<=eu h f
 |[],f=>by simp[eu]
 |c::h,f=>by have:=qT h f;have:=iD c.aE f;simp only[eu];omega
def Aa:∀{h:List bM}{f:Nat}{c:bM}(e:bM)(_:h[f]? =some c)(b:Nat),eu (h.set f e) b=eu h b -eC c.aE b+eC e.aE b
 |[],f,c,e,h,b=>by simp at h
 |d::h,0,c,e,g,b=>by simp at g;subst g;simp only[iz,eu];omega
 |d::h,f+1,c,e,g,b=>by
  have:=Aa (h:=h) (f:=f) e (by simpa using g) b;simp only[jq,eu,this];omega
def Lm:∀{h:List bM}{f:Nat},0<eu h f->∃c∈h,(1000+(f:Int))∈c.aE
 |[],f,h=>by simp[eu]at h
 |c::h,f,e=>by
  simp only[eu]at e;rcases dR (0<eC c.aE f)with b|b
  .exact⟨c,bg,OF b⟩
  .let⟨d,hd,g⟩:=Lm (h:=h) (f:=f) (oh (iD c.aE f));exact⟨d,ai _ hd,g⟩
def RJ:∀{h:List bM}{c:bM}(_:c∈h)(f:Nat),eC c.aE f<=eu h f
 |[],c,a,f=>by simp at a
 |d::h,c,a,f=>by
  simp only[eu];rcases List.mem_cons.1 a with rfl|a
  .have:=qT h f;omega
  .have:=RJ a f;have:=iD d.aE f;omega
structure ou(h:List bM)(c:bM):Prop where
 fl:c.aE.length<=3
 lo: -1<=c.aP
 hi:c.aP<=999999
 wM:c.aP<1->c.j9=0/\(∀w∈c.aE,w=0)/\(c.aP=0->c.aE=[])
 oP:0<c.aP->(∀w∈c.aE,qB h w)/\0<=c.j9/\c.j9<=99
def SF(h:List bM):Prop:=∃a:Nat->Nat,∀(i:Nat)(c:bM),h[i]? =some c->∀w∈c.aE,1000<=w->a (ix w)<a i
structure fN(h:List bM)(e:Nat->Int):Prop where
 cell:∀c∈h,ou h c
 Mr:SF h
 ex:∀(f:Nat)(c:bM),h[f]? =some c->0<c.aP->c.aP=eu h f+e f
 nn:∀f,0<=e f
 lv:∀f,0<e f->fP h f
def fN.congr(c:fN h e)(a:∀b,e' b=e b):fN h e':=by
 have:e'=e:=funext a;rw[this];exact c
def lA(f:Nat):ix (1000+(f:Int))=f:=by unfold ix;omega
def il(h:1000<=w):1000+((ix w:Nat):Int)=w:=by unfold ix;omega
def QR{v:Int}(a:1000<=v)(b:1000<=w)(h:ix v=ix w):v=w:=by rw[<-il a,<-il b,h]
def fN.field(i:fN h e)(g:c∈h)(f:w∈c.aE)(j:1000<=w):fY h w:=by
 have d:=i.cell c g;rcases dR (0<c.aP)with b|b
 .rcases(d.oP b).1 w f with a|a
  .have:=a.2;omega
  .exact a
 .have:=(d.wM V).2.1 w f;omega
def fN.WY(d:fN h e)(g:¬fP h f):eu h f=0:=by
 rcases dR (0<eu h f)with a|a
 .let⟨c,b,i⟩:=Lm a;have:=(d.field b i V).2;rw[lA]at this;exact absurd this g
 .have:=qT h f;omega
def fN.Yn(a:fN h e)(c:¬fP h f):e f=0:=by
 have:=a.nn f;rcases dR (0<e f)with b|b
 .exact absurd (a.lv f b) c
 .omega
def iC(a:b≠f):(h.set f c)[b]? =h[b]? :=by rw[cv (λe=>a e.symm)]
def eJ(hd:h[f]? =some d):(h.set f c)[f]? =some c:=by
 rw[dx (av hd)]
def fP.ne(a:b≠f):fP (h.set f c) b<->fP h b:=by unfold fP;rw[iC a]
def fP.yB(hd:h[f]? =some d):fP (h.set f c) f<->0<c.aP:=by
 unfold fP;rw[eJ hd];simp
def qB.mono(c:qB h w)(b:1000<=w->fP h (ix w)->fP g (ix w)):qB g w:=by
 rcases c with a|a
 .exact Or.inl a
 .exact Or.inr ⟨a.1,b a.1 a.2⟩
def ou.mono{h g:List bM}{c:bM}(a:ou h c)(e:0<c.aP->∀w∈c.aE,1000<=w->fP h (ix w)->fP g (ix w)):ou g c:=
 ⟨a.fl,a.lo,a.hi,a.wM,λb=>⟨λw d=>((a.oP b).1 w d).mono (e b w d),(a.oP b).2⟩⟩
def nL{x:bM}(i:x∈h.set f c):x=c\/∃b,b≠f/\h[b]? =some x:=by
 let⟨b,a⟩:=List.mem_iff_getElem?.1 i;by_cases e:b=f
 .subst e;rw[List.getElem?_set_self']at a;cases g:h[b]? with
  |none=>simp[g]at a
  |some d=>simp[g]at a;exact Or.inl a.symm
 .rw[iC e]at a;exact Or.inr ⟨b,e,a⟩
def fN.Ki(j:fN h e)(g:h[f]? =some c)(i:0<c.aP){n:Int}(v:0<n)(u:n<=999999)
 (m:∀b,e' b=e b+if b=f then n -c.aP else 0)(s:0<=e' f):fN (h.set f {c with aP:=n}) e':=by
 have p:∀b,fP (h.set f {c with aP:=n}) b<->fP h b:=λb=>by
  by_cases a:b=f
  .subst a;rw[fP.yB g];exact⟨λ_=>⟨c,g,i⟩,λ_=>v⟩
  .exact fP.ne a
 have x:∀b,eu (h.set f {c with aP:=n}) b=eu h b:=λb=>by rw[Aa _ g];simp only[];omega
 refine⟨λA y=>?_,?_,λb d hd t=>?_,λb=>?_,λb l=>?_⟩
 .rcases nL y with rfl|⟨b,_,l⟩
  .have q:=j.cell c (aq g)
   exact⟨q.fl,by simp only[];omega,u,λr=>by simp only[]at r;omega,λ_=>⟨λw k=>((q.oP i).1 w k).mono λ_ o=>(p _).2 o,(q.oP i).2⟩⟩
  .exact(j.cell A (aq l)).mono λ_ w _ _ o=>(p _).2 o
 .let⟨z,r⟩:=j.Mr
  refine⟨z,λo d hd w k i=>?_⟩
  by_cases q:o=f
  .subst q;rw[eJ g]at hd;simp at hd;subst hd;exact r o c g w k i
  .rw[iC q]at hd;exact r o d hd w k i
 .rw[x,m]
  by_cases a:b=f
  .subst a;rw[eJ g]at hd;simp at hd;subst hd
   have:=j.ex b c g i
   simp only[an];omega
  .rw[iC a]at hd
   have:=j.ex b d hd t
   rw[ae a];omega
 .by_cases a:b=f
  .subst a;exact s
  .rw[m,ae a];have:=j.nn b;omega
 .rw[p]
  by_cases a:b=f
  .subst a;exact⟨c,g,i⟩
  .rw[m,ae a]at l;exact j.lv b V
def fN.QO(j:fN h e)(m:h[f]? =some c)(I:c.aP=1)(J:0<e f){c':bM}(C: -1<=c'.aP)(L:c'.aP<1)(G:c'.j9=0)
 (r:∀w∈c'.aE,w=0)(B:c'.aE.length<=3)(A:c'.aP=0->c'.aE=[])
 (p:∀b,e' b=e b -(if b=f then 1 else 0)+eC c.aE b):fN (h.set f c') e':=by
 have o:=j.ex f c m V
 have O:=qT h f
 have N:eu h f=0:=V
 have K:e f=1:=V
 have u:∀x∈h,(1000+(f:Int))∉x.aE:=λx o g=>by
  have:=RJ o f;have:=uz g;omega
 have M:eC c.aE f=0:=nM (u c (aq m))
 have E:∀b,eC c'.aE b=0:=λb=>nM λg=>by have:=r _ g;omega
 have t:∀b,b≠f->fP h b->fP (h.set f c') b:=λb i q=>(fP.ne i).2 q
 have D:∀x∈h,∀w∈x.aE,1000<=w->ix w≠f:=λx o w g n y=>by
  have:=il n;rw[y]at this;rw[<-this]at g;exact u x o g
 refine⟨λx o=>?_,?_,λb d hd z=>?_,λb=>?_,λb k=>?_⟩
 .rcases nL o with rfl|⟨b,_,k⟩
  .exact⟨B,C,V,λ_=>⟨G,r,A⟩,λn=>V⟩
  .exact(j.cell x (aq k)).mono λ_ w g n q=>t _ (D x (aq k) w g n) q
 .let⟨H,F⟩:=j.Mr
  refine⟨H,λv d hd w g n=>?_⟩
  by_cases s:v=f
  .subst s;rw[eJ m]at hd;simp at hd;subst hd;have:=r w g;omega
  .rw[iC s]at hd;exact F v d hd w g n
 .rw[Aa _ m,E,p]
  by_cases i:b=f
  .subst i;rw[eJ m]at hd;simp at hd;subst hd;omega
  .rw[iC i]at hd
   have:=j.ex b d hd z
   rw[ae i];omega
 .rw[p]
  have:=j.nn b
  have:=iD c.aE b
  split
  .rename_i i;subst i;omega
  .omega
 .rw[p]at k
  by_cases i:b=f
  .subst i;rw[an rfl]at k;omega
  .rw[ae i]at k
   refine t b i ?_
   rcases dR (0<e b)with s|s
   .exact j.lv b s
   .have:=j.nn b
    have g:=OF (l:=c.aE) (f:=b) V
    have:=(j.field (aq m) g V).2
    rwa[lA]at this
def fN.make(l:fN h e){v:Int}{c:List Int}(r:¬fP h f)(p:g[f]? =some ⟨1,v,c⟩)(o:∀b,b≠f->g[b]? =h[b]?)
 (E:∀b,eu g b=eu h b+eC c b)(z:∀w∈c,qB h w)(C:c.length<=3)(G:0<=v/\v<=99)(x:∀b,eC c b<=e b)
 (t:∀b,e' b=e b -eC c b+if b=f then 1 else 0):fN g e':=by
 have u:∀b,fP h b->fP g b:=λb i=>by
  by_cases a:b=f
  .subst a;exact absurd i r
  .unfold fP;rw[o b a];exact i
 have L:=l.Yn r
 have N:=l.WY r
 have M:eC c f=0:=by have:=iD c f;have:=x f;omega
 refine⟨λK I=>?_,?_,λb d hd B=>?_,λb=>?_,λb j=>?_⟩
 .let⟨b,j⟩:=List.mem_iff_getElem?.1 I
  by_cases a:b=f
  .subst a;rw[p]at j;simp at j;subst j
   exact⟨C,aL,aL,sx,λ_=>⟨λw n=>(z w n).mono λ_ i=>u _ i,G⟩⟩
  .rw[o b a]at j
   exact(l.cell K (aq j)).mono λ_ w _ _ i=>u _ i
 .let⟨s,F⟩:=l.Mr
  refine⟨λk=>if k=f then(c.map λw=>s (ix w)).sum+1 else s k,λk d hd w n y=>?_⟩
  have H:ix w≠f:=λA=>by
   have D:fY h w:=by
    by_cases m:k=f
    .subst m;rw[p]at hd;simp at hd;subst hd;rcases z w n with q|q
     .have:=q.2;omega
     .exact q
    .rw[o k m]at hd;exact l.field (aq hd) n y
   exact r (A▸D.2)
  simp only[ae H]
  by_cases m:k=f
  .subst m;rw[p]at hd;simp at hd;subst hd
   rw[an rfl]
   have:∀(q:List Int),w∈q->s (ix w)<=(q.map λw=>s (ix w)).sum:=by
    intro q i;induction q with
    |nil=>simp at i
    |cons O q J=>
     simp only[cK,List.sum_cons];rcases List.mem_cons.1 i with rfl|i
     .omega
     .have:=J i;omega
   have:=this c n;omega
  .rw[ae m];rw[o k m]at hd;exact F k d hd w n y
 .rw[E,t]
  by_cases a:b=f
  .subst a;rw[p]at hd;simp at hd;subst hd
   rw[an rfl];simp only[];omega
  .rw[o b a]at hd
   have:=l.ex b d hd B
   rw[ae a];omega
 .rw[t];have:=x b;split<;>omega
 .rw[t]at j
  by_cases a:b=f
  .subst a;exact⟨_,p,aL⟩
  .rw[ae a]at j
   exact u b (l.lv b (oh (iD c b)))
def fN.gZ:∀(n:Nat)(h:List bM)(o:List Int)(e:Nat->Int),Cb h+o.length<=n->fN h (λb=>e b+eC o b)->(∀b,0<=e b)->fN (gZ h o) e
 |n,h,[],e,_,a,_=>by rw[sS];exact a.congr λb=>by simp[eC]
 |n,h,w::r,e,f,a,d=>by
  rcases dR (fY h w)with c|c
  .let⟨g,m⟩:=bS c;have s:=il c.1;have l:∀b,eC (w::r) b=(if b=ix w then 1 else 0)+eC r b:=λb=>by
    simp only[eC];congr 1;by_cases k:b=ix w
    .subst k;rw[an s.symm,an rfl]
    .rw[ae k,ae (λi=>k (by rw[i,lA]))]
   have p:=km (d:=iZ) g;by_cases j:(aM h w).aP=1
   .rw[sT c j];simp only[an m,iZ]at p;simp at p;cases n with
    |zero=>simp at f
    |succ n=>
    refine fN.gZ n _ _ e ?_ (fN.QO a g j ?_ bh bh rfl (by simp[iZ]) (by simp[iZ]) (λ_=>rfl) λb=>?_) d
    .simp[iZ]at f⊢;omega
    .simp only[l,an];have:=d (ix w);have:=iD r (ix w);omega
    .simp only[l,lT,zW];omega
   .rw[ql c j];have q:=km (d:={aM h w with aP:=(aM h w).aP -1}) g;simp only[an m]at q;rw[an V]at q;have t:=(a.cell _ (aq g)).hi;cases n with
    |zero=>simp at f
    |succ n=>
    refine fN.gZ n _ _ e ?_ (fN.Ki a g m V V (λb=>?_) ?_) d
    .simp only[aZ]at f;simp only[fj];omega
    .simp only[l];split<;>omega
    .have:=d (ix w);have:=iD r (ix w);omega
  .rw[qt c];cases n with
   |zero=>simp at f
   |succ n=>
   refine fN.gZ n _ _ e (by simp at f;omega) (a.congr λb=>?_) d;simp only[eC];rw[ae]
   .omega
   .intro i;have:=a.lv b (by simp only[eC,an i];have:=d b;have:=iD r b;omega);exact c ⟨V,by rw[i,lA];exact this⟩
def tL(h:List bM):∀n,ji h n<=n
 |0=>ad _
 |n+1=>by
  simp only[ji];have:=tL h n;split
  .split<;>omega
  .omega
def tK(h:List bM):∀(n k:Nat)(c:bM),ji h n<=k->k<n->h[k]? =some c->c.aP=0
 |0,k,c,_,d,_=>V
 |n+1,k,c,a,e,b=>by
  simp only[ji]at a;by_cases d:k=n
  .subst d;rw[b]at a;simp only[]at a;split at a
   .assumption
   .omega
  .split at a
   .split at a
    .exact tK h n k c a V b
    .omega
   .exact tK h n k c a V b
def Mf(h:List bM):∀(n:Nat)(c:bM),n<=h.length->h[ji h n -1]? =some c->0<ji h n->c.aP≠0
 |0,c,_,_,b=>by simp[ji]at b
 |n+1,c,f,a,b=>by
  simp only[ji]at a b;let⟨d,hd⟩:=cG h n;rw[hd]at a b;simp only[]at a b;split at a
  .rename_i e;rw[an e]at b;exact Mf h n c V a b
  .rename_i e;simp at a;rw[hd]at a;simp at a;subst a;exact e
def nV(h:List bM):Prop:=∀c,h[h.length -1]? =some c->c.aP≠0
def He(h:List bM):nV (ns h):=by
 intro c a;have d:=tL h h.length;unfold ns at a;rw[gJ,jc d]at a;rcases jY (ji h h.length)with b|b
 .rw[b]at a;simp at a
 .rw[dH V]at a;exact Mf h _ c (ad _) a b
def NI:∀{h:List bM},(∀c∈h,c.aE=[])->∀f,eu h f=0
 |[],_,f=>rfl
 |c::h,a,f=>by simp only[eu,a c bg,eC,NI (λd hd=>a d (ai _ hd)) f];rfl
def fN.ns{h:List bM}{e:Nat->Int}(d:fN h e):fN (ns h) e:=by
 have u:=tL h h.length;have q:∀(b:Nat)(c:bM),h[b]? =some c->c.aP≠0->b<ji h h.length:=λb c a i=>
  dQ λv=>i (tK h h.length b c V (av a) a)
 have k:∀(b:Nat)(c:bM),(Go.Proofs.YtkoifinbblcbiaaGreat.ns h)[b]? =some c->h[b]? =some c:=λb c a=>by
  unfold Go.Proofs.YtkoifinbblcbiaaGreat.ns at a;have:=av a;rw[gJ]at this;rwa[dH V]at a
 have l:∀b,fP h b->fP (Go.Proofs.YtkoifinbblcbiaaGreat.ns h) b:=λb⟨c,a,j⟩=>⟨c,by
  unfold Go.Proofs.YtkoifinbblcbiaaGreat.ns;rw[dH (q b c a V)];exact a,j⟩
 have s:∀b,eu (Go.Proofs.YtkoifinbblcbiaaGreat.ns h) b=eu h b:=λb=>by
  have m:h=Go.Proofs.YtkoifinbblcbiaaGreat.ns h++h.drop (ji h h.length):=(dm _ _).symm;have n:eu (h.drop (ji h h.length)) b=0:=NI (λc a=>by
   let⟨o,g⟩:=List.mem_iff_getElem?.1 a;rw[rY]at g;have i:=tK h h.length _ c V (av g) g;exact((d.cell c (aq g)).wM V).2.2 i) b
  have o:=nU (λg=>eu g b) m;simp only[uC,n]at o;omega
 refine⟨λc a=>?_,?_,λf c a j=>?_,d.nn,λf p=>l f (d.lv f p)⟩
 .let⟨b,g⟩:=List.mem_iff_getElem?.1 a;exact(d.cell c (aq (k b c g))).mono λ_ w _ _ r=>l _ r
 .let⟨t,r⟩:=d.Mr;exact⟨t,λg c a=>r g c (k g c a)⟩
 .rw[s];exact d.ex f c (k f c a) j
end
section
variable{l:List Int}{i x v r:Int}{b:Nat}{c:cO}{f:aX}{s:St}
def oB(b:0<=i)(c:i<l.length):l[i.toNat]? =some (aF l i):=by
 let⟨x,a⟩:=cG l i.toNat;simp[aF,a]
def XN(h:l[b]? =some x):aF l b=x:=by simp[aF,h]
def Hx(h:l[i.toNat]? =some x):aF l i=x:=by simp[aF,h]
def fx(a:0<=i)(b:i<l.length):aF l i∈l:=iy (oB a b)
def jS(l:List Int)(i v:Int):(gR l i v).length=l.length:=by simp[gR]
def pG(h:x∈gR l i v):x=v\/x∈l:=by
 rcases cB h with h|h
 .exact Or.inr h
 .exact Or.inl h
def Ae(l:List Int)(i v:Int)(b:Nat):(gR l i v)[b]? =if b=i.toNat/\b<l.length then some v else l[b]? :=by
 unfold gR;by_cases h:b=i.toNat
 .subst h;by_cases a:i.toNat<l.length
  .rw[dx a,an ⟨rfl,a⟩]
  .rw[ae V,rH V]
 .rw[ae V,cv (λe=>h e.symm)]
def Uw(a:0<=i)(b:i<l.length)(j:Int)(c:0<=j):aF (gR l i v) j=if j=i then v else aF l j:=by
 unfold aF;rw[fS,fS,Ae];by_cases h:j=i
 .subst h;rw[an rfl,an ⟨rfl,V⟩];rfl
 .rw[ae h,ae V]
def HT:∀(ak aR:List Int)(b:Nat)(w o f e:Int)(a:Nat),ak[b]? =some f->aR[b]? =some e->
 de (ak.set b w) (aR.set b o) a=de ak aR a -(if f=1000+(a:Int)then e else 0)+(if w=1000+(a:Int)then o else 0)
 |[],aR,b,w,o,f,e,a,c,d=>by simp at c
 |r::g,[],b,w,o,f,e,a,c,d=>by simp at d
 |r::g,q::h,0,w,o,f,e,a,c,d=>by
  simp at c d;subst c;subst d;simp only[iz,de];omega
 |r::g,q::h,b+1,w,o,f,e,a,c,d=>by
  have:=HT g h b w o f e a (by simpa using c) (by simpa using d);simp only[jq,de,this];omega
def TV(h:l[b]? =some x):l.set b x=l:=by
 apply gV;intro i;by_cases a:b=i
 .subst a;rw[dx (av h),h]
 .rw[cv a]
def HR{ak aR:List Int}(c:0<=r)(d:r<ak.length)(e:r<aR.length)(o:Int)(a:Nat):
 de ak (gR aR r o) a=de ak aR a+(if aF ak r=1000+(a:Int)then o -aF aR r else 0):=by
 have b:=oB c d
 have:=HT ak aR r.toNat (aF ak r) o _ _ a b (oB c e)
 rw[TV b]at this
 rw[gR,this];split<;>omega
def ND{ak aR:List Int}(b:0<=r)(c:r<ak.length)(d:r<aR.length)(e:aF aR r=0)(w o:Int)(a:Nat):
 de (gR ak r w) (gR aR r o) a=de ak aR a+(if w=1000+(a:Int)then o else 0):=by
 have:=HT ak aR r.toNat w o _ _ a (oB b c) (oB b d)
 rw[gR,gR,this,e];split<;>omega
def tp:∀{ak aR:List Int},(∀o∈aR,0<=o)->∀a,0<=de ak aR a
 |[],aR,h,a=>by cases aR<;>simp[de]
 |r::b,[],h,a=>by simp[de]
 |r::b,o::d,h,a=>by
  have:=tp (ak:=b) (aR:=d) (λx c=>h x (ai _ c)) a;have:=h o bg;simp only[de];split<;>omega
def tr:∀{ak aR:List Int},RZ aR->∀a,de ak aR a=0
 |[],aR,h,a=>by cases aR<;>simp[de]
 |r::b,[],h,a=>by simp[de]
 |r::b,o::d,h,a=>by
  have:=tr (ak:=b) (aR:=d) (λx c=>h x (ai _ c)) a;have:=h o bg;simp only[de,this];split<;>omega
def Gb:∀{c o1:List Int}(b o2:List Int),c.length=o1.length->∀a,de (c++b) (o1++o2) a=de c o1 a+de b o2 a
 |[],[],b,o2,_,a=>by simp[de]
 |[],_::_,_,_,h,_=>by simp at h
 |_::_,[],_,_,h,_=>by simp at h
 |r::e,o::d,b,o2,h,a=>by
  have:=Gb (c:=e) (o1:=d) b o2 (by simpa using h) a;simp only[cZ,de,this];omega
def Li:∀{ak aR:List Int}{b:Nat}{w o:Int}(_:∀o∈aR,0<=o)(_:ak[b]? =some w)(_:aR[b]? =some o){d:Nat}(_:w=1000+(d:Int)),o<=de ak aR d
 |[],_,_,_,_,_,a,_,_,_=>by simp at a
 |_::_,[],_,_,_,_,_,c,_,_=>by simp at c
 |r::i,q::h,0,w,o,e,a,c,d,f=>by
  simp at a c;subst a;subst c;have:=tp (ak:=i) (aR:=h) (λx g=>e x (ai _ g)) d;simp only[de,an f];omega
 |r::i,q::h,b+1,w,o,e,a,c,d,f=>by
  have:=Li (ak:=i) (aR:=h) (b:=b) (λx g=>e x (ai _ g)) (by simpa using a) (by simpa using c) f;have:=e q bg;simp only[de];split<;>omega
def fX:∀(l r:List aX)(a:Nat),fA (l++r) a=fA l a+fA r a
 |[],r,a=>by simp[fA]
 |f::l,r,a=>by simp only[cZ,fA,fX l r a];omega
def kQ(f:aX)(a:Nat):fA [f] a=de f.ak f.aR a:=by simp[fA]
def eK:∀(l r:List aX)(a:Nat),dG (l++r) a=dG l a+dG r a
 |[],r,a=>by simp[dG]
 |f::l,r,a=>by simp only[cZ,dG,eK l r a];omega
def iY(f:aX)(a:Nat):dG [f] a=eC f.ba a:=by simp[dG]
def vG:∀(l:List aX)(a:Nat),0<=dG l a
 |[],a=>by simp[dG]
 |f::l,a=>by have:=vG l a;have:=iD f.ba a;simp only[dG];omega
def j7(ak:List Int):∀(a aR:List Int),(bC ak aR a).length=aR.length
 |[],aR=>rfl
 |r::a,aR=>by simp only[bC];rw[j7 ak a];split<;>simp[jS]
def xJ{ak:List Int}:∀(b aR:List Int),(∀r∈b,0<=r/\r<ak.length)->ak.length=aR.length->∀a,de ak (bC ak aR b) a=de ak aR a -eC (b.map (aF ak)) a
 |[],aR,_,_,a=>by simp[bC,eC]
 |r::b,aR,h,c,a=>by
  have e:=h r bg;have f:=λaR c=>xJ (ak:=ak) b aR (λx d=>h x (ai _ d)) c a;simp only[bC,cK,eC];by_cases d:1000<=aF ak r
  .rw[an d,f _ (by rw[jS];exact c),HR e.1 e.2 V];split<;>omega
  .rw[ae d,f _ c,ae V];omega
def kY{ak:List Int}:∀(c aR:List Int)(b:Nat)(o:Int),(bC ak aR c)[b]? =some o->∃q,aR[b]? =some q/\o<=q
 |[],aR,b,o,h=>⟨o,h,dg _⟩
 |r::c,aR,b,o,h=>by
  simp only[bC]at h;let⟨q,a,e⟩:=kY c _ b o h;split at a
  .rw[Ae]at a;split at a
   .rename_i d;let⟨y,f⟩:=dB d.2;have g:aF aR r=y:=by rw[aF,fS,<-d.1,f];rfl
    simp at a;exact⟨y,f,V⟩
   .exact⟨q,a,e⟩
  .exact⟨q,a,e⟩
def lM:∀(a aR:List Int),(dE aR a).length=aR.length
 |[],aR=>rfl
 |r::a,aR=>by simp only[dE];rw[lM a,jS]
def Fs{ak:List Int}:∀(b aR:List Int),(∀r∈b,0<=r/\r<ak.length)->ak.length=aR.length->∀a,de ak (dE aR b) a=de ak aR a+eC (b.map (aF ak)) a
 |[],aR,_,_,a=>by simp[dE,eC]
 |r::b,aR,h,d,a=>by
  have c:=h r bg;simp only[dE,cK,eC];rw[Fs (ak:=ak) b _ (λx e=>h x (ai _ e)) (by rw[jS];exact d) a,HR c.1 c.2 V];split<;>omega
def Ky{ak:List Int}:∀(d aR:List Int),(∀r∈d,0<=r/\r<aR.length/\1000<=aF ak r)->
 (∀(b:Nat)(o w:Int),aR[b]? =some o->ak[b]? =some w->0<=o/\(0<o->1000<=w))->∀(b:Nat)(o w:Int),(dE aR d)[b]? =some o->ak[b]? =some w->0<=o/\(0<o->1000<=w)
 |[],aR,_,h,b,o,w,a,c=>h b o w a c
 |r::d,aR,g,h,b,o,w,a,c=>by
  refine Ky (ak:=ak) d (gR aR r (aF aR r+1)) (λx e=>by rw[jS];exact g x (ai _ e)) (λb o w a c=>?_) b o w a c;rw[Ae]at a;split at a
  .rename_i f;have e:=g r bg;have i:aF ak r=w:=by rw[aF,fS,<-f.1,c];rfl
   have j:=h b (aF aR r) w (by rw[f.1];exact oB e.1 e.2.1) c;simp at a;exact⟨V,λ_=>V⟩
  .exact h b o w a c
def fO(h:List bM)(a:Nat):Prop:=∃c,h[a]? =some c/\c.aP<0
structure iA(c:cO)(f:aX):Prop where
 fE:0<=f.fE/\f.fE<c.cF.length
 pc:0<=f.pc/\f.pc<(dO c f.fE).dq.length
 lr:(f.ak.length:Int)=(dO c f.fE).ak
 lo:(f.aR.length:Int)=(dO c f.fE).ak
 lh:(f.ba.length:Int)=(dO c f.fE).ak
 RK:∀w∈f.ak,gL w\/1000<=w
 aR:∀(b:Nat)(o w:Int),f.aR[b]? =some o->f.ak[b]? =some w->0<=o/\(0<o->1000<=w)
 ba:∀w∈f.ba,w=0\/1000<=w
structure cY(c:cO)(s:St):Prop where
 fy:nl c
 bV:0<=s.bV/\s.bV<=3
 done:s.bV=0<->s.ao=[]
 value:gL s.value
 tP:s.value≠0->s.bV=0
 dV:0<=s.dV/\s.dV<=40
 bu:0<=s.bu/\s.bu<=s.dV
 depth:(s.ao.length:Int)<=s.bu+1
 aT:∀n∈s.aT,gL n
 heap:fN s.heap (fA s.ao)
 jz:nV s.heap
 ao:∀f∈s.ao,iA c f
 first:∀f,s.ao[0]? =some f->f.dst=0
 chain:∀(b:Nat)(f g:aX),s.ao[b]? =some f->s.ao[b+1]? =some g->0<=g.dst/\g.dst<f.aR.length/\aF f.aR g.dst=0
 k8:∀a,fO s.heap a->dG s.ao a=1
 nj:∀a,¬fO s.heap a->dG s.ao a=0
def iA.PL(h:iA c f):∀o∈f.aR,0<=o:=λo d=>by
 let⟨b,a⟩:=List.mem_iff_getElem?.1 d;have g:=av a;have:=h.lo;have:=h.lr;let⟨w,e⟩:=cG f.ak b;exact(h.aR b o w a e).1
def Kh{c:cO}:∀{b:List aX},(∀f∈b,iA c f)->∀a,0<=fA b a
 |[],_,a=>by simp[fA]
 |f::b,h,a=>by
  have:=Kh (λg d=>h g (ai _ d)) a;have:=tp (ak:=f.ak) (h f bg).PL a;simp only[fA];omega
def cY.split(h:cY c s)(b:s.bV=3):∃a f,s.ao=a++[f]:=by
 have:s.ao≠[]:=λe=>by have:=h.done.2 e;omega
 exact⟨s.ao.dropLast,s.ao.getLast this,(fq this).symm⟩
def iA.Jf(j:nl c)(h:iA c f):∃p,c.cF[f.fE.toNat]? =some p/\dO c f.fE=p/\Ht c p/\p.dq[f.pc.toNat]? =some (ez c f)/\iP c p f.pc.toNat (ez c f):=by
 let⟨p,b⟩:=cG c.cF f.fE.toNat (oh h.fE);have e:dO c f.fE=p:=by simp[dO,b]
 have g:=j.dz p (aq b);have k:=h.pc;rw[e]at k;let⟨i,a⟩:=cG p.dq f.pc.toNat;have d:ez c f=i:=by simp[ez,e,a]
 exact⟨p,b,e,g,d▸a,d▸g.dz _ _ a⟩
def cY.fU(h:cY c s)(A:s.bV=3){e:List aX}{g:aX}(k:s.ao=e++[f]){d:List bM}{aT:List Int}(o:iA c g)(hd:g.dst=f.dst)
 (r:fN d (fA (e++[g])))(w:nV d)(t:∀a,fO d a->dG (e++[g]) a=1)(x:∀a,¬fO d a->dG (e++[g]) a=0)(v:∀n∈aT,gL n){bu:Int}(n:s.bu<=bu/\bu<=s.dV):
 cY c {s with heap:=d,aT:=aT,bu:=bu,ao:=e++[g]}:=by
 have z:=h.bu
 have m:=h.depth
 rw[k]at m
 refine⟨h.fy,h.bV,⟨λj=>by simp at j;omega,sx⟩,h.value,h.tP,h.dV,⟨by simp only[];omega,n.2⟩,by simp at m⊢;omega,v,r,w,λq a=>?_,λq a=>?_,λb p q d a=>?_,t,x⟩
 .rcases List.mem_append.1 a with a|a
  .exact h.ao q (by rw[k];exact bI _ a)
  .simp at a;subst a;exact o
 .have i:=h.first
  rw[k]at i
  cases e with
  |nil=>simp at a;subst a;rw[hd];exact i f aL
  |cons y l=>simp at a;subst a;exact i y aL
 .have l:=h.chain b
  rw[k]at l
  simp only[]at d a
  have u:=av a
  simp at u
  rw[ax V]at d
  rcases aW (b+1) e.length with i|i
  .rw[ax i]at a
   exact l p q (by rw[ax V];exact d) (by rw[ax i];exact a)
  .rw[aI i]at a
   have j:b+1 -e.length=0:=V
   rw[j]at a;simp at a;subst a
   rw[hd]
   exact l p f (by rw[ax V];exact d) (by rw[aI i,j];rfl)
end
section
variable{h:List bM}{a:Nat}{c d:bM}{w:Int}{e e':Nat->Int}
def fO.ne{b:Nat}(d:b≠a):fO (h.set a c) b<->fO h b:=by unfold fO;rw[iC d]
def fO.yB(hd:h[a]? =some d):fO (h.set a c) a<->c.aP<0:=by unfold fO;rw[eJ hd];simp
def fO.set(hd:h[a]? =some d)(i:0<=d.aP)(j:0<=c.aP)(b:Nat):fO (h.set a c) b<->fO h b:=by
 by_cases g:b=a
 .subst g;rw[fO.yB hd];refine⟨λk=>V,λ⟨e,f,l⟩=>?_⟩;rw[hd]at f;simp at f;subst f;omega
 .exact fO.ne g
def fO.T0(e:fO h a):¬fP h a:=λ⟨c,b,g⟩=>by
 let⟨d,hd,f⟩:=e;rw[b]at hd;simp at hd;subst hd;omega
def fO.fj(c:fY h w)(b:Nat):fO (fj h w) b<->fO h b:=by
 let⟨a,d⟩:=bS c;exact fO.set a V (by simp only[];omega) b
def fO.mQ(c:fY h w)(b:Nat):fO (mQ h w) b<->fO h b:=by
 let⟨a,d⟩:=bS c;exact fO.set a V (by simp only[];omega) b
def fO.QO(c:fY h w)(b:Nat):fO (h.set (ix w) iZ) b<->fO h b:=by
 let⟨a,d⟩:=bS c;exact fO.set a V (by simp[iZ]) b
def fO.gZ:∀(n:Nat)(h:List bM)(i:List Int),Cb h+i.length<=n->∀b,fO (gZ h i) b<->fO h b
 |n,h,[],_,b=>by rw[sS]
 |0,h,w::r,c,b=>by simp at c
 |n+1,h,w::r,c,b=>by
  simp only[aZ]at c;rcases dR (fY h w)with a|a
  .let⟨f,g⟩:=bS a;by_cases d:(aM h w).aP=1
   .have e:=km (d:=iZ) f;simp only[an g,iZ]at e;simp at e;rw[sT a d,fO.gZ n _ _ (by simp[iZ];omega) b,fO.QO a]
   .have e:=km (d:={aM h w with aP:=(aM h w).aP -1}) f;simp only[an g]at e;rw[an V]at e;rw[ql a d,fO.gZ n _ _ (by simp only[Go.Proofs.YtkoifinbblcbiaaGreat.fj];omega) b,fO.fj a]
  .rw[qt a,fO.gZ n _ _ V b]
def fO.ns{h:List bM}(b:Nat):fO (ns h) b<->fO h b:=by
 have f:=tL h h.length;unfold fO Go.Proofs.YtkoifinbblcbiaaGreat.ns;constructor
 .rintro⟨c,a,d⟩;have:=av a;rw[gJ]at this;rw[dH V]at a;exact⟨c,a,d⟩
 .rintro⟨c,a,d⟩;refine⟨c,?_,d⟩;rw[dH]
  .exact a
  .exact dQ λe=>by have:=tK h h.length b c V (av a) a;omega
def fN.mQ(c:fN h e)(f:fY h w)(i:(aM h w).aP<999999)(a:∀b,e' b=e b+if b=ix w then 1 else 0):fN (mQ h w) e':=by
 let⟨d,g⟩:=bS f;refine c.Ki d g V V (λb=>?_) ?_
 .rw[a];split<;>omega
 .rw[a];have:=c.nn (ix w);split<;>omega
def Pq(a:fY h w){v:Int}(d:1000<=v):(aM (mQ h w) v).aP=(aM h v).aP+(if v=w then 1 else 0):=by
 let⟨c,f⟩:=bS a;unfold mQ;by_cases e:v=w
 .subst e;rw[an rfl];conv=>lhs;unfold aM
  rw[eJ c];rfl
 .rw[ae e];conv=>lhs;unfold aM
  rw[iC (λb=>e (QR d a.1 b))];simp[aM]
def fP.mQ{h:List bM}{w:Int}(a:fY h w)(b:Nat):fP (mQ h w) b<->fP h b:=by
 let⟨c,d⟩:=bS a;by_cases e:b=ix w
 .subst e;unfold Go.Proofs.YtkoifinbblcbiaaGreat.mQ;rw[fP.yB c];exact⟨λ_=>a.2,λ_=>by simp only[];omega⟩
 .exact fP.ne e
def iT(d:1000<=w)(r:List Int)(b:Nat):eC (w::r) b=(if b=ix w then 1 else 0)+eC r b:=by
 simp only[eC];congr 1;have e:=il d;by_cases a:b=ix w
 .subst a;rw[an e.symm,an rfl]
 .rw[ae a,ae (λc=>a (by rw[c,lA]))]
def fN.je:∀(a:List Int)(h:List bM)(e e':Nat->Int),fN h e->(∀w∈a,fY h w/\(aM h w).aP+eC a (ix w)<=999999)->(∀b,e' b=e b+eC a b)->fN (je h a) e'/\(∀b,fO (je h a) b<->fO h b)/\(je h a).length=h.length
 |[],h,e,e',i,_,g=>⟨i.congr λb=>by rw[g];simp[eC],λ_=>SD,rfl⟩
 |w::a,h,e,e',i,k,g=>by
  let⟨c,p⟩:=k w bg;rw[iT c.1,an rfl]at p;have:=iD a (ix w);let⟨m,n,o⟩:=fN.je a (Go.Proofs.YtkoifinbblcbiaaGreat.mQ h w) (λb=>e b+if b=ix w then 1 else 0) e' (i.mQ c V λb=>rfl) (λv q=>by
   let⟨d,j⟩:=k v (ai _ q);refine⟨⟨d.1,(fP.mQ c _).2 d.2⟩,?_⟩;rw[Pq c d.1];rw[iT c.1]at j;split
   .rename_i f;subst f;rw[an rfl]at j;omega
   .rename_i f;rw[ae (λl=>f (QR d.1 c.1 l))]at j;omega) (λb=>by rw[g,iT c.1];omega)
  refine⟨m,λb=>by rw[Go.Proofs.YtkoifinbblcbiaaGreat.je,n,fO.mQ c],by rw[Go.Proofs.YtkoifinbblcbiaaGreat.je,o];simp[Go.Proofs.YtkoifinbblcbiaaGreat.mQ]⟩
def lC{l:List Int}:w∈kV l<->w∈l/\1000<=w:=by simp[kV]
def fN.apart{h:List bM}{e e':Nat->Int}(j:fN h e){w:Int}(o:fY h w)(H:0<e (ix w))(t:(aM h w).aP=1\/lj h (aM h w).aE)
 (A:∀b,e' b=e b -(if b=ix w then 1 else 0)+eC (aM h w).aE b)(K:nV h):fN (apart h w) e'/\(∀b,fO (apart h w) b<->fO h b)/\nV (apart h w):=by
 let⟨g,J⟩:=bS o
 unfold Go.Proofs.YtkoifinbblcbiaaGreat.apart
 by_cases r:(aM h w).aP=1
 .rw[an r]
  exact⟨(j.QO g r H (c':=iZ) bh bh rfl (by simp[iZ]) (by simp[iZ]) (λ_=>rfl) A).ns,λb=>by rw[fO.ns,fO.QO o],He _⟩
 .rw[ae r]
  have t:lj h (aM h w).aE:=by rcases t with m|m;exact absurd m r;exact m
  have Q:=(j.cell _ (aq g)).hi
  have I:fN (Go.Proofs.YtkoifinbblcbiaaGreat.fj h w) (λb=>e b -if b=ix w then 1 else 0):=j.Ki g J V V (λb=>by split<;>omega) bE
  have u:∀b,fP h b->fP (Go.Proofs.YtkoifinbblcbiaaGreat.fj h w) b:=λb f=>by
   by_cases k:b=ix w
   .subst k;unfold Go.Proofs.YtkoifinbblcbiaaGreat.fj;rw[fP.yB g];simp only[];omega
   .exact(fP.ne k).2 f
  let⟨m,y,z⟩:=fN.je (kV (aM h w).aE) _ _ e' I (λv x=>by
   let⟨s,p⟩:=lC.1 x;have a:=j.field (aq g) s p;refine⟨⟨a.1,u _ a.2⟩,?_⟩;have:=t v s p;rw[vV];have O:(aM (Go.Proofs.YtkoifinbblcbiaaGreat.fj h w) v).aP<=(aM h v).aP:=by
    by_cases k:ix v=ix w
    .have i:=QR p o.1 k;subst i;unfold Go.Proofs.YtkoifinbblcbiaaGreat.fj;conv=>lhs;unfold aM
     rw[eJ g];show(aM h v).aP -1<=(aM h v).aP;omega
    .unfold Go.Proofs.YtkoifinbblcbiaaGreat.fj;conv=>lhs;unfold aM
     rw[iC k];exact dg _
   omega) (λb=>by rw[A,vV])
  refine⟨m,λb=>by rw[y,fO.fj o],λc n=>?_⟩
  intro M
  rw[z]at n
  have B:(Go.Proofs.YtkoifinbblcbiaaGreat.fj h w).length=h.length:=by simp[Go.Proofs.YtkoifinbblcbiaaGreat.fj]
  rw[B]at n
  have f:=av n
  rw[z,B]at f
  let⟨d,hd⟩:=cG h (h.length -1)
  have N:=K d hd
  have G:=j.cell d (aq hd)
  have P:=G.lo
  rcases dR (0<d.aP)with C|C
  .have F:∀(q:List Int)(l:List bM),(∀v∈q,fY l v)->∀b,fP l b->fP (Go.Proofs.YtkoifinbblcbiaaGreat.je l q) b:=by
    intro q;induction q with
    |nil=>intro l _ b f;exact f
    |cons v q L=>
     intro l i b f;have a:=i v bg;exact L _ (λE D=>⟨(i E (ai _ D)).1,(fP.mQ a _).2 (i E (ai _ D)).2⟩) b ((fP.mQ a _).2 f)
   let⟨D,i,E⟩:=F (kV (aM h w).aE) (Go.Proofs.YtkoifinbblcbiaaGreat.fj h w) (λv x=>by
    let⟨s,p⟩:=lC.1 x;have a:=j.field (aq g) s p;exact⟨a.1,u _ a.2⟩) _ (u _ ⟨d,hd,C⟩)
   rw[n]at i;simp at i;subst i;omega
  .have l:fO h (h.length -1):=⟨d,hd,V⟩
   let⟨D,i,q⟩:=(y (h.length -1)).2 ((fO.fj o _).2 l)
   rw[n]at i;simp at i;subst i;omega
def qv:∀(h:List bM),dF h<=h.length
 |[]=>ad _
 |c::h=>by have:=qv h;simp only[dF,aZ];split<;>omega
def DN:∀(h:List bM)(c:bM),h[dF h]? =some c->c.aP=0
 |[],c,a=>by simp[dF]at a
 |d::h,c,a=>by
  simp only[dF]at a;split at a
  .rename_i b;simp at a;subst a;exact b
  .exact DN h c (by simpa using a)
def fN.alloc(k:fN h e){t:Int}{f:List Int}(s:∀w∈f,qB h w)(m:f.length<=3)(r:0<=t/\t<=99)(n:∀b,eC f b<=e b)
 (l:∀b,e' b=e b -eC f b+if b=dF h then 1 else 0)(u:nV h):
 fN (jd h (dF h) ⟨1,t,f⟩) e'/\(∀b,fO (jd h (dF h) ⟨1,t,f⟩) b<->fO h b)/\nV (jd h (dF h) ⟨1,t,f⟩):=by
 unfold jd
 have o:¬fP h (dF h):=λ⟨c,a,v⟩=>by have:=DN h c a;omega
 by_cases i:dF h=h.length
 .rw[an i]
  have q:(h++[⟨1,t,f⟩])[dF h]? =some ⟨1,t,f⟩:=by rw[i];simp
  have p:∀b,b≠dF h->(h++[⟨1,t,f⟩])[b]? =h[b]? :=λb g=>by
   rcases aW b h.length with j|j
   .rw[ax j]
   .rw[cN bE,cN j]
  refine⟨k.make o q p (λb=>by rw[uC];simp[eu]) s m r n l,λb=>?_,λc a=>?_⟩
  .by_cases g:b=dF h
   .rw[g];unfold fO;rw[q,i];simp
   .unfold fO;rw[p b g]
  .simp at a;subst a;simp
 .rw[ae i]
  have q:dF h<h.length:=by have:=qv h;omega
  let⟨d,hd⟩:=dB q
  have j:=DN h d hd
  have p:=((k.cell d (aq hd)).wM V).2.2 j
  refine⟨k.make o (eJ hd) (λb g=>iC g) (λb=>by rw[Aa _ hd,p];simp[eC]) s m r n l,λb=>fO.set hd V aL b,λc a=>?_⟩
  rw[eg]at a
  by_cases g:h.length -1=dF h
  .rw[g,eJ hd]at a;simp at a;subst a;simp
  .rw[iC g]at a;exact u c a
end
section
variable{b:cO}{w:Int}{s:St}{f g:aX}
def Fc{b:cO}{x:Instr}:∀{l:List Int}{k:Nat}{r:Int},r∈iE b x k l->r∈l
 |[],k,r,h=>by simp[iE]at h
 |y::l,k,r,h=>by
  simp only[iE]at h;split at h
  .exact ai _ (Fc h)
  .rcases List.mem_cons.1 h with rfl|h
   .exact bg
   .exact ai _ (Fc h)
def BY{x:Instr}{r:Int}(h:r∈bT b x):r∈x.args:=by
 unfold bT at h;split at h
 .exact h
 split at h
 .exact dA h
 split at h
 .exact Fc h
 .simp at h
def Jb{a:List bz}(h:dT a)(c:Int):(cD a c).length<=3:=by
 unfold cD;split
 .cases g:(eS a)[c.toNat]? with
  |none=>simp
  |some f=>
   have d:=aq g;unfold eS at d;let⟨e,hd,b⟩:=List.mem_flatMap.1 d;let⟨k,i⟩:=List.mem_iff_getElem?.1 hd;have:=(h.dz k e i).iW (List.length_pos_of_mem b);exact(this.2.2.2 f b).1
 .simp
def iA.put{b:cO}{g:aX}(h:iA b g){r w o:Int}(i:0<=r)(f:gL w\/1000<=w)(d:0<=o)(e:0<o->1000<=w):iA b (g.put r w o):=by
 refine⟨h.fE,h.pc,by simp only[aX.put,jS];exact h.lr,by simp only[aX.put,jS];exact h.lo,h.lh,λy a=>?_,λk q y c a=>?_,h.ba⟩
 .rcases pG a with rfl|a
  .exact f
  .exact h.RK y a
 .simp only[aX.put]at c a;rw[Ae]at c a;have:=h.lr;have:=h.lo;split at c<;>split at a
  .simp at c a;subst c;subst a;exact⟨d,e⟩
  .omega
  .omega
  .exact h.aR k q y c a
def HV(w:Int):0<=gH w:=by unfold gH;split<;>omega
def Ea(h:0<gH w):1000<=w:=by unfold gH at h;split at h<;>omega
def wV(w:Int)(b:Nat):(if w=1000+(b:Int)then gH w else 0)=eC [w] b:=by
 simp only[eC,gH];split
 .rw[an V];rfl
 .rfl
def Hz(n:Int):gL (Fu n):=by unfold Fu gL;split<;>(try split)<;>omega
def PO(c a b:Int):gL (OI c a b):=by
 unfold OI;split
 .exact Hz _
 split
 .exact Hz _
 split
 .exact Hz _
 split<;>(unfold gL;omega)
def lU(cR:List Int):∀(a:List Int)(k:Nat),(dL cR k a).length=a.length
 |[],k=>rfl
 |w::a,k=>by simp only[dL,aZ,lU cR a]
def Jp(cR:List Int):∀(b:List Int)(k j:Nat)(o w:Int),(dL cR k b)[j]? =some o->b[j]? =some w->0<=o/\(0<o->1000<=w)
 |[],k,j,o,w,_,h=>by simp at h
 |v::b,k,0,o,w,a,c=>by
  simp[dL]at a c;subst c;split at a
  .subst a;omega
  .subst a;exact⟨HV _,Ea⟩
 |v::b,k,j+1,o,w,a,c=>Jp cR b (k+1) j o w (by simpa[dL]using a) (by simpa using c)
def kd(n:Nat):(dk n).length=n:=by simp[dk]
def qC{n:Nat}(h:w∈dk n):w=0:=Vg h
def uy{g j:Int}{d:List Int}{p:dy}(m:nl b)(l:0<=g)(h:b.cF[g.toNat]? =some p)(q:d.length=p.params.length)(n:∀w∈d,gL w\/1000<=w):iA b (bX b g j d):=by
 have e:dO b g=p:=by simp[dO,h]
 have i:=m.dz p (aq h);have t:=i.ak;have r:=i.len;have s:=av h;refine⟨⟨l,by simp only[bX];omega⟩,⟨by simp[bX],by simp only[bX,e];omega⟩,?_,?_,?_,λw a=>?_,λk o w c a=>?_,λw a=>Or.inl (qC a)⟩
 .simp only[bX,e,be,kd];omega
 .simp only[bX,e,be,kd,lU];omega
 .simp only[bX,e,kd];omega
 .simp only[bX]at a;rcases List.mem_append.1 a with a|a
  .exact n w a
  .rw[qC a];exact Or.inl (by unfold gL;omega)
 .simp only[bX]at c a;rcases aW k d.length with f|f
  .rw[ax (by rw[lU];exact f)]at c;rw[ax f]at a;exact Jp _ d 0 k o w c a
  .rw[aI (by rw[lU];exact f)]at c;rw[qC (iy c)];omega
def qR(b:cO)(g d:Int)(a:List Int)(c:Nat):de (bX b g d a).ak (bX b g d a).aR c=de a (dL (dO b g).cR 0 a) c:=by
 simp only[bX];rw[Gb _ _ (lU _ _ _).symm,tr (λn e=>qC e)];omega
def pH(b:cO)(g c:Int)(d:List Int)(a:Nat):dG [bX b g c d] a=0:=by
 rw[iY];exact So _ _
def HU{b:cO}{d:Instr}(f:aX):∀(e:List Int)(k:Nat)(a:Nat),de (cL f e) (dL (dO b d.bP).cR k (cL f e)) a=eC ((iE b d k e).map (aF f.ak)) a
 |[],k,a=>by simp[cL,de,iE,eC]
 |r::h,k,a=>by
  have g:=HU (b:=b) (d:=d) f h (k+1) a;simp only[cL,cK,dL,de,iE]at g⊢;rw[g];by_cases c:ny b d k=true
  .rw[an c];unfold ny at c;rw[an c];split<;>omega
  .rw[ae c];unfold ny at c;rw[ae c];simp only[cK,eC];have:=wV (aF f.ak r) a;simp only[eC]at this;omega
def Jq:∀(a:List Int)(k:Nat)(b:Nat),de a (dL [] k a) b=eC a b
 |[],k,b=>by simp[de,eC]
 |w::a,k,b=>by
  have:=Jq a (k+1) b;have c:=wV w b;simp only[eC]at c;simp only[dL,de,eC,this,Qi,jm,rI];omega
def cY.qx{e:List bM}{c:List aX}(i:cY b s)(l:s.ao=c++[f])(m:g.ba=f.ba)(j:∀a,fO e a<->fO s.heap a):
 (∀a,fO e a->dG (c++[g]) a=1)/\(∀a,¬fO e a->dG (c++[g]) a=0):=by
 have h:∀a,dG (c++[g]) a=dG s.ao a:=λa=>by rw[l,eK,eK,iY,iY,m]
 exact⟨λa d=>by rw[h];exact i.k8 a ((j a).1 d),λa d=>by rw[h];exact i.nj a λk=>d ((j a).2 k)⟩
def cY.push(h:cY b s)(C:s.bV=3){d:List aX}(e:s.ao=d++[f])(p:iA b g)(hd:0<=g.dst/\g.dst<f.aR.length/\aF f.aR g.dst=0){c:List bM}{bu:Int}
 (r:fN c (fA (d++[f,g])))(v:nV c)(t:∀a,fO c a->dG (d++[f,g]) a=1)(w:∀a,¬fO c a->dG (d++[f,g]) a=0)(z:bu=s.bu+1)(B:s.bu<s.dV):
 cY b {s with heap:=c,bu:=bu,ao:=d++[f,g]}:=by
 have A:=h.bu
 have m:=h.depth
 rw[e]at m
 refine⟨h.fy,h.bV,⟨λi=>by simp at i;omega,sx⟩,h.value,h.tP,h.dV,⟨by simp only[];omega,by simp only[];omega⟩,by simp at m⊢;omega,h.aT,r,v,λq a=>?_,λq a=>?_,λk x q c a=>?_,t,w⟩
 .rcases List.mem_append.1 a with a|a
  .exact h.ao q (by rw[e];exact bI _ a)
  .simp at a
   rcases a with rfl|rfl
   .exact h.ao _ (by rw[e];simp)
   .exact p
 .have j:=h.first
  rw[e]at j
  cases d with
  |nil=>simp at a;subst a;exact j f aL
  |cons y l=>simp at a;subst a;exact j y aL
 .have l:=h.chain k
  rw[e]at l
  simp only[]at c a
  have i:d++[f,g]=(d++[f])++[g]:=aL
  rw[i]at c a
  have u:=av a
  simp at u
  rw[ax bE]at c
  rcases aW (k+1) (d++[f]).length with j|j
  .rw[ax j]at a
   exact l x q c a
  .simp at j
   rw[aI bE]at a
   have n:k+1 -(d++[f]).length=0:=bE
   rw[n]at a;simp at a;subst a
   rw[aI V]at c
   have o:k -d.length=0:=V
   rw[o]at c;simp at c;subst c;exact hd
def QV{m:List aX}(d:cY b s)(R:s.bV=3)(p:s.ao=m++[f])
 (M:ln b s f (ez b f) (bC f.ak f.aR (bT b (ez b f))))(bi:¬(mU (ez b f).op/\s.bu=s.dV)):
 cY b (fF b s m f (ez b f) (bC f.ak f.aR (bT b (ez b f)))):=by
 have I:iA b f:=d.ao f (by rw[p];simp)
 let⟨ac,hp,aB,hP,a5,hI⟩:=I.Jf d.fy
 generalize ez b f=x at*
 have⟨lr,lo,lh⟩:(f.ak.length:Int)=ac.ak/\(f.aR.length:Int)=ac.ak/\(f.ba.length:Int)=ac.ak:=⟨aB▸I.lr,aB▸I.lo,aB▸I.lh⟩
 have al:∀q∈x.args,0<=q/\q<f.ak.length:=λq u=>by have:=hI.args q u;omega
 have a3:∀r∈bT b x,0<=r/\r<f.ak.length:=λr R=>al r (BY R)
 have bp:=xJ (ak:=f.ak) (bT b x) f.aR a3 V
 have bo:=j7 f.ak (bT b x) f.aR
 have bn:=kY (ak:=f.ak) (bT b x) f.aR
 generalize bC f.ak f.aR (bT b x)=aR at*
 have aH:∀D∈m,iA b D:=λD j=>d.ao D (by rw[p];exact bI _ j)
 have am:∀c,0<=fA m c+de f.ak aR c:=λc=>by
  have:=Kh aH c;have:=tp (ak:=f.ak) M.nn c;omega
 have E:fN s.heap (λc=>fA m c+de f.ak aR c+eC ((bT b x).map (aF f.ak)) c):=d.heap.congr λc=>by
  rw[p,fX,kQ,bp];omega
 have bc:∀O:Int,0<=O->O<ac.dq.length->iA b {f with aR:=aR,pc:=O}:=λO h0 e=>
  ⟨I.fE,⟨h0,by rw[aB];exact e⟩,I.lr,by simp only[bo];exact I.lo,I.lh,I.RK,λy ab w W n=>by
   let⟨D,j,o⟩:=bn y ab W;have B:=I.aR y D w j n;exact⟨M.nn ab (iy W),λk=>B.2 V⟩,I.ba⟩
 have bq:=I.pc
 rw[aB]at bq
 have bb:x.op≠23->x.op≠24->f.pc+1<ac.dq.length:=λe B=>by
  rcases dR (f.pc+1<ac.dq.length)with A|A
  .exact A
  .have T:f.pc.toNat=ac.dq.length -1:=V;rw[T]at a5;have:=hP.MH x a5;omega
 have Z:x.op≠23->x.op≠24->iA b {f with aR:=aR,pc:=f.pc+1}:=λe B=>bc _ V (bb e B)
 have ar:∀r:Int,0<=r->r<f.ak.length->gL (aF f.ak r)\/1000<=aF f.ak r:=λr h0 e=>I.RK _ (fx h0 e)
 have a8:∀r:Int,0<=r->r<f.ak.length->aF f.ak r<1000->gL (aF f.ak r):=λr h0 e B=>by rcases ar r h0 e with A|A;exact A;omega
 have ah:=hI.dst
 have a6:lP x.op->aF aR x.dst=0:=λN=>by
  have e:=M.dst N;have B:=M.nn _ (fx (l:=aR) ah.1 V);omega
 have br:∀r∈bT b x,qB s.heap (aF f.ak r):=λr bd=>by
  have be:=a3 r bd;rcases ar r be.1 be.2 with A|A
  .exact Or.inl A
  .refine Or.inr ⟨A,E.lv _ ?_⟩;have:=am (ix (aF f.ak r));have:=uz (l:=(bT b x).map (aF f.ak)) (f:=ix (aF f.ak r)) (by rw[il A];exact List.mem_map.2 ⟨r,bd,rfl⟩);omega
 have aJ:∀(O:Int)(a7:List Int)(w ab:Int),lP x.op->∀c,fA (m++[aX.put {f with aR:=aR,pc:=O,ba:=a7} x.dst w ab]) c=fA m c+de f.ak aR c+(if w=1000+(c:Int)then ab else 0):=λO a7 w ab N c=>by
  rw[fX,kQ];simp only[aX.put];rw[ND ah.1 V V (a6 N)];omega
 have aO:∀(w:Int)(aT:List Int),lP x.op->x.op≠23->x.op≠24->bT b x=[]->(gL w\/1000<=w)->(∀k∈aT,gL k)->cY b {s with aT:=aT,ao:=m++[aX.put {f with aR:=aR,pc:=f.pc+1} x.dst w 0]}:=λw aT N e B v n W=>by
  let⟨z,P⟩:=d.qx p (g:=aX.put {f with aR:=aR,pc:=f.pc+1} x.dst w 0) rfl (λc=>SD);refine d.fU R p (hd:=rfl) ((Z e B).put ah.1 n (dg _) (λA=>V)) (E.congr λc=>?_) d.jz z P W (bu:=s.bu) ⟨dg _,d.bu.2⟩;rw[aJ _ _ _ _ N,v];simp[eC]
 have aQ:∀O:Int,0<=O->O<ac.dq.length->bT b x=[]->cY b {s with ao:=m++[{f with aR:=aR,pc:=O}]}:=λO h0 e v=>by
  let⟨z,P⟩:=d.qx p (g:={f with aR:=aR,pc:=O}) rfl (λc=>SD);refine d.fU R p (hd:=rfl) (bc O h0 e) (E.congr λc=>?_) d.jz z P d.aT (bu:=s.bu) ⟨dg _,d.bu.2⟩;rw[fX,kQ,v];simp[eC]
 have o:=hI.op
 unfold me at o
 unfold fF
 simp only[]
 by_cases e0:x.op=0
 .rw[an e0]at o⊢
  exact aO _ _ (by unfold lP;omega) V V (by simp[bT,e0]) (Or.inl o.2) d.aT
 rw[ae e0]at o⊢
 by_cases e1:x.op=1\/x.op=2\/x.op=3\/x.op=4
 .rw[an e1]
  exact aO _ _ (by unfold lP;omega) V V (by unfold bT;rw[ae V,ae V,ae V]) (Or.inl (PO _ _ _)) d.aT
 rw[ae e1]
 have au:1<=x.args.length->0<=aF x.args 0/\aF x.args 0<f.ak.length:=λe=>al _ (fx V V)
 by_cases e5:x.op=5
 .rw[an e5]
  rw[ae V,an V]at o
  have u:=au V
  have az:gL (aF f.ak (aF x.args 0)):=a8 _ u.1 u.2 (M.nJ V _ (fx V V))
  refine aO _ _ (by unfold lP;omega) V V (by simp[bT,e5]) (Or.inl az) λk F=>?_
  rcases List.mem_append.1 F with F|F
  .exact d.aT k F
  .simp at F;subst F;exact az
 rw[ae e5]
 have bf:(bT b x=x.args)->∀w∈cL f x.args,qB s.heap w:=λv w n=>by
  obtain⟨r,Y,rfl⟩:=List.mem_map.1 n;exact br r (v▸Y)
 have a0:∀aC,bT b x=x.args->x.op≠23->x.op≠24->lP x.op->x.args.length<=3->0<=aC/\aC<=99->cY b {s with heap:=jd s.heap (dF s.heap) ⟨1,aC,cL f x.args⟩,ao:=m++[aX.put {f with aR:=aR,pc:=f.pc+1} x.dst (1000+dF s.heap) 1]}:=λaC v e B N A aY=>by
  let⟨S,k2,k3⟩:=E.alloc (t:=aC) (f:=cL f x.args) (e':=fA (m++[aX.put {f with aR:=aR,pc:=f.pc+1} x.dst (1000+dF s.heap) 1])) (bf v) (by simpa[cL]using A) aY (λc=>by rw[v];have:=am c;simp only[cL];omega) (λc=>by
   rw[aJ _ _ _ _ N,v];simp only[cL];have:(if(1000+(dF s.heap:Int))=1000+(c:Int)then(1:Int)else 0)=if c=dF s.heap then 1 else 0:=by
    by_cases k:c=dF s.heap
    .rw[an k,an V]
    .rw[ae k,ae V]
   rw[this];omega) d.jz
  let⟨z,P⟩:=d.qx p (g:=aX.put {f with aR:=aR,pc:=f.pc+1} x.dst (1000+dF s.heap) 1) rfl k2;exact d.fU R p (hd:=rfl) ((Z e B).put ah.1 (Or.inr V) V (λ_=>V)) S k3 z P d.aT (bu:=s.bu) ⟨dg _,d.bu.2⟩
 have bs:(eS b.bo).length<=12:=by
  have:=qY d.fy.nP.types b.bo.length;rw[mR _ _ (ad _)]at this;exact this
 have bv:=d.fy.nP.len
 by_cases Q:x.op=6
 .rw[an Q]
  rw[ae V,ae V,an Q]at o
  have v:bT b x=x.args:=by unfold bT;rw[an V]
  have N:lP x.op:=by unfold lP;omega
  have aa:x.args.length<=3:=by rw[o.2.1];exact Jb d.fy.nP.types _
  split
  .rename_i aE
   have J:0<=x.bZ -1/\x.bZ -1<f.ba.length:=V
   have hv:=I.ba _ (fx (l:=f.ba) J.1 J.2)
   have K:1000<=aF f.ba (x.bZ -1):=V
   have aD:0<dG s.ao (ix (aF f.ba (x.bZ -1))):=by
    rw[p,eK,iY];have:=vG m (ix (aF f.ba (x.bZ -1)));have:=uz (l:=f.ba) (f:=ix (aF f.ba (x.bZ -1))) (by rw[il K];exact fx J.1 J.2);omega
   have X:fO s.heap (ix (aF f.ba (x.bZ -1))):=dQ λF=>by have:=d.nj _ F;omega
   have aj:=d.k8 _ X
   let⟨U,hd,aw⟩:=X
   have ay:∀c,eC U.aE c=0:=λc=>nM λn=>by
    have:=((E.cell U (aq hd)).wM V).2.1 _ n;omega
   have S:=E.make (v:=x.bP) (c:=cL f x.args) (e':=fA (m++[aX.put {f with aR:=aR,pc:=f.pc+1,ba:=gR f.ba (x.bZ -1) 0} x.dst (aF f.ba (x.bZ -1)) 1])) (f:=ix (aF f.ba (x.bZ -1))) (g:=s.heap.set (ix (aF f.ba (x.bZ -1))) ⟨1,x.bP,cL f x.args⟩)
    (fO.T0 ⟨U,hd,aw⟩) (eJ hd) (λc k=>iC k) (λc=>by rw[Aa _ hd,ay];simp only[];omega) (bf v) (by simpa[cL]using aa) V (λc=>by rw[v];have:=am c;simp only[cL];omega) (λc=>by
     rw[aJ _ _ _ _ N,v];simp only[cL];have:(if aF f.ba (x.bZ -1)=1000+(c:Int)then(1:Int)else 0)=if c=ix (aF f.ba (x.bZ -1))then 1 else 0:=by
      by_cases k:c=ix (aF f.ba (x.bZ -1))
      .rw[an k,an (by rw[k,il K])]
      .rw[ae k,ae (λH=>k (by rw[H,lA]))]
     rw[this];omega)
   have aA:∀c,eC (gR f.ba (x.bZ -1) 0) c=eC f.ba c -(if c=ix (aF f.ba (x.bZ -1))then 1 else 0):=by
    intro c;have ai:∀(C:List Int)(y:Nat)(w:Int),C[y]? =some w->eC (C.set y 0) c=eC C c -(if w=1000+(c:Int)then 1 else 0):=by
     intro C;induction C with
     |nil=>intro y w z;simp at z
     |cons af C ih=>
      intro y w z;cases y with
      |zero=>simp at z;subst z;simp only[iz,eC];rw[ae V];omega
      |succ y=>have:=ih y w (by simpa using z);simp only[jq,eC,this];omega
    rw[gR,ai _ _ _ (oB J.1 J.2)];by_cases k:c=ix (aF f.ba (x.bZ -1))
    .rw[an k,an (by rw[k,il K])]
    .rw[ae k,ae (λH=>k (by rw[H,lA]))]
   have L:∀c,dG (m++[aX.put {f with aR:=aR,pc:=f.pc+1,ba:=gR f.ba (x.bZ -1) 0} x.dst (aF f.ba (x.bZ -1)) 1]) c=dG s.ao c -(if c=ix (aF f.ba (x.bZ -1))then 1 else 0):=λc=>by
    rw[p,eK,eK,iY,iY];simp only[aX.put];rw[aA];omega
   have ap:iA b {f with aR:=aR,pc:=f.pc+1,ba:=gR f.ba (x.bZ -1) 0}:=by
    have e:=Z V V;exact⟨e.fE,e.pc,e.lr,e.lo,by simp only[jS];exact e.lh,e.RK,e.aR,λw n=>by rcases pG n with n|n;exact Or.inl n;exact e.ba w n⟩
   refine d.fU R p (hd:=rfl) (ap.put ah.1 (Or.inr K) V (λ_=>K)) S ?_ (λq u=>?_) (λq u=>?_) d.aT (bu:=s.bu) ⟨dg _,d.bu.2⟩
   .intro ag G
    rw[eg]at G
    by_cases k:s.heap.length -1=ix (aF f.ba (x.bZ -1))
    .rw[k,eJ hd]at G;simp at G;subst G;simp
    .rw[iC k]at G;exact d.jz ag G
   .rw[L]
    by_cases k:q=ix (aF f.ba (x.bZ -1))
    .subst k;rw[fO.yB hd]at u;simp at u
    .rw[ae k];rw[fO.ne k]at u;have:=d.k8 q u;omega
   .rw[L]
    by_cases k:q=ix (aF f.ba (x.bZ -1))
    .subst k;rw[an rfl];omega
    .rw[ae k];rw[fO.ne k]at u;have:=d.nj q u;omega
  .exact a0 _ v V V N aa V
 rw[ae Q]
 by_cases X:x.op=10
 .rw[an X]
  rw[ae V,ae V,ae Q,ae V,an X]at o
  obtain⟨⟨D,aG,ap,aK⟩,_⟩:=o
  have A:=(d.fy.nP.dz D (aq ap)).1
  have:=av ap
  exact a0 _ (by unfold bT;rw[an V]) V V (by unfold lP;omega) V (by unfold cr;omega)
 rw[ae X]
 by_cases aD:x.op=14
 .rw[an aD]
  rw[ae V,an V]at o
  have u:=au V
  have v:bT b x=[]:=by simp[bT,aD]
  let⟨F,U⟩:=M.WM aD
  let⟨z,P⟩:=d.qx p (g:={f with aR:=gR aR (aF x.args 0) (aF aR (aF x.args 0)+1),pc:=f.pc+1}) rfl (λc=>fO.mQ F c)
  have e:=Z V V
  refine d.fU R p (hd:=rfl) (g:={f with aR:=gR aR (aF x.args 0) (aF aR (aF x.args 0)+1),pc:=f.pc+1}) ⟨e.fE,e.pc,e.lr,by simp only[jS];exact e.lo,e.lh,e.RK,λy ab w W n=>?_,e.ba⟩ (E.mQ F U λc=>?_) ?_ z P d.aT (bu:=s.bu) ⟨dg _,d.bu.2⟩
  .simp only[]at W n
   rw[Ae]at W
   split at W
   .rename_i J
    simp at W
    have T:aF f.ak (aF x.args 0)=w:=by rw[aF,fS,<-J.1,n];rfl
    have:=M.nn _ (fx (l:=aR) u.1 V)
    have:=F.1
    exact⟨V,λ_=>V⟩
   .exact e.aR y ab w W n
  .rw[fX,kQ,v]
   simp only[]
   rw[HR u.1 u.2 V]
   have J:=il F.1
   simp only[fD,eC]
   by_cases k:c=ix (aF f.ak (aF x.args 0))
   .rw[an k,an (by rw[k,J])];omega
   .rw[ae k,ae (λH=>k (by rw[H,lA]))];omega
  .let⟨G,aA⟩:=bS F
   intro ag K
   unfold mQ at K
   rw[eg]at K
   by_cases k:s.heap.length -1=ix (aF f.ak (aF x.args 0))
   .rw[k,eJ G]at K;simp at K;subst K;simp only[];omega
   .rw[iC k]at K;exact d.jz ag K
 rw[ae aD]
 have aP:x.args.length=1->x.args=[aF x.args 0]:=λe=>by
  cases hx:x.args with
  |nil=>rw[hx]at e;simp at e
  |cons af C=>cases C with
   |nil=>rfl
   |cons a_ C=>rw[hx]at e;simp at e
 by_cases a1:x.op=15
 .rw[an a1]
  rw[ae V,an V]at o
  have v:bT b x=[aF x.args 0]:=by unfold bT;rw[an V];exact aP V
  rw[v]at E
  have S:=fN.gZ _ s.heap [aF f.ak (aF x.args 0)] (λc=>fA m c+de f.ak aR c) (ad _) (E.congr λc=>rfl) am
  let⟨z,P⟩:=d.qx p (g:={f with aR:=aR,pc:=f.pc+1}) rfl (λc=>(fO.ns (h:=gZ s.heap [aF f.ak (aF x.args 0)]) c).trans (fO.gZ _ _ _ (ad _) c))
  exact d.fU R p (hd:=rfl) (Z V V) (S.ns.congr λc=>by rw[fX,kQ]) (He _) z P d.aT (bu:=s.bu) ⟨dg _,d.bu.2⟩
 rw[ae a1]
 by_cases U:x.op=16\/x.op=17
 .rw[an U]
  rw[ae V,ae V,ae Q,ae V,ae X,an U]at o
  have u:=au V
  have v:bT b x=[aF x.args 0]:=by
   unfold bT;rw[ae V,an U];cases hx:x.args with
   |nil=>rw[hx]at o;simp at o
   |cons af C=>rfl
  let⟨F,aN,aS,a2⟩:=M.NA U
  let⟨G,aA⟩:=bS F
  have aU:∀r∈x.args.drop 1,0<=r/\r<aR.length/\1000<=aF f.ak r:=λr Y=>by
   have e:=al r (wG Y);have B:aF f.ak r∈kV (aM s.heap (aF f.ak (aF x.args 0))).aE:=by rw[aN];exact List.mem_map.2 ⟨r,Y,rfl⟩
   exact⟨e.1,V,(lC.1 B).2⟩
  have e:=Z V V
  have aa:iA b {f with aR:=dE aR (x.args.drop 1),pc:=f.pc+1}:=⟨e.fE,e.pc,e.lr,by simp only[lM];exact e.lo,e.lh,e.RK,Ky (ak:=f.ak) _ aR aU e.aR,e.ba⟩
  have a9:∀c,de f.ak (dE aR (x.args.drop 1)) c=de f.ak aR c+eC (aM s.heap (aF f.ak (aF x.args 0))).aE c:=λc=>by
   rw[Fs (ak:=f.ak) _ _ (λr Y=>oh (aU r Y)) V,<-vV (aM s.heap _).aE,aN];rfl
  have ay:0<fA m (ix (aF f.ak (aF x.args 0)))+de f.ak aR (ix (aF f.ak (aF x.args 0)))+eC ((bT b x).map (aF f.ak)) (ix (aF f.ak (aF x.args 0))):=by
   rw[v];have:=am (ix (aF f.ak (aF x.args 0)));simp only[cK,fD,iT F.1,an,eC];omega
  have aw:∀c,fA m c+de f.ak (dE aR (x.args.drop 1)) c=(fA m c+de f.ak aR c+eC ((bT b x).map (aF f.ak)) c) -(if c=ix (aF f.ak (aF x.args 0))then 1 else 0)+eC (aM s.heap (aF f.ak (aF x.args 0))).aE c:=λc=>by
   rw[a9,v];simp only[cK,fD,iT F.1,eC];omega
  split
  .rename_i aj
   have aZ:=a2 aj.2
   have S:=E.QO G aj.1 ay (c':=⟨-1,0,dk (aM s.heap (aF f.ak (aF x.args 0))).aE.length⟩) aL aL rfl (λw n=>qC n) (by simp only[kd];exact(E.cell _ (aq G)).fl) (sx) (e':=fA (m++[{f with aR:=dE aR (x.args.drop 1),pc:=f.pc+1,ba:=gR f.ba (aF x.args 0) (aF f.ak (aF x.args 0))}])) (λc=>by rw[fX,kQ];exact aw c)
   have ai:∀(c:Nat)(w:Int)(C:List Int)(y:Nat),C[y]? =some 0->eC (C.set y w) c=eC C c+(if w=1000+(c:Int)then 1 else 0):=by
    intro c w C;induction C with
    |nil=>intro y z;simp at z
    |cons af C ih=>
     intro y z;cases y with
     |zero=>simp at z;subst z;simp only[iz,eC];split<;>simp_all<;>omega
     |succ y=>have:=ih y (by simpa using z);simp only[jq,eC,this];omega
   have aV:aF x.args 0<f.ba.length:=V
   have L:∀c,dG (m++[{f with aR:=dE aR (x.args.drop 1),pc:=f.pc+1,ba:=gR f.ba (aF x.args 0) (aF f.ak (aF x.args 0))}]) c=dG s.ao c+(if c=ix (aF f.ak (aF x.args 0))then 1 else 0):=λc=>by
    rw[p,eK,eK,iY,iY];have aE:=oB (l:=f.ba) u.1 aV;rw[aZ]at aE;simp only[gR];rw[ai c _ _ _ aE];by_cases k:c=ix (aF f.ak (aF x.args 0))
    .rw[an k,an (by rw[k,il F.1])];omega
    .rw[ae k,ae (λH=>k (by rw[H,lA]))];omega
   have a4:¬fO s.heap (ix (aF f.ak (aF x.args 0))):=λz=>z.T0 F.2
   refine d.fU R p (hd:=rfl) (g:={f with aR:=dE aR (x.args.drop 1),pc:=f.pc+1,ba:=gR f.ba (aF x.args 0) (aF f.ak (aF x.args 0))}) ⟨aa.fE,aa.pc,aa.lr,aa.lo,by simp only[jS];exact aa.lh,aa.RK,aa.aR,λw n=>?_⟩ S ?_ (λq J=>?_) (λq J=>?_) d.aT (bu:=s.bu) ⟨dg _,d.bu.2⟩
   .rcases pG n with n|n
    .rw[n];exact Or.inr F.1
    .exact I.ba w n
   .intro ag K
    rw[eg]at K
    by_cases k:s.heap.length -1=ix (aF f.ak (aF x.args 0))
    .rw[k,eJ G]at K;simp at K;subst K;simp
    .rw[iC k]at K;exact d.jz ag K
   .rw[L]
    by_cases k:q=ix (aF f.ak (aF x.args 0))
    .rw[an k,k,d.nj _ a4];rfl
    .rw[ae k];rw[fO.ne k]at J;have:=d.k8 q J;omega
   .rw[L]
    by_cases k:q=ix (aF f.ak (aF x.args 0))
    .subst k;rw[fO.yB G]at J;simp at J
    .rw[ae k];rw[fO.ne k]at J;have:=d.nj q J;omega
  .let⟨S,k2,k3⟩:=E.apart F ay aS (e':=fA (m++[{f with aR:=dE aR (x.args.drop 1),pc:=f.pc+1}])) (λc=>by rw[fX,kQ];exact aw c) d.jz
   let⟨z,P⟩:=d.qx p (g:={f with aR:=dE aR (x.args.drop 1),pc:=f.pc+1}) rfl k2
   exact d.fU R p (hd:=rfl) aa S k3 z P d.aT (bu:=s.bu) ⟨dg _,d.bu.2⟩
 rw[ae U]
 by_cases a2:x.op=18
 .rw[an a2]
  rw[ae V,an V]at o
  have u:=au V
  have v:bT b x=[aF x.args 0]:=by unfold bT;rw[an V];exact aP V
  have N:lP x.op:=by unfold lP;omega
  let⟨z,P⟩:=d.qx p (g:=aX.put {f with aR:=aR,pc:=f.pc+1} x.dst (aF f.ak (aF x.args 0)) (gH (aF f.ak (aF x.args 0)))) rfl (λc=>SD)
  refine d.fU R p (hd:=rfl) ((Z V V).put ah.1 (ar _ u.1 u.2) (HV _) Ea) (E.congr λc=>?_) d.jz z P d.aT (bu:=s.bu) ⟨dg _,d.bu.2⟩
  rw[aJ _ _ _ _ N,v,wV];rfl
 rw[ae a2]
 by_cases K:x.op=19
 .rw[an K]
  rw[ae V,ae V,ae Q,ae V,ae X,ae U,an K]at o
  let⟨F,k⟩:=M.load K
  let⟨G,aA⟩:=bS F
  refine aO _ _ (by unfold lP;omega) V V (by simp[bT,K]) ?_ d.aT
  rcases((E.cell _ (aq G)).oP aA).1 _ (fx o.2.1 k)with B|B
  .exact Or.inl B
  .exact Or.inr B.1
 rw[ae K]
 by_cases aa:x.op=20
 .rw[an aa]
  rw[ae V,ae V,ae Q,ae V,ae X,ae U,ae K,an aa]at o
  have:=bb V V
  exact aQ _ (by split<;>omega) (by split<;>omega) (by simp[bT,aa])
 rw[ae aa]
 by_cases aj:x.op=21
 .rw[an aj]
  rw[ae V,ae V,ae Q,ae V,ae X,ae U,ae K,ae aa,ae V,an aj]at o
  let⟨F,aY⟩:=M.Fb aj
  have ag:tf (cz b.bo x.bP) (aM s.heap (aF f.ak (aF x.args 0))).j9<(cz b.bo x.bP).length:=tT ⟨_,aY,aL⟩
  let⟨ai,k⟩:=o.2.2
  have:=k _ (fx (l:=x.eM) (i:=(tf (cz b.bo x.bP) (aM s.heap (aF f.ak (aF x.args 0))).j9:Nat)) V V)
  exact aQ _ V V (by simp[bT,aj])
 rw[ae aj]
 by_cases aw:x.op=22
 .rw[an aw]
  rw[ae V,ae V,ae Q,ae V,ae X,ae U,ae K,ae aa,an aw]at o
  exact aQ _ V V (by simp[bT,aw])
 rw[ae aw]
 have bg:∀w∈cL f x.args,gL w\/1000<=w:=λw n=>by
  obtain⟨r,Y,rfl⟩:=List.mem_map.1 n;exact ar r (al r Y).1 (al r Y).2
 have aV:mU x.op->s.bu<s.dV:=λG=>by
  have:=d.bu;have:s.bu≠s.dV:=λT=>bi ⟨G,T⟩;omega
 have a9:∀(hp:List bM),s.bu<s.dV->x.op≠23->x.op≠24->∀(g:aX),iA b g->lP x.op->g.dst=x.dst->fN hp (fA (m++[{f with aR:=aR,pc:=f.pc+1},g]))->nV hp->(∀c,fO hp c<->fO s.heap c)->(∀c,dG [g] c=0)->
  cY b {s with bu:=s.bu+1,heap:=hp,ao:=m++[{f with aR:=aR,pc:=f.pc+1},g]}:=λhp bt e B g hg N bl hH hT hK bm=>by
  have a4:=d.bu
  have ay:=d.depth
  rw[p]at ay
  have ee:m++[{f with aR:=aR,pc:=f.pc+1},g]=(m++[{f with aR:=aR,pc:=f.pc+1}])++[g]:=aL
  have L:∀c,dG (m++[{f with aR:=aR,pc:=f.pc+1},g]) c=dG s.ao c:=λc=>by
   rw[ee,eK,bm,p,eK,eK,iY,iY];simp
  refine⟨d.fy,d.bV,⟨λT=>by simp at T;omega,sx⟩,d.value,d.tP,d.dV,⟨by simp only[];omega,by simp only[];omega⟩,by simp at ay⊢;omega,d.aT,hH,hT,λD j=>?_,λD j=>?_,λy p1 D k j=>?_,λq u=>?_,λq u=>?_⟩
  .rcases List.mem_append.1 j with j|j
   .exact aH D j
   .simp at j
    rcases j with rfl|rfl
    .exact Z e B
    .exact hg
  .have ai:=d.first
   rw[p]at ai
   cases m with
   |nil=>simp at j;subst j;exact ai f aL
   |cons af ys=>simp at j;subst j;exact ai af aL
  .have ag:=d.chain y
   rw[p]at ag
   simp only[]at k j
   rw[ee]at k j
   have aU:=av j
   simp at aU
   rw[ax bE]at k
   rcases aW (y+1) (m.length+1)with A|A
   .rw[ax bE]at j
    rw[ax V]at k
    rcases aW (y+1) m.length with h4|h4
    .rw[ax h4]at j
     exact ag p1 D (by rw[ax V];exact k) (by rw[ax h4];exact j)
    .rw[aI h4]at j
     have H:y+1 -m.length=0:=V
     rw[H]at j;simp at j;subst j
     exact ag p1 f (by rw[ax V];exact k) (by rw[aI h4,H];rfl)
   .rw[aI bE]at j
    have H:y+1 -(m++[{f with aR:=aR,pc:=f.pc+1}]).length=0:=bE
    rw[H]at j;simp at j;subst j
    rw[aI V]at k
    have e3:y -m.length=0:=V
    rw[e3]at k;simp at k;subst k
    rw[bl]
    exact⟨ah.1,by simp only[];omega,a6 N⟩
  .rw[L];exact d.k8 q ((hK q).1 u)
  .rw[L];exact d.nj q λA=>u ((hK q).2 A)
 by_cases e9:x.op=9
 .rw[an e9]
  rw[ae V,ae V,ae Q,an V]at o
  let⟨D,aG,ap,aK⟩:=o
  have v:bT b x=iE b x 0 x.args:=by unfold bT;rw[ae V,ae V,an V]
  refine a9 s.heap (aV (Or.inl e9)) V V (bX b x.bP x.dst (cL f x.args)) (uy d.fy aG ap (by simp[cL,aK]) bg) (by unfold lP;omega) rfl (E.congr λc=>?_) d.jz (λ_=>SD) (pH _ _ _ _)
  rw[fX,v]
  simp only[fA]
  rw[qR,HU];omega
 rw[ae e9]
 by_cases aE:x.op=24
 .rw[an aE]
  rw[ae V,ae V,ae Q,an V]at o
  let⟨D,aG,ap,aK⟩:=o
  have v:bT b x=iE b x 0 x.args:=by unfold bT;rw[ae V,ae V,an V]
  let⟨aN,aZ⟩:=M.zero (Or.inl aE)
  have L:∀c,dG (m++[bX b x.bP f.dst (cL f x.args)]) c=dG s.ao c:=λc=>by
   rw[p,eK,eK,pH,iY,nM (λn=>oh (aZ _ n))]
  have bh:=aV (Or.inr (Or.inr aE))
  refine d.fU R p (hd:=rfl) (uy d.fy aG ap (by simp[cL,aK]) bg) (E.congr λc=>?_) d.jz (λq u=>by rw[L];exact d.k8 q u) (λq u=>by rw[L];exact d.nj q u) d.aT (bu:=s.bu+1) V
  rw[fX,kQ,qR,HU,v,tr aN];omega
 rw[ae aE]
 by_cases ap:x.op=11
 .rw[an ap]
  rw[an V]at o
  have v:bT b x=x.args:=by unfold bT;rw[an V]
  have bh:x.args=[aF x.args 0,aF x.args 1]:=by
   cases hx:x.args with
   |nil=>rw[hx]at o;simp at o
   |cons af C=>cases C with
    |nil=>rw[hx]at o;simp at o
    |cons a_ C=>cases C with
     |nil=>rfl
     |cons _ _=>rw[hx]at o;simp at o
  have aG:0<=aF x.args 1/\aF x.args 1<f.ak.length:=al _ (fx V V)
  let⟨F,bk,bw,bj,aK,aS⟩:=M.apply ap
  let⟨G,aA⟩:=bS F
  let⟨D,j⟩:=cG b.cF (((aM s.heap (aF f.ak (aF x.args 0))).j9 -cr b).toNat)
  have a_:dO b ((aM s.heap (aF f.ak (aF x.args 0))).j9 -cr b)=D:=by simp[dO,j]
  rw[a_]at bj aK
  have C:∀c,eC ((bT b x).map (aF f.ak)) c=(if c=ix (aF f.ak (aF x.args 0))then 1 else 0)+eC [aF f.ak (aF x.args 1)] c:=λc=>by
   rw[v,bh];simp only[cK,fD];rw[iT]
   .rfl
   .exact F.1
  let⟨S,k2,k3⟩:=E.apart F (by simp only[C,an];have:=am (ix (aF f.ak (aF x.args 0)));have:=iD [aF f.ak (aF x.args 1)] (ix (aF f.ak (aF x.args 0)));omega) aS
   (e':=fA (m++[{f with aR:=aR,pc:=f.pc+1},bX b ((aM s.heap (aF f.ak (aF x.args 0))).j9 -cr b) x.dst ((aM s.heap (aF f.ak (aF x.args 0))).aE++[aF f.ak (aF x.args 1)])])) (λc=>by
    rw[fX,C];simp only[fA];rw[qR,a_,List.length_eq_zero_iff.1 aK,Jq,lT];omega) d.jz
  refine a9 _ (aV (Or.inr (Or.inl ap))) V V _ (uy d.fy bk j bE λw n=>?_) (by unfold lP;omega) rfl S k3 k2 (pH _ _ _ _)
  rcases List.mem_append.1 n with n|n
  .rcases((E.cell _ (aq G)).oP aA).1 w n with B|B
   .exact Or.inl B
   .exact Or.inr B.1
  .simp at n;subst n;exact ar _ aG.1 aG.2
 rw[ae ap]
 have aA:x.op=23:=by
  rw[ae V]at o;by_cases aA:x.op=23
  .exact aA
  .rw[ae V,ae Q,ae V,ae X,ae U,ae K,ae aa,ae aw,ae aj]at o;exact o.elim
 rw[ae V,an V]at o
 have u:=au V
 have v:bT b x=[aF x.args 0]:=by unfold bT;rw[an V];exact aP V
 let⟨aN,aZ⟩:=M.zero (Or.inr aA)
 have aS:∀c,dG [f] c=0:=λc=>by rw[iY];exact nM (λn=>oh (aZ _ n))
 split
 .rename_i F
  have aG:m=[]:=List.getLast?_eq_none_iff.1 F
  subst aG
  have C:=M.ret aA
  have az:=a8 _ u.1 u.2 (by rcases C with e|e;(rw[p]at e;simp at e);exact e)
  have a4:=d.bu
  refine⟨d.fy,⟨aL,aL⟩,aL,az,aL,d.dV,d.bu,bE,d.aT,E.congr λc=>?_,d.jz,aL,aL,aL,λq J=>?_,λq J=>?_⟩
  .rw[v,tr aN]
   simp only[fA,cK,fD]
   rw[nM (by simp;have:=az.2;omega)];rfl
  .have e:=d.k8 q J
   rw[p]at e
   have B:=aS q
   simp only[eF]at e
   omega
  .simp[dG]
 .rename_i C F
  have aG:m=m.dropLast++[C]:=by
   have a_:m≠[]:=λT=>by rw[T]at F;simp at F
   rw[gD a_]at F;simp at F;rw[<-F];exact(fq a_).symm
  generalize m.dropLast=fs' at aG
  subst aG
  have az:iA b C:=aH C aL
  let⟨aK,bh,bj⟩:=d.chain fs'.length C f (by rw[p];simp) (by rw[p];simp)
  have bk:f.dst<C.ak.length:=by have:=az.lr;have:=az.lo;omega
  have a4:=d.bu
  have ay:=d.depth
  rw[p]at ay
  have L:∀c,dG (fs'++[C.put f.dst (aF f.ak (aF x.args 0)) (gH (aF f.ak (aF x.args 0)))]) c=dG s.ao c:=λc=>by
   rw[p,eK,eK,aS,eK,iY,iY];simp[aX.put]
  refine⟨d.fy,d.bV,⟨λT=>by simp at T;omega,sx⟩,d.value,d.tP,d.dV,d.bu,by simp at ay⊢;omega,d.aT,E.congr λc=>?_,d.jz,λD j=>?_,λD j=>?_,λy p1 D k j=>?_,λq J=>by rw[L];exact d.k8 q J,λq J=>by rw[L];exact d.nj q J⟩
  .rw[fX,kQ,fX,kQ,v,tr aN]
   simp only[aX.put,cK,fD]
   rw[ND aK bk bh bj,wV];omega
  .rcases List.mem_append.1 j with j|j
   .exact aH D (bI _ j)
   .simp at j;subst j
    exact az.put aK (ar _ u.1 u.2) (HV _) Ea
  .have ai:=d.first
   rw[p]at ai
   cases fs' with
   |nil=>simp at j;subst j;exact ai C aL
   |cons af ys=>simp at j;subst j;exact ai af aL
  .have ag:=d.chain y
   rw[p]at ag
   simp only[]at k j
   have aU:=av j
   simp at aU
   rw[ax V]at k
   have e1:(fs'++[C]++[f])[y]? =some p1:=by rw[ax bE,ax V];exact k
   rcases aW (y+1) fs'.length with A|A
   .rw[ax A]at j
    exact ag p1 D e1 (by rw[ax bE,ax A];exact j)
   .rw[aI A]at j
    have H:y+1 -fs'.length=0:=V
    rw[H]at j;simp at j;subst j
    exact ag p1 C e1 (by rw[ax bE,aI A,H];rfl)
def RN(h:cY b s):cY b (kD b s):=by
 unfold kD;by_cases c:s.bV=3
 .rw[ae (by simpa using c)];let⟨j,f,a⟩:=h.split c;have g:s.ao.getLast?=some f:=by rw[a];simp
  have i:s.ao.dropLast=j:=by rw[a];simp
  rw[g,i];simp only[];have d:∀n,1<=n->n<=2->cY b {s with bV:=n}:=λn l m=>
   ⟨h.fy,⟨by simp only[];omega,by simp only[];omega⟩,⟨λe=>by simp only[]at e;omega,λe=>by simp only[]at e;rw[a]at e;simp at e⟩,h.value,λe=>oh (h.tP e),h.dV,h.bu,h.depth,h.aT,h.heap,h.jz,h.ao,h.first,h.chain,h.k8,h.nj⟩
  split
  .exact d 1 V V
  .rename_i e;split
   .rename_i k;exact QV h c a k e
   .exact d 2 V V
 .rw[an (by simpa using c)];exact h
end
section
variable{a:cO}
def rem(a:cO):List aX->Int
 |[]=>0
 |f::b=>((dO a f.fE).dq.length -f.pc)+rem a b
noncomputable def aD (a:cO):Nat->St->St
 |0,s=>s
 |n+1,s=>aD a n (kD a s)
def Mb(a:cO):∀(n:Nat)(s:St),aD a (n+1) s=kD a (aD a n s)
 |0,s=>rfl
 |n+1,s=>by rw[aD,Mb a n,aD]
def Bv{a:cO}:∀(n:Nat){s:St},cY a s->cY a (aD a n s)
 |0,s,h=>h
 |n+1,s,h=>Bv n (RN h)
def pT{s:St}(h:s.bV≠3):kD a s=s:=by unfold kD;rw[an h]
def Dz{a:cO}:∀(n:Nat){s:St},s.bV≠3->aD a n s=s
 |0,s,_=>rfl
 |n+1,s,h=>by rw[aD,pT h,Dz n h]
def lO(a:cO)(dV:Int):St:=⟨3,0,0,dV,[],[],[bX a 0 0 []]⟩
def LZ{dV:Int}(c:nl a)(n:0<=dV/\dV<=40):cY a (lO a dV):=by
 have q:=c.nP.len;let⟨p,i⟩:=cG a.cF 0;have l:=c.nP.first p i;have k:=uy (j:=0) (d:=[]) c (dg 0) i (by simp[l.1]) aL;have h:∀f,fA [bX a 0 0 []] f=0:=λf=>by rw[kQ,qR];simp[de]
 refine⟨c,by simp[lO],by simp[lO],by simp[lO,gL],by simp[lO],n,by simp[lO];omega,by simp[lO],by simp[lO],⟨by simp[lO],⟨λ_=>0,by simp[lO]⟩,by simp[lO],λd=>by simp only[lO];rw[h];omega,λd b=>by simp only[lO]at b;rw[h]at b;omega⟩,?_,?_,?_,?_,λd⟨j,e,_⟩=>by simp[lO]at e,λd _=>pH _ _ _ _ _⟩
 .intro j e;simp[lO]at e
 .intro g b;simp[lO]at b;subst b;exact k
 .intro g b;simp[lO]at b;subst b;rfl
 .intro r g o b m;simp[lO]at m
end
section
variable{k:Nat}{m:E}
def lQ{b:List bz}{d:bz}:Hm b k d<->((zl b.length d.sU/\zl b.length d.to/\d.cons.length<=3/\(0<d.cons.length->d.sU=0/\d.to=0))/\
 (∀h∈d.cons,h.length<=3/\Fg b.length h)/\∀e∈b.take k,¬(d.cons.length=0/\e.cons.length=0/\e.sU=d.sU/\e.to=d.to)):=by
 constructor
 .intro l
  rcases jY d.cons.length with a|a
  .let⟨c,f,g⟩:=l.RG a
   refine⟨⟨f,g,V,λl=>V⟩,λh m=>?_,λe i j=>c e i j.2⟩
   rw[List.length_eq_zero_iff.1 a]at m;cases m
  .let⟨c,f,g,h⟩:=l.iW a
   exact⟨⟨by unfold zl;omega,by unfold zl;omega,c,λ_=>⟨f,g⟩⟩,h,λe i j=>V⟩
 .rintro⟨⟨c,f,g,h⟩,l,m⟩
  exact⟨λa=>⟨g,(h a).1,(h a).2,l⟩,λa=>⟨λe i j=>m e i ⟨a,j⟩,c,f⟩⟩
def DQ{bo:O}{c:List bz}(hd:cx m bo c):dt cp 192 [O.v bo] m (dT c):=by
 apply yp;simp -zeta only[aC,aB];have v:=hd.len;have ao:=hd.cap;refine dit (λaa=>?_) λaa=>?_
 .exact bW (λa=>oh a.len) (J.az _)
 refine dU (n:=c.length) V (λk f=>J m f/\∀(j:Nat)(d:bz),j<k->c[j]? =some d->Hm c j d) ⟨J.az _,aL⟩ ?_;rintro j w al μ hj ⟨H,S⟩ ak
 refine dit (λh1=>?_) λh1=>?_
 .let⟨d,D⟩:=cG c j;let⟨A,F,g0,g1,g2⟩:=(cx.ext H hd).aF D;have ar:=F.len;refine⟨V,V,_,g0,_,g1,A,g2,?_⟩;intro m2 q;have I:J w q:=((J.az w).aK _).ah (ad _) _ _;have G:∀r∈[w.size],r<q.size:=by simp[q,m2,aw]
  clear_value q;have K:=H.trans I;have i:∀{f:E},J q f->¬Hm c j d->∃M:Bool,vb false=.bool M/\(M=true<->dT c)/\J m f:=λag af=>bW (λa=>af (a.dz j d D)) (K.trans ag);refine⟨λf=>J q f/\zl c.length d.sU/\zl c.length d.to/\d.cons.length<=3/\(0<d.cons.length->d.sU=0/\d.to=0),?_,?_⟩
  .refine(pE _ _ _).aH (J.az _) G λr m4 g N s=>⟨_,rfl,λe=>i s λa=>nb g e (v▸(lQ.1 a).1.1),λe=>?_⟩;have p:=yb g e;refine(pE _ _ _).aH s G λr u g t b=>⟨_,rfl,λh=>i b λa=>nb g h (v▸(lQ.1 a).1.2.1),λh=>?_⟩;have x:=yb g h;rw[v]at p x;refine dit (λy=>?_) λy=>?_
   .exact i b λa=>by have:=(lQ.1 a).1.2.2.1;omega
   refine dit (λz=>?_) λz=>?_
   .refine⟨λl=>?_,λl=>?_⟩
    .simp only[vu]at l;exact i b λa=>l ((lQ.1 a).1.2.2.2 V).1
    simp only[iK]at l;refine⟨λo=>?_,λo=>?_⟩
    .simp only[vu]at o;exact i b λa=>o ((lQ.1 a).1.2.2.2 V).2
    simp only[iK]at o;exact⟨b,p,x,V,λ_=>⟨l,o⟩⟩
   .exact⟨b,p,x,V,λl=>V⟩
  .rintro m4 ⟨W,ae⟩;have ap:=pb.ext (I.trans W) F;refine dU (n:=d.cons.length) V (λk f=>J q f/\∀A∈d.cons.take k,A.length<=3/\Fg c.length A) ⟨W,aL⟩ ?_;rintro L u I2 μ2 hi ⟨l,T⟩ ah;refine dit (λN=>?_) λN=>?_
   .let⟨B,o⟩:=cG d.cons L;let⟨P,C,Q⟩:=(pb.ext (I.trans l) F).aF o;have U:=C.len;refine⟨V,V,P,Q,?_⟩;intro x y;have p:J u y:=((J.az u).aK _).ah (ad _) _ _;have R:∀r∈[u.size,w.size],r<y.size:=by
     have:=l.lt (G w.size aL);simp[y,x,aw];omega
    clear_value y;refine dit (λs=>?_) λs=>?_
    .exact i (l.trans p) λa=>by have:=((lQ.1 a).2.1 B (aq o)).1;omega
    exact(vH (C.ext p) _).aH (J.az _) R λr z g e t=>⟨_,rfl,λb=>i ((l.trans p).trans e) λa=>nb g b (v▸((lQ.1 a).2.1 B (aq o)).2),λb=>ah V _ ⟨(l.trans p).trans e,bB o T ⟨V,v▸yb g b⟩⟩⟩
   .have ab:=db V T;refine⟨V,V,V,?_⟩;have P:cx u (bo.cut 0 j 3) (c.take j):=eT.Ti (cx.ext (K.trans l) hd) V;have am:(bo.cut 0 j 3).len=j:=by rw[P.len];simp;omega
    simp -zeta only[tS,Int.toNat_zero];refine dU (n:=j) V (λk f=>J u f/\∀g∈c.take k,¬(d.cons.length=0/\g.cons.length=0/\g.sU=d.sU/\g.to=d.to)) ⟨J.az _,aL⟩ ?_;rintro p x Y μ3 ax ⟨C,U⟩ ai;refine dit (λs=>?_) λs=>?_
    .let⟨g,Q⟩:=cG c p;have R:(c.take j)[p]? =some g:=by rw[lF,an V];exact Q
     let⟨Z,ac,q0,q1,q2⟩:=(cx.ext C P).aF R;have au:=ac.len;refine⟨V,V,_,q0,_,q1,Z,q2,?_⟩;intro y z;have X:J x z:=((J.az x).aK _).ah (ad _) _ _;clear_value z;have B:¬(d.cons.length=0/\g.cons.length=0/\g.sU=d.sU/\g.to=d.to)->Y (cT ((p:Int)+1)) z/\μ3 (cT ((p:Int)+1)) z<μ3 p x:=λo=>ai V _ ⟨C.trans X,bB Q U o⟩;refine⟨λe=>?_,λe=>?_⟩
     .simp only[aG]at e;refine⟨λt=>?_,λt=>?_⟩
      .simp only[aG]at t;refine⟨λb=>?_,λb=>?_⟩
       .simp only[aG]at b;refine⟨λh=>?_,λh=>?_⟩
        .simp only[aG]at h;exact i ((l.trans C).trans X) λa=>(lQ.1 a).2.2 g (aq R) ⟨V,V,b,h⟩
        .simp only[aj]at h;exact B λo=>h o.2.2.2
       .simp only[aj]at b;exact B λo=>b o.2.2.1
      .simp only[aj]at t;exact B λo=>t V
     .simp only[aj]at e;exact B λo=>e V
    .have:p=j:=V;subst this;refine ak V _ ⟨(K.trans l).trans C,λb e h a=>?_⟩
     by_cases g:b=p
     .subst g;rw[D]at a;simp at a;subst a;exact lQ.2 ⟨ae,ab,U⟩
     .exact S b e V a
 .exact iO ⟨V,λL d bG=>S L d (oh (av bG)) bG⟩ H
def Oc(m:E)(b:List Ce)(p:dy):Prop:=∃a l,b=[.s a,.s l,.i p.aS]/\ap m a p.params/\ap m l p.cR
def Oc.ext{m d:E}(b:J m d)(a:List Ce)(c:dy):Oc m a c->Oc d a c:=λ⟨f,g,e,h,i⟩=>⟨f,g,e,h.ext b,i.ext b⟩
abbrev pw(m:E)(s:O)(l:List dy):Prop:=eT m 3 (Oc m) s l
def pw.ext{m b:E}(a:J m b){s:O}{l:List dy}(h:pw m s l):pw b s l:=h.mono a (Oc.ext a)
def pw.aF{s:O}{l:List dy}(h:pw m s l){x:dy}(f:l[k]? =some x):
 ∃a b,ap m a x.params/\ap m b x.cR/\af m s.D (s.off+k*3)=some (O.v a)/\af m s.D (s.off+k*3+1)=some (O.v b)/\af m s.D (s.off+k*3+2)=some (vi x.aS):=by
 obtain⟨g,⟨a,b,rfl,d,e⟩,c⟩:=h.iB k x f
 exact⟨a,b,d,e,c 0 (.s a) rfl,c 1 (.s b) rfl,c 2 (.i x.aS) rfl⟩
def FT{Y Z:O}{q:List bz}{c:List dy}(hd:cx m Y q)(P:pw m Z c):
 dt cp 147 [O.v Y,O.v Z] m (Kr q c/\∀p∈c,DJ p.params p.cR):=by
 apply zQ
 simp -zeta only[aC,aB]
 have N:=hd.len
 have aA:=P.len
 refine(DQ hd).then λu m1 e f=>⟨_,rfl,λG=>bW (λa=>nb e G a.1.types) f,λG=>?_⟩
 have ht:=yb e G
 refine dit (λh2=>?_) λh2=>?_
 .exact bW (λa=>oh a.1.len) f
 refine dit (λh3=>?_) λh3=>?_
 .exact bW (λa=>oh a.1.len) f
 let⟨p0,A⟩:=cG c 0
 let⟨a0,l0,al,aD,g0,g1,g2⟩:=(pw.ext f P).aF A
 have ay:=al.len
 refine⟨V,V,a0,g0,dit (λh4=>?_) λh4=>?_⟩
 .exact bW (λa=>oh ((a.1.first p0 A).1)) f
 refine⟨V,V,_,g2,λs=>?_,λs=>?_⟩
 .simp only[vu]at s
  exact bW (λa=>s (a.1.first p0 A).2) f
 simp only[iK]at s
 refine dU (n:=c.length) V (λj U=>J m U/\∀p∈c.take j,(p.params.length<=3/\Fg q.length p.params/\zl q.length p.aS)/\DJ p.params p.cR) ⟨f,aL⟩ ?_
 rintro j C au μ hj ⟨l,hn⟩ ap
 refine dit (λh6=>?_) λh6=>?_
 .let⟨p,i⟩:=cG c j
  let⟨ah,ao,M,z,q0,q1,q2⟩:=(pw.ext l P).aF i
  have az:=M.len
  have aF:=z.len
  have aE:=z.gT
  refine⟨V,V,ah,q0,ao,q1,_,q2,?_⟩
  intro m3 D
  have o:J C D:=((J.az C).aK _).ah (ad _) _ _
  have aa:∀u∈[C.size],u<D.size:=by simp[D,m3,aw]
  clear_value D
  refine dit (λh7=>?_) λh7=>?_
  .exact bW (λa=>oh ((a.1.dz p (aq i)).1)) (l.trans o)
  refine(vH (M.ext o) _).aH (J.az _) aa λu m5 e h8 h9=>⟨_,rfl,λH=>bW (λa=>nb e H (N▸(a.1.dz p (aq i)).2.1)) ((l.trans o).trans h8),λH=>?_⟩
  have ac:=yb e H
  refine(pE _ _ _).aH h9 aa λu W e ax I=>⟨_,rfl,λK=>bW (λa=>nb e K (N▸(a.1.dz p (aq i)).2.2)) ((l.trans o).trans I),λK=>?_⟩
  have ab:=yb e K
  rw[N]at ac ab
  have ae:J m W:=(l.trans o).trans I
  have S:J C W:=o.trans I
  refine dU (n:=p.cR.length) V (λk U=>U=W/\∀(j:Nat)(v:Int),j<k->p.cR[j]? =some v->(∃t,0<=v/\p.params[v.toNat]? =some t/\t≠0)/\(∀E:Int,0<j->p.cR[j -1]? =some E->E<v)) ⟨rfl,aL⟩ ?_
  rintro k m7 I2 μ2 hk ⟨rfl,Q⟩ af
  have w:¬DJ p.params p.cR->∃X:Bool,vb false=.bool X/\(X=true<->Kr q c/\∀p∈c,DJ p.params p.cR)/\J m m7:=λan=>bW (λa=>an (a.2 p (aq i))) ae
  refine dit (λai=>?_) λai=>?_
  .let⟨x,g⟩:=cG p.cR k
   refine⟨V,V,x,by simpa using S.af (z.aF g),dit (λak=>?_) λak=>?_⟩
   .exact w λa=>by obtain⟨⟨t,y,_⟩,_⟩:=a k x g;omega
   refine⟨λy=>?_,λy=>?_⟩
   .simp only[om,ar]at y
    refine w λa=>?_
    obtain⟨⟨t,_,d,_⟩,_⟩:=a k x g
    have:=av d;omega
   simp only[om,bL]at y
   let⟨t,B⟩:=cG p.params x.toNat
   refine⟨V,V,t,by simpa using S.af (M.aF B),λd=>?_,λd=>?_⟩
   .simp only[aG]at d
    refine w λa=>?_
    obtain⟨⟨b,_,r,L⟩,_⟩:=a k x g
    rw[B]at r;simp at r;exact L (r▸d)
   simp only[aj]at d
   refine dit (λr=>?_) λr=>?_
   .have e2:cT ((k:Int) -1)=((k -1:Nat):Int):=by rw[aQ V V];omega
    let⟨ag,T⟩:=cG p.cR (k -1)
    rw[e2]
    refine⟨V,V,ag,by simpa using S.af (z.aF T),dit (λL=>?_) λL=>?_⟩
    .exact w λa=>by have:=(a k x g).2 ag V T;omega
    .refine af V _ ⟨rfl,λh v am b=>?_⟩
     by_cases F:h=k
     .subst F
      rw[g]at b;simp at b;subst b
      refine⟨⟨t,V,B,d⟩,λE _ R=>?_⟩
      rw[T]at R;simp at R;subst R;omega
     .exact Q h v V b
   .refine af V _ ⟨rfl,λh v am b=>?_⟩
    by_cases F:h=k
    .subst F
     rw[g]at b;simp at b;subst b
     exact⟨⟨t,V,B,d⟩,λE L _=>V⟩
    .exact Q h v V b
  .exact ap V _ ⟨ae,bB i hn ⟨⟨V,ac,ab⟩,λh v b=>Q h v (oh (av b)) b⟩⟩
 .have b:=db V hn
  refine iO ⟨⟨ht,V,λp a=>(b p a).1,λp a=>?_⟩,λp a=>(b p a).2⟩ l
  rw[A]at a;simp at a;subst a
  exact⟨V,s⟩
end
section
variable{c:E}{d f a j:O}{b:cO}{i:Instr}
def FO{H:O}(D:fw c d H b):
 aN cp 74 [.agg #[O.v d,O.v H]] c λan t=>∃T f e,an=.tuple #[.agg #[O.v T,O.v f],vb e]/\(e=true<->Kr b.bo b.cF/\∀H∈b.cF,DJ H.params H.cR)/\
  (e=true->T=d/\pw t f b.cF)/\J c t:=by
 apply zP
 simp -zeta only[aC,aB]
 intro G h
 have aq:=D.cF.len
 have s1:G.size=c.size+1:=by simp[G]
 have s2:h.size=c.size+2:=by simp[h,G]
 have ab:J c h:=((J.az c).aK _).aK _
 refine dit (λh1=>?_) λh1=>?_
 .intro g
  exact⟨_,_,_,rfl,⟨sx,λD=>oh D.1.len⟩,sx,ab.ah V _ _⟩
 intro m4 C
 have s5:C.size=c.size+3:=by simp[C,m4,aw,s2]
 have al:J c C:=(ab.aK _).ah V _ _
 have ah:cE C h.size lZ [.s d,.s .nil]:=cE.ah (m:=m4) (o:=0) (r:=[.s d,.s .nil]) (cE.push h _ _)
 clear_value C
 refine dU (n:=b.cF.length) V (λM t=>J c t/\C.size<=t.size/\∃g w,cE t h.size lZ [.s d,.s g]/\gW c t pV 3 g w.flatten/\gQ 3 (Oc c) w (b.cF.take M)/\(g≠.nil->h.size<g.D)/\g.len=M)
  ⟨al,ad _,.nil,[],ah,gW.nil _ _ _ _,by simpa using gQ.nil 3 (Oc c),aL,rfl⟩ ?_
 rintro M i ao μ hk ⟨l,ar,g,w,s,K,L,Q,aa⟩ am
 refine dit (λh2=>?_) λh2=>?_
 .let⟨N,Y⟩:=cG b.cF M
  let⟨a,e,ac,ha,p,y,g0,g1,g2,g3,g4⟩:=D.cF.aF Y
  refine⟨V,V,a,by simpa using l.af g0,e,by simpa using l.af g1,_,by simpa using l.af g2,_,by simpa using l.af g3,ac,by simpa using l.af g4,?_⟩
  intro S j
  have F:J i j:=((J.az i).aK _).ah (ad _) _ _
  have s8:j.size=i.size+1:=by simp[j,S,aw]
  clear_value j
  refine⟨g,(s.ext F).cg 1,?_⟩
  intro u
  have R:J i u:=F.aK _
  have s9:u.size=i.size+2:=by simp[u,s8]
  have ju:fQ u j.size 0 [.s a,.s e,.i N.aS]:=(cE.push j _ _).iB
  clear_value u
  refine gW.append (zs:=[.s .nil,.s .nil,.i 0]) (d:=[.s a,.s e,.i N.aS]) (K.ext R) (l.trans R) rfl ju (by simp[aa];omega) ?_
  intro v A h7 h8 U ap ae af
  have Z:v≠.nil->h.size<v.D:=by
   intro z;rcases af with⟨_,x⟩|⟨aj,x,_⟩|x
   .exact absurd x z
   .have:=Q aj;omega
   .omega
  have I:∀k,k<u.size->k<=h.size\/k=i.size/\(g=.nil\/g.D<i.size)->A[k]? =u[k]? :=by
   intro k q y;refine ae k q λz=>?_;have:=Q z;rcases y with y|⟨rfl,y|y⟩
   .omega
   .exact absurd y z
   .omega
  have ai:g=.nil\/g.D<i.size:=K.lt
  have W:cE A h.size lZ [.s d,.s g]:=(s.ext R).congr (I _ V (Or.inl (ad _)))
  refine⟨λk q=>?_,W.fK aL,?_⟩
  .simp at q
   rcases q with rfl|rfl|rfl
   .exact I _ V (Or.inr ⟨rfl,ai⟩)
   .exact I _ V (Or.inl V)
   .exact I _ V (Or.inl V)
  intro B
  have au:B.size=A.size:=by simp[B,aw]
  have ag:cE B h.size lZ [.s d,.s v]:=cE.ah (m:=A) (o:=1) (r:=[.s v]) W
  have X:∀e,e≠h.size->B[e]? =A[e]? :=λe p=>bd _ _ _ _ p
  have ak:J c B:=h8.ah V _ _
  clear_value B
  refine⟨λk q=>?_,?_⟩
  .simp at q
   rcases q with rfl|rfl|rfl<;>exact X _ V
  refine am V _ ⟨ak,V,v,w++[[.s a,.s e,.i N.aS]],ag,?_,?_,Z,by simp[U,aa]⟩
  .rw[qJ]
   have P:gW c A pV 3 v (w.flatten++[[.s a,.s e,.i N.aS]].flatten):=by simpa using h7
   rcases P.lt with x|x
   .subst x;exact⟨P.len,Or.inl rfl⟩
   .refine P.congr (X _ λe2=>?_)
    by_cases E:v=.nil
    .subst E
     have:=U
     simp at this
    .have:=Z E;omega
  .rw[aU Y]
   exact L.yD rfl ⟨a,e,rfl,ha,p⟩
 .rw[bY V]at L
  have x:pw i g b.cF:=(eT.gA K L V V).mono (J.az _) (Oc.ext l)
  refine⟨d,s.cg 0,g,s.cg 1,g,s.cg 1,?_⟩
  have u:∀e∈[G.size,c.size],e<i.size:=bE
  refine(FT (cx.ext l D.bo) x).aH (J.az _) u λe S p k _=>⟨_,rfl,k.da (s.cg 0),k.da (s.cg 1),?_⟩
  intro j
  have z:∀e,e≠G.size->j[e]? =S[e]? :=λe p=>bd _ _ _ _ p
  have F:J c j:=(l.trans k).ah V _ _
  refine⟨d,g,e,rfl,p,λ_=>⟨rfl,?_⟩,F⟩
  have q:=K.ext k
  have v:gW c j pV 3 g w.flatten:=by
   by_cases E:g=.nil
   .subst E;exact⟨q.len,Or.inl rfl⟩
   .exact q.congr (z _ (oh (Q E)))
  exact(eT.gA v L V V).mono (J.az _) (Oc.ext F)
def gK(b:cO)(i:Instr)(a:Int->Prop):Prop:=
 if i.op=0 then -999<=i.bP/\i.bP<=999
 else if i.op=6 then 0<=i.bP/\i.bP<(eS b.bo).length
 else if i.op=9\/i.op=24 then 0<=i.bP/\i.bP<b.cF.length
 else if i.op=10 then 0<=i.bP/\∃q,b.cF[i.bP.toNat]? =some q/\q.cR.length=0
 else if i.op=19 then 0<=i.bP/\i.bP<3
 else if i.op=20\/i.op=22 then a i.bP
 else if i.op=21 then 0<(cz b.bo i.bP).length/\i.eM.length=(cz b.bo i.bP).length
 else i.bP=0
def HL(hd:cx c d b.bo)(x:dT b.bo)(A:pw c f b.cF)(N:ap c a i.args)(E:ap c j i.eM)(t:Nat)(v u:Array Value)(D:GL.elem t=true)(l:Int->Prop)
 (G:∀e,J c e->dt cp t (v.toList++[vi i.bP]++u.toList) e (l i.bP)):
 dt cp 150 [.agg #[O.v d,O.v f],.agg #[vi i.op,vi i.dst,vi i.bP,vi i.bZ,O.v a,O.v j],.func (.func t) v u] c (gK b i l):=by
 apply qA d f i.op i.dst i.bP i.bZ a j (.func t,v,u)
 simp -zeta only[aC,aB]
 intro y r
 have e:J c r:=((J.az c).aK _).aK _
 have w:∀z∈[y.size,c.size],z<r.size:=by simp[r,y];omega
 have Q:=A.len
 have R:=E.len
 have C:cE r y.size dX [.i i.op,.i i.dst,.i i.bP,.i i.bZ,.s a,.s j]:=cE.push _ _ _
 clear_value r
 refine⟨λk=>?_,λk=>?_⟩
 .simp only[aG]at k
  rw[show gK b i l<->-999<=i.bP/\i.bP<=999 by rw[gK,an k]]
  refine⟨λh=>eU ?_ e,λh=>bW ?_ e⟩<;>simp at h
  .simp;omega
  .omega
 simp only[aj]at k
 refine⟨λm=>?_,λm=>?_⟩
 .simp only[aG]at m
  rw[show gK b i l<->0<=i.bP/\i.bP<(eS b.bo).length by rw[gK,ae k,an m]]
  refine⟨λh=>?_,λh=>bW ?_ e⟩<;>simp at h
  .refine(qy (cx.ext e hd) x.len (Ok x)).aH (J.az _) w λB g _=>⟨_,rfl,g.da (C.cg 2),eU ?_ (e.trans g)⟩
   simp;omega
  .omega
 simp only[aj]at m
 refine⟨λn=>?_,λn=>?_⟩
 .simp only[bQ,aG]at n
  rw[show gK b i l<->0<=i.bP/\i.bP<b.cF.length by rw[gK,ae k,ae m,an n]]
  refine⟨λh=>eU ?_ e,λh=>bW ?_ e⟩<;>simp at h
  .simp;omega
  .omega
 simp only[br,aj]at n
 replace n:¬(i.op=9\/i.op=24):=V
 refine⟨λo=>?_,λo=>?_⟩
 .simp only[aG]at o
  rw[show gK b i l<->0<=i.bP/\∃q,b.cF[i.bP.toNat]? =some q/\q.cR.length=0 by rw[gK,ae k,ae m,ae n,an o]]
  refine⟨λh=>⟨λp=>?_,λp=>?_⟩,λh=>bW ?_ e⟩<;>simp at h
  .simp at p
   let⟨q,s⟩:=cG b.cF i.bP.toNat
   let⟨I,H,P,F,K,g1,g2⟩:=(pw.ext e A).aF s
   have:=F.len
   refine⟨V,V,H,g1,eU ?_ e⟩
   simp only[aG]
   refine⟨λL=>⟨h,q,s,V⟩,λ⟨_,S,g,M⟩=>?_⟩
   rw[s]at g;simp at g;subst g;omega
  .simp at p
   exact bW (λ⟨_,q,g,_⟩=>oh (av g)) e
  .omega
 simp only[aj]at o
 refine⟨λp=>?_,λp=>?_⟩
 .simp only[aG]at p
  rw[show gK b i l<->0<=i.bP/\i.bP<3 by rw[gK,ae k,ae m,ae n,ae o,an p]]
  refine⟨λh=>eU ?_ e,λh=>bW ?_ e⟩<;>simp at h
  .simp;omega
  .omega
 simp only[aj]at p
 refine⟨λq=>?_,λq=>?_⟩
 .simp only[bQ,aG]at q
  rw[show gK b i l<->l i.bP by rw[gK,ae k,ae m,ae n,ae o,ae p,an q]]
  exact⟨t,rfl,D,(G r e).aH (J.az _) w λz B s g _=>⟨_,rfl,eU s (e.trans g)⟩⟩
 simp only[br,aj]at q
 replace q:¬(i.op=20\/i.op=22):=V
 refine⟨λs=>?_,λs=>?_⟩
 .simp only[aG]at s
  rw[show gK b i l<->0<(cz b.bo i.bP).length/\i.eM.length=(cz b.bo i.bP).length by rw[gK,ae k,ae m,ae n,ae o,ae p,ae q,an s]]
  refine(tg (cx.ext e hd) x _).aH (J.az _) w ?_
  rintro _ B ⟨H,rfl,F,g⟩
  have:=F.len
  refine⟨g,_,rfl,λh=>eU ?_ (e.trans g),λh=>bW ?_ (e.trans g)⟩<;>simp at h
  .simp only[aG];omega
  .omega
 .simp only[aj]at s
  rw[show gK b i l<->i.bP=0 by rw[gK,ae k,ae m,ae n,ae o,ae p,ae q,ae s]]
  exact eU aL e
def gX(b:cO)(i:Instr)(c a:Int):Prop:=
 if i.op=0\/i.op=22 then c=0/\a=0
 else if i.op=1\/i.op=2\/i.op=3\/i.op=4\/i.op=11 then c=2/\a=2
 else if i.op=6 then c=(cD b.bo i.bP).length/\a=(cD b.bo i.bP).length
 else if i.op=9\/i.op=24 then∃q,b.cF[i.bP.toNat]? =some q/\c=q.params.length/\a=q.params.length
 else if i.op=10 then∃q,b.cF[i.bP.toNat]? =some q/\c=(q.params.length:Int) -1/\a=(q.params.length:Int) -1
 else if i.op=16\/i.op=17 then c=1/\a=4
 else c=1/\a=1
def KV(hd:cx c d b.bo)(A:dT b.bo)(x:pw c f b.cF){H:Int->Prop}(t:gK b i H):
 aN cp 151 [.agg #[O.v d,O.v f],.agg #[vi i.op,vi i.dst,vi i.bP,vi i.bZ,O.v a,O.v j]] c λK I=>∃B z:Int,K=.tuple #[vi B,vi z]/\gX b i B z/\J c I:=by
 apply rR
 simp -zeta only[aC,aB]
 intro C u
 have g:J c u:=((J.az c).aK _).aK _
 have E:∀D∈[C.size,c.size],D<u.size:=by simp[u,C];omega
 have M:=x.len
 clear_value u
 refine⟨λh=>?_,λh=>?_⟩
 .simp only[bQ,aG]at h
  exact⟨_,_,rfl,by rw[gX,an h];exact⟨rfl,rfl⟩,g⟩
 simp only[br,aj]at h
 have l:¬(i.op=0\/i.op=22):=V
 refine⟨λq=>?_,λq=>?_⟩
 .simp only[bQ,aG]at q
  exact⟨_,_,rfl,by rw[gX,ae l,an q];exact⟨rfl,rfl⟩,g⟩
 simp only[br,aj]at q
 have n:¬(i.op=1\/i.op=2\/i.op=3\/i.op=4\/i.op=11):=V
 refine⟨λe=>?_,λe=>?_⟩
 .simp only[aG]at e
  rw[gK,ae h.1,an e]at t
  have m:=qY A b.bo.length
  rw[mR _ _ (ad _)]at m
  refine(HG (cx.ext g hd) A _ V).aH (J.az _) E ?_
  rintro _ p ⟨s,rfl,o,k⟩
  have:=o.len
  exact⟨k,_,rfl,_,_,rfl,by rw[gX,ae l,ae n,an e];omega,g.trans k⟩
 simp only[aj]at e
 refine⟨λo=>?_,λo=>?_⟩
 .simp only[bQ,aG]at o
  rw[gK,ae h.1,ae e,an o]at t
  let⟨v,m⟩:=cG b.cF i.bP.toNat
  let⟨p,G,s,F,w,g1,g2⟩:=(pw.ext g x).aF m
  have:=s.len
  exact⟨V,V,p,w,_,_,rfl,by rw[gX,ae l,ae n,ae e,an o];exact⟨v,m,V,V⟩,g⟩
 simp only[br,aj]at o
 have r:¬(i.op=9\/i.op=24):=V
 refine⟨λk=>?_,λk=>?_⟩
 .simp only[aG]at k
  rw[gK,ae h.1,ae e,ae r,an k]at t
  obtain⟨L,v,m,_⟩:=t
  let⟨p,G,s,F,w,g1,g2⟩:=(pw.ext g x).aF m
  have:=s.len
  have:=s.gT
  have:=av m
  have y:cT ((p.len:Int) -1)=(v.params.length:Int) -1:=by rw[aQ V V];omega
  exact⟨V,V,p,w,_,_,rfl,by rw[gX,ae l,ae n,ae e,ae r,an k];exact⟨v,m,y,y⟩,g⟩
 simp only[aj]at k
 refine⟨λm=>?_,λm=>?_⟩
 .simp only[bQ,aG]at m
  exact⟨_,_,rfl,by rw[gX,ae l,ae n,ae e,ae r,ae k,an m];exact⟨rfl,rfl⟩,g⟩
 .simp only[br,aj]at m
  have p:¬(i.op=16\/i.op=17):=V
  exact⟨_,_,rfl,by rw[gX,ae l,ae n,ae e,ae r,ae k,ae p];exact⟨rfl,rfl⟩,g⟩
end
section
variable{m:E}{x k:Int}{a b1:Nat}{c:O}
def xQ(b:af m a 0=some (vi k))(d:af m b1 4=some (O.v c)):
 dt cp 148 [vi x,vp a 0,vp b1 0] m (k+1<=x/\x<=(c.len:Int) -1):=by
 apply oE (a,0) (b1,0)
 refine⟨k,b,λh=>⟨c,d,eU ?_ (J.az _)⟩,λh=>bW ?_ (J.az _)⟩<;>simp at h
 .simp;omega
 .omega
def JE{b2:Nat}(b:af m a 0=some (vi k))(d:af m b1 4=some (O.v c))
 (e:af m b2 0=some (.func (.func 148) #[] #[vp a 0,vp b1 0])):
 dt cp 149 [vi x,vp b2 0] m (¬(k+1<=x/\x<=(c.len:Int) -1)):=by
 apply oF (b2,0)
 refine⟨(.func 148,#[],#[vp a 0,vp b1 0]),e,_,rfl,rfl,?_⟩
 refine(xQ b d).then λh i f g=>⟨_,rfl,eU ?_ g⟩
 rw[<-f];simp
def Jg{u:cO}{p:dy}{k:Nat}{i:Instr}(N:p.ak<=2000)(L:u.cF.length<=4)(F:∀q∈u.cF,q.params.length<=3):
 iP u p k i<->((0<=i.op/\i.op<=24/\i.op≠7/\i.op≠8/\i.op≠12/\i.op≠13)/\(0<=i.dst/\i.dst<p.ak/\(i.dst=0\/lP i.op)/\0<=i.bZ/\i.bZ<=p.ak/\(i.bZ=0\/i.op=6))/\
  (∀n∈i.args,0<=n/\n<p.ak)/\(i.eM.length=0\/i.op=21)/\(∀t∈i.eM,(k:Int)+1<=t/\t<=(p.dq.length:Int) -1)/\
  gK u i (λt=>(k:Int)+1<=t/\t<=(p.dq.length:Int) -1)/\∀j h,gX u i j h->j<=i.args.length/\(i.args.length:Int)<=h):=by
 have M:(0<=i.dst/\i.dst<p.ak)->0<p.ak:=λw=>V
 constructor
 .intro w
  have b:=w.op
  have hd:=w.dst
  have C:∀n∈i.args,0<=n/\n<p.ak:=λn f=>by have:=w.args n f;omega
  have s:i.op≠21->∀t∈i.eM,(k:Int)+1<=t/\t<=(p.dq.length:Int) -1:=λH t I=>by
   rcases w.eM with o|o
   .exact absurd o H
   .rw[List.length_eq_zero_iff.1 o]at I;cases I
  have D:i.eM.length=0\/i.op=21:=w.eM.symm
  have G:0<=i.dst/\i.dst<p.ak:=V
  have iI:∀(_:0<=i.op/\i.op<=24/\i.op≠7/\i.op≠8/\i.op≠12/\i.op≠13)(_:0<=i.bZ/\i.bZ<=p.ak)(_:∀t∈i.eM,(k:Int)+1<=t/\t<=(p.dq.length:Int) -1)
   (_:gK u i (λt=>(k:Int)+1<=t/\t<=(p.dq.length:Int) -1))(_:∀j h,gX u i j h->j<=i.args.length/\(i.args.length:Int)<=h),_:=
   λE B F K o=>(⟨E,⟨G.1,G.2,w.XU,B.1,B.2,w.bZ⟩,C,D,F,K,o⟩:(0<=i.op/\i.op<=24/\i.op≠7/\i.op≠8/\i.op≠12/\i.op≠13)/\(0<=i.dst/\i.dst<p.ak/\(i.dst=0\/lP i.op)/\0<=i.bZ/\i.bZ<=p.ak/\(i.bZ=0\/i.op=6))/\
   (∀n∈i.args,0<=n/\n<p.ak)/\(i.eM.length=0\/i.op=21)/\(∀t∈i.eM,(k:Int)+1<=t/\t<=(p.dq.length:Int) -1)/\
   gK u i (λt=>(k:Int)+1<=t/\t<=(p.dq.length:Int) -1)/\∀j h,gX u i j h->j<=i.args.length/\(i.args.length:Int)<=h)
  have r:i.op≠6->0<=i.bZ/\i.bZ<=p.ak:=λH=>by rcases w.bZ with o|o<;>omega
  unfold me at b
  by_cases c:i.op=0
  .rw[an c]at b
   refine iI V (r V) (s V) (by rw[gK,an c];exact b.2) (λj h f=>?_)
   rw[gX,an (Or.inl c)]at f;omega
  rw[ae c]at b
  by_cases g:i.op=1\/i.op=2\/i.op=3\/i.op=4\/i.op=11
  .rw[an g]at b
   refine iI V (r V) (s V) ?_ (λj h f=>?_)
   .rw[gK,ae c,ae V,ae V,ae V,ae V,ae V,ae V];exact b.2
   .rw[gX,ae V,an g]at f;omega
  rw[ae g]at b
  by_cases A:i.op=5\/i.op=14\/i.op=15\/i.op=18\/i.op=23
  .rw[an A]at b
   refine iI V (r V) (s V) ?_ (λj h f=>?_)
   .rw[gK,ae c,ae V,ae V,ae V,ae V,ae V,ae V];exact b.2
   .rw[gX,ae V,ae g,ae V,ae V,ae V,ae V]at f;omega
  rw[ae A]at b
  by_cases a:i.op=6
  .rw[an a]at b
   refine iI V b.2.2 (s V) ?_ (λj h f=>?_)
   .rw[gK,ae c,an a];exact b.1
   .rw[gX,ae V,ae g,an a]at f;omega
  rw[ae a]at b
  by_cases d:i.op=9\/i.op=24
  .rw[an d]at b
   let⟨q,o,x,v⟩:=b
   have:=av x
   refine iI V (r V) (s V) ?_ (λj h f=>?_)
   .rw[gK,ae c,ae a,an d];omega
   .rw[gX,ae V,ae g,ae a,an d]at f
    let⟨J,l,y,m⟩:=f
    rw[x]at l;simp at l;subst l;omega
  rw[ae d]at b
  by_cases e:i.op=10
  .rw[an e]at b
   let⟨⟨q,o,x,v⟩,l⟩:=b
   have:=av x
   refine iI V (r V) (s V) ?_ (λj h f=>?_)
   .rw[gK,ae c,ae a,ae d,an e];exact⟨o,q,x,l q x⟩
   .rw[gX,ae V,ae g,ae a,ae d,an e]at f
    let⟨J,l,y,m⟩:=f
    rw[x]at l;simp at l;subst l;omega
  rw[ae e]at b
  by_cases l:i.op=16\/i.op=17
  .rw[an l]at b
   refine iI V (r V) (s V) ?_ (λj h f=>?_)
   .rw[gK,ae c,ae a,ae d,ae e,ae V,ae V,ae V];exact b.2
   .rw[gX,ae V,ae g,ae a,ae d,ae e,an l]at f;omega
  rw[ae l]at b
  by_cases m:i.op=19
  .rw[an m]at b
   refine iI V (r V) (s V) ?_ (λj h f=>?_)
   .rw[gK,ae c,ae a,ae d,ae e,an m];omega
   .rw[gX,ae V,ae g,ae a,ae d,ae e,ae l]at f;omega
  rw[ae m]at b
  by_cases z:i.op=20
  .rw[an z]at b
   refine iI V (r V) (s V) ?_ (λj h f=>?_)
   .rw[gK,ae c,ae a,ae d,ae e,ae m,an (Or.inl z)];exact b.2
   .rw[gX,ae V,ae g,ae a,ae d,ae e,ae l]at f;omega
  rw[ae z]at b
  by_cases v:i.op=22
  .rw[an v]at b
   refine iI V (r V) (s V) ?_ (λj h f=>?_)
   .rw[gK,ae c,ae a,ae d,ae e,ae m,an (Or.inr v)];exact b.2
   .rw[gX,an (Or.inr v)]at f;omega
  rw[ae v]at b
  by_cases y:i.op=21
  .rw[an y]at b
   refine iI V (r V) b.2.2.2 ?_ (λj h f=>?_)
   .rw[gK,ae c,ae a,ae d,ae e,ae m,ae V,an y]
    have:=b.2.2.1
    exact⟨b.2.1,V⟩
   .rw[gX,ae V,ae g,ae a,ae d,ae e,ae l]at f;omega
  rw[ae y]at b
  exact b.elim
 .rintro⟨E,B,C,D,s,b,h⟩
  refine⟨λn f=>oh (C n f),V,B.2.2.1,B.2.2.2.2.2,D.symm,?_⟩
  unfold me
  by_cases c:i.op=0
  .rw[an c]
   rw[gK,an c]at b
   have:=h 0 0 (by rw[gX,an (Or.inl c)];exact⟨rfl,rfl⟩)
   exact⟨V,b⟩
  rw[ae c]
  by_cases g:i.op=1\/i.op=2\/i.op=3\/i.op=4\/i.op=11
  .rw[an g]
   rw[gK,ae c,ae V,ae V,ae V,ae V,ae V,ae V]at b
   have:=h 2 2 (by rw[gX,ae V,an g];exact⟨rfl,rfl⟩)
   exact⟨V,b⟩
  rw[ae g]
  by_cases A:i.op=5\/i.op=14\/i.op=15\/i.op=18\/i.op=23
  .rw[an A]
   rw[gK,ae c,ae V,ae V,ae V,ae V,ae V,ae V]at b
   have:=h 1 1 (by rw[gX,ae V,ae g,ae V,ae V,ae V,ae V];exact⟨rfl,rfl⟩)
   exact⟨V,b⟩
  rw[ae A]
  by_cases a:i.op=6
  .rw[an a]
   rw[gK,ae c,an a]at b
   have:=h _ _ (by rw[gX,ae V,ae g,an a];exact⟨rfl,rfl⟩)
   exact⟨b,V,V⟩
  rw[ae a]
  by_cases d:i.op=9\/i.op=24
  .rw[an d]
   rw[gK,ae c,ae a,an d]at b
   let⟨q,j⟩:=cG u.cF i.bP.toNat
   have:=h _ _ (by rw[gX,ae V,ae g,ae a,an d];exact⟨q,j,rfl,rfl⟩)
   exact⟨q,b.1,j,V⟩
  rw[ae d]
  by_cases e:i.op=10
  .rw[an e]
   rw[gK,ae c,ae a,ae d,an e]at b
   let⟨o,q,j,x⟩:=b
   have:=h _ _ (by rw[gX,ae V,ae g,ae a,ae d,an e];exact⟨q,j,rfl,rfl⟩)
   refine⟨⟨q,o,j,V⟩,λJ r=>?_⟩
   rw[j]at r;simp at r;subst r;exact x
  rw[ae e]
  by_cases l:i.op=16\/i.op=17
  .rw[an l]
   rw[gK,ae c,ae a,ae d,ae e,ae V,ae V,ae V]at b
   have:=h 1 4 (by rw[gX,ae V,ae g,ae a,ae d,ae e,an l];exact⟨rfl,rfl⟩)
   exact⟨V,b⟩
  have j:i.op≠22->∀(c:¬i.op=0)(g:¬(i.op=1\/i.op=2\/i.op=3\/i.op=4\/i.op=11))(a:¬i.op=6)(d:¬(i.op=9\/i.op=24))(e:¬i.op=10)(l:¬(i.op=16\/i.op=17)),i.args.length=1:=λo c g a d e l=>by
   have:=h 1 1 (by rw[gX,ae V,ae g,ae a,ae d,ae e,ae l];exact⟨rfl,rfl⟩);omega
  rw[ae l]
  by_cases m:i.op=19
  .rw[an m]
   rw[gK,ae c,ae a,ae d,ae e,an m]at b
   exact⟨j V c g a d e l,V,V⟩
  rw[ae m]
  by_cases z:i.op=20
  .rw[an z]
   rw[gK,ae c,ae a,ae d,ae e,ae m,an (Or.inl z)]at b
   exact⟨j V c g a d e l,b⟩
  rw[ae z]
  by_cases v:i.op=22
  .rw[an v]
   rw[gK,ae c,ae a,ae d,ae e,ae m,an (Or.inr v)]at b
   have:=h 0 0 (by rw[gX,an (Or.inr v)];exact⟨rfl,rfl⟩)
   exact⟨V,b⟩
  rw[ae v]
  by_cases y:i.op=21
  .rw[an y]
   rw[gK,ae c,ae a,ae d,ae e,ae m,ae V,an y]at b
   exact⟨j V c g a d e l,b.1,V,s⟩
  rw[ae y]
  omega
end
section
variable{b:E}{d:O}{c:cO}
def DV{W ah ax Q:O}(hd:cx b d c.bo)(ht:dT c.bo)(hf:pw b W c.cF)(aI:c.cF.length<=4)(h3:∀q∈c.cF,q.params.length<=3)
 {q:dy}(hc:fg b Q q.dq)(hr:q.ak<=2000){l:Nat}{e:Instr}{K P:O}(X:ap b K e.args)(hj:ap b P e.eM):
 dt cp 75 [.agg #[O.v d,O.v W],.agg #[O.v ah,O.v ax,vi q.aS,vi q.ak,O.v Q],vi l,.agg #[vi e.op,vi e.dst,vi e.bP,vi e.bZ,O.v K,O.v P]] b (iP c q l e):=by
 apply pF
 simp -zeta only[aC,aB]
 intro B A E w
 have s1:B.size=b.size+1:=by simp[B]
 have s2:A.size=b.size+2:=by simp[A,s1]
 have s3:E.size=b.size+3:=by simp[E,s2]
 have s4:w.size=b.size+4:=by simp[w,s3]
 have z:J b w:=((((J.az b).aK _).aK _).aK _).aK _
 have am:cE w A.size aA [.i l]:=(cE.push A _ _).ext (J.push _ _)
 have an:cE w B.size jA [.s ah,.s ax,.i q.aS,.i q.ak,.s Q]:=(cE.push B _ _).ext ((J.push A _).aK _)
 have u:=Jg (u:=c) (p:=q) (k:=l) (i:=e) hr aI h3
 have aE:=hc.len
 have aR:=X.len
 have aS:=hj.len
 clear_value w
 clear_value E
 clear_value A
 clear_value B
 refine⟨λh=>bW (λf=>?_) z,λc0=>⟨λh=>bW (λf=>?_) z,λc1=>⟨λh=>bW (λf=>?_) z,λc2=>⟨λh=>bW (λf=>?_) z,λc3=>⟨λh=>bW (λf=>?_) z,λc4=>⟨λh=>bW (λf=>?_) z,λc5=>?_⟩⟩⟩⟩⟩⟩
 any_goals (have:=(u.1 f).1;simp at h;omega)
 simp at c0 c1 c2 c3 c4 c5
 have f1:0<=e.op/\e.op<=24/\e.op≠7/\e.op≠8/\e.op≠12/\e.op≠13:=V
 refine⟨λx=>J w x/\(0<=e.dst/\e.dst<q.ak/\(e.dst=0\/lP e.op)/\0<=e.bZ/\e.bZ<=q.ak/\(e.bZ=0\/e.op=6)),?_,?_⟩
 .refine⟨λh=>bW (λf=>?_) z,λG=>⟨λh=>bW (λf=>?_) z,λI=>?_⟩⟩
  .have:=(u.1 f).2.1;simp at h;omega
  .have:=(u.1 f).2.1;simp at h;omega
  simp at G I
  have tail:∀x,J w x->(e.dst=0\/lP e.op)->((decide (e.bZ<(0:Int)))=true->∃g:Bool,Value.bool false=.bool g/\(g=true<->iP c q l e)/\J b x)/\((decide (e.bZ<(0:Int)))=false->
   ((decide (e.bZ>q.ak))=true->∃g:Bool,Value.bool false=.bool g/\(g=true<->iP c q l e)/\J b x)/\((decide (e.bZ>q.ak))=false->
   ((e.bZ !=(0:Int))=true->((e.op !=(6:Int))=true->∃g:Bool,Value.bool false=.bool g/\(g=true<->iP c q l e)/\J b x)/\((e.op !=(6:Int))=false->J w x/\(0<=e.dst/\e.dst<q.ak/\(e.dst=0\/lP e.op)/\0<=e.bZ/\e.bZ<=q.ak/\(e.bZ=0\/e.op=6))))/\
   ((e.bZ !=(0:Int))=false->J w x/\(0<=e.dst/\e.dst<q.ak/\(e.dst=0\/lP e.op)/\0<=e.bZ/\e.bZ<=q.ak/\(e.bZ=0\/e.op=6))))):=by
   intro x H N
   have L:=z.trans H
   refine⟨λh=>bW (λf=>?_) L,λC=>⟨λh=>bW (λf=>?_) L,λF=>⟨λt=>⟨λh=>bW (λf=>?_) L,λM=>⟨H,?_⟩⟩,λt=>⟨H,?_⟩⟩⟩⟩
   .have:=(u.1 f).2.1;simp at h;omega
   .have:=(u.1 f).2.1;simp at h;omega
   .have:=(u.1 f).2.1.2.2.2.2.2;simp at h t;omega
   .simp at C F M;exact⟨G,I,N,C,F,Or.inr M⟩
   .simp at C F t;exact⟨G,I,N,C,F,Or.inl t⟩
  refine⟨λh=>?_,λh=>tail w (J.az _) (Or.inl (by simpa using h))⟩
  refine(rh e.op w ⟨V,V⟩).aH (J.az _) bE λv x D H _=>⟨v,rfl,λy=>bW (λf=>?_) (z.trans H),λy=>tail x H (Or.inr (yb D y))⟩
  have:=(u.1 f).2.1.2.2.1
  simp at h
  rcases this with s|s
  .exact h s
  .exact nb D y s
 .rintro x ⟨H,f2⟩
  refine dU (n:=e.args.length) (oh X.gT) (λae R=>J w R/\∀G∈e.args.take ae,0<=G/\G<q.ak) ⟨H,aL⟩ ?_
  rintro ae I aQ μ hn ⟨y,aj⟩ aO
  have aa:=z.trans y
  refine dit (λh=>?_) λh=>?_
  .let⟨G,t⟩:=cG e.args ae
   refine⟨V,V,G,by simpa using(X.ext aa).aF t,λs=>bW (λf=>?_) aa,λs=>⟨λC=>bW (λf=>?_) aa,λC=>aO V _ ⟨y,bB t aj ?_⟩⟩⟩
   .have:=(u.1 f).2.2.1 G (aq t);simp at s;omega
   .have:=(u.1 f).2.2.1 G (aq t);simp at C;omega
   .simp at s C;omega
  .have ay:∀G∈e.args,0<=G/\G<q.ak:=db V aj
   intro m7 F
   have s8:F.size=I.size+1:=by simp[F,m7,aw]
   have C:J I F:=((J.az I).aK _).ah (ad _) _ _
   have ac:=aa.trans C
   have al:af F I.size 0=some (.func (.func 148) #[] #[vp A.size 0,vp B.size 0]):=
    (cE.ah (m:=m7) (o:=0) (r:=[.fn (.func 148) #[] #[vp A.size 0,vp B.size 0]]) (cE.push I _ _)).cg 0
   have aT:=y.size
   clear_value F
   have aK:∀N,J F N->∀t,dt cp 148 [vi t,vp A.size 0,vp B.size 0] N ((l:Int)+1<=t/\t<=(q.dq.length:Int) -1):=λN s t=>by
    rw[<-aE];exact xQ (am.ext (y.trans (C.trans s))|>.cg 0) (an.ext (y.trans (C.trans s))|>.cg 4)
   have jN:(e.eM.length=0\/e.op=21)->aN cp 78 [O.v P,.func (.func 149) #[] #[vp I.size 0]] F λaP U=>
    eG [E.size,b.size] F U/\∃ag:Bool,aP=vb ag/\(ag=true->∃g:Bool,Value.bool false=.bool g/\(g=true<->iP c q l e)/\J b U)/\
    (ag=false->∃L:Fn×Array Value×Array Value,af U I.size 0=some (.func L.1 L.2.1 L.2.2)/\
    aN cp 150 [.agg #[O.v d,O.v W],.agg #[vi e.op,vi e.dst,vi e.bP,vi e.bZ,O.v K,O.v P],.func L.1 L.2.1 L.2.2] U λab M=>
    eG [E.size,b.size] U M/\∃T:Bool,ab=vb T/\((!T)=true->∃g:Bool,Value.bool false=.bool g/\(g=true<->iP c q l e)/\J b M)/\
    ((!T)=false->aN cp 151 [.agg #[O.v d,O.v W],.agg #[vi e.op,vi e.dst,vi e.bP,vi e.bZ,O.v K,O.v P]] M λai S=>
    eG [E.size,b.size] M S/\∃Y:Int,∃Z:Int,ai=.tuple #[vi Y,vi Z]/\
    ((decide ((K.len:Int)>=Y))=true->∃g:Bool,Value.bool (decide ((K.len:Int)<=Z))=.bool g/\(g=true<->iP c q l e)/\J b S)/\
    ((decide ((K.len:Int)>=Y))=false->∃g:Bool,Value.bool false=.bool g/\(g=true<->iP c q l e)/\J b S))):=by
    intro aF
    have hl:∀v∈[E.size,b.size],v<F.size:=bE
    refine(iV (hj.ext ac) 149 #[] #[vp I.size 0] bh (λt=>¬((l:Int)+1<=t/\t<=(Q.len:Int) -1)) (λt _ N s=>JE (am.ext (y.trans (C.trans s))|>.cg 0) (an.ext (y.trans (C.trans s))|>.cg 4) (s.af al))).aH (J.az _) hl ?_
    intro v N D s _
    have M:=ac.trans s
    refine⟨v,rfl,λaD=>bW (λf=>?_) M,λaz=>?_⟩
    .let⟨t,ab,g⟩:=D.1 aD
     have:=(u.1 f).2.2.2.2.1 t ab
     exact g V
    have aG:∀t∈e.eM,(l:Int)+1<=t/\t<=(q.dq.length:Int) -1:=λt ab=>by
     rcases dR ((l:Int)+1<=t/\t<=(Q.len:Int) -1)with h|h
     .omega
     .exact absurd (D.2 ⟨t,ab,h⟩) (by simp[az])
    refine⟨(.func 148,#[],#[vp A.size 0,vp B.size 0]),s.af al,?_⟩
    have ao:∀v∈[E.size,b.size],v<N.size:=λv D=>s.lt (hl v D)
    refine(HL (cx.ext M hd) ht (pw.ext M hf) (X.ext M) (hj.ext M) 148 #[] #[vp A.size 0,vp B.size 0] bh (λt=>(l:Int)+1<=t/\t<=(q.dq.length:Int) -1) (λR g=>by simpa using aK R (s.trans g) e.bP)).aH (J.az _) ao ?_
    intro b2 aM ak L _
    have Z:=M.trans L
    refine⟨b2,rfl,λh=>bW (λf=>nb ak h (u.1 f).2.2.2.2.2.1) Z,λh=>?_⟩
    have au:=yb ak h
    have aH:∀v∈[E.size,b.size],v<aM.size:=λv D=>L.lt (ao v D)
    refine(KV (cx.ext Z hd) ht (pw.ext Z hf) (a:=K) (j:=P) au).aH (J.az _) aH ?_
    rintro _ aU ⟨lo,Y,rfl,R,ai⟩
    have av:=Z.trans ai
    have aJ:∀T S,gX c e T S->T=lo/\S=Y:=λT S g=>by
     unfold gX at R g;repeat' (split at R)
     all_goals simp_all
     all_goals (obtain⟨q1,e1,e2,e3⟩:=R;simp_all)
    refine⟨ai,lo,Y,rfl,λh=>eU ?_ av,λh=>bW (λf=>?_) av⟩
    .rw[u]
     simp only[ar]at h⊢
     refine⟨λg=>⟨f1,f2,ay,aF,aG,au,λT S h2=>?_⟩,λg=>?_⟩
     .obtain⟨rfl,rfl⟩:=aJ T S h2;omega
     .have:=g.2.2.2.2.2.2 lo Y R;omega
    .have:=(u.1 f).2.2.2.2.2.2 lo Y R
     simp at h;omega
   refine⟨λs=>⟨λL=>bW (λf=>?_) ac,λL=>jN (Or.inr (by simpa using L))⟩,λs=>jN (Or.inl (by simp at s;omega))⟩
   have:=(u.1 f).2.2.2.1
   simp at s L;omega
def DO{ah:O}(v:fw b d ah c):dt cp 43 [.agg #[O.v d,O.v ah]] b (nl c):=by
 apply ym;simp -zeta only[aC,aB];intro F;have ac:J b F:=(J.az b).aK _;have s1:F.size=b.size+1:=by simp[F]
 clear_value F;refine(FO (v.ext ac)).aH (J.az _) bE ?_;rintro _ M ⟨d',aj,ai,rfl,Y,an,H⟩;refine⟨H,d',aj,ai,rfl,?_⟩;intro m3 t;have s4:t.size=M.size+1:=by simp[t,m3,aw]
 have W:J M t:=((J.az M).aK _).ah (ad _) _ _;have af:J b t:=(ac.trans H).trans W;have:=H.size;have aI:=v.cF.len;have aJ:=v.cF.gT;clear_value t;refine⟨λhn=>bW (λf=>nb Y hn ⟨f.nP,λq x=>(f.dz q x).cR⟩) af,λhy=>?_⟩;let⟨D,am⟩:=yb Y hy;obtain⟨rfl,hf⟩:=an (by simpa using hy);refine dU (n:=c.cF.length) V (λQ z=>J t z/\∀q∈c.cF.take Q,Ht c q) ⟨J.az _,aL⟩ ?_;rintro Q N ay μ hn ⟨A,X⟩ ax
 have K:=af.trans A;refine dit (λaG=>?_) λaE=>?_
 .let⟨q,x⟩:=cG c.cF Q;let⟨R,ag,S,ha,hl,w,g0,g1,g2,g3,g4⟩:=(v.ext K).cF.aF x;refine⟨V,V,R,by simpa using g0,ag,by simpa using g1,_,by simpa using g2,_,by simpa using g3,S,by simpa using g4,?_⟩;intro m6 u;have s7:u.size=N.size+1:=by simp[u,m6,aw]
  have r:J N u:=((J.az N).aK _).ah (ad _) _ _;have s:=K.trans r;have az:=ha.len;have aA:=w.len;have aD:=w.gT;have o:=aq x;clear_value u;refine⟨λe=>bW (λf=>?_) s,λT=>⟨λe=>bW (λf=>?_) s,λe2=>⟨λe=>bW (λf=>?_) s,λe3=>⟨λe=>bW (λf=>?_) s,λe4=>?_⟩⟩⟩⟩
  .have:=(f.dz q o).ak;simp at e;split at e<;>omega
  .have:=(f.dz q o).ak;simp at e;omega
  .have:=(f.dz q o).len;simp at e;omega
  .have:=(f.dz q o).len;simp at e;omega
  have ab:(q.params.length:Int)<=q.ak/\1<=q.ak/\q.ak<=2000:=by
   simp at T e2;split at T<;>omega
  have al:1<=q.dq.length/\q.dq.length<=2000:=by simp at e3 e4;omega
  let⟨E,I⟩:=cG q.dq (q.dq.length -1);obtain⟨a0,j0,_,_,L,_⟩:=(fg.ext r w).aF I;refine⟨λz=>J u z/\(E.op=23\/E.op=24),?_,?_⟩
  .have e:cT ((S.len:Int) -1)=((q.dq.length -1:Nat):Int):=by rw[aQ V V];omega
   rw[e];refine⟨V,V,E.op,by simpa using L,λg=>⟨λh=>bW (λf=>?_) s,λh=>⟨J.az _,Or.inr (by simpa using h)⟩⟩,λg=>⟨J.az _,Or.inl (by simpa using g)⟩⟩;have:=(f.dz q o).MH E I;simp at g h;omega
  .rintro m8 ⟨h8,ak⟩;refine dU (n:=q.dq.length) V (λy z=>J u z/\∀(j:Nat)(h:Instr),j<y->q.dq[j]? =some h->iP c q j h) ⟨h8,λj h C=>V⟩ ?_;rintro y P I2 μ2 hk ⟨m,aa⟩ au;refine dit (λaH=>?_) λaF=>?_
   .let⟨h,g⟩:=cG q.dq y;let⟨xa,xj,ao,ap,L,k1,k2,k3,k4,k5⟩:=(fg.ext (r.trans m) w).aF g;refine⟨V,V,_,by simpa using L,_,by simpa using k1,_,by simpa using k2,_,by simpa using k3,xa,by simpa using k4,xj,by simpa using k5,?_⟩;intro ar G;have aM:G.size=P.size+1:=by simp[G,ar,aw]
    have p:J P G:=((J.az P).aK _).ah (ad _) _ _;have ae:=(s.trans m).trans p;have q1:=m.size;have q2:=A.size;clear_value G;refine(DV (ah:=R) (ax:=ag) (cx.ext ae v.bo) D.types (pw.ext (W.trans (A.trans (r.trans (m.trans p)))) hf) D.len.2 (λU B=>(D.dz U B).1) (fg.ext (r.trans (m.trans p)) w) ab.2.2 (l:=y) (e:=h) (ao.ext p) (ap.ext p)).aH (J.az _) bE ?_;intro b' aK Z U _;refine⟨b',rfl,λe=>bW (λf=>nb Z e ((f.dz q o).dz y h g)) (ae.trans U),λe=>au V _ ⟨m.trans (p.trans U),λj i' C B=>?_⟩⟩;rcases Nat.lt_succ_iff_lt_or_eq.1 C with C|rfl
    .exact aa j i' C B
    .rw[g]at B;simp at B;subst B;exact yb Z e
   .refine ax V _ ⟨A.trans (r.trans m),bB x X ⟨am q o,ab,al,λj h g=>aa j h (oh (av g)) g,λh g=>?_⟩⟩
    rw[I]at g;simp at g;subst g;exact ak
 .exact iO ⟨D,db V X⟩ K
end
section
variable{m:E}{s:O}{k:Nat}{γ σ:Type}
def Pc(m:E)(a:List Ce)(c:bM):Prop:=∃f,a=[.i c.aP,.i c.j9,.s f]/\ap m f c.aE
def Kk(m:E)(a:List Ce)(f:aX):Prop:=∃r o h,a=[.i f.fE,.i f.pc,.i f.dst,.s r,.s o,.s h]/\ap m r f.ak/\ap m o f.aR/\ap m h f.ba
abbrev cW(m:E)(s:O)(l:List bM):Prop:=eT m 3 (Pc m) s l
abbrev jy(m:E)(s:O)(l:List aX):Prop:=eT m 6 (Kk m) s l
def Pc.ext{m b:E}(g:J m b)(a:List Ce)(c:bM):Pc m a c->Pc b a c:=λ⟨f,d,e⟩=>⟨f,d,e.ext g⟩
def cW.ext{m b:E}(a:J m b){s:O}{l:List bM}(h:cW m s l):cW b s l:=h.mono a (Pc.ext a)
def Kk.ext{m d:E}(a:J m d)(b:List Ce)(c:aX):Kk m b c->Kk d b c:=λ⟨r,o,h,e,f,g,i⟩=>⟨r,o,h,e,f.ext a,g.ext a,i.ext a⟩
def jy.ext{m b:E}(a:J m b){s:O}{l:List aX}(h:jy m s l):jy b s l:=h.mono a (Kk.ext a)
def cW.aF{l:List bM}(h:cW m s l){x:bM}(c:l[k]? =some x):
 ∃f,ap m f x.aE/\af m s.D (s.off+k*3)=some (vi x.aP)/\af m s.D (s.off+k*3+1)=some (vi x.j9)/\af m s.D (s.off+k*3+2)=some (O.v f):=by
 obtain⟨d,⟨f,rfl,b⟩,a⟩:=h.iB k x c
 exact⟨f,b,a 0 (.i x.aP) rfl,a 1 (.i x.j9) rfl,a 2 (.s f) rfl⟩
def jy.aF{l:List aX}(h:jy m s l){x:aX}(b:l[k]? =some x):
 ∃r o e,ap m r x.ak/\ap m o x.aR/\ap m e x.ba/\af m s.D (s.off+k*6)=some (vi x.fE)/\af m s.D (s.off+k*6+1)=some (vi x.pc)/\af m s.D (s.off+k*6+2)=some (vi x.dst)/\
  af m s.D (s.off+k*6+3)=some (O.v r)/\af m s.D (s.off+k*6+4)=some (O.v o)/\af m s.D (s.off+k*6+5)=some (O.v e):=by
 obtain⟨f,⟨r,o,e,rfl,d,c,a⟩,ju⟩:=h.iB k x b
 exact⟨r,o,e,d,c,a,ju 0 (.i x.fE) rfl,ju 1 (.i x.pc) rfl,ju 2 (.i x.dst) rfl,ju 3 (.s r) rfl,ju 4 (.s o) rfl,ju 5 (.s e) rfl⟩
def _root_.Go.Vc.eT.pA{l:List Int}(h:eT m 1 Ut s l){i:Int}(a:0<=i)(b:i<l.length):af m s.D (s.off+i.toNat*1)=some (vi (aF l i)):=ap.aF h (oB a b)
structure RV(m:E)(mb o:Nat)(d p aT hp fr:O)(im:cO)(s:St):Prop where
 fy:fw m d p im
 bo:af m mb 0=some (O.v d)
 cF:af m mb 1=some (O.v p)
 bV:af m mb o=some (vi s.bV)
 value:af m mb (o+1)=some (vi s.value)
 bu:af m mb (o+2)=some (vi s.bu)
 dV:af m mb (o+3)=some (vi s.dV)
 Z1:af m mb (o+4)=some (O.v aT)
 qZ:af m mb (o+5)=some (O.v hp)
 Ov:af m mb (o+6)=some (O.v fr)
 aT:ap m aT s.aT
 heap:cW m hp s.heap
 ao:jy m fr s.ao
def RV.ext{m f:E}{g o:Nat}{d p aT c b:O}{e:cO}{s:St}(h:RV m g o d p aT c b e s)(a:J m f):RV f g o d p aT c b e s:=
 ⟨h.fy.ext a,a.af h.bo,a.af h.cF,a.af h.bV,a.af h.value,a.af h.bu,a.af h.dV,a.af h.Z1,a.af h.qZ,a.af h.Ov,h.aT.ext a,cW.ext a h.heap,jy.ext a h.ao⟩
def WW(P:Nat->Prop):∀(n:Nat),P n->∃k,P k/\∀j,P j->k<=j:=by
 intro n;induction n using Nat.strongRecOn with
 |_ n e=>
  intro b;rcases dR (∃j,j<n/\P j)with⟨j,a,d⟩|c
  .exact e j a d
  .exact⟨n,b,λj a=>dQ λh=>c ⟨j,V,a⟩⟩
def OY{p:σ}{j:(σ->E->Prop)->(σ->E->Nat)->σ->E->Prop}(J:γ->σ->E->Prop)(ν:γ->Nat)(l:γ)(r:J l p m)
 (q:∀(g:γ)(s:σ)(a:E)(I:σ->E->Prop)(μ:σ->E->Nat),J g s a->(∀b d c,J b d c->ν b<ν g->I d c/\μ d c<μ s a)->j I μ s a):
 ∃(I:σ->E->Prop)(μ:σ->E->Nat),I p m/\∀s a,I s a->j I μ s a:=by
 classical
 let I:σ->E->Prop:=λs m=>∃g,J g s m
 have h:∀s m,I s m->∃k,(∃g,J g s m/\ν g=k)/\∀o,(∃g,J g s m/\ν g=o)->k<=o:=λs m⟨g,i⟩=>WW _ (ν g) ⟨g,i,rfl⟩
 let μ:σ->E->Nat:=λs m=>if e:I s m then Classical.choose (h s m e)else 0
 refine⟨I,μ,⟨l,r⟩,λs a e=>?_⟩
 let⟨g,i,u⟩:=(fL (h s a e)).1
 refine q g s a I μ i λb d c f t=>⟨⟨b,f⟩,?_⟩
 have n:I d c:=⟨b,f⟩
 simp only[μ,SE e,SE n]
 exact nE ((fL (h d c n)).2 _ ⟨b,f,rfl⟩) (u▸t)
def RQ{τ:Type}{i:σ}{j:τ}{h:(σ->τ->E->Prop)->(σ->τ->E->Nat)->σ->τ->E->Prop}(J:γ->σ->τ->E->Prop)(ν:γ->Nat)(k:γ)(n:J k i j m)
 (l:∀(g:γ)(s:σ)(t:τ)(a:E)(I:σ->τ->E->Prop)(μ:σ->τ->E->Nat),J g s t a->(∀f d e c,J f d e c->ν f<ν g->I d e c/\μ d e c<μ s t a)->h I μ s t a):
 ∃(I:σ->τ->E->Prop)(μ:σ->τ->E->Nat),I i j m/\∀s t a,I s t a->h I μ s t a:=by
 let⟨I,μ,o,p⟩:=OY (σ:=σ×τ) (p:=(i,j)) (j:=λI μ b a=>h (λs t=>I (s,t)) (λs t=>μ (s,t)) b.1 b.2 a) (λg b m=>J g b.1 b.2 m) ν k n (λg b a I μ q r=>l g b.1 b.2 a (λs t=>I (s,t)) (λs t=>μ (s,t)) q λf d e c=>r f (d,e) c)
 exact⟨λs t=>I (s,t),λs t=>μ (s,t),o,λs t=>p (s,t)⟩
end
section
variable{m g:E}{s d p a j t o e:O}{b r:List Int}{f:Nat}{K:Value->E->Prop}{c:cO}{x:Instr}
def _root_.Go.Vc.eT.H9(h:eT m 1 Ut s b):fQ m s.D s.off (b.map Ce.i):=λi d a=>by
 rw[cJ]at a;obtain⟨x,c,rfl⟩:=Option.map_eq_some_iff.1 a;have:=ap.aF h c;rw[eR]at this;exact this
def ov(f:Nat)(c:List Value)(m:E)(b:List Int):Prop:=aN cp f c m λv a=>∃s,v=O.v s/\gW m a aA 1 s (b.map Ce.i)/\J m a
def ov.then{c:List Value}(h:ov f c m b)(i:b.length<=1000000000)(e:∀s a,gW m a aA 1 s (b.map Ce.i)->ap a s b->J m a->K (O.v s) a):aN cp f c m K:=
 h.mono λ_ _⟨s,d,a,g⟩=>d▸e s _ a (ap.gA a V) g
def ov.aH{c:List Value}{d:List Nat}(h:ov f c m b)(l:b.length<=1000000000)(i:∀a∈d,a<m.size)(k:∀s a,gW m a aA 1 s (b.map Ce.i)->ap a s b->J m a->K (O.v s) a):aN cp f c m λv a=>eG d m a/\K v a:=
 h.mono λ_ _⟨s,j,e,g⟩=>⟨g.dv i,j▸k s _ e (ap.gA e V) g⟩
def dW(w:Int)(m:E):dt cp 119 [vi w] m (1000<=w):=by
 apply AM;exact eU aL (J.az _)
def iX{a:O}{h:List bM}(j:cW m a h){w:Int}(C: -9223372036854775808<=w/\w<=9223372036854775807):dt cp 130 [O.v a,vi w] m (fY h w):=by
 apply Gz;have z:=j.len;have A:=j.gT;have o:cT ((a.len:Int) -1)=(a.len:Int) -1:=aQ V V;rw[o];have x:cT (w -1000)=w -1000\/(w<1000/\¬(0<=cT (w -1000)/\cT (w -1000)<=(a.len:Int) -1))\/(w<1000/\cT (w -1000)=w -1000+18446744073709551616):=by
  rcases dR (-9223372036854775808<=w -1000)with b|b
  .exact Or.inl (aQ b V)
  .refine Or.inr (Or.inr ⟨V,?_⟩);simp only[cT,IntKind.wrap,IntKind.signed,IntKind.bits];simp;omega
 refine(aY _ _ _ _).then λn D i b=>⟨n,rfl,λu=>?_,λt=>?_⟩
 .refine(dW _ _).then λb2 E l g=>⟨b2,rfl,λs=>?_,λr=>bW (λc=>fb l r c.1) (b.trans g)⟩;have k:=l.1 s;have p:cT (w -1000)=w -1000:=aQ V V;rw[p]at i⊢;have B:=i.1 u;let⟨e,c⟩:=cG h ((w -1000).toNat);obtain⟨f,y,q,_⟩:=(cW.ext (b.trans g) j).aF c;refine⟨V,V,e.aP,q,eU ?_ (b.trans g)⟩;simp only[kG,ar];refine⟨λa=>⟨k,e,c,a⟩,λ⟨_,v,d,a⟩=>?_⟩;unfold ix at d;rw[c]at d;simp at d;subst d;exact a
 .refine bW (λ⟨k,e,c,_⟩=>fb i t ?_) b;have:=av c;unfold ix at this;rw[aQ V V];omega
def LO(a:Int)(m:E):dt cp 68 [vi a] m (mU a):=by
 apply Gy;refine⟨λh=>iO ?_ (J.az _),λh=>⟨λb=>iO ?_ (J.az _),λb=>eU ?_ (J.az _)⟩⟩<;>simp[mU]at* <;>omega
def K6{q:dy}(a:c.cF[x.bP.toNat]? =some q)(k:Nat):ny c x k=true<->(k:Int)∈q.cR:=by
 simp[ny,dO,a,List.any_eq_true]
def zj(c:cO)(x:Instr):Prop:=(x.op=9\/x.op=24)->0<=x.bP/\∃q,c.cF[x.bP.toNat]? =some q
def iP.call{p:dy}{k:Nat}(h:iP c p k x):zj c x:=λe=>by
 have a:=h.op;unfold me at a;rw[ae V,ae V,ae V,ae V,an e]at a;obtain⟨q,b,d,_⟩:=a;exact⟨b,q,d⟩
def rT(h:fw m d p c)(z:zj c x)(a j:O)(k:Nat):
 dt cp 122 [.agg #[O.v d,O.v p],.agg #[vi x.op,vi x.dst,vi x.bP,vi x.bZ,O.v a,O.v j],vi k] m ((x.op=9\/x.op=24)/\ny c x k=true):=by
 apply EE
 simp -zeta only[aC,aB]
 intro o b
 have n:J m b:=((J.az m).aK _).aK _
 have A:∀f∈[o.size,m.size],f<b.size:=by simp[b,o];omega
 have L:=h.cF.len
 clear_value b
 have q:∀e:x.op=9\/x.op=24,(0:Int)<=x.bP/\x.bP<(p.len:Int)/\∃u:O,af b p.D (p.off+Int.toNat x.bP*5+1)=some (O.v u)/\
  aN cp 133 [O.v u,vi k] b λr s=>eG [o.size,m.size] b s/\∃t:Bool,r=vb t/\∃f:Bool,vb t=.bool f/\(f=true<->((x.op=9\/x.op=24)/\ny c x k=true))/\J m s:=λe=>by
  let⟨v,N,l⟩:=z e
  let⟨D,C,E,I,B,K,F,g1,g2,G,H⟩:=(h.ext n).cF.aF l
  have:=av l
  refine⟨v,V,C,g1,(dw B _).aH (J.az _) A λf M y w _=>⟨f,rfl,eU ?_ (n.trans w)⟩⟩
  rw[y,K6 l]
  exact⟨λh=>⟨e,h⟩,λh=>h.2⟩
 refine⟨λi=>q (Or.inl (by simpa using i)),λi=>⟨λg=>q (Or.inr (by simpa using g)),λg=>bW (λ⟨e,_⟩=>?_) n⟩⟩
 simp at i g;omega
def Ij(a:Int)(m:E):dt cp 121 [vi a] m (a=6\/a=9\/a=10\/a=11):=by
 apply se;refine⟨λh=>iO ?_ (J.az _),λh=>⟨λb=>iO ?_ (J.az _),λb=>⟨λc=>iO ?_ (J.az _),λc=>eU ?_ (J.az _)⟩⟩⟩<;>simp at* <;>omega
def js(c:cO)(x:Instr)(n:Nat):List Int:=iE c x 0 (x.args.take n)
def vo(c:cO)(x:Instr):∀(b r:List Int)(k:Nat),iE c x k (b++r)=iE c x k b++iE c x (k+b.length) r
 |[],r,k=>by simp[iE]
 |a::b,r,k=>by
  have:=vo c x b r (k+1);simp only[cZ,iE,this,aZ];have e:k+(b.length+1)=k+1+b.length:=V;rw[e];split<;>simp
def tO(c:cO)(x:Instr):∀(b:List Int)(k:Nat),(iE c x k b).length<=b.length
 |[],k=>ad _
 |a::b,k=>by
  have:=tO c x b (k+1);simp only[iE];split<;>simp<;>omega
def IW(c:cO)(x:Instr):(bT c x).length<=x.args.length:=by
 unfold bT;split
 .exact ad _
 split
 .simp;omega
 split
 .exact tO _ _ _ _
 .simp
def J.tw{a c:E}(f:J g a)(h:J g c){b:List Nat}(d:∀x∈b,x<g.size):eG b a c:=λx e=>by rw[f.same x (d x e),h.same x (d x e)]
def nN{v:Int}{K:O->E->Prop}(c:gW g m aA 1 s (b.map Ce.i))(h:J g m)(n:b.length<1000000000)
 (f:∀r a,gW g a aA 1 r ((b++[v]).map Ce.i)->J g a->K r a):
 jL (m.push (.cells (bt [.i v]) aA)) aA [.i (0:Int)] 8 s (O.mk m.size 0 1 1) K:=by
 have o:s.len=b.length:=by have:=c.len;simp at this;omega
 refine gW.append (zs:=[.i 0]) (d:=[.i v]) (c.ext (J.push _ _)) (h.aK _) rfl (cE.push m _ _).iB bE λr a d e i j k l=>?_
 exact f r a (by simpa using d) e
def Ka(aa:fw m d p c)(hc:zj c x)(I:ap m a x.args)(ak:x.args.length<=1000000)(ab:(x.op=16\/x.op=17)->1<=x.args.length):
 ov 70 [.agg #[O.v d,O.v p],.agg #[vi x.op,vi x.dst,vi x.bP,vi x.bZ,O.v a,O.v j]] m (bT c x):=by
 apply EQ
 simp -zeta only[aC,aB]
 intro C f Q
 have B:J m f:=((J.az m).aK _).aK _
 have s2:f.size=m.size+2:=by simp[f,C]
 have h3:J f Q:=(J.az f).aK _
 have u:gW f Q aA 1 (.mk f.size 0 0 0) []:=gW.new (J.az f) aA 1 [] 0 aL
 have s1:C.size=m.size+1:=by simp[C]
 have ah:=I.len
 have w:∀v∈[C.size,m.size],v<f.size:=λv t=>by simp at t;omega
 clear_value Q
 clear_value f
 have K:∀{o s b},gW f o aA 1 s b->gW m o aA 1 s b:=λu=>u.cy B.size
 refine⟨λZ o=>J f o/\gW f o aA 1 (.mk f.size 0 0 0) []/\(Z=true<->(x.op=15\/x.op=6\/x.op=10\/x.op=11\/x.op=18\/x.op=23\/x.op=9\/x.op=24)),?_,?_⟩
 .refine(Ij _ _).aH h3 w λv D t g i=>⟨v,rfl,λM=>⟨i,u.ext g,by have:=t.1 M;simp;omega⟩,λL=>?_⟩
  have h:=fb t L
  refine⟨λe=>⟨i,u.ext g,by simp at e;simp;omega⟩,λH=>⟨λe=>⟨i,u.ext g,by simp at e;simp;omega⟩,λq=>⟨λe=>⟨i,u.ext g,by simp at e;simp;omega⟩,λA=>⟨i,u.ext g,by simp at H q A;simp;omega⟩⟩⟩⟩
 .rintro Z D ⟨g,N,W⟩
  refine⟨λad=>?_,λac=>?_⟩
  .have hT:=W.1 ad
   refine eA (n:=x.args.length) V (λk s o=>J f o/\gW f o aA 1 s ((if x.op=9\/x.op=24 then js c x k else x.args.take k).map Ce.i)) ⟨g,by simpa[js,iE]using N⟩ ?_
   rintro k s m5 ag μ hk ⟨R,P⟩ Y
   have X:=B.trans R
   refine dit (λaj=>?_) λai=>?_
   .let⟨y,h⟩:=cG x.args k
    have U:js c x (k+1)=js c x k++iE c x k [y]:=by
     unfold js;rw[aU h,vo];simp;congr 2;omega
    refine(rT (aa.ext X) hc a j k).aH R w λv m6 t S F=>⟨v,rfl,λM=>?_,λL=>?_⟩
    .have G:=nb t M
     refine⟨V,V,y,by simpa using(I.ext (B.trans F)).aF h,?_⟩
     intro m7
     have T:(if x.op=9\/x.op=24 then js c x k else x.args.take k).length<=k:=by
      split
      .refine bH (tO _ _ _ _) ?_;simp;omega
      .simp;omega
     refine nN (P.ext S) F V λr m8 z E=>?_
     refine⟨J.tw (F.aK _) E w,Y V _ _ ⟨E,?_⟩⟩
     by_cases e:x.op=9\/x.op=24
     .rw[an e]at z⊢
      rw[U]
      have:iE c x k [y]=[y]:=by
       simp only[iE];rw[ae (λw=>G ⟨e,w⟩)]
      rw[this];exact z
     .rw[ae e]at z⊢
      rw[aU h];exact z
    .have G:=yb t L
     refine Y V _ _ ⟨F,?_⟩
     have T:=P.ext S
     rw[an G.1]at T⊢
     rw[U]
     have:iE c x k [y]=[]:=by
      simp only[iE];rw[an G.2]
     rw[this,dY];exact T
   .refine⟨s,rfl,?_,X⟩
    have q:bT c x=if x.op=9\/x.op=24 then js c x k else x.args.take k:=by
     have A:x.args.take k=x.args:=bY V;unfold bT js;rw[A];by_cases e:x.op=9\/x.op=24
     .rw[ae V,ae V,an e,an e]
     .rw[an V,ae e]
    rw[q];exact K P
  .have hT:¬(x.op=15\/x.op=6\/x.op=10\/x.op=11\/x.op=18\/x.op=23\/x.op=9\/x.op=24):=λe=>by have:=W.2 e;rw[ac]at this;simp at this
   have i:=B.trans g
   have lK:∀e:x.op=16\/x.op=17,(0:Int)<=(0:Int)/\(0:Int)<(a.len:Int)/\∃F:Int,af D a.D (a.off+Int.toNat (0:Int)*1)=some (vi F)/\
    jL (D.push (.cells (bt [.i F]) 3)) 3 [.i (0:Int)] 8 (O.mk f.size 0 0 0) (O.mk D.size 0 1 1) λL k=>eG [C.size,m.size] (D.push (.cells (bt [.i F]) 3)) k/\∃s,O.v L=O.v s/\gW m k aA 1 s ((bT c x).map Ce.i)/\J m k:=λe=>by
    have M:=ab e
    let⟨y,h⟩:=cG x.args 0
    refine⟨V,V,y,by simpa using(I.ext i).aF h,nN (b:=[]) N g aL λr m8 z E=>⟨J.tw (g.aK _) E w,r,rfl,?_,B.trans E⟩⟩
    have q:bT c x=[y]:=by
     unfold bT;rw[ae V,an e];cases G:x.args with
     |nil=>rw[G]at h;simp at h
     |cons P b=>rw[G]at h;simp at h;subst h;rfl
    rw[q];exact K z
   refine⟨λe=>lK (Or.inl (by simpa using e)),λH=>⟨λe=>lK (Or.inr (by simpa using e)),λq=>⟨_,rfl,?_,i⟩⟩⟩
   have A:bT c x=[]:=by
    simp at H q;unfold bT;rw[ae V,ae V,ae V]
   rw[A];exact K N
def gS(c:ap m s b)(l:b.length<=1000000000):ov 66 [O.v s] m b:=by
 apply nB;intro d;have a:J m d:=(J.az m).aK _;have g:gW m d aA 1 (.mk m.size 0 0 0) []:=gW.new (J.az m) aA 1 [] 0 aL;have f:=c.len;refine gW.append (zs:=[.i 0]) (d:=b.map Ce.i) g a (by simp[f]) (c.ext a).H9 bE λr n a e h i j k=>⟨r,rfl,by simpa using a,e⟩
def LH(h:ap m s b)(c:ap m t r)(p:b.length+r.length<=1000000000):ov 187 [O.v s,O.v t] m (b++r):=by
 apply uG;refine(gS h V).then V λq w d e a=>⟨q,rfl,?_⟩;have i:=c.len;have o:=e.len;refine gW.append (zs:=[.i 0]) (d:=r.map Ce.i) d a (by simp[i]) (c.ext a).H9 V λu v f g j k l n=>⟨u,rfl,by simpa using f,g⟩
def mj(d:ap m s b):dt cp 128 [O.v s] m (RZ b):=by
 apply Ek;have g:=d.len;refine dU (n:=b.length) (g▸d.gT) (λk a=>J m a/\∀y∈b.take k,y=0) ⟨J.az _,aL⟩ ?_;rintro k o I μ l ⟨a,f⟩ j
 refine⟨λh=>?_,λh=>iO (db (by simp at h;omega) f) a⟩;simp only[ar]at h;let⟨x,e⟩:=cG b k;refine⟨V,V,x,by simpa using a.af (d.aF e),λc=>bW (λi=>?_) a,λc=>j V _ ⟨a,bB e f (by simpa using c)⟩⟩;have:=i x (aq e);simp at c;omega
def AY(d:ap m s b):dt cp 123 [O.v s] m (∀o∈b,0<=o):=by
 apply wA;have g:=d.len;refine dU (n:=b.length) (g▸d.gT) (λk a=>J m a/\∀y∈b.take k,0<=y) ⟨J.az _,aL⟩ ?_;rintro k p I μ l ⟨a,f⟩ j
 refine⟨λh=>?_,λh=>iO (db (by simp at h;omega) f) a⟩;simp only[ar]at h;let⟨x,e⟩:=cG b k;refine⟨V,V,x,by simpa using a.af (d.aF e),λc=>bW (λi=>?_) a,λc=>j V _ ⟨a,bB e f (by simpa using c)⟩⟩;have:=i x (aq e);simp at c;omega
def qG(f:ap m s b)(j:ap m t r):dt cp 182 [O.v s,O.v t] m (b=r):=by
 apply CX;have l:=f.len;have q:=j.len;refine⟨λh=>bW (λe=>by subst e;simp at h;omega) (J.az _),λh=>?_⟩;simp at h;refine dU (n:=b.length) (l▸f.gT) (λk a=>J m a/\b.take k=r.take k) ⟨J.az _,aL⟩ ?_;rintro k u I μ p ⟨c,i⟩ o
 refine⟨λh=>?_,λh=>iO (by simp at h;rwa[bY V,bY V]at i) c⟩;simp only[ar]at h;let⟨x,g⟩:=cG b k;let⟨y,d⟩:=cG r k;refine⟨V,V,x,by simpa using c.af (f.aF g),V,V,y,by simpa using c.af (j.aF d),λa=>bW (λe=>?_) c,λa=>o V _ ⟨c,?_⟩⟩
 .subst e;rw[g]at d;simp at d;simp at a;exact a d
 .rw[aU g,aU d,i];simp at a;rw[a]
abbrev fv(f:aX)(r o h:O):Value:=.agg #[vi f.fE,vi f.pc,vi f.dst,O.v r,O.v o,O.v h]
abbrev xv(x:Instr)(a j:O):Value:=.agg #[vi x.op,vi x.dst,vi x.bP,vi x.bZ,O.v a,O.v j]
def Ej{f:aX}{r:O}(t:ap m r f.ak)(g:ap m a x.args)(C:∀y∈x.args,0<=y/\y<f.ak.length):
 dt cp 125 [fv f r o e,xv x a j] m (∀y∈x.args,aF f.ak y<1000):=by
 apply yF
 simp -zeta only[aC,aB]
 intro w b
 have v:J m b:=((J.az m).aK _).aK _
 have D:∀d∈[w.size,m.size],d<b.size:=by simp[b,w];omega
 have z:=g.len
 have K:=t.len
 clear_value b
 refine dU (n:=x.args.length) (z▸g.gT) (λl c=>J b c/\∀y∈x.args.take l,aF f.ak y<1000) ⟨J.az _,aL⟩ ?_
 rintro l L I μ H ⟨u,s⟩ F
 have i:=v.trans u
 refine⟨λh=>?_,λh=>iO (db (by simp at h;omega) s) i⟩
 simp only[ar]at h
 let⟨y,c⟩:=cG x.args l
 have k:=C y (aq c)
 refine⟨V,V,y,by simpa using i.af (g.aF c),k.1,V,aF f.ak y,by simpa using i.af (t.pA k.1 k.2),?_⟩
 refine(dW _ _).aH u D λd M q G p=>⟨d,rfl,λB=>bW (λE=>?_) (v.trans p),λA=>F V _ ⟨p,bB c s ?_⟩⟩
 .have:=E y (aq c);have:=q.1 B;omega
 .have:=fb q A;omega
def oU(b r:List Int):kV (b++r)=kV b++kV r:=by simp[kV]
def nO(b:List Int):(kV b).length<=b.length:=List.length_filter_le _ _
def oI(f:ap m s b)(A:b.length<=100000000):ov 181 [O.v s] m (kV b):=by
 apply yR;intro g;have p:J m g:=(J.az m).aK _;have u:gW m g aA 1 (.mk m.size 0 0 0) []:=gW.new (J.az m) aA 1 [] 0 aL;have z:=f.len;clear_value g;refine eA (n:=b.length) V (λk s a=>J m a/\gW m a aA 1 s ((kV (b.take k)).map Ce.i)) ⟨p,by simpa[kV]using u⟩ ?_;rintro k s B I μ y ⟨d,c⟩ j
 refine dit (λo=>?_) λo=>?_
 .let⟨x,e⟩:=cG b k;refine⟨V,V,x,by simpa using d.af (f.aF e),?_⟩;refine(dW _ _).then λl C h a=>⟨l,rfl,λt=>?_,λq=>?_⟩
  .have i:=d.trans a;refine⟨V,V,x,by simpa using i.af (f.aF e),?_⟩;intro D;refine nN (c.ext a) i (by have:=nO (b.take k);simp at this;omega) λr E v w=>j V _ _ ⟨w,?_⟩
   rw[aU e,oU];have:kV [x]=[x]:=by simp[kV,h.1 t]
   rw[this];exact v
  .refine j V _ _ ⟨d.trans a,?_⟩
   rw[aU e,oU];have:kV [x]=[]:=by simp[kV];have:=fb h q;omega
   rw[this,dY];exact c.ext a
 .rw[bY V]at c;exact⟨s,rfl,c,d⟩
def rW{f:aX}{r:O}(l:ap m r f.ak)(p:ap m s b)(x:∀y∈b,0<=y/\y<f.ak.length)(G:b.length<=100000000):
 ov 183 [fv f r o e,O.v s] m (cL f b):=by
 apply E8
 simp -zeta only[aC,aB]
 intro a j
 have q:J m a:=(J.az m).aK _
 have w:J a j:=(J.az a).aK _
 have A:gW a j aA 1 (.mk a.size 0 0 0) []:=gW.new (J.az a) aA 1 [] 0 aL
 have z:∀u∈[m.size],u<a.size:=by simp[a]
 have F:=p.len
 have E:=l.len
 clear_value j
 clear_value a
 refine eA (n:=b.length) V (λk s c=>J a c/\gW a c aA 1 s ((cL f (b.take k)).map Ce.i)) ⟨w,by simpa[cL]using A⟩ ?_
 rintro k s H I μ D ⟨d,c⟩ B
 have g:=q.trans d
 refine dit (λv=>?_) λv=>?_
 .let⟨y,h⟩:=cG b k
  have i:=x y (aq h)
  refine⟨V,V,y,by simpa using g.af (p.aF h),i.1,V,aF f.ak y,by simpa using g.af (l.pA i.1 i.2),?_⟩
  intro K
  refine nN c d (by simp[cL];omega) λM L C t=>⟨J.tw (d.aK _) t z,B V _ _ ⟨t,?_⟩⟩
  rw[aU h]
  simpa[cL]using C
 .rw[bY V]at c
  exact⟨s,rfl,c.cy q.size,g⟩
end
section
variable{g:E}{b:aX}{t v d p h u j:O}{s:St}{c:List Int}{q:Nat}{k:cO}{w:Int}{e:Nat->Int}{x:Instr}
def IF{e:O}(Q:ap g t b.ak)(ho:ap g v b.aR){s:O}(D:ap g s c)(ad:∀y∈c,0<=y/\y<b.ak.length)(am:b.ak.length=b.aR.length)(ay:b.aR.length<=1000000)(aw:c.length<=1000000)
 (M:∀w∈b.aR,-1000000000<=w/\w<=1000000000):ov 69 [fv b t v e,O.v s] g (bC b.ak b.aR c):=by
 apply CS
 simp -zeta only[aC,aB]
 intro p
 have E:J g p:=(J.az g).aK _
 have H:∀G∈[g.size],G<p.size:=by simp[p]
 have ax:=D.len
 have av:=Q.len
 clear_value p
 refine(gS (ho.ext E) V).aH V H λx m2 o2 i2 Y=>⟨x,rfl,?_⟩
 have P:=i2.len
 have kK:∀(d F aR:List Int),bC b.ak aR (d++F)=bC b.ak (bC b.ak aR d) F:=by
  intro d;induction d with
  |nil=>intro F aR;rfl
  |cons y d k=>intro F aR;simp only[cZ,bC,k]
 have lo:∀(d aR:List Int)(A:Int),(∀w∈aR,A<=w)->∀w∈bC b.ak aR d,A -d.length<=w:=by
  intro d;induction d with
  |nil=>intro aR A h w q;have:=h w q;simp;omega
  |cons y d k=>
   intro aR A h w q;simp only[bC]at q;have:=k _ (A -1) (λu j=>by
    split at j
    .rcases dR (y.toNat<aR.length)with B|B
     .rcases pG j with j|j
      .have:=h _ (iy (i:=y.toNat) (a:=aF aR y) (by obtain⟨C,z⟩:=dB B;rw[Hx z];exact z));omega
      .have:=h u j;omega
     .have z:gR aR y (aF aR y -1)=aR:=by unfold gR;rw[rH V]
      rw[z]at j;have:=h u j;omega
    .have:=h u j;omega) w q
   simp only[aZ];omega
 refine dU (n:=c.length) V (λk j=>J p j/\gW p j aA 1 x ((bC b.ak b.aR (c.take k)).map Ce.i)) ⟨Y,o2⟩ ?_
 rintro k m3 aj μ hk ⟨R,C⟩ U
 have K:=E.trans R
 refine dit (λh=>?_) λh=>?_
 .let⟨y,u⟩:=cG c k
  have j:=ad y (aq u)
  have ao:=j7 b.ak (c.take k) b.aR
  refine⟨V,V,y,by simpa using K.af (D.aF u),j.1,V,aF b.ak y,by simpa using K.af (Q.pA j.1 j.2),?_⟩
  refine(dW _ _).aH R H λG T N L B=>⟨G,rfl,λab=>?_,λZ=>?_⟩
  .have S:=E.trans B
   have I:=C.ext L
   have i4:ap T x (bC b.ak b.aR (c.take k)):=ap.gA I V
   refine⟨V,V,y,by simpa using S.af (D.aF u),V,V,y,by simpa using S.af (D.aF u),j.1,V,aF (bC b.ak b.aR (c.take k)) y,i4.pA j.1 V,j.1,V,?_⟩
   have au:=lo (c.take k) b.aR (-1000000000) (λw q=>(M w q).1) _ (fx (l:=bC b.ak b.aR (c.take k)) j.1 V)
   have ak:aF (bC b.ak b.aR (c.take k)) y<=1000000000:=by
    let⟨q',ai,al⟩:=kY (c.take k) b.aR y.toNat _ (oB (l:=bC b.ak b.aR (c.take k)) j.1 V);have:=(M q' (aq ai)).2;omega
   have ar:(c.take k).length<=1000000:=bE
   rw[aQ V V]
   rcases I.aF with ag|⟨q,X,tail,z,e2,e3,e4,e5⟩
   .rw[ag]at P;simp at P;omega
   .have ah:x.off=0:=by rw[z];rfl
    have aa:x.D=q:=by rw[z];rfl
    rw[ah,aa]
    have ac:0+y.toNat*1=y.toNat:=V
    rw[ac]
    have af:y.toNat<((bC b.ak b.aR (c.take k)).map Ce.i).length:=bE
    refine⟨e3.fK (by simp only[be];omega),?_⟩
    intro m5
    have W:J p m5:=B.ah e2 _ _
    refine⟨J.tw B W H,U V _ ⟨W,?_⟩⟩
    rw[aU u,kK]
    simp only[bC,an (N.1 ab)]
    refine⟨by rw[dZ,jS,<-dZ (f:=Ce.i)];exact I.len,Or.inr ⟨q,X,tail,z,e2,?_,?_,e5⟩⟩
    .have:=cE.ah (m:=T) (o:=y.toNat) (r:=[.i (aF (bC b.ak b.aR (c.take k)) y -1)]) e3
     have z:jb ((bC b.ak b.aR (c.take k)).map Ce.i++tail) y.toNat [.i (aF (bC b.ak b.aR (c.take k)) y -1)]=(gR (bC b.ak b.aR (c.take k)) y (aF (bC b.ak b.aR (c.take k)) y -1)).map Ce.i++tail:=by
      simp only[jb,gR,tU];rw[Mk _ _ af]
     rw[z]at this;exact this
    .simp only[be,dZ,jS]at e4⊢;exact e4
  .refine U V _ ⟨B,?_⟩
   rw[aU u,kK]
   simp only[bC,ae (fb N Z)]
   exact C.ext L
 .rw[bY V]at C
  exact⟨x,rfl,C.cy E.size,K⟩
def fR{aT t x:O}(a:RV g q 2 d p aT t x k s)(L:1000<=w){c:bM}(j:s.heap[ix w]? =some c):
 aN cp 131 [vp q 0,vi w] g λD v=>∃b,D=.agg #[vi c.aP,vi c.j9,O.v b]/\ap v b c.aE/\J g v:=by
 apply ud (q,0)
 simp -zeta only[aC,aB]
 intro B
 have f:J g B:=(J.az g).aK _
 have l:=cW.ext f a.heap
 let⟨b,G,r,g1,g2⟩:=l.aF j
 have I:=l.len
 have K:=l.gT
 have A:=av j
 unfold ix at A r g1 g2
 have e:cT (w -1000)=w -1000:=aQ V V
 rw[e]
 refine⟨t,f.af a.qZ,V,V,c.aP,r,c.j9,g1,b,g2,?_⟩
 intro C
 have m:J g C:=f.ah (ad _) _ _
 let⟨o,y,M,N,u⟩:=(cW.ext m a.heap).aF j
 unfold ix at u
 have z:o=b:=by
  have F:=f.af (a.qZ);obtain⟨E,H,_,_,n⟩:=a.heap.aF j;unfold ix at n;have h:=f.af n;have i:=m.af n;rw[g2]at h;rw[u]at i;simp at h i;rw[O.BA]at h i;rw[h,i]
 subst z
 exact⟨o,rfl,y,m⟩
def uF{aT L D:O}(C:RV g q 2 d p aT L D k s)(G:fN s.heap e){B:O}(o:ap g B c)(I:∀w∈c,fY s.heap w)(Y:c.length<=1000000):
 dt cp 180 [vp q 0,O.v B] g (lj s.heap c):=by
 apply rV (q,0)
 have X:=o.len
 refine dU (n:=c.length) V (λr a=>J g a/\∀w∈c.take r,1000<=w->(aM s.heap w).aP+eC c (ix w)<=999999) ⟨J.az _,aL⟩ ?_
 rintro r Z P μ T ⟨y,v⟩ N
 refine⟨λh=>?_,λh=>iO (db (by simp at h;omega) v) y⟩
 simp only[ar]at h
 let⟨x,l⟩:=cG c r
 have m:=I x (aq l)
 have M:=il m.1
 refine eA (n:=c.length) V (λj(z:Int) a=>J g a/\z=eC (c.take j) (ix x)) ⟨y,by simp[eC]⟩ ?_
 rintro j z m2 Q μ2 S ⟨f,rfl⟩ A
 refine dit (λE=>?_) λE=>?_
 .let⟨u,t⟩:=cG c j
  have K:=ku (c.take j) (ix x)
  have H:=iD (c.take j) (ix x)
  have F:(c.take j).length<=1000000:=bE
  have i:eC (c.take (j+1)) (ix x)=eC (c.take j) (ix x)+if u=x then 1 else 0:=by
   rw[aU t,lT];simp only[eC,M];omega
  refine⟨V,V,u,by simpa using f.af (o.aF t),V,V,x,by simpa using f.af (o.aF l),λa=>A V _ _ ⟨f,?_⟩,λa=>A V _ _ ⟨f,?_⟩⟩
  .simp at a;rw[i,an a];exact aQ V V
  .simp at a;rw[i,ae a];omega
 .rw[bY V]
  have K:=ku c (ix x)
  have H:=iD c (ix x)
  let⟨u,W⟩:=bS m
  have U:=(G.cell _ (aq u)).hi
  refine⟨V,V,x,by simpa using f.af (o.aF l),?_⟩
  refine(fR (C.ext f) m.1 u).mono ?_
  rintro _ m3 ⟨b,rfl,R,a⟩
  have t:cT ((aM s.heap x).aP+eC c (ix x))=(aM s.heap x).aP+eC c (ix x):=aQ V V
  refine⟨_,_,_,rfl,λi=>bW (λF=>?_) (f.trans a),λi=>N V _ ⟨f.trans a,bB l v λ_=>?_⟩⟩
  .have:=F x (aq l) m.1
   rw[t]at i;simp at i;omega
  .rw[t]at i;simp at i;omega
def sY{h:List bM}:lj h (kV c)<->lj h c:=by
 unfold lj;constructor
 .intro b w d a;have:=b w (lC.2 ⟨d,a⟩) a;rwa[vV]at this
 .intro b w d a;rw[vV];exact b w (lC.1 d).1 a
def UJ{s:O}(h:ap g s c)(p:1<=c.length):ap g (O.cut s 1 s.len 1) (c.drop 1):=by
 have b:=h.len;have i:=h.cap;have l:=h.gT;cases s with
 |nil=>simp at b;omega
 |zC d v a=>simp at b;omega
 |mk d v r o=>
  simp at b i l;refine⟨by simp[O.cut];omega,by simp[O.cut];omega,by simp[O.cut];omega,λn x a=>?_⟩;rw[rY]at a;have q:=av a;let⟨f,j,ju⟩:=h.iB (1+n) x a;refine⟨f,j,λm e k=>?_⟩;have:=ju m e k;simp only[O.cut,O.jB,O.mV]at this⊢;rw[ae V];rw[<-this];congr 1;omega
def iA.pK(h:iA k b){t:Int}(d:0<=t)(e:t<b.ak.length)(f:∀w∈b.ak,w<=9223372036854775807): -9223372036854775808<=aF b.ak t/\aF b.ak t<=9223372036854775807:=by
 have c:=fx (l:=b.ak) d e;refine⟨?_,f _ c⟩;rcases h.RK _ c with a|a
 .have:=a.1;omega
 .omega
def JZ{aT hp fr:O}(z:RV g q 2 d p aT hp fr k s)(M:fN s.heap e)(P:ap g t b.ak)(N:ap g h b.ba)(r:ap g u x.args)
 (L:iA k b)(ai:∀w∈b.ak,w<=9223372036854775807)(Z:∀l∈x.args,0<=l/\l<b.ak.length)(ax:1<=x.args.length/\x.args.length<=4)(ay:x.op=16\/x.op=17):
 dt cp 132 [vp q 0,fv b t v h,xv x u j] g (Fk s.heap b x):=by
 apply tD (q,0)
 simp -zeta only[aC,aB]
 intro m1 F
 have a:J g F:=((J.az g).aK _).aK _
 have m:∀i∈[m1.size,g.size],i<F.size:=by simp[F,m1];omega
 have ar:=r.len
 have aA:=P.len
 have aw:=N.len
 have ao:=r.cap
 clear_value F
 have c:0<=aF x.args 0/\aF x.args 0<b.ak.length:=Z _ (fx V V)
 have R:aF x.args 0<b.ba.length:=by have:=L.lr;have:=L.lh;omega
 have al:=L.pK c.1 c.2 ai
 refine⟨V,V,aF x.args 0,(r.ext a).pA V V,c.1,V,aF b.ak (aF x.args 0),(P.ext a).pA c.1 c.2,hp,a.af z.qZ,?_⟩
 unfold Fk
 simp only[]
 generalize aD:aF b.ak (aF x.args 0)=w at*
 refine(iX (cW.ext a z.heap) al).aH (J.az _) m λi m3 y B _=>⟨i,rfl,λah=>bW (λf=>nb y ah f.1) (a.trans B),λag=>?_⟩
 have n:=yb y ag
 let⟨C,az⟩:=bS n
 have au:=(M.cell _ (aq C)).fl
 have am:=a.trans B
 refine((fR (z.ext am) n.1 C)).aH B m ?_
 rintro _ m4 ⟨fl,rfl,ak,U⟩
 have S:=B.trans U
 refine⟨U,_,_,_,rfl,(oI ak V).aH (oh (nO (aM s.heap w).aE)) (λi y=>S.lt (m i y)) λps m5 o5 i5 h5=>⟨ps,rfl,V,V,V,?_⟩⟩
 have G:=S.trans h5
 have aa:=a.trans G
 have e1:(Int.toNat (1:Int))=1:=rfl
 have e2:(Int.toNat (u.len:Int))=u.len:=V
 rw[e1,e2]
 refine(rW (P.ext aa) (UJ (r.ext aa) V) (λl o=>Z l (wG o)) bE).aH (by simp[cL];omega) (λi y=>G.lt (m i y)) λqs m6 o6 i6 I=>⟨qs,rfl,?_⟩
 have ab:=G.trans I
 refine(qG (i5.ext I) i6).aH ab m λb2 m7 W h7 A=>⟨b2,rfl,λad=>?_,λac=>bW (λf=>fb W ac f.2.1) (a.trans A)⟩
 have D:=W.1 ad
 refine(fR (z.ext (a.trans A)) n.1 C).aH A m ?_
 rintro _ m8 ⟨an,rfl,av,K⟩
 have H:=A.trans K
 refine⟨K,_,_,_,rfl,λo=>?_,λo=>?_⟩
 .simp at o
  have E:=a.trans H
  refine⟨λl=>iO ⟨n,D,Or.inl o,λe=>by simp at l;omega⟩ E,λl=>⟨V,V,aF x.args 0,(r.ext E).pA V V,c.1,V,aF b.ba (aF x.args 0),(N.ext E).pA c.1 R,eU ?_ E⟩⟩
  simp only[aG,aj,ne_eq]at l⊢
  exact⟨λQ=>⟨n,D,Or.inl o,λ_=>Q⟩,λf=>f.2.2.2 V⟩
 .simp at o
  refine(uF (z.ext (a.trans H)) M (i5.ext ((I.trans h7).trans K)) (λT E=>M.field (aq C) (lC.1 E).1 (lC.1 E).2) (oh (nO (aM s.heap w).aE))).aH H m λb3 m9 X h9 T=>⟨b3,rfl,λaf=>?_,λae=>bW (λf=>?_) (a.trans T)⟩
  .have Y:=sY.1 (X.1 af)
   have E:=a.trans T
   refine⟨λl=>iO ⟨n,D,Or.inr Y,λe=>by simp at l;omega⟩ E,λl=>⟨V,V,aF x.args 0,(r.ext E).pA V V,c.1,V,aF b.ba (aF x.args 0),(N.ext E).pA c.1 R,eU ?_ E⟩⟩
   simp only[aG,aj,ne_eq]at l⊢
   exact⟨λQ=>⟨n,D,Or.inr Y,λ_=>Q⟩,λf=>f.2.2.2 V⟩
  .rcases f.2.2.1 with l|l
   .exact o l
   .exact fb X ae (sY.2 l)
def Iw{aT P Z:O}(b:RV g q 2 d p aT P Z k s)(G:nl k)(D:fN s.heap e)(hw: -9223372036854775808<=w/\w<=9223372036854775807):
 dt cp 129 [vp q 0,vi w] g (vz k s.heap w):=by
 apply sL (q,0)
 simp -zeta only[aC,aB]
 refine⟨P,b.qZ,(iX b.heap hw).then λi m1 x C=>⟨i,rfl,λai=>bW (λa=>nb x ai a.1) C,λah=>?_⟩⟩
 have z:=yb x ah
 let⟨F,al⟩:=bS z
 have K:=D.cell _ (aq F)
 have aE:=(K.oP al).2
 refine(fR (b.ext C) z.1 F).mono ?_
 rintro _ f ⟨B,rfl,N,j⟩
 refine⟨_,_,_,rfl,?_⟩
 intro T h
 have an:=C.trans j
 have H:J f h:=((J.az f).aK _).ah (ad _) _ _
 have s4:h.size=f.size+1:=by simp[h,T,aw]
 have hB:af h f.size 1=some (vi (aM s.heap w).j9):=(cE.ah (m:=T) (o:=0) (r:=[.i (aM s.heap w).aP,.i (aM s.heap w).j9,.s B]) (cE.push f _ _)).cg 1
 have y:∀i∈[f.size],i<h.size:=by simp[s4]
 clear_value h
 have c:=an.trans H
 have L:=b.ext c
 have aD:=b.fy.cF.len
 have aA:=G.nP.len
 have ar:(eS k.bo).length<=12:=by
  have:=qY G.nP.types k.bo.length;rw[mR _ _ (ad _)]at this;exact this
 refine⟨d,L.bo,(qE L.fy.bo G.nP.types).aH (J.az _) y λm5 t _=>⟨_,rfl,t.da hB,p,(b.ext (c.trans t)).cF,?_⟩⟩
 have aF:=c.trans t
 have W:cT ((aM s.heap w).j9 -((eS k.bo).length:Int))=(aM s.heap w).j9 -cr k:=aQ V V
 have X:cT ((p.len:Int) -1)=(p.len:Int) -1:=aQ V V
 rw[W,X]
 refine(aY _ _ _ _).aH t y λb2 m6 M h6 l=>⟨b2,rfl,λae=>?_,λac=>bW (λa=>fb M ac ⟨a.2.1,oh a.2.2.1⟩) (c.trans l)⟩
 have R:=M.1 ae
 have A:=c.trans l
 have E:=b.ext A
 let⟨ao,Q⟩:=cG k.cF (((aM s.heap w).j9 -cr k).toNat)
 have am:dO k ((aM s.heap w).j9 -cr k)=ao:=by simp[dO,Q]
 obtain⟨U,l',c',ab,ak,av,g0,g1,_⟩:=E.fy.cF.aF Q
 have au:=ab.len
 have az:=ak.len
 have ay:=N.len
 have ax:=K.fl
 have Y:cT ((B.len:Int)+1)=(B.len:Int)+1:=aQ V V
 rw[Y]
 unfold vz
 rw[am]
 refine⟨p,E.cF,V,V,U,g0,λu=>⟨p,E.cF,V,V,l',g1,λv=>⟨λn=>?_,λn=>?_⟩,λv=>bW (λa=>?_) A⟩,λu=>bW (λa=>?_) A⟩
 .simp at u v n
  exact iO ⟨z,R.1,V,V,V,Or.inl n⟩ A
 .simp at u v n
  refine(oI (N.ext (H.trans l)) V).aH (oh (nO (aM s.heap w).aE)) (λi x=>l.lt (y i x)) λps m7 o7 i7 aa=>⟨ps,rfl,?_⟩
  have I:=l.trans aa
  refine(uF (b.ext (c.trans I)) D i7 (λag S=>D.field (aq F) (lC.1 S).1 (lC.1 S).2) (oh (nO (aM s.heap w).aE))).aH I y λb3 m8 ag ap S=>⟨b3,rfl,eU ?_ (c.trans S)⟩
  rw[ag,sY]
  refine⟨λaj=>⟨z,R.1,V,V,V,Or.inr aj⟩,λa=>?_⟩
  rcases a.2.2.2.2.2 with j|j
  .exact absurd j n
  .exact j
 .have:=a.2.2.2.2.1;simp at v;omega
 .have:=a.2.2.2.1;simp at u;omega
def Ix{aT M E:O}(C:RV g q 2 d p aT M E k s)(B:ap g h b.ba)(G:ap g u x.args)(T:0<=x.bZ/\x.bZ<=b.ba.length)(U:b.ba.length<=1000000)
 (K:∀w∈b.ba,w≠0->1000<=w/\∃o,s.heap[ix w]? =some o):
 dt cp 126 [vp q 0,fv b t v h,xv x u j] g (Fl s.heap b x):=by
 apply sM (q,0)
 simp -zeta only[aC,aB]
 intro n f
 have c:J g f:=((J.az g).aK _).aK _
 have L:∀D∈[n.size,g.size],D<f.size:=by simp[f,n];omega
 have F:af f n.size 4=some (O.v u):=(cE.push n _ _).cg 4
 have Q:=G.len
 have S:=B.len
 clear_value f
 unfold Fl
 refine⟨λm=>iO (λr=>absurd (by simpa using m) r) c,λm=>?_⟩
 simp at m
 have e:cT (x.bZ -1)=x.bZ -1:=aQ V V
 rw[e]
 have A:=(B.ext c).pA (i:=x.bZ -1) V V
 refine⟨V,V,aF b.ba (x.bZ -1),A,λa=>iO (λ_ r=>absurd (by simpa using a) r) c,λa=>?_⟩
 simp at a
 let⟨N,o,z⟩:=K _ (fx (l:=b.ba) (i:=x.bZ -1) V V) a
 refine⟨V,V,aF b.ba (x.bZ -1),A,(fR (C.ext c) N z).aH (J.az _) L ?_⟩
 rintro _ W ⟨P,rfl,I,r⟩
 have R:=I.len
 have H:aM s.heap (aF b.ba (x.bZ -1))=o:=by simp[aM,z]
 refine⟨r,_,_,_,rfl,r.da F,eU ?_ (c.trans r)⟩
 rw[H]
 simp
 exact⟨λy _ _=>V,λy=>oh (y m a)⟩
def qQ(k:cO)(x:Instr):∀(c t:List Int)(a:Nat),fH k x a (c++t)=fH k x a c++fH k x (a+c.length) t
 |[],t,a=>by simp[fH]
 |u::c,t,a=>by
  have:=qQ k x c t (a+1);simp only[cZ,fH,this,aZ];have e:a+(c.length+1)=a+1+c.length:=V;rw[e];split<;>simp
def wt{aT l Y:O}(o:RV g q 2 d p aT l Y k s)(R:ap g t b.ak)(D:ap g u x.args)(Z:iA k b)(af:∀w∈b.ak,w<=9223372036854775807)
 (ag:∀y∈x.args,0<=y/\y<b.ak.length)(hc:zj k x)(ai:x.op=9\/x.op=24):
 dt cp 127 [vp q 0,fv b t v h,xv x u j] g (Kq k s.heap b x):=by
 apply sK (q,0)
 simp -zeta only[aC,aB]
 intro W i
 have G:J g i:=((J.az g).aK _).aK _
 have F:∀r∈[W.size,g.size],r<i.size:=by simp[i,W];omega
 have aa:=D.len
 have ak:=R.len
 clear_value i
 refine dU (n:=x.args.length) (aa▸D.gT) (λa c=>J i c/\∀y∈fH k x 0 (x.args.take a),1000<=aF b.ak y->fY s.heap (aF b.ak y)) ⟨J.az _,by simp[fH]⟩ ?_
 rintro a m3 aj μ hk ⟨T,Q⟩ I
 have m:=G.trans T
 refine⟨λh=>?_,λh=>iO (by simp at h;rwa[bY V]at Q) m⟩
 simp only[ar]at h
 let⟨y,H⟩:=cG x.args a
 have f:=ag y (aq H)
 have C:=o.ext m
 have S:fH k x 0 (x.args.take (a+1))=fH k x 0 (x.args.take a)++fH k x a [y]:=by
  rw[aU H,qQ];congr 2;simp;omega
 have E:(ny k x a=true->1000<=aF b.ak y->fY s.heap (aF b.ak y))->∀z∈fH k x 0 (x.args.take (a+1)),1000<=aF b.ak z->fY s.heap (aF b.ak z):=λhh z c=>by
  rw[S]at c;rcases List.mem_append.1 c with c|c
  .exact Q z c
  .simp only[fH]at c;split at c
   .rename_i e;simp at c;subst c;exact hh e
   .simp at c
 have ah:ny k x a=true->y∈fH k x 0 x.args:=λe=>by
  have X:x.args=x.args.take (a+1)++x.args.drop (a+1):=(dm _ _).symm;rw[X,qQ,S];refine bI _ (eE _ ?_);simp only[fH];rw[an e];simp
 refine⟨V,V,y,by simpa using m.af (D.aF H),f.1,V,aF b.ak y,by simpa using m.af (R.pA f.1 f.2),d,C.bo,p,C.cF,?_⟩
 refine(rT C.fy hc u j a).aH T F λr m4 M h4 K=>⟨r,rfl,λae=>?_,λad=>I V _ ⟨K,E λe=>absurd ⟨ai,e⟩ (fb M ad)⟩⟩
 have e:=(M.1 ae).2
 refine(dW _ _).aH K F λb2 m5 N h5 A=>⟨b2,rfl,λac=>?_,λab=>I V _ ⟨A,E λ_ l=>absurd l (fb N ab)⟩⟩
 have U:=G.trans A
 refine⟨l,(o.ext U).qZ,(iX (cW.ext U o.heap) (Z.pK f.1 f.2 af)).aH A F λb3 m6 P h6 L=>⟨b3,rfl,λB=>bW (λhM=>nb P B (hM y (ah e) (N.1 ac))) (G.trans L),λB=>I V _ ⟨L,E λ_ _=>yb P B⟩⟩⟩
end
section
structure zh(im:cO)(s:St)(fs:List aX)(f:aX)(x:Instr):Prop where
 ok:cY im s
 run:s.bV=3
 fr:s.ao=fs++[f]
 cur:ez im f=x
 uv:∀g∈s.ao,∀w∈g.ak,w<=9223372036854775807
section
variable{b:cO}{s:St}{c:List aX}{f:aX}{x:Instr}
def zh.F(a:zh b s c f x):iA b f:=a.ok.ao f (by rw[a.fr];simp)
def zh.Mx(a:zh b s c f x):∀w∈f.ak,w<=9223372036854775807:=a.uv f (by rw[a.fr];simp)
def zh.I(a:zh b s c f x):∃p,b.cF[f.fE.toNat]? =some p/\dO b f.fE=p/\Ht b p/\p.dq[f.pc.toNat]? =some x/\iP b p f.pc.toNat x:=by
 have:=a.F.Jf a.ok.fy;rwa[a.cur]at this
def zh.FY(a:zh b s c f x):f.ak.length=f.aR.length/\f.ba.length=f.aR.length/\1<=f.aR.length/\f.aR.length<=2000:=by
 obtain⟨p,_,e,i,_,_⟩:=a.I;have d:=a.F.lr;have g:=a.F.lo;have h:=a.F.lh;rw[e]at d g h;have:=i.ak;omega
def zh.arg(a:zh b s c f x):∀y∈x.args,0<=y/\y<f.ak.length:=λy h=>by
 obtain⟨p,_,e,_,_,g⟩:=a.I;have d:=a.F.lr;rw[e]at d;have:=g.args y h;omega
def zh.dst(a:zh b s c f x):0<=x.dst/\x.dst<f.aR.length:=by
 obtain⟨p,_,e,_,_,g⟩:=a.I;have d:=a.F.lo;rw[e]at d;have:=g.dst;omega
def zh.call(a:zh b s c f x):zj b x:=let⟨_,_,_,_,_,d⟩:=a.I;d.call
def zh.Ze(a:zh b s c f x):0<=x.op/\x.op<=24/\x.op≠7/\x.op≠8/\x.op≠12/\x.op≠13:=by
 obtain⟨p,_,_,e,_,d⟩:=a.I;exact((Jg e.ak.2.2 a.ok.fy.nP.len.2 λq g=>(a.ok.fy.nP.dz q g).1).1 d).1
def zh.lx(g:zh b s c f x):x.args.length<=4/\((x.op=5\/x.op=14\/x.op=15\/x.op=18\/x.op=23\/x.op=19\/x.op=20\/x.op=21)->x.args.length=1)/\((x.op=1\/x.op=2\/x.op=3\/x.op=4\/x.op=11)->x.args.length=2)/\
 ((x.op=16\/x.op=17)->1<=x.args.length)/\(x.op=6->0<=x.bZ/\x.bZ<=f.ba.length/\0<=x.bP/\x.bP<12/\x.args.length<=3)/\(x.op=10->0<=x.bP/\x.bP<4/\x.args.length<=3)/\(x.op=0->-999<=x.bP/\x.bP<=999):=by
 obtain⟨z,_,r,y,_,u⟩:=g.I
 have a:=u.op
 have t:=g.F.lh
 rw[r]at t
 have d:=g.ok.fy.nP
 have v:(eS b.bo).length<=12:=by
  have:=qY d.types b.bo.length;rw[mR _ _ (ad _)]at this;exact this
 have w:=Jb d.types x.bP
 unfold me at a
 by_cases h:x.op=0
 .rw[an h]at a;omega
 rw[ae h]at a
 by_cases i:x.op=1\/x.op=2\/x.op=3\/x.op=4\/x.op=11
 .rw[an i]at a;omega
 rw[ae i]at a
 by_cases j:x.op=5\/x.op=14\/x.op=15\/x.op=18\/x.op=23
 .rw[an j]at a;omega
 rw[ae j]at a
 by_cases k:x.op=6
 .rw[an k]at a;omega
 rw[ae k]at a
 by_cases l:x.op=9\/x.op=24
 .rw[an l]at a
  let⟨q,n,e,o⟩:=a
  have:=(d.dz q (aq e)).1;omega
 rw[ae l]at a
 by_cases m:x.op=10
 .rw[an m]at a
  obtain⟨⟨q,n,e,o⟩,_⟩:=a
  have:=(d.dz q (aq e)).1
  have:=av e
  have:=d.len;omega
 rw[ae m]at a
 by_cases n:x.op=16\/x.op=17
 .rw[an n]at a;omega
 rw[ae n]at a
 by_cases o:x.op=19
 .rw[an o]at a;omega
 rw[ae o]at a
 by_cases p:x.op=20
 .rw[an p]at a;omega
 rw[ae p]at a
 by_cases q:x.op=22
 .rw[an q]at a;omega
 rw[ae q]at a
 by_cases e:x.op=21
 .rw[an e]at a
  have:=a.1;omega
 rw[ae e]at a;exact a.elim
def zh.KZ(d:zh b s c f x):∀w∈f.ba,w≠0->1000<=w/\∃e,s.heap[ix w]? =some e/\e.aP<0:=λw h k=>by
 have g:1000<=w:=by have:=d.F.ba w h;omega
 refine⟨g,?_⟩;have j:0<dG s.ao (ix w):=by
  rw[d.fr,eK,iY];have:=vG c (ix w);have:=uz (l:=f.ba) (f:=ix w) (by rw[il g];exact h);omega
 exact dQ λi=>by have:=d.ok.nj (ix w) i;omega
def zh.OG(d:zh b s c f x):∀o∈f.aR,0<=o/\o<=999999:=λo h=>by
 refine⟨(d.F.PL o h),?_⟩;rcases dR (0<o)with i|i
 .let⟨k,e⟩:=List.mem_iff_getElem?.1 h;have:=d.FY;let⟨w,j⟩:=cG f.ak k (oh (av e));have m:=Li d.F.PL j e (d:=ix w) (by rw[il ((d.F.aR k o w e j).2 i)]);have n:o<=fA s.ao (ix w):=by
   rw[d.fr,fX,kQ];have:=Kh (b:=c) (λg l=>d.ok.ao g (by rw[d.fr];exact bI _ l)) (ix w);omega
  let⟨g,hd,l⟩:=d.ok.heap.lv (ix w) V;have p:=d.ok.heap.ex _ g hd l;have q:=qT s.heap (ix w);have r:=(d.ok.heap.cell g (aq hd)).hi;omega
 .omega
def zh.Kj(a:zh b s c f x):∀r∈bT b x,0<=r/\r<f.ak.length:=λr d=>a.arg r (BY d)
end
def LR{o:E}{mb:Nat}{ah aw aT d fr:O}{M:cO}{K:St}(Q:RV o mb 2 ah aw aT d fr M K){fs:List aX}{m:aX}{x:Instr}(C:zh M K fs m x){Z ac h S am ow:O}(R:ap o Z m.ak)(U:ap o h m.ba)(L:ap o S x.args){aR:List Int}(X:ap o ow aR)(aA:aR.length=m.aR.length):
 dt cp 71 [vp mb 0,fv m Z ac h,xv x S am,O.v ow] o (ln M K m x aR):=by
 apply ue (mb,0)
 simp -zeta only[aC,aB]
 intro Y P
 have b:J o P:=((J.az o).aK _).aK _
 have i:∀g∈[Y.size,o.size],g<P.size:=by simp[P,Y];omega
 have ai:cE P Y.size dX [.i x.op,.i x.dst,.i x.bP,.i x.bZ,.s S,.s am]:=cE.push Y _ _
 have ao:cE P o.size dP [.i m.fE,.i m.pc,.i m.dst,.s Z,.s ac,.s h]:=(cE.push o _ _).ext (J.push Y _)
 have ax:=L.len
 have aE:=R.len
 have ay:=U.len
 have aD:=X.len
 have hd:=C.dst
 have az:=C.FY
 have G:=C.lx
 have hI:=C.ok.heap
 clear_value P
 refine⟨λN=>J P N/\(∀ac∈aR,0<=ac)/\(lP x.op->aF aR x.dst<=0),?_,?_⟩
 .refine(AY (X.ext b)).aH (J.az _) i λg m3 c n _=>⟨g,rfl,λu=>bW (λl=>nb c u l.nn) (b.trans n),λz=>?_⟩
  refine(xC _ _).aH n i λb2 A y w a=>⟨b2,rfl,λu=>?_,λv=>⟨a,yb c z,λe=>absurd e (fb y v)⟩⟩
  refine⟨hd.1,V,aF aR x.dst,(X.ext (b.trans a)).pA hd.1 V,λk=>bW (λl=>?_) (b.trans a),λk=>⟨a,yb c z,λ_=>by simpa using k⟩⟩
  have:=l.dst (y.1 u);simp at k;omega
 .rintro m3 ⟨n,q,p⟩
  have f:=b.trans n
  have t:=Q.ext f
  have mk:∀{ad:Prop},(ln M K m x aR->ad)->(ad->ln M K m x aR)->(ln M K m x aR<->ad):=λI h2=>⟨I,h2⟩
  have B:1<=x.args.length->0<=aF x.args 0/\aF x.args 0<m.ak.length:=λI=>C.arg _ (fx V V)
  have D:∀{N},J o N->1<=x.args.length->af N S.D (S.off+Int.toNat (0:Int)*1)=some (vi (aF x.args 0)):=λhx I=>(L.ext hx).pA V V
  have F:∀{N},J o N->1<=x.args.length->af N Z.D (Z.off+Int.toNat (aF x.args 0)*1)=some (vi (aF m.ak (aF x.args 0))):=λhx I=>(R.ext hx).pA (B I).1 (B I).2
  refine⟨λe=>?_,λe1=>?_⟩
  .simp only[bQ,aG]at e
   refine(Ej (R.ext f) (L.ext f) C.arg).aH n i λg A c w a=>⟨g,rfl,eU (c.trans ?_) (b.trans a)⟩
   refine⟨λd=>?_,λh=>h.nJ V⟩
   refine⟨q,p,?_,?_,?_,?_,?_,?_,?_,?_,?_,?_,?_⟩<;>intro r<;>first|(exfalso;omega)|exact d
  simp only[br,aj]at e1
  refine⟨λe=>?_,λe2=>?_⟩
  .simp only[aG]at e
   have j:=G.2.2.2.2.1 e
   refine(Ix t (U.ext f) (L.ext f) ⟨j.1,j.2.1⟩ V (λaa W T=>by obtain⟨I,s,H,_⟩:=C.KZ aa W T;exact⟨I,s,H⟩)).aH n i λg A c w a=>⟨g,rfl,eU (c.trans ?_) (b.trans a)⟩
   refine⟨λd=>?_,λh=>h.jd e⟩
   refine⟨q,p,?_,?_,?_,?_,?_,?_,?_,?_,?_,?_,?_⟩<;>intro r<;>first|(exfalso;omega)|exact d
  simp only[aj]at e2
  refine⟨λe=>?_,λe3=>?_⟩
  .simp only[aG]at e
   refine(wt t (R.ext f) (L.ext f) C.F C.Mx C.arg C.call (Or.inl e)).aH n i λg A c w a=>⟨g,rfl,eU (c.trans ?_) (b.trans a)⟩
   refine⟨λd=>?_,λh=>h.cR (Or.inl e)⟩
   refine⟨q,p,?_,?_,?_,?_,?_,?_,?_,?_,?_,?_,?_⟩<;>intro r<;>first|(exfalso;omega)|exact d
  simp only[aj]at e3
  refine⟨λe=>?_,λe4=>?_⟩
  .simp only[aG]at e
   refine(wt t (R.ext f) (L.ext f) C.F C.Mx C.arg C.call (Or.inr e)).aH n i λg A c w a=>⟨g,rfl,λu=>?_,λz=>bW (λl=>fb c z (l.cR (Or.inr e))) (b.trans a)⟩
   refine(mj (X.ext (b.trans a))).aH a i λb2 m5 y k s=>⟨b2,rfl,λag=>?_,λv=>bW (λl=>fb y v (l.zero (Or.inl e)).1) (b.trans s)⟩
   refine(mj (U.ext (b.trans s))).aH s i λb3 m6 H T j=>⟨b3,rfl,eU (H.trans ?_) (b.trans j)⟩
   refine⟨λd=>?_,λh=>(h.zero (Or.inl e)).2⟩
   refine⟨q,p,?_,?_,?_,?_,?_,?_,?_,?_,?_,?_,?_⟩<;>intro r<;>first|(exfalso;omega)|exact c.1 u|exact⟨y.1 ag,d⟩
  simp only[aj]at e4
  refine⟨λe=>?_,λe5=>?_⟩
  .simp only[aG]at e
   have W:=G.2.1 V
   refine(mj (X.ext f)).aH n i λb2 m5 y k s=>⟨b2,rfl,λag=>?_,λv=>bW (λl=>fb y v (l.zero (Or.inr e)).1) (b.trans s)⟩
   refine(mj (U.ext (b.trans s))).aH s i λb3 m6 H T j=>⟨b3,rfl,λau=>?_,λaq=>bW (λl=>fb H aq (l.zero (Or.inr e)).2) (b.trans j)⟩
   have ab:=b.trans j
   have ak:=Q.ext ab
   have aa:=ak.ao.len
   have iI:∀d:1<K.ao.length\/aF m.ak (aF x.args 0)<1000,ln M K m x aR:=λd=>by
    refine⟨q,p,?_,?_,?_,?_,?_,?_,?_,?_,?_,?_,?_⟩<;>intro r<;>first|(exfalso;omega)|exact⟨y.1 ag,H.1 au⟩|exact d
   refine⟨fr,ak.Ov,λh8=>iO (iI (Or.inl (by simp at h8;omega))) ab,λh8=>?_⟩
   refine⟨V,V,_,D ab V,(B V).1,oh ((B V).2),_,F ab V,(dW _ _).aH j i λb4 m7 al h9 ae=>⟨b4,rfl,eU ?_ (b.trans ae)⟩⟩
   simp at h8
   constructor
   .intro an
    exact iI (Or.inr (oh (nb al an)))
   .intro l
    rcases l.ret e with an|an
    .omega
    .have:¬b4=true:=λav=>by have:=al.1 av;omega
     simpa using this
  simp only[aj]at e5
  refine⟨λe=>?_,λe6=>?_⟩
  .simp only[aG]at e
   have W:=G.2.2.1 V
   have j:=B V
   refine⟨V,V,_,D f V,j.1,V,_,F f V,(Iw t C.ok.fy hI (C.F.pK j.1 j.2 C.Mx)).aH n i λg A c w a=>⟨g,rfl,eU (c.trans ?_) (b.trans a)⟩⟩
   refine⟨λd=>?_,λh=>h.apply e⟩
   refine⟨q,p,?_,?_,?_,?_,?_,?_,?_,?_,?_,?_,?_⟩<;>intro r<;>first|(exfalso;omega)|exact d
  simp only[aj]at e6
  refine⟨λe=>?_,λe7=>?_⟩
  .simp only[aG]at e
   have W:=G.2.1 V
   have j:=B V
   refine⟨V,V,_,D f V,j.1,V,_,F f V,d,t.qZ,(iX t.heap (C.F.pK j.1 j.2 C.Mx)).aH n i λg A c w a=>⟨g,rfl,λu=>?_,λz=>bW (λl=>fb c z (l.WM e).1) (b.trans a)⟩⟩
   have v:=c.1 u
   refine(fR (Q.ext (b.trans a)) v.1 (bS v).1).aH a i ?_
   rintro _ m5 ⟨fl,rfl,aa,k⟩
   refine⟨k,_,_,_,rfl,eU ?_ (b.trans (a.trans k))⟩
   simp only[ar]
   refine⟨λd=>?_,λh=>(h.WM e).2⟩
   refine⟨q,p,?_,?_,?_,?_,?_,?_,?_,?_,?_,?_,?_⟩<;>intro r<;>first|(exfalso;omega)|exact⟨v,d⟩
  simp only[aj]at e7
  refine⟨λe=>?_,λe8=>?_⟩
  .simp only[aG]at e
   have W:=G.2.1 V
   have j:=B V
   refine⟨V,V,_,D f V,j.1,V,_,F f V,(dW _ _).aH n i λg A c w a=>⟨g,rfl,eU (c.trans ?_) (b.trans a)⟩⟩
   refine⟨λd=>?_,λh=>h.drop e⟩
   refine⟨q,p,?_,?_,?_,?_,?_,?_,?_,?_,?_,?_,?_⟩<;>intro r<;>first|(exfalso;omega)|exact d
  simp only[aj]at e8
  refine⟨λe=>?_,λe9=>?_⟩
  .simp only[bQ,aG]at e
   refine(JZ t hI (R.ext f) (U.ext f) (L.ext f) C.F C.Mx C.arg ⟨G.2.2.2.1 e,G.1⟩ e).aH n i λg A c w a=>⟨g,rfl,eU (c.trans ?_) (b.trans a)⟩
   refine⟨λd=>?_,λh=>h.NA e⟩
   refine⟨q,p,?_,?_,?_,?_,?_,?_,?_,?_,?_,?_,?_⟩<;>intro r<;>first|(exfalso;omega)|exact d
  simp only[br,aj]at e9
  refine⟨λe=>?_,λab=>?_⟩
  .simp only[aG]at e
   have W:=G.2.1 V
   have j:=B V
   refine⟨d,t.qZ,V,V,_,D f V,j.1,V,_,F f V,(iX t.heap (C.F.pK j.1 j.2 C.Mx)).aH n i λg A c w a=>⟨g,rfl,λu=>?_,λz=>bW (λl=>fb c z (l.load e).1) (b.trans a)⟩⟩
   have v:=c.1 u
   have H:=b.trans a
   refine⟨V,V,_,D H V,j.1,V,_,F H V,(fR (Q.ext H) v.1 (bS v).1).aH a i ?_⟩
   rintro _ m5 ⟨fl,rfl,aa,k⟩
   have ag:=aa.len
   refine⟨k,_,_,_,rfl,k.da ((ai.ext a).cg 2),eU ?_ (b.trans (a.trans k))⟩
   simp only[ar]
   refine⟨λd=>?_,λh=>oh ((h.load e).2)⟩
   refine⟨q,p,?_,?_,?_,?_,?_,?_,?_,?_,?_,?_,?_⟩<;>intro r<;>first|(exfalso;omega)|exact⟨v,V⟩
  simp only[aj]at ab
  refine⟨λe=>?_,λag=>?_⟩
  .simp only[aG]at e
   have W:=G.2.1 V
   have j:=B V
   refine⟨d,t.qZ,V,V,_,D f V,j.1,V,_,F f V,(iX t.heap (C.F.pK j.1 j.2 C.Mx)).aH n i λg A c w a=>⟨g,rfl,λu=>?_,λz=>bW (λl=>fb c z (l.Fb e).1) (b.trans a)⟩⟩
   have v:=c.1 u
   have H:=b.trans a
   have l:=Q.ext H
   refine⟨ah,l.bo,V,V,_,D H V,j.1,V,_,F H V,(Ar l.fy.bo C.ok.fy.nP.types _).aH a i ?_⟩
   rintro _ m5 ⟨cs,rfl,ak,k⟩
   have s:=a.trans k
   refine⟨k,cs,rfl,k.da (F H V),k.da (D H V),k.da ((ai.ext a).cg 4),k.da ((ao.ext a).cg 3),(fR (Q.ext (b.trans s)) v.1 (bS v).1).aH s i ?_⟩
   rintro _ m6 ⟨fl,rfl,aa,T⟩
   refine⟨T,_,_,_,rfl,(dw (ak.ext T) _).aH (s.trans T) i λb2 m7 y h8 ae=>⟨b2,rfl,eU (y.trans ?_) (b.trans ae)⟩⟩
   refine⟨λd=>?_,λh=>(h.Fb e).2⟩
   refine⟨q,p,?_,?_,?_,?_,?_,?_,?_,?_,?_,?_,?_⟩<;>intro r<;>first|(exfalso;omega)|exact⟨v,d⟩
  .simp only[aj]at ag
   refine iO ?_ f
   refine⟨q,p,?_,?_,?_,?_,?_,?_,?_,?_,?_,?_,?_⟩<;>intro r<;>exfalso<;>omega
end
end Go.Proofs.YtkoifinbblcbiaaGreat
