/- Part of a proof. -/
import Derived.Test.YtkoifinbblcbiaaGreatSD01
set_option linter.all false
set_option maxHeartbeats 8000000
set_option maxRecDepth 100000
namespace Go.Proofs.YtkoifinbblcbiaaGreat
open Go.Vc
section
variable{c m:E}{k i g a:Nat}{s:O}{d:List Nat}{e:List Int}{x:cV}{f:List gS}
def VP{a b:E}(h:J a c)(f:Fz [k] c b)(g:a.size<=k):J a b:=Fz.ext (((h.fz [k]).trans f).DM λe d=>Or.inr (by simp at d;omega))
def _root_.Go.Vc.Fz.OI{M b:E}(f:Fz [k] c M)(h:s.D=k\/c.size<=s.D)(g:M.size<=b.size)(q:∀a,a<M.size->a≠s.D->b[a]? =M[a]?):Fz [k] c b:=
 f.sk ⟨g,λa d e=>q a d (by simpa using e)⟩ (Y:=[s.D]) (λy d=>by simp at d⊢;omega)
def GI.ZK{X:List Nat}{b:E}{x:O}{f:List Int}{K:O->E->Prop}(h:GI d b m s e)(k:Fz X b m)(n:ap m x f)(p:e.length+f.length<=10^12)
 (l:∀r a,GI d b a r (e++f)->Fz X b a->(m.size<=a.size/\(r.D=s.D\/m.size<=r.D))->(∀c,c<m.size->c≠s.D->a[c]? =m[c]?)->K r a):jS m aA [.i 0] 8 s x K:=by
 let⟨o,g,i,j⟩:=n.V0 (b:=1) λ_ _ h=>by rw[h];rfl
 exact Gr.next (g:=[.i 0]) uf.mono bh h k g i j V l
def bN(d:List Nat){b:O}(h:ap m b e)(c:e.length<=10^12):lz 66 [O.v b] m d (e=·):=by
 apply nK;intro i;have a:J m i:=J.push m _;exact GI.ZK (e:=[]) (X:=[]) (GI.nil d m) (a.fz []) (h.ext a) (by simpa using c) λr j g f _ _=>⟨r,e,rfl,by simpa using g,rfl,f.ext⟩
abbrev GB(d:List Nat)(a m:E)(s:O)(e:List Bk):Prop:=Gr d a m di 2 rS s e
def GB.new(d:List Nat)(m:E):GB d m (m.push (.cells (bt []) di)) (.mk m.size 0 0 0) []:=Gr.new d (ad _) _ _ _
def GB.kQ{d X:List Nat}{g m:E}{s a:O}{e:List Bk}{c:Bk}{K:O->E->Prop}(h:GB d g m s e)(k:Fz X g m)(j:eP (bG (s.D::d) m) a c.aD)(l:e.length<=10^12)
 (i:∀r b,GB d g b r (e++[c])->Fz X g b->m.size<=b.size/\(r.D=s.D\/m.size<=r.D)->(∀f,f<m.size->f≠s.D->b[f]? =m[f]?)->K r b):
 jS (m.push (.cells (bt [.s a,.i c.aS]) di)) di [.s .nil,.i 0] 32 s (.mk m.size 0 1 1) K:=
 Gr.kQ (g:=[.s .nil,.i 0]) rS.mono bh h k (by cases c;exact rS.of j) V i
def KH{a:List bz}{b bP:Int}{y:Int}(h:b=8)(c:(cy a bP)[i]? =some y):BU a b bP i=(cE a y).length:=by unfold BU;rw[an h,c];rfl
def KI{b:List bz}{a bP:Int}(h:a≠8):BU b a bP i=0:=by unfold BU;rw[ae h]
def _root_.Go.Vc.WS.PT{b:List bz}{f d:Prop}(h:WS b g f a x)(j:f->d){bU:Int}(l:0<=bU/\bU<=(a:Int)){bD:List Bk}(i:bD.length=x.bD.length)(m:∀(k:Nat)(c:Bk),bD[k]? =some c->WB b g d (a+BU b x.op x.bP k) c):WS b g d a ⟨x.op,x.bP,bU,x.args,bD⟩:=
 ⟨⟨h.fe.op.imp id λh=>⟨j h.1,h.2⟩,h.fe.args,h.fe.lW,l,λe=>i.trans (h.fe.Km e),λe=>i▸h.fe.all e,h.fe.call⟩,m⟩
def Iz(hS:∀g∈d,g<m.size){Y U ae a k ac ab:O}{r:List bz}{G lo la:List Int}(D:eL m Y U r f)(hv:ap m ae G)(ha:ap m a x.args)(R:nO m k x.bD)(ho:ap m ac lo)(aA:ap m ab la)
 (aD:∀o∈lo,0<=o/\o<(G.length:Int))(XE:lo.length+5*x.w<=500)(XD:la.length+1000*x.w<=1000000)(vN:G.length+5*x.w<=1000000)(aa:WS r f.length False G.length x)(ih:∀c∈x.bD,WK r f c):
 KB 293 [.agg #[O.v Y,O.v U],O.v ae,pw x a k,O.v ac,O.v ab] m d λy=>WS r f.length True G.length y/\y.op=x.op/\y.w<=1+x.args.length+1100*bw x.bD:=by
 apply AL
 simp -zeta only[aC,aB]
 intro m0 o p ak
 let⟨q,u,s0,s1,s2⟩:=qx (a:=m0) (b:=o) (c:=p) rfl rfl rfl
 have ao:J p ak:=J.push _ _
 have gk:=GB.new (o.size::d) p
 clear_value p
 have aK:=ha.len;have az:=R.len;have hw:=cV.mH x;have aQ:=KK x.bD
 refine(iB (e:=[p.size]) (by simp[ak]) (D.le (q.trans ao).le).bo D.types x.bP).aI ao u λg cl m4 t F x4 u4=>⟨_,rfl,?_⟩
 subst F
 have aR:=t.len
 refine eA (n:=x.bD.length) (az▸R.gW) (λj s M=>Fz [p.size] m4 M/\(s.D=p.size\/m4.size<=s.D)/\∃e,GB (o.size::d) p M s e/\e.length=j/\(∀(i:Nat)(c:Bk),e[i]? =some c->WB r f.length True (G.length+BU r x.op x.bP i) c)/\bw e<=1100*bw (x.bD.take j)) ⟨Fz.az _ _,Or.inl rfl,[],gk.ext rS.mono x4,rfl,aL,aL⟩ ?_
 rintro j s T au μ hj ⟨N,aE,e,Q,aT,ag,ay⟩ aI
 have h:=VP u4 N (ad _)
 have hy:=Q.bn
 refine dit (λz=>?_) λz=>?_
 .intro m6
  have l:J T m6:=J.push _ _
  let⟨c,C⟩:=cG x.bD j
  have aM:=wU C
  have aP:=uE C
  have av:∀{M:E},J T M->∀g∈s.D::o.size::d,g<M.size:=λz=>bO (bO hS q.size (u _ aL)) (h.trans z).size (oh z.size)
  have iP:∀(M:E)(H:O)(P:List Int)(w:O),J T M->ap M H P->P.length=BU r x.op x.bP j->eP M w c.aD->
   aN cg 322 [.agg #[O.v Y,O.v U],O.v ae,O.v H,.agg #[O.v w,vi c.aS],O.v ac,O.v ab] M λrv K=>eG [o.size,m0.size,m.size] M K/\∃am:O,∃an:Int,rv=.agg #[O.v am,vi an]/\
    let M1:E:=K.push (.cells (bt [.s am,.i an]) di)
    jS M1 di [.s O.nil,.i (0:Int)] 32 s (O.mk K.size 0 1 1) λal L=>eG [o.size,m0.size,m.size] M1 L/\au al (cQ ((j:Int)+(1:Int))) L/\μ al (cQ ((j:Int)+(1:Int))) L<μ s j T:=by
   intro M H P w B hf af I
   have X:=q.trans (h.trans B)
   have b3:=QK D.types x.op x.bP j
   refine(JU (c:=s.D::o.size::d) (av B) (D.le X.le) (hv.ext X) hf I (ho.ext X) (aA.ext X) ⟨aD,V,V,V,V,af▸aa.bD j c C⟩ (ih c (aq C))).aI (h.trans B) u λss b' K aF F y u'=>⟨_,_,rfl,?_⟩
   refine GB.kQ (c:=b') (Q.ext rS.mono (B.trans y)) (u'.fz []) aF (oh (qy x.bD)) λU L g2 f2 z2 q2=>⟨J.oQ (u'.aK _) f2.ext u,aI V _ _ ⟨(N.then (B.trans y)).OI aE z2.1 q2,?_,_,g2,bE,λi b2 v=>?_,?_⟩⟩
   .have A:=(N.then (B.trans y)).size
    rcases z2.2 with Z|Z<;>omega
   .rcases aX i e.length with A|A
    .rw[ax A]at v;exact ag i b2 v
    .rw[aJ A]at v
     have:i -e.length=0:=by have:=aw v;simp at this;omega
     rw[this]at v;simp at v;subst v
     have:i=j:=V
     subst this
     rw[<-af];exact F.1
   .rw[oZ,uD,zI]
    have:=F.2;omega
  refine⟨λA=>?_,λA=>?_⟩
  .simp only[aG]at A
   have aS:=(aa.fe.all A).1
   let⟨ar,ah⟩:=cG (cy r x.bP) j
   refine⟨V,V,ar,(eQ.1 ((t.le ((N.then l).dg aL)).aE ah)).2,?_⟩
   have W:=h.trans l
   refine(dK (e:=[]) aL ((D.le (q.trans W).le).bo.le (Af _)) D.types ar).aI W u λH P m7 hf F x7 u7=>⟨_,rfl,?_⟩
   subst F
   let⟨w,I,e0,e1⟩:=(R.le (q.trans u7).le).aE C
   exact⟨V,V,_,e0,_,e1,iP m7 H _ w (l.trans x7) (hf.le (bA _ _)) (KH A ah).symm I⟩
  .simp only[aj]at A
   let⟨w,I,e0,e1⟩:=(R.le (q.trans (h.trans l)).le).aE C
   exact⟨V,V,_,e0,_,e1,iP m6 _ [] w l (mO _ _ _ _ _ _) (KI A).symm I⟩
 .have A:e.length=x.bD.length:=V
  rw[bY V]at ay
  refine(bN (o.size::d) (ha.ext (q.trans h)) V).aI h u λB H m6 w Z l W=>⟨_,rfl,aH (l.same _ (h.lt (u _ aL))) _,aH (l.same _ (h.lt (u _ aL))) _,?_⟩
  subst Z
  intro m7
  have C:=(Q.ext rS.mono l).bn
  have v:∀g∈o.size::d,g<p.size:=bO hS q.size V
  refine⟨B,s,⟨x.op,x.bP,0,x.args,e⟩,rfl,(w.done (λg t=>aO (v g t) h.size) V).le (cA aL λg t=>ai _ t),nO.le (cA aL λg t=>ai _ t) ((Q.ext rS.mono l).done rS.mono v bh (by have:=qy x.bD;show e.length<=_;omega)),⟨aa.PT (λz=>z.elim) ⟨V,V⟩ A ag,rfl,?_⟩,(q.trans W).ah V _ _⟩
  rw[cV.mH]
  simp only
  omega
def _root_.Go.Vc.RL{σ τ ρ:Type}{n:Nat}(u:n<=9223372036854775807){j:σ}{l:τ}{h:ρ}{g:(σ->τ->ρ->Int->E->Prop)->(σ->τ->ρ->Int->E->Nat)->σ->τ->ρ->Int->E->Prop}(Q:Nat->σ->τ->ρ->E->Prop)(p:Q 0 j l h m)
 (o:∀(k:Nat)(s:σ)(t:τ)(r:ρ)(a:E)(I:σ->τ->ρ->Int->E->Prop)(μ:σ->τ->ρ->Int->E->Nat),k<=n->Q k s t r a->
  (k<n->∀d e c b,Q (k+1) d e c b->I d e c (cQ ((k:Int)+1)) b/\μ d e c (cQ ((k:Int)+1)) b<μ s t r k a)->g I μ s t r k a):
 ∃(I:σ->τ->ρ->Int->E->Prop)(μ:σ->τ->ρ->Int->E->Nat),I j l h 0 m/\∀s t r i a,I s t r i a->g I μ s t r i a:=by
 refine⟨λs t r i b=>∃k:Nat,i=k/\k<=n/\Q k s t r b,λ_ _ _ i _=>(n -i).toNat,⟨0,rfl,dO _,p⟩,?_⟩
 rintro s t r i a ⟨k,rfl,q,v⟩
 refine o k s t r a _ _ q v λf d e c b w=>?_
 rw[kK f u]
 exact⟨⟨k+1,rfl,f,w⟩,DB f⟩
structure CB(ds:List bz)(g:Nat)(d:List Nat)(m2 M:E)(v lo:List Int)(aD:List cV)(k:Nat)(st inn mn:O):Prop where
 x:J m2 M
 hs:∃e,GS (inn.D::mn.D::d) m2 M st e/\WL ds g True v.length e/\dc e=dc (aD.take k)/\sw e<=1100*sw (aD.take k)
 hi:∃e,GI d m2 M inn e/\e.length=v.length+dc (aD.take k)
 hm:∃e,GI d m2 M mn e/\e.length<=lo.length+k/\∀o∈e,0<=o/\o<((v.length+dc (aD.take k):Nat):Int)
 ne:inn.D≠mn.D
def ZO{b:List bz}(h:WS b g False a x):dn x=1:=an (h.fe.op.resolve_right λh=>h.1)
def GD{U:List bz}:∀c:Bk,WK U f c:=by
 refine Bk.ind ?_;intro aD v ih d m hS b8 cZ dQ c1 dM c5 aj lo la hn hv hs A bP hp;have bf:=hp.wb.aU;simp only[Bk.jZ,Bk.jC]at*;have XE:=hp.XE;have XD:=hp.XD;have vN:=hp.vN;rw[(Bk.qP aD v)]at XE XD vN;apply yS;simp -zeta only[aC,aB];intro m0 o q aI;let⟨F,N,s0,s1,s2⟩:=qx (a:=m0) (b:=o) (c:=q) rfl rfl rfl;have bo:J q aI:=J.push _ _;have bK:∀am,GS am q aI (.mk q.size 0 0 0) []:=λam=>GS.new am q;have s3:aI.size=q.size+1:=by simp[aI]
 clear_value aI;clear_value q;have bS:=hs.len;have cK:=BL aD;have ds:=fZ aD;refine(bN d (hv.ext (F.trans bo)) V).aI bo N λl _ m4 G p x4 u4=>⟨_,rfl,?_⟩;subst p;refine(bN d (A.ext (F.trans u4)) V).aI u4 N λu _ m5 W p x5 u5=>⟨_,rfl,?_⟩;subst p;have bT:=G.bn;have bU:=W.bn;refine RL (n:=aD.length) (bS▸hs.gW) (λk z l u g=>CB U f.length (o.size::d) q g aj lo aD k z l u) ⟨u5,⟨[],((bK _).ext gE.mono x4).ext gE.mono x5,WL.nil _ _ _ _,rfl,aL⟩,⟨aj,((G.ext x5).cx (λ_ h=>h) bo.size).any,aL⟩,⟨lo,(W.cx (λ_ h=>h) u4.size).any,V,by simpa using hp.aR⟩,V⟩ ?_;clear G W bT bU bK;rintro k z l u B bq μ hk ⟨x6,⟨R,gs,aX,Z,dt⟩,⟨li,G,aT⟩,⟨lm,W,db,bQ⟩,dm⟩ a3
 have v6:=F.trans x6;have dg:=G.len bh;have de:=tm (aD.take k);have dj:=qR k aD;have L:∀j∈o.size::d,j<q.size:=bO hS F.size (N _ aL);have cv:ap B l li:=(G.done L V).le (bA _ _);have cx:ap B u lm:=(W.done L V).le (bA _ _);have dH:=gs.bn;have bT:=G.bn;have bU:=W.bn;have cJ:=fZ (aD.take k);have dh:k<=sw (aD.take k):=by rw[gL]at cJ;omega
 refine dit (λh=>?_) λh=>?_
 .let⟨x,r⟩:=cG aD k;let⟨a,kk,ha,bM,g0,g1,g2,g3,g4⟩:=hs.aE r;refine⟨V,V,_,v6.af g0,_,v6.af g1,_,v6.af g2,_,v6.af g3,_,v6.af g4,?_⟩;intro m7 C;have x8:J B C:=(J.push B _).ah (ad _) _ _;have s8:C.size=B.size+1:=by simp[C,m7,av]
  clear_value C;have T:=x6.trans x8;have z6:=x6.size;have t:∀{g:E},C.size<=g.size->∀c∈[B.size,o.size,m0.size,m.size],c<g.size:=λh c hb=>by
   rcases List.mem_cons.1 hb with p|p
   .omega
   .have:=T.lt (N c p);omega
  have dA:=qb r;have dy:=qU r;have dz:=cV.mH x;have af:WS U f.length False li.length x:=by rw[aT];exact bf.1 k x r
  have bL:=ZO af;have dv:=cK (k+1);have dd:=qy x.bD;have dk:=fZ R;have ae:∀{g:E},J q g->At g b8 cZ a kk U f x:=λh=>⟨hn.le (F.trans h).le,ha.ext (F.trans h),af.fe.call⟩;have aV:∀{g:E},GI (o.size::d) q g l li->ap g l li:=λw=>(w.done L V).le (bA _ _);have bd:∀{g:E},GI (o.size::d) q g u lm->ap g u lm:=λw=>(w.done L V).le (bA _ _);have an:∀{g:E}{am:List Nat},C.size<=g.size->(∀j∈am,j<g.size)->∀j∈am++o.size::d,j<g.size:=λh hb j b=>by
   rcases List.mem_append.1 b with h|h
   .exact hb j h
   .have:=L j h;omega
  refine(oC (ae T).Q6 (aV (G.ext x8)) (ae T).args (bM.le (F.trans T).le) V λc _=>nC c).aI (J.az C) (t (ad _)) λty m9 x9 _=>⟨_,rfl,?_⟩;intro aZ;have b2:J C aZ:=x9.aK _;have e0:ap (bG [] aZ) (.mk m9.size 0 0 0) []:=mO _ _ _ _ _ _;clear_value aZ;rw[kK (k:=k) (n:=aD.length) V (bS▸hs.gW)]at a3⊢
  refine(Aw (.mk aD v) [] aZ aL c1 _ _ _ (k+1) (hs.le (F.trans (T.trans b2)).le) e0 (by simp only[Bk.jZ];omega) (by simp only[Bk.qP,eW];omega)).aI b2 (t (ad _)) λus ul cO hu cL dR bn=>⟨_,rfl,?_⟩;rw[Bk.qP,eW]at cL;refine(O2 (S:=[]) aL hu ((bP.ext (F.trans (T.trans bn))).le (Af _)) V).aI bn (t (ad _)) λlt ll cP ba bY c2 au=>⟨_,rfl,?_⟩;have aH:∀{g:E},GI [] cO g lt ll->ap g lt ll:=λw=>(w.done aL (oh bY.2)).le (bA _ _);have br:=T.trans au;have bx:=G.ext (x8.trans au);have bI:=W.ext (x8.trans au);have cq:=gs.ext gE.mono (x8.trans au);refine(GG (b:=[]) aL (ae br) (aV bx) af.fe.args (bd bI) (aH ba) V).aI (J.az cP) (t au.size) λdu dl cQ ck bZ aw _=>⟨_,rfl,?_⟩;have c6:=bZ.2;have dT:=au.size;have dU:=aw.size;have dS:=bn.size;have d8:=c2.size;refine(eY (c:=[z.D,l.D,u.D]++o.size::d) (an V bE) 14 ((ck.done aL V).le (bA _ _)) V).aI (J.az cQ) (t V) λdO _ a0 ce p ax _=>⟨_,rfl,?_⟩;subst p;have dV:=ax.size;refine GS.all (cq.ext gE.mono (aw.trans ax)) (((br.trans aw).trans ax).fz []) (ce.done gE.mono (an (am:=[z.D,l.D,u.D]) V bE) bh bE) bE λbm bV bv b9 b3 a5=>⟨λj b=>a5 j (t V j b) ?_,?_⟩
  .simp at b;omega
  have aS:J q bV:=b9.ext;have cw:l.D<a0.size:=V;have cy:u.D<a0.size:=V;have cz:z.D≠l.D:=gs.Lq G bh;have cB:z.D≠u.D:=gs.Lq W bh;have di:=ba.bn;have bB:=(bx.ext (aw.trans ax)).jE (a5 _ cw cz.symm);have bJ:=(bI.ext (aw.trans ax)).jE (a5 _ cy cB.symm);have bF:=(ba.ext (aw.trans ax)).jE (a5 _ V V);have dp:bm.D=z.D\/a0.size<=bm.D:=b3.2;have dC:=bv.bn;have dW:=b3.1;refine(Iz (d:=[bm.D,l.D,u.D]++o.size::d) (an V bE) (ae aS).Q6 (aV bB) (ae aS).args (bM.le (F.trans aS).le) (bd bJ) (aH bF) (by rw[aT];exact bQ) V (oh bY.2) V af (ih x (aq r))).aI (J.az bV) (t V) λc9 c_ x' bW cr cs cY ay _=>⟨_,_,_,_,_,rfl,?_⟩;let⟨cM,cI,dx⟩:=cY;have dX:=ay.size;refine GS.kQ (x:=x') (bv.ext gE.mono ay) ((aS.trans ay).fz []) cr cs bE λaK bg bw b_ b4 a6=>⟨λj b=>?_,?_⟩
  .have:=t (g:=bW) V j b;rw[a6 j this (by simp at b;omega),(J.push bW _).same j this]
  have a8:J q bg:=b_.ext;have bC:=(bB.ext ay).jE (a6 _ V V);have cp:=(bJ.ext ay).jE (a6 _ V V);have a_:=(bF.ext ay).jE (a6 _ V V);have dq:aK.D=z.D\/a0.size<=aK.D:=by have:=b4.2;omega
  have dY:=b4.1;refine(IF (b:=[]) aL (ae a8) (aV bC) af.fe.args (bd cp) (aH a_) V).aI (J.az bg) (t V) λar lf cR gf bk az _=>⟨_,rfl,?_⟩;have bs:=a8.trans az;have dZ:=az.size;have cu:∀{g:E},GI [] bg g ar lf->ap g ar lf:=λw=>(w.done aL (oh bk.2)).le (bA _ _);refine(IG (b:=[]) aL (ae bs) (cu gf) (aH (a_.ext az)) V).aI (J.az cR) (t V) λc0 Q cS gd b0 aA _=>⟨_,rfl,?_⟩;have d0:=aA.size;have c8:=b0.2;have c7:=bk.2;have dG:=gf.bn;have dF:=gd.bn;have dE:=bw.bn;refine(eY (c:=[aK.D,ar.D,l.D]++o.size::d) (an V bE) 15 ((gd.done aL V).le (bA _ _)) V).aI (J.az cS) (t V) λdP _ cT ch p ak _=>⟨_,rfl,?_⟩;subst p;have b6:=(bs.trans aA).trans ak;have d3:=ak.size;have cf:GS ([ar.D,l.D]++o.size::d) q cT aK _:=bw.re gE.mono (Y:=[]) (((az.trans aA).trans ak).fz []) aL aL λj b=>by
   simp only[da,eF,aW]at b⊢;rcases b with h|h|h
   .exact Or.inr V
   .exact Or.inl (Or.inl h)
   .exact Or.inl (Or.inr (Or.inr h))
  refine GS.all cf (b6.fz []) (ch.done gE.mono (an (am:=[aK.D,ar.D,l.D]) V bE) bh bE) bE λH a1 ci ca c3 aJ=>⟨λj b=>aJ j (t V j b) ?_,?_⟩
  .simp at b;omega
  have b7:J q a1:=ca.ext;have d4:=c3.1;have cn:=((bC.ext az).ext (aA.trans ak)).jE (aJ _ V V);have cm:=(gf.ext (aA.trans ak)).jE (aJ _ V V);have cj:=(gd.ext ak).jE (aJ _ V V);have co:=((a_.ext az).ext (aA.trans ak)).jE (aJ _ V V);have bc:ap a1 c0 Q:=(cj.done aL V).le (bA _ _);have ct:=bc.len;have cl:GI (o.size::d) q a1 ar lf:=(cm.cx (λ_ h=>h) a8.size).any;refine eA (n:=Q.length) (ct▸bc.gW) (λ_ s g=>J a1 g/\∃e,GI (o.size::d) q g s e/\GS ([s.D,l.D]++o.size::d) q g H (R++dl.map (eZ 14)++[x']++Q.map (eZ 15))/\pC lf e/\l.D≠s.D/\C.size<=s.D) ⟨J.az _,lf,cl,ci,⟨λ_ h=>h,ad _⟩,V,V⟩ ?_;rintro i s bi I2 μ2 hi ⟨aE,e,gl,bb,P,cC,dr⟩ cU;have bu:=b7.trans aE;have d5:=aE.size;have cN:=gl.bn;refine dit (λh2=>?_) λh2=>?_
  .let⟨I,K⟩:=cG Q i;refine⟨V,V,I,(bc.ext aE).aE K,?_⟩;refine(BH (S:=[]) aL (((gl.done L (oh P.2)).le (bA _ _)).le (Af _)) I (oh P.2)).aI (J.az bi) (t V) λac X ab g2 y D _=>⟨_,rfl,cU V _ _ ⟨aE.trans D,X,(g2.cx (λ_ h=>h) bu.size).any,?_,⟨λaF hz=>P.1 aF (y.1 aF hz),bH y.2 P.2⟩,?_,?_⟩⟩
   .have aa:=g2.bn;refine bb.re gE.mono (Y:=[]) (D.fz []) aL aL λj b=>?_;simp only[da,eF,aW]at b⊢;rcases b with h|h|h
    .exact Or.inr V
    .exact Or.inl (Or.inr (Or.inl h))
    .exact Or.inl (Or.inr (Or.inr h))
   .have:=g2.bn;omega
   .have:=g2.bn;omega
  intro dJ;have bD:=cn.ext aE;refine GI.kQ bD (bu.fz []) L V λaa ao ab cb b5 a7=>⟨λj b=>?_,?_⟩
  .have:=t (g:=bi) V j b;rw[a7 j this (by simp at b;omega),(J.push bi _).same j this]
  have a9:J q ao:=cb.ext;have c4:=b5.1;have cF:H.D≠l.D:=bb.Lq bD bh;have aG:=gl.jE (a7 _ cN.2 cC.symm);have bR:=b5.2;have ac:GS ([s.D,aa.D]++o.size::d) q ao H _:=bb.re gE.mono (Y:=[l.D]) ⟨c4,λj b hn=>a7 j b (by simpa using hn)⟩ aL (by simpa using cF) λj b=>by
   simp only[da,eF,aW]at b⊢;rcases b with h|h|h
   .exact Or.inl (Or.inl h)
   .rcases bR with p|p
    .exact Or.inl (Or.inr (Or.inl (h.trans p)))
    .exact Or.inr V
   .exact Or.inl (Or.inr (Or.inr h))
  have bj:aa.D≠s.D:=by rcases bR with p|p<;>omega
  have I:WL U f.length True aj.length (R++dl.map (eZ 14)++[x']++Q.map (eZ 15))/\dc (R++dl.map (eZ 14)++[x']++Q.map (eZ 15))=dc (aD.take (k+1))/\sw (R++dl.map (eZ 14)++[x']++Q.map (eZ 15))+2<=1100*sw (aD.take (k+1)):=by
   have df:dn x'=1:=by unfold dn at bL⊢;rw[cI];exact bL
   have d1:dc (dl.map (eZ 14))=0:=j7 V _;have d2:dc (Q.map (eZ 15))=0:=j7 V _;refine⟨((aX.append (rW V λy A=>?_)).yM ?_).append (rW V λy A=>?_),?_,?_⟩
   .rw[Z,<-aT];exact af.fe.args y (bZ.1 y A)
   .rw[cW,d1,Z,jM,<-aT];exact cM
   .have:=af.fe.args y (b0.1 y A);rw[cW,cW,d1,Z,kU,tn];omega
   .rw[cW,cW,cW,d1,d2,Z,kU,tn];omega
   .rw[dD,dD,dD,oK,oK,mT,vz];omega
  have be:∀y∈e,0<=y/\y<((aj.length+dc (aD.take (k+1)):Nat):Int):=λy A=>by
   have:=bQ y (bk.1 y (P.1 y A));omega
  have bX:∀(g:E),J ao g->bq H aa s ((k+1:Nat):Int) g/\μ H aa s ((k+1:Nat):Int) g<μ z l u k B:=λg r=>
   a3 V _ _ _ _ ⟨a9.trans r,⟨_,(ac.re gE.mono (Y:=[]) (r.fz []) aL aL λj b=>Or.inl (by simp only[da,eF,aW]at b⊢;rcases b with h|h|h;exact Or.inr (Or.inl h);exact Or.inl h;exact Or.inr (Or.inr h))),I.1,I.2.1,V⟩,⟨_,ab.ext r,bE⟩,⟨e,aG.ext r,oh P.2,be⟩,bj⟩
  have dI:=ac.bn;have cX:∀(g:E),J ao g->aN cg 227 [vi (15:Int),vi (l.len:Int)] g λrv D=>eG [B.size,o.size,m0.size,m.size] g D/\∃aM:Int,∃aO:Int,∃aP:Int,∃aQ:O,∃aR:O,rv=.agg #[vi aM,vi aO,vi aP,O.v aQ,O.v aR]/\
   let M2:E:=D.push (.cells (bt [.i aM,.i aO,.i aP,.s aQ,.s aR]) gC)
   jS M2 gC [.i (0:Int),.i (0:Int),.i (0:Int),.s O.nil,.s O.nil] 72 H (O.mk D.size 0 1 1) λb1 K=>eG [B.size,o.size,m0.size,m.size] M2 K/\bq b1 aa s ((k+1:Nat):Int) K/\μ b1 aa s ((k+1:Nat):Int) K<μ z l u k B:=by
   intro g r
   have zx:=r.size
   have dB:=ab.bn
   refine(jv (c:=[H.D,s.D,aa.D]++o.size::d) (an V bE) 15 (l.len:Int)).mono λrv D⟨pa,pk,p,X,h2,ag⟩=>?_
   subst p
   have d7:=ag.size
   have aY:=r.trans ag
   refine⟨ag.dv (t V),_,_,_,_,_,rfl,?_⟩
   have cD:H.D≠aa.D:=ac.Lq ab bh
   have cE:H.D≠s.D:=ac.Lq aG bh
   refine GS.kQ (x:=eZ 15 (l.len:Int)) (ac.ext gE.mono aY) ((a9.trans aY).fz []) X h2 (OR I.2.2 (fZ (R++dl.map (eZ 14)++[x']++Q.map (eZ 15)))) λr' K w aU aF a4=>⟨λj b=>?_,a3 V _ _ _ _ ⟨aU.ext,⟨_,(w.re gE.mono (Y:=[]) ((J.az _).fz []) aL aL λj b=>Or.inl (by simp only[da,eF,aW]at b⊢;rcases b with h|h|h;exact Or.inr (Or.inl h);exact Or.inl h;exact Or.inr (Or.inr h))),I.1.yM (DV V ?_),?_,?_⟩,⟨_,(ab.ext aY).jE (a4 _ V cD.symm),bE⟩,⟨e,(aG.ext aY).jE (a4 _ V cE.symm),oh P.2,be⟩,bj⟩⟩
   .have:=t (g:=D) V j b
    rw[a4 j this (by simp at b;omega),(J.push D _).same j this]
   .rw[I.2.1];omega
   .rw[cW,I.2.1];simp[kU,dn,eZ,pA]
   .rw[dD,mT,vz]
    have h5:(eZ 15 (l.len:Int)).w=2:=by rw[cV.mH];rfl
    have:=I.2.2;omega
  refine⟨λ_=>?_,λh0=>⟨λX=>by rw[h0]at X;simp at X,λ_=>bX ao (J.az _)⟩⟩;refine(dw (aH (((co.ext aE).jE (a7 _ V V)))) _).any.aI (J.az ao) (t V) λc a2 al _=>⟨_,rfl,λ_=>?_,λ_=>⟨λ_=>cX a2 al,λ_=>bX a2 al⟩⟩;intro dK;have cH:H.D≠s.D:=ac.Lq aG bh;have d6:=al.size;refine GI.kQ (aG.ext al) ((a9.trans al).fz []) L (oh P.2) λdN dL cd cc bp bl=>⟨λj b=>?_,a3 V _ _ _ _ ⟨cc.ext,⟨_,(ac.ext gE.mono al).re gE.mono (Y:=[s.D]) ⟨bp.1,λj b hn=>bl j b (by simpa using hn)⟩ aL (by simpa using cH) λj b=>?_,I.1,I.2.1,V⟩,⟨_,(ab.ext al).jE (bl _ ?_ bj),bE⟩,⟨_,cd,?_,?_⟩,?_⟩⟩
  .have:=t (g:=a2) V j b;rw[bl j this (by simp at b;omega),(J.push a2 _).same j this]
  .simp only[da,eF,aW]at b⊢;rcases b with h|h|h
   .exact Or.inl (Or.inr (Or.inl h))
   .rcases bp.2 with p|p
    .exact Or.inl (Or.inl (h.trans p))
    .exact Or.inr V
   .exact Or.inl (Or.inr (Or.inr h))
  .have:=ab.bn;omega
  .have:=P.2;simp;omega
  .intro y A;rcases List.mem_append.1 A with A|A
   .exact be y A
   .simp at A;omega
  .have:=ab.bn;rcases bp.2 with p|p<;>omega
 .have aa:k=aD.length:=V;subst aa;rw[fx]at*;have P:∀(g:E)(H:O)(t:List cV),J q g->GS (l.D::u.D::o.size::d) q g H t->WL U f.length True aj.length t->dc t=dc aD->sw t<=1100*sw aD+2->
   let y:E:=ah g o.size 0 [.s H,.i v]
   ∃s c,Value.agg #[O.v H,vi v]=.agg #[O.v s,vi c.aS]/\eP (bG d y) s c.aD/\(WB U f.length True aj.length c/\c.w+1050<=1100*(Bk.mk aD v).w)/\J m y:=by
   intro g H t r w X h2 h3 y
   have ab:=fZ t
   have:=w.bn
   refine⟨H,.mk t v,rfl,eP.le (cA aL λj b=>ai _ b) (w.re gE.mono (S':=o.size::d) (Y:=[]) (Fz.az _ _) aL aL (λj b=>Or.inl (ai _ (ai _ b)))|>.done gE.mono L bh bE),⟨WB.of X (by rw[h2];exact bf.2),?_⟩,(F.trans r).ah V _ _⟩
   rw[Bk.qP,Bk.qP];omega
  have lW:∀(g:E),J B g->aN cg 227 [vi (14:Int),vi v] g λrv D=>eG [o.size,m0.size,m.size] g D/\∃aM:Int,∃aO:Int,∃aP:Int,∃aQ:O,∃aR:O,rv=.agg #[vi aM,vi aO,vi aP,O.v aQ,O.v aR]/\
   let M2:E:=D.push (.cells (bt [.i aM,.i aO,.i aP,.s aQ,.s aR]) gC)
   jS M2 gC [.i (0:Int),.i (0:Int),.i (0:Int),.s O.nil,.s O.nil] 72 z (O.mk D.size 0 1 1) λQ K=>eG [o.size,m0.size,m.size] M2 K/\
    let y:E:=ah K o.size 0 [.s Q,.i v]
    ∃s c,Value.agg #[O.v Q,vi v]=.agg #[O.v s,vi c.aS]/\eP (bG d y) s c.aD/\(WB U f.length True aj.length c/\c.w+1050<=1100*(Bk.mk aD v).w)/\J m y:=by
   intro g r
   refine(jv (c:=z.D::l.D::u.D::o.size::d) (λj b=>?_) 14 v).mono λrv D⟨a,kk,p,X,h2,x1⟩=>?_
   .have:=r.size
    simp at b
    rcases b with h|h|h|h|h
    .omega
    .omega
    .omega
    .have:=x6.lt (N o.size aL);omega
    .have:=hS _ h;have:=v6.size;omega
   subst p
   have ag:=x6.trans (r.trans x1)
   refine⟨J.oQ (x6.trans r) ag N,_,_,_,_,_,rfl,?_⟩
   refine GS.kQ (x:=eZ 14 v) (gs.ext gE.mono (r.trans x1)) (ag.fz []) X h2 (oh (fZ R)) λr' K w aU aF a4=>⟨J.oQ (ag.aK _) aU.ext N,P K r' _ aU.ext w (aX.yM (DV V (by rw[Z];exact bf.2))) ?_ ?_⟩
   .rw[cW,Z];simp[kU,dn,eZ,pA]
   .rw[dD];simp[mT,cV.mH,eZ];omega
  let⟨aF,hz⟩:=cG li v.toNat;refine⟨V,V,aF,cv.aE hz,λ_=>?_,λ_=>P B z R x6 gs aX Z V⟩;refine(dw (bP.ext v6) v).any.aI x6 N λc m7 I u7=>⟨_,rfl,λ_=>lW m7 I,λ_=>?_⟩;exact(dw (cx.ext I) v).any.aI u7 N λc C x8 T=>⟨_,rfl,λ_=>lW C (I.trans x8),λ_=>P C z R T ((gs.ext gE.mono I).ext gE.mono x8) aX Z V⟩
end
structure ZF(ds:List bz)(nr:Nat)(v lm:List Int)(b:Bk):Prop where
 aR:∀o∈lm,0<=o/\o<(v.length:Int)
 lN:lm.length+5*b.w<=1000000
 vN:v.length+5*b.w<=1000000
 wb:WB ds nr False v.length b
def XV(a:List bz)(d:List gS)(b:Bk):Prop:=∀(S:List Nat)(m:E),(∀c∈S,c<m.size)->∀(f r h t g:O)(v c:List Int),eL m f r a d->ap m h v->eP m t b.aD->ap m g c->ZF a d.length v c b->
 nG 240 [.agg #[O.v f,O.v r],O.v h,.agg #[O.v t,vi b.aS],O.v g] m S λe=>WB a d.length True v.length e/\e.w+20<=40*b.w+2*c.length
def J4{o:List Nat}{m:E}(hS:∀c∈o,c<m.size){ag am ay aY K:O}{G:List bz}{rs:List gS}{v:List Int}{x:cV}(hn:eL m ag am G rs)(hv:ap m ay v)(ha:ap m aY x.args)(hk:nO m K x.bD)
 (vN:v.length+5*x.w<=1000000)(aM:WS G rs.length False v.length x)(ih:∀h∈x.bD,XV G rs h):
 KB 260 [.agg #[O.v ag,O.v am],O.v ay,pw x aY K] m o λx'=>WS G rs.length True v.length x'/\x'.op=x.op/\x'.w<=1+x.args.length+40*bw x.bD:=by
 apply CW
 simp -zeta only[aC,aB]
 intro F e k a5
 let⟨N,H,s0,s1,s2⟩:=qx (a:=F) (b:=e) (c:=k) rfl rfl rfl
 have a_:J k a5:=J.push _ _
 have gk:=GB.new (e.size::o) k
 clear_value k
 have bs:=ha.len;have bk:=hk.len;have hw:=cV.mH x;have bF:=KK x.bD;have bo:=hv.len
 have aK:∀c∈e.size::o,c<k.size:=bO hS N.size (H _ aL)
 refine(iB (e:=[k.size]) (by simp[a5]) (hn.le (N.trans a_).le).bo hn.types x.bP).aI a_ H λc cl m4 d aR x4 u4=>⟨_,rfl,?_⟩
 subst aR
 have bH:=d.len
 refine eA (n:=x.bD.length) (bk▸hk.gW) (λj s M=>Fz [k.size] m4 M/\(s.D=k.size\/m4.size<=s.D)/\∃p,GB (e.size::o) k M s p/\p.length=j/\(∀(aa:Nat)(h:Bk),p[aa]? =some h->WB G rs.length True (v.length+BU G x.op x.bP aa) h)/\bw p<=40*bw (x.bD.take j)) ⟨Fz.az _ _,Or.inl rfl,[],gk.ext rS.mono x4,rfl,aL,aL⟩ ?_
 rintro j s Z aW μ hj ⟨f5,bm,p,C,bI,a4,a0⟩ bq
 have L:=VP u4 f5 (ad _)
 have hy:=C.bn
 refine dit (λu=>?_) λu=>?_
 .intro m6
  have x6:J Z m6:=J.push _ _
  have u6:=L.trans x6
  let⟨h,P⟩:=cG x.bD j
  have bB:=wU P
  have bD:=uE P
  have bu:=QK hn.types x.op x.bP j
  have bx:=qy x.bD
  refine⟨λaZ M=>J Z M/\∃B,ap M aZ B/\B.length=BU G x.op x.bP j,⟨λh8=>?_,λh8=>?_⟩,?_⟩
  .simp only[aG]at h8
   have g:=(aM.fe.all h8).1
   let⟨y,a⟩:=cG (cy G x.bP) j
   refine⟨V,V,y,(eQ.1 ((d.le ((f5.then x6).dg aL)).aE a)).2,?_⟩
   refine(dK (e:=[]) aL ((hn.le (N.trans u6).le).bo.le (Af _)) hn.types y).aI u6 H λaZ B m7 hf aR f i=>⟨_,rfl,x6.trans f,B,hf.le (bA _ _),?_⟩
   subst aR;exact(KH h8 a).symm
  .simp only[aj]at h8
   exact⟨x6,[],mO _ _ _ _ _ _,(KI h8).symm⟩
  rintro fs m8 ⟨R,B,hf,a2⟩
  have e8:(ay.len:Int)=((v.length:Nat):Int):=by rw[bo]
  rw[e8]
  refine(rZ (S:=[]) aL (hf.le (Af _)) v.length V).aI (L.trans R) H λmi ml y gm qm T u9=>⟨_,rfl,?_⟩
  let⟨aU,hs,e0,e1⟩:=hk.aE P
  have v9:=N.trans u9
  refine⟨V,V,_,v9.af e0,_,v9.af e1,?_⟩
  have z5:=L.size
  have g9:=C.ext rS.mono (R.trans T)
  have a3:∀{M:E},J y M->ap M mi ml:=λu=>((gm.done aL (oh qm.2)).le (bA _ _)).ext u
  have bJ:=qm.2
  have E5:∀{M f:E},J k M->J k f->∀{a6:Prop},a6->af f K.D (K.off+Int.toNat (j:Int)*2)=af M K.D (K.off+Int.toNat (j:Int)*2)/\af f K.D (K.off+Int.toNat (j:Int)*2+1)=af M K.D (K.off+Int.toNat (j:Int)*2+1)/\
   af f F.size 4=af M F.size 4/\af f m.size 0=af M m.size 0/\af f m.size 1=af M m.size 1/\a6:=λ{M f} u h' _ hp=>by
   have aD:∀h,h<k.size->∀z,af f h z=af M h z:=λh P z=>aH (by rw[h'.same h P,u.same h P]) z
   exact⟨((N.trans h').af e0).trans ((N.trans u).af e0).symm,((N.trans h').af e1).trans ((N.trans u).af e1).symm,aD _ V _,aD _ V _,aD _ V _,hp⟩
  have ao:∀{M:E},J Z M->∀c∈s.D::e.size::o,c<M.size:=λu c d=>by
   have:=u.size;rcases List.mem_cons.1 d with g|g
   .omega
   .have:=aK c g;omega
  have X:∀{M:E}{a:Nat},J Z M->a<M.size->∀c∈[a,e.size,F.size,m.size],c<M.size:=λu P c d=>by
   rcases List.mem_cons.1 d with g|g
   .omega
   .exact(L.trans u).lt (H c g)
  have tail:∀(M:E)(a:Nat)(Q:O)(i:Bk),GB (a::e.size::o) k M s p->J Z M->J y M->y.size<=a->a<M.size->eP (bG (a::s.D::e.size::o) M) Q i.aD->WB G rs.length True (v.length+B.length) i/\i.w+20<=40*h.w+2*ml.length->
   let l:E:=ah M a 0 [.s Q,.i i.aS]
   aN cg 257 [vi (14:Int),O.v mi] l λrv q=>eG [a,e.size,F.size,m.size] l q/\∃ab:O,rv=O.v ab/\af q a 1=af l a 1/\af q a 0=af l a 0/\
    jS q gC [.i (0:Int),.i (0:Int),.i (0:Int),.s O.nil,.s O.nil] 72 ab Q λau w=>eG [a,e.size,F.size,m.size] q w/\af w a 1=af q a 1/\
     let M4:E:=w.push (.cells (bt [.s au,.i i.aS]) di)
     jS M4 di [.s O.nil,.i (0:Int)] 32 s (O.mk w.size 0 1 1) λac W=>eG [a,e.size,F.size,m.size] M4 W/\aW ac (cQ ((j:Int)+(1:Int))) W/\μ ac (cQ ((j:Int)+(1:Int))) W<μ s j Z:=by
   intro M a Q i C I bp bj bv ak hq l
   have z1:l.size=M.size:=av _ _ _ _
   have z9:=(R.trans T).size
   have ba:J y l:=bp.ah bj _ _
   have U:J Z l:=(R.trans T).trans ba
   have bl:s.D≠a:=V
   have g1:GB (e.size::o) k l s p:=C.re rS.mono (Y:=[a]) ((Fz.az [a] M).ah (Or.inl aL) _ _) aL (by simpa using bl) λc d=>Or.inl (ai _ d)
   have bn:eP (bG (s.D::e.size::o) l) Q i.aD:=ak.le (cA aL λc d=>ai _ d)
   have bC:=Bk.mH i;have a0:=fZ i.aD
   refine(eY (c:=s.D::e.size::o) (ao U) 14 (a3 ba) V).aI (J.az l) (X U V) λab _ q aI g an _=>⟨_,rfl,aH (an.same _ V) _,aH (an.same _ V) _,?_⟩
   subst g
   have z2:=an.size
   refine GS.all aI (an.fz []) (bn.le (tq an aI.bn.1)) bE λau w be bd bM a7=>?_
   have ae:J l w:=bd.ext
   have z3:=ae.size
   have bK:=aI.bn
   refine⟨λc d=>a7 c (oh (X U (a:=a) V c d)) (oh (X U (a:=a) V c d)),aH (a7 _ V V) _,?_⟩
   intro M4
   have bg:=be.done gE.mono (ao U) bh bE
   refine GB.kQ (c:=.mk (ml.map (eZ 14)++i.aD) i.aS) (g1.ext rS.mono ae) ((((L.trans U).trans ae)).fz []) bg V λac W bf br bc a8=>⟨λc d=>?_,bq V _ _ ⟨(f5.then (U.trans ae)).OI bm bc.1 a8,?_,_,bf,bE,λaa b2 r=>?_,?_⟩⟩
   .have:=X (U.trans ae) (a:=a) V c d
    rw[a8 c this (by simp at d;omega),(J.push w _).same c this]
   .have h1:=(f5.then (U.trans ae)).size
    rcases bc.2 with g|g<;>omega
   .rcases aX aa p.length with t|t
    .rw[ax t]at r;exact a4 aa b2 r
    .rw[aJ t]at r
     have:aa -p.length=0:=by have:=aw r;simp at this;omega
     rw[this]at r;simp at r;subst r
     have:aa=j:=V
     subst this
     rw[<-a2]
     refine WB.of ((rW V λz ho=>?_).append ?_) ?_
     .have:=qm.1 z ho;omega
     .rw[j7 V];exact hq.1.aU.1
     .rw[cW,j7 V,bV];exact hq.1.aU.2
   .rw[oZ,uD,zI,Bk.qP,dD,oK]
    have:=hq.2;omega
  have a1:∀(M:E)(aF:List Nat)(aE:Value->E->Prop),J y M->(∀c∈aF,c<M.size)->(∀s f,ap f s (v++B)->J M f->aE (O.v s) f)->aN cg 187 [O.v ay,O.v fs] M λv m'=>eG aF M m'/\aE v m':=λM aF aE I X hK=>
   (eO (S:=[]) aL ((hv.ext (v9.trans I)).le (Af _)) ((hf.ext (T.trans I)).le (Af _)) V).aI (J.az M) X λs ll f C g x _=>hK s f (by subst g;exact(C.done aL bE).le (bA _ _)) x
  have D:∀(M:E)(S':List Nat)(t:O),(∀c∈S',c<M.size)->J y M->ap M t (v++B)->nG 240 [.agg #[O.v ag,O.v am],O.v t,.agg #[O.v aU,vi h.aS],O.v mi] M S' λi=>WB G rs.length True (v.length+B.length) i/\i.w+20<=40*h.w+2*ml.length:=by
   intro M S' t bi I r;have hm:=v9.trans I;have:=ih h (aq P) S' M bi ag am t aU mi (v++B) ml (hn.le hm.le) r (hs.le hm.le) (a3 I) ⟨λz ho=>?_,V,bE,by simp;rw[a2];exact aM.bD j h P⟩
   .simpa using this
   .have:=qm.1 z ho;simp;omega
  have iP:∀(M:E)(a:Nat)(t:O),GB (a::e.size::o) k M s p->J y M->y.size<=a->a<M.size->ap M t (v++B)->
   aN cg 240 [.agg #[O.v ag,O.v am],O.v t,.agg #[O.v aU,vi h.aS],O.v mi] M λrv f=>eG [a,e.size,F.size,m.size] M f/\∃aS:O,∃aT:Int,rv=.agg #[O.v aS,vi aT]/\
    let l:E:=ah f a 0 [.s aS,.i aT]
    aN cg 257 [vi (14:Int),O.v mi] l λrv q=>eG [a,e.size,F.size,m.size] l q/\∃ab:O,rv=O.v ab/\af q a 1=af l a 1/\af q a 0=af l a 0/\
     jS q gC [.i (0:Int),.i (0:Int),.i (0:Int),.s O.nil,.s O.nil] 72 ab aS λau w=>eG [a,e.size,F.size,m.size] q w/\af w a 1=af q a 1/\
      let M4:E:=w.push (.cells (bt [.s au,.i aT]) di)
      jS M4 di [.s O.nil,.i (0:Int)] 32 s (O.mk w.size 0 1 1) λac W=>eG [a,e.size,F.size,m.size] M4 W/\aW ac (cQ ((j:Int)+(1:Int))) W/\μ ac (cQ ((j:Int)+(1:Int))) W<μ s j Z:=by
   intro M a t C I h1 h2 h3
   have x5:=(R.trans T).trans I
   have z9:=(R.trans T).size
   refine(D M (a::s.D::e.size::o) t (λc d=>?_) I h3).aI (J.az M) (X x5 h2) λQ i f ak hq ar _=>⟨_,_,rfl,tail f a Q i (C.ext rS.mono ar) (x5.trans ar) (I.trans ar) h1 (ar.lt h2) ak hq⟩
   rcases List.mem_cons.1 d with g|g
   .omega
   .exact ao x5 c g
  have aQ:∀(M:E)(z:Obj),GB (e.size::o) k M s p->GB (M.size::e.size::o) k (M.push z) s p:=λM z C=>
   C.re rS.mono (Y:=[]) ((J.push M z).fz []) aL aL λc d=>by
    rcases List.mem_cons.1 d with g|g
    .exact Or.inr V
    .exact Or.inl g
  refine⟨a1 y _ _ (J.az _) (λc d=>u9.lt (H c d)) λt aP r A=>⟨_,rfl,E5 u9 (u9.trans A) ⟨?_,?_⟩⟩,?_⟩
  .have al:=u9.trans A
   have vG:=A.size
   refine(D aP (s.D::e.size::o) t (ao ((R.trans T).trans A)) A r).aI al H λQ i aA ak hq az a9=>⟨_,_,rfl,?_⟩
   intro aV
   have bL:=az.size
   exact E5 a9 (a9.aK _) (tail aV aA.size Q i (aQ aA _ ((g9.ext rS.mono A).ext rS.mono az)) ((((R.trans T).trans A).trans az).aK _) ((A.trans az).aK _) V (by simp[aV]) (ak.le (tq (J.push aA _) (ad _))) hq)
  .intro az
   have al:=u9.trans A
   have vG:=A.size
   exact E5 al (al.aK _) (iP az aP.size t (aQ aP _ (g9.ext rS.mono A)) (A.aK _) V (by simp[az]) (r.ext (J.push _ _)))
  .intro al
   have az:J y al:=J.push _ _
   have aV:J k al:=u9.trans az
   refine E5 u9 aV (a1 al _ _ az (X ((R.trans T).trans az) (by simp[al])) λt a9 r aA=>⟨_,rfl,E5 aV (aV.trans aA) ?_⟩)
   exact iP a9 y.size t ((aQ y _ g9).ext rS.mono aA) (az.trans aA) (ad _) (aA.lt (by simp[al])) r
 .have f:p.length=x.bD.length:=V
  rw[bY V]at a0
  refine(bN (e.size::o) (ha.ext (N.trans L)) V).aI L H λi l m6 a g x6 u6=>⟨_,rfl,aH (x6.same _ (L.lt (H _ aL))) _,aH (x6.same _ (L.lt (H _ aL))) _,?_⟩
  subst g
  intro m7
  refine⟨i,s,⟨x.op,x.bP,0,x.args,p⟩,rfl,(a.done (λc d=>aO (aK c d) L.size) V).le (cA aL λc d=>ai _ d),nO.le (cA aL λc d=>ai _ d) ((C.ext rS.mono x6).done rS.mono aK bh (by have:=qy x.bD;show p.length<=_;omega)),⟨aM.PT (λu=>u.elim) ⟨V,V⟩ f a4,rfl,?_⟩,(N.trans u6).ah V _ _⟩
  rw[cV.mH]
  simp only
  omega
structure LB(ds:List bz)(nr:Nat)(S:List Nat)(m2 M:E)(v lm:List Int)(aD:List cV)(k:Nat)(st inn ow:O):Prop where
 x:J m2 M
 hs:∃l,GS (inn.D::ow.D::S) m2 M st l/\WL ds nr True v.length l/\dc l=dc (aD.take k)/\sw l+2*k<=40*sw (aD.take k)
 hi:∃l,GI S m2 M inn l/\l.length=v.length+dc (aD.take k)
 ho:∃l,GI S m2 M ow l/\l.length<=lm.length+k/\∀o∈l,0<=o/\o<((v.length+dc (aD.take k):Nat):Int)
 ne:inn.D≠ow.D
def IE{D:List bz}{G:List gS}:∀p:Bk,XV D G p:=by
 refine Bk.ind ?_;intro aD A ih j C hS bc bP ci ch ce H lm hn hv hs bq hp;have au:=hp.wb.aU;simp only[Bk.jZ,Bk.jC]at*;have lN:=hp.lN;have vN:=hp.vN;rw[(Bk.qP aD A)]at lN vN;apply Ba;simp -zeta only[aC,aB];intro m d f ac;let⟨B,u,s0,s1,s2⟩:=qx (a:=m) (b:=d) (c:=f) rfl rfl rfl;have aM:J f ac:=J.push _ _;have aV:∀I,GS I f ac (.mk f.size 0 0 0) []:=λI=>GS.new I f;have s3:ac.size=f.size+1:=by simp[ac]
 clear_value ac;clear_value f;have bB:=hs.len;have bD:=BL aD;have b1:=fZ aD;refine(bN j (hv.ext (B.trans aM)) V).aI aM u λg _ m4 r e x4 u4=>⟨_,rfl,?_⟩;subst e;refine(bN j (bq.ext (B.trans u4)) V).aI u4 u λi _ m5 z e x5 u5=>⟨_,rfl,?_⟩;subst e;have a5:=r.bn;have bI:=z.bn;refine RL (n:=aD.length) (bB▸hs.gW) (λk t g i a=>LB D G.length (d.size::j) f a H lm aD k t g i) ⟨u5,⟨[],((aV _).ext gE.mono x4).ext gE.mono x5,WL.nil _ _ _ _,rfl,aL⟩,⟨H,((r.ext x5).cx (λ_ h=>h) aM.size).any,aL⟩,⟨lm,(z.cx (λ_ h=>h) u4.size).any,V,by simpa using hp.aR⟩,V⟩ ?_;clear r z a5 bI aV;rintro k t g i s ba μ hk ⟨W,⟨R,K,aw,P,b2⟩,⟨li,r,an⟩,⟨lo,z,bS,a1⟩,a3⟩ bL
 have v6:=B.trans W;have bV:=r.len bh;have bT:=tm (aD.take k);have bX:=qR k aD;have L:∀c∈d.size::j,c<f.size:=bO hS B.size (u _ aL);have cb:=K.bn;have a5:=r.bn;have b_:=z.bn;have bC:=fZ (aD.take k);have bW:k<=sw (aD.take k):=by rw[gL]at bC;omega
 have bY:=fZ R;have z6:=W.size;have ak:∀{a:E},GI (d.size::j) f a g li->ap a g li:=λq=>(q.done L V).le (bA _ _);have aZ:∀{a:E},GI (d.size::j) f a i lo->ap a i lo:=λq=>(q.done L V).le (bA _ _);have N:∀{a:E}{I:List Nat},s.size<=a.size->(∀c∈I,c<a.size)->∀c∈I++d.size::j,c<a.size:=λh hb c b=>by
  rcases List.mem_append.1 b with h|h
  .exact hb c h
  .have:=L c h;omega
 have aX:∀{a:E},J s a->∀c∈[d.size,m.size,C.size],c<a.size:=λh c b=>(W.trans h).lt (u c b);have bs:t.D≠g.D:=K.Lq r bh;have a4:t.D≠i.D:=K.Lq z bh;refine dit (λh=>?_) λh=>?_
 .let⟨ae,v⟩:=cG aD k;let⟨bb,kk,ha,a0,g0,g1,g2,g3,g4⟩:=hs.aE v;refine⟨V,V,_,v6.af g0,_,v6.af g1,_,v6.af g2,_,v6.af g3,_,v6.af g4,?_⟩;intro m7 y;have x8:J s y:=(J.push s _).ah (ad _) _ _;have s8:y.size=s.size+1:=by simp[y,m7,av]
  clear_value y;have u8:=W.trans x8;have w:∀{a:E},y.size<=a.size->∀p∈[s.size,d.size,m.size,C.size],p<a.size:=λh p hb=>by
   rcases List.mem_cons.1 hb with e|e
   .omega
   .have:=u8.lt (u p e);omega
  have b7:=qb v;have b5:=qU v;have b6:=cV.mH ae;have aa:WS D G.length False li.length ae:=by rw[an];exact au.1 k ae v
  have aY:=ZO aa;have b3:=bD (k+1);have Z:∀{a:E},J f a->At a bc bP bb kk D G ae:=λh=>⟨hn.le (B.trans h).le,ha.ext (B.trans h),aa.fe.call⟩;refine(oC (Z u8).Q6 (ak (r.ext x8)) (Z u8).args (a0.le (B.trans u8).le) V λp _=>nC p).aI (J.az y) (w (ad _)) λty m9 x9 _=>⟨_,rfl,?_⟩;have X9:=u8.trans x9;have z9:=x9.size;refine(yR (b:=[]) aL (Z X9) (ak ((r.ext x8).ext x9)) aa.fe.args V).aI (J.az m9) (w V) λdu X bJ bl a8 aJ _=>⟨_,rfl,?_⟩;have bR:=a8.2;have vG:=aJ.size;refine(eY (c:=[t.D,g.D,i.D]++d.size::j) (N V bE) 14 ((bl.done aL V).le (bA _ _)) V).aI (J.az bJ) (w V) λcf _ ax bi e aK _=>⟨_,rfl,?_⟩;subst e;have cj:=aK.size;have aO:J s ax:=(((x8.trans x9).trans aJ).trans aK);refine GS.all (K.ext gE.mono aO) (((X9.trans aJ).trans aK).fz []) (bi.done gE.mono (N (I:=[t.D,g.D,i.D]) V bE) bh bE) bE λaG a6 aR bd a9 ay=>⟨λc b=>ay c (w V c b) ?_,?_⟩
  .simp at b;omega
  have aj:J f a6:=bd.ext;have aS:=(r.ext aO).jE (ay _ V bs.symm);have bm:=(z.ext aO).jE (ay _ V a4.symm);have bZ:aG.D=t.D\/ax.size<=aG.D:=a9.2;have b8:=aR.bn;have cl:=a9.1;refine(J4 (o:=[aG.D,g.D,i.D]++d.size::j) (N V bE) (Z aj).Q6 (ak aS) (Z aj).args (a0.le (B.trans aj).le) V aa (ih ae (aq v))).aI (J.az a6) (w V) λca ck U a7 bo bp bM ag _=>⟨_,_,_,_,_,rfl,?_⟩;let⟨bF,bw,b4⟩:=bM;have cm:=ag.size;refine GS.kQ (x:=U) (aR.ext gE.mono ag) ((aj.trans ag).fz []) bo bp bE λF al ao be a_ az=>⟨λc b=>?_,?_⟩
  .have:=w (a:=a7) V c b;rw[az c this (by simp at b;omega),(J.push a7 _).same c this]
  have aQ:J f al:=be.ext;have cn:=a_.1;have aT:=(aS.ext ag).jE (az _ V V);have ar:=(bm.ext ag).jE (az _ V V);have b0:F.D=t.D\/ax.size<=F.D:=by have:=a_.2;omega
  have B1:WL D G.length True H.length (R++X.map (eZ 14)++[U])/\dc (R++X.map (eZ 14)++[U])=dc (aD.take (k+1))/\sw (R++X.map (eZ 14)++[U])+2*(k+1)<=40*sw (aD.take (k+1)):=by
   have bU:dn U=1:=by unfold dn at aY⊢;rw[bw];exact aY
   have d1:dc (X.map (eZ 14))=0:=j7 V _;refine⟨((aw.append (rW V λo l=>?_)).yM ?_),?_,?_⟩
   .rw[P,<-an];exact aa.fe.args o (a8.1 o l)
   .rw[cW,d1,P,jM,<-an];exact bF
   .rw[cW,cW,d1,P,kU,tn];omega
   .rw[dD,dD,oK,mT,vz];omega
  have a2:∀o∈lo,0<=o/\o<((H.length+dc (aD.take (k+1)):Nat):Int):=λo l=>by
   have:=a1 o l;omega
  have aU:∀(a:E)(T:O)(ab:List Int),J f a->y.size<=a.size->GS (g.D::T.D::d.size::j) f a F (R++X.map (eZ 14)++[U])->GI (d.size::j) f a g li->GI (d.size::j) f a T ab->g.D≠T.D->ab.length<=lm.length+(k+1)->(∀o∈ab,0<=o/\o<((H.length+dc (aD.take (k+1)):Nat):Int))->
   jS (a.push (.cells (bt [.i ty]) aA)) aA [.i (0:Int)] 8 g (O.mk a.size 0 1 1) λaI M'=>eG [s.size,d.size,m.size,C.size] (a.push (.cells (bt [.i ty]) aA)) M'/\ba F aI T (cQ ((k:Int)+(1:Int))) M'/\μ F aI T (cQ ((k:Int)+(1:Int))) M'<μ t g i k s:=by
   intro a T ab v Q q gI gO br bn bx
   have b9:=gI.bn;have bH:=gO.bn
   have bv:F.D≠g.D:=q.Lq gI bh
   refine GI.kQ gI (v.fz []) L V λaI M' bk bg aP aF=>⟨λc b=>?_,bL V _ _ _ _ ⟨bg.ext,⟨_,q.re gE.mono (Y:=[g.D]) ⟨aP.1,λc b hn=>aF c b (by simpa using hn)⟩ aL (by simpa using bv) (λc b=>?_),B1.1,B1.2.1,B1.2.2⟩,⟨_,bk,bE⟩,⟨ab,gO.jE (aF _ bH.2 br.symm),bn,bx⟩,?_⟩⟩
   .have:=w Q c b
    rw[aF c this (by simp at b;omega),(J.push a _).same c this]
   .simp only[aW]at b⊢
    rcases b with h|h|h
    .rcases aP.2 with e|e
     .exact Or.inl (Or.inl (h.trans e))
     .exact Or.inr V
    .exact Or.inl (Or.inr (Or.inl h))
    .exact Or.inl (Or.inr (Or.inr h))
   .rcases aP.2 with e|e<;>omega
  refine⟨λ_=>?_,λ_=>?_⟩
  .intro cc;have bu:F.D≠i.D:=ao.Lq ar bh;refine GI.kQ ar (aQ.fz []) L V λbQ bK bj bf am aE=>⟨λc b=>?_,?_⟩
   .have:=w (a:=al) V c b;rw[aE c this (by simp at b;omega),(J.push al _).same c this]
   intro cd;have co:=am.1;refine aU bK bQ _ bf.ext V (ao.re gE.mono (Y:=[i.D]) ⟨am.1,λc b hn=>aE c b (by simpa using hn)⟩ aL (by simpa using bu) λc b=>?_) (aT.jE (aE _ V a3)) bj ?_ bE ?_
   .simp only[da,eF,aW]at b⊢;rcases b with h|h|h
    .exact Or.inl (Or.inl h)
    .rcases am.2 with e|e
     .exact Or.inl (Or.inr (Or.inl (h.trans e)))
     .exact Or.inr V
    .exact Or.inl (Or.inr (Or.inr h))
   .rcases am.2 with e|e<;>omega
   .intro o l;rcases List.mem_append.1 l with l|l
    .exact a2 o l
    .simp at l;omega
  .intro am;exact aU al i lo aQ V ao aT ar a3 V a2
 .have ar:k=aD.length:=V;subst ar;rw[fx]at*;have al:∀(a:E)(X:O)(F:List cV),J f a->s.size<=a.size->GS (g.D::i.D::d.size::j) f a X F->ap a i lo->WL D G.length True H.length F->dc F=dc aD->sw F+2*aD.length<=40*sw aD+2->
   aN cg 257 [vi (15:Int),O.v i] a λrv y=>eG [d.size,m.size,C.size] a y/\∃ae:O,rv=O.v ae/\af y m.size 1=af a m.size 1/\
    jS y gC [.i (0:Int),.i (0:Int),.i (0:Int),.s O.nil,.s O.nil] 72 X ae λaa Z=>eG [d.size,m.size,C.size] y Z/\af Z m.size 1=af y m.size 1/\
     let T:E:=ah Z d.size 0 [.s aa,.i A]
     ∃am p,Value.agg #[O.v aa,vi A]=.agg #[O.v am,vi p.aS]/\eP (bG j T) am p.aD/\(WB D G.length True H.length p/\p.w+20<=40*(Bk.mk aD A).w+2*lm.length)/\J C T:=by
   intro a X F v Q q l aE aj aG
   have hy:=q.bn
   have aF:=fZ F
   have az:m.size<a.size:=v.lt (u _ aL)
   refine(eY (c:=[X.D,g.D,i.D]++d.size::j) (N Q bE) 15 l V).aI v u λae _ y ao e w u1=>⟨_,rfl,aH (w.same _ az) _,?_⟩
   subst e
   have z1:=w.size
   have ax:∀c∈[d.size,m.size,C.size],c<y.size:=λc b=>u1.lt (u c b)
   have ay:∀c∈[d.size,m.size,C.size],c<f.size:=u
   refine GS.all (q.ext gE.mono w) (u1.fz []) (ao.done gE.mono (N (I:=[X.D,g.D,i.D]) Q bE) bh bE) bE λaa Z g2 ab ag U=>⟨λc b=>U c (ax c b) (oh (ay c b)),aH (U _ V V) _,?_⟩
   intro T
   refine⟨aa,.mk _ A,rfl,eP.le (cA aL λc b=>ai _ b) ((g2.re gE.mono (S':=d.size::j) (Y:=[]) (Fz.az _ _) aL aL (λc b=>Or.inl (ai _ (ai _ b)))).done gE.mono L bh bE),⟨WB.of (aE.append (rW V λo l=>?_)) ?_,?_⟩,(B.trans ab.ext).ah V _ _⟩
   .have:=a1 o l;rw[aj];exact this
   .rw[cW,j7 V,aj];exact au.2
   .rw[Bk.qP,Bk.qP,dD,oK];omega
  let⟨ag,Q⟩:=cG li A.toNat;refine⟨V,V,ag,(ak r).aE Q,λ_=>?_,λ_=>al s t R W (ad _) K (aZ z) aw P V⟩;refine(jv (c:=[t.D,g.D,i.D]++d.size::j) (N (ad _) bE) 14 A).mono λrv y⟨pa,pk,e,h1,h2,w⟩=>?_;subst e;refine⟨w.dv (aX (J.az _)),_,_,_,_,_,rfl,?_⟩;have z1:=w.size;refine GS.kQ (x:=eZ 14 A) (K.ext gE.mono w) ((W.trans w).fz []) h1 h2 V λr' T q ab ag U=>⟨λc b=>?_,al T r' _ ab.ext V q (aZ ((z.ext w).jE (U _ V a4.symm))) (aw.yM (DV V (by rw[P];exact au.2))) ?_ ?_⟩
  .have:=aX w c b;have h5:=u c b;rw[U c this V,(J.push y _).same c this]
  .rw[cW,P];simp[kU,dn,eZ,pA]
  .rw[dD,mT,vz];have h5:(eZ 14 A).w=2:=by rw[cV.mH];rfl
   omega
section
variable{b:List Nat}{f d h:E}{p t k:O}{q:gS}{l:Int}{g e j:Nat}
def mX.mono:oJ 1 mX:=⟨λh=>mX.le h _ _,λ⟨_,h,_⟩=>by rw[h];rfl⟩
def iS.mono:oJ 3 iS:=⟨λh=>iS.le h _ _,λ⟨_,h,_⟩=>by rw[h];rfl⟩
def fV(v:∀c∈b,c<f.size){bo:O}{j:List bz}(hd:cw f bo j)(w:dU j):aN cg 202 [O.v bo] f λT B=>∃s,T=O.v s/\cw (bG b B) s j/\J f B:=by
 apply AH;intro N;have ab:=hd.len;have aa:=w.len;have u:Gr b f N j9 3 iS (.mk f.size 0 0 0) []:=Gr.new b (ad _) _ _ _;refine eA (n:=j.length) V (λq s M=>J f M/\Gr b f M j9 3 iS s (j.take q)) ⟨J.push _ _,u⟩ ?_;rintro q s d X μ hk ⟨r,m⟩ R
 have hy:=m.bn;refine dit (λl=>?_) λl=>?_
 .let⟨i,o⟩:=cG j q;let⟨z,A,u,g1,g2⟩:=hd.aE o;have ac:=A.len;have Z:=lJ w o;intro P;have k:Gr (s.D::b) d P pt 1 mX (.mk d.size 0 0 0) []:=Gr.new _ (ad _) _ _ _;refine eA (n:=i.cons.length) V (λy c M=>J d M/\Gr (s.D::b) d M pt 1 mX c (i.cons.take y)) ⟨J.push _ _,k⟩ ?_;rintro y c C Y μ2 hj ⟨t,k⟩ Q;have g:=r.trans t;refine⟨V,V,z,g.af g2,dit (λK=>?_) λK=>?_⟩
  .let⟨E,x⟩:=cG i.cons y;let⟨U,L,H⟩:=A.aE x;have ae:E.length<=3:=(((w.dA q i o).je V).2.2.2 E (aq x)).1;refine⟨V,V,z,g.af g2,V,V,U,g.af H,?_⟩;have af:=k.bn;refine(bN (c.D::s.D::b) (L.ext g) V).then λW _ h I e D=>⟨_,rfl,?_⟩;subst e;intro M;refine Gr.kQ (g:=[.s .nil]) mX.mono bh (k.ext mX.mono D) ((t.trans D).fz []) ⟨W,rfl,I.done (λe p=>?_) V⟩ bE λS m7 G F _ _=>Q V _ _ ⟨F.ext,by rw[aV x];exact G⟩;have:=t.size;simp only[aW]at p;rcases p with l|l|l
   .omega
   .omega
   .have:=v e l;have:=r.size;omega
  .refine⟨V,V,_,g.af u,V,V,_,g.af g1,?_⟩;intro h;rw[bY V]at k;have D:eT (bG (s.D::b) C) 1 (mX (bG (s.D::b) C)) c i.cons:=k.done mX.mono (λe p=>by
    rcases List.mem_cons.1 p with x|x
    .omega
    .have:=v e x;have:=r.size;omega) bh V
   refine Gr.kQ (g:=[.i 0,.i 0,.s .nil]) (k:=i) iS.mono bh (m.ext iS.mono t) (g.fz []) ⟨c,rfl,D⟩ bE λS M x p _ _=>R V _ _ ⟨p.ext,by rw[aV o];exact x⟩
 .rw[bY V]at m;exact⟨s,rfl,m.done iS.mono v bh V,r⟩
def yr(H:∀i∈b,i<f.size){B:O}{b1:Int}(I:ap f p q.params)(K:ap f t q.cU)(u:q.params.length<=100/\q.cU.length<=100):
 aN cg 229 [.agg #[O.v p,O.v t,vi q.aS,O.v B,vi l],.agg #[O.v k,vi b1]] f λP x=>∃m n,P=.agg #[O.v m,O.v n,vi q.aS,O.v k,vi b1]/\ap (bG b x) m q.params/\ap (bG b x) n q.cU/\J f x:=by
 apply Dp
 simp -zeta only[aC,aB]
 intro L j d
 let⟨s,w,S,T,U⟩:=qx (a:=L) (b:=j) (c:=d) rfl rfl rfl
 clear_value d
 have z:∀i∈j.size::b,i<d.size:=bO H s.size (w _ aL)
 have c:∀{M y:E},J d M->J d y->∀g,g<d.size->∀o,af y g o=af M g o:=λF G g u o=>aH (by rw[G.same g u,F.same g u]) o
 refine(bN (j.size::b) (I.ext s) V).aI (J.az d) w λm _ R C e a _=>⟨_,rfl,c (J.az _) a _ V _,c (J.az _) a _ V _,c (J.az _) a _ V _,c (J.az _) a _ V _,?_⟩
 subst e
 refine(bN (j.size::b) (K.ext (s.trans a)) V).aI a w λn _ N D e Q r=>⟨_,rfl,c a r _ V _,c a r _ V _,c a r _ V _,?_⟩
 subst e
 intro h
 have A:Le (bG (j.size::b) N) (bG b h):=cA aL λi v=>ai _ v
 exact⟨m,n,rfl,((C.done z V).le (Q.dg _)).le A,(D.done (λi v=>a.lt (z i v)) V).le A,(s.trans r).ah V _ _⟩
abbrev GR(b:List Nat)(a f:E)(s:O)(l:List gS):Prop:=Gr b a f jW 5 iX s l
def wh{L:List Nat}{m M:E}{v s:O}{x:List gS}{r:Bk}{N:O}{K:E->Prop}(W:∀c∈b,c<m.size)(w:∀c∈L,c<M.size/\c≠g/\c≠s.D)(A:J m M)(y:GR (g::b) m M s x)
 (z:cF M g nv [.s v,.s s])(Z:m.size<=g)(hp:ap M p q.params)(ht:ap M t q.cU)(aa:eP (bG (s.D::g::b) M) k r.aD)(X:q.params.length<=100/\q.cU.length<=100)(hl:x.length<=100)
 (U:∀u d,GR (g::b) m d u (x++[⟨q.params,q.cU,q.aS,r⟩])->cF d g nv [.s v,.s u]->J m d->K d):
 aN cg 229 [.agg #[O.v p,O.v t,vi q.aS,O.v N,vi l],.agg #[O.v k,vi r.aS]] M λH j=>eG L M j/\∃B:O,∃C:O,∃D:Int,∃F:O,∃G:Int,H=.agg #[O.v B,O.v C,vi D,O.v F,vi G]/\af j g 1=af M g 1/\
  let n:E:=j.push (.cells (bt [.s B,.s C,.i D,.s F,.i G]) jW)
  af n g 1=af j g 1/\
  jS n jW [.s O.nil,.s O.nil,.i (0:Int),.s O.nil,.i (0:Int)] 88 s (O.mk j.size 0 1 1) λab o=>eG L n o/\fK o g 1 1/\
   let d:E:=ah o g 1 [.s ab]
   eG L o d/\K d:=by
 have hy:=y.bn
 have Y:=z.lt
 have hz:=A.size
 refine(yr (b:=s.D::g::b) (λc f=>?_) hp ht X).mono λH j⟨p',t',e,R,T,h⟩=>?_
 .simp only[aW]at f
  rcases f with e|e|e
  .omega
  .omega
  .have:=W c e;omega
 subst e
 refine⟨h.dv λc f=>(w c f).1,_,_,_,_,_,rfl,aH (h.same _ Y) _,?_⟩
 intro n
 refine Gr.box (g:=[.s .nil,.s .nil,.i 0,.s .nil,.i 0]) (j:=1) (i:=[.s v,.s s]) (w:=⟨q.params,q.cU,q.aS,r⟩) iX.mono bh (y.ext iX.mono h) ((A.trans h).fz []) ⟨p',t',k,rfl,R,T,aa.le (h.dg _)⟩ V (z.ext h) aL bh ⟨Z,aL⟩ (λc f=>⟨h.lt (w c f).1,(w c f).2⟩) λu m' Q I P z' q'=>U u m' Q I P.ext
def lx{β:Type}{a c:E}{g:O}{l:Nat}{f:E->List Ce->β->Prop}(q:oJ l f)(p:a=d.push (.cells (bt []) e))(i:c=a.push (.cells (bt [.s O.nil,.s O.nil]) j))(k:h=ah c a.size 0 [.s g,.s (O.mk d.size 0 0 0)]):
 J d h/\cF h a.size j [.s g,.s (O.mk d.size 0 0 0)]/\Gr b d h e l f (.mk d.size 0 0 0) []/\a.size=d.size+1/\h.size=d.size+2:=by
 subst p
 have n:J (d.push (.cells (bt []) e)) h:=by subst i k;exact(J.push _ _).ah (ad _) _ _
 refine⟨(J.push d _).trans n,?_,(Gr.new b (ad _) e l f).ext q n,aL,by subst i k;simp[av]⟩
 have s:cF c (d.push (.cells (bt []) e)).size j [.s O.nil,.s O.nil]:=by rw[i];exact cF.push _ _ _
 rw[k]
 exact cF.ah (m:=c) (o:=0) (r:=[.s g,.s (.mk d.size 0 0 0)]) s
def k8{β:Type}{o b1 r:Nat}{p:E->List Ce->β->Prop}{c A:O}{F:List bz}(G:oJ o p)(hz:0<o)(ac:j≠e)(X:∀w∈b,w<f.size)(Y:f.size<=b1/\b1<d.size)(K:J f d)(ak:g=d.size+1)
 (Z:cw (bG (b1::b) d) c F)(hn:A.len=r)(al:r<=1000)(ad:J d h)(U:cF h g j [.s c,.s (O.mk d.size 0 0 0)])(aa:Gr (g::b1::b) d h e o p (.mk d.size 0 0 0) [])(y:Nat->β->Prop)
 {C:(Int->E->Prop)->(Int->E->Nat)->Int->E->Prop}{R:O->O->E->Prop}
 (W:∀D N l q,cw (bG b q) D F->eT (bG b q) o (p (bG b q)) N l->l.length=r->(∀(i:Nat)(x:β),l[i]? =some x->y i x)->J f q->R D N q)
 (T:∀(k:Nat)(M:E)(s:O)(l:List β)(I:Int->E->Prop)(μ:Int->E->Nat),k<r->l.length=k->J d M->Gr (g::b1::b) d M e o p s l->cF M g j [.s c,.s s]->
  (∀u a x,Gr (g::b1::b) d a e o p u (l++[x])->cF a g j [.s c,.s u]->J d a->y k x->I (cQ ((k:Int)+1)) a/\μ (cQ ((k:Int)+1)) a<μ k M)->C I μ k M):
 ∃(v:Int->E->Prop)(μ0:Int->E->Nat),v (0:Int) h/\(∀(i:Int)(M:E),v i M->
  ((decide (i<(A.len:Int)))=true->C v μ0 i M)/\
  ((decide (i<(A.len:Int)))=false->∃m:O,af M g 0=some (O.v m)/\∃t:O,af M g 1=some (O.v t)/\
   let a:E:=ah M b1 0 [.s m,.s t]
   R m t a)):=by
 refine dV (n:=r) V (λk M=>J d M/\∃s l,Gr (g::b1::b) d M e o p s l/\cF M g j [.s c,.s s]/\l.length=k/\∀(i:Nat)(x:β),l[i]? =some x->y i x) ⟨ad,_,[],aa,U,rfl,aL⟩ ?_
 rintro k M I μ hk ⟨x,s,l,t,B,ab,H⟩ ae
 refine dit (λS=>?_) λS=>?_
 .refine T k M s l I μ V ab x t B λu a ag Q P x' L=>ae V _ ⟨x',u,_,Q,P,bE,λi aj m=>?_⟩
  rcases aX i l.length with z|z
  .rw[ax z]at m;exact H i aj m
  .rw[aJ z]at m
   have:i -l.length=0:=by have:=aw m;simp at this;omega
   rw[this]at m;simp at m;subst m
   have:i=k:=V
   subst this;exact L
 .refine⟨c,B.bZ 0,s,B.bZ 1,?_⟩
  intro a
  have L:=t.bn
  have z:=t.ne B ac
  have u:Le (bG (g::b1::b) M) (bG b a):=cA aL λw m=>ai _ (ai _ m)
  refine W c s l a (Z.le ((x.bG λw m=>?_).trans u)) (eT.le (t.nQ G (λm=>?_) hz V) u λP ag=>G.le u) V H ((K.trans x).ah Y.1 _ _)
  .rcases List.mem_cons.1 m with e|e
   .exact Or.inr V
   .exact Or.inl e
  .simp only[aW]at m
   rcases m with e|e|e
   .exact z e
   .omega
   .have:=X _ e;have:=K.size;omega
structure yx(ds:List bz)(rs:List gS)(c:Prop)(W:Nat):Prop where
 je:0<rs.length
 dA:∀q∈rs,q.params.length<=3/\q.cU.length<=3/\WB ds rs.length c q.params.length q.body/\q.body.w<=W
def vd(h:Nat)(e:List Value)(f:E)(b:List Nat)(g:List bz)(Q:List gS->Prop):Prop:=aN cg h e f λv a=>∃d r c,v=.agg #[O.v d,O.v r]/\eL (bG b a) d r g c/\Q c/\J f a
def Ia{d:List bz}{a b:List gS}{c:Prop}{W:Nat}(j:0<a.length)(f:b.length=a.length)(h:∀(i:Nat)(q:gS),b[i]? =some q->q.params.length<=3/\q.cU.length<=3/\WB d a.length c q.params.length q.body/\q.body.w<=W):yx d b c W:=
 ⟨V,λq g=>by obtain⟨i,e⟩:=List.mem_iff_getElem?.1 g;rw[f];exact h i q e⟩
def IS(G:∀i∈b,i<f.size){D:O}{e cU:List Int}{K:Int}(B:ap f p e)(H:ap f t cU)(P:e.length<=100):
 lz 241 [.agg #[O.v p,O.v t,vi K,O.v D,vi l]] f b λa=>(∀o∈a,0<=o/\o<(e.length:Int))/\a.length<=e.length:=by
 apply Bj
 simp -zeta only[aC,aB]
 intro c d
 have v:J f c:=J.push _ _
 have A:∀x∈[f.size],x<c.size:=by simp[c]
 have E:GI b c d (.mk c.size 0 0 0) []:=GI.nil b c
 have L:J c d:=J.push _ _
 clear_value d
 clear_value c
 have R:=B.len
 refine eA (n:=e.length) V (λm s M=>J c M/\∃a,GI b c M s a/\(∀o∈a,0<=o/\o<(e.length:Int))/\a.length<=m) ⟨L,[],E,aL,ad _⟩ ?_
 rintro m s S N μ Q ⟨w,a,j,k,z⟩ q
 have r:=v.trans w
 refine⟨λg=>?_,λg=>⟨s,a,rfl,j.cx (λ_ g=>g) v.size,⟨k,by simp at g;omega⟩,r⟩⟩
 simp only[ar]at g
 let⟨M,I⟩:=cG e m
 refine⟨V,V,M,(B.ext r).aE I,λ_=>?_,λ_=>q V _ _ ⟨w,a,j,k,V⟩⟩
 refine(dw (H.ext r) m).any.aI w A λx T C u=>⟨_,rfl,λ_=>?_,λ_=>q V _ _ ⟨u,a,j.ext C,k,V⟩⟩
 intro h
 refine GI.kQ (j.ext C) (u.fz []) (λi z=>v.lt (G i z)) V λW U F y _ _=>⟨J.oQ (u.aK _) y.ext A,q V _ _ ⟨y.ext,_,F,λo i=>?_,bE⟩⟩
 rcases List.mem_append.1 i with i|i
 .exact k o i
 .simp at i;omega
end
section
variable{a:List Nat}{b:E}{d r:O}{c:List gS}
def Iy(hS:∀e∈a,e<b.size){Z aj t:O}{Q:List bz}{q:gS}(hn:eL b d r Q c)(W:ap b Z q.params)(ht:ap b aj q.cU)(hs:eP b t q.body.aD)(aI:q.params.length<=3)(aq:WB Q c.length False q.params.length q.body)(hw:q.body.w<=95):
 nG 239 [.agg #[O.v d,O.v r],.agg #[O.v Z,O.v aj,vi q.aS,O.v t,vi q.body.aS]] b a λl=>WB Q c.length True q.params.length l/\l.w<=1100*q.body.w:=by
 apply AK
 simp -zeta only[aC,aB]
 intro m0 D H
 let⟨v,h,s0,s1,s2⟩:=qx (a:=m0) (b:=D) (c:=H) rfl rfl rfl
 clear_value H
 have aJ:=W.len
 have T:∀e∈D.size::a,e<H.size:=bO hS v.size (h _ aL)
 refine(DI (S:=[]) aL (hs.le v.le) _ V).aI (J.az H) h λus ul g hu aK P _=>⟨_,rfl,?_⟩
 have ao:ap g us ul:=hu.le (bA _ _)
 intro s I
 have aA:J g I:=(J.push g _).trans (J.push s _)
 have s4:s.size=g.size+1:=by simp[s]
 have i:GI a g I (.mk g.size 0 0 0) []:=(GI.nil a g).ext (J.push s _)
 have gd:GI a g I (.mk s.size 0 0 0) []:=(GI.nil a s).cx (λ_ R=>R) V
 clear_value I
 have z3:=P.size
 have am:∀e∈a,e<g.size:=λe f=>by have:=hS e f;have:=v.size;omega
 refine wY (n:=q.params.length) V (λk L sd M=>J g M/\∃j p,GI a g M L j/\GI a g M sd p/\L.D≠sd.D/\(∀o∈j,0<=o/\o<(q.params.length:Int))/\(∀o∈p,0<=o/\o<(q.params.length:Int))/\j.length<=k/\p.length<=k) ⟨aA,[],[],i,gd,bE,aL,aL,ad _,ad _⟩ ?_
 rintro k L sd m6 aD μ hk ⟨w,j,p,i,gd,G,B,A,cm,cd⟩ K
 have F:=P.trans w
 have v6:=v.trans F
 refine dit (λR=>?_) λR=>?_
 .let⟨ab,Y⟩:=cG q.params k
  have X:∀{m:List Int},(∀o∈m,0<=o/\o<(q.params.length:Int))->∀o∈m++[(k:Int)],0<=o/\o<(q.params.length:Int):=λh o C=>by
   rcases List.mem_append.1 C with C|C
   .exact h o C
   .simp at C;omega
  refine⟨V,V,ab,(W.ext v6).aE Y,λ_=>?_,λ_=>K V _ _ _ ⟨w,j,p,i,gd,G,B,A,V,V⟩⟩
  refine(dw (ht.ext v6) k).any.aI F h λaa m7 u u7=>⟨_,rfl,λ_=>?_,λ_=>K V _ _ _ ⟨w.trans u,j,p,i.ext u,gd.ext u,G,B,A,V,V⟩⟩
  refine(dw (ao.ext (w.trans u)) k).any.aI u7 h λaa m8 x8 u8=>⟨_,rfl,λ_=>?_,λ_=>?_⟩
  .have x:=u.trans x8
   intro m9
   exact GI.So (i.ext x) (gd.ext x) G ((w.trans x).fz []) V λr m' z N U y=>⟨J.oQ ((F.trans x).aK _) (P.trans y.ext) h,K V _ _ _ ⟨y.ext,_,_,z,N,U,X B,A,bE,V⟩⟩
  .have x:=u.trans x8
   intro m9
   exact GI.So (gd.ext x) (i.ext x) G.symm ((w.trans x).fz []) V λr m' z N U y=>⟨J.oQ ((F.trans x).aK _) (P.trans y.ext) h,K V _ _ _ ⟨y.ext,_,_,N,z,U.symm,B,X A,V,bE⟩⟩
 intro y
 have ac:J m6 y:=J.push _ _
 have aa:=F.trans ac
 have ab:=v.trans aa
 have e0:ap y (.mk m6.size 0 0 0) []:=mO _ _ _ _ _ _
 have ag:∀{M:E}{t:O}{m:List Int},GI a g M t m->m.length<=3->ap M t m:=λz h=>(z.done am V).le (bA _ _)
 clear_value y
 have aG:=q.body.Hs
 refine(GD q.body (D.size::a) y (λe f=>aa.lt (T e f)) d r Z t L _ q.params j [] (hn.le ab.le) (W.ext ab) (hs.le ab.le) ((ag i V).ext ac) e0 ⟨B,V,bE,V,aq⟩).aI aa h λss l C an X ay ax=>⟨_,_,rfl,?_⟩
 intro ar o
 have ae:J C o:=(J.push C _).ah (ad _) _ _
 have aQ:o.size=C.size+1:=by simp[o,ar,av]
 clear_value o
 have N:=ax.trans ae
 have U:∀e∈[C.size,D.size,m0.size,b.size],e<o.size:=λe f=>by
  rcases List.mem_cons.1 f with x|x
  .omega
  .exact N.lt (h e x)
 have aF:=Bk.mH l;have aE:=fZ l.aD
 have aM:=X.2
 refine(eY (c:=D.size::a) (λe f=>N.lt (T e f)) 15 ((ag gd V).ext ((ac.trans ay).trans ae)) V).aI (J.az o) U λaP _ aN af x u _=>⟨_,rfl,aH (u.same _ V) _,aH (u.same _ V) _,?_⟩
 subst x
 have aR:=u.size
 have Y:=af.bn
 refine GS.all af (u.fz []) ((an.le (ae.dg _)).le (tq u Y.1)) bE λaw au al ak aS ah=>⟨λe f=>ah e (u.lt (U e f)) (oh (U e f)),aH (ah _ V V) _,?_⟩
 intro aO
 have az:J b au:=(v.trans N).trans ak.ext
 refine⟨aw,.mk _ l.aS,rfl,eP.le (cA aL λe f=>ai _ f) (al.done gE.mono (λe f=>N.lt (T e f)) bh bE),⟨WB.of ((rW V A).append ?_) ?_,?_⟩,az.ah V _ _⟩
 .rw[j7 V];exact X.1.aU.1
 .rw[cW,j7 V,bV];exact X.1.aU.2
 .rw[Bk.qP,dD,oK];omega
def LR(K:∀e∈a,e<b.size){i:List bz}(k:eL b d r i c)(hk:yx i c False 95):vd 222 [.agg #[O.v d,O.v r]] b a i λx=>yx i x True 104500:=by
 apply ED;simp -zeta only[aC,aB];intro f a2;let⟨z,v⟩:=dE (a:=f) (c:=a2) rfl rfl;have s1:f.size=b.size+1:=by simp[f]
 clear_value a2;have ai:=k.jb.len;have ar:=k.oL;refine(fV (b:=f.size::a) (bO K z.size (v _ aL)) (k.le z.le).bo k.types).mono λ_ P⟨ac,j,ae,A⟩=>?_;subst j;refine⟨A.dv v,_,rfl,?_⟩;intro Q am ab;have u2:=z.trans A;let⟨x5,B0,g0,s3,s5⟩:=lx (b:=Q.size::f.size::a) iX.mono (d:=P) (a:=Q) (c:=am) (h:=ab) rfl rfl rfl;clear_value ab;have w:∀e∈[f.size,b.size],e<P.size:=λe g=>A.lt (v e g);have L:∀e∈f.size::a,e<P.size:=λe g=>A.lt (bO K z.size (v _ aL) e g);refine k8 (R:=λh o M=>∃d r x,Value.agg #[O.v h,O.v o]=.agg #[O.v d,O.v r]/\eL (bG a M) d r i x/\yx i x True 104500/\J b M) (r:=c.length) (f:=b) (b:=a) iX.mono bh bh K ⟨V,w _ aL⟩ u2 s3 ae ai V x5 B0 g0 (λ_ q=>q.params.length<=3/\q.cU.length<=3/\WB i c.length True q.params.length q.body/\q.body.w<=104500) (λh t N u X Y o p s=>⟨h,t,N,rfl,⟨X,Y,k.types,V⟩,Ia hk.je o p,s⟩) λal M st N ao μ ag ap B W C an=>?_
 let⟨q,hq⟩:=cG c al ag;let⟨aa,ah,ak,hw⟩:=hk.dA q (aq hq);have o:=u2.trans B;let⟨au,av,h,T,U,c3,D,E,F,H,I⟩:=k.jb.aE hq;have G:∀{y:Value}{h s:Nat},af b h s=some y->af M h s=some y:=λu=>o.af u;refine⟨st,C.bZ 1,V,V,_,G D,_,G E,_,G F,_,G H,_,G I,V,V,_,G D,_,G E,_,G F,_,G H,_,G I,?_⟩;have hy:=W.bn;have ad:=C.lt;have zM:=B.size;refine(Iy (a:=st.D::Q.size::f.size::a) (λe g=>?_) (k.le o.le) (T.ext o) (U.ext o) (c3.le o.le) aa ak hw).aI B w λss b' M1 aj Z p u1=>⟨_,_,rfl,?_⟩
 .simp only[aW]at g;rcases g with j|j|j|j
  .omega
  .omega
  .have:=L e (by simp[j]);omega
  .have:=L e (by simp[j]);omega
 have t:∀{y:Value}{h s:Nat},af b h s=some y->af M1 h s=af M h s:=λu=>by rw[p.af (G u),G u]
 refine⟨t D,t E,t F,t H,t I,aH (p.same _ (B.lt (w _ aL))) _,aH (p.same _ ad) _,?_⟩;exact wh (b:=f.size::a) (v:=ac) (x:=N) L (λe g=>by have X:=w e g;have Y:=u1.size;omega) u1 (W.ext iX.mono p) (C.ext p) V (T.ext (o.trans p)) (U.ext (o.trans p)) aj ⟨V,V⟩ V λs' Y g' X x'=>an s' Y _ g' X x' ⟨aa,ah,Z.1,by have:=Z.2;simp only;omega⟩
def Qg(L:∀f∈a,f<b.size){t:List bz}(u:eL b d r t c)(hk:yx t c False 95):vd 223 [.agg #[O.v d,O.v r]] b a t λB=>yx t B True 104500:=by
 apply J5;simp -zeta only[aC,aB];intro p a2;let⟨D,y⟩:=dE (a:=p) (c:=a2) rfl rfl;have s1:p.size=b.size+1:=by simp[p]
 clear_value a2;have al:=u.jb.len;have az:=u.oL;refine(fV (b:=p.size::a) (bO L D.size (y _ aL)) (u.le D.le).bo u.types).mono λ_ T⟨ag,h,ah,F⟩=>?_;subst h;refine⟨F.dv y,_,rfl,?_⟩;intro A ap ac;have u2:=D.trans F;let⟨x5,B0,g0,s3,s5⟩:=lx (b:=A.size::p.size::a) iX.mono (d:=T) (a:=A) (c:=ap) (h:=ac) rfl rfl rfl;clear_value ac;have P:∀f∈[p.size,b.size],f<T.size:=λf i=>F.lt (y f i);have N:∀f∈p.size::a,f<T.size:=λf i=>F.lt (bO L D.size (y _ aL) f i);refine k8 (R:=λe g M=>∃d r B,Value.agg #[O.v e,O.v g]=.agg #[O.v d,O.v r]/\eL (bG a M) d r t B/\yx t B True 104500/\J b M) (r:=c.length) (f:=b) (b:=a) iX.mono bh bh L ⟨V,P _ aL⟩ u2 s3 ah al V x5 B0 g0 (λ_ q=>q.params.length<=3/\q.cU.length<=3/\WB t c.length True q.params.length q.body/\q.body.w<=104500) (λe o Q s h1 w g j k=>⟨e,o,Q,rfl,⟨h1,w,u.types,V⟩,Ia hk.je g j,k⟩) λao M st Q aw μ ai ay Y aa H ar=>?_
 let⟨q,hq⟩:=cG c ao ai;let⟨ak,aj,an,hw⟩:=hk.dA q (aq hq);have C:=u2.trans Y;let⟨au,aD,o,I,c2,c3,e0,e1,e2,e3,e4⟩:=u.jb.aE hq;have G:∀{ae:Value}{o v:Nat},af b o v=some ae->af M o v=some ae:=λK=>C.af K;refine⟨V,V,_,G e0,_,G e1,_,G e2,_,G e3,_,G e4,?_⟩;intro m7 k;have hy:=aa.bn;have ax:=H.lt;have zM:=Y.size;have X:J M k:=(J.push M _).ah (ad _) _ _;have s8:k.size=M.size+1:=by simp[k,m7,av]
 clear_value k;have z:∀f∈[M.size,p.size,b.size],f<k.size:=λf i=>by
  rcases List.mem_cons.1 i with h|h
  .omega
  .have:=P f h;omega
 have U:=C.trans X;have g:∀{Z M2:E},J k Z->J k M2->∀o,o<k.size->∀v,af M2 o v=af Z o v:=λK h' o hb v=>aH (by rw[h'.same o hb,K.same o hb]) v;have j:M.size<k.size:=V;have i1:b.size<k.size:=z _ aL;have i2:A.size<k.size:=V;refine⟨st,(H.ext X).bZ 1,?_⟩;refine(IS (b:=[]) aL (I.ext U) (c2.ext U) V).aI (J.az k) z λow lo m9 go ho e _=>⟨_,rfl,g (J.az _) e _ j _,g (J.az _) e _ j _,g (J.az _) e _ j _,g (J.az _) e _ i1 _,g (J.az _) e _ i1 _,g (J.az _) e _ j _,g (J.az _) e _ j _,g (J.az _) e _ j _,g (J.az _) e _ j _,g (J.az _) e _ j _,g (J.az _) e _ i2 _,?_⟩;have W:=U.trans e;have z9:=e.size;have i:=ho.2;refine(IE q.body (st.D::A.size::p.size::a) m9 (λf i=>?_) d r au o ow q.params lo (u.le W.le) (I.ext W) (c3.le W.le) ((go.done aL V).le (bA _ _)) ⟨ho.1,V,V,an⟩).aI e z λss b' aA am ab aE s=>⟨_,_,rfl,g e s _ j _,g e s _ j _,g e s _ j _,g e s _ j _,g e s _ j _,g e s _ i2 _,?_⟩
 .simp only[aW]at i;rcases i with h|h|h|h
  .omega
  .omega
  .have:=N f (by simp[h]);omega
  .have:=N f (by simp[h]);omega
 have x:=X.trans s;have vG:=s.size;exact wh (b:=p.size::a) (v:=ag) (x:=Q) N (λf i=>by have h1:=z f i;have w:=P f;simp only[aW]at i w;rcases i with h|h|h|h<;>first|omega|(have:=w (by simp[h]);omega)|simp at h) (Y.trans x) (aa.ext iX.mono x) (H.ext x) V (I.ext (C.trans x)) (c2.ext (C.trans x)) am ⟨V,V⟩ V λs' M' g' w x'=>ar s' M' _ g' w x' ⟨ak,aj,ab.1,by have:=ab.2;simp only;omega⟩
end
section
variable{x:cV}{l:List cV}{m d M:E}{i f e h:O}{b:List Nat}{c g:List Int}{a:Int}{K:O->E->Prop}
def AY(a k:O)(m:E):dt cg 245 [pw x a k] m (x.op=14\/x.op=15):=by
 apply GU;simp -zeta only[aC,aB];intro c;have b:J m c:=J.push _ _;refine⟨λh=>iU (Or.inl (by simpa using h)) b,λh=>eU ?_ b⟩;simp only[aj]at h;simp only[aG];omega
def Xv(l:List cV):Prop:=∀x∈l,x.args.length=1
def zw(l:List cV)(o:Int):Prop:=∃x∈l,o∈x.args
def Xv.at(h:Xv l){k:Nat}(a:l[k]? =some x):∃y,x.args[0]? =some y/\zw l y:=by
 have c:=h x (aq a);let⟨y,b⟩:=cG x.args 0;exact⟨y,b,x,aq a,aq b⟩
def O0(p:eP m i l)(B:Xv l)(H:l.length<=10^12)(v:Int):tf 270 [O.v i,vi v] m λb=>-(l.length:Int)<=b/\b<=l.length:=by
 apply IJ;have L:=p.len;refine eA (n:=l.length) V (λk b M=>J m M/\-(k:Int)<=b/\b<=(k:Int)) ⟨J.az _,V,V⟩ ?_;rintro k b c I μ K ⟨e,E,F⟩ C
 refine⟨λj=>?_,λj=>⟨b,rfl,⟨V,V⟩,e⟩⟩;simp only[ar]at j;let⟨x,q⟩:=cG l k;obtain⟨y,r,_⟩:=B.at q;obtain⟨a,Q,o,_,z,_,_,A,_⟩:=p.aE q;have G:=o.len;have P:=aw r;have s:=e.af z;have G3:=e.af A;have h:=(o.ext e).aE r;have u:cQ (b+1)=b+1:=aP V V;have w:cQ (b -1)=b -1:=aP V V;rw[u,w];have N:∀d,-((k+1:Nat):Int)<=d->d<=((k+1:Nat):Int)->I d (cQ ((k:Int)+1)) c/\μ d (cQ ((k:Int)+1)) c<μ b k c:=λd a t=>C V _ _ ⟨e,a,t⟩
 have D:(0:Int)<=(k:Int)/\(k:Int)<(i.len:Int)/\∃f:O,af c i.D (i.off+Int.toNat (k:Int)*5+3)=some (O.v f)/\(0:Int)<=(0:Int)/\(0:Int)<(f.len:Int)/\∃g:Int,af c f.D (f.off+Int.toNat (0:Int)*1)=some (vi g)/\
  ((g==v)=true->I (b -1) (cQ ((k:Int)+1)) c/\μ (b -1) (cQ ((k:Int)+1)) c<μ b k c)/\((g==v)=false->I b (cQ ((k:Int)+1)) c/\μ b (cQ ((k:Int)+1)) c<μ b k c):=
  ⟨V,V,a,G3,V,V,y,h,λ_=>N _ V V,λ_=>N _ V V⟩
 exact⟨V,V,a,G3,V,V,y,h,λ_=>⟨V,V,_,s,λ_=>N _ V V,λ_=>D⟩,λ_=>D⟩
def Nl(q:∀f∈b,f<m.size)(u:eP m i l)(j:Xv l)(G:l.length<=100000000000):lz 269 [O.v i] m b λc=>(∀o∈c,zw l o)/\c.length<=l.length:=by
 apply Hm;intro N;have K:=u.len;refine eA (n:=l.length) V (λk s M=>J m M/\∃c,GI b m M s c/\(∀o∈c,zw l o)/\c.length<=k) ⟨J.push m _,[],GI.nil b m,aL,ad _⟩ ?_;rintro k s d I μ H ⟨e,c,p,v,t⟩ C
 refine⟨λh=>?_,λh=>⟨s,c,rfl,p,⟨v,V⟩,e⟩⟩;simp only[ar]at h;let⟨x,w⟩:=cG l k;let⟨z,y,A⟩:=j.at w;obtain⟨a,R,r,_,E,_,_,g,_⟩:=u.aE w;have F:=r.len;have L:=aw y;refine⟨V,V,a,e.af g,V,V,z,(r.ext e).aE y,?_⟩;refine(mL (S:=b) (λf t=>aO (q f t) e.size) (p.done q V) z V).then λQ B P g f D=>⟨_,rfl,C V _ _ ⟨e.trans D,B,g.cx (λ_ h=>h) e.size,λo j=>?_,oh f.2⟩⟩;rcases f.1 o j with h|h
 .exact v o h
 .subst h;exact A
structure vL(b:List Nat)(m d M:E)(f e h:O)(c lr g:List Int):Prop where
 x:J m M
 gd:GI b m M f c
 gr:GI b m M e lr
 gv:GI [] d M h g
 n1:f.D≠e.D
 n2:f.D≠h.D
 n3:e.D≠h.D
def vL.ext{b:List Nat}{m d M i:E}{f e h:O}{c j g:List Int}(T:vL b m d M f e h c j g)(a:J M i):vL b m d i f e h c j g:=
 ⟨T.x.trans a,T.gd.ext a,T.gr.ext a,T.gv.ext a,T.n1,T.n2,T.n3⟩
def vL.ZL{j:List Int}(T:vL b m d M f e h c j g)(s:∀i∈b,i<m.size)(t:c.length<=10^12)(u:∀r i,vL b m d i r e h (c++[a]) j g->K r i):
 jS (M.push (.cells (bt [.i a]) aA)) aA [.i 0] 8 f (.mk M.size 0 1 1) K:=by
 have o:=T.gr.bn;have p:=T.gv.bn;have v:=T.n1;have w:=T.n2
 refine GI.kQ T.gd (T.x.fz []) s t λr i n l z q=>u r i ⟨l.ext,n,T.gr.jE (q _ o.2 T.n1.symm),T.gv.jE (q _ p.2 T.n2.symm),?_,?_,T.n3⟩<;>rcases z.2 with k|k<;>omega
def vL.So{j:List Int}(T:vL b m d M f e h c j g)(s:∀i∈b,i<m.size)(t:j.length<=10^12)(u:∀r i,vL b m d i f r h c (j++[a]) g->K r i):
 jS (M.push (.cells (bt [.i a]) aA)) aA [.i 0] 8 e (.mk M.size 0 1 1) K:=by
 have o:=T.gd.bn;have p:=T.gv.bn;have v:=T.n1;have w:=T.n3
 refine GI.kQ T.gr (T.x.fz []) s t λr i n l z q=>u r i ⟨l.ext,T.gd.jE (q _ o.2 T.n1),n,T.gv.jE (q _ p.2 T.n3.symm),?_,T.n2,?_⟩<;>rcases z.2 with k|k<;>omega
def Vx(l:List cV)(c:List cV):Prop:=∃b a:List Int,c=b.map (eZ 14)++a.map (eZ 15)/\(∀o∈b,zw l o)/\(∀o∈a,zw l o)/\b.length+a.length<=l.length*l.length
def yp(v:∀t∈b,t<m.size)(Z:eP m i l)(a:Xv l)(x:l.length<=500000):Rr 246 [O.v i] m b (Vx l):=by
 apply Dh;intro r d;have P:J m d:=(J.push m _).trans (J.push r _);have s1:r.size=m.size+1:=by simp[r]
 have gd:GI b m d (.mk m.size 0 0 0) []:=(GI.nil b m).ext (J.push r _);have U:GI b m d (.mk r.size 0 0 0) []:=(GI.nil b r).cx (λ_ F=>F) V;clear_value d;have ah:l.length*l.length<=250000000000:=bH (Mz x x) bh;refine(Nl (b:=[]) aL (Z.le P.le) a V).then λh g m3 D L Q=>⟨_,rfl,?_⟩;have hv:ap m3 h g:=(D.done aL (oh L.2)).le (bA _ _);have am:=hv.len;have al:=L.2;have an:=D.bn;have au:=P.size;refine wY (n:=g.length) V (λp f e M=>∃c j,vL b m d M f e h c j g/\(∀o∈c,zw l o)/\(∀o∈j,zw l o)/\c.length+j.length<=p*l.length) ⟨[],[],⟨(P.trans Q),gd.ext Q,U.ext Q,D,bE,oh gd.bn,oh U.bn⟩,aL,aL,aL⟩ ?_;rintro p f e m4 ag μ hi ⟨c,j,T,hd,hr,X⟩ ae
 have ac:p*l.length<=l.length*l.length:=dh _ V;have G:∀{M:E}{f e:O}{c j:List Int},vL b m d M f e h c j g->ap M h g:=λT=>(T.gv.done aL V).le (bA _ _);refine dit (λF=>?_) λF=>?_
 .let⟨y,z⟩:=cG g p;have ab:=L.1 y (aq z);refine⟨V,V,y,(G T).aE z,?_⟩;refine(O0 (Z.le T.x.le) a V y).then λw m5 hn s=>⟨_,rfl,?_⟩;have ak:(p+1)*l.length=p*l.length+l.length:=ql _ _;refine⟨λf k M=>k<=w/\(w<=0->k=w)/\(0<w->0<=k)/\∃H,vL b m d M f e h H j g/\(∀o∈H,zw l o)/\H.length+j.length+k.toNat<=p*l.length+w.toNat,λ_ k _=>k.toNat,⟨V,V,V,c,T.ext s,hd,V⟩,?_⟩;rintro af k m6 ⟨n1,n2,n3,I,A,Y,ai⟩;refine dit (λh1=>?_) λh1=>?_
  .refine⟨V,V,y,(G A).aE z,?_⟩;intro q;have u:cQ (k -1)=k -1:=aP V V;rw[u];exact A.ZL v V λN R B=>⟨⟨V,V,V,_,B,λo a=>by
    rcases List.mem_append.1 a with a|a
    .exact Y o a
    .simp at a;subst a;exact ab,bE⟩,by dsimp only;omega⟩
  .refine⟨λe q M=>k<=q/\q<=0/\∃K,vL b m d M af e h I K g/\(∀o∈K,zw l o)/\I.length+K.length+(-q).toNat<=p*l.length+l.length,λ_ q _=>(-q).toNat,⟨V,V,j,A,hr,V⟩,?_⟩;rintro ao q m8 ⟨p1,p2,ad,C,aa,aj⟩;refine⟨λW=>?_,λW=>ae V _ _ _ ⟨I,ad,C,Y,aa,V⟩⟩;simp only[ar]at W;refine⟨V,V,y,(G C).aE z,?_⟩;intro m9;have u:cQ (q+1)=q+1:=aP V V;rw[u];exact C.So v V λN R B=>⟨⟨V,V,_,B,λo a=>by
    rcases List.mem_append.1 a with a|a
    .exact aa o a
    .simp at a;subst a;exact ab,bE⟩,by dsimp only;omega⟩
 .have o:∀t∈b,t<m4.size:=λt X=>by have:=v t X;have:=T.x.size;omega
  refine(eY (c:=b) o 14 ((T.gd.done v V).le (bA _ _)) V).mono λ_ m5⟨s1,C,k,g1,u,s⟩=>?_;subst k;subst u;refine⟨_,rfl,?_⟩;have q:=g1.bn;refine(eY (c:=s1.D::b) (bO o s.size q.2) 15 (((T.ext s).gr.done v V).le (bA _ _)) V).mono λ_ m6⟨I,H,k,g2,y,w⟩=>?_;subst k;subst y;refine⟨_,rfl,?_⟩;refine GS.all (g1.ext gE.mono w) ((s.trans w).fz []) (g2.done gE.mono (bO o s.size q.2) bh bE) bE λN R A z _ _=>⟨N,_,rfl,A.cx gE.mono (λB x=>Or.inl x) T.x.size,⟨c,j,rfl,hd,hr,?_⟩,T.x.trans z.ext⟩;have:p*l.length<=l.length*l.length:=ac;omega
end
section
variable{a c:Nat}
def Jb(a b:Nat):a*a+b*b<=(a+b)*(a+b):=by
 rw[gQ,Nat.mul_add,Nat.mul_add];omega
def Qj{b:Nat}(h:a<=b):a*a<=b*b:=Mz h h
structure CN(ds:List bz)(c:Nat)(S:List Nat)(m2 M:E)(a:Nat)(aD:List cV)(k:Nat)(st run:O)(lo lr:List cV)(P:Nat):Prop where
 x:J m2 M
 gs:GS (run.D::S) m2 M st lo
 gr:GS [st.D] m2 M run lr
 wl:WL ds c True a lo
 Xy:dc lo=dc (aD.take k)
 sws:sw lo<=P*P
 P':P+2*lr.length<=sw (aD.take k)
 lW:Xv lr
 XG:∀o,zw lr o->0<=o/\o<((a+dc (aD.take k):Nat):Int)
 ne:st.D≠run.D
def Qd{f:List bz}{l b:List cV}(h:Vx l b)(e:∀o,zw l o->0<=o/\o<(a:Int)):WL f c True a b/\dc b=0/\sw b<=(2*l.length)*(2*l.length):=by
 obtain⟨k,j,rfl,g,i,m⟩:=h;refine⟨(rW V λo d=>e o (g o d)).append ?_,?_,?_⟩
 .rw[j7 V];exact rW V λo d=>e o (i o d)
 .rw[cW,j7 V,j7 V]
 .rw[dD,oK,oK];have:(2*l.length)*(2*l.length)=4*(l.length*l.length):=by
   rw[Nat.mul_mul_mul_comm]
  omega
def Zx(e:List bz)(c:Nat)(b:Bk):Prop:=∀(S:List Nat)(m:E),(∀d∈S,d<m.size)->∀(t:O)(a:Nat),eP m t b.aD->WB e c True a b->b.w<=400000->nG 230 [.agg #[O.v t,vi b.aS]] m S λd=>WB e c True a d/\d.w<=b.w*b.w
def EA{K:List bz}:∀g:Bk,Zx K c g:=by
 refine Bk.ind ?_;intro aD bf ih s I hS bU a hs a9 hw;have aK:=a9.aU;rw[Bk.qP]at hw⊢;simp only[Bk.jZ,Bk.jC]at*;apply xt;simp -zeta only[aC,aB];intro j k Q m3;let⟨x1,hl⟩:=dE (a:=j) (c:=k) rfl rfl;have s0:j.size=I.size+1:=by simp[j]
 have s1:k.size=I.size+2:=by simp[k,s0]
 have bl:J k m3:=(J.push k _).trans (J.push Q _);have s2:Q.size=k.size+1:=by simp[Q]
 have a1:∀u,GS u k m3 (.mk k.size 0 0 0) []:=λu=>(GS.new u k).ext gE.mono (J.push Q _);have a0:∀u,GS u k m3 (.mk Q.size 0 0 0) []:=λu=>(GS.new u Q).cx gE.mono (λg m=>Or.inl m) V;clear_value m3;clear_value k;have a8:=hs.len;have aI:=BL aD;have bB:=fZ aD;have az:∀e∈j.size::s,e<k.size:=bO hS x1.size (hl _ aL);refine wY (n:=aD.length) (a8▸hs.gW) (λv G z q=>∃Z t P,CN K c (j.size::s) k q a aD v G z Z t P) ⟨[],[],0,bl,a1 _,a0 _,WL.nil _ _ _ _,rfl,aL,aL,λ_ h=>by simp at h,λaf⟨_,h,_⟩=>by simp at h,bE⟩ ?_;rintro v G z y bn μ hk ⟨Z,t,P,C⟩ aM
 have T:=C.x;have R:=x1.trans T;have bM:=C.gs.bn;have bL:=C.gr.bn;have z4:=T.size;have ay:=C.P';have bC:=aI v;have bo:P*P<=160000000000:=bH (Qj (b:=400000) V) bh;have bx:=fZ Z;have a6:=C.sws;have aF:=C.ne;have L:∀{q:E}{u:List Nat},y.size<=q.size->(∀e∈u,e<q.size)->∀e∈u++j.size::s,e<q.size:=λh m e f=>by
  rcases List.mem_append.1 f with h|h
  .exact m e h
  .have:=az e h;omega
 have aG:∀{q:E},J y q->eP q z t:=λh=>eP.le (bA _ _) ((C.gr.ext gE.mono h).nQ gE.mono (by simpa using aF.symm) bh V);refine dit (λh=>?_) λh=>?_
 .let⟨d,X⟩:=cG aD v;let⟨pa,pk,ha,ab,g0,g1,g2,g3,g4⟩:=hs.aE X;refine⟨V,V,_,R.af g0,_,R.af g1,_,R.af g2,_,R.af g3,_,R.af g4,?_⟩;intro m5 F;have x6:J y F:=(J.push y _).ah (ad _) _ _;have s6:F.size=y.size+1:=by simp[F,m5,av]
  clear_value F;have O:∀{q:E},F.size<=q.size->∀g∈[y.size,j.size,I.size],g<q.size:=λh g m=>by
   rcases List.mem_cons.1 m with i|i
   .omega
   .have:=hl g i;omega
  have bI:=qb X;have bF:=qU X;have a_:=cV.mH d;have W:=aK.1 v d X;have bD:=aI (v+1);have br:=qy d.bD;refine(AY pa pk F).aI (J.az F) (O (ad _)) λbp m7 a3 x7 _=>⟨_,rfl,λhp=>?_,λhp=>?_⟩
  · -- a pair goes to the run
   have hp:=a3.1 hp;have D:d.args.length=1:=W.fe.lW V;have N:dn d=0:=ae λh:pA d.op=>by have:=h.2;omega
   have A:=x6.trans x7;intro m8;have r:Le I (bG (z.D::[G.D]) m7):=(Af I).trans (((R.trans A).fz []).bG aL λe f=>by simp at f;have:=x1.size;exact Or.inr V);refine GS.kQ (x:=d) (C.gr.ext gE.mono A) ((T.trans A).fz []) (ha.le r) (ab.le r) V λaZ M' U B l w=>⟨λe f=>?_,aM V _ _ _ ⟨Z,t++[d],P,B.ext,(C.gs.ext gE.mono A).re gE.mono (Y:=[z.D]) ⟨l.1,λe f o=>w e f (by simpa using o)⟩ aL (by simpa using aF) (λe f=>?_),U,C.wl,by rw[C.Xy];omega,a6,bE,λak o=>?_,λaf H=>?_,?_⟩⟩
   .have:=O (q:=m7) x7.size e f;rw[w e this (by simp at f;omega),(J.push m7 _).same e this]
   .rcases List.mem_cons.1 f with i|i
    .rcases l.2 with p|p
     .exact Or.inl (by rw[i,p];exact bg)
     .exact Or.inr V
    .exact Or.inl (ai _ i)
   .rcases List.mem_append.1 o with o|o
    .exact C.lW ak o
    .simp at o;subst o;exact D
   .let⟨ak,o,p⟩:=H;have i:dc (aD.take (v+1))=dc (aD.take v):=V;rw[i];rcases List.mem_append.1 o with o|o
    .exact C.XG af ⟨ak,o,p⟩
    .simp at o;subst o;exact W.fe.args af p
   .have:=(C.gs.ext gE.mono A).bn;rcases l.2 with i|i<;>omega
  · -- another step ends the run
   have A:=x6.trans x7;have aS:=A.size;refine(yp (b:=[G.D,z.D]++j.size::s) (L aS bE) (aG A) C.lW V).aI (J.az m7) (O x7.size) λbS ba bP aW bd aO _=>⟨_,rfl,?_⟩;let⟨an,ag,bj⟩:=Qd (f:=K) (c:=c) bd C.XG;have bu:=fZ ba;have vG:=aO.size;have z7:=x7.size;have a2:(2*t.length)*(2*t.length)<=160000000000:=bH (Qj (b:=400000) V) bh;have aQ:=A.trans aO;refine GS.all (C.gs.ext gE.mono aQ) ((T.trans aQ).fz []) (aW.done gE.mono (L (u:=[G.D,z.D]) aS bE) bh V) V λw l au aU aR be=>⟨λe f=>be e (O V e f) (by simp at f;omega),?_⟩;have ap:J k l:=aU.ext;have bV:=aR.1;have bJ:=au.bn;have bq:w.D=G.D\/F.size<=w.D:=by have:=aR.2;omega
   intro p am;have aP:J l p:=J.push l _;have bT:p.size=l.size+1:=by simp[p]
   have bk:J p am:=J.push p _;have ar:=ap.trans aP;have gn:GS [w.D] k p (.mk l.size 0 0 0) []:=(GS.new _ l).cx gE.mono (λg m=>Or.inl m) ap.size;have gk:GB ([w.D,l.size]++j.size::s) p am (.mk p.size 0 0 0) []:=GB.new _ p;have aY:GS ([l.size]++j.size::s) k p w _:=au.re gE.mono (Y:=[]) (aP.fz []) aL aL λe f=>by
    rcases List.mem_cons.1 f with i|i
    .exact Or.inr V
    .exact Or.inl (ai _ i)
   clear_value am;clear_value p;have al:=ab.len;have bs:=KK d.bD;have bt:bw d.bD<=400000:=V;refine eA (n:=d.bD.length) (al▸ab.gW) (λD bi q=>J p q/\∃r,GB ([w.D,l.size]++j.size::s) p q bi r/\r.length=D/\(∀(B:Nat)(g:Bk),r[B]? =some g->WB K c True (a+dc (aD.take v)+BU K d.op d.bP B) g)/\bw r<=bw (d.bD.take D)*bw (d.bD.take D)) ⟨bk,[],gk,rfl,aL,aL⟩ ?_;rintro D ks ac I2 μ2 hj ⟨aa,r,U,bv,aE,a4⟩ bc;have ah:=x1.trans (ar.trans aa);have bW:=aa.size;have bK:=U.bn;have N:∀g∈[y.size,j.size,I.size],g<ac.size:=O V;refine dit (λh2=>?_) λh2=>?_
   .let⟨g,m⟩:=cG d.bD D;let⟨tb,aV,f0,f1⟩:=ab.aE m;have a5:=wU m;have aN:=uE m;refine⟨V,V,_,ah.af f0,_,ah.af f1,?_⟩;refine(ih d (aq X) g (aq m) ([ks.D,w.D,l.size]++j.size::s) ac (L V bE) tb _ (aV.le ah.le) (W.bD D g m) V).aI (J.az ac) N λss b' a7 aT aA ao _=>⟨_,_,rfl,?_⟩;refine GB.kQ (c:=b') (U.ext rS.mono ao) ((aa.trans ao).fz []) aT V λaZ M' g2 f2 z2 q2=>⟨J.oQ ((aa.trans ao).aK _) f2.ext (λe f=>oh (O (q:=p) V e f)),bc V _ _ ⟨f2.ext,_,g2,bE,λB b2 H=>?_,?_⟩⟩
    .rcases aX B r.length with aj|aj
     .rw[ax aj]at H;exact aE B b2 H
     .rw[aJ aj]at H;have:B -r.length=0:=by have:=aw H;simp at this;omega
      rw[this]at H;simp at H;subst H;have:B=D:=V;subst this;exact aA.1
    .rw[oZ,uD,zI,aN];have h3:=Jb (bw (d.bD.take D)) g.w;have:=aA.2;omega
   .have a5:r.length=d.bD.length:=V;rw[bY V]at a4;refine(bN ([w.D,l.size]++j.size::s) (ha.ext ah) V).aI (J.az ac) N λs' l' bb ga i H _=>⟨_,rfl,aH (H.same _ (N _ aL)) _,aH (H.same _ (N _ aL)) _,aH (H.same _ (N _ aL)) _,?_⟩;subst i;intro bQ;have aj:=aa.trans H;have bX:=H.size;have ao:∀e∈[w.D,l.size]++j.size::s,e<p.size:=L V bE;have a7:w.D≠l.size:=V;refine GS.kQ (x:=⟨d.op,d.bP,d.bU,d.args,r⟩) (aY.ext gE.mono aj) ((ar.trans aj).fz []) (ga.done (λe f=>oh (ao e f)) V) (nO.le (H.dg _) (U.done rS.mono ao bh (by show r.length<=_;omega))) bE λaN bR aZ aV bm aA=>⟨λe f=>?_,aM V _ _ _ ⟨_,[],P+2*t.length+d.w,aV.ext,aZ,?_,((C.wl.append (by rw[C.Xy];exact an)).yM (W.PT id W.fe.bU a5 aE|>λh=>by rw[cW,C.Xy,ag,jM];exact h)),?_,?_,bE,λ_ h=>by simp at h,λaf⟨_,h,_⟩=>by simp at h,?_⟩⟩
    .have h3:=N e f;rw[aA e V (by simp at f;omega),(J.push bb _).same e V]
    · -- the new run is empty
     have i:=gn.ext gE.mono aj;let⟨p0,aT,p1,p2⟩:=i;refine⟨p0,aT,p1.congr (aA _ (by have:=aj.size;show l.size<_;omega) (kL a7)),p2.len,p2.size,λB cs ak _ o=>by simp at o⟩
    .rw[cW,cW,C.Xy,ag,kU,tn];have i:dn (⟨d.op,d.bP,d.bU,d.args,r⟩:cV)=dn d:=rfl;omega
    .rw[dD,dD,mT,vz];have h3:=Jb P (2*t.length);have h4:=Jb (P+2*t.length) d.w;have h5:(⟨d.op,d.bP,d.bU,d.args,r⟩:cV).w=1+d.args.length+bw r:=cV.mH _;have o:=Jb (1+d.args.length) (bw d.bD);have h7:1+d.args.length<=(1+d.args.length)*(1+d.args.length):=Nat.le_mul_of_pos_left _ V;rw[<-a_]at o;omega
    .rcases bm.2 with i|i
     .show aN.D≠l.size;omega
     .show aN.D≠l.size;omega
 .have al:v=aD.length:=V;subst al;rw[fx]at ay;have hd:dc (aD.take aD.length)=dc aD:=by rw[fx]
  have i:∀g∈[j.size,I.size],g<y.size:=λg m=>T.lt (hl g m);refine(yp (b:=[G.D,z.D]++j.size::s) (L (ad _) bE) (aG (J.az _)) C.lW V).aI (J.az y) i λO l F r A d _=>⟨_,rfl,aH (d.same _ (i _ aL)) _,?_⟩;let⟨an,ag,bj⟩:=Qd (f:=K) (c:=c) A C.XG;have D:=fZ l;have a2:(2*t.length)*(2*t.length)<=160000000000:=bH (Qj (b:=400000) V) bh;have U:=d.size;refine GS.all (C.gs.ext gE.mono d) ((T.trans d).fz []) (r.done gE.mono (L (u:=[G.D,z.D]) (ad _) bE) bh V) V λB H w p W o=>⟨λe f=>o e (d.lt (i e f)) (oh (hl e f)),aH (o _ (d.lt (i _ aL)) V) _,?_⟩;intro N;refine⟨B,.mk (Z++l) bf,rfl,eP.le (cA aL λe f=>ai _ f) ((w.re gE.mono (S':=j.size::s) (Y:=[]) (Fz.az _ _) aL aL (λe f=>Or.inl (ai _ f))).done gE.mono az bh bE),⟨WB.of (C.wl.append (by rw[C.Xy];exact an)) ?_,?_⟩,(x1.trans p.ext).ah V _ _⟩
  .rw[cW,C.Xy,ag,hd];exact aK.2
  .rw[Bk.qP,dD];have h3:=Jb P (2*t.length);have h4:=Qj ay;have h5:=Jb 1 (sw aD);omega
end
section
variable{e:List Nat}{c:E}{d f:O}{g:List gS}{W:Nat}
def Ir(F:∀a∈e,a<c.size){j:List bz}(p:eL c d f j g)(hW:W<=400000)(Z:yx j g True W):vd 209 [.agg #[O.v d,O.v f]] c e j λw=>yx j w True (W*W):=by
 apply AE;simp -zeta only[aC,aB];intro b a2;let⟨z,u⟩:=dE (a:=b) (c:=a2) rfl rfl;have s1:b.size=c.size+1:=by simp[b]
 clear_value a2;have ai:=p.jb.len;have ar:=p.oL;refine(fV (b:=b.size::e) (bO F z.size (u _ aL)) (p.le z.le).bo p.types).mono λ_ K⟨ab,k,ad,A⟩=>?_;subst k;refine⟨A.dv u,_,rfl,?_⟩;intro L am aa;have u2:=z.trans A;let⟨x5,B0,g0,s3,s5⟩:=lx (b:=L.size::b.size::e) iX.mono (d:=K) (a:=L) (c:=am) (h:=aa) rfl rfl rfl;clear_value aa;have v:∀a∈[b.size,c.size],a<K.size:=λa i=>A.lt (u a i);have H:∀a∈b.size::e,a<K.size:=λa i=>A.lt (bO F z.size (u _ aL) a i);refine k8 (R:=λh o M=>∃d f w,Value.agg #[O.v h,O.v o]=.agg #[O.v d,O.v f]/\eL (bG e M) d f j w/\yx j w True (W*W)/\J c M) (r:=g.length) (f:=c) (b:=e) iX.mono bh bh F ⟨V,v _ aL⟩ u2 s3 ad ai V x5 B0 g0 (λ_ q=>q.params.length<=3/\q.cU.length<=3/\WB j g.length True q.params.length q.body/\q.body.w<=W*W) (λh t I x U X o r s=>⟨h,t,I,rfl,⟨U,X,p.types,V⟩,Ia Z.je o r,s⟩) λal M st I ao μ ae ap B T C an=>?_
 let⟨q,hq⟩:=cG g al ae;let⟨ah,ag,ak,hw⟩:=Z.dA q (aq hq);have y:=u2.trans B;let⟨au,av,h,c1,c2,c3,N,P,Q,D,E⟩:=p.jb.aE hq;have G:∀{x:Value}{h r:Nat},af c h r=some x->af M h r=some x:=λt=>y.af t;refine⟨st,C.bZ 1,V,V,_,G N,_,G P,_,G Q,_,G D,_,G E,V,V,_,G D,_,G E,?_⟩;have hy:=T.bn;have ac:=C.lt;have zM:=B.size;refine(EA q.body (st.D::L.size::b.size::e) M (λa i=>?_) h q.params.length (c3.le y.le) ak V).aI B v λss b' M1 aj Y o u1=>⟨_,_,rfl,?_⟩
 .simp only[aW]at i;rcases i with k|k|k|k
  .omega
  .omega
  .have:=H a (by simp[k]);omega
  .have:=H a (by simp[k]);omega
 have s:∀{x:Value}{h r:Nat},af c h r=some x->af M1 h r=af M h r:=λt=>by rw[o.af (G t),G t]
 refine⟨s N,s P,s Q,s D,s E,aH (o.same _ (B.lt (v _ aL))) _,aH (o.same _ ac) _,?_⟩;exact wh (b:=b.size::e) (v:=ab) (x:=I) H (λa i=>by have U:=v a i;have X:=u1.size;omega) u1 (T.ext iX.mono o) (C.ext o) V (c1.ext (y.trans o)) (c2.ext (y.trans o)) aj ⟨V,V⟩ V λs' X g' U x'=>an s' X _ g' U x' ⟨ah,ag,Y.1,bH Y.2 (Qj hw)⟩
def XQ(b:Bk):Prop:=∀(e:List Nat)(c:E),(∀a∈e,a<c.size)->∀t:O,eP c t b.aD->b.w<=10^12->nG 287 [.agg #[O.v t,vi b.aS]] c e (b=·)
def ym(H:∀i∈e,i<c.size){z B:O}{x:cV}(I:ap c z x.args)(u:nO c B x.bD)(hw:x.w<=10^12)(P:∀h∈x.bD,XQ h):KB 318 [pw x z B] c e (x=·):=by
 apply CH;simp -zeta only[aC,aB];intro d a y;let⟨D,v⟩:=dE (a:=d) (c:=a) rfl rfl;have R:d.size=c.size+1:=by simp[d]
 have s1:a.size=c.size+2:=by simp[a,R]
 have S:J a y:=J.push _ _;have F:GB (d.size::e) a y (.mk a.size 0 0 0) []:=GB.new _ a;clear_value y;clear_value a;have r:∀i∈d.size::e,i<a.size:=bO H D.size (v _ aL);have K:=u.len;have aa:=cV.mH x;have Y:=qy x.bD;refine eA (n:=x.bD.length) (K▸u.gW) (λw s M=>J a M/\GB (d.size::e) a M s (x.bD.take w)) ⟨S,F⟩ ?_;rintro w s p U μ hj ⟨m,o⟩ Q
 have l:=D.trans m;have k:∀h∈[d.size,c.size],h<p.size:=λh j=>m.lt (v h j);have N:=o.bn;have T:=m.size;refine dit (λG=>?_) λG=>?_
 .let⟨h,j⟩:=cG x.bD w;let⟨tb,M,A,E⟩:=u.aE j;have Z:=wU j;refine⟨V,V,_,l.af A,_,l.af E,?_⟩;refine(P h (aq j) (s.D::d.size::e) p (bO r T N.2) tb (M.le l.le) V).aI (J.az p) k λss X C L q g _=>⟨_,_,rfl,?_⟩;subst q;refine GB.kQ (c:=h) (o.ext rS.mono g) ((m.trans g).fz []) L bE λf W g2 t z2 q2=>⟨J.oQ ((m.trans g).aK _) t.ext v,Q V _ _ ⟨t.ext,?_⟩⟩;rw[aV j];exact g2
 .rw[bY V]at o;refine(bN (d.size::e) (I.ext l) V).aI (J.az p) k λM W C E q g _=>⟨_,rfl,aH (g.same _ (k _ aL)) _,aH (g.same _ (k _ aL)) _,aH (g.same _ (k _ aL)) _,?_⟩;subst q;intro L;have A:Le (bG (d.size::e) C) (bG e L):=cA aL λi t=>ai _ t;exact⟨M,s,x,rfl,(E.done (λi t=>oh (r i t)) V).le A,nO.le A ((o.ext rS.mono g).done rS.mono r bh V),rfl,(l.trans g).ah V _ _⟩
def wy:∀j:Bk,XQ j:=by
 refine Bk.ind ?_;intro aD h ih e c W al z hw;rw[Bk.qP]at hw;simp only[Bk.jZ,Bk.jC]at*;apply rJ;simp -zeta only[aC,aB];intro f b d C q;let⟨I,y⟩:=dE (a:=f) (c:=b) rfl rfl;have s0:f.size=c.size+1:=by simp[f]
 have s1:b.size=c.size+2:=by simp[b,s0]
 have s2:d.size=b.size+1:=by simp[d]
 have s3:C.size=d.size+1:=by simp[C]
 have K:J d q:=(J.push d _).ah (ad _) _ _;have ag:J b q:=(J.push b _).trans K;have x:GS (d.size::f.size::e) b q (.mk b.size 0 0 0) []:=(GS.new _ b).ext gE.mono K;have N:cF q d.size di [.s (.mk b.size 0 0 0),.i h]:=cF.ah (m:=C) (o:=0) (r:=[.s (.mk b.size 0 0 0),.i h]) (cF.push d _ _);clear_value q;have F:∀u∈f.size::e,u<b.size:=bO W I.size (y _ aL);have ae:=z.len;have aj:=fZ aD;refine dV (n:=aD.length) (ae▸z.gW) (λA M=>J b M/\∃s,GS (d.size::f.size::e) b M s (aD.take A)/\cF M d.size di [.s s,.i h]) ⟨ag,_,x,N⟩ ?_;rintro A D ah μ hk ⟨w,s,l,B⟩ af
 have g:=I.trans w;have ac:∀j∈[f.size,c.size],j<D.size:=λj Y=>w.lt (y j Y);have hy:=l.bn;have z5:=w.size;have E:=B.lt;refine dit (λU=>?_) λU=>?_
 .let⟨H,v⟩:=cG aD A;let⟨pa,pk,X,ab,x,g1,g2,R,T⟩:=z.aE v;have ak:=O8 v;refine⟨s,B.bZ 0,V,V,_,g.af x,_,g.af g1,_,g.af g2,_,g.af R,_,g.af T,?_⟩;refine(ym (e:=s.D::d.size::f.size::e) (bO (bO F z5 E) (ad _) hy.2) (X.ext g) (ab.le g.le) V (ih H (aq v))).aI (J.az D) ac λM O x' G Z aa k t _=>⟨_,_,_,_,_,rfl,aH (t.same _ E) _,?_⟩;subst k;intro m7;refine Gr.box (g:=[.i 0,.i 0,.i 0,.s .nil,.s .nil]) (j:=0) (i:=[.s s,.i h]) (w:=H) gE.mono bh (l.ext gE.mono t) ((w.trans t).fz []) ⟨M,O,rfl,Z,aa⟩ bE (B.ext t) aL bh ⟨V,aL⟩ (λu p=>by have L:=y u p;have P:=t.size;omega) λr' m' Q L P z' q'=>af V _ ⟨P.ext,r',?_,L⟩
  rw[aV v];exact Q
 .rw[bY V]at l;refine⟨s,B.bZ 0,h,B.bZ 1,?_⟩;intro G;have v:=l.ne B bh;have t:Le (bG (d.size::f.size::e) D) (bG e G):=cA aL λu p=>ai _ (ai _ p);refine⟨s,.mk aD h,rfl,eP.le t (l.nQ gE.mono (λp=>?_) bh (by show aD.length<=_;omega)),rfl,g.ah V _ _⟩;rcases List.mem_cons.1 p with k|k
  .exact v k
  .have:=F _ k;omega
def Zv(b:Bk):Prop:=∀(c:E)(t:O)(f:Int),eP c t b.aD->oW 319 [.agg #[O.v t,vi b.aS],vi f] c
def JT:∀b:Bk,Zv b:=by
 refine Bk.ind ?_;intro aD Y G c t s m;simp only[Bk.jZ,Bk.jC]at*;apply CE;simp -zeta only[aC,aB];intro g;have A:J c g:=J.push _ _;have D:∀b∈[c.size],b<g.size:=by simp[g]
 clear_value g;have F:=m.len;refine dV (n:=aD.length) (F▸m.gW) (λ_ M=>J g M) (J.az _) ?_;rintro k o I μ X r N
 have h:=A.trans r;refine⟨λj=>?_,λ_=>rA h⟩;simp only[ar]at j;let⟨x,v⟩:=cG aD k;let⟨pa,w,U,l,B,g1,g2,T,u⟩:=m.aE v;have C:=l.len;have L:∃(i:Int->E->Prop)(μ0_1:Int->E->Nat),i (0:Int) o/\(∀(a:Int)(M:E),i a M->
  (0:Int)<=(k:Int)/\(k:Int)<(t.len:Int)/\∃q:O,af M t.D (t.off+Int.toNat (k:Int)*5+4)=some (O.v q)/\
  ((decide (a<(q.len:Int)))=true->(0:Int)<=(k:Int)/\(k:Int)<(t.len:Int)/\∃d:O,af M t.D (t.off+Int.toNat (k:Int)*5+4)=some (O.v d)/\
   (0:Int)<=a/\a<(d.len:Int)/\∃y:O,af M d.D (d.off+Int.toNat a*2)=some (O.v y)/\∃z:Int,af M d.D (d.off+Int.toNat a*2+1)=some (vi z)/\
   aN cg 319 [.agg #[O.v y,vi z],vi s] M λf e=>eG [c.size] M e/\∃p:Bool,f=vb p/\(p=true->∃b:Bool,vb true=.bool b/\J c e)/\(p=false->i (cQ (a+(1:Int))) e/\μ0_1 (cQ (a+(1:Int))) e<μ0_1 a M))/\
  ((decide (a<(q.len:Int)))=false->I (cQ ((k:Int)+(1:Int))) M/\μ (cQ ((k:Int)+(1:Int))) M<μ k o)):=by
  refine dV (n:=x.bD.length) (C▸l.gW) (λ_ M=>J o M) (J.az _) ?_
  rintro H M R μ2 W d K
  have a:=h.trans d
  refine⟨V,V,w,a.af u,λj=>?_,λ_=>N V _ (r.trans d)⟩
  simp only[ar]at j
  let⟨b,p⟩:=cG x.bD H
  let⟨tb,z,q,y⟩:=l.aE p
  refine⟨V,V,w,a.af u,V,V,_,a.af q,_,a.af y,?_⟩
  exact(G x (aq v) b (aq p) M tb s (z.le a.le)).aI (r.trans d) D λS e Q P=>⟨_,rfl,λ_=>rA (A.trans P),λ_=>K V _ (d.trans Q)⟩
 exact⟨V,V,_,h.af B,λ_=>⟨V,V,_,h.af g1,λ_=>rA h,λ_=>L⟩,λ_=>L⟩
def J0{o:List bz}(h:eL c d f o g)(i:Int):oW 288 [.agg #[O.v d,O.v f],vi i] c:=by
 apply CT;simp -zeta only[aC,aB];intro a;have k:J c a:=J.push _ _;have s:∀e∈[c.size],e<a.size:=by simp[a]
 clear_value a;have H:=h.jb.len;have G:=h.oL;refine dV (n:=g.length) V (λ_ M=>J a M) (J.az _) ?_;rintro u v I μ F l w
 have b:=k.trans l;refine⟨λr=>?_,λ_=>rA b⟩;simp only[ar]at r;let⟨x,t⟩:=cG g u;let⟨K,L,e,A,B,m,C,D,E,p,q⟩:=h.jb.aE t;exact⟨V,V,_,b.af p,_,b.af q,(JT x.body v e i (m.le b.le)).aI l s λz y M j=>⟨_,rfl,λ_=>rA (k.trans j),λ_=>w V _ j⟩⟩
abbrev Zg(e:List Nat)(a c:E)(s:O)(l:List (List Int)):Prop:=Gr e a c xV 1 mX s l
def Gx(Z:∀a∈e,a<c.size){R:List bz}(o:eL c d f R g)(hp:∀y∈g,y.params.length<=3):
 aN cg 253 [.agg #[O.v d,O.v f]] c λae G=>∃s l,ae=O.v s/\px (bG e G) s l/\l.length=g.length/\(∀a∈l,a.length<=3)/\J c G:=by
 apply yQ
 simp -zeta only[aC,aB]
 intro b x
 have N:J c b:=J.push _ _
 have v:∀z∈[c.size],z<b.size:=by simp[b]
 have af:J b x:=J.push _ _
 have W:Zg e b x (.mk b.size 0 0 0) []:=Gr.new e (ad _) _ _ _
 clear_value x
 clear_value b
 have aj:=o.jb.len;have ai:=o.oL
 have C:∀a∈e,a<b.size:=λa u=>N.lt (Z a u)
 refine eA (n:=g.length) V (λk s M=>J b M/\∃l,Zg e b M s l/\l.length=k/\∀a∈l,a.length<=3) ⟨af,[],W,rfl,aL⟩ ?_
 rintro k s H P μ hk ⟨r,l,t,ag,B⟩ aa
 have q:=N.trans r
 have h:=t.bn
 refine dit (λY=>?_) λY=>?_
 .let⟨y,D⟩:=cG g k
  let⟨ab,ak,z,Q,c2,c3,T,e1,e2,e3,e4⟩:=o.jb.aE D
  have ah:=hp y (aq D)
  have iP:∀(M:E)(i:O)(a:List Int),J H M->ap (bG (s.D::e) M) i a->a.length<=3->jS (M.push (.cells (bt [.s i]) xV)) xV [.s O.nil] 24 s (O.mk M.size 0 1 1) λK m=>eG [c.size] (M.push (.cells (bt [.s i]) xV)) m/\P K (cQ ((k:Int)+(1:Int))) m/\μ K (cQ ((k:Int)+(1:Int))) m<μ s k H:=λM i a w hf u=>
   Gr.kQ (g:=[.s .nil]) mX.mono bh (t.ext mX.mono w) ((r.trans w).fz []) ⟨i,rfl,hf⟩ V λr' m U A _ _=>⟨J.oQ ((r.trans w).aK _) A.ext v,aa V _ _ ⟨A.ext,_,U,bE,λj h=>by
    rcases List.mem_append.1 h with h|h
    .exact B j h
    .simp at h;subst h;exact u⟩⟩
  refine(J0 (o.le q.le) k).aI r v λa m4 j L=>⟨_,rfl,λ_=>?_,λ_=>⟨V,V,ab,(q.trans j).af T,?_⟩⟩
  .intro p m6
   exact iP p _ [] (j.aK _) (mO _ _ _ _ _ _) aL
  .refine(rZ (S:=[]) aL (a:=0) ((Q.ext (q.trans j)).le (Af _)) V).aI L v λac F p X I x5 u5=>⟨_,rfl,?_⟩
   intro m6
   have hg:GI (s.D::e) m4 p ac F:=X.any
   exact iP p _ F (j.trans x5) (hg.done (bO C L.size (oh j.size)) (oh I.2)) (oh I.2)
 .exact⟨s,l,rfl,t.done mX.mono C bh V,V,B,q⟩
def Zw(a:List bz)(g:List gS)(b:Bk):Prop:=∀(c:E)(d f t:O)(v:Int)(h:Prop)(e:Nat),eL c d f a g->eP c t b.aD->WB a g.length h e b->oW 289 [.agg #[O.v d,O.v f],.agg #[O.v t,vi b.aS],vi v] c
def AG{C:List bz}:∀b:Bk,Zw C g b:=by
 refine Bk.ind ?_;intro aD ah ih c d f ai ae m ag E t Z;have aa:=Z.aU.1;simp only[Bk.jZ,Bk.jC]at*;apply vr;simp -zeta only[aC,aB];intro K v;let⟨O,W⟩:=dE (a:=K) (c:=v) rfl rfl;clear_value v;have X:=t.len;refine⟨λ_=>rA O,λ_=>?_⟩;refine dV (n:=aD.length) (X▸t.gW) (λ_ M=>J v M) (J.az _) ?_;rintro I p af μ hk A ac
 have e:=O.trans A;refine⟨λj=>?_,λ_=>rA e⟩;simp only[ar]at j;let⟨x,u⟩:=cG aD I;let⟨pa,pk,o,r,Q,g1,g2,R,S⟩:=t.aE u;have F:=aa I x u;have T:=o.len;have U:=r.len;refine⟨V,V,_,e.af Q,_,e.af g1,_,e.af g2,_,e.af R,_,e.af S,?_⟩;intro m3 h;have B:J p h:=(J.push p _).ah (ad _) _ _;have s4:h.size=p.size+1:=by simp[h,m3,av]
 clear_value h;have s:∀b∈[p.size,K.size,c.size],b<h.size:=λb k=>by
  rcases List.mem_cons.1 k with D|D
  .omega
  .exact(A.trans B).lt (W b D)
 refine dV (n:=x.args.length) (T▸o.gW) (λ_ M=>J h M) (J.az _) ?_;rintro H L I1 μ1 hj l y;have z:=(e.trans B).trans l;refine⟨λj=>?_,λ_=>?_⟩
 .simp only[ar]at j;let⟨Y,P⟩:=cG x.args H;refine⟨V,V,Y,(o.ext z).aE P,λ_=>?_,λ_=>y V _ l⟩;refine(yl x.op L).aI l s λm w i G=>⟨_,rfl,λ_=>?_,λ_=>y V _ G⟩;have a:=z.trans i;exact(od (⟨E.le a.le,o.ext a,F.fe.call⟩:At w d f pa pk C g x) H).aI G s λm m7 q N=>⟨_,rfl,λ_=>rA (a.trans q),λ_=>y V _ N⟩
 .refine dV (n:=x.bD.length) (U▸r.gW) (λ_ M=>J L M) (J.az _) ?_;rintro G w I2 μ2 hi i ab;have a:=z.trans i;refine⟨λj=>?_,λ_=>ac V _ (((A.trans B).trans l).trans i)⟩;simp only[ar]at j;let⟨b,k⟩:=cG x.bD G;let⟨tb,Y,M,P⟩:=r.aE k;refine⟨V,V,_,a.af M,_,a.af P,?_⟩;exact(ih x (aq u) b (aq k) w d f tb ae m _ (E.le a.le) (Y.le a.le) (F.bD G b k)).aI (l.trans i) s λm m7 q N=>⟨_,rfl,λ_=>rA (a.trans q),λ_=>ab V _ (i.trans q)⟩
def J2(P:∀h∈e,h<c.size){A:List bz}(r:eL c d f A g){h:Prop}(Q:yx A g h W){B:Nat}{q:gS}(s:g[B]? =some q):lz 254 [.agg #[O.v d,O.v f],vi B] c e λl=>l.length<=q.cU.length:=by
 apply CU;simp -zeta only[aC,aB];intro a u;have y:J c a:=J.push _ _;have E:∀k∈[c.size],k<a.size:=by simp[a]
 have T:J a u:=J.push _ _;have N:GI e a u (.mk a.size 0 0 0) []:=GI.nil e a;clear_value u;clear_value a;have af:=r.jb.len;have aa:=aw s;let⟨ae,ac,R,hw⟩:=Q.dA q (aq s);let⟨ah,w,k,X,m,I,Z,o,e2,K,L⟩:=r.jb.aE s;have ag:=m.len;refine eA (n:=q.cU.length) V (λt v M=>J a M/\∃l,GI e a M v l/\l.length<=t) ⟨T,[],N,ad _⟩ ?_;rintro t v S U μ ab ⟨H,l,p,D⟩ G
 have b:=y.trans H;refine⟨V,V,w,b.af o,λi=>?_,λi=>⟨v,l,rfl,p.cx (λ_ i=>i) y.size,V,b⟩⟩;simp only[ar]at i;let⟨z,F⟩:=cG q.cU t;refine⟨V,V,_,b.af K,_,b.af L,V,V,w,b.af o,V,V,z,(m.ext b).aE F,?_⟩;refine(AG q.body S d f k z h _ (r.le b.le) (I.le b.le) R).aI H E λY m4 j x=>⟨_,rfl,λ_=>⟨V,V,w,(b.trans j).af o,V,V,z,(m.ext (b.trans j)).aE F,?_⟩,λ_=>G V _ _ ⟨x,l,p.ext j,V⟩⟩;intro m5;exact GI.kQ (p.ext j) (x.fz []) (λh D=>y.lt (P h D)) V λf m6 M C _ _=>⟨J.oQ (x.aK _) C.ext E,G V _ _ ⟨C.ext,_,M,bE⟩⟩
end
section
variable{b:List Nat}{e:E}{d g:O}{f:List gS}{c:Prop}{W:Nat}
def yu(Q:∀c∈b,c<e.size){lt:O}{v:List bz}{H:List (List Int)}(y:eL e d g v f)(hW:W<=1000000)(hk:yx v f c W)(ag:px e lt H)(aQ:H.length=f.length)(aw:∀c∈H,c.length<=3):
 vd 252 [.agg #[O.v d,O.v g],O.v lt] e b v λz=>yx v z c W/\z.length=f.length:=by
 apply Dq
 simp -zeta only[aC,aB]
 intro j a2
 let⟨K,D⟩:=dE (a:=j) (c:=a2) rfl rfl
 have s1:j.size=e.size+1:=by simp[j]
 clear_value a2
 have az:=y.jb.len;have aS:=y.oL
 refine(fV (b:=j.size::b) (bO Q K.size (D _ aL)) (y.le K.le).bo y.types).mono λ_ Y⟨dd,h,ar,L⟩=>?_
 subst h
 refine⟨L.dv D,_,rfl,?_⟩
 intro s aJ al
 have u2:=K.trans L
 let⟨x5,B0,g0,s3,s5⟩:=lx (b:=s.size::j.size::b) iX.mono (d:=Y) (a:=s) (c:=aJ) (h:=al) rfl rfl rfl
 clear_value al
 have U:∀c∈[j.size,e.size],c<Y.size:=λc k=>L.lt (D c k)
 have ae:∀c∈j.size::b,c<Y.size:=λc k=>L.lt (bO Q K.size (D _ aL) c k)
 refine k8 (R:=λl o M=>∃d g z,Value.agg #[O.v l,O.v o]=.agg #[O.v d,O.v g]/\eL (bG b M) d g v z/\(yx v z c W/\z.length=f.length)/\J e M) (r:=f.length) (f:=e) (b:=b) iX.mono bh bh Q ⟨V,U _ aL⟩ u2 s3 ar az V x5 B0 g0 (λ_ q=>q.params.length<=3/\q.cU.length<=3/\WB v f.length c q.params.length q.body/\q.body.w<=W) (λo Z aj m' h1 C l p r=>⟨o,Z,aj,rfl,⟨h1,C,y.types,V⟩,⟨Ia hk.je l p,l⟩,r⟩) λai M t aj aM μ au aP xM ac N aK=>?_
 let⟨q,hq⟩:=cG f ai au
 let⟨ay,aO,aE,hw⟩:=hk.dA q (aq hq)
 have v6:=u2.trans xM
 let⟨aU,aV,p,c1,c2,c3,e0,e1,e2,e3,e4⟩:=y.jb.aE hq
 have G:∀{am:Value}{p x:Nat},af e p x=some am->af M p x=some am:=λB=>v6.af B
 refine⟨V,V,_,G e0,_,G e1,_,G e2,_,G e3,_,G e4,?_⟩
 intro m7 l
 have hy:=ac.bn
 have aN:=N.lt
 have zM:=xM.size
 have x8:J M l:=(J.push M _).ah (ad _) _ _
 have s8:l.size=M.size+1:=by simp[l,m7,av]
 clear_value l
 have F:∀c∈[M.size,j.size,e.size],c<l.size:=λc k=>by
  rcases List.mem_cons.1 k with h|h
  .omega
  .have:=U c h;omega
 have A:=v6.trans x8
 have r:∀{M1 M2:E},J l M1->J l M2->∀p,p<l.size->∀x,af M2 p x=af M1 p x:=λB h' p hb x=>aH (by rw[h'.same p hb,B.same p hb]) x
 have w:M.size<l.size:=V
 have X:s.size<l.size:=V
 let⟨ab,ah⟩:=cG H ai
 let⟨yt,aG,P⟩:=ag.aE ah
 have aF:=aw ab (aq ah)
 have aR:=ag.len
 have T:∀{M':E},l.size<=M'.size->∀c∈t.D::s.size::j.size::b,c<M'.size:=λB c k=>by
  simp only[aW]at k;rcases k with h|h|h|h
  .omega
  .omega
  .have:=ae c (by simp[h]);omega
  .have:=ae c (by simp[h]);omega
 refine⟨t,(N.ext x8).bZ 1,V,V,yt,A.af P,?_⟩
 refine(bN (t.D::s.size::j.size::b) (c1.ext A) V).aI (J.az l) F λp' _ m9 gp h o _=>⟨_,rfl,r (J.az _) o _ w _,r (J.az _) o _ w _,r (J.az _) o _ w _,((A.trans o).af P).trans (A.af P).symm,r (J.az _) o _ X _,?_⟩
 subst h
 refine(bN (t.D::s.size::j.size::b) (aG.ext (A.trans o)) V).aI o F λt' _ aI gt h an u=>⟨_,rfl,r o u _ w _,r o u _ w _,r o u _ w _,r o u _ X _,?_⟩
 subst h
 have z9:=o.size;have vG:=an.size
 refine(wy q.body (t.D::s.size::j.size::b) aI (T V) p (c3.le (A.trans u).le) V).aI u F λss b' ak aA h ao I=>⟨_,_,rfl,r u I _ w _,r u I _ X _,?_⟩
 subst h
 intro aT
 have aa:=x8.trans I
 have aX:=I.size
 have ax:ap (bG (t.D::s.size::j.size::b) ak) p' q.params:=(gp.done (T V) V).le ((an.trans ao).dg _)
 have aD:ap (bG (t.D::s.size::j.size::b) ak) t' ab:=(gt.done (T V) V).le (ao.dg _)
 exact Gr.box (g:=[.s .nil,.s .nil,.i 0,.s .nil,.i 0]) (j:=1) (y:=88) (i:=[.s dd,.s t]) (w:=⟨q.params,ab,q.aS,q.body⟩) iX.mono bh (ac.ext iX.mono aa) ((xM.trans aa).fz []) ⟨p',t',ss,rfl,ax,aD,aA⟩ V (N.ext aa) aL bh ⟨V,aL⟩ (λc k=>by have h1:=F c k;have C:=U c;simp only[aW]at k C;rcases k with h|h|h|h<;>first|omega|(have:=C (by simp[h]);omega)|simp at h) λZ m' g' C f' z' q'=>aK Z m' _ g' C f'.ext ⟨ay,aF,aE,hw⟩
def J7(hS:∀c∈b,c<e.size){A:List bz}(Z:eL e d g A f)(hW:W<=1000000)(hk:yx A f c W):vd 238 [.agg #[O.v d,O.v g]] e b A λt=>yx A t c W:=by
 apply CX;simp -zeta only[aC,aB];intro i a2;let⟨x2,G⟩:=dE (a:=i) (c:=a2) rfl rfl;have s1:i.size=e.size+1:=by simp[i]
 have s2:a2.size=e.size+2:=by simp[a2,s1]
 clear_value a2;have aG:=Z.jb.len;have aE:=Z.oL;have aj:∀c∈i.size::b,c<a2.size:=bO hS x2.size (G _ aL);have p:∀{M q:E},J a2 M->J a2 q->∀ac,af q e.size ac=af M e.size ac:=λu h' ac=>aH (by rw[h'.same _ (G _ aL),u.same _ (G _ aL)]) ac;have tail:∀(Q:E)(a:Nat)(z y:O)(C:List gS),J a2 Q->a2.size<=a->cF Q a nv [.s z,.s y]->eL (bG (a::i.size::b) Q) z y A C->yx A C c W->
  ∃(I0:Int->E->Prop)(μ0:Int->E->Nat),I0 (0:Int) Q/\(∀(l:Int)(v:E),I0 l v->
   ((decide (l<=(12:Int)))=true->
    let U:E:=v.push (.cells (bt []) xV)
    ∃(w:O->Int->E->Prop)(μ1:O->Int->E->Nat),w (O.mk v.size 0 0 0) (0:Int) U/\(∀(s:O)(x:Int)(h:E),w s x h->
     ∃D:O,af h a 1=some (O.v D)/\
     ((decide (x<(D.len:Int)))=true->∃j:O,af h a 0=some (O.v j)/\∃k:O,af h a 1=some (O.v k)/\
      aN cg 254 [.agg #[O.v j,O.v k],vi x] h λY P=>eG [i.size,e.size] h P/\∃aa:O,Y=O.v aa/\
       let ae:E:=P.push (.cells (bt [.s aa]) xV)
       jS ae xV [.s O.nil] 24 s (O.mk P.size 0 1 1) λF B=>eG [i.size,e.size] ae B/\w F (cQ (x+(1:Int))) B/\μ1 F (cQ (x+(1:Int))) B<μ1 s x h)/\
     ((decide (x<(D.len:Int)))=false->∃j:O,af h a 0=some (O.v j)/\∃k:O,af h a 1=some (O.v k)/\
      aN cg 252 [.agg #[O.v j,O.v k],O.v s] h λH I=>eG [i.size,e.size] h I/\∃B:O,∃F:O,H=.agg #[O.v B,O.v F]/\fK I a 0 2/\
       let L:E:=ah I a 0 [.s B,.s F]
       eG [i.size,e.size] I L/\I0 (cQ (l+(1:Int))) L/\μ0 (cQ (l+(1:Int))) L<μ0 l v)))/\
   ((decide (l<=(12:Int)))=false->∃j:O,af v a 0=some (O.v j)/\∃k:O,af v a 1=some (O.v k)/\
    let ag:E:=ah v i.size 0 [.s j,.s k]
    ∃d g t,Value.agg #[O.v j,O.v k]=.agg #[O.v d,O.v g]/\eL (bG b ag) d g A t/\yx A t c W/\J e ag)):=by
  intro Q a z y C T au hB hN R
  refine dV (n:=13) V (λ_ M=>J a2 M/\∃z y C,cF M a nv [.s z,.s y]/\eL (bG (a::i.size::b) M) z y A C/\yx A C c W) ⟨T,z,y,C,hB,hN,R⟩ ?_
  rintro aJ v az μ aD ⟨x6,z,y,C,H,N,K⟩ ay
  have aA:=H.lt
  have aI:=N.jb.len
  have aF:=N.oL
  refine⟨λu=>?_,λu=>?_⟩
  .simp only[ar]at u
   intro U
   have ao:J v U:=J.push _ _
   have g0:Zg [] v U (.mk v.size 0 0 0) []:=Gr.new _ (ad _) _ _ _
   refine eA (n:=C.length) V (λx s M=>J v M/\∃l,Zg [] v M s l/\l.length=x/\∀c∈l,c.length<=3) ⟨ao,[],g0,rfl,aL⟩ ?_
   rintro x s h I2 μ2 hf ⟨D,l,ab,ap,B⟩ am
   have u8:=x6.trans D
   have N8:=N.le (D.dg _)
   refine⟨y,(H.ext D).bZ 1,dit (λF=>?_) λF=>?_⟩
   .let⟨X,hq⟩:=cG C x
    have an:=(K.dA X (aq hq)).2.1
    have j:=ab.bn
    refine⟨z,(H.ext D).bZ 0,y,(H.ext D).bZ 1,?_⟩
    refine(J2 (e:=[s.D]) bE (N8.le (bA _ _)) K hq).aI u8 G λaa av P ak aw x9 u9=>⟨_,rfl,?_⟩
    intro ae
    refine Gr.kQ (g:=[.s .nil]) mX.mono bh (ab.ext mX.mono x9) ((D.trans x9).fz []) ⟨aa,rfl,ak.done bE V⟩ V λw q g' k _ _=>⟨J.oQ (u9.aK _) (x6.trans k.ext) G,am V _ _ ⟨k.ext,_,g',bE,λal j=>?_⟩⟩
    rcases List.mem_append.1 j with j|j
    .exact B al j
    .simp at j;subst j;omega
   .refine⟨z,(H.ext D).bZ 0,y,(H.ext D).bZ 1,?_⟩
    have ak:px h s l:=eT.le (ab.done mX.mono aL bh V) (bA _ _) (mX.le (bA _ _))
    have z8:=D.size;have z6:=x6.size
    refine(yu (b:=a::i.size::b) (λc k=>?_) (N8.le (bA _ _)) hW K ak V B).mono λ_ I⟨d2,Y,an,j,N2,⟨K2,_⟩,aa⟩=>?_
    .rcases List.mem_cons.1 k with j|j
     .omega
     .have:=aj c j;omega
    subst j
    have ae:=(H.ext D).ext aa
    refine⟨u8.Vj G aa,_,_,rfl,ae.fK aL,?_⟩
    intro L
    have al:∀P,P≠a->L[P]? =I[P]? :=λP hb=>bd _ _ _ _ hb
    refine⟨λc k=>al c (oh (G c k)),ay V _ ⟨(u8.trans aa).ah au _ _,d2,Y,an,cF.ah (m:=I) (o:=0) (r:=[.s d2,.s Y]) ae,N2.le (cA aL λ_ u=>u),K2⟩⟩
  .refine⟨z,H.bZ 0,y,H.bZ 1,?_⟩
   intro ag
   exact⟨z,y,C,rfl,(N.le (iY v λc k=>ai _ k)).le (cA aL λc k=>ai _ k),K,(x2.trans x6).ah V _ _⟩
 have av:∀X∈f,X.params.length<=3:=λX hq=>(hk.dA X hq).1;have al:∀(M:E)(L:List Nat)(K:Value->E->Prop),J a2 M->(∀c∈L,c<M.size)->(∀s l q,px q s l->l.length=f.length->(∀c∈l,c.length<=3)->J M q->K (O.v s) q)->aN cg 253 [.agg #[O.v d,O.v g]] M λak U=>eG L M U/\K ak U:=λM L K T hL R=>
  (Gx (e:=[]) aL (Z.le (x2.trans T).le) av).mono λ_ q⟨s,l,j,I,F,B,Y⟩=>⟨Y.dv hL,j▸R s l q (eT.le I (bA _ _) (mX.le (bA _ _))) F B Y⟩
 have cU:∀(M:E)(S' L:List Nat)(K:Value->E->Prop)(s:O)(l:List (List Int)),J a2 M->(∀c∈L,c<M.size)->(∀c∈S',c<M.size)->px M s l->l.length=f.length->(∀c∈l,c.length<=3)->(∀x w t q,eL (bG S' q) x w A t->yx A t c W->J M q->K (.agg #[O.v x,O.v w]) q)->aN cg 252 [.agg #[O.v d,O.v g],O.v s] M λak U=>eG L M U/\K ak U:=λM S' L K s l T hL ap I F B R=>
  (yu ap (Z.le (x2.trans T).le) hW hk I F B).mono λ_ q⟨x,w,t,j,N,⟨K1,_⟩,Y⟩=>⟨Y.dv hL,j▸R x w t q N K1 Y⟩
 have am:∀{M:E}{a:Nat},J a2 M->a<M.size->∀c∈a::i.size::b,c<M.size:=λu hb c k=>by
  have:=u.size;rcases List.mem_cons.1 k with j|j
  .omega
  .have:=aj c j;omega
 have ag:∀{M:E}{a:Nat},J a2 M->a<M.size->∀c∈[a,i.size,e.size],c<M.size:=λu hb c k=>by
  rcases List.mem_cons.1 k with j|j
  .omega
  .exact u.lt (G c j)
 refine⟨al a2 _ _ (J.az _) G λs l ab I F B h=>⟨_,rfl,p (J.az _) h _,p (J.az _) h _,⟨?_,?_⟩⟩,?_⟩
 .refine cU ab (i.size::b) _ _ s l h (λc k=>h.lt (G c k)) (λc k=>h.lt (aj c k)) I F B λx w t m3 N K P=>⟨_,_,rfl,?_⟩;have D:=h.trans P;intro m4;have u4:J a2 m4:=D.aK _;refine⟨p D u4 _,p D u4 _,p D u4 _,p D u4 _,?_⟩;intro m5;have aa:J m3 m5:=(J.push m3 _).ah (ad _) _ _;exact tail m5 m3.size x w t (D.trans aa) D.size (cF.ah (m:=m4) (o:=0) (r:=[.s x,.s w]) (cF.push m3 _ _)) (N.le (aa.bG λc k=>by
   rcases List.mem_cons.1 k with j|j
   .exact Or.inr V
   .exact Or.inl j)) K
 .intro aa;have D:J a2 aa:=h.aK _;refine⟨p h D _,p h D _,p h D _,p h D _,?_⟩;refine cU aa (ab.size::i.size::b) _ _ s l D (ag D (by simp[aa])) (am D (by simp[aa])) (px.ext (J.push _ _) I) F B λx w t ae N K P=>⟨_,_,rfl,?_⟩;intro an;exact tail an ab.size x w t ((D.trans P).ah h.size _ _) h.size (cF.ah (m:=ae) (o:=0) (r:=[.s x,.s w]) ((cF.push ab _ _).ext P)) (N.le (cA aL λ_ u=>u)) K
 .intro aa;have D:J a2 aa:=J.push _ _;refine⟨p (J.az _) D _,p (J.az _) D _,p (J.az _) D _,p (J.az _) D _,?_⟩;refine al aa _ _ D (ag D (by simp[aa])) λs l ao I F B h=>⟨_,rfl,p D (D.trans h) _,p D (D.trans h) _,?_⟩;have ae:=D.trans h;have an:a2.size<ao.size:=h.lt (by simp[aa]);refine cU ao (a2.size::i.size::b) _ _ s l ae (ag ae an) (am ae an) I F B λx w t aw N K P=>⟨_,_,rfl,?_⟩;intro ax;exact tail ax a2.size x w t ((ae.trans P).ah (ad _) _ _) (ad _) (cF.ah (m:=aw) (o:=0) (r:=[.s x,.s w]) ((cF.push a2 _ _).ext (h.trans P))) (N.le (cA aL λ_ u=>u)) K
end
section
variable{w:Int}{r:List Int}
structure bM where
 aQ:Int
 kv:Int
 aF:List Int
structure aT where
 fq:Int
 pc:Int
 dst:Int
 ak:List Int
 aR:List Int
 aZ:List Int
structure St where
 cz:Int
 value:Int
 bu:Int
 dW:Int
 aU:List Int
 heap:List bM
 ao:List aT
def aE(l:List Int)(i:Int):Int:=l.getD i.toNat 0
def gU(l:List Int)(i:Int)(v:Int):List Int:=l.set i.toNat v
def ix(w:Int):Nat:=(w -1000).toNat
def gP(w:Int):Prop:=-999<=w/\w<=999
def fP(h:List bM)(a:Nat):Prop:=∃c,h[a]? =some c/\0<c.aQ
def fY(h:List bM)(w:Int):Prop:=1000<=w/\fP h (ix w)
def qI(h:List bM)(w:Int):Prop:=gP w\/fY h w
def ji:bM:=⟨0,0,[]⟩
def aM(h:List bM)(w:Int):bM:=(h[ix w]?).getD ji
def aac:dz:=⟨[],[],0,0,[]⟩
def dP(a:cO)(n:Int):dz:=(a.cB[n.toNat]?).getD aac
def cq(a:cO):Int:=(eS a.bo).length
def eC:List Int->Nat->Int
 |[],_=>0
 |w::b,a=>(if w=1000+(a:Int)then 1 else 0)+eC b a
def ez:List bM->Nat->Int
 |[],_=>0
 |c::h,a=>eC c.aF a+ez h a
def df:List Int->List Int->Nat->Int
 |r::c,o::b,a=>(if r=1000+(a:Int)then o else 0)+df c b a
 |_,_,_=>0
def fB:List aT->Nat->Int
 |[],_=>0
 |f::b,a=>df f.ak f.aR a+fB b a
def dH:List aT->Nat->Int
 |[],_=>0
 |f::b,a=>eC f.aZ a+dH b a
def nI(a:cO)(x:Instr)(k:Nat):Bool:=(dP a x.bP).cU.any (λy=>y==(k:Int))
def iL(a:cO)(x:Instr):Nat->List Int->List Int
 |_,[]=>[]
 |k,r::b=>if nI a x k then iL a x (k+1) b else r::iL a x (k+1) b
def fH(a:cO)(x:Instr):Nat->List Int->List Int
 |_,[]=>[]
 |k,r::b=>if nI a x k then r::fH a x (k+1) b else fH a x (k+1) b
def bT(a:cO)(x:Instr):List Int:=
 if x.op=15\/x.op=6\/x.op=10\/x.op=11\/x.op=18\/x.op=23 then x.args
 else if x.op=16\/x.op=17 then x.args.take 1
 else if x.op=9\/x.op=24 then iL a x 0 x.args
 else[]
def bB(ak aR:List Int):List Int->List Int
 |[]=>aR
 |r::a=>bB ak (if 1000<=aE ak r then gU aR r (aE aR r -1)else aR) a
def cL(f:aT)(a:List Int):List Int:=a.map (aE f.ak)
def lj(l:List Int):List Int:=l.filter (λw=>decide (1000<=w))
def lC(h:List bM)(a:List Int):Prop:=∀w∈a,1000<=w->(aM h w).aQ+eC a (ix w)<=999999
def Fw(h:List bM)(f:aT)(x:Instr):Prop:=
 let w:=aE f.ak (aE x.args 0)
 fY h w/\lj (aM h w).aF=cL f (x.args.drop 1)/\((aM h w).aQ=1\/lC h (aM h w).aF)/\(x.op=17->aE f.aZ (aE x.args 0)=0)
def vJ(a:cO)(h:List bM)(w:Int):Prop:=
 fY h w/\0<=(aM h w).kv -cq a/\(aM h w).kv -cq a<a.cB.length/\
  (dP a ((aM h w).kv -cq a)).params.length=(aM h w).aF.length+1/\(dP a ((aM h w).kv -cq a)).cU.length=0/\
  ((aM h w).aQ=1\/lC h (aM h w).aF)
def Fx(h:List bM)(f:aT)(x:Instr):Prop:=
 x.bU≠0->aE f.aZ (x.bU -1)≠0->(aM h (aE f.aZ (x.bU -1))).aF.length=x.args.length
def KD(a:cO)(h:List bM)(f:aT)(x:Instr):Prop:=∀r∈fH a x 0 x.args,1000<=aE f.ak r->fY h (aE f.ak r)
def Sk(l:List Int):Prop:=∀n∈l,n=0
structure lg(im:cO)(s:St)(f:aT)(x:Instr)(aR:List Int):Prop where
 nn:∀o∈aR,0<=o
 dst:me x.op->aE aR x.dst<=0
 nT:(x.op=1\/x.op=2\/x.op=3\/x.op=4\/x.op=5\/x.op=20)->∀r∈x.args,aE f.ak r<1000
 js:x.op=6->Fx s.heap f x
 cU:(x.op=9\/x.op=24)->KD im s.heap f x
 zero:(x.op=24\/x.op=23)->Sk aR/\Sk f.aZ
 ret:x.op=23->1<s.ao.length\/aE f.ak (aE x.args 0)<1000
 apply:x.op=11->vJ im s.heap (aE f.ak (aE x.args 0))
 W7:x.op=14->fY s.heap (aE f.ak (aE x.args 0))/\(aM s.heap (aE f.ak (aE x.args 0))).aQ<999999
 drop:x.op=15->1000<=aE f.ak (aE x.args 0)
 NL:(x.op=16\/x.op=17)->Fw s.heap f x
 load:x.op=19->fY s.heap (aE f.ak (aE x.args 0))/\x.bP<(aM s.heap (aE f.ak (aE x.args 0))).aF.length
 Fm:x.op=21->fY s.heap (aE f.ak (aE x.args 0))/\(aM s.heap (aE f.ak (aE x.args 0))).kv∈cy im.bo x.bP
def FG(n:Int):Int:=if n< -999 then -999 else if 999<n then 999 else n
def OT(c a b:Int):Int:=
 if c=1 then FG (a+b)else if c=2 then FG (a -b)else if c=3 then FG (a*b)else if c=4/\a<b then 1 else 0
def dG:List bM->Nat
 |[]=>0
 |c::h=>if c.aQ=0 then 0 else dG h+1
def js(h:List bM)(a:Nat)(c:bM):List bM:=if a=h.length then h++[c]else h.set a c
def na(h:List bM)(w:Int):List bM:=h.set (ix w) {aM h w with aQ:=(aM h w).aQ+1}
def fm(h:List bM)(w:Int):List bM:=h.set (ix w) {aM h w with aQ:=(aM h w).aQ -1}
def jt(h:List bM):List Int->List bM
 |[]=>h
 |w::a=>jt (na h w) a
def jw(h:List bM):Nat->Nat
 |0=>0
 |n+1=>match h[n]? with
  |some c=>if c.aQ=0 then jw h n else n+1
  |none=>jw h n
def nE(h:List bM):List bM:=h.take (jw h h.length)
def Cn:List bM->Nat
 |[]=>0
 |c::h=>(if 0<c.aQ then c.aQ.toNat+c.aF.length else 0)+Cn h
def kE:∀{e:List bM}{f:Nat}{b d:bM},e[f]? =some b->Cn (e.set f d)+(if 0<b.aQ then b.aQ.toNat+b.aF.length else 0)=Cn e+(if 0<d.aQ then d.aQ.toNat+d.aF.length else 0)
 |[],f,b,d,e=>by simp at e
 |i::e,0,b,d,g=>by simp at g;subst g;simp only[iE,Cn];omega
 |i::e,f+1,b,d,g=>by
  have:=kE (e:=e) (f:=f) (b:=b) (d:=d) (by simpa using g);simp only[jy,Cn];omega
def bS{h:List bM}(b:fY h w):h[ix w]? =some (aM h w)/\0<(aM h w).aQ:=by
 obtain⟨_,d,a,c⟩:=b;simp[aM,a,c]
open Classical in
noncomputable def ig (h:List bM) (c:List Int):List bM:=
 match c with
 |[]=>h
 |w::r=>
  if b:fY h w then
   if a:(aM h w).aQ=1 then ig (h.set (ix w) ji) ((aM h w).aF.reverse++r)
   else ig (fm h w) r
  else ig h r
termination_by Cn h+c.length
decreasing_by
 .let⟨e,a⟩:=bS b
  have:=kE (d:=ji) e
  simp only[ji,an a]at this
  simp[ji]
  simp at this
  omega
 .let⟨e,a⟩:=bS b
  have b:=kE (d:={aM h w with aQ:=(aM h w).aQ -1}) e
  simp only[an a]at b
  rw[an V]at b
  simp[fm]
  omega
 .simp
def ta(h:List bM):ig h []=h:=by rw[ig]
def tc{h:List bM}(b:fY h w)(a:(aM h w).aQ=1):ig h (w::r)=ig (h.set (ix w) ji) ((aM h w).aF.reverse++r):=by
 rw[ig,SY b,SY a]
def qB{h:List bM}(b:fY h w)(a:(aM h w).aQ≠1):ig h (w::r)=ig (fm h w) r:=by
 rw[ig,SY b,dif_neg a]
def qC{h:List bM}(a:¬fY h w):ig h (w::r)=ig h r:=by
 rw[ig,dif_neg a]
def aT.put(f:aT)(r w o:Int):aT:={f with ak:=gU f.ak r w,aR:=gU f.aR r o}
def gK(w:Int):Int:=if 1000<=w then 1 else 0
def dF(aR:List Int):List Int->List Int
 |[]=>aR
 |r::a=>dF (gU aR r (aE aR r+1)) a
def dk(n:Nat):List Int:=List.replicate n 0
def dN(cU:List Int):Nat->List Int->List Int
 |_,[]=>[]
 |k,w::a=>(if cU.any (λy=>y==(k:Int))then 0 else gK w)::dN cU (k+1) a
def bX(a:cO)(g c:Int)(b:List Int):aT:=
 ⟨g,0,c,b++dk ((dP a g).ak.toNat -b.length),dN (dP a g).cU 0 b++dk ((dP a g).ak.toNat -b.length),dk (dP a g).ak.toNat⟩
open Classical in
noncomputable def apart (h:List bM) (w:Int):List bM:=
 if(aM h w).aQ=1 then nE (h.set (ix w) ji)else jt (fm h w) (lj (aM h w).aF)
def tr(l:List Int)(n:Int):Nat:=l.findIdx (λy=>y==n)
open Classical in
noncomputable def fF (b:cO) (s:St) (a:List aT) (f:aT) (x:Instr) (aR:List Int):St:=
 let g:aT:={f with aR:=aR,pc:=f.pc+1}
 let c:=aE x.args 0
 let w:=aE f.ak c
 if x.op=0 then{s with ao:=a++[g.put x.dst x.bP 0]}
 else if x.op=1\/x.op=2\/x.op=3\/x.op=4 then{s with ao:=a++[g.put x.dst (OT x.op w (aE f.ak (aE x.args 1))) 0]}
 else if x.op=5 then{s with aU:=s.aU++[w],ao:=a++[g.put x.dst w 0]}
 else if x.op=6 then
  if x.bU≠0/\aE f.aZ (x.bU -1)≠0 then
   {s with heap:=s.heap.set (ix (aE f.aZ (x.bU -1))) ⟨1,x.bP,cL f x.args⟩,ao:=a++[{g with aZ:=gU f.aZ (x.bU -1) 0}.put x.dst (aE f.aZ (x.bU -1)) 1]}
  else{s with heap:=js s.heap (dG s.heap) ⟨1,x.bP,cL f x.args⟩,ao:=a++[g.put x.dst (1000+dG s.heap) 1]}
 else if x.op=10 then{s with heap:=js s.heap (dG s.heap) ⟨1,cq b+x.bP,cL f x.args⟩,ao:=a++[g.put x.dst (1000+dG s.heap) 1]}
 else if x.op=14 then{s with heap:=na s.heap w,ao:=a++[{g with aR:=gU aR c (aE aR c+1)}]}
 else if x.op=15 then{s with heap:=nE (ig s.heap [w]),ao:=a++[g]}
 else if x.op=16\/x.op=17 then
  let d:={g with aR:=dF aR (x.args.drop 1)}
  if(aM s.heap w).aQ=1/\x.op=17 then{s with heap:=s.heap.set (ix w) ⟨-1,0,dk (aM s.heap w).aF.length⟩,ao:=a++[{d with aZ:=gU f.aZ c w}]}
  else{s with heap:=apart s.heap w,ao:=a++[d]}
 else if x.op=18 then{s with ao:=a++[g.put x.dst w (gK w)]}
 else if x.op=19 then{s with ao:=a++[g.put x.dst (aE (aM s.heap w).aF x.bP) 0]}
 else if x.op=20 then{s with ao:=a++[{g with pc:=if w=0 then x.bP else f.pc+1}]}
 else if x.op=21 then{s with ao:=a++[{g with pc:=aE x.eM (tr (cy b.bo x.bP) (aM s.heap w).kv)}]}
 else if x.op=22 then{s with ao:=a++[{g with pc:=x.bP}]}
 else if x.op=9 then{s with bu:=s.bu+1,ao:=a++[g,bX b x.bP x.dst (cL f x.args)]}
 else if x.op=24 then{s with bu:=s.bu+1,ao:=a++[bX b x.bP f.dst (cL f x.args)]}
 else if x.op=11 then
  {s with bu:=s.bu+1,heap:=apart s.heap w,ao:=a++[g,bX b ((aM s.heap w).kv -cq b) x.dst ((aM s.heap w).aF++[aE f.ak (aE x.args 1)])]}
 else -- 23
  match a.getLast? with
  |none=>{s with cz:=0,value:=w,ao:=[]}
  |some p=>{s with ao:=a.dropLast++[p.put f.dst w (gK w)]}
def nk(a:Int):Prop:=a=9\/a=11\/a=24
instance(a:Int):Decidable (nk a):=by unfold nk;infer_instance
def cR(a:cO)(f:aT):Instr:=((dP a f.fq).dq[f.pc.toNat]?).getD ⟨0,0,0,0,[],[]⟩
open Classical in
noncomputable def kZ (a:cO) (s:St):St:=
 if s.cz≠3 then s else
 match s.ao.getLast? with
 |none=>s
 |some f=>
  if nk (cR a f).op/\s.bu=s.dW then{s with cz:=1}
  else if lg a s f (cR a f) (bB f.ak f.aR (bT a (cR a f)))then
   fF a s s.ao.dropLast f (cR a f) (bB f.ak f.aR (bT a (cR a f)))
  else{s with cz:=2}
end
section
variable{f b:Nat}{h g:List bM}{e e':Nat->Int}{w:Int}{c d:bM}
def mh:∀(l r:List Int)(f:Nat),eC (l++r) f=eC l f+eC r f
 |[],r,f=>by simp[eC]
 |w::l,r,f=>by simp only[da,eC,mh l r f];omega
def Ag:∀(l:List Int)(f:Nat),eC l.reverse f=eC l f
 |[],f=>rfl
 |w::l,f=>by simp only[Qx,mh,Ag l f,eC];omega
def iK:∀(l:List Int)(f:Nat),0<=eC l f
 |[],f=>by simp[eC]
 |w::l,f=>by have:=iK l f;simp only[eC];split<;>omega
def nW:∀{l:List Int}{f:Nat},(1000+(f:Int))∉l->eC l f=0
 |[],f,_=>rfl
 |w::l,f,h=>by
  simp only[aW,vF]at h;simp only[eC,nW h.2];rw[ae (λe=>h.1 e.symm)];rfl
def uJ:∀{l:List Int}{f:Nat},(1000+(f:Int))∈l->1<=eC l f
 |[],f,h=>by simp at h
 |w::l,f,h=>by
  simp only[eC];rcases List.mem_cons.1 h with rfl|h
  .rw[an rfl];have:=iK l f;omega
  .have:=uJ h;split<;>omega
def OQ{l:List Int}(h:0<eC l f):(1000+(f:Int))∈l:=
 dR λa=>by rw[nW a]at h;omega
def SD(n:Nat)(f:Nat):eC (dk n) f=0:=nW λh=>by have:=Vu h;omega
def wi:∀(l:List Int)(f:Nat),eC (lj l) f=eC l f
 |[],f=>rfl
 |w::l,f=>by
  have:=wi l f;simp only[lj]at this⊢;rw[List.filter_cons];split
  .simp only[eC,this]
  .rename_i h;simp only[eC,this];rw[ae (λe=>h bE)];omega
def kG:∀(l:List Int)(f:Nat),eC l f<=l.length
 |[],f=>by simp[eC]
 |w::l,f=>by have:=kG l f;simp only[eC,ba];split<;>omega
def uL:∀(h k:List bM)(f:Nat),ez (h++k) f=ez h f+ez k f
 |[],k,f=>by simp[ez]
 |c::h,k,f=>by simp only[da,ez,uL h k f];omega
def rc:∀(h:List bM)(f:Nat),0<=ez h f
 |[],f=>by simp[ez]
 |c::h,f=>by have:=rc h f;have:=iK c.aF f;simp only[ez];omega
def Ak:∀{h:List bM}{f:Nat}{c:bM}(e:bM)(_:h[f]? =some c)(b:Nat),ez (h.set f e) b=ez h b -eC c.aF b+eC e.aF b
 |[],f,c,e,h,b=>by simp at h
 |d::h,0,c,e,g,b=>by simp at g;subst g;simp only[iE,ez];omega
 |d::h,f+1,c,e,g,b=>by
  have:=Ak (h:=h) (f:=f) e (by simpa using g) b;simp only[jy,ez,this];omega
def LC:∀{h:List bM}{f:Nat},0<ez h f->∃c∈h,(1000+(f:Int))∈c.aF
 |[],f,h=>by simp[ez]at h
 |c::h,f,e=>by
  simp only[ez]at e;rcases dS (0<eC c.aF f)with b|b
  .exact⟨c,bg,OQ b⟩
  .let⟨d,hd,g⟩:=LC (h:=h) (f:=f) (oh (iK c.aF f));exact⟨d,ai _ hd,g⟩
def RZ:∀{h:List bM}{c:bM}(_:c∈h)(f:Nat),eC c.aF f<=ez h f
 |[],c,a,f=>by simp at a
 |d::h,c,a,f=>by
  simp only[ez];rcases List.mem_cons.1 a with rfl|a
  .have:=rc h f;omega
  .have:=RZ a f;have:=iK d.aF f;omega
structure oH(h:List bM)(c:bM):Prop where
 fl:c.aF.length<=3
 lo: -1<=c.aQ
 hi:c.aQ<=999999
 wW:c.aQ<1->c.kv=0/\(∀w∈c.aF,w=0)/\(c.aQ=0->c.aF=[])
 oY:0<c.aQ->(∀w∈c.aF,qI h w)/\0<=c.kv/\c.kv<=99
def SZ(h:List bM):Prop:=∃a:Nat->Nat,∀(i:Nat)(c:bM),h[i]? =some c->∀w∈c.aF,1000<=w->a (ix w)<a i
structure fN(h:List bM)(e:Nat->Int):Prop where
 cell:∀c∈h,oH h c
 MD:SZ h
 ex:∀(f:Nat)(c:bM),h[f]? =some c->0<c.aQ->c.aQ=ez h f+e f
 nn:∀f,0<=e f
 lv:∀f,0<e f->fP h f
def fN.congr(c:fN h e)(a:∀b,e' b=e b):fN h e':=by
 have:e'=e:=funext a;rw[this];exact c
def lK(f:Nat):ix (1000+(f:Int))=f:=by unfold ix;omega
def iA(h:1000<=w):1000+((ix w:Nat):Int)=w:=by unfold ix;omega
def Q5{v:Int}(a:1000<=v)(b:1000<=w)(h:ix v=ix w):v=w:=by rw[<-iA a,<-iA b,h]
def fN.field(i:fN h e)(g:c∈h)(f:w∈c.aF)(j:1000<=w):fY h w:=by
 have d:=i.cell c g;rcases dS (0<c.aQ)with b|b
 .rcases(d.oY b).1 w f with a|a
  .have:=a.2;omega
  .exact a
 .have:=(d.wW V).2.1 w f;omega
def fN.Xh(d:fN h e)(g:¬fP h f):ez h f=0:=by
 rcases dS (0<ez h f)with a|a
 .let⟨c,b,i⟩:=LC a;have:=(d.field b i V).2;rw[lK]at this;exact absurd this g
 .have:=rc h f;omega
def fN.Yz(a:fN h e)(c:¬fP h f):e f=0:=by
 have:=a.nn f;rcases dS (0<e f)with b|b
 .exact absurd (a.lv f b) c
 .omega
def iJ(a:b≠f):(h.set f c)[b]? =h[b]? :=by rw[cr (λe=>a e.symm)]
def eJ(hd:h[f]? =some d):(h.set f c)[f]? =some c:=by
 rw[dy (aw hd)]
def fP.ne(a:b≠f):fP (h.set f c) b<->fP h b:=by unfold fP;rw[iJ a]
def fP.yK(hd:h[f]? =some d):fP (h.set f c) f<->0<c.aQ:=by
 unfold fP;rw[eJ hd];simp
def qI.mono(c:qI h w)(b:1000<=w->fP h (ix w)->fP g (ix w)):qI g w:=by
 rcases c with a|a
 .exact Or.inl a
 .exact Or.inr ⟨a.1,b a.1 a.2⟩
def oH.mono{h g:List bM}{c:bM}(a:oH h c)(e:0<c.aQ->∀w∈c.aF,1000<=w->fP h (ix w)->fP g (ix w)):oH g c:=
 ⟨a.fl,a.lo,a.hi,a.wW,λb=>⟨λw d=>((a.oY b).1 w d).mono (e b w d),(a.oY b).2⟩⟩
def nV{x:bM}(i:x∈h.set f c):x=c\/∃b,b≠f/\h[b]? =some x:=by
 let⟨b,a⟩:=List.mem_iff_getElem?.1 i;by_cases e:b=f
 .subst e;rw[List.getElem?_set_self']at a;cases g:h[b]? with
  |none=>simp[g]at a
  |some d=>simp[g]at a;exact Or.inl a.symm
 .rw[iJ e]at a;exact Or.inr ⟨b,e,a⟩
def fN.Kv(j:fN h e)(g:h[f]? =some c)(i:0<c.aQ){n:Int}(v:0<n)(u:n<=999999)
 (m:∀b,e' b=e b+if b=f then n -c.aQ else 0)(s:0<=e' f):fN (h.set f {c with aQ:=n}) e':=by
 have p:∀b,fP (h.set f {c with aQ:=n}) b<->fP h b:=λb=>by
  by_cases a:b=f
  .subst a;rw[fP.yK g];exact⟨λ_=>⟨c,g,i⟩,λ_=>v⟩
  .exact fP.ne a
 have x:∀b,ez (h.set f {c with aQ:=n}) b=ez h b:=λb=>by rw[Ak _ g];simp only[];omega
 refine⟨λA y=>?_,?_,λb d hd t=>?_,λb=>?_,λb l=>?_⟩
 .rcases nV y with rfl|⟨b,_,l⟩
  .have q:=j.cell c (aq g)
   exact⟨q.fl,by simp only[];omega,u,λr=>by simp only[]at r;omega,λ_=>⟨λw k=>((q.oY i).1 w k).mono λ_ o=>(p _).2 o,(q.oY i).2⟩⟩
  .exact(j.cell A (aq l)).mono λ_ w _ _ o=>(p _).2 o
 .let⟨z,r⟩:=j.MD
  refine⟨z,λo d hd w k i=>?_⟩
  by_cases q:o=f
  .subst q;rw[eJ g]at hd;simp at hd;subst hd;exact r o c g w k i
  .rw[iJ q]at hd;exact r o d hd w k i
 .rw[x,m]
  by_cases a:b=f
  .subst a;rw[eJ g]at hd;simp at hd;subst hd
   have:=j.ex b c g i
   simp only[an];omega
  .rw[iJ a]at hd
   have:=j.ex b d hd t
   rw[ae a];omega
 .by_cases a:b=f
  .subst a;exact s
  .rw[m,ae a];have:=j.nn b;omega
 .rw[p]
  by_cases a:b=f
  .subst a;exact⟨c,g,i⟩
  .rw[m,ae a]at l;exact j.lv b V
def fN.Q2(j:fN h e)(m:h[f]? =some c)(I:c.aQ=1)(J:0<e f){c':bM}(C: -1<=c'.aQ)(L:c'.aQ<1)(G:c'.kv=0)
 (r:∀w∈c'.aF,w=0)(B:c'.aF.length<=3)(A:c'.aQ=0->c'.aF=[])
 (p:∀b,e' b=e b -(if b=f then 1 else 0)+eC c.aF b):fN (h.set f c') e':=by
 have o:=j.ex f c m V
 have O:=rc h f
 have N:ez h f=0:=V
 have K:e f=1:=V
 have u:∀x∈h,(1000+(f:Int))∉x.aF:=λx o g=>by
  have:=RZ o f;have:=uJ g;omega
 have M:eC c.aF f=0:=nW (u c (aq m))
 have E:∀b,eC c'.aF b=0:=λb=>nW λg=>by have:=r _ g;omega
 have t:∀b,b≠f->fP h b->fP (h.set f c') b:=λb i q=>(fP.ne i).2 q
 have D:∀x∈h,∀w∈x.aF,1000<=w->ix w≠f:=λx o w g n y=>by
  have:=iA n;rw[y]at this;rw[<-this]at g;exact u x o g
 refine⟨λx o=>?_,?_,λb d hd z=>?_,λb=>?_,λb k=>?_⟩
 .rcases nV o with rfl|⟨b,_,k⟩
  .exact⟨B,C,V,λ_=>⟨G,r,A⟩,λn=>V⟩
  .exact(j.cell x (aq k)).mono λ_ w g n q=>t _ (D x (aq k) w g n) q
 .let⟨H,F⟩:=j.MD
  refine⟨H,λv d hd w g n=>?_⟩
  by_cases s:v=f
  .subst s;rw[eJ m]at hd;simp at hd;subst hd;have:=r w g;omega
  .rw[iJ s]at hd;exact F v d hd w g n
 .rw[Ak _ m,E,p]
  by_cases i:b=f
  .subst i;rw[eJ m]at hd;simp at hd;subst hd;omega
  .rw[iJ i]at hd
   have:=j.ex b d hd z
   rw[ae i];omega
 .rw[p]
  have:=j.nn b
  have:=iK c.aF b
  split
  .rename_i i;subst i;omega
  .omega
 .rw[p]at k
  by_cases i:b=f
  .subst i;rw[an rfl]at k;omega
  .rw[ae i]at k
   refine t b i ?_
   rcases dS (0<e b)with s|s
   .exact j.lv b s
   .have:=j.nn b
    have g:=OQ (l:=c.aF) (f:=b) V
    have:=(j.field (aq m) g V).2
    rwa[lK]at this
def fN.make(l:fN h e){v:Int}{c:List Int}(r:¬fP h f)(p:g[f]? =some ⟨1,v,c⟩)(o:∀b,b≠f->g[b]? =h[b]?)
 (E:∀b,ez g b=ez h b+eC c b)(z:∀w∈c,qI h w)(C:c.length<=3)(G:0<=v/\v<=99)(x:∀b,eC c b<=e b)
 (t:∀b,e' b=e b -eC c b+if b=f then 1 else 0):fN g e':=by
 have u:∀b,fP h b->fP g b:=λb i=>by
  by_cases a:b=f
  .subst a;exact absurd i r
  .unfold fP;rw[o b a];exact i
 have L:=l.Yz r
 have N:=l.Xh r
 have M:eC c f=0:=by have:=iK c f;have:=x f;omega
 refine⟨λK I=>?_,?_,λb d hd B=>?_,λb=>?_,λb j=>?_⟩
 .let⟨b,j⟩:=List.mem_iff_getElem?.1 I
  by_cases a:b=f
  .subst a;rw[p]at j;simp at j;subst j
   exact⟨C,aL,aL,sx,λ_=>⟨λw n=>(z w n).mono λ_ i=>u _ i,G⟩⟩
  .rw[o b a]at j
   exact(l.cell K (aq j)).mono λ_ w _ _ i=>u _ i
 .let⟨s,F⟩:=l.MD
  refine⟨λk=>if k=f then(c.map λw=>s (ix w)).sum+1 else s k,λk d hd w n y=>?_⟩
  have H:ix w≠f:=λA=>by
   have D:fY h w:=by
    by_cases m:k=f
    .subst m;rw[p]at hd;simp at hd;subst hd;rcases z w n with q|q
     .have:=q.2;omega
     .exact q
    .rw[o k m]at hd;exact l.field (aq hd) n y
   exact r (A▸D.2)
  simp only[ae H]
  by_cases m:k=f
  .subst m;rw[p]at hd;simp at hd;subst hd
   rw[an rfl]
   have:∀(q:List Int),w∈q->s (ix w)<=(q.map λw=>s (ix w)).sum:=by
    intro q i;induction q with
    |nil=>simp at i
    |cons O q J=>
     simp only[cK,List.sum_cons];rcases List.mem_cons.1 i with rfl|i
     .omega
     .have:=J i;omega
   have:=this c n;omega
  .rw[ae m];rw[o k m]at hd;exact F k d hd w n y
 .rw[E,t]
  by_cases a:b=f
  .subst a;rw[p]at hd;simp at hd;subst hd
   rw[an rfl];simp only[];omega
  .rw[o b a]at hd
   have:=l.ex b d hd B
   rw[ae a];omega
 .rw[t];have:=x b;split<;>omega
 .rw[t]at j
  by_cases a:b=f
  .subst a;exact⟨_,p,aL⟩
  .rw[ae a]at j
   exact u b (l.lv b (oh (iK c b)))
def fN.ig:∀(n:Nat)(h:List bM)(o:List Int)(e:Nat->Int),Cn h+o.length<=n->fN h (λb=>e b+eC o b)->(∀b,0<=e b)->fN (ig h o) e
 |n,h,[],e,_,a,_=>by rw[ta];exact a.congr λb=>by simp[eC]
 |n,h,w::r,e,f,a,d=>by
  rcases dS (fY h w)with c|c
  .let⟨g,m⟩:=bS c;have s:=iA c.1;have l:∀b,eC (w::r) b=(if b=ix w then 1 else 0)+eC r b:=λb=>by
    simp only[eC];congr 1;by_cases k:b=ix w
    .subst k;rw[an s.symm,an rfl]
    .rw[ae k,ae (λi=>k (by rw[i,lK]))]
   have p:=kE (d:=ji) g;by_cases j:(aM h w).aQ=1
   .rw[tc c j];simp only[an m,ji]at p;simp at p;cases n with
    |zero=>simp at f
    |succ n=>
    refine fN.ig n _ _ e ?_ (fN.Q2 a g j ?_ bh bh rfl (by simp[ji]) (by simp[ji]) (λ_=>rfl) λb=>?_) d
    .simp[ji]at f⊢;omega
    .simp only[l,an];have:=d (ix w);have:=iK r (ix w);omega
    .simp only[l,mh,Ag];omega
   .rw[qB c j];have q:=kE (d:={aM h w with aQ:=(aM h w).aQ -1}) g;simp only[an m]at q;rw[an V]at q;have t:=(a.cell _ (aq g)).hi;cases n with
    |zero=>simp at f
    |succ n=>
    refine fN.ig n _ _ e ?_ (fN.Kv a g m V V (λb=>?_) ?_) d
    .simp only[ba]at f;simp only[fm];omega
    .simp only[l];split<;>omega
    .have:=d (ix w);have:=iK r (ix w);omega
  .rw[qC c];cases n with
   |zero=>simp at f
   |succ n=>
   refine fN.ig n _ _ e (by simp at f;omega) (a.congr λb=>?_) d;simp only[eC];rw[ae]
   .omega
   .intro i;have:=a.lv b (by simp only[eC,an i];have:=d b;have:=iK r b;omega);exact c ⟨V,by rw[i,lK];exact this⟩
def tW(h:List bM):∀n,jw h n<=n
 |0=>ad _
 |n+1=>by
  simp only[jw];have:=tW h n;split
  .split<;>omega
  .omega
def tV(h:List bM):∀(n k:Nat)(c:bM),jw h n<=k->k<n->h[k]? =some c->c.aQ=0
 |0,k,c,_,d,_=>V
 |n+1,k,c,a,e,b=>by
  simp only[jw]at a;by_cases d:k=n
  .subst d;rw[b]at a;simp only[]at a;split at a
   .assumption
   .omega
  .split at a
   .split at a
    .exact tV h n k c a V b
    .omega
   .exact tV h n k c a V b
def Mr(h:List bM):∀(n:Nat)(c:bM),n<=h.length->h[jw h n -1]? =some c->0<jw h n->c.aQ≠0
 |0,c,_,_,b=>by simp[jw]at b
 |n+1,c,f,a,b=>by
  simp only[jw]at a b;let⟨d,hd⟩:=cG h n;rw[hd]at a b;simp only[]at a b;split at a
  .rename_i e;rw[an e]at b;exact Mr h n c V a b
  .rename_i e;simp at a;rw[hd]at a;simp at a;subst a;exact e
def oA(h:List bM):Prop:=∀c,h[h.length -1]? =some c->c.aQ≠0
def Hp(h:List bM):oA (nE h):=by
 intro c a;have d:=tW h h.length;unfold nE at a;rw[gL,jq d]at a;rcases kj (jw h h.length)with b|b
 .rw[b]at a;simp at a
 .rw[dI V]at a;exact Mr h _ c (ad _) a b
def NU:∀{h:List bM},(∀c∈h,c.aF=[])->∀f,ez h f=0
 |[],_,f=>rfl
 |c::h,a,f=>by simp only[ez,a c bg,eC,NU (λd hd=>a d (ai _ hd)) f];rfl
def fN.nE{h:List bM}{e:Nat->Int}(d:fN h e):fN (nE h) e:=by
 have u:=tW h h.length;have q:∀(b:Nat)(c:bM),h[b]? =some c->c.aQ≠0->b<jw h h.length:=λb c a i=>
  dR λv=>i (tV h h.length b c V (aw a) a)
 have k:∀(b:Nat)(c:bM),(Go.Proofs.YtkoifinbblcbiaaGreat.nE h)[b]? =some c->h[b]? =some c:=λb c a=>by
  unfold Go.Proofs.YtkoifinbblcbiaaGreat.nE at a;have:=aw a;rw[gL]at this;rwa[dI V]at a
 have l:∀b,fP h b->fP (Go.Proofs.YtkoifinbblcbiaaGreat.nE h) b:=λb⟨c,a,j⟩=>⟨c,by
  unfold Go.Proofs.YtkoifinbblcbiaaGreat.nE;rw[dI (q b c a V)];exact a,j⟩
 have s:∀b,ez (Go.Proofs.YtkoifinbblcbiaaGreat.nE h) b=ez h b:=λb=>by
  have m:h=Go.Proofs.YtkoifinbblcbiaaGreat.nE h++h.drop (jw h h.length):=(dm _ _).symm;have n:ez (h.drop (jw h h.length)) b=0:=NU (λc a=>by
   let⟨o,g⟩:=List.mem_iff_getElem?.1 a;rw[sq]at g;have i:=tV h h.length _ c V (aw g) g;exact((d.cell c (aq g)).wW V).2.2 i) b
  have o:=ov (λg=>ez g b) m;simp only[uL,n]at o;omega
 refine⟨λc a=>?_,?_,λf c a j=>?_,d.nn,λf p=>l f (d.lv f p)⟩
 .let⟨b,g⟩:=List.mem_iff_getElem?.1 a;exact(d.cell c (aq (k b c g))).mono λ_ w _ _ r=>l _ r
 .let⟨t,r⟩:=d.MD;exact⟨t,λg c a=>r g c (k g c a)⟩
 .rw[s];exact d.ex f c (k f c a) j
end
section
variable{l:List Int}{i x v r:Int}{b:Nat}{c:cO}{f:aT}{s:St}
def lH(b:0<=i)(c:i<l.length):l[i.toNat]? =some (aE l i):=by
 let⟨x,a⟩:=cG l i.toNat;simp[aE,a]
def Ya(h:l[b]? =some x):aE l b=x:=by simp[aE,h]
def HK(h:l[i.toNat]? =some x):aE l i=x:=by simp[aE,h]
def fA(a:0<=i)(b:i<l.length):aE l i∈l:=iD (lH a b)
def jc(l:List Int)(i v:Int):(gU l i v).length=l.length:=by simp[gU]
def pO(h:x∈gU l i v):x=v\/x∈l:=by
 rcases cD h with h|h
 .exact Or.inr h
 .exact Or.inl h
def Ao(l:List Int)(i v:Int)(b:Nat):(gU l i v)[b]? =if b=i.toNat/\b<l.length then some v else l[b]? :=by
 unfold gU;by_cases h:b=i.toNat
 .subst h;by_cases a:i.toNat<l.length
  .rw[dy a,an ⟨rfl,a⟩]
  .rw[ae V,rQ V]
 .rw[ae V,cr (λe=>h e.symm)]
def Kn(a:0<=i)(b:i<l.length)(j:Int)(c:0<=j):aE (gU l i v) j=if j=i then v else aE l j:=by
 unfold aE;rw[fS,fS,Ao];by_cases h:j=i
 .subst h;rw[an rfl,an ⟨rfl,V⟩];rfl
 .rw[ae h,ae V]
def Ie:∀(ak aR:List Int)(b:Nat)(w o f e:Int)(a:Nat),ak[b]? =some f->aR[b]? =some e->
 df (ak.set b w) (aR.set b o) a=df ak aR a -(if f=1000+(a:Int)then e else 0)+(if w=1000+(a:Int)then o else 0)
 |[],aR,b,w,o,f,e,a,c,d=>by simp at c
 |r::g,[],b,w,o,f,e,a,c,d=>by simp at d
 |r::g,q::h,0,w,o,f,e,a,c,d=>by
  simp at c d;subst c;subst d;simp only[iE,df];omega
 |r::g,q::h,b+1,w,o,f,e,a,c,d=>by
  have:=Ie g h b w o f e a (by simpa using c) (by simpa using d);simp only[jy,df,this];omega
def Ug(h:l[b]? =some x):l.set b x=l:=by
 apply gY;intro i;by_cases a:b=i
 .subst a;rw[dy (aw h),h]
 .rw[cr a]
def Ic{ak aR:List Int}(c:0<=r)(d:r<ak.length)(e:r<aR.length)(o:Int)(a:Nat):
 df ak (gU aR r o) a=df ak aR a+(if aE ak r=1000+(a:Int)then o -aE aR r else 0):=by
 have b:=lH c d
 have:=Ie ak aR r.toNat (aE ak r) o _ _ a b (lH c e)
 rw[Ug b]at this
 rw[gU,this];split<;>omega
def NO{ak aR:List Int}(b:0<=r)(c:r<ak.length)(d:r<aR.length)(e:aE aR r=0)(w o:Int)(a:Nat):
 df (gU ak r w) (gU aR r o) a=df ak aR a+(if w=1000+(a:Int)then o else 0):=by
 have:=Ie ak aR r.toNat w o _ _ a (lH b c) (lH b d)
 rw[gU,gU,this,e];split<;>omega
def tC:∀{ak aR:List Int},(∀o∈aR,0<=o)->∀a,0<=df ak aR a
 |[],aR,h,a=>by cases aR<;>simp[df]
 |r::b,[],h,a=>by simp[df]
 |r::b,o::d,h,a=>by
  have:=tC (ak:=b) (aR:=d) (λx c=>h x (ai _ c)) a;have:=h o bg;simp only[df];split<;>omega
def tE:∀{ak aR:List Int},Sk aR->∀a,df ak aR a=0
 |[],aR,h,a=>by cases aR<;>simp[df]
 |r::b,[],h,a=>by simp[df]
 |r::b,o::d,h,a=>by
  have:=tE (ak:=b) (aR:=d) (λx c=>h x (ai _ c)) a;have:=h o bg;simp only[df,this];split<;>omega
def Gl:∀{c o1:List Int}(b o2:List Int),c.length=o1.length->∀a,df (c++b) (o1++o2) a=df c o1 a+df b o2 a
 |[],[],b,o2,_,a=>by simp[df]
 |[],_::_,_,_,h,_=>by simp at h
 |_::_,[],_,_,h,_=>by simp at h
 |r::e,o::d,b,o2,h,a=>by
  have:=Gl (c:=e) (o1:=d) b o2 (by simpa using h) a;simp only[da,df,this];omega
def Lv:∀{ak aR:List Int}{b:Nat}{w o:Int}(_:∀o∈aR,0<=o)(_:ak[b]? =some w)(_:aR[b]? =some o){d:Nat}(_:w=1000+(d:Int)),o<=df ak aR d
 |[],_,_,_,_,_,a,_,_,_=>by simp at a
 |_::_,[],_,_,_,_,_,c,_,_=>by simp at c
 |r::i,q::h,0,w,o,e,a,c,d,f=>by
  simp at a c;subst a;subst c;have:=tC (ak:=i) (aR:=h) (λx g=>e x (ai _ g)) d;simp only[df,an f];omega
 |r::i,q::h,b+1,w,o,e,a,c,d,f=>by
  have:=Lv (ak:=i) (aR:=h) (b:=b) (λx g=>e x (ai _ g)) (by simpa using a) (by simpa using c) f;have:=e q bg;simp only[df];split<;>omega
def fX:∀(l r:List aT)(a:Nat),fB (l++r) a=fB l a+fB r a
 |[],r,a=>by simp[fB]
 |f::l,r,a=>by simp only[da,fB,fX l r a];omega
def kX(f:aT)(a:Nat):fB [f] a=df f.ak f.aR a:=by simp[fB]
def eK:∀(l r:List aT)(a:Nat),dH (l++r) a=dH l a+dH r a
 |[],r,a=>by simp[dH]
 |f::l,r,a=>by simp only[da,dH,eK l r a];omega
def jg(f:aT)(a:Nat):dH [f] a=eC f.aZ a:=by simp[dH]
def vR:∀(l:List aT)(a:Nat),0<=dH l a
 |[],a=>by simp[dH]
 |f::l,a=>by have:=vR l a;have:=iK f.aZ a;simp only[dH];omega
def jJ(ak:List Int):∀(a aR:List Int),(bB ak aR a).length=aR.length
 |[],aR=>rfl
 |r::a,aR=>by simp only[bB];rw[jJ ak a];split<;>simp[jc]
def xU{ak:List Int}:∀(b aR:List Int),(∀r∈b,0<=r/\r<ak.length)->ak.length=aR.length->∀a,df ak (bB ak aR b) a=df ak aR a -eC (b.map (aE ak)) a
 |[],aR,_,_,a=>by simp[bB,eC]
 |r::b,aR,h,c,a=>by
  have e:=h r bg;have f:=λaR c=>xU (ak:=ak) b aR (λx d=>h x (ai _ d)) c a;simp only[bB,cK,eC];by_cases d:1000<=aE ak r
  .rw[an d,f _ (by rw[jc];exact c),Ic e.1 e.2 V];split<;>omega
  .rw[ae d,f _ c,ae V];omega
def ly{ak:List Int}:∀(c aR:List Int)(b:Nat)(o:Int),(bB ak aR c)[b]? =some o->∃q,aR[b]? =some q/\o<=q
 |[],aR,b,o,h=>⟨o,h,dx _⟩
 |r::c,aR,b,o,h=>by
  simp only[bB]at h;let⟨q,a,e⟩:=ly c _ b o h;split at a
  .rw[Ao]at a;split at a
   .rename_i d;let⟨y,f⟩:=dC d.2;have g:aE aR r=y:=by rw[aE,fS,<-d.1,f];rfl
    simp at a;exact⟨y,f,V⟩
   .exact⟨q,a,e⟩
  .exact⟨q,a,e⟩
def lY:∀(a aR:List Int),(dF aR a).length=aR.length
 |[],aR=>rfl
 |r::a,aR=>by simp only[dF];rw[lY a,jc]
def FE{ak:List Int}:∀(b aR:List Int),(∀r∈b,0<=r/\r<ak.length)->ak.length=aR.length->∀a,df ak (dF aR b) a=df ak aR a+eC (b.map (aE ak)) a
 |[],aR,_,_,a=>by simp[dF,eC]
 |r::b,aR,h,d,a=>by
  have c:=h r bg;simp only[dF,cK,eC];rw[FE (ak:=ak) b _ (λx e=>h x (ai _ e)) (by rw[jc];exact d) a,Ic c.1 c.2 V];split<;>omega
def KJ{ak:List Int}:∀(d aR:List Int),(∀r∈d,0<=r/\r<aR.length/\1000<=aE ak r)->
 (∀(b:Nat)(o w:Int),aR[b]? =some o->ak[b]? =some w->0<=o/\(0<o->1000<=w))->∀(b:Nat)(o w:Int),(dF aR d)[b]? =some o->ak[b]? =some w->0<=o/\(0<o->1000<=w)
 |[],aR,_,h,b,o,w,a,c=>h b o w a c
 |r::d,aR,g,h,b,o,w,a,c=>by
  refine KJ (ak:=ak) d (gU aR r (aE aR r+1)) (λx e=>by rw[jc];exact g x (ai _ e)) (λb o w a c=>?_) b o w a c;rw[Ao]at a;split at a
  .rename_i f;have e:=g r bg;have i:aE ak r=w:=by rw[aE,fS,<-f.1,c];rfl
   have j:=h b (aE aR r) w (by rw[f.1];exact lH e.1 e.2.1) c;simp at a;exact⟨V,λ_=>V⟩
  .exact h b o w a c
def fO(h:List bM)(a:Nat):Prop:=∃c,h[a]? =some c/\c.aQ<0
structure gR(c:cO)(f:aT):Prop where
 fq:0<=f.fq/\f.fq<c.cB.length
 pc:0<=f.pc/\f.pc<(dP c f.fq).dq.length
 lr:(f.ak.length:Int)=(dP c f.fq).ak
 lo:(f.aR.length:Int)=(dP c f.fq).ak
 lh:(f.aZ.length:Int)=(dP c f.fq).ak
 R1:∀w∈f.ak,gP w\/1000<=w
 aR:∀(b:Nat)(o w:Int),f.aR[b]? =some o->f.ak[b]? =some w->0<=o/\(0<o->1000<=w)
 aZ:∀w∈f.aZ,w=0\/1000<=w
structure cY(c:cO)(s:St):Prop where
 fg:nB c
 cz:0<=s.cz/\s.cz<=3
 done:s.cz=0<->s.ao=[]
 value:gP s.value
 tY:s.value≠0->s.cz=0
 dW:0<=s.dW/\s.dW<=40
 bu:0<=s.bu/\s.bu<=s.dW
 depth:(s.ao.length:Int)<=s.bu+1
 aU:∀n∈s.aU,gP n
 heap:fN s.heap (fB s.ao)
 jF:oA s.heap
 ao:∀f∈s.ao,gR c f
 first:∀f,s.ao[0]? =some f->f.dst=0
 chain:∀(b:Nat)(f g:aT),s.ao[b]? =some f->s.ao[b+1]? =some g->0<=g.dst/\g.dst<f.aR.length/\aE f.aR g.dst=0
 lA:∀a,fO s.heap a->dH s.ao a=1
 ny:∀a,¬fO s.heap a->dH s.ao a=0
def gR.PX(h:gR c f):∀o∈f.aR,0<=o:=λo d=>by
 let⟨b,a⟩:=List.mem_iff_getElem?.1 d;have g:=aw a;have:=h.lo;have:=h.lr;let⟨w,e⟩:=cG f.ak b;exact(h.aR b o w a e).1
def Ku{c:cO}:∀{b:List aT},(∀f∈b,gR c f)->∀a,0<=fB b a
 |[],_,a=>by simp[fB]
 |f::b,h,a=>by
  have:=Ku (λg d=>h g (ai _ d)) a;have:=tC (ak:=f.ak) (h f bg).PX a;simp only[fB];omega
def cY.split(h:cY c s)(b:s.cz=3):∃a f,s.ao=a++[f]:=by
 have:s.ao≠[]:=λe=>by have:=h.done.2 e;omega
 exact⟨s.ao.dropLast,s.ao.getLast this,(fu this).symm⟩
def gR.Ab(j:nB c)(h:gR c f):∃p,c.cB[f.fq.toNat]? =some p/\dP c f.fq=p/\HG c p/\p.dq[f.pc.toNat]? =some (cR c f)/\iV c p f.pc.toNat (cR c f):=by
 let⟨p,b⟩:=cG c.cB f.fq.toNat (oh h.fq);have e:dP c f.fq=p:=by simp[dP,b]
 have g:=j.dA p (aq b);have k:=h.pc;rw[e]at k;let⟨i,a⟩:=cG p.dq f.pc.toNat;have d:cR c f=i:=by simp[cR,e,a]
 exact⟨p,b,e,g,d▸a,d▸g.dA _ _ a⟩
def cY.fU(h:cY c s)(A:s.cz=3){e:List aT}{g:aT}(k:s.ao=e++[f]){d:List bM}{aU:List Int}(o:gR c g)(hd:g.dst=f.dst)
 (r:fN d (fB (e++[g])))(w:oA d)(t:∀a,fO d a->dH (e++[g]) a=1)(x:∀a,¬fO d a->dH (e++[g]) a=0)(v:∀n∈aU,gP n){bu:Int}(n:s.bu<=bu/\bu<=s.dW):
 cY c {s with heap:=d,aU:=aU,bu:=bu,ao:=e++[g]}:=by
 have z:=h.bu
 have m:=h.depth
 rw[k]at m
 refine⟨h.fg,h.cz,⟨λj=>by simp at j;omega,sx⟩,h.value,h.tY,h.dW,⟨by simp only[];omega,n.2⟩,by simp at m⊢;omega,v,r,w,λq a=>?_,λq a=>?_,λb p q d a=>?_,t,x⟩
 .rcases List.mem_append.1 a with a|a
  .exact h.ao q (by rw[k];exact bI _ a)
  .simp at a;subst a;exact o
 .have i:=h.first
  rw[k]at i
  cases e with
  |nil=>simp at a;subst a;rw[hd];exact i f aL
  |cons y l=>simp at a;subst a;exact i y aL
 .have l:=h.chain b
  rw[k]at l
  simp only[]at d a
  have u:=aw a
  simp at u
  rw[ax V]at d
  rcases aX (b+1) e.length with i|i
  .rw[ax i]at a
   exact l p q (by rw[ax V];exact d) (by rw[ax i];exact a)
  .rw[aJ i]at a
   have j:b+1 -e.length=0:=V
   rw[j]at a;simp at a;subst a
   rw[hd]
   exact l p f (by rw[ax V];exact d) (by rw[aJ i,j];rfl)
end
section
variable{h:List bM}{a:Nat}{c d:bM}{w:Int}{e e':Nat->Int}
def fO.ne{b:Nat}(d:b≠a):fO (h.set a c) b<->fO h b:=by unfold fO;rw[iJ d]
def fO.yK(hd:h[a]? =some d):fO (h.set a c) a<->c.aQ<0:=by unfold fO;rw[eJ hd];simp
def fO.set(hd:h[a]? =some d)(i:0<=d.aQ)(j:0<=c.aQ)(b:Nat):fO (h.set a c) b<->fO h b:=by
 by_cases g:b=a
 .subst g;rw[fO.yK hd];refine⟨λk=>V,λ⟨e,f,l⟩=>?_⟩;rw[hd]at f;simp at f;subst f;omega
 .exact fO.ne g
def fO.Ul(e:fO h a):¬fP h a:=λ⟨c,b,g⟩=>by
 let⟨d,hd,f⟩:=e;rw[b]at hd;simp at hd;subst hd;omega
def fO.fm(c:fY h w)(b:Nat):fO (fm h w) b<->fO h b:=by
 let⟨a,d⟩:=bS c;exact fO.set a V (by simp only[];omega) b
def fO.na(c:fY h w)(b:Nat):fO (na h w) b<->fO h b:=by
 let⟨a,d⟩:=bS c;exact fO.set a V (by simp only[];omega) b
def fO.Q2(c:fY h w)(b:Nat):fO (h.set (ix w) ji) b<->fO h b:=by
 let⟨a,d⟩:=bS c;exact fO.set a V (by simp[ji]) b
def fO.ig:∀(n:Nat)(h:List bM)(i:List Int),Cn h+i.length<=n->∀b,fO (ig h i) b<->fO h b
 |n,h,[],_,b=>by rw[ta]
 |0,h,w::r,c,b=>by simp at c
 |n+1,h,w::r,c,b=>by
  simp only[ba]at c;rcases dS (fY h w)with a|a
  .let⟨f,g⟩:=bS a;by_cases d:(aM h w).aQ=1
   .have e:=kE (d:=ji) f;simp only[an g,ji]at e;simp at e;rw[tc a d,fO.ig n _ _ (by simp[ji];omega) b,fO.Q2 a]
   .have e:=kE (d:={aM h w with aQ:=(aM h w).aQ -1}) f;simp only[an g]at e;rw[an V]at e;rw[qB a d,fO.ig n _ _ (by simp only[Go.Proofs.YtkoifinbblcbiaaGreat.fm];omega) b,fO.fm a]
  .rw[qC a,fO.ig n _ _ V b]
def fO.nE{h:List bM}(b:Nat):fO (nE h) b<->fO h b:=by
 have f:=tW h h.length;unfold fO Go.Proofs.YtkoifinbblcbiaaGreat.nE;constructor
 .rintro⟨c,a,d⟩;have:=aw a;rw[gL]at this;rw[dI V]at a;exact⟨c,a,d⟩
 .rintro⟨c,a,d⟩;refine⟨c,?_,d⟩;rw[dI]
  .exact a
  .exact dR λe=>by have:=tV h h.length b c V (aw a) a;omega
def fN.na(c:fN h e)(f:fY h w)(i:(aM h w).aQ<999999)(a:∀b,e' b=e b+if b=ix w then 1 else 0):fN (na h w) e':=by
 let⟨d,g⟩:=bS f;refine c.Kv d g V V (λb=>?_) ?_
 .rw[a];split<;>omega
 .rw[a];have:=c.nn (ix w);split<;>omega
def PA(a:fY h w){v:Int}(d:1000<=v):(aM (na h w) v).aQ=(aM h v).aQ+(if v=w then 1 else 0):=by
 let⟨c,f⟩:=bS a;unfold na;by_cases e:v=w
 .subst e;rw[an rfl];conv=>lhs;unfold aM
  rw[eJ c];rfl
 .rw[ae e];conv=>lhs;unfold aM
  rw[iJ (λb=>e (Q5 d a.1 b))];simp[aM]
def fP.na{h:List bM}{w:Int}(a:fY h w)(b:Nat):fP (na h w) b<->fP h b:=by
 let⟨c,d⟩:=bS a;by_cases e:b=ix w
 .subst e;unfold Go.Proofs.YtkoifinbblcbiaaGreat.na;rw[fP.yK c];exact⟨λ_=>a.2,λ_=>by simp only[];omega⟩
 .exact fP.ne e
def iZ(d:1000<=w)(r:List Int)(b:Nat):eC (w::r) b=(if b=ix w then 1 else 0)+eC r b:=by
 simp only[eC];congr 1;have e:=iA d;by_cases a:b=ix w
 .subst a;rw[an e.symm,an rfl]
 .rw[ae a,ae (λc=>a (by rw[c,lK]))]
def fN.jt:∀(a:List Int)(h:List bM)(e e':Nat->Int),fN h e->(∀w∈a,fY h w/\(aM h w).aQ+eC a (ix w)<=999999)->(∀b,e' b=e b+eC a b)->fN (jt h a) e'/\(∀b,fO (jt h a) b<->fO h b)/\(jt h a).length=h.length
 |[],h,e,e',i,_,g=>⟨i.congr λb=>by rw[g];simp[eC],λ_=>SX,rfl⟩
 |w::a,h,e,e',i,k,g=>by
  let⟨c,p⟩:=k w bg;rw[iZ c.1,an rfl]at p;have:=iK a (ix w);let⟨m,n,o⟩:=fN.jt a (Go.Proofs.YtkoifinbblcbiaaGreat.na h w) (λb=>e b+if b=ix w then 1 else 0) e' (i.na c V λb=>rfl) (λv q=>by
   let⟨d,j⟩:=k v (ai _ q);refine⟨⟨d.1,(fP.na c _).2 d.2⟩,?_⟩;rw[PA c d.1];rw[iZ c.1]at j;split
   .rename_i f;subst f;rw[an rfl]at j;omega
   .rename_i f;rw[ae (λl=>f (Q5 d.1 c.1 l))]at j;omega) (λb=>by rw[g,iZ c.1];omega)
  refine⟨m,λb=>by rw[Go.Proofs.YtkoifinbblcbiaaGreat.jt,n,fO.na c],by rw[Go.Proofs.YtkoifinbblcbiaaGreat.jt,o];simp[Go.Proofs.YtkoifinbblcbiaaGreat.na]⟩
def lM{l:List Int}:w∈lj l<->w∈l/\1000<=w:=by simp[lj]
def fN.apart{h:List bM}{e e':Nat->Int}(j:fN h e){w:Int}(o:fY h w)(H:0<e (ix w))(t:(aM h w).aQ=1\/lC h (aM h w).aF)
 (A:∀b,e' b=e b -(if b=ix w then 1 else 0)+eC (aM h w).aF b)(K:oA h):fN (apart h w) e'/\(∀b,fO (apart h w) b<->fO h b)/\oA (apart h w):=by
 let⟨g,J⟩:=bS o
 unfold Go.Proofs.YtkoifinbblcbiaaGreat.apart
 by_cases r:(aM h w).aQ=1
 .rw[an r]
  exact⟨(j.Q2 g r H (c':=ji) bh bh rfl (by simp[ji]) (by simp[ji]) (λ_=>rfl) A).nE,λb=>by rw[fO.nE,fO.Q2 o],Hp _⟩
 .rw[ae r]
  have t:lC h (aM h w).aF:=by rcases t with m|m;exact absurd m r;exact m
  have Q:=(j.cell _ (aq g)).hi
  have I:fN (Go.Proofs.YtkoifinbblcbiaaGreat.fm h w) (λb=>e b -if b=ix w then 1 else 0):=j.Kv g J V V (λb=>by split<;>omega) bE
  have u:∀b,fP h b->fP (Go.Proofs.YtkoifinbblcbiaaGreat.fm h w) b:=λb f=>by
   by_cases k:b=ix w
   .subst k;unfold Go.Proofs.YtkoifinbblcbiaaGreat.fm;rw[fP.yK g];simp only[];omega
   .exact(fP.ne k).2 f
  let⟨m,y,z⟩:=fN.jt (lj (aM h w).aF) _ _ e' I (λv x=>by
   let⟨s,p⟩:=lM.1 x;have a:=j.field (aq g) s p;refine⟨⟨a.1,u _ a.2⟩,?_⟩;have:=t v s p;rw[wi];have O:(aM (Go.Proofs.YtkoifinbblcbiaaGreat.fm h w) v).aQ<=(aM h v).aQ:=by
    by_cases k:ix v=ix w
    .have i:=Q5 p o.1 k;subst i;unfold Go.Proofs.YtkoifinbblcbiaaGreat.fm;conv=>lhs;unfold aM
     rw[eJ g];show(aM h v).aQ -1<=(aM h v).aQ;omega
    .unfold Go.Proofs.YtkoifinbblcbiaaGreat.fm;conv=>lhs;unfold aM
     rw[iJ k];exact dx _
   omega) (λb=>by rw[A,wi])
  refine⟨m,λb=>by rw[y,fO.fm o],λc n=>?_⟩
  intro M
  rw[z]at n
  have B:(Go.Proofs.YtkoifinbblcbiaaGreat.fm h w).length=h.length:=by simp[Go.Proofs.YtkoifinbblcbiaaGreat.fm]
  rw[B]at n
  have f:=aw n
  rw[z,B]at f
  let⟨d,hd⟩:=cG h (h.length -1)
  have N:=K d hd
  have G:=j.cell d (aq hd)
  have P:=G.lo
  rcases dS (0<d.aQ)with C|C
  .have F:∀(q:List Int)(l:List bM),(∀v∈q,fY l v)->∀b,fP l b->fP (Go.Proofs.YtkoifinbblcbiaaGreat.jt l q) b:=by
    intro q;induction q with
    |nil=>intro l _ b f;exact f
    |cons v q L=>
     intro l i b f;have a:=i v bg;exact L _ (λE D=>⟨(i E (ai _ D)).1,(fP.na a _).2 (i E (ai _ D)).2⟩) b ((fP.na a _).2 f)
   let⟨D,i,E⟩:=F (lj (aM h w).aF) (Go.Proofs.YtkoifinbblcbiaaGreat.fm h w) (λv x=>by
    let⟨s,p⟩:=lM.1 x;have a:=j.field (aq g) s p;exact⟨a.1,u _ a.2⟩) _ (u _ ⟨d,hd,C⟩)
   rw[n]at i;simp at i;subst i;omega
  .have l:fO h (h.length -1):=⟨d,hd,V⟩
   let⟨D,i,q⟩:=(y (h.length -1)).2 ((fO.fm o _).2 l)
   rw[n]at i;simp at i;subst i;omega
def qE:∀(h:List bM),dG h<=h.length
 |[]=>ad _
 |c::h=>by have:=qE h;simp only[dG,ba];split<;>omega
def DX:∀(h:List bM)(c:bM),h[dG h]? =some c->c.aQ=0
 |[],c,a=>by simp[dG]at a
 |d::h,c,a=>by
  simp only[dG]at a;split at a
  .rename_i b;simp at a;subst a;exact b
  .exact DX h c (by simpa using a)
def fN.alloc(k:fN h e){t:Int}{f:List Int}(s:∀w∈f,qI h w)(m:f.length<=3)(r:0<=t/\t<=99)(n:∀b,eC f b<=e b)
 (l:∀b,e' b=e b -eC f b+if b=dG h then 1 else 0)(u:oA h):
 fN (js h (dG h) ⟨1,t,f⟩) e'/\(∀b,fO (js h (dG h) ⟨1,t,f⟩) b<->fO h b)/\oA (js h (dG h) ⟨1,t,f⟩):=by
 unfold js
 have o:¬fP h (dG h):=λ⟨c,a,v⟩=>by have:=DX h c a;omega
 by_cases i:dG h=h.length
 .rw[an i]
  have q:(h++[⟨1,t,f⟩])[dG h]? =some ⟨1,t,f⟩:=by rw[i];simp
  have p:∀b,b≠dG h->(h++[⟨1,t,f⟩])[b]? =h[b]? :=λb g=>by
   rcases aX b h.length with j|j
   .rw[ax j]
   .rw[cN bE,cN j]
  refine⟨k.make o q p (λb=>by rw[uL];simp[ez]) s m r n l,λb=>?_,λc a=>?_⟩
  .by_cases g:b=dG h
   .rw[g];unfold fO;rw[q,i];simp
   .unfold fO;rw[p b g]
  .simp at a;subst a;simp
 .rw[ae i]
  have q:dG h<h.length:=by have:=qE h;omega
  let⟨d,hd⟩:=dC q
  have j:=DX h d hd
  have p:=((k.cell d (aq hd)).wW V).2.2 j
  refine⟨k.make o (eJ hd) (λb g=>iJ g) (λb=>by rw[Ak _ hd,p];simp[eC]) s m r n l,λb=>fO.set hd V aL b,λc a=>?_⟩
  rw[eu]at a
  by_cases g:h.length -1=dG h
  .rw[g,eJ hd]at a;simp at a;subst a;simp
  .rw[iJ g]at a;exact u c a
end
section
variable{b:cO}{w:Int}{s:St}{f g:aT}
def Fo{b:cO}{x:Instr}:∀{l:List Int}{k:Nat}{r:Int},r∈iL b x k l->r∈l
 |[],k,r,h=>by simp[iL]at h
 |y::l,k,r,h=>by
  simp only[iL]at h;split at h
  .exact ai _ (Fo h)
  .rcases List.mem_cons.1 h with rfl|h
   .exact bg
   .exact ai _ (Fo h)
def Ck{x:Instr}{r:Int}(h:r∈bT b x):r∈x.args:=by
 unfold bT at h;split at h
 .exact h
 split at h
 .exact dB h
 split at h
 .exact Fo h
 .simp at h
def Jm{a:List bz}(h:dU a)(c:Int):(cE a c).length<=3:=by
 unfold cE;split
 .cases g:(eS a)[c.toNat]? with
  |none=>simp
  |some f=>
   have d:=aq g;unfold eS at d;let⟨e,hd,b⟩:=List.mem_flatMap.1 d;let⟨k,i⟩:=List.mem_iff_getElem?.1 hd;have:=(h.dA k e i).je (List.length_pos_of_mem b);exact(this.2.2.2 f b).1
 .simp
def gR.put{b:cO}{g:aT}(h:gR b g){r w o:Int}(i:0<=r)(f:gP w\/1000<=w)(d:0<=o)(e:0<o->1000<=w):gR b (g.put r w o):=by
 refine⟨h.fq,h.pc,by simp only[aT.put,jc];exact h.lr,by simp only[aT.put,jc];exact h.lo,h.lh,λy a=>?_,λk q y c a=>?_,h.aZ⟩
 .rcases pO a with rfl|a
  .exact f
  .exact h.R1 y a
 .simp only[aT.put]at c a;rw[Ao]at c a;have:=h.lr;have:=h.lo;split at c<;>split at a
  .simp at c a;subst c;subst a;exact⟨d,e⟩
  .omega
  .omega
  .exact h.aR k q y c a
def Ig(w:Int):0<=gK w:=by unfold gK;split<;>omega
def Ek(h:0<gK w):1000<=w:=by unfold gK at h;split at h<;>omega
def xk(w:Int)(b:Nat):(if w=1000+(b:Int)then gK w else 0)=eC [w] b:=by
 simp only[eC,gK];split
 .rw[an V];rfl
 .rfl
def HM(n:Int):gP (FG n):=by unfold FG gP;split<;>(try split)<;>omega
def P5(c a b:Int):gP (OT c a b):=by
 unfold OT;split
 .exact HM _
 split
 .exact HM _
 split
 .exact HM _
 split<;>(unfold gP;omega)
def mj(cU:List Int):∀(a:List Int)(k:Nat),(dN cU k a).length=a.length
 |[],k=>rfl
 |w::a,k=>by simp only[dN,ba,mj cU a]
def Jz(cU:List Int):∀(b:List Int)(k j:Nat)(o w:Int),(dN cU k b)[j]? =some o->b[j]? =some w->0<=o/\(0<o->1000<=w)
 |[],k,j,o,w,_,h=>by simp at h
 |v::b,k,0,o,w,a,c=>by
  simp[dN]at a c;subst c;split at a
  .subst a;omega
  .subst a;exact⟨Ig _,Ek⟩
 |v::b,k,j+1,o,w,a,c=>Jz cU b (k+1) j o w (by simpa[dN]using a) (by simpa using c)
def kC(n:Nat):(dk n).length=n:=by simp[dk]
def qJ{n:Nat}(h:w∈dk n):w=0:=Vu h
def uI{g j:Int}{d:List Int}{p:dz}(m:nB b)(l:0<=g)(h:b.cB[g.toNat]? =some p)(q:d.length=p.params.length)(n:∀w∈d,gP w\/1000<=w):gR b (bX b g j d):=by
 have e:dP b g=p:=by simp[dP,h]
 have i:=m.dA p (aq h);have t:=i.ak;have r:=i.len;have s:=aw h;refine⟨⟨l,by simp only[bX];omega⟩,⟨by simp[bX],by simp only[bX,e];omega⟩,?_,?_,?_,λw a=>?_,λk o w c a=>?_,λw a=>Or.inl (qJ a)⟩
 .simp only[bX,e,be,kC];omega
 .simp only[bX,e,be,kC,mj];omega
 .simp only[bX,e,kC];omega
 .simp only[bX]at a;rcases List.mem_append.1 a with a|a
  .exact n w a
  .rw[qJ a];exact Or.inl (by unfold gP;omega)
 .simp only[bX]at c a;rcases aX k d.length with f|f
  .rw[ax (by rw[mj];exact f)]at c;rw[ax f]at a;exact Jz _ d 0 k o w c a
  .rw[aJ (by rw[mj];exact f)]at c;rw[qJ (iD c)];omega
def qY(b:cO)(g d:Int)(a:List Int)(c:Nat):df (bX b g d a).ak (bX b g d a).aR c=df a (dN (dP b g).cU 0 a) c:=by
 simp only[bX];rw[Gl _ _ (mj _ _ _).symm,tE (λn e=>qJ e)];omega
def pP(b:cO)(g c:Int)(d:List Int)(a:Nat):dH [bX b g c d] a=0:=by
 rw[jg];exact SD _ _
def If{b:cO}{d:Instr}(f:aT):∀(e:List Int)(k:Nat)(a:Nat),df (cL f e) (dN (dP b d.bP).cU k (cL f e)) a=eC ((iL b d k e).map (aE f.ak)) a
 |[],k,a=>by simp[cL,df,iL,eC]
 |r::h,k,a=>by
  have g:=If (b:=b) (d:=d) f h (k+1) a;simp only[cL,cK,dN,df,iL]at g⊢;rw[g];by_cases c:nI b d k=true
  .rw[an c];unfold nI at c;rw[an c];split<;>omega
  .rw[ae c];unfold nI at c;rw[ae c];simp only[cK,eC];have:=xk (aE f.ak r) a;simp only[eC]at this;omega
def JA:∀(a:List Int)(k:Nat)(b:Nat),df a (dN [] k a) b=eC a b
 |[],k,b=>by simp[df,eC]
 |w::a,k,b=>by
  have:=JA a (k+1) b;have c:=xk w b;simp only[eC]at c;simp only[dN,df,eC,this,Qw,jx,rR];omega
def cY.qF{e:List bM}{c:List aT}(i:cY b s)(l:s.ao=c++[f])(m:g.aZ=f.aZ)(j:∀a,fO e a<->fO s.heap a):
 (∀a,fO e a->dH (c++[g]) a=1)/\(∀a,¬fO e a->dH (c++[g]) a=0):=by
 have h:∀a,dH (c++[g]) a=dH s.ao a:=λa=>by rw[l,eK,eK,jg,jg,m]
 exact⟨λa d=>by rw[h];exact i.lA a ((j a).1 d),λa d=>by rw[h];exact i.ny a λk=>d ((j a).2 k)⟩
def cY.push(h:cY b s)(C:s.cz=3){d:List aT}(e:s.ao=d++[f])(p:gR b g)(hd:0<=g.dst/\g.dst<f.aR.length/\aE f.aR g.dst=0){c:List bM}{bu:Int}
 (r:fN c (fB (d++[f,g])))(v:oA c)(t:∀a,fO c a->dH (d++[f,g]) a=1)(w:∀a,¬fO c a->dH (d++[f,g]) a=0)(z:bu=s.bu+1)(B:s.bu<s.dW):
 cY b {s with heap:=c,bu:=bu,ao:=d++[f,g]}:=by
 have A:=h.bu
 have m:=h.depth
 rw[e]at m
 refine⟨h.fg,h.cz,⟨λi=>by simp at i;omega,sx⟩,h.value,h.tY,h.dW,⟨by simp only[];omega,by simp only[];omega⟩,by simp at m⊢;omega,h.aU,r,v,λq a=>?_,λq a=>?_,λk x q c a=>?_,t,w⟩
 .rcases List.mem_append.1 a with a|a
  .exact h.ao q (by rw[e];exact bI _ a)
  .simp at a
   rcases a with rfl|rfl
   .exact h.ao _ (by rw[e];simp)
   .exact p
 .have j:=h.first
  rw[e]at j
  cases d with
  |nil=>simp at a;subst a;exact j f aL
  |cons y l=>simp at a;subst a;exact j y aL
 .have l:=h.chain k
  rw[e]at l
  simp only[]at c a
  have i:d++[f,g]=(d++[f])++[g]:=aL
  rw[i]at c a
  have u:=aw a
  simp at u
  rw[ax bE]at c
  rcases aX (k+1) (d++[f]).length with j|j
  .rw[ax j]at a
   exact l x q c a
  .simp at j
   rw[aJ bE]at a
   have n:k+1 -(d++[f]).length=0:=bE
   rw[n]at a;simp at a;subst a
   rw[aJ V]at c
   have o:k -d.length=0:=V
   rw[o]at c;simp at c;subst c;exact hd
def Q9{m:List aT}(d:cY b s)(R:s.cz=3)(p:s.ao=m++[f])
 (M:lg b s f (cR b f) (bB f.ak f.aR (bT b (cR b f))))(bi:¬(nk (cR b f).op/\s.bu=s.dW)):
 cY b (fF b s m f (cR b f) (bB f.ak f.aR (bT b (cR b f)))):=by
 have I:gR b f:=d.ao f (by rw[p];simp)
 let⟨ac,hp,aB,hP,a6,hI⟩:=I.Ab d.fg
 generalize cR b f=x at*
 have⟨lr,lo,lh⟩:(f.ak.length:Int)=ac.ak/\(f.aR.length:Int)=ac.ak/\(f.aZ.length:Int)=ac.ak:=⟨aB▸I.lr,aB▸I.lo,aB▸I.lh⟩
 have al:∀q∈x.args,0<=q/\q<f.ak.length:=λq u=>by have:=hI.args q u;omega
 have a4:∀r∈bT b x,0<=r/\r<f.ak.length:=λr R=>al r (Ck R)
 have bp:=xU (ak:=f.ak) (bT b x) f.aR a4 V
 have bo:=jJ f.ak (bT b x) f.aR
 have bn:=ly (ak:=f.ak) (bT b x) f.aR
 generalize bB f.ak f.aR (bT b x)=aR at*
 have aH:∀D∈m,gR b D:=λD j=>d.ao D (by rw[p];exact bI _ j)
 have am:∀c,0<=fB m c+df f.ak aR c:=λc=>by
  have:=Ku aH c;have:=tC (ak:=f.ak) M.nn c;omega
 have E:fN s.heap (λc=>fB m c+df f.ak aR c+eC ((bT b x).map (aE f.ak)) c):=d.heap.congr λc=>by
  rw[p,fX,kX,bp];omega
 have bc:∀O:Int,0<=O->O<ac.dq.length->gR b {f with aR:=aR,pc:=O}:=λO h0 e=>
  ⟨I.fq,⟨h0,by rw[aB];exact e⟩,I.lr,by simp only[bo];exact I.lo,I.lh,I.R1,λy ab w W n=>by
   let⟨D,j,o⟩:=bn y ab W;have B:=I.aR y D w j n;exact⟨M.nn ab (iD W),λk=>B.2 V⟩,I.aZ⟩
 have bq:=I.pc
 rw[aB]at bq
 have bb:x.op≠23->x.op≠24->f.pc+1<ac.dq.length:=λe B=>by
  rcases dS (f.pc+1<ac.dq.length)with A|A
  .exact A
  .have T:f.pc.toNat=ac.dq.length -1:=V;rw[T]at a6;have:=hP.MS x a6;omega
 have Z:x.op≠23->x.op≠24->gR b {f with aR:=aR,pc:=f.pc+1}:=λe B=>bc _ V (bb e B)
 have ar:∀r:Int,0<=r->r<f.ak.length->gP (aE f.ak r)\/1000<=aE f.ak r:=λr h0 e=>I.R1 _ (fA h0 e)
 have a9:∀r:Int,0<=r->r<f.ak.length->aE f.ak r<1000->gP (aE f.ak r):=λr h0 e B=>by rcases ar r h0 e with A|A;exact A;omega
 have ah:=hI.dst
 have a7:me x.op->aE aR x.dst=0:=λN=>by
  have e:=M.dst N;have B:=M.nn _ (fA (l:=aR) ah.1 V);omega
 have br:∀r∈bT b x,qI s.heap (aE f.ak r):=λr bd=>by
  have be:=a4 r bd;rcases ar r be.1 be.2 with A|A
  .exact Or.inl A
  .refine Or.inr ⟨A,E.lv _ ?_⟩;have:=am (ix (aE f.ak r));have:=uJ (l:=(bT b x).map (aE f.ak)) (f:=ix (aE f.ak r)) (by rw[iA A];exact List.mem_map.2 ⟨r,bd,rfl⟩);omega
 have aI:∀(O:Int)(a8:List Int)(w ab:Int),me x.op->∀c,fB (m++[aT.put {f with aR:=aR,pc:=O,aZ:=a8} x.dst w ab]) c=fB m c+df f.ak aR c+(if w=1000+(c:Int)then ab else 0):=λO a8 w ab N c=>by
  rw[fX,kX];simp only[aT.put];rw[NO ah.1 V V (a7 N)];omega
 have aO:∀(w:Int)(aU:List Int),me x.op->x.op≠23->x.op≠24->bT b x=[]->(gP w\/1000<=w)->(∀k∈aU,gP k)->cY b {s with aU:=aU,ao:=m++[aT.put {f with aR:=aR,pc:=f.pc+1} x.dst w 0]}:=λw aU N e B v n W=>by
  let⟨z,P⟩:=d.qF p (g:=aT.put {f with aR:=aR,pc:=f.pc+1} x.dst w 0) rfl (λc=>SX);refine d.fU R p (hd:=rfl) ((Z e B).put ah.1 n (dx _) (λA=>V)) (E.congr λc=>?_) d.jF z P W (bu:=s.bu) ⟨dx _,d.bu.2⟩;rw[aI _ _ _ _ N,v];simp[eC]
 have aQ:∀O:Int,0<=O->O<ac.dq.length->bT b x=[]->cY b {s with ao:=m++[{f with aR:=aR,pc:=O}]}:=λO h0 e v=>by
  let⟨z,P⟩:=d.qF p (g:={f with aR:=aR,pc:=O}) rfl (λc=>SX);refine d.fU R p (hd:=rfl) (bc O h0 e) (E.congr λc=>?_) d.jF z P d.aU (bu:=s.bu) ⟨dx _,d.bu.2⟩;rw[fX,kX,v];simp[eC]
 have o:=hI.op
 unfold lV at o
 unfold fF
 simp only[]
 by_cases e0:x.op=0
 .rw[an e0]at o⊢
  exact aO _ _ (by unfold me;omega) V V (by simp[bT,e0]) (Or.inl o.2) d.aU
 rw[ae e0]at o⊢
 by_cases e1:x.op=1\/x.op=2\/x.op=3\/x.op=4
 .rw[an e1]
  exact aO _ _ (by unfold me;omega) V V (by unfold bT;rw[ae V,ae V,ae V]) (Or.inl (P5 _ _ _)) d.aU
 rw[ae e1]
 have au:1<=x.args.length->0<=aE x.args 0/\aE x.args 0<f.ak.length:=λe=>al _ (fA V V)
 by_cases e5:x.op=5
 .rw[an e5]
  rw[ae V,an V]at o
  have u:=au V
  have az:gP (aE f.ak (aE x.args 0)):=a9 _ u.1 u.2 (M.nT V _ (fA V V))
  refine aO _ _ (by unfold me;omega) V V (by simp[bT,e5]) (Or.inl az) λk F=>?_
  rcases List.mem_append.1 F with F|F
  .exact d.aU k F
  .simp at F;subst F;exact az
 rw[ae e5]
 have bf:(bT b x=x.args)->∀w∈cL f x.args,qI s.heap w:=λv w n=>by
  obtain⟨r,Y,rfl⟩:=List.mem_map.1 n;exact br r (v▸Y)
 have a1:∀aC,bT b x=x.args->x.op≠23->x.op≠24->me x.op->x.args.length<=3->0<=aC/\aC<=99->cY b {s with heap:=js s.heap (dG s.heap) ⟨1,aC,cL f x.args⟩,ao:=m++[aT.put {f with aR:=aR,pc:=f.pc+1} x.dst (1000+dG s.heap) 1]}:=λaC v e B N A aY=>by
  let⟨S,k2,k3⟩:=E.alloc (t:=aC) (f:=cL f x.args) (e':=fB (m++[aT.put {f with aR:=aR,pc:=f.pc+1} x.dst (1000+dG s.heap) 1])) (bf v) (by simpa[cL]using A) aY (λc=>by rw[v];have:=am c;simp only[cL];omega) (λc=>by
   rw[aI _ _ _ _ N,v];simp only[cL];have:(if(1000+(dG s.heap:Int))=1000+(c:Int)then(1:Int)else 0)=if c=dG s.heap then 1 else 0:=by
    by_cases k:c=dG s.heap
    .rw[an k,an V]
    .rw[ae k,ae V]
   rw[this];omega) d.jF
  let⟨z,P⟩:=d.qF p (g:=aT.put {f with aR:=aR,pc:=f.pc+1} x.dst (1000+dG s.heap) 1) rfl k2;exact d.fU R p (hd:=rfl) ((Z e B).put ah.1 (Or.inr V) V (λ_=>V)) S k3 z P d.aU (bu:=s.bu) ⟨dx _,d.bu.2⟩
 have bs:(eS b.bo).length<=12:=by
  have:=rp d.fg.nZ.types b.bo.length;rw[ng _ _ (ad _)]at this;exact this
 have bv:=d.fg.nZ.len
 by_cases Q:x.op=6
 .rw[an Q]
  rw[ae V,ae V,an Q]at o
  have v:bT b x=x.args:=by unfold bT;rw[an V]
  have N:me x.op:=by unfold me;omega
  have aa:x.args.length<=3:=by rw[o.2.1];exact Jm d.fg.nZ.types _
  split
  .rename_i aF
   have J:0<=x.bU -1/\x.bU -1<f.aZ.length:=V
   have hv:=I.aZ _ (fA (l:=f.aZ) J.1 J.2)
   have K:1000<=aE f.aZ (x.bU -1):=V
   have aD:0<dH s.ao (ix (aE f.aZ (x.bU -1))):=by
    rw[p,eK,jg];have:=vR m (ix (aE f.aZ (x.bU -1)));have:=uJ (l:=f.aZ) (f:=ix (aE f.aZ (x.bU -1))) (by rw[iA K];exact fA J.1 J.2);omega
   have X:fO s.heap (ix (aE f.aZ (x.bU -1))):=dR λF=>by have:=d.ny _ F;omega
   have aj:=d.lA _ X
   let⟨U,hd,av⟩:=X
   have ay:∀c,eC U.aF c=0:=λc=>nW λn=>by
    have:=((E.cell U (aq hd)).wW V).2.1 _ n;omega
   have S:=E.make (v:=x.bP) (c:=cL f x.args) (e':=fB (m++[aT.put {f with aR:=aR,pc:=f.pc+1,aZ:=gU f.aZ (x.bU -1) 0} x.dst (aE f.aZ (x.bU -1)) 1])) (f:=ix (aE f.aZ (x.bU -1))) (g:=s.heap.set (ix (aE f.aZ (x.bU -1))) ⟨1,x.bP,cL f x.args⟩)
    (fO.Ul ⟨U,hd,av⟩) (eJ hd) (λc k=>iJ k) (λc=>by rw[Ak _ hd,ay];simp only[];omega) (bf v) (by simpa[cL]using aa) V (λc=>by rw[v];have:=am c;simp only[cL];omega) (λc=>by
     rw[aI _ _ _ _ N,v];simp only[cL];have:(if aE f.aZ (x.bU -1)=1000+(c:Int)then(1:Int)else 0)=if c=ix (aE f.aZ (x.bU -1))then 1 else 0:=by
      by_cases k:c=ix (aE f.aZ (x.bU -1))
      .rw[an k,an (by rw[k,iA K])]
      .rw[ae k,ae (λH=>k (by rw[H,lK]))]
     rw[this];omega)
   have aA:∀c,eC (gU f.aZ (x.bU -1) 0) c=eC f.aZ c -(if c=ix (aE f.aZ (x.bU -1))then 1 else 0):=by
    intro c;have ai:∀(C:List Int)(y:Nat)(w:Int),C[y]? =some w->eC (C.set y 0) c=eC C c -(if w=1000+(c:Int)then 1 else 0):=by
     intro C;induction C with
     |nil=>intro y w z;simp at z
     |cons af C ih=>
      intro y w z;cases y with
      |zero=>simp at z;subst z;simp only[iE,eC];rw[ae V];omega
      |succ y=>have:=ih y w (by simpa using z);simp only[jy,eC,this];omega
    rw[gU,ai _ _ _ (lH J.1 J.2)];by_cases k:c=ix (aE f.aZ (x.bU -1))
    .rw[an k,an (by rw[k,iA K])]
    .rw[ae k,ae (λH=>k (by rw[H,lK]))]
   have L:∀c,dH (m++[aT.put {f with aR:=aR,pc:=f.pc+1,aZ:=gU f.aZ (x.bU -1) 0} x.dst (aE f.aZ (x.bU -1)) 1]) c=dH s.ao c -(if c=ix (aE f.aZ (x.bU -1))then 1 else 0):=λc=>by
    rw[p,eK,eK,jg,jg];simp only[aT.put];rw[aA];omega
   have ap:gR b {f with aR:=aR,pc:=f.pc+1,aZ:=gU f.aZ (x.bU -1) 0}:=by
    have e:=Z V V;exact⟨e.fq,e.pc,e.lr,e.lo,by simp only[jc];exact e.lh,e.R1,e.aR,λw n=>by rcases pO n with n|n;exact Or.inl n;exact e.aZ w n⟩
   refine d.fU R p (hd:=rfl) (ap.put ah.1 (Or.inr K) V (λ_=>K)) S ?_ (λq u=>?_) (λq u=>?_) d.aU (bu:=s.bu) ⟨dx _,d.bu.2⟩
   .intro ag G
    rw[eu]at G
    by_cases k:s.heap.length -1=ix (aE f.aZ (x.bU -1))
    .rw[k,eJ hd]at G;simp at G;subst G;simp
    .rw[iJ k]at G;exact d.jF ag G
   .rw[L]
    by_cases k:q=ix (aE f.aZ (x.bU -1))
    .subst k;rw[fO.yK hd]at u;simp at u
    .rw[ae k];rw[fO.ne k]at u;have:=d.lA q u;omega
   .rw[L]
    by_cases k:q=ix (aE f.aZ (x.bU -1))
    .subst k;rw[an rfl];omega
    .rw[ae k];rw[fO.ne k]at u;have:=d.ny q u;omega
  .exact a1 _ v V V N aa V
 rw[ae Q]
 by_cases X:x.op=10
 .rw[an X]
  rw[ae V,ae V,ae Q,ae V,an X]at o
  obtain⟨⟨D,aG,ap,aK⟩,_⟩:=o
  have A:=(d.fg.nZ.dA D (aq ap)).1
  have:=aw ap
  exact a1 _ (by unfold bT;rw[an V]) V V (by unfold me;omega) V (by unfold cq;omega)
 rw[ae X]
 by_cases aD:x.op=14
 .rw[an aD]
  rw[ae V,an V]at o
  have u:=au V
  have v:bT b x=[]:=by simp[bT,aD]
  let⟨F,U⟩:=M.W7 aD
  let⟨z,P⟩:=d.qF p (g:={f with aR:=gU aR (aE x.args 0) (aE aR (aE x.args 0)+1),pc:=f.pc+1}) rfl (λc=>fO.na F c)
  have e:=Z V V
  refine d.fU R p (hd:=rfl) (g:={f with aR:=gU aR (aE x.args 0) (aE aR (aE x.args 0)+1),pc:=f.pc+1}) ⟨e.fq,e.pc,e.lr,by simp only[jc];exact e.lo,e.lh,e.R1,λy ab w W n=>?_,e.aZ⟩ (E.na F U λc=>?_) ?_ z P d.aU (bu:=s.bu) ⟨dx _,d.bu.2⟩
  .simp only[]at W n
   rw[Ao]at W
   split at W
   .rename_i J
    simp at W
    have T:aE f.ak (aE x.args 0)=w:=by rw[aE,fS,<-J.1,n];rfl
    have:=M.nn _ (fA (l:=aR) u.1 V)
    have:=F.1
    exact⟨V,λ_=>V⟩
   .exact e.aR y ab w W n
  .rw[fX,kX,v]
   simp only[]
   rw[Ic u.1 u.2 V]
   have J:=iA F.1
   simp only[fE,eC]
   by_cases k:c=ix (aE f.ak (aE x.args 0))
   .rw[an k,an (by rw[k,J])];omega
   .rw[ae k,ae (λH=>k (by rw[H,lK]))];omega
  .let⟨G,aA⟩:=bS F
   intro ag K
   unfold na at K
   rw[eu]at K
   by_cases k:s.heap.length -1=ix (aE f.ak (aE x.args 0))
   .rw[k,eJ G]at K;simp at K;subst K;simp only[];omega
   .rw[iJ k]at K;exact d.jF ag K
 rw[ae aD]
 have aP:x.args.length=1->x.args=[aE x.args 0]:=λe=>by
  cases hx:x.args with
  |nil=>rw[hx]at e;simp at e
  |cons af C=>cases C with
   |nil=>rfl
   |cons ba C=>rw[hx]at e;simp at e
 by_cases a2:x.op=15
 .rw[an a2]
  rw[ae V,an V]at o
  have v:bT b x=[aE x.args 0]:=by unfold bT;rw[an V];exact aP V
  rw[v]at E
  have S:=fN.ig _ s.heap [aE f.ak (aE x.args 0)] (λc=>fB m c+df f.ak aR c) (ad _) (E.congr λc=>rfl) am
  let⟨z,P⟩:=d.qF p (g:={f with aR:=aR,pc:=f.pc+1}) rfl (λc=>(fO.nE (h:=ig s.heap [aE f.ak (aE x.args 0)]) c).trans (fO.ig _ _ _ (ad _) c))
  exact d.fU R p (hd:=rfl) (Z V V) (S.nE.congr λc=>by rw[fX,kX]) (Hp _) z P d.aU (bu:=s.bu) ⟨dx _,d.bu.2⟩
 rw[ae a2]
 by_cases U:x.op=16\/x.op=17
 .rw[an U]
  rw[ae V,ae V,ae Q,ae V,ae X,an U]at o
  have u:=au V
  have v:bT b x=[aE x.args 0]:=by
   unfold bT;rw[ae V,an U];cases hx:x.args with
   |nil=>rw[hx]at o;simp at o
   |cons af C=>rfl
  let⟨F,aN,aS,a3⟩:=M.NL U
  let⟨G,aA⟩:=bS F
  have aV:∀r∈x.args.drop 1,0<=r/\r<aR.length/\1000<=aE f.ak r:=λr Y=>by
   have e:=al r (wQ Y);have B:aE f.ak r∈lj (aM s.heap (aE f.ak (aE x.args 0))).aF:=by rw[aN];exact List.mem_map.2 ⟨r,Y,rfl⟩
   exact⟨e.1,V,(lM.1 B).2⟩
  have e:=Z V V
  have aa:gR b {f with aR:=dF aR (x.args.drop 1),pc:=f.pc+1}:=⟨e.fq,e.pc,e.lr,by simp only[lY];exact e.lo,e.lh,e.R1,KJ (ak:=f.ak) _ aR aV e.aR,e.aZ⟩
  have a_:∀c,df f.ak (dF aR (x.args.drop 1)) c=df f.ak aR c+eC (aM s.heap (aE f.ak (aE x.args 0))).aF c:=λc=>by
   rw[FE (ak:=f.ak) _ _ (λr Y=>oh (aV r Y)) V,<-wi (aM s.heap _).aF,aN];rfl
  have ay:0<fB m (ix (aE f.ak (aE x.args 0)))+df f.ak aR (ix (aE f.ak (aE x.args 0)))+eC ((bT b x).map (aE f.ak)) (ix (aE f.ak (aE x.args 0))):=by
   rw[v];have:=am (ix (aE f.ak (aE x.args 0)));simp only[cK,fE,iZ F.1,an,eC];omega
  have av:∀c,fB m c+df f.ak (dF aR (x.args.drop 1)) c=(fB m c+df f.ak aR c+eC ((bT b x).map (aE f.ak)) c) -(if c=ix (aE f.ak (aE x.args 0))then 1 else 0)+eC (aM s.heap (aE f.ak (aE x.args 0))).aF c:=λc=>by
   rw[a_,v];simp only[cK,fE,iZ F.1,eC];omega
  split
  .rename_i aj
   have a0:=a3 aj.2
   have S:=E.Q2 G aj.1 ay (c':=⟨-1,0,dk (aM s.heap (aE f.ak (aE x.args 0))).aF.length⟩) aL aL rfl (λw n=>qJ n) (by simp only[kC];exact(E.cell _ (aq G)).fl) (sx) (e':=fB (m++[{f with aR:=dF aR (x.args.drop 1),pc:=f.pc+1,aZ:=gU f.aZ (aE x.args 0) (aE f.ak (aE x.args 0))}])) (λc=>by rw[fX,kX];exact av c)
   have ai:∀(c:Nat)(w:Int)(C:List Int)(y:Nat),C[y]? =some 0->eC (C.set y w) c=eC C c+(if w=1000+(c:Int)then 1 else 0):=by
    intro c w C;induction C with
    |nil=>intro y z;simp at z
    |cons af C ih=>
     intro y z;cases y with
     |zero=>simp at z;subst z;simp only[iE,eC];split<;>simp_all<;>omega
     |succ y=>have:=ih y (by simpa using z);simp only[jy,eC,this];omega
   have aW:aE x.args 0<f.aZ.length:=V
   have L:∀c,dH (m++[{f with aR:=dF aR (x.args.drop 1),pc:=f.pc+1,aZ:=gU f.aZ (aE x.args 0) (aE f.ak (aE x.args 0))}]) c=dH s.ao c+(if c=ix (aE f.ak (aE x.args 0))then 1 else 0):=λc=>by
    rw[p,eK,eK,jg,jg];have aF:=lH (l:=f.aZ) u.1 aW;rw[a0]at aF;simp only[gU];rw[ai c _ _ _ aF];by_cases k:c=ix (aE f.ak (aE x.args 0))
    .rw[an k,an (by rw[k,iA F.1])];omega
    .rw[ae k,ae (λH=>k (by rw[H,lK]))];omega
   have a5:¬fO s.heap (ix (aE f.ak (aE x.args 0))):=λz=>z.Ul F.2
   refine d.fU R p (hd:=rfl) (g:={f with aR:=dF aR (x.args.drop 1),pc:=f.pc+1,aZ:=gU f.aZ (aE x.args 0) (aE f.ak (aE x.args 0))}) ⟨aa.fq,aa.pc,aa.lr,aa.lo,by simp only[jc];exact aa.lh,aa.R1,aa.aR,λw n=>?_⟩ S ?_ (λq J=>?_) (λq J=>?_) d.aU (bu:=s.bu) ⟨dx _,d.bu.2⟩
   .rcases pO n with n|n
    .rw[n];exact Or.inr F.1
    .exact I.aZ w n
   .intro ag K
    rw[eu]at K
    by_cases k:s.heap.length -1=ix (aE f.ak (aE x.args 0))
    .rw[k,eJ G]at K;simp at K;subst K;simp
    .rw[iJ k]at K;exact d.jF ag K
   .rw[L]
    by_cases k:q=ix (aE f.ak (aE x.args 0))
    .rw[an k,k,d.ny _ a5];rfl
    .rw[ae k];rw[fO.ne k]at J;have:=d.lA q J;omega
   .rw[L]
    by_cases k:q=ix (aE f.ak (aE x.args 0))
    .subst k;rw[fO.yK G]at J;simp at J
    .rw[ae k];rw[fO.ne k]at J;have:=d.ny q J;omega
  .let⟨S,k2,k3⟩:=E.apart F ay aS (e':=fB (m++[{f with aR:=dF aR (x.args.drop 1),pc:=f.pc+1}])) (λc=>by rw[fX,kX];exact av c) d.jF
   let⟨z,P⟩:=d.qF p (g:={f with aR:=dF aR (x.args.drop 1),pc:=f.pc+1}) rfl k2
   exact d.fU R p (hd:=rfl) aa S k3 z P d.aU (bu:=s.bu) ⟨dx _,d.bu.2⟩
 rw[ae U]
 by_cases a3:x.op=18
 .rw[an a3]
  rw[ae V,an V]at o
  have u:=au V
  have v:bT b x=[aE x.args 0]:=by unfold bT;rw[an V];exact aP V
  have N:me x.op:=by unfold me;omega
  let⟨z,P⟩:=d.qF p (g:=aT.put {f with aR:=aR,pc:=f.pc+1} x.dst (aE f.ak (aE x.args 0)) (gK (aE f.ak (aE x.args 0)))) rfl (λc=>SX)
  refine d.fU R p (hd:=rfl) ((Z V V).put ah.1 (ar _ u.1 u.2) (Ig _) Ek) (E.congr λc=>?_) d.jF z P d.aU (bu:=s.bu) ⟨dx _,d.bu.2⟩
  rw[aI _ _ _ _ N,v,xk];rfl
 rw[ae a3]
 by_cases K:x.op=19
 .rw[an K]
  rw[ae V,ae V,ae Q,ae V,ae X,ae U,an K]at o
  let⟨F,k⟩:=M.load K
  let⟨G,aA⟩:=bS F
  refine aO _ _ (by unfold me;omega) V V (by simp[bT,K]) ?_ d.aU
  rcases((E.cell _ (aq G)).oY aA).1 _ (fA o.2.1 k)with B|B
  .exact Or.inl B
  .exact Or.inr B.1
 rw[ae K]
 by_cases aa:x.op=20
 .rw[an aa]
  rw[ae V,ae V,ae Q,ae V,ae X,ae U,ae K,an aa]at o
  have:=bb V V
  exact aQ _ (by split<;>omega) (by split<;>omega) (by simp[bT,aa])
 rw[ae aa]
 by_cases aj:x.op=21
 .rw[an aj]
  rw[ae V,ae V,ae Q,ae V,ae X,ae U,ae K,ae aa,ae V,an aj]at o
  let⟨F,aY⟩:=M.Fm aj
  have ag:tr (cy b.bo x.bP) (aM s.heap (aE f.ak (aE x.args 0))).kv<(cy b.bo x.bP).length:=uc ⟨_,aY,aL⟩
  let⟨ai,k⟩:=o.2.2
  have:=k _ (fA (l:=x.eM) (i:=(tr (cy b.bo x.bP) (aM s.heap (aE f.ak (aE x.args 0))).kv:Nat)) V V)
  exact aQ _ V V (by simp[bT,aj])
 rw[ae aj]
 by_cases av:x.op=22
 .rw[an av]
  rw[ae V,ae V,ae Q,ae V,ae X,ae U,ae K,ae aa,an av]at o
  exact aQ _ V V (by simp[bT,av])
 rw[ae av]
 have bg:∀w∈cL f x.args,gP w\/1000<=w:=λw n=>by
  obtain⟨r,Y,rfl⟩:=List.mem_map.1 n;exact ar r (al r Y).1 (al r Y).2
 have aW:nk x.op->s.bu<s.dW:=λG=>by
  have:=d.bu;have:s.bu≠s.dW:=λT=>bi ⟨G,T⟩;omega
 have a_:∀(hp:List bM),s.bu<s.dW->x.op≠23->x.op≠24->∀(g:aT),gR b g->me x.op->g.dst=x.dst->fN hp (fB (m++[{f with aR:=aR,pc:=f.pc+1},g]))->oA hp->(∀c,fO hp c<->fO s.heap c)->(∀c,dH [g] c=0)->
  cY b {s with bu:=s.bu+1,heap:=hp,ao:=m++[{f with aR:=aR,pc:=f.pc+1},g]}:=λhp bt e B g hg N bl hH hT hK bm=>by
  have a5:=d.bu
  have ay:=d.depth
  rw[p]at ay
  have ee:m++[{f with aR:=aR,pc:=f.pc+1},g]=(m++[{f with aR:=aR,pc:=f.pc+1}])++[g]:=aL
  have L:∀c,dH (m++[{f with aR:=aR,pc:=f.pc+1},g]) c=dH s.ao c:=λc=>by
   rw[ee,eK,bm,p,eK,eK,jg,jg];simp
  refine⟨d.fg,d.cz,⟨λT=>by simp at T;omega,sx⟩,d.value,d.tY,d.dW,⟨by simp only[];omega,by simp only[];omega⟩,by simp at ay⊢;omega,d.aU,hH,hT,λD j=>?_,λD j=>?_,λy p1 D k j=>?_,λq u=>?_,λq u=>?_⟩
  .rcases List.mem_append.1 j with j|j
   .exact aH D j
   .simp at j
    rcases j with rfl|rfl
    .exact Z e B
    .exact hg
  .have ai:=d.first
   rw[p]at ai
   cases m with
   |nil=>simp at j;subst j;exact ai f aL
   |cons af ys=>simp at j;subst j;exact ai af aL
  .have ag:=d.chain y
   rw[p]at ag
   simp only[]at k j
   rw[ee]at k j
   have aV:=aw j
   simp at aV
   rw[ax bE]at k
   rcases aX (y+1) (m.length+1)with A|A
   .rw[ax bE]at j
    rw[ax V]at k
    rcases aX (y+1) m.length with h4|h4
    .rw[ax h4]at j
     exact ag p1 D (by rw[ax V];exact k) (by rw[ax h4];exact j)
    .rw[aJ h4]at j
     have H:y+1 -m.length=0:=V
     rw[H]at j;simp at j;subst j
     exact ag p1 f (by rw[ax V];exact k) (by rw[aJ h4,H];rfl)
   .rw[aJ bE]at j
    have H:y+1 -(m++[{f with aR:=aR,pc:=f.pc+1}]).length=0:=bE
    rw[H]at j;simp at j;subst j
    rw[aJ V]at k
    have e3:y -m.length=0:=V
    rw[e3]at k;simp at k;subst k
    rw[bl]
    exact⟨ah.1,by simp only[];omega,a7 N⟩
  .rw[L];exact d.lA q ((hK q).1 u)
  .rw[L];exact d.ny q λA=>u ((hK q).2 A)
 by_cases e9:x.op=9
 .rw[an e9]
  rw[ae V,ae V,ae Q,an V]at o
  let⟨D,aG,ap,aK⟩:=o
  have v:bT b x=iL b x 0 x.args:=by unfold bT;rw[ae V,ae V,an V]
  refine a_ s.heap (aW (Or.inl e9)) V V (bX b x.bP x.dst (cL f x.args)) (uI d.fg aG ap (by simp[cL,aK]) bg) (by unfold me;omega) rfl (E.congr λc=>?_) d.jF (λ_=>SX) (pP _ _ _ _)
  rw[fX,v]
  simp only[fB]
  rw[qY,If];omega
 rw[ae e9]
 by_cases aF:x.op=24
 .rw[an aF]
  rw[ae V,ae V,ae Q,an V]at o
  let⟨D,aG,ap,aK⟩:=o
  have v:bT b x=iL b x 0 x.args:=by unfold bT;rw[ae V,ae V,an V]
  let⟨aN,a0⟩:=M.zero (Or.inl aF)
  have L:∀c,dH (m++[bX b x.bP f.dst (cL f x.args)]) c=dH s.ao c:=λc=>by
   rw[p,eK,eK,pP,jg,nW (λn=>oh (a0 _ n))]
  have bh:=aW (Or.inr (Or.inr aF))
  refine d.fU R p (hd:=rfl) (uI d.fg aG ap (by simp[cL,aK]) bg) (E.congr λc=>?_) d.jF (λq u=>by rw[L];exact d.lA q u) (λq u=>by rw[L];exact d.ny q u) d.aU (bu:=s.bu+1) V
  rw[fX,kX,qY,If,v,tE aN];omega
 rw[ae aF]
 by_cases ap:x.op=11
 .rw[an ap]
  rw[an V]at o
  have v:bT b x=x.args:=by unfold bT;rw[an V]
  have bh:x.args=[aE x.args 0,aE x.args 1]:=by
   cases hx:x.args with
   |nil=>rw[hx]at o;simp at o
   |cons af C=>cases C with
    |nil=>rw[hx]at o;simp at o
    |cons ba C=>cases C with
     |nil=>rfl
     |cons _ _=>rw[hx]at o;simp at o
  have aG:0<=aE x.args 1/\aE x.args 1<f.ak.length:=al _ (fA V V)
  let⟨F,bk,bw,bj,aK,aS⟩:=M.apply ap
  let⟨G,aA⟩:=bS F
  let⟨D,j⟩:=cG b.cB (((aM s.heap (aE f.ak (aE x.args 0))).kv -cq b).toNat)
  have ba:dP b ((aM s.heap (aE f.ak (aE x.args 0))).kv -cq b)=D:=by simp[dP,j]
  rw[ba]at bj aK
  have C:∀c,eC ((bT b x).map (aE f.ak)) c=(if c=ix (aE f.ak (aE x.args 0))then 1 else 0)+eC [aE f.ak (aE x.args 1)] c:=λc=>by
   rw[v,bh];simp only[cK,fE];rw[iZ]
   .rfl
   .exact F.1
  let⟨S,k2,k3⟩:=E.apart F (by simp only[C,an];have:=am (ix (aE f.ak (aE x.args 0)));have:=iK [aE f.ak (aE x.args 1)] (ix (aE f.ak (aE x.args 0)));omega) aS
   (e':=fB (m++[{f with aR:=aR,pc:=f.pc+1},bX b ((aM s.heap (aE f.ak (aE x.args 0))).kv -cq b) x.dst ((aM s.heap (aE f.ak (aE x.args 0))).aF++[aE f.ak (aE x.args 1)])])) (λc=>by
    rw[fX,C];simp only[fB];rw[qY,ba,List.length_eq_zero_iff.1 aK,JA,mh];omega) d.jF
  refine a_ _ (aW (Or.inr (Or.inl ap))) V V _ (uI d.fg bk j bE λw n=>?_) (by unfold me;omega) rfl S k3 k2 (pP _ _ _ _)
  rcases List.mem_append.1 n with n|n
  .rcases((E.cell _ (aq G)).oY aA).1 w n with B|B
   .exact Or.inl B
   .exact Or.inr B.1
  .simp at n;subst n;exact ar _ aG.1 aG.2
 rw[ae ap]
 have aA:x.op=23:=by
  rw[ae V]at o;by_cases aA:x.op=23
  .exact aA
  .rw[ae V,ae Q,ae V,ae X,ae U,ae K,ae aa,ae av,ae aj]at o;exact o.elim
 rw[ae V,an V]at o
 have u:=au V
 have v:bT b x=[aE x.args 0]:=by unfold bT;rw[an V];exact aP V
 let⟨aN,a0⟩:=M.zero (Or.inr aA)
 have aS:∀c,dH [f] c=0:=λc=>by rw[jg];exact nW (λn=>oh (a0 _ n))
 split
 .rename_i F
  have aG:m=[]:=List.getLast?_eq_none_iff.1 F
  subst aG
  have C:=M.ret aA
  have az:=a9 _ u.1 u.2 (by rcases C with e|e;(rw[p]at e;simp at e);exact e)
  have a5:=d.bu
  refine⟨d.fg,⟨aL,aL⟩,aL,az,aL,d.dW,d.bu,bE,d.aU,E.congr λc=>?_,d.jF,aL,aL,aL,λq J=>?_,λq J=>?_⟩
  .rw[v,tE aN]
   simp only[fB,cK,fE]
   rw[nW (by simp;have:=az.2;omega)];rfl
  .have e:=d.lA q J
   rw[p]at e
   have B:=aS q
   simp only[eF]at e
   omega
  .simp[dH]
 .rename_i C F
  have aG:m=m.dropLast++[C]:=by
   have ba:m≠[]:=λT=>by rw[T]at F;simp at F
   rw[gD ba]at F;simp at F;rw[<-F];exact(fu ba).symm
  generalize m.dropLast=fs' at aG
  subst aG
  have az:gR b C:=aH C aL
  let⟨aK,bh,bj⟩:=d.chain fs'.length C f (by rw[p];simp) (by rw[p];simp)
  have bk:f.dst<C.ak.length:=by have:=az.lr;have:=az.lo;omega
  have a5:=d.bu
  have ay:=d.depth
  rw[p]at ay
  have L:∀c,dH (fs'++[C.put f.dst (aE f.ak (aE x.args 0)) (gK (aE f.ak (aE x.args 0)))]) c=dH s.ao c:=λc=>by
   rw[p,eK,eK,aS,eK,jg,jg];simp[aT.put]
  refine⟨d.fg,d.cz,⟨λT=>by simp at T;omega,sx⟩,d.value,d.tY,d.dW,d.bu,by simp at ay⊢;omega,d.aU,E.congr λc=>?_,d.jF,λD j=>?_,λD j=>?_,λy p1 D k j=>?_,λq J=>by rw[L];exact d.lA q J,λq J=>by rw[L];exact d.ny q J⟩
  .rw[fX,kX,fX,kX,v,tE aN]
   simp only[aT.put,cK,fE]
   rw[NO aK bk bh bj,xk];omega
  .rcases List.mem_append.1 j with j|j
   .exact aH D (bI _ j)
   .simp at j;subst j
    exact az.put aK (ar _ u.1 u.2) (Ig _) Ek
  .have ai:=d.first
   rw[p]at ai
   cases fs' with
   |nil=>simp at j;subst j;exact ai C aL
   |cons af ys=>simp at j;subst j;exact ai af aL
  .have ag:=d.chain y
   rw[p]at ag
   simp only[]at k j
   have aV:=aw j
   simp at aV
   rw[ax V]at k
   have e1:(fs'++[C]++[f])[y]? =some p1:=by rw[ax bE,ax V];exact k
   rcases aX (y+1) fs'.length with A|A
   .rw[ax A]at j
    exact ag p1 D e1 (by rw[ax bE,ax A];exact j)
   .rw[aJ A]at j
    have H:y+1 -fs'.length=0:=V
    rw[H]at j;simp at j;subst j
    exact ag p1 C e1 (by rw[ax bE,aJ A,H];rfl)
def R9(h:cY b s):cY b (kZ b s):=by
 unfold kZ;by_cases c:s.cz=3
 .rw[ae (by simpa using c)];let⟨j,f,a⟩:=h.split c;have g:s.ao.getLast?=some f:=by rw[a];simp
  have i:s.ao.dropLast=j:=by rw[a];simp
  rw[g,i];simp only[];have d:∀n,1<=n->n<=2->cY b {s with cz:=n}:=λn l m=>
   ⟨h.fg,⟨by simp only[];omega,by simp only[];omega⟩,⟨λe=>by simp only[]at e;omega,λe=>by simp only[]at e;rw[a]at e;simp at e⟩,h.value,λe=>oh (h.tY e),h.dW,h.bu,h.depth,h.aU,h.heap,h.jF,h.ao,h.first,h.chain,h.lA,h.ny⟩
  split
  .exact d 1 V V
  .rename_i e;split
   .rename_i k;exact Q9 h c a k e
   .exact d 2 V V
 .rw[an (by simpa using c)];exact h
end
section
variable{a:cO}
def rem(a:cO):List aT->Int
 |[]=>0
 |f::b=>((dP a f.fq).dq.length -f.pc)+rem a b
noncomputable def aD (a:cO):Nat->St->St
 |0,s=>s
 |n+1,s=>aD a n (kZ a s)
def Mm(a:cO):∀(n:Nat)(s:St),aD a (n+1) s=kZ a (aD a n s)
 |0,s=>rfl
 |n+1,s=>by rw[aD,Mm a n,aD]
def BJ{a:cO}:∀(n:Nat){s:St},cY a s->cY a (aD a n s)
 |0,s,h=>h
 |n+1,s,h=>BJ n (R9 h)
def sX{s:St}(h:s.cz≠3):kZ a s=s:=by unfold kZ;rw[an h]
def DK{a:cO}:∀(n:Nat){s:St},s.cz≠3->aD a n s=s
 |0,s,_=>rfl
 |n+1,s,h=>by rw[aD,sX h,DK n h]
def lZ(a:cO)(dW:Int):St:=⟨3,0,0,dW,[],[],[bX a 0 0 []]⟩
def Mk{dW:Int}(c:nB a)(n:0<=dW/\dW<=40):cY a (lZ a dW):=by
 have q:=c.nZ.len;let⟨p,i⟩:=cG a.cB 0;have l:=c.nZ.first p i;have k:=uI (j:=0) (d:=[]) c (dx 0) i (by simp[l.1]) aL;have h:∀f,fB [bX a 0 0 []] f=0:=λf=>by rw[kX,qY];simp[df]
 refine⟨c,by simp[lZ],by simp[lZ],by simp[lZ,gP],by simp[lZ],n,by simp[lZ];omega,by simp[lZ],by simp[lZ],⟨by simp[lZ],⟨λ_=>0,by simp[lZ]⟩,by simp[lZ],λd=>by simp only[lZ];rw[h];omega,λd b=>by simp only[lZ]at b;rw[h]at b;omega⟩,?_,?_,?_,?_,λd⟨j,e,_⟩=>by simp[lZ]at e,λd _=>pP _ _ _ _ _⟩
 .intro j e;simp[lZ]at e
 .intro g b;simp[lZ]at b;subst b;exact k
 .intro g b;simp[lZ]at b;subst b;rfl
 .intro r g o b m;simp[lZ]at m
end
section
variable{k:Nat}{m:E}
def mf{b:List bz}{d:bz}:Hx b k d<->((zy b.length d.td/\zy b.length d.to/\d.cons.length<=3/\(0<d.cons.length->d.td=0/\d.to=0))/\
 (∀h∈d.cons,h.length<=3/\Fs b.length h)/\∀e∈b.take k,¬(d.cons.length=0/\e.cons.length=0/\e.td=d.td/\e.to=d.to)):=by
 constructor
 .intro l
  rcases kj d.cons.length with a|a
  .let⟨c,f,g⟩:=l.RW a
   refine⟨⟨f,g,V,λl=>V⟩,λh m=>?_,λe i j=>c e i j.2⟩
   rw[List.length_eq_zero_iff.1 a]at m;cases m
  .let⟨c,f,g,h⟩:=l.je a
   exact⟨⟨by unfold zy;omega,by unfold zy;omega,c,λ_=>⟨f,g⟩⟩,h,λe i j=>V⟩
 .rintro⟨⟨c,f,g,h⟩,l,m⟩
  exact⟨λa=>⟨g,(h a).1,(h a).2,l⟩,λa=>⟨λe i j=>m e i ⟨a,j⟩,c,f⟩⟩
def D0{bo:O}{c:List bz}(hd:cw m bo c):dt cg 192 [O.v bo] m (dU c):=by
 apply yB;simp -zeta only[aC,aB];have v:=hd.len;have ao:=hd.cap;refine dit (λaa=>?_) λaa=>?_
 .exact bW (λa=>oh a.len) (J.az _)
 refine dV (n:=c.length) V (λk f=>J m f/\∀(j:Nat)(d:bz),j<k->c[j]? =some d->Hx c j d) ⟨J.az _,aL⟩ ?_;rintro j w al μ hj ⟨H,S⟩ ak
 refine dit (λh1=>?_) λh1=>?_
 .let⟨d,D⟩:=cG c j;let⟨A,F,g0,g1,g2⟩:=(cw.ext H hd).aE D;have ar:=F.len;refine⟨V,V,_,g0,_,g1,A,g2,?_⟩;intro m2 q;have I:J w q:=((J.az w).aK _).ah (ad _) _ _;have G:∀r∈[w.size],r<q.size:=by simp[q,m2,av]
  clear_value q;have K:=H.trans I;have i:∀{f:E},J q f->¬Hx c j d->∃M:Bool,vb false=.bool M/\(M=true<->dU c)/\J m f:=λag af=>bW (λa=>af (a.dA j d D)) (K.trans ag);refine⟨λf=>J q f/\zy c.length d.td/\zy c.length d.to/\d.cons.length<=3/\(0<d.cons.length->d.td=0/\d.to=0),?_,?_⟩
  .refine(pM _ _ _).aI (J.az _) G λr m4 g N s=>⟨_,rfl,λe=>i s λa=>nb g e (v▸(mf.1 a).1.1),λe=>?_⟩;have p:=yb g e;refine(pM _ _ _).aI s G λr u g t b=>⟨_,rfl,λh=>i b λa=>nb g h (v▸(mf.1 a).1.2.1),λh=>?_⟩;have x:=yb g h;rw[v]at p x;refine dit (λy=>?_) λy=>?_
   .exact i b λa=>by have:=(mf.1 a).1.2.2.1;omega
   refine dit (λz=>?_) λz=>?_
   .refine⟨λl=>?_,λl=>?_⟩
    .simp only[vE]at l;exact i b λa=>l ((mf.1 a).1.2.2.2 V).1
    simp only[iR]at l;refine⟨λo=>?_,λo=>?_⟩
    .simp only[vE]at o;exact i b λa=>o ((mf.1 a).1.2.2.2 V).2
    simp only[iR]at o;exact⟨b,p,x,V,λ_=>⟨l,o⟩⟩
   .exact⟨b,p,x,V,λl=>V⟩
  .rintro m4 ⟨W,ae⟩;have ap:=px.ext (I.trans W) F;refine dV (n:=d.cons.length) V (λk f=>J q f/\∀A∈d.cons.take k,A.length<=3/\Fs c.length A) ⟨W,aL⟩ ?_;rintro L u I2 μ2 hi ⟨l,T⟩ ah;refine dit (λN=>?_) λN=>?_
   .let⟨B,o⟩:=cG d.cons L;let⟨P,C,Q⟩:=(px.ext (I.trans l) F).aE o;have U:=C.len;refine⟨V,V,P,Q,?_⟩;intro x y;have p:J u y:=((J.az u).aK _).ah (ad _) _ _;have R:∀r∈[u.size,w.size],r<y.size:=by
     have:=l.lt (G w.size aL);simp[y,x,av];omega
    clear_value y;refine dit (λs=>?_) λs=>?_
    .exact i (l.trans p) λa=>by have:=((mf.1 a).2.1 B (aq o)).1;omega
    exact(vS (C.ext p) _).aI (J.az _) R λr z g e t=>⟨_,rfl,λb=>i ((l.trans p).trans e) λa=>nb g b (v▸((mf.1 a).2.1 B (aq o)).2),λb=>ah V _ ⟨(l.trans p).trans e,bC o T ⟨V,v▸yb g b⟩⟩⟩
   .have ab:=de V T;refine⟨V,V,V,?_⟩;have P:cw u (bo.cut 0 j 3) (c.take j):=eT.Tz (cw.ext (K.trans l) hd) V;have am:(bo.cut 0 j 3).len=j:=by rw[P.len];simp;omega
    simp -zeta only[ub,Int.toNat_zero];refine dV (n:=j) V (λk f=>J u f/\∀g∈c.take k,¬(d.cons.length=0/\g.cons.length=0/\g.td=d.td/\g.to=d.to)) ⟨J.az _,aL⟩ ?_;rintro p x Y μ3 ax ⟨C,U⟩ ai;refine dit (λs=>?_) λs=>?_
    .let⟨g,Q⟩:=cG c p;have R:(c.take j)[p]? =some g:=by rw[lQ,an V];exact Q
     let⟨Z,ac,q0,q1,q2⟩:=(cw.ext C P).aE R;have au:=ac.len;refine⟨V,V,_,q0,_,q1,Z,q2,?_⟩;intro y z;have X:J x z:=((J.az x).aK _).ah (ad _) _ _;clear_value z;have B:¬(d.cons.length=0/\g.cons.length=0/\g.td=d.td/\g.to=d.to)->Y (cQ ((p:Int)+1)) z/\μ3 (cQ ((p:Int)+1)) z<μ3 p x:=λo=>ai V _ ⟨C.trans X,bC Q U o⟩;refine⟨λe=>?_,λe=>?_⟩
     .simp only[aG]at e;refine⟨λt=>?_,λt=>?_⟩
      .simp only[aG]at t;refine⟨λb=>?_,λb=>?_⟩
       .simp only[aG]at b;refine⟨λh=>?_,λh=>?_⟩
        .simp only[aG]at h;exact i ((l.trans C).trans X) λa=>(mf.1 a).2.2 g (aq R) ⟨V,V,b,h⟩
        .simp only[aj]at h;exact B λo=>h o.2.2.2
       .simp only[aj]at b;exact B λo=>b o.2.2.1
      .simp only[aj]at t;exact B λo=>t V
     .simp only[aj]at e;exact B λo=>e V
    .have:p=j:=V;subst this;refine ak V _ ⟨(K.trans l).trans C,λb e h a=>?_⟩
     by_cases g:b=p
     .subst g;rw[D]at a;simp at a;subst a;exact mf.2 ⟨ae,ab,U⟩
     .exact S b e V a
 .exact iU ⟨V,λL d bG=>S L d (oh (aw bG)) bG⟩ H
def On(m:E)(b:List Ce)(p:dz):Prop:=∃a l,b=[.s a,.s l,.i p.aS]/\ap m a p.params/\ap m l p.cU
def On.ext{m d:E}(b:J m d)(a:List Ce)(c:dz):On m a c->On d a c:=λ⟨f,g,e,h,i⟩=>⟨f,g,e,h.ext b,i.ext b⟩
abbrev pG(m:E)(s:O)(l:List dz):Prop:=eT m 3 (On m) s l
def pG.ext{m b:E}(a:J m b){s:O}{l:List dz}(h:pG m s l):pG b s l:=h.mono a (On.ext a)
def pG.aE{s:O}{l:List dz}(h:pG m s l){x:dz}(f:l[k]? =some x):
 ∃a b,ap m a x.params/\ap m b x.cU/\af m s.D (s.off+k*3)=some (O.v a)/\af m s.D (s.off+k*3+1)=some (O.v b)/\af m s.D (s.off+k*3+2)=some (vi x.aS):=by
 obtain⟨g,⟨a,b,rfl,d,e⟩,c⟩:=h.iI k x f
 exact⟨a,b,d,e,c 0 (.s a) rfl,c 1 (.s b) rfl,c 2 (.i x.aS) rfl⟩
def Gd{Y Z:O}{q:List bz}{c:List dz}(hd:cw m Y q)(P:pG m Z c):
 dt cg 147 [O.v Y,O.v Z] m (KE q c/\∀p∈c,DT p.params p.cU):=by
 apply zZ
 simp -zeta only[aC,aB]
 have N:=hd.len
 have aA:=P.len
 refine(D0 hd).then λu m1 e f=>⟨_,rfl,λG=>bW (λa=>nb e G a.1.types) f,λG=>?_⟩
 have ht:=yb e G
 refine dit (λh2=>?_) λh2=>?_
 .exact bW (λa=>oh a.1.len) f
 refine dit (λh3=>?_) λh3=>?_
 .exact bW (λa=>oh a.1.len) f
 let⟨p0,A⟩:=cG c 0
 let⟨a0,l0,al,aD,g0,g1,g2⟩:=(pG.ext f P).aE A
 have ay:=al.len
 refine⟨V,V,a0,g0,dit (λh4=>?_) λh4=>?_⟩
 .exact bW (λa=>oh ((a.1.first p0 A).1)) f
 refine⟨V,V,_,g2,λs=>?_,λs=>?_⟩
 .simp only[vE]at s
  exact bW (λa=>s (a.1.first p0 A).2) f
 simp only[iR]at s
 refine dV (n:=c.length) V (λj U=>J m U/\∀p∈c.take j,(p.params.length<=3/\Fs q.length p.params/\zy q.length p.aS)/\DT p.params p.cU) ⟨f,aL⟩ ?_
 rintro j C au μ hj ⟨l,hn⟩ ap
 refine dit (λh6=>?_) λh6=>?_
 .let⟨p,i⟩:=cG c j
  let⟨ah,ao,M,z,q0,q1,q2⟩:=(pG.ext l P).aE i
  have az:=M.len
  have aF:=z.len
  have aE:=z.gW
  refine⟨V,V,ah,q0,ao,q1,_,q2,?_⟩
  intro m3 D
  have o:J C D:=((J.az C).aK _).ah (ad _) _ _
  have aa:∀u∈[C.size],u<D.size:=by simp[D,m3,av]
  clear_value D
  refine dit (λh7=>?_) λh7=>?_
  .exact bW (λa=>oh ((a.1.dA p (aq i)).1)) (l.trans o)
  refine(vS (M.ext o) _).aI (J.az _) aa λu m5 e h8 h9=>⟨_,rfl,λH=>bW (λa=>nb e H (N▸(a.1.dA p (aq i)).2.1)) ((l.trans o).trans h8),λH=>?_⟩
  have ac:=yb e H
  refine(pM _ _ _).aI h9 aa λu W e ax I=>⟨_,rfl,λK=>bW (λa=>nb e K (N▸(a.1.dA p (aq i)).2.2)) ((l.trans o).trans I),λK=>?_⟩
  have ab:=yb e K
  rw[N]at ac ab
  have ae:J m W:=(l.trans o).trans I
  have S:J C W:=o.trans I
  refine dV (n:=p.cU.length) V (λk U=>U=W/\∀(j:Nat)(v:Int),j<k->p.cU[j]? =some v->(∃t,0<=v/\p.params[v.toNat]? =some t/\t≠0)/\(∀E:Int,0<j->p.cU[j -1]? =some E->E<v)) ⟨rfl,aL⟩ ?_
  rintro k m7 I2 μ2 hk ⟨rfl,Q⟩ af
  have w:¬DT p.params p.cU->∃X:Bool,vb false=.bool X/\(X=true<->KE q c/\∀p∈c,DT p.params p.cU)/\J m m7:=λan=>bW (λa=>an (a.2 p (aq i))) ae
  refine dit (λai=>?_) λai=>?_
  .let⟨x,g⟩:=cG p.cU k
   refine⟨V,V,x,by simpa using S.af (z.aE g),dit (λak=>?_) λak=>?_⟩
   .exact w λa=>by obtain⟨⟨t,y,_⟩,_⟩:=a k x g;omega
   refine⟨λy=>?_,λy=>?_⟩
   .simp only[oG,ar]at y
    refine w λa=>?_
    obtain⟨⟨t,_,d,_⟩,_⟩:=a k x g
    have:=aw d;omega
   simp only[oG,bL]at y
   let⟨t,B⟩:=cG p.params x.toNat
   refine⟨V,V,t,by simpa using S.af (M.aE B),λd=>?_,λd=>?_⟩
   .simp only[aG]at d
    refine w λa=>?_
    obtain⟨⟨b,_,r,L⟩,_⟩:=a k x g
    rw[B]at r;simp at r;exact L (r▸d)
   simp only[aj]at d
   refine dit (λr=>?_) λr=>?_
   .have e2:cQ ((k:Int) -1)=((k -1:Nat):Int):=by rw[aP V V];omega
    let⟨ag,T⟩:=cG p.cU (k -1)
    rw[e2]
    refine⟨V,V,ag,by simpa using S.af (z.aE T),dit (λL=>?_) λL=>?_⟩
    .exact w λa=>by have:=(a k x g).2 ag V T;omega
    .refine af V _ ⟨rfl,λh v am b=>?_⟩
     by_cases F:h=k
     .subst F
      rw[g]at b;simp at b;subst b
      refine⟨⟨t,V,B,d⟩,λE _ R=>?_⟩
      rw[T]at R;simp at R;subst R;omega
     .exact Q h v V b
   .refine af V _ ⟨rfl,λh v am b=>?_⟩
    by_cases F:h=k
    .subst F
     rw[g]at b;simp at b;subst b
     exact⟨⟨t,V,B,d⟩,λE L _=>V⟩
    .exact Q h v V b
  .exact ap V _ ⟨ae,bC i hn ⟨⟨V,ac,ab⟩,λh v b=>Q h v (oh (aw b)) b⟩⟩
 .have b:=de V hn
  refine iU ⟨⟨ht,V,λp a=>(b p a).1,λp a=>?_⟩,λp a=>(b p a).2⟩ l
  rw[A]at a;simp at a;subst a
  exact⟨V,s⟩
end
section
variable{c:E}{d f a j:O}{b:cO}{i:Instr}
def Ga{H:O}(D:fy c d H b):
 aN cg 74 [.agg #[O.v d,O.v H]] c λan t=>∃T f e,an=.tuple #[.agg #[O.v T,O.v f],vb e]/\(e=true<->KE b.bo b.cB/\∀H∈b.cB,DT H.params H.cU)/\
  (e=true->T=d/\pG t f b.cB)/\J c t:=by
 apply zY
 simp -zeta only[aC,aB]
 intro G h
 have aq:=D.cB.len
 have s1:G.size=c.size+1:=by simp[G]
 have s2:h.size=c.size+2:=by simp[h,G]
 have ab:J c h:=((J.az c).aK _).aK _
 refine dit (λh1=>?_) λh1=>?_
 .intro g
  exact⟨_,_,_,rfl,⟨sx,λD=>oh D.1.len⟩,sx,ab.ah V _ _⟩
 intro m4 C
 have s5:C.size=c.size+3:=by simp[C,m4,av,s2]
 have al:J c C:=(ab.aK _).ah V _ _
 have ah:cF C h.size mw [.s d,.s .nil]:=cF.ah (m:=m4) (o:=0) (r:=[.s d,.s .nil]) (cF.push h _ _)
 clear_value C
 refine dV (n:=b.cB.length) V (λM t=>J c t/\C.size<=t.size/\∃g w,cF t h.size mw [.s d,.s g]/\gZ c t qd 3 g w.flatten/\gT 3 (On c) w (b.cB.take M)/\(g≠.nil->h.size<g.D)/\g.len=M)
  ⟨al,ad _,.nil,[],ah,gZ.nil _ _ _ _,by simpa using gT.nil 3 (On c),aL,rfl⟩ ?_
 rintro M i ao μ hk ⟨l,ar,g,w,s,K,L,Q,aa⟩ am
 refine dit (λh2=>?_) λh2=>?_
 .let⟨N,Y⟩:=cG b.cB M
  let⟨a,e,ac,ha,p,y,g0,g1,g2,g3,g4⟩:=D.cB.aE Y
  refine⟨V,V,a,by simpa using l.af g0,e,by simpa using l.af g1,_,by simpa using l.af g2,_,by simpa using l.af g3,ac,by simpa using l.af g4,?_⟩
  intro S j
  have F:J i j:=((J.az i).aK _).ah (ad _) _ _
  have s8:j.size=i.size+1:=by simp[j,S,av]
  clear_value j
  refine⟨g,(s.ext F).bZ 1,?_⟩
  intro u
  have R:J i u:=F.aK _
  have s9:u.size=i.size+2:=by simp[u,s8]
  have jB:fQ u j.size 0 [.s a,.s e,.i N.aS]:=(cF.push j _ _).iI
  clear_value u
  refine gZ.append (zs:=[.s .nil,.s .nil,.i 0]) (d:=[.s a,.s e,.i N.aS]) (K.ext R) (l.trans R) rfl jB (by simp[aa];omega) ?_
  intro v A h7 h8 U ap ae af
  have Z:v≠.nil->h.size<v.D:=by
   intro z;rcases af with⟨_,x⟩|⟨aj,x,_⟩|x
   .exact absurd x z
   .have:=Q aj;omega
   .omega
  have I:∀k,k<u.size->k<=h.size\/k=i.size/\(g=.nil\/g.D<i.size)->A[k]? =u[k]? :=by
   intro k q y;refine ae k q λz=>?_;have:=Q z;rcases y with y|⟨rfl,y|y⟩
   .omega
   .exact absurd y z
   .omega
  have ai:g=.nil\/g.D<i.size:=K.lt
  have W:cF A h.size mw [.s d,.s g]:=(s.ext R).congr (I _ V (Or.inl (ad _)))
  refine⟨λk q=>?_,W.fK aL,?_⟩
  .simp at q
   rcases q with rfl|rfl|rfl
   .exact I _ V (Or.inr ⟨rfl,ai⟩)
   .exact I _ V (Or.inl V)
   .exact I _ V (Or.inl V)
  intro B
  have au:B.size=A.size:=by simp[B,av]
  have ag:cF B h.size mw [.s d,.s v]:=cF.ah (m:=A) (o:=1) (r:=[.s v]) W
  have X:∀e,e≠h.size->B[e]? =A[e]? :=λe p=>bd _ _ _ _ p
  have ak:J c B:=h8.ah V _ _
  clear_value B
  refine⟨λk q=>?_,?_⟩
  .simp at q
   rcases q with rfl|rfl|rfl<;>exact X _ V
  refine am V _ ⟨ak,V,v,w++[[.s a,.s e,.i N.aS]],ag,?_,?_,Z,by simp[U,aa]⟩
  .rw[qQ]
   have P:gZ c A qd 3 v (w.flatten++[[.s a,.s e,.i N.aS]].flatten):=by simpa using h7
   rcases P.lt with x|x
   .subst x;exact⟨P.len,Or.inl rfl⟩
   .refine P.congr (X _ λe2=>?_)
    by_cases E:v=.nil
    .subst E
     have:=U
     simp at this
    .have:=Z E;omega
  .rw[aV Y]
   exact L.yM rfl ⟨a,e,rfl,ha,p⟩
 .rw[bY V]at L
  have x:pG i g b.cB:=(eT.gA K L V V).mono (J.az _) (On.ext l)
  refine⟨d,s.bZ 0,g,s.bZ 1,g,s.bZ 1,?_⟩
  have u:∀e∈[G.size,c.size],e<i.size:=bE
  refine(Gd (cw.ext l D.bo) x).aI (J.az _) u λe S p k _=>⟨_,rfl,k.db (s.bZ 0),k.db (s.bZ 1),?_⟩
  intro j
  have z:∀e,e≠G.size->j[e]? =S[e]? :=λe p=>bd _ _ _ _ p
  have F:J c j:=(l.trans k).ah V _ _
  refine⟨d,g,e,rfl,p,λ_=>⟨rfl,?_⟩,F⟩
  have q:=K.ext k
  have v:gZ c j qd 3 g w.flatten:=by
   by_cases E:g=.nil
   .subst E;exact⟨q.len,Or.inl rfl⟩
   .exact q.congr (z _ (oh (Q E)))
  exact(eT.gA v L V V).mono (J.az _) (On.ext F)
def gN(b:cO)(i:Instr)(a:Int->Prop):Prop:=
 if i.op=0 then -999<=i.bP/\i.bP<=999
 else if i.op=6 then 0<=i.bP/\i.bP<(eS b.bo).length
 else if i.op=9\/i.op=24 then 0<=i.bP/\i.bP<b.cB.length
 else if i.op=10 then 0<=i.bP/\∃q,b.cB[i.bP.toNat]? =some q/\q.cU.length=0
 else if i.op=19 then 0<=i.bP/\i.bP<3
 else if i.op=20\/i.op=22 then a i.bP
 else if i.op=21 then 0<(cy b.bo i.bP).length/\i.eM.length=(cy b.bo i.bP).length
 else i.bP=0
def HW(hd:cw c d b.bo)(x:dU b.bo)(A:pG c f b.cB)(N:ap c a i.args)(E:ap c j i.eM)(t:Nat)(v u:Array Value)(D:GL.elem t=true)(l:Int->Prop)
 (G:∀e,J c e->dt cg t (v.toList++[vi i.bP]++u.toList) e (l i.bP)):
 dt cg 150 [.agg #[O.v d,O.v f],.agg #[vi i.op,vi i.dst,vi i.bP,vi i.bU,O.v a,O.v j],.func (.func t) v u] c (gN b i l):=by
 apply qH d f i.op i.dst i.bP i.bU a j (.func t,v,u)
 simp -zeta only[aC,aB]
 intro y r
 have e:J c r:=((J.az c).aK _).aK _
 have w:∀z∈[y.size,c.size],z<r.size:=by simp[r,y];omega
 have Q:=A.len
 have R:=E.len
 have C:cF r y.size dY [.i i.op,.i i.dst,.i i.bP,.i i.bU,.s a,.s j]:=cF.push _ _ _
 clear_value r
 refine⟨λk=>?_,λk=>?_⟩
 .simp only[aG]at k
  rw[show gN b i l<->-999<=i.bP/\i.bP<=999 by rw[gN,an k]]
  refine⟨λh=>eU ?_ e,λh=>bW ?_ e⟩<;>simp at h
  .simp;omega
  .omega
 simp only[aj]at k
 refine⟨λm=>?_,λm=>?_⟩
 .simp only[aG]at m
  rw[show gN b i l<->0<=i.bP/\i.bP<(eS b.bo).length by rw[gN,ae k,an m]]
  refine⟨λh=>?_,λh=>bW ?_ e⟩<;>simp at h
  .refine(qG (cw.ext e hd) x.len (Oy x)).aI (J.az _) w λB g _=>⟨_,rfl,g.db (C.bZ 2),eU ?_ (e.trans g)⟩
   simp;omega
  .omega
 simp only[aj]at m
 refine⟨λn=>?_,λn=>?_⟩
 .simp only[bQ,aG]at n
  rw[show gN b i l<->0<=i.bP/\i.bP<b.cB.length by rw[gN,ae k,ae m,an n]]
  refine⟨λh=>eU ?_ e,λh=>bW ?_ e⟩<;>simp at h
  .simp;omega
  .omega
 simp only[br,aj]at n
 replace n:¬(i.op=9\/i.op=24):=V
 refine⟨λo=>?_,λo=>?_⟩
 .simp only[aG]at o
  rw[show gN b i l<->0<=i.bP/\∃q,b.cB[i.bP.toNat]? =some q/\q.cU.length=0 by rw[gN,ae k,ae m,ae n,an o]]
  refine⟨λh=>⟨λp=>?_,λp=>?_⟩,λh=>bW ?_ e⟩<;>simp at h
  .simp at p
   let⟨q,s⟩:=cG b.cB i.bP.toNat
   let⟨I,H,P,F,K,g1,g2⟩:=(pG.ext e A).aE s
   have:=F.len
   refine⟨V,V,H,g1,eU ?_ e⟩
   simp only[aG]
   refine⟨λL=>⟨h,q,s,V⟩,λ⟨_,S,g,M⟩=>?_⟩
   rw[s]at g;simp at g;subst g;omega
  .simp at p
   exact bW (λ⟨_,q,g,_⟩=>oh (aw g)) e
  .omega
 simp only[aj]at o
 refine⟨λp=>?_,λp=>?_⟩
 .simp only[aG]at p
  rw[show gN b i l<->0<=i.bP/\i.bP<3 by rw[gN,ae k,ae m,ae n,ae o,an p]]
  refine⟨λh=>eU ?_ e,λh=>bW ?_ e⟩<;>simp at h
  .simp;omega
  .omega
 simp only[aj]at p
 refine⟨λq=>?_,λq=>?_⟩
 .simp only[bQ,aG]at q
  rw[show gN b i l<->l i.bP by rw[gN,ae k,ae m,ae n,ae o,ae p,an q]]
  exact⟨t,rfl,D,(G r e).aI (J.az _) w λz B s g _=>⟨_,rfl,eU s (e.trans g)⟩⟩
 simp only[br,aj]at q
 replace q:¬(i.op=20\/i.op=22):=V
 refine⟨λs=>?_,λs=>?_⟩
 .simp only[aG]at s
  rw[show gN b i l<->0<(cy b.bo i.bP).length/\i.eM.length=(cy b.bo i.bP).length by rw[gN,ae k,ae m,ae n,ae o,ae p,ae q,an s]]
  refine(tv (cw.ext e hd) x _).aI (J.az _) w ?_
  rintro _ B ⟨H,rfl,F,g⟩
  have:=F.len
  refine⟨g,_,rfl,λh=>eU ?_ (e.trans g),λh=>bW ?_ (e.trans g)⟩<;>simp at h
  .simp only[aG];omega
  .omega
 .simp only[aj]at s
  rw[show gN b i l<->i.bP=0 by rw[gN,ae k,ae m,ae n,ae o,ae p,ae q,ae s]]
  exact eU aL e
def hO(b:cO)(i:Instr)(c a:Int):Prop:=
 if i.op=0\/i.op=22 then c=0/\a=0
 else if i.op=1\/i.op=2\/i.op=3\/i.op=4\/i.op=11 then c=2/\a=2
 else if i.op=6 then c=(cE b.bo i.bP).length/\a=(cE b.bo i.bP).length
 else if i.op=9\/i.op=24 then∃q,b.cB[i.bP.toNat]? =some q/\c=q.params.length/\a=q.params.length
 else if i.op=10 then∃q,b.cB[i.bP.toNat]? =some q/\c=(q.params.length:Int) -1/\a=(q.params.length:Int) -1
 else if i.op=16\/i.op=17 then c=1/\a=4
 else c=1/\a=1
def Lg(hd:cw c d b.bo)(A:dU b.bo)(x:pG c f b.cB){H:Int->Prop}(t:gN b i H):
 aN cg 151 [.agg #[O.v d,O.v f],.agg #[vi i.op,vi i.dst,vi i.bP,vi i.bU,O.v a,O.v j]] c λK I=>∃B z:Int,K=.tuple #[vi B,vi z]/\hO b i B z/\J c I:=by
 apply rY
 simp -zeta only[aC,aB]
 intro C u
 have g:J c u:=((J.az c).aK _).aK _
 have E:∀D∈[C.size,c.size],D<u.size:=by simp[u,C];omega
 have M:=x.len
 clear_value u
 refine⟨λh=>?_,λh=>?_⟩
 .simp only[bQ,aG]at h
  exact⟨_,_,rfl,by rw[hO,an h];exact⟨rfl,rfl⟩,g⟩
 simp only[br,aj]at h
 have l:¬(i.op=0\/i.op=22):=V
 refine⟨λq=>?_,λq=>?_⟩
 .simp only[bQ,aG]at q
  exact⟨_,_,rfl,by rw[hO,ae l,an q];exact⟨rfl,rfl⟩,g⟩
 simp only[br,aj]at q
 have n:¬(i.op=1\/i.op=2\/i.op=3\/i.op=4\/i.op=11):=V
 refine⟨λe=>?_,λe=>?_⟩
 .simp only[aG]at e
  rw[gN,ae h.1,an e]at t
  have m:=rp A b.bo.length
  rw[ng _ _ (ad _)]at m
  refine(HQ (cw.ext g hd) A _ V).aI (J.az _) E ?_
  rintro _ p ⟨s,rfl,o,k⟩
  have:=o.len
  exact⟨k,_,rfl,_,_,rfl,by rw[hO,ae l,ae n,an e];omega,g.trans k⟩
 simp only[aj]at e
 refine⟨λo=>?_,λo=>?_⟩
 .simp only[bQ,aG]at o
  rw[gN,ae h.1,ae e,an o]at t
  let⟨v,m⟩:=cG b.cB i.bP.toNat
  let⟨p,G,s,F,w,g1,g2⟩:=(pG.ext g x).aE m
  have:=s.len
  exact⟨V,V,p,w,_,_,rfl,by rw[hO,ae l,ae n,ae e,an o];exact⟨v,m,V,V⟩,g⟩
 simp only[br,aj]at o
 have r:¬(i.op=9\/i.op=24):=V
 refine⟨λk=>?_,λk=>?_⟩
 .simp only[aG]at k
  rw[gN,ae h.1,ae e,ae r,an k]at t
  obtain⟨L,v,m,_⟩:=t
  let⟨p,G,s,F,w,g1,g2⟩:=(pG.ext g x).aE m
  have:=s.len
  have:=s.gW
  have:=aw m
  have y:cQ ((p.len:Int) -1)=(v.params.length:Int) -1:=by rw[aP V V];omega
  exact⟨V,V,p,w,_,_,rfl,by rw[hO,ae l,ae n,ae e,ae r,an k];exact⟨v,m,y,y⟩,g⟩
 simp only[aj]at k
 refine⟨λm=>?_,λm=>?_⟩
 .simp only[bQ,aG]at m
  exact⟨_,_,rfl,by rw[hO,ae l,ae n,ae e,ae r,ae k,an m];exact⟨rfl,rfl⟩,g⟩
 .simp only[br,aj]at m
  have p:¬(i.op=16\/i.op=17):=V
  exact⟨_,_,rfl,by rw[hO,ae l,ae n,ae e,ae r,ae k,ae p];exact⟨rfl,rfl⟩,g⟩
end
section
variable{m:E}{x k:Int}{a b1:Nat}{c:O}
def yd(b:af m a 0=some (vi k))(d:af m b1 4=some (O.v c)):
 dt cg 148 [vi x,vp a 0,vp b1 0] m (k+1<=x/\x<=(c.len:Int) -1):=by
 apply oN (a,0) (b1,0)
 refine⟨k,b,λh=>⟨c,d,eU ?_ (J.az _)⟩,λh=>bW ?_ (J.az _)⟩<;>simp at h
 .simp;omega
 .omega
def JO{b2:Nat}(b:af m a 0=some (vi k))(d:af m b1 4=some (O.v c))
 (e:af m b2 0=some (.func (.func 148) #[] #[vp a 0,vp b1 0])):
 dt cg 149 [vi x,vp b2 0] m (¬(k+1<=x/\x<=(c.len:Int) -1)):=by
 apply oO (b2,0)
 refine⟨(.func 148,#[],#[vp a 0,vp b1 0]),e,_,rfl,rfl,?_⟩
 refine(yd b d).then λh i f g=>⟨_,rfl,eU ?_ g⟩
 rw[<-f];simp
def Jq{u:cO}{p:dz}{k:Nat}{i:Instr}(N:p.ak<=2000)(L:u.cB.length<=4)(F:∀q∈u.cB,q.params.length<=3):
 iV u p k i<->((0<=i.op/\i.op<=24/\i.op≠7/\i.op≠8/\i.op≠12/\i.op≠13)/\(0<=i.dst/\i.dst<p.ak/\(i.dst=0\/me i.op)/\0<=i.bU/\i.bU<=p.ak/\(i.bU=0\/i.op=6))/\
  (∀n∈i.args,0<=n/\n<p.ak)/\(i.eM.length=0\/i.op=21)/\(∀t∈i.eM,(k:Int)+1<=t/\t<=(p.dq.length:Int) -1)/\
  gN u i (λt=>(k:Int)+1<=t/\t<=(p.dq.length:Int) -1)/\∀j h,hO u i j h->j<=i.args.length/\(i.args.length:Int)<=h):=by
 have M:(0<=i.dst/\i.dst<p.ak)->0<p.ak:=λw=>V
 constructor
 .intro w
  have b:=w.op
  have hd:=w.dst
  have C:∀n∈i.args,0<=n/\n<p.ak:=λn f=>by have:=w.args n f;omega
  have s:i.op≠21->∀t∈i.eM,(k:Int)+1<=t/\t<=(p.dq.length:Int) -1:=λH t I=>by
   rcases w.eM with o|o
   .exact absurd o H
   .rw[List.length_eq_zero_iff.1 o]at I;cases I
  have D:i.eM.length=0\/i.op=21:=w.eM.symm
  have G:0<=i.dst/\i.dst<p.ak:=V
  have iP:∀(_:0<=i.op/\i.op<=24/\i.op≠7/\i.op≠8/\i.op≠12/\i.op≠13)(_:0<=i.bU/\i.bU<=p.ak)(_:∀t∈i.eM,(k:Int)+1<=t/\t<=(p.dq.length:Int) -1)
   (_:gN u i (λt=>(k:Int)+1<=t/\t<=(p.dq.length:Int) -1))(_:∀j h,hO u i j h->j<=i.args.length/\(i.args.length:Int)<=h),_:=
   λE B F K o=>(⟨E,⟨G.1,G.2,w.Yg,B.1,B.2,w.bU⟩,C,D,F,K,o⟩:(0<=i.op/\i.op<=24/\i.op≠7/\i.op≠8/\i.op≠12/\i.op≠13)/\(0<=i.dst/\i.dst<p.ak/\(i.dst=0\/me i.op)/\0<=i.bU/\i.bU<=p.ak/\(i.bU=0\/i.op=6))/\
   (∀n∈i.args,0<=n/\n<p.ak)/\(i.eM.length=0\/i.op=21)/\(∀t∈i.eM,(k:Int)+1<=t/\t<=(p.dq.length:Int) -1)/\
   gN u i (λt=>(k:Int)+1<=t/\t<=(p.dq.length:Int) -1)/\∀j h,hO u i j h->j<=i.args.length/\(i.args.length:Int)<=h)
  have r:i.op≠6->0<=i.bU/\i.bU<=p.ak:=λH=>by rcases w.bU with o|o<;>omega
  unfold lV at b
  by_cases c:i.op=0
  .rw[an c]at b
   refine iP V (r V) (s V) (by rw[gN,an c];exact b.2) (λj h f=>?_)
   rw[hO,an (Or.inl c)]at f;omega
  rw[ae c]at b
  by_cases g:i.op=1\/i.op=2\/i.op=3\/i.op=4\/i.op=11
  .rw[an g]at b
   refine iP V (r V) (s V) ?_ (λj h f=>?_)
   .rw[gN,ae c,ae V,ae V,ae V,ae V,ae V,ae V];exact b.2
   .rw[hO,ae V,an g]at f;omega
  rw[ae g]at b
  by_cases A:i.op=5\/i.op=14\/i.op=15\/i.op=18\/i.op=23
  .rw[an A]at b
   refine iP V (r V) (s V) ?_ (λj h f=>?_)
   .rw[gN,ae c,ae V,ae V,ae V,ae V,ae V,ae V];exact b.2
   .rw[hO,ae V,ae g,ae V,ae V,ae V,ae V]at f;omega
  rw[ae A]at b
  by_cases a:i.op=6
  .rw[an a]at b
   refine iP V b.2.2 (s V) ?_ (λj h f=>?_)
   .rw[gN,ae c,an a];exact b.1
   .rw[hO,ae V,ae g,an a]at f;omega
  rw[ae a]at b
  by_cases d:i.op=9\/i.op=24
  .rw[an d]at b
   let⟨q,o,x,v⟩:=b
   have:=aw x
   refine iP V (r V) (s V) ?_ (λj h f=>?_)
   .rw[gN,ae c,ae a,an d];omega
   .rw[hO,ae V,ae g,ae a,an d]at f
    let⟨J,l,y,m⟩:=f
    rw[x]at l;simp at l;subst l;omega
  rw[ae d]at b
  by_cases e:i.op=10
  .rw[an e]at b
   let⟨⟨q,o,x,v⟩,l⟩:=b
   have:=aw x
   refine iP V (r V) (s V) ?_ (λj h f=>?_)
   .rw[gN,ae c,ae a,ae d,an e];exact⟨o,q,x,l q x⟩
   .rw[hO,ae V,ae g,ae a,ae d,an e]at f
    let⟨J,l,y,m⟩:=f
    rw[x]at l;simp at l;subst l;omega
  rw[ae e]at b
  by_cases l:i.op=16\/i.op=17
  .rw[an l]at b
   refine iP V (r V) (s V) ?_ (λj h f=>?_)
   .rw[gN,ae c,ae a,ae d,ae e,ae V,ae V,ae V];exact b.2
   .rw[hO,ae V,ae g,ae a,ae d,ae e,an l]at f;omega
  rw[ae l]at b
  by_cases m:i.op=19
  .rw[an m]at b
   refine iP V (r V) (s V) ?_ (λj h f=>?_)
   .rw[gN,ae c,ae a,ae d,ae e,an m];omega
   .rw[hO,ae V,ae g,ae a,ae d,ae e,ae l]at f;omega
  rw[ae m]at b
  by_cases z:i.op=20
  .rw[an z]at b
   refine iP V (r V) (s V) ?_ (λj h f=>?_)
   .rw[gN,ae c,ae a,ae d,ae e,ae m,an (Or.inl z)];exact b.2
   .rw[hO,ae V,ae g,ae a,ae d,ae e,ae l]at f;omega
  rw[ae z]at b
  by_cases v:i.op=22
  .rw[an v]at b
   refine iP V (r V) (s V) ?_ (λj h f=>?_)
   .rw[gN,ae c,ae a,ae d,ae e,ae m,an (Or.inr v)];exact b.2
   .rw[hO,an (Or.inr v)]at f;omega
  rw[ae v]at b
  by_cases y:i.op=21
  .rw[an y]at b
   refine iP V (r V) b.2.2.2 ?_ (λj h f=>?_)
   .rw[gN,ae c,ae a,ae d,ae e,ae m,ae V,an y]
    have:=b.2.2.1
    exact⟨b.2.1,V⟩
   .rw[hO,ae V,ae g,ae a,ae d,ae e,ae l]at f;omega
  rw[ae y]at b
  exact b.elim
 .rintro⟨E,B,C,D,s,b,h⟩
  refine⟨λn f=>oh (C n f),V,B.2.2.1,B.2.2.2.2.2,D.symm,?_⟩
  unfold lV
  by_cases c:i.op=0
  .rw[an c]
   rw[gN,an c]at b
   have:=h 0 0 (by rw[hO,an (Or.inl c)];exact⟨rfl,rfl⟩)
   exact⟨V,b⟩
  rw[ae c]
  by_cases g:i.op=1\/i.op=2\/i.op=3\/i.op=4\/i.op=11
  .rw[an g]
   rw[gN,ae c,ae V,ae V,ae V,ae V,ae V,ae V]at b
   have:=h 2 2 (by rw[hO,ae V,an g];exact⟨rfl,rfl⟩)
   exact⟨V,b⟩
  rw[ae g]
  by_cases A:i.op=5\/i.op=14\/i.op=15\/i.op=18\/i.op=23
  .rw[an A]
   rw[gN,ae c,ae V,ae V,ae V,ae V,ae V,ae V]at b
   have:=h 1 1 (by rw[hO,ae V,ae g,ae V,ae V,ae V,ae V];exact⟨rfl,rfl⟩)
   exact⟨V,b⟩
  rw[ae A]
  by_cases a:i.op=6
  .rw[an a]
   rw[gN,ae c,an a]at b
   have:=h _ _ (by rw[hO,ae V,ae g,an a];exact⟨rfl,rfl⟩)
   exact⟨b,V,V⟩
  rw[ae a]
  by_cases d:i.op=9\/i.op=24
  .rw[an d]
   rw[gN,ae c,ae a,an d]at b
   let⟨q,j⟩:=cG u.cB i.bP.toNat
   have:=h _ _ (by rw[hO,ae V,ae g,ae a,an d];exact⟨q,j,rfl,rfl⟩)
   exact⟨q,b.1,j,V⟩
  rw[ae d]
  by_cases e:i.op=10
  .rw[an e]
   rw[gN,ae c,ae a,ae d,an e]at b
   let⟨o,q,j,x⟩:=b
   have:=h _ _ (by rw[hO,ae V,ae g,ae a,ae d,an e];exact⟨q,j,rfl,rfl⟩)
   refine⟨⟨q,o,j,V⟩,λJ r=>?_⟩
   rw[j]at r;simp at r;subst r;exact x
  rw[ae e]
  by_cases l:i.op=16\/i.op=17
  .rw[an l]
   rw[gN,ae c,ae a,ae d,ae e,ae V,ae V,ae V]at b
   have:=h 1 4 (by rw[hO,ae V,ae g,ae a,ae d,ae e,an l];exact⟨rfl,rfl⟩)
   exact⟨V,b⟩
  have j:i.op≠22->∀(c:¬i.op=0)(g:¬(i.op=1\/i.op=2\/i.op=3\/i.op=4\/i.op=11))(a:¬i.op=6)(d:¬(i.op=9\/i.op=24))(e:¬i.op=10)(l:¬(i.op=16\/i.op=17)),i.args.length=1:=λo c g a d e l=>by
   have:=h 1 1 (by rw[hO,ae V,ae g,ae a,ae d,ae e,ae l];exact⟨rfl,rfl⟩);omega
  rw[ae l]
  by_cases m:i.op=19
  .rw[an m]
   rw[gN,ae c,ae a,ae d,ae e,an m]at b
   exact⟨j V c g a d e l,V,V⟩
  rw[ae m]
  by_cases z:i.op=20
  .rw[an z]
   rw[gN,ae c,ae a,ae d,ae e,ae m,an (Or.inl z)]at b
   exact⟨j V c g a d e l,b⟩
  rw[ae z]
  by_cases v:i.op=22
  .rw[an v]
   rw[gN,ae c,ae a,ae d,ae e,ae m,an (Or.inr v)]at b
   have:=h 0 0 (by rw[hO,an (Or.inr v)];exact⟨rfl,rfl⟩)
   exact⟨V,b⟩
  rw[ae v]
  by_cases y:i.op=21
  .rw[an y]
   rw[gN,ae c,ae a,ae d,ae e,ae m,ae V,an y]at b
   exact⟨j V c g a d e l,b.1,V,s⟩
  rw[ae y]
  omega
end
section
variable{b:E}{d:O}{c:cO}
def Ee{W ah ax Q:O}(hd:cw b d c.bo)(ht:dU c.bo)(hf:pG b W c.cB)(aI:c.cB.length<=4)(h3:∀q∈c.cB,q.params.length<=3)
 {q:dz}(hc:fj b Q q.dq)(hr:q.ak<=2000){l:Nat}{e:Instr}{K P:O}(X:ap b K e.args)(hj:ap b P e.eM):
 dt cg 75 [.agg #[O.v d,O.v W],.agg #[O.v ah,O.v ax,vi q.aS,vi q.ak,O.v Q],vi l,.agg #[vi e.op,vi e.dst,vi e.bP,vi e.bU,O.v K,O.v P]] b (iV c q l e):=by
 apply pN
 simp -zeta only[aC,aB]
 intro B A E w
 have s1:B.size=b.size+1:=by simp[B]
 have s2:A.size=b.size+2:=by simp[A,s1]
 have s3:E.size=b.size+3:=by simp[E,s2]
 have s4:w.size=b.size+4:=by simp[w,s3]
 have z:J b w:=((((J.az b).aK _).aK _).aK _).aK _
 have am:cF w A.size aA [.i l]:=(cF.push A _ _).ext (J.push _ _)
 have an:cF w B.size jG [.s ah,.s ax,.i q.aS,.i q.ak,.s Q]:=(cF.push B _ _).ext ((J.push A _).aK _)
 have u:=Jq (u:=c) (p:=q) (k:=l) (i:=e) hr aI h3
 have aE:=hc.len
 have aR:=X.len
 have aS:=hj.len
 clear_value w
 clear_value E
 clear_value A
 clear_value B
 refine⟨λh=>bW (λf=>?_) z,λc0=>⟨λh=>bW (λf=>?_) z,λc1=>⟨λh=>bW (λf=>?_) z,λc2=>⟨λh=>bW (λf=>?_) z,λc3=>⟨λh=>bW (λf=>?_) z,λc4=>⟨λh=>bW (λf=>?_) z,λc5=>?_⟩⟩⟩⟩⟩⟩
 any_goals (have:=(u.1 f).1;simp at h;omega)
 simp at c0 c1 c2 c3 c4 c5
 have f1:0<=e.op/\e.op<=24/\e.op≠7/\e.op≠8/\e.op≠12/\e.op≠13:=V
 refine⟨λx=>J w x/\(0<=e.dst/\e.dst<q.ak/\(e.dst=0\/me e.op)/\0<=e.bU/\e.bU<=q.ak/\(e.bU=0\/e.op=6)),?_,?_⟩
 .refine⟨λh=>bW (λf=>?_) z,λG=>⟨λh=>bW (λf=>?_) z,λI=>?_⟩⟩
  .have:=(u.1 f).2.1;simp at h;omega
  .have:=(u.1 f).2.1;simp at h;omega
  simp at G I
  have tail:∀x,J w x->(e.dst=0\/me e.op)->((decide (e.bU<(0:Int)))=true->∃g:Bool,Value.bool false=.bool g/\(g=true<->iV c q l e)/\J b x)/\((decide (e.bU<(0:Int)))=false->
   ((decide (e.bU>q.ak))=true->∃g:Bool,Value.bool false=.bool g/\(g=true<->iV c q l e)/\J b x)/\((decide (e.bU>q.ak))=false->
   ((e.bU !=(0:Int))=true->((e.op !=(6:Int))=true->∃g:Bool,Value.bool false=.bool g/\(g=true<->iV c q l e)/\J b x)/\((e.op !=(6:Int))=false->J w x/\(0<=e.dst/\e.dst<q.ak/\(e.dst=0\/me e.op)/\0<=e.bU/\e.bU<=q.ak/\(e.bU=0\/e.op=6))))/\
   ((e.bU !=(0:Int))=false->J w x/\(0<=e.dst/\e.dst<q.ak/\(e.dst=0\/me e.op)/\0<=e.bU/\e.bU<=q.ak/\(e.bU=0\/e.op=6))))):=by
   intro x H N
   have L:=z.trans H
   refine⟨λh=>bW (λf=>?_) L,λC=>⟨λh=>bW (λf=>?_) L,λF=>⟨λt=>⟨λh=>bW (λf=>?_) L,λM=>⟨H,?_⟩⟩,λt=>⟨H,?_⟩⟩⟩⟩
   .have:=(u.1 f).2.1;simp at h;omega
   .have:=(u.1 f).2.1;simp at h;omega
   .have:=(u.1 f).2.1.2.2.2.2.2;simp at h t;omega
   .simp at C F M;exact⟨G,I,N,C,F,Or.inr M⟩
   .simp at C F t;exact⟨G,I,N,C,F,Or.inl t⟩
  refine⟨λh=>?_,λh=>tail w (J.az _) (Or.inl (by simpa using h))⟩
  refine(rB e.op w ⟨V,V⟩).aI (J.az _) bE λv x D H _=>⟨v,rfl,λy=>bW (λf=>?_) (z.trans H),λy=>tail x H (Or.inr (yb D y))⟩
  have:=(u.1 f).2.1.2.2.1
  simp at h
  rcases this with s|s
  .exact h s
  .exact nb D y s
 .rintro x ⟨H,f2⟩
  refine dV (n:=e.args.length) (oh X.gW) (λae R=>J w R/\∀G∈e.args.take ae,0<=G/\G<q.ak) ⟨H,aL⟩ ?_
  rintro ae I aQ μ hn ⟨y,aj⟩ aO
  have aa:=z.trans y
  refine dit (λh=>?_) λh=>?_
  .let⟨G,t⟩:=cG e.args ae
   refine⟨V,V,G,by simpa using(X.ext aa).aE t,λs=>bW (λf=>?_) aa,λs=>⟨λC=>bW (λf=>?_) aa,λC=>aO V _ ⟨y,bC t aj ?_⟩⟩⟩
   .have:=(u.1 f).2.2.1 G (aq t);simp at s;omega
   .have:=(u.1 f).2.2.1 G (aq t);simp at C;omega
   .simp at s C;omega
  .have ay:∀G∈e.args,0<=G/\G<q.ak:=de V aj
   intro m7 F
   have s8:F.size=I.size+1:=by simp[F,m7,av]
   have C:J I F:=((J.az I).aK _).ah (ad _) _ _
   have ac:=aa.trans C
   have al:af F I.size 0=some (.func (.func 148) #[] #[vp A.size 0,vp B.size 0]):=
    (cF.ah (m:=m7) (o:=0) (r:=[.fn (.func 148) #[] #[vp A.size 0,vp B.size 0]]) (cF.push I _ _)).bZ 0
   have aT:=y.size
   clear_value F
   have aK:∀N,J F N->∀t,dt cg 148 [vi t,vp A.size 0,vp B.size 0] N ((l:Int)+1<=t/\t<=(q.dq.length:Int) -1):=λN s t=>by
    rw[<-aE];exact yd (am.ext (y.trans (C.trans s))|>.bZ 0) (an.ext (y.trans (C.trans s))|>.bZ 4)
   have jU:(e.eM.length=0\/e.op=21)->aN cg 78 [O.v P,.func (.func 149) #[] #[vp I.size 0]] F λaP U=>
    eG [E.size,b.size] F U/\∃ag:Bool,aP=vb ag/\(ag=true->∃g:Bool,Value.bool false=.bool g/\(g=true<->iV c q l e)/\J b U)/\
    (ag=false->∃L:Fn×Array Value×Array Value,af U I.size 0=some (.func L.1 L.2.1 L.2.2)/\
    aN cg 150 [.agg #[O.v d,O.v W],.agg #[vi e.op,vi e.dst,vi e.bP,vi e.bU,O.v K,O.v P],.func L.1 L.2.1 L.2.2] U λab M=>
    eG [E.size,b.size] U M/\∃T:Bool,ab=vb T/\((!T)=true->∃g:Bool,Value.bool false=.bool g/\(g=true<->iV c q l e)/\J b M)/\
    ((!T)=false->aN cg 151 [.agg #[O.v d,O.v W],.agg #[vi e.op,vi e.dst,vi e.bP,vi e.bU,O.v K,O.v P]] M λai S=>
    eG [E.size,b.size] M S/\∃Y:Int,∃Z:Int,ai=.tuple #[vi Y,vi Z]/\
    ((decide ((K.len:Int)>=Y))=true->∃g:Bool,Value.bool (decide ((K.len:Int)<=Z))=.bool g/\(g=true<->iV c q l e)/\J b S)/\
    ((decide ((K.len:Int)>=Y))=false->∃g:Bool,Value.bool false=.bool g/\(g=true<->iV c q l e)/\J b S))):=by
    intro aF
    have hl:∀v∈[E.size,b.size],v<F.size:=bE
    refine(jd (hj.ext ac) 149 #[] #[vp I.size 0] bh (λt=>¬((l:Int)+1<=t/\t<=(Q.len:Int) -1)) (λt _ N s=>JO (am.ext (y.trans (C.trans s))|>.bZ 0) (an.ext (y.trans (C.trans s))|>.bZ 4) (s.af al))).aI (J.az _) hl ?_
    intro v N D s _
    have M:=ac.trans s
    refine⟨v,rfl,λaD=>bW (λf=>?_) M,λaz=>?_⟩
    .let⟨t,ab,g⟩:=D.1 aD
     have:=(u.1 f).2.2.2.2.1 t ab
     exact g V
    have aG:∀t∈e.eM,(l:Int)+1<=t/\t<=(q.dq.length:Int) -1:=λt ab=>by
     rcases dS ((l:Int)+1<=t/\t<=(Q.len:Int) -1)with h|h
     .omega
     .exact absurd (D.2 ⟨t,ab,h⟩) (by simp[az])
    refine⟨(.func 148,#[],#[vp A.size 0,vp B.size 0]),s.af al,?_⟩
    have ao:∀v∈[E.size,b.size],v<N.size:=λv D=>s.lt (hl v D)
    refine(HW (cw.ext M hd) ht (pG.ext M hf) (X.ext M) (hj.ext M) 148 #[] #[vp A.size 0,vp B.size 0] bh (λt=>(l:Int)+1<=t/\t<=(q.dq.length:Int) -1) (λR g=>by simpa using aK R (s.trans g) e.bP)).aI (J.az _) ao ?_
    intro b2 aM ak L _
    have Z:=M.trans L
    refine⟨b2,rfl,λh=>bW (λf=>nb ak h (u.1 f).2.2.2.2.2.1) Z,λh=>?_⟩
    have au:=yb ak h
    have aH:∀v∈[E.size,b.size],v<aM.size:=λv D=>L.lt (ao v D)
    refine(Lg (cw.ext Z hd) ht (pG.ext Z hf) (a:=K) (j:=P) au).aI (J.az _) aH ?_
    rintro _ aU ⟨lo,Y,rfl,R,ai⟩
    have aw:=Z.trans ai
    have aJ:∀T S,hO c e T S->T=lo/\S=Y:=λT S g=>by
     unfold hO at R g;repeat' (split at R)
     all_goals simp_all
     all_goals (obtain⟨q1,e1,e2,e3⟩:=R;simp_all)
    refine⟨ai,lo,Y,rfl,λh=>eU ?_ aw,λh=>bW (λf=>?_) aw⟩
    .rw[u]
     simp only[ar]at h⊢
     refine⟨λg=>⟨f1,f2,ay,aF,aG,au,λT S h2=>?_⟩,λg=>?_⟩
     .obtain⟨rfl,rfl⟩:=aJ T S h2;omega
     .have:=g.2.2.2.2.2.2 lo Y R;omega
    .have:=(u.1 f).2.2.2.2.2.2 lo Y R
     simp at h;omega
   refine⟨λs=>⟨λL=>bW (λf=>?_) ac,λL=>jU (Or.inr (by simpa using L))⟩,λs=>jU (Or.inl (by simp at s;omega))⟩
   have:=(u.1 f).2.2.2.1
   simp at s L;omega
def DY{ah:O}(v:fy b d ah c):dt cg 43 [.agg #[O.v d,O.v ah]] b (nB c):=by
 apply yz;simp -zeta only[aC,aB];intro F;have ac:J b F:=(J.az b).aK _;have s1:F.size=b.size+1:=by simp[F]
 clear_value F;refine(Ga (v.ext ac)).aI (J.az _) bE ?_;rintro _ M ⟨d',aj,ai,rfl,Y,an,H⟩;refine⟨H,d',aj,ai,rfl,?_⟩;intro m3 t;have s4:t.size=M.size+1:=by simp[t,m3,av]
 have W:J M t:=((J.az M).aK _).ah (ad _) _ _;have af:J b t:=(ac.trans H).trans W;have:=H.size;have aI:=v.cB.len;have aJ:=v.cB.gW;clear_value t;refine⟨λhn=>bW (λf=>nb Y hn ⟨f.nZ,λq x=>(f.dA q x).cU⟩) af,λhy=>?_⟩;let⟨D,am⟩:=yb Y hy;obtain⟨rfl,hf⟩:=an (by simpa using hy);refine dV (n:=c.cB.length) V (λQ z=>J t z/\∀q∈c.cB.take Q,HG c q) ⟨J.az _,aL⟩ ?_;rintro Q N ay μ hn ⟨A,X⟩ ax
 have K:=af.trans A;refine dit (λaG=>?_) λaE=>?_
 .let⟨q,x⟩:=cG c.cB Q;let⟨R,ag,S,ha,hl,w,g0,g1,g2,g3,g4⟩:=(v.ext K).cB.aE x;refine⟨V,V,R,by simpa using g0,ag,by simpa using g1,_,by simpa using g2,_,by simpa using g3,S,by simpa using g4,?_⟩;intro m6 u;have s7:u.size=N.size+1:=by simp[u,m6,av]
  have r:J N u:=((J.az N).aK _).ah (ad _) _ _;have s:=K.trans r;have az:=ha.len;have aA:=w.len;have aD:=w.gW;have o:=aq x;clear_value u;refine⟨λe=>bW (λf=>?_) s,λT=>⟨λe=>bW (λf=>?_) s,λe2=>⟨λe=>bW (λf=>?_) s,λe3=>⟨λe=>bW (λf=>?_) s,λe4=>?_⟩⟩⟩⟩
  .have:=(f.dA q o).ak;simp at e;split at e<;>omega
  .have:=(f.dA q o).ak;simp at e;omega
  .have:=(f.dA q o).len;simp at e;omega
  .have:=(f.dA q o).len;simp at e;omega
  have ab:(q.params.length:Int)<=q.ak/\1<=q.ak/\q.ak<=2000:=by
   simp at T e2;split at T<;>omega
  have al:1<=q.dq.length/\q.dq.length<=2000:=by simp at e3 e4;omega
  let⟨E,I⟩:=cG q.dq (q.dq.length -1);obtain⟨a0,j0,_,_,L,_⟩:=(fj.ext r w).aE I;refine⟨λz=>J u z/\(E.op=23\/E.op=24),?_,?_⟩
  .have e:cQ ((S.len:Int) -1)=((q.dq.length -1:Nat):Int):=by rw[aP V V];omega
   rw[e];refine⟨V,V,E.op,by simpa using L,λg=>⟨λh=>bW (λf=>?_) s,λh=>⟨J.az _,Or.inr (by simpa using h)⟩⟩,λg=>⟨J.az _,Or.inl (by simpa using g)⟩⟩;have:=(f.dA q o).MS E I;simp at g h;omega
  .rintro m8 ⟨h8,ak⟩;refine dV (n:=q.dq.length) V (λy z=>J u z/\∀(j:Nat)(h:Instr),j<y->q.dq[j]? =some h->iV c q j h) ⟨h8,λj h C=>V⟩ ?_;rintro y P I2 μ2 hk ⟨m,aa⟩ au;refine dit (λaH=>?_) λaF=>?_
   .let⟨h,g⟩:=cG q.dq y;let⟨xa,xj,ao,ap,L,k1,k2,k3,k4,k5⟩:=(fj.ext (r.trans m) w).aE g;refine⟨V,V,_,by simpa using L,_,by simpa using k1,_,by simpa using k2,_,by simpa using k3,xa,by simpa using k4,xj,by simpa using k5,?_⟩;intro ar G;have aM:G.size=P.size+1:=by simp[G,ar,av]
    have p:J P G:=((J.az P).aK _).ah (ad _) _ _;have ae:=(s.trans m).trans p;have q1:=m.size;have q2:=A.size;clear_value G;refine(Ee (ah:=R) (ax:=ag) (cw.ext ae v.bo) D.types (pG.ext (W.trans (A.trans (r.trans (m.trans p)))) hf) D.len.2 (λU B=>(D.dA U B).1) (fj.ext (r.trans (m.trans p)) w) ab.2.2 (l:=y) (e:=h) (ao.ext p) (ap.ext p)).aI (J.az _) bE ?_;intro b' aK Z U _;refine⟨b',rfl,λe=>bW (λf=>nb Z e ((f.dA q o).dA y h g)) (ae.trans U),λe=>au V _ ⟨m.trans (p.trans U),λj i' C B=>?_⟩⟩;rcases Nat.lt_succ_iff_lt_or_eq.1 C with C|rfl
    .exact aa j i' C B
    .rw[g]at B;simp at B;subst B;exact yb Z e
   .refine ax V _ ⟨A.trans (r.trans m),bC x X ⟨am q o,ab,al,λj h g=>aa j h (oh (aw g)) g,λh g=>?_⟩⟩
    rw[I]at g;simp at g;subst g;exact ak
 .exact iU ⟨D,de V X⟩ K
end
section
variable{m:E}{s:O}{k:Nat}{γ σ:Type}
def Pn(m:E)(a:List Ce)(c:bM):Prop:=∃f,a=[.i c.aQ,.i c.kv,.s f]/\ap m f c.aF
def Kx(m:E)(a:List Ce)(f:aT):Prop:=∃r o h,a=[.i f.fq,.i f.pc,.i f.dst,.s r,.s o,.s h]/\ap m r f.ak/\ap m o f.aR/\ap m h f.aZ
abbrev cX(m:E)(s:O)(l:List bM):Prop:=eT m 3 (Pn m) s l
abbrev iH(m:E)(s:O)(l:List aT):Prop:=eT m 6 (Kx m) s l
def Pn.ext{m b:E}(g:J m b)(a:List Ce)(c:bM):Pn m a c->Pn b a c:=λ⟨f,d,e⟩=>⟨f,d,e.ext g⟩
def cX.ext{m b:E}(a:J m b){s:O}{l:List bM}(h:cX m s l):cX b s l:=h.mono a (Pn.ext a)
def Kx.ext{m d:E}(a:J m d)(b:List Ce)(c:aT):Kx m b c->Kx d b c:=λ⟨r,o,h,e,f,g,i⟩=>⟨r,o,h,e,f.ext a,g.ext a,i.ext a⟩
def iH.ext{m b:E}(a:J m b){s:O}{l:List aT}(h:iH m s l):iH b s l:=h.mono a (Kx.ext a)
def cX.aE{l:List bM}(h:cX m s l){x:bM}(c:l[k]? =some x):
 ∃f,ap m f x.aF/\af m s.D (s.off+k*3)=some (vi x.aQ)/\af m s.D (s.off+k*3+1)=some (vi x.kv)/\af m s.D (s.off+k*3+2)=some (O.v f):=by
 obtain⟨d,⟨f,rfl,b⟩,a⟩:=h.iI k x c
 exact⟨f,b,a 0 (.i x.aQ) rfl,a 1 (.i x.kv) rfl,a 2 (.s f) rfl⟩
def iH.aE{l:List aT}(h:iH m s l){x:aT}(b:l[k]? =some x):
 ∃r o e,ap m r x.ak/\ap m o x.aR/\ap m e x.aZ/\af m s.D (s.off+k*6)=some (vi x.fq)/\af m s.D (s.off+k*6+1)=some (vi x.pc)/\af m s.D (s.off+k*6+2)=some (vi x.dst)/\
  af m s.D (s.off+k*6+3)=some (O.v r)/\af m s.D (s.off+k*6+4)=some (O.v o)/\af m s.D (s.off+k*6+5)=some (O.v e):=by
 obtain⟨f,⟨r,o,e,rfl,d,c,a⟩,jB⟩:=h.iI k x b
 exact⟨r,o,e,d,c,a,jB 0 (.i x.fq) rfl,jB 1 (.i x.pc) rfl,jB 2 (.i x.dst) rfl,jB 3 (.s r) rfl,jB 4 (.s o) rfl,jB 5 (.s e) rfl⟩
def _root_.Go.Vc.eT.pI{l:List Int}(h:eT m 1 UH s l){i:Int}(a:0<=i)(b:i<l.length):af m s.D (s.off+i.toNat*1)=some (vi (aE l i)):=ap.aE h (lH a b)
structure RV(m:E)(mb o:Nat)(d p aU hp fr:O)(im:cO)(s:St):Prop where
 fg:fy m d p im
 bo:af m mb 0=some (O.v d)
 cB:af m mb 1=some (O.v p)
 cz:af m mb o=some (vi s.cz)
 value:af m mb (o+1)=some (vi s.value)
 bu:af m mb (o+2)=some (vi s.bu)
 dW:af m mb (o+3)=some (vi s.dW)
 aab:af m mb (o+4)=some (O.v aU)
 rq:af m mb (o+5)=some (O.v hp)
 OG:af m mb (o+6)=some (O.v fr)
 aU:ap m aU s.aU
 heap:cX m hp s.heap
 ao:iH m fr s.ao
def RV.ext{m f:E}{g o:Nat}{d p aU c b:O}{e:cO}{s:St}(h:RV m g o d p aU c b e s)(a:J m f):RV f g o d p aU c b e s:=
 ⟨h.fg.ext a,a.af h.bo,a.af h.cB,a.af h.cz,a.af h.value,a.af h.bu,a.af h.dW,a.af h.aab,a.af h.rq,a.af h.OG,h.aU.ext a,cX.ext a h.heap,iH.ext a h.ao⟩
def Xg(P:Nat->Prop):∀(n:Nat),P n->∃k,P k/\∀j,P j->k<=j:=by
 intro n;induction n using Nat.strongRecOn with
 |_ n e=>
  intro b;rcases dS (∃j,j<n/\P j)with⟨j,a,d⟩|c
  .exact e j a d
  .exact⟨n,b,λj a=>dR λh=>c ⟨j,V,a⟩⟩
def Pd{p:σ}{j:(σ->E->Prop)->(σ->E->Nat)->σ->E->Prop}(J:γ->σ->E->Prop)(ν:γ->Nat)(l:γ)(r:J l p m)
 (q:∀(g:γ)(s:σ)(a:E)(I:σ->E->Prop)(μ:σ->E->Nat),J g s a->(∀b d c,J b d c->ν b<ν g->I d c/\μ d c<μ s a)->j I μ s a):
 ∃(I:σ->E->Prop)(μ:σ->E->Nat),I p m/\∀s a,I s a->j I μ s a:=by
 classical
 let I:σ->E->Prop:=λs m=>∃g,J g s m
 have h:∀s m,I s m->∃k,(∃g,J g s m/\ν g=k)/\∀o,(∃g,J g s m/\ν g=o)->k<=o:=λs m⟨g,i⟩=>Xg _ (ν g) ⟨g,i,rfl⟩
 let μ:σ->E->Nat:=λs m=>if e:I s m then Classical.choose (h s m e)else 0
 refine⟨I,μ,⟨l,r⟩,λs a e=>?_⟩
 let⟨g,i,u⟩:=(fL (h s a e)).1
 refine q g s a I μ i λb d c f t=>⟨⟨b,f⟩,?_⟩
 have n:I d c:=⟨b,f⟩
 simp only[μ,SY e,SY n]
 exact nN ((fL (h d c n)).2 _ ⟨b,f,rfl⟩) (u▸t)
def Sc{τ:Type}{i:σ}{j:τ}{h:(σ->τ->E->Prop)->(σ->τ->E->Nat)->σ->τ->E->Prop}(J:γ->σ->τ->E->Prop)(ν:γ->Nat)(k:γ)(n:J k i j m)
 (l:∀(g:γ)(s:σ)(t:τ)(a:E)(I:σ->τ->E->Prop)(μ:σ->τ->E->Nat),J g s t a->(∀f d e c,J f d e c->ν f<ν g->I d e c/\μ d e c<μ s t a)->h I μ s t a):
 ∃(I:σ->τ->E->Prop)(μ:σ->τ->E->Nat),I i j m/\∀s t a,I s t a->h I μ s t a:=by
 let⟨I,μ,o,p⟩:=Pd (σ:=σ×τ) (p:=(i,j)) (j:=λI μ b a=>h (λs t=>I (s,t)) (λs t=>μ (s,t)) b.1 b.2 a) (λg b m=>J g b.1 b.2 m) ν k n (λg b a I μ q r=>l g b.1 b.2 a (λs t=>I (s,t)) (λs t=>μ (s,t)) q λf d e c=>r f (d,e) c)
 exact⟨λs t=>I (s,t),λs t=>μ (s,t),o,λs t=>p (s,t)⟩
end
section
variable{m g:E}{s d p a j t o e:O}{b r:List Int}{f:Nat}{K:Value->E->Prop}{c:cO}{x:Instr}
def _root_.Go.Vc.eT.Ik(h:eT m 1 UH s b):fQ m s.D s.off (b.map Ce.i):=λi d a=>by
 rw[cJ]at a;obtain⟨x,c,rfl⟩:=Option.map_eq_some_iff.1 a;have:=ap.aE h c;rw[eR]at this;exact this
def oI(f:Nat)(c:List Value)(m:E)(b:List Int):Prop:=aN cg f c m λv a=>∃s,v=O.v s/\gZ m a aA 1 s (b.map Ce.i)/\J m a
def oI.then{c:List Value}(h:oI f c m b)(i:b.length<=1000000000)(e:∀s a,gZ m a aA 1 s (b.map Ce.i)->ap a s b->J m a->K (O.v s) a):aN cg f c m K:=
 h.mono λ_ _⟨s,d,a,g⟩=>d▸e s _ a (ap.gA a V) g
def oI.aI{c:List Value}{d:List Nat}(h:oI f c m b)(l:b.length<=1000000000)(i:∀a∈d,a<m.size)(k:∀s a,gZ m a aA 1 s (b.map Ce.i)->ap a s b->J m a->K (O.v s) a):aN cg f c m λv a=>eG d m a/\K v a:=
 h.mono λ_ _⟨s,j,e,g⟩=>⟨g.dv i,j▸k s _ e (ap.gA e V) g⟩
def dX(w:Int)(m:E):dt cg 119 [vi w] m (1000<=w):=by
 apply AZ;exact eU aL (J.az _)
def jf{a:O}{h:List bM}(j:cX m a h){w:Int}(C: -9223372036854775808<=w/\w<=9223372036854775807):dt cg 130 [O.v a,vi w] m (fY h w):=by
 apply GQ;have z:=j.len;have A:=j.gW;have o:cQ ((a.len:Int) -1)=(a.len:Int) -1:=aP V V;rw[o];have x:cQ (w -1000)=w -1000\/(w<1000/\¬(0<=cQ (w -1000)/\cQ (w -1000)<=(a.len:Int) -1))\/(w<1000/\cQ (w -1000)=w -1000+18446744073709551616):=by
  rcases dS (-9223372036854775808<=w -1000)with b|b
  .exact Or.inl (aP b V)
  .refine Or.inr (Or.inr ⟨V,?_⟩);simp only[cQ,IntKind.wrap,IntKind.signed,IntKind.bits];simp;omega
 refine(aY _ _ _ _).then λn D i b=>⟨n,rfl,λu=>?_,λt=>?_⟩
 .refine(dX _ _).then λb2 E l g=>⟨b2,rfl,λs=>?_,λr=>bW (λc=>fb l r c.1) (b.trans g)⟩;have k:=l.1 s;have p:cQ (w -1000)=w -1000:=aP V V;rw[p]at i⊢;have B:=i.1 u;let⟨e,c⟩:=cG h ((w -1000).toNat);obtain⟨f,y,q,_⟩:=(cX.ext (b.trans g) j).aE c;refine⟨V,V,e.aQ,q,eU ?_ (b.trans g)⟩;simp only[kM,ar];refine⟨λa=>⟨k,e,c,a⟩,λ⟨_,v,d,a⟩=>?_⟩;unfold ix at d;rw[c]at d;simp at d;subst d;exact a
 .refine bW (λ⟨k,e,c,_⟩=>fb i t ?_) b;have:=aw c;unfold ix at this;rw[aP V V];omega
def Mc(a:Int)(m:E):dt cg 68 [vi a] m (nk a):=by
 apply GO;refine⟨λh=>iU ?_ (J.az _),λh=>⟨λb=>iU ?_ (J.az _),λb=>eU ?_ (J.az _)⟩⟩<;>simp[nk]at* <;>omega
def Ll{q:dz}(a:c.cB[x.bP.toNat]? =some q)(k:Nat):nI c x k=true<->(k:Int)∈q.cU:=by
 simp[nI,dP,a,List.any_eq_true]
def zt(c:cO)(x:Instr):Prop:=(x.op=9\/x.op=24)->0<=x.bP/\∃q,c.cB[x.bP.toNat]? =some q
def iV.call{p:dz}{k:Nat}(h:iV c p k x):zt c x:=λe=>by
 have a:=h.op;unfold lV at a;rw[ae V,ae V,ae V,ae V,an e]at a;obtain⟨q,b,d,_⟩:=a;exact⟨b,q,d⟩
def sa(h:fy m d p c)(z:zt c x)(a j:O)(k:Nat):
 dt cg 122 [.agg #[O.v d,O.v p],.agg #[vi x.op,vi x.dst,vi x.bP,vi x.bU,O.v a,O.v j],vi k] m ((x.op=9\/x.op=24)/\nI c x k=true):=by
 apply EO
 simp -zeta only[aC,aB]
 intro o b
 have n:J m b:=((J.az m).aK _).aK _
 have A:∀f∈[o.size,m.size],f<b.size:=by simp[b,o];omega
 have L:=h.cB.len
 clear_value b
 have q:∀e:x.op=9\/x.op=24,(0:Int)<=x.bP/\x.bP<(p.len:Int)/\∃u:O,af b p.D (p.off+Int.toNat x.bP*5+1)=some (O.v u)/\
  aN cg 133 [O.v u,vi k] b λr s=>eG [o.size,m.size] b s/\∃t:Bool,r=vb t/\∃f:Bool,vb t=.bool f/\(f=true<->((x.op=9\/x.op=24)/\nI c x k=true))/\J m s:=λe=>by
  let⟨v,N,l⟩:=z e
  let⟨D,C,E,I,B,K,F,g1,g2,G,H⟩:=(h.ext n).cB.aE l
  have:=aw l
  refine⟨v,V,C,g1,(dw B _).aI (J.az _) A λf M y w _=>⟨f,rfl,eU ?_ (n.trans w)⟩⟩
  rw[y,Ll l]
  exact⟨λh=>⟨e,h⟩,λh=>h.2⟩
 refine⟨λi=>q (Or.inl (by simpa using i)),λi=>⟨λg=>q (Or.inr (by simpa using g)),λg=>bW (λ⟨e,_⟩=>?_) n⟩⟩
 simp at i g;omega
def Iv(a:Int)(m:E):dt cg 121 [vi a] m (a=6\/a=9\/a=10\/a=11):=by
 apply sC;refine⟨λh=>iU ?_ (J.az _),λh=>⟨λb=>iU ?_ (J.az _),λb=>⟨λc=>iU ?_ (J.az _),λc=>eU ?_ (J.az _)⟩⟩⟩<;>simp at* <;>omega
def jz(c:cO)(x:Instr)(n:Nat):List Int:=iL c x 0 (x.args.take n)
def vB(c:cO)(x:Instr):∀(b r:List Int)(k:Nat),iL c x k (b++r)=iL c x k b++iL c x (k+b.length) r
 |[],r,k=>by simp[iL]
 |a::b,r,k=>by
  have:=vB c x b r (k+1);simp only[da,iL,this,ba];have e:k+(b.length+1)=k+1+b.length:=V;rw[e];split<;>simp
def tX(c:cO)(x:Instr):∀(b:List Int)(k:Nat),(iL c x k b).length<=b.length
 |[],k=>ad _
 |a::b,k=>by
  have:=tX c x b (k+1);simp only[iL];split<;>simp<;>omega
def Jd(c:cO)(x:Instr):(bT c x).length<=x.args.length:=by
 unfold bT;split
 .exact ad _
 split
 .simp;omega
 split
 .exact tX _ _ _ _
 .simp
def J.tG{a c:E}(f:J g a)(h:J g c){b:List Nat}(d:∀x∈b,x<g.size):eG b a c:=λx e=>by rw[f.same x (d x e),h.same x (d x e)]
def nX{v:Int}{K:O->E->Prop}(c:gZ g m aA 1 s (b.map Ce.i))(h:J g m)(n:b.length<1000000000)
 (f:∀r a,gZ g a aA 1 r ((b++[v]).map Ce.i)->J g a->K r a):
 jS (m.push (.cells (bt [.i v]) aA)) aA [.i (0:Int)] 8 s (O.mk m.size 0 1 1) K:=by
 have o:s.len=b.length:=by have:=c.len;simp at this;omega
 refine gZ.append (zs:=[.i 0]) (d:=[.i v]) (c.ext (J.push _ _)) (h.aK _) rfl (cF.push m _ _).iI bE λr a d e i j k l=>?_
 exact f r a (by simpa using d) e
def Kk(aa:fy m d p c)(hc:zt c x)(I:ap m a x.args)(ak:x.args.length<=1000000)(ab:(x.op=16\/x.op=17)->1<=x.args.length):
 oI 70 [.agg #[O.v d,O.v p],.agg #[vi x.op,vi x.dst,vi x.bP,vi x.bU,O.v a,O.v j]] m (bT c x):=by
 apply Fa
 simp -zeta only[aC,aB]
 intro C f Q
 have B:J m f:=((J.az m).aK _).aK _
 have s2:f.size=m.size+2:=by simp[f,C]
 have h3:J f Q:=(J.az f).aK _
 have u:gZ f Q aA 1 (.mk f.size 0 0 0) []:=gZ.new (J.az f) aA 1 [] 0 aL
 have s1:C.size=m.size+1:=by simp[C]
 have ah:=I.len
 have w:∀v∈[C.size,m.size],v<f.size:=λv t=>by simp at t;omega
 clear_value Q
 clear_value f
 have K:∀{o s b},gZ f o aA 1 s b->gZ m o aA 1 s b:=λu=>u.cx B.size
 refine⟨λZ o=>J f o/\gZ f o aA 1 (.mk f.size 0 0 0) []/\(Z=true<->(x.op=15\/x.op=6\/x.op=10\/x.op=11\/x.op=18\/x.op=23\/x.op=9\/x.op=24)),?_,?_⟩
 .refine(Iv _ _).aI h3 w λv D t g i=>⟨v,rfl,λM=>⟨i,u.ext g,by have:=t.1 M;simp;omega⟩,λL=>?_⟩
  have h:=fb t L
  refine⟨λe=>⟨i,u.ext g,by simp at e;simp;omega⟩,λH=>⟨λe=>⟨i,u.ext g,by simp at e;simp;omega⟩,λq=>⟨λe=>⟨i,u.ext g,by simp at e;simp;omega⟩,λA=>⟨i,u.ext g,by simp at H q A;simp;omega⟩⟩⟩⟩
 .rintro Z D ⟨g,N,W⟩
  refine⟨λad=>?_,λac=>?_⟩
  .have hT:=W.1 ad
   refine eA (n:=x.args.length) V (λk s o=>J f o/\gZ f o aA 1 s ((if x.op=9\/x.op=24 then jz c x k else x.args.take k).map Ce.i)) ⟨g,by simpa[jz,iL]using N⟩ ?_
   rintro k s m5 ag μ hk ⟨R,P⟩ Y
   have X:=B.trans R
   refine dit (λaj=>?_) λai=>?_
   .let⟨y,h⟩:=cG x.args k
    have U:jz c x (k+1)=jz c x k++iL c x k [y]:=by
     unfold jz;rw[aV h,vB];simp;congr 2;omega
    refine(sa (aa.ext X) hc a j k).aI R w λv m6 t S F=>⟨v,rfl,λM=>?_,λL=>?_⟩
    .have G:=nb t M
     refine⟨V,V,y,by simpa using(I.ext (B.trans F)).aE h,?_⟩
     intro m7
     have T:(if x.op=9\/x.op=24 then jz c x k else x.args.take k).length<=k:=by
      split
      .refine bH (tX _ _ _ _) ?_;simp;omega
      .simp;omega
     refine nX (P.ext S) F V λr m8 z E=>?_
     refine⟨J.tG (F.aK _) E w,Y V _ _ ⟨E,?_⟩⟩
     by_cases e:x.op=9\/x.op=24
     .rw[an e]at z⊢
      rw[U]
      have:iL c x k [y]=[y]:=by
       simp only[iL];rw[ae (λw=>G ⟨e,w⟩)]
      rw[this];exact z
     .rw[ae e]at z⊢
      rw[aV h];exact z
    .have G:=yb t L
     refine Y V _ _ ⟨F,?_⟩
     have T:=P.ext S
     rw[an G.1]at T⊢
     rw[U]
     have:iL c x k [y]=[]:=by
      simp only[iL];rw[an G.2]
     rw[this,dZ];exact T
   .refine⟨s,rfl,?_,X⟩
    have q:bT c x=if x.op=9\/x.op=24 then jz c x k else x.args.take k:=by
     have A:x.args.take k=x.args:=bY V;unfold bT jz;rw[A];by_cases e:x.op=9\/x.op=24
     .rw[ae V,ae V,an e,an e]
     .rw[an V,ae e]
    rw[q];exact K P
  .have hT:¬(x.op=15\/x.op=6\/x.op=10\/x.op=11\/x.op=18\/x.op=23\/x.op=9\/x.op=24):=λe=>by have:=W.2 e;rw[ac]at this;simp at this
   have i:=B.trans g
   have lW:∀e:x.op=16\/x.op=17,(0:Int)<=(0:Int)/\(0:Int)<(a.len:Int)/\∃F:Int,af D a.D (a.off+Int.toNat (0:Int)*1)=some (vi F)/\
    jS (D.push (.cells (bt [.i F]) 3)) 3 [.i (0:Int)] 8 (O.mk f.size 0 0 0) (O.mk D.size 0 1 1) λL k=>eG [C.size,m.size] (D.push (.cells (bt [.i F]) 3)) k/\∃s,O.v L=O.v s/\gZ m k aA 1 s ((bT c x).map Ce.i)/\J m k:=λe=>by
    have M:=ab e
    let⟨y,h⟩:=cG x.args 0
    refine⟨V,V,y,by simpa using(I.ext i).aE h,nX (b:=[]) N g aL λr m8 z E=>⟨J.tG (g.aK _) E w,r,rfl,?_,B.trans E⟩⟩
    have q:bT c x=[y]:=by
     unfold bT;rw[ae V,an e];cases G:x.args with
     |nil=>rw[G]at h;simp at h
     |cons P b=>rw[G]at h;simp at h;subst h;rfl
    rw[q];exact K z
   refine⟨λe=>lW (Or.inl (by simpa using e)),λH=>⟨λe=>lW (Or.inr (by simpa using e)),λq=>⟨_,rfl,?_,i⟩⟩⟩
   have A:bT c x=[]:=by
    simp at H q;unfold bT;rw[ae V,ae V,ae V]
   rw[A];exact K N
def gV(c:ap m s b)(l:b.length<=1000000000):oI 66 [O.v s] m b:=by
 apply nK;intro d;have a:J m d:=(J.az m).aK _;have g:gZ m d aA 1 (.mk m.size 0 0 0) []:=gZ.new (J.az m) aA 1 [] 0 aL;have f:=c.len;refine gZ.append (zs:=[.i 0]) (d:=b.map Ce.i) g a (by simp[f]) (c.ext a).Ik bE λr n a e h i j k=>⟨r,rfl,by simpa using a,e⟩
def LY(h:ap m s b)(c:ap m t r)(p:b.length+r.length<=1000000000):oI 187 [O.v s,O.v t] m (b++r):=by
 apply uR;refine(gV h V).then V λq w d e a=>⟨q,rfl,?_⟩;have i:=c.len;have o:=e.len;refine gZ.append (zs:=[.i 0]) (d:=r.map Ce.i) d a (by simp[i]) (c.ext a).Ik V λu v f g j k l n=>⟨u,rfl,by simpa using f,g⟩
def mD(d:ap m s b):dt cg 128 [O.v s] m (Sk b):=by
 apply Ev;have g:=d.len;refine dV (n:=b.length) (g▸d.gW) (λk a=>J m a/\∀y∈b.take k,y=0) ⟨J.az _,aL⟩ ?_;rintro k o I μ l ⟨a,f⟩ j
 refine⟨λh=>?_,λh=>iU (de (by simp at h;omega) f) a⟩;simp only[ar]at h;let⟨x,e⟩:=cG b k;refine⟨V,V,x,by simpa using a.af (d.aE e),λc=>bW (λi=>?_) a,λc=>j V _ ⟨a,bC e f (by simpa using c)⟩⟩;have:=i x (aq e);simp at c;omega
def Bh(d:ap m s b):dt cg 123 [O.v s] m (∀o∈b,0<=o):=by
 apply wK;have g:=d.len;refine dV (n:=b.length) (g▸d.gW) (λk a=>J m a/\∀y∈b.take k,0<=y) ⟨J.az _,aL⟩ ?_;rintro k p I μ l ⟨a,f⟩ j
 refine⟨λh=>?_,λh=>iU (de (by simp at h;omega) f) a⟩;simp only[ar]at h;let⟨x,e⟩:=cG b k;refine⟨V,V,x,by simpa using a.af (d.aE e),λc=>bW (λi=>?_) a,λc=>j V _ ⟨a,bC e f (by simpa using c)⟩⟩;have:=i x (aq e);simp at c;omega
def qN(f:ap m s b)(j:ap m t r):dt cg 182 [O.v s,O.v t] m (b=r):=by
 apply Dg;have l:=f.len;have q:=j.len;refine⟨λh=>bW (λe=>by subst e;simp at h;omega) (J.az _),λh=>?_⟩;simp at h;refine dV (n:=b.length) (l▸f.gW) (λk a=>J m a/\b.take k=r.take k) ⟨J.az _,aL⟩ ?_;rintro k u I μ p ⟨c,i⟩ o
 refine⟨λh=>?_,λh=>iU (by simp at h;rwa[bY V,bY V]at i) c⟩;simp only[ar]at h;let⟨x,g⟩:=cG b k;let⟨y,d⟩:=cG r k;refine⟨V,V,x,by simpa using c.af (f.aE g),V,V,y,by simpa using c.af (j.aE d),λa=>bW (λe=>?_) c,λa=>o V _ ⟨c,?_⟩⟩
 .subst e;rw[g]at d;simp at d;simp at a;exact a d
 .rw[aV g,aV d,i];simp at a;rw[a]
abbrev fv(f:aT)(r o h:O):Value:=.agg #[vi f.fq,vi f.pc,vi f.dst,O.v r,O.v o,O.v h]
abbrev xv(x:Instr)(a j:O):Value:=.agg #[vi x.op,vi x.dst,vi x.bP,vi x.bU,O.v a,O.v j]
def Eu{f:aT}{r:O}(t:ap m r f.ak)(g:ap m a x.args)(C:∀y∈x.args,0<=y/\y<f.ak.length):
 dt cg 125 [fv f r o e,xv x a j] m (∀y∈x.args,aE f.ak y<1000):=by
 apply yO
 simp -zeta only[aC,aB]
 intro w b
 have v:J m b:=((J.az m).aK _).aK _
 have D:∀d∈[w.size,m.size],d<b.size:=by simp[b,w];omega
 have z:=g.len
 have K:=t.len
 clear_value b
 refine dV (n:=x.args.length) (z▸g.gW) (λl c=>J b c/\∀y∈x.args.take l,aE f.ak y<1000) ⟨J.az _,aL⟩ ?_
 rintro l L I μ H ⟨u,s⟩ F
 have i:=v.trans u
 refine⟨λh=>?_,λh=>iU (de (by simp at h;omega) s) i⟩
 simp only[ar]at h
 let⟨y,c⟩:=cG x.args l
 have k:=C y (aq c)
 refine⟨V,V,y,by simpa using i.af (g.aE c),k.1,V,aE f.ak y,by simpa using i.af (t.pI k.1 k.2),?_⟩
 refine(dX _ _).aI u D λd M q G p=>⟨d,rfl,λB=>bW (λE=>?_) (v.trans p),λA=>F V _ ⟨p,bC c s ?_⟩⟩
 .have:=E y (aq c);have:=q.1 B;omega
 .have:=fb q A;omega
def ph(b r:List Int):lj (b++r)=lj b++lj r:=by simp[lj]
def nY(b:List Int):(lj b).length<=b.length:=List.length_filter_le _ _
def oR(f:ap m s b)(A:b.length<=100000000):oI 181 [O.v s] m (lj b):=by
 apply y8;intro g;have p:J m g:=(J.az m).aK _;have u:gZ m g aA 1 (.mk m.size 0 0 0) []:=gZ.new (J.az m) aA 1 [] 0 aL;have z:=f.len;clear_value g;refine eA (n:=b.length) V (λk s a=>J m a/\gZ m a aA 1 s ((lj (b.take k)).map Ce.i)) ⟨p,by simpa[lj]using u⟩ ?_;rintro k s B I μ y ⟨d,c⟩ j
 refine dit (λo=>?_) λo=>?_
 .let⟨x,e⟩:=cG b k;refine⟨V,V,x,by simpa using d.af (f.aE e),?_⟩;refine(dX _ _).then λl C h a=>⟨l,rfl,λt=>?_,λq=>?_⟩
  .have i:=d.trans a;refine⟨V,V,x,by simpa using i.af (f.aE e),?_⟩;intro D;refine nX (c.ext a) i (by have:=nY (b.take k);simp at this;omega) λr E v w=>j V _ _ ⟨w,?_⟩
   rw[aV e,ph];have:lj [x]=[x]:=by simp[lj,h.1 t]
   rw[this];exact v
  .refine j V _ _ ⟨d.trans a,?_⟩
   rw[aV e,ph];have:lj [x]=[]:=by simp[lj];have:=fb h q;omega
   rw[this,dZ];exact c.ext a
 .rw[bY V]at c;exact⟨s,rfl,c,d⟩
def sj{f:aT}{r:O}(l:ap m r f.ak)(p:ap m s b)(x:∀y∈b,0<=y/\y<f.ak.length)(G:b.length<=100000000):
 oI 183 [fv f r o e,O.v s] m (cL f b):=by
 apply Fk
 simp -zeta only[aC,aB]
 intro a j
 have q:J m a:=(J.az m).aK _
 have w:J a j:=(J.az a).aK _
 have A:gZ a j aA 1 (.mk a.size 0 0 0) []:=gZ.new (J.az a) aA 1 [] 0 aL
 have z:∀u∈[m.size],u<a.size:=by simp[a]
 have F:=p.len
 have E:=l.len
 clear_value j
 clear_value a
 refine eA (n:=b.length) V (λk s c=>J a c/\gZ a c aA 1 s ((cL f (b.take k)).map Ce.i)) ⟨w,by simpa[cL]using A⟩ ?_
 rintro k s H I μ D ⟨d,c⟩ B
 have g:=q.trans d
 refine dit (λv=>?_) λv=>?_
 .let⟨y,h⟩:=cG b k
  have i:=x y (aq h)
  refine⟨V,V,y,by simpa using g.af (p.aE h),i.1,V,aE f.ak y,by simpa using g.af (l.pI i.1 i.2),?_⟩
  intro K
  refine nX c d (by simp[cL];omega) λM L C t=>⟨J.tG (d.aK _) t z,B V _ _ ⟨t,?_⟩⟩
  rw[aV h]
  simpa[cL]using C
 .rw[bY V]at c
  exact⟨s,rfl,c.cx q.size,g⟩
end
section
variable{g:E}{b:aT}{t v d p h u j:O}{s:St}{c:List Int}{q:Nat}{k:cO}{w:Int}{e:Nat->Int}{x:Instr}
def IQ{e:O}(Q:ap g t b.ak)(ho:ap g v b.aR){s:O}(D:ap g s c)(ad:∀y∈c,0<=y/\y<b.ak.length)(am:b.ak.length=b.aR.length)(ay:b.aR.length<=1000000)(aw:c.length<=1000000)
 (M:∀w∈b.aR,-1000000000<=w/\w<=1000000000):oI 69 [fv b t v e,O.v s] g (bB b.ak b.aR c):=by
 apply Db
 simp -zeta only[aC,aB]
 intro p
 have E:J g p:=(J.az g).aK _
 have H:∀G∈[g.size],G<p.size:=by simp[p]
 have ax:=D.len
 have av:=Q.len
 clear_value p
 refine(gV (ho.ext E) V).aI V H λx m2 o2 i2 Y=>⟨x,rfl,?_⟩
 have P:=i2.len
 have kQ:∀(d F aR:List Int),bB b.ak aR (d++F)=bB b.ak (bB b.ak aR d) F:=by
  intro d;induction d with
  |nil=>intro F aR;rfl
  |cons y d k=>intro F aR;simp only[da,bB,k]
 have lo:∀(d aR:List Int)(A:Int),(∀w∈aR,A<=w)->∀w∈bB b.ak aR d,A -d.length<=w:=by
  intro d;induction d with
  |nil=>intro aR A h w q;have:=h w q;simp;omega
  |cons y d k=>
   intro aR A h w q;simp only[bB]at q;have:=k _ (A -1) (λu j=>by
    split at j
    .rcases dS (y.toNat<aR.length)with B|B
     .rcases pO j with j|j
      .have:=h _ (iD (i:=y.toNat) (a:=aE aR y) (by obtain⟨C,z⟩:=dC B;rw[HK z];exact z));omega
      .have:=h u j;omega
     .have z:gU aR y (aE aR y -1)=aR:=by unfold gU;rw[rQ V]
      rw[z]at j;have:=h u j;omega
    .have:=h u j;omega) w q
   simp only[ba];omega
 refine dV (n:=c.length) V (λk j=>J p j/\gZ p j aA 1 x ((bB b.ak b.aR (c.take k)).map Ce.i)) ⟨Y,o2⟩ ?_
 rintro k m3 aj μ hk ⟨R,C⟩ U
 have K:=E.trans R
 refine dit (λh=>?_) λh=>?_
 .let⟨y,u⟩:=cG c k
  have j:=ad y (aq u)
  have ao:=jJ b.ak (c.take k) b.aR
  refine⟨V,V,y,by simpa using K.af (D.aE u),j.1,V,aE b.ak y,by simpa using K.af (Q.pI j.1 j.2),?_⟩
  refine(dX _ _).aI R H λG T N L B=>⟨G,rfl,λab=>?_,λZ=>?_⟩
  .have S:=E.trans B
   have I:=C.ext L
   have i4:ap T x (bB b.ak b.aR (c.take k)):=ap.gA I V
   refine⟨V,V,y,by simpa using S.af (D.aE u),V,V,y,by simpa using S.af (D.aE u),j.1,V,aE (bB b.ak b.aR (c.take k)) y,i4.pI j.1 V,j.1,V,?_⟩
   have au:=lo (c.take k) b.aR (-1000000000) (λw q=>(M w q).1) _ (fA (l:=bB b.ak b.aR (c.take k)) j.1 V)
   have ak:aE (bB b.ak b.aR (c.take k)) y<=1000000000:=by
    let⟨q',ai,al⟩:=ly (c.take k) b.aR y.toNat _ (lH (l:=bB b.ak b.aR (c.take k)) j.1 V);have:=(M q' (aq ai)).2;omega
   have ar:(c.take k).length<=1000000:=bE
   rw[aP V V]
   rcases I.aE with ag|⟨q,X,tail,z,e2,e3,e4,e5⟩
   .rw[ag]at P;simp at P;omega
   .have ah:x.off=0:=by rw[z];rfl
    have aa:x.D=q:=by rw[z];rfl
    rw[ah,aa]
    have ac:0+y.toNat*1=y.toNat:=V
    rw[ac]
    have af:y.toNat<((bB b.ak b.aR (c.take k)).map Ce.i).length:=bE
    refine⟨e3.fK (by simp only[be];omega),?_⟩
    intro m5
    have W:J p m5:=B.ah e2 _ _
    refine⟨J.tG B W H,U V _ ⟨W,?_⟩⟩
    rw[aV u,kQ]
    simp only[bB,an (N.1 ab)]
    refine⟨by rw[eg,jc,<-eg (f:=Ce.i)];exact I.len,Or.inr ⟨q,X,tail,z,e2,?_,?_,e5⟩⟩
    .have:=cF.ah (m:=T) (o:=y.toNat) (r:=[.i (aE (bB b.ak b.aR (c.take k)) y -1)]) e3
     have z:jm ((bB b.ak b.aR (c.take k)).map Ce.i++tail) y.toNat [.i (aE (bB b.ak b.aR (c.take k)) y -1)]=(gU (bB b.ak b.aR (c.take k)) y (aE (bB b.ak b.aR (c.take k)) y -1)).map Ce.i++tail:=by
      simp only[jm,gU,ud];rw[Mx _ _ af]
     rw[z]at this;exact this
    .simp only[be,eg,jc]at e4⊢;exact e4
  .refine U V _ ⟨B,?_⟩
   rw[aV u,kQ]
   simp only[bB,ae (fb N Z)]
   exact C.ext L
 .rw[bY V]at C
  exact⟨x,rfl,C.cx E.size,K⟩
def fR{aU t x:O}(a:RV g q 2 d p aU t x k s)(L:1000<=w){c:bM}(j:s.heap[ix w]? =some c):
 aN cg 131 [vp q 0,vi w] g λD v=>∃b,D=.agg #[vi c.aQ,vi c.kv,O.v b]/\ap v b c.aF/\J g v:=by
 apply uq (q,0)
 simp -zeta only[aC,aB]
 intro B
 have f:J g B:=(J.az g).aK _
 have l:=cX.ext f a.heap
 let⟨b,G,r,g1,g2⟩:=l.aE j
 have I:=l.len
 have K:=l.gW
 have A:=aw j
 unfold ix at A r g1 g2
 have e:cQ (w -1000)=w -1000:=aP V V
 rw[e]
 refine⟨t,f.af a.rq,V,V,c.aQ,r,c.kv,g1,b,g2,?_⟩
 intro C
 have m:J g C:=f.ah (ad _) _ _
 let⟨o,y,M,N,u⟩:=(cX.ext m a.heap).aE j
 unfold ix at u
 have z:o=b:=by
  have F:=f.af (a.rq);obtain⟨E,H,_,_,n⟩:=a.heap.aE j;unfold ix at n;have h:=f.af n;have i:=m.af n;rw[g2]at h;rw[u]at i;simp at h i;rw[O.BO]at h i;rw[h,i]
 subst z
 exact⟨o,rfl,y,m⟩
def uQ{aU L D:O}(C:RV g q 2 d p aU L D k s)(G:fN s.heap e){B:O}(o:ap g B c)(I:∀w∈c,fY s.heap w)(Y:c.length<=1000000):
 dt cg 180 [vp q 0,O.v B] g (lC s.heap c):=by
 apply sg (q,0)
 have X:=o.len
 refine dV (n:=c.length) V (λr a=>J g a/\∀w∈c.take r,1000<=w->(aM s.heap w).aQ+eC c (ix w)<=999999) ⟨J.az _,aL⟩ ?_
 rintro r Z P μ T ⟨y,v⟩ N
 refine⟨λh=>?_,λh=>iU (de (by simp at h;omega) v) y⟩
 simp only[ar]at h
 let⟨x,l⟩:=cG c r
 have m:=I x (aq l)
 have M:=iA m.1
 refine eA (n:=c.length) V (λj(z:Int) a=>J g a/\z=eC (c.take j) (ix x)) ⟨y,by simp[eC]⟩ ?_
 rintro j z m2 Q μ2 S ⟨f,rfl⟩ A
 refine dit (λE=>?_) λE=>?_
 .let⟨u,t⟩:=cG c j
  have K:=kG (c.take j) (ix x)
  have H:=iK (c.take j) (ix x)
  have F:(c.take j).length<=1000000:=bE
  have i:eC (c.take (j+1)) (ix x)=eC (c.take j) (ix x)+if u=x then 1 else 0:=by
   rw[aV t,mh];simp only[eC,M];omega
  refine⟨V,V,u,by simpa using f.af (o.aE t),V,V,x,by simpa using f.af (o.aE l),λa=>A V _ _ ⟨f,?_⟩,λa=>A V _ _ ⟨f,?_⟩⟩
  .simp at a;rw[i,an a];exact aP V V
  .simp at a;rw[i,ae a];omega
 .rw[bY V]
  have K:=kG c (ix x)
  have H:=iK c (ix x)
  let⟨u,W⟩:=bS m
  have U:=(G.cell _ (aq u)).hi
  refine⟨V,V,x,by simpa using f.af (o.aE l),?_⟩
  refine(fR (C.ext f) m.1 u).mono ?_
  rintro _ m3 ⟨b,rfl,R,a⟩
  have t:cQ ((aM s.heap x).aQ+eC c (ix x))=(aM s.heap x).aQ+eC c (ix x):=aP V V
  refine⟨_,_,_,rfl,λi=>bW (λF=>?_) (f.trans a),λi=>N V _ ⟨f.trans a,bC l v λ_=>?_⟩⟩
  .have:=F x (aq l) m.1
   rw[t]at i;simp at i;omega
  .rw[t]at i;simp at i;omega
def tj{h:List bM}:lC h (lj c)<->lC h c:=by
 unfold lC;constructor
 .intro b w d a;have:=b w (lM.2 ⟨d,a⟩) a;rwa[wi]at this
 .intro b w d a;rw[wi];exact b w (lM.1 d).1 a
def UZ{s:O}(h:ap g s c)(p:1<=c.length):ap g (O.cut s 1 s.len 1) (c.drop 1):=by
 have b:=h.len;have i:=h.cap;have l:=h.gW;cases s with
 |nil=>simp at b;omega
 |zN d v a=>simp at b;omega
 |mk d v r o=>
  simp at b i l;refine⟨by simp[O.cut];omega,by simp[O.cut];omega,by simp[O.cut];omega,λn x a=>?_⟩;rw[sq]at a;have q:=aw a;let⟨f,j,jB⟩:=h.iI (1+n) x a;refine⟨f,j,λm e k=>?_⟩;have:=jB m e k;simp only[O.cut,O.jH,O.nl]at this⊢;rw[ae V];rw[<-this];congr 1;omega
def gR.pS(h:gR k b){t:Int}(d:0<=t)(e:t<b.ak.length)(f:∀w∈b.ak,w<=9223372036854775807): -9223372036854775808<=aE b.ak t/\aE b.ak t<=9223372036854775807:=by
 have c:=fA (l:=b.ak) d e;refine⟨?_,f _ c⟩;rcases h.R1 _ c with a|a
 .have:=a.1;omega
 .omega
def J9{aU hp fr:O}(z:RV g q 2 d p aU hp fr k s)(M:fN s.heap e)(P:ap g t b.ak)(N:ap g h b.aZ)(r:ap g u x.args)
 (L:gR k b)(ai:∀w∈b.ak,w<=9223372036854775807)(Z:∀l∈x.args,0<=l/\l<b.ak.length)(ax:1<=x.args.length/\x.args.length<=4)(ay:x.op=16\/x.op=17):
 dt cg 132 [vp q 0,fv b t v h,xv x u j] g (Fw s.heap b x):=by
 apply tO (q,0)
 simp -zeta only[aC,aB]
 intro m1 F
 have a:J g F:=((J.az g).aK _).aK _
 have m:∀i∈[m1.size,g.size],i<F.size:=by simp[F,m1];omega
 have ar:=r.len
 have aA:=P.len
 have aw:=N.len
 have ao:=r.cap
 clear_value F
 have c:0<=aE x.args 0/\aE x.args 0<b.ak.length:=Z _ (fA V V)
 have R:aE x.args 0<b.aZ.length:=by have:=L.lr;have:=L.lh;omega
 have al:=L.pS c.1 c.2 ai
 refine⟨V,V,aE x.args 0,(r.ext a).pI V V,c.1,V,aE b.ak (aE x.args 0),(P.ext a).pI c.1 c.2,hp,a.af z.rq,?_⟩
 unfold Fw
 simp only[]
 generalize aD:aE b.ak (aE x.args 0)=w at*
 refine(jf (cX.ext a z.heap) al).aI (J.az _) m λi m3 y B _=>⟨i,rfl,λah=>bW (λf=>nb y ah f.1) (a.trans B),λag=>?_⟩
 have n:=yb y ag
 let⟨C,az⟩:=bS n
 have au:=(M.cell _ (aq C)).fl
 have am:=a.trans B
 refine((fR (z.ext am) n.1 C)).aI B m ?_
 rintro _ m4 ⟨fl,rfl,ak,U⟩
 have S:=B.trans U
 refine⟨U,_,_,_,rfl,(oR ak V).aI (oh (nY (aM s.heap w).aF)) (λi y=>S.lt (m i y)) λps m5 o5 i5 h5=>⟨ps,rfl,V,V,V,?_⟩⟩
 have G:=S.trans h5
 have aa:=a.trans G
 have e1:(Int.toNat (1:Int))=1:=rfl
 have e2:(Int.toNat (u.len:Int))=u.len:=V
 rw[e1,e2]
 refine(sj (P.ext aa) (UZ (r.ext aa) V) (λl o=>Z l (wQ o)) bE).aI (by simp[cL];omega) (λi y=>G.lt (m i y)) λqs m6 o6 i6 I=>⟨qs,rfl,?_⟩
 have ab:=G.trans I
 refine(qN (i5.ext I) i6).aI ab m λb2 m7 W h7 A=>⟨b2,rfl,λad=>?_,λac=>bW (λf=>fb W ac f.2.1) (a.trans A)⟩
 have D:=W.1 ad
 refine(fR (z.ext (a.trans A)) n.1 C).aI A m ?_
 rintro _ m8 ⟨an,rfl,av,K⟩
 have H:=A.trans K
 refine⟨K,_,_,_,rfl,λo=>?_,λo=>?_⟩
 .simp at o
  have E:=a.trans H
  refine⟨λl=>iU ⟨n,D,Or.inl o,λe=>by simp at l;omega⟩ E,λl=>⟨V,V,aE x.args 0,(r.ext E).pI V V,c.1,V,aE b.aZ (aE x.args 0),(N.ext E).pI c.1 R,eU ?_ E⟩⟩
  simp only[aG,aj,ne_eq]at l⊢
  exact⟨λQ=>⟨n,D,Or.inl o,λ_=>Q⟩,λf=>f.2.2.2 V⟩
 .simp at o
  refine(uQ (z.ext (a.trans H)) M (i5.ext ((I.trans h7).trans K)) (λT E=>M.field (aq C) (lM.1 E).1 (lM.1 E).2) (oh (nY (aM s.heap w).aF))).aI H m λb3 m9 X h9 T=>⟨b3,rfl,λaf=>?_,λae=>bW (λf=>?_) (a.trans T)⟩
  .have Y:=tj.1 (X.1 af)
   have E:=a.trans T
   refine⟨λl=>iU ⟨n,D,Or.inr Y,λe=>by simp at l;omega⟩ E,λl=>⟨V,V,aE x.args 0,(r.ext E).pI V V,c.1,V,aE b.aZ (aE x.args 0),(N.ext E).pI c.1 R,eU ?_ E⟩⟩
   simp only[aG,aj,ne_eq]at l⊢
   exact⟨λQ=>⟨n,D,Or.inr Y,λ_=>Q⟩,λf=>f.2.2.2 V⟩
  .rcases f.2.2.1 with l|l
   .exact o l
   .exact fb X ae (tj.2 l)
def IH{aU P Z:O}(b:RV g q 2 d p aU P Z k s)(G:nB k)(D:fN s.heap e)(hw: -9223372036854775808<=w/\w<=9223372036854775807):
 dt cg 129 [vp q 0,vi w] g (vJ k s.heap w):=by
 apply sS (q,0)
 simp -zeta only[aC,aB]
 refine⟨P,b.rq,(jf b.heap hw).then λi m1 x C=>⟨i,rfl,λai=>bW (λa=>nb x ai a.1) C,λah=>?_⟩⟩
 have z:=yb x ah
 let⟨F,al⟩:=bS z
 have K:=D.cell _ (aq F)
 have aE:=(K.oY al).2
 refine(fR (b.ext C) z.1 F).mono ?_
 rintro _ f ⟨B,rfl,N,j⟩
 refine⟨_,_,_,rfl,?_⟩
 intro T h
 have an:=C.trans j
 have H:J f h:=((J.az f).aK _).ah (ad _) _ _
 have s4:h.size=f.size+1:=by simp[h,T,av]
 have hB:af h f.size 1=some (vi (aM s.heap w).kv):=(cF.ah (m:=T) (o:=0) (r:=[.i (aM s.heap w).aQ,.i (aM s.heap w).kv,.s B]) (cF.push f _ _)).bZ 1
 have y:∀i∈[f.size],i<h.size:=by simp[s4]
 clear_value h
 have c:=an.trans H
 have L:=b.ext c
 have aD:=b.fg.cB.len
 have aA:=G.nZ.len
 have ar:(eS k.bo).length<=12:=by
  have:=rp G.nZ.types k.bo.length;rw[ng _ _ (ad _)]at this;exact this
 refine⟨d,L.bo,(qL L.fg.bo G.nZ.types).aI (J.az _) y λm5 t _=>⟨_,rfl,t.db hB,p,(b.ext (c.trans t)).cB,?_⟩⟩
 have aF:=c.trans t
 have W:cQ ((aM s.heap w).kv -((eS k.bo).length:Int))=(aM s.heap w).kv -cq k:=aP V V
 have X:cQ ((p.len:Int) -1)=(p.len:Int) -1:=aP V V
 rw[W,X]
 refine(aY _ _ _ _).aI t y λb2 m6 M h6 l=>⟨b2,rfl,λae=>?_,λac=>bW (λa=>fb M ac ⟨a.2.1,oh a.2.2.1⟩) (c.trans l)⟩
 have R:=M.1 ae
 have A:=c.trans l
 have E:=b.ext A
 let⟨ao,Q⟩:=cG k.cB (((aM s.heap w).kv -cq k).toNat)
 have am:dP k ((aM s.heap w).kv -cq k)=ao:=by simp[dP,Q]
 obtain⟨U,l',c',ab,ak,aw,g0,g1,_⟩:=E.fg.cB.aE Q
 have au:=ab.len
 have az:=ak.len
 have ay:=N.len
 have ax:=K.fl
 have Y:cQ ((B.len:Int)+1)=(B.len:Int)+1:=aP V V
 rw[Y]
 unfold vJ
 rw[am]
 refine⟨p,E.cB,V,V,U,g0,λu=>⟨p,E.cB,V,V,l',g1,λv=>⟨λn=>?_,λn=>?_⟩,λv=>bW (λa=>?_) A⟩,λu=>bW (λa=>?_) A⟩
 .simp at u v n
  exact iU ⟨z,R.1,V,V,V,Or.inl n⟩ A
 .simp at u v n
  refine(oR (N.ext (H.trans l)) V).aI (oh (nY (aM s.heap w).aF)) (λi x=>l.lt (y i x)) λps m7 o7 i7 aa=>⟨ps,rfl,?_⟩
  have I:=l.trans aa
  refine(uQ (b.ext (c.trans I)) D i7 (λag S=>D.field (aq F) (lM.1 S).1 (lM.1 S).2) (oh (nY (aM s.heap w).aF))).aI I y λb3 m8 ag ap S=>⟨b3,rfl,eU ?_ (c.trans S)⟩
  rw[ag,tj]
  refine⟨λaj=>⟨z,R.1,V,V,V,Or.inr aj⟩,λa=>?_⟩
  rcases a.2.2.2.2.2 with j|j
  .exact absurd j n
  .exact j
 .have:=a.2.2.2.2.1;simp at v;omega
 .have:=a.2.2.2.1;simp at u;omega
def II{aU M E:O}(C:RV g q 2 d p aU M E k s)(B:ap g h b.aZ)(G:ap g u x.args)(T:0<=x.bU/\x.bU<=b.aZ.length)(U:b.aZ.length<=1000000)
 (K:∀w∈b.aZ,w≠0->1000<=w/\∃o,s.heap[ix w]? =some o):
 dt cg 126 [vp q 0,fv b t v h,xv x u j] g (Fx s.heap b x):=by
 apply sT (q,0)
 simp -zeta only[aC,aB]
 intro n f
 have c:J g f:=((J.az g).aK _).aK _
 have L:∀D∈[n.size,g.size],D<f.size:=by simp[f,n];omega
 have F:af f n.size 4=some (O.v u):=(cF.push n _ _).bZ 4
 have Q:=G.len
 have S:=B.len
 clear_value f
 unfold Fx
 refine⟨λm=>iU (λr=>absurd (by simpa using m) r) c,λm=>?_⟩
 simp at m
 have e:cQ (x.bU -1)=x.bU -1:=aP V V
 rw[e]
 have A:=(B.ext c).pI (i:=x.bU -1) V V
 refine⟨V,V,aE b.aZ (x.bU -1),A,λa=>iU (λ_ r=>absurd (by simpa using a) r) c,λa=>?_⟩
 simp at a
 let⟨N,o,z⟩:=K _ (fA (l:=b.aZ) (i:=x.bU -1) V V) a
 refine⟨V,V,aE b.aZ (x.bU -1),A,(fR (C.ext c) N z).aI (J.az _) L ?_⟩
 rintro _ W ⟨P,rfl,I,r⟩
 have R:=I.len
 have H:aM s.heap (aE b.aZ (x.bU -1))=o:=by simp[aM,z]
 refine⟨r,_,_,_,rfl,r.db F,eU ?_ (c.trans r)⟩
 rw[H]
 simp
 exact⟨λy _ _=>V,λy=>oh (y m a)⟩
def qX(k:cO)(x:Instr):∀(c t:List Int)(a:Nat),fH k x a (c++t)=fH k x a c++fH k x (a+c.length) t
 |[],t,a=>by simp[fH]
 |u::c,t,a=>by
  have:=qX k x c t (a+1);simp only[da,fH,this,ba];have e:a+(c.length+1)=a+1+c.length:=V;rw[e];split<;>simp
def wG{aU l Y:O}(o:RV g q 2 d p aU l Y k s)(R:ap g t b.ak)(D:ap g u x.args)(Z:gR k b)(af:∀w∈b.ak,w<=9223372036854775807)
 (ag:∀y∈x.args,0<=y/\y<b.ak.length)(hc:zt k x)(ai:x.op=9\/x.op=24):
 dt cg 127 [vp q 0,fv b t v h,xv x u j] g (KD k s.heap b x):=by
 apply sR (q,0)
 simp -zeta only[aC,aB]
 intro W i
 have G:J g i:=((J.az g).aK _).aK _
 have F:∀r∈[W.size,g.size],r<i.size:=by simp[i,W];omega
 have aa:=D.len
 have ak:=R.len
 clear_value i
 refine dV (n:=x.args.length) (aa▸D.gW) (λa c=>J i c/\∀y∈fH k x 0 (x.args.take a),1000<=aE b.ak y->fY s.heap (aE b.ak y)) ⟨J.az _,by simp[fH]⟩ ?_
 rintro a m3 aj μ hk ⟨T,Q⟩ I
 have m:=G.trans T
 refine⟨λh=>?_,λh=>iU (by simp at h;rwa[bY V]at Q) m⟩
 simp only[ar]at h
 let⟨y,H⟩:=cG x.args a
 have f:=ag y (aq H)
 have C:=o.ext m
 have S:fH k x 0 (x.args.take (a+1))=fH k x 0 (x.args.take a)++fH k x a [y]:=by
  rw[aV H,qX];congr 2;simp;omega
 have E:(nI k x a=true->1000<=aE b.ak y->fY s.heap (aE b.ak y))->∀z∈fH k x 0 (x.args.take (a+1)),1000<=aE b.ak z->fY s.heap (aE b.ak z):=λhh z c=>by
  rw[S]at c;rcases List.mem_append.1 c with c|c
  .exact Q z c
  .simp only[fH]at c;split at c
   .rename_i e;simp at c;subst c;exact hh e
   .simp at c
 have ah:nI k x a=true->y∈fH k x 0 x.args:=λe=>by
  have X:x.args=x.args.take (a+1)++x.args.drop (a+1):=(dm _ _).symm;rw[X,qX,S];refine bI _ (eE _ ?_);simp only[fH];rw[an e];simp
 refine⟨V,V,y,by simpa using m.af (D.aE H),f.1,V,aE b.ak y,by simpa using m.af (R.pI f.1 f.2),d,C.bo,p,C.cB,?_⟩
 refine(sa C.fg hc u j a).aI T F λr m4 M h4 K=>⟨r,rfl,λae=>?_,λad=>I V _ ⟨K,E λe=>absurd ⟨ai,e⟩ (fb M ad)⟩⟩
 have e:=(M.1 ae).2
 refine(dX _ _).aI K F λb2 m5 N h5 A=>⟨b2,rfl,λac=>?_,λab=>I V _ ⟨A,E λ_ l=>absurd l (fb N ab)⟩⟩
 have U:=G.trans A
 refine⟨l,(o.ext U).rq,(jf (cX.ext U o.heap) (Z.pS f.1 f.2 af)).aI A F λb3 m6 P h6 L=>⟨b3,rfl,λB=>bW (λhM=>nb P B (hM y (ah e) (N.1 ac))) (G.trans L),λB=>I V _ ⟨L,E λ_ _=>yb P B⟩⟩⟩
end
section
structure zq(im:cO)(s:St)(fs:List aT)(f:aT)(x:Instr):Prop where
 ok:cY im s
 run:s.cz=3
 fr:s.ao=fs++[f]
 cur:cR im f=x
 uF:∀g∈s.ao,∀w∈g.ak,w<=9223372036854775807
section
variable{b:cO}{s:St}{c:List aT}{f:aT}{x:Instr}
def zq.F(a:zq b s c f x):gR b f:=a.ok.ao f (by rw[a.fr];simp)
def zq.MI(a:zq b s c f x):∀w∈f.ak,w<=9223372036854775807:=a.uF f (by rw[a.fr];simp)
def zq.I(a:zq b s c f x):∃p,b.cB[f.fq.toNat]? =some p/\dP b f.fq=p/\HG b p/\p.dq[f.pc.toNat]? =some x/\iV b p f.pc.toNat x:=by
 have:=a.F.Ab a.ok.fg;rwa[a.cur]at this
def zq.Gi(a:zq b s c f x):f.ak.length=f.aR.length/\f.aZ.length=f.aR.length/\1<=f.aR.length/\f.aR.length<=2000:=by
 obtain⟨p,_,e,i,_,_⟩:=a.I;have d:=a.F.lr;have g:=a.F.lo;have h:=a.F.lh;rw[e]at d g h;have:=i.ak;omega
def zq.arg(a:zq b s c f x):∀y∈x.args,0<=y/\y<f.ak.length:=λy h=>by
 obtain⟨p,_,e,_,_,g⟩:=a.I;have d:=a.F.lr;rw[e]at d;have:=g.args y h;omega
def zq.dst(a:zq b s c f x):0<=x.dst/\x.dst<f.aR.length:=by
 obtain⟨p,_,e,_,_,g⟩:=a.I;have d:=a.F.lo;rw[e]at d;have:=g.dst;omega
def zq.call(a:zq b s c f x):zt b x:=let⟨_,_,_,_,_,d⟩:=a.I;d.call
def zq.Zq(a:zq b s c f x):0<=x.op/\x.op<=24/\x.op≠7/\x.op≠8/\x.op≠12/\x.op≠13:=by
 obtain⟨p,_,_,e,_,d⟩:=a.I;exact((Jq e.ak.2.2 a.ok.fg.nZ.len.2 λq g=>(a.ok.fg.nZ.dA q g).1).1 d).1
def zq.lE(g:zq b s c f x):x.args.length<=4/\((x.op=5\/x.op=14\/x.op=15\/x.op=18\/x.op=23\/x.op=19\/x.op=20\/x.op=21)->x.args.length=1)/\((x.op=1\/x.op=2\/x.op=3\/x.op=4\/x.op=11)->x.args.length=2)/\
 ((x.op=16\/x.op=17)->1<=x.args.length)/\(x.op=6->0<=x.bU/\x.bU<=f.aZ.length/\0<=x.bP/\x.bP<12/\x.args.length<=3)/\(x.op=10->0<=x.bP/\x.bP<4/\x.args.length<=3)/\(x.op=0->-999<=x.bP/\x.bP<=999):=by
 obtain⟨z,_,r,y,_,u⟩:=g.I
 have a:=u.op
 have t:=g.F.lh
 rw[r]at t
 have d:=g.ok.fg.nZ
 have v:(eS b.bo).length<=12:=by
  have:=rp d.types b.bo.length;rw[ng _ _ (ad _)]at this;exact this
 have w:=Jm d.types x.bP
 unfold lV at a
 by_cases h:x.op=0
 .rw[an h]at a;omega
 rw[ae h]at a
 by_cases i:x.op=1\/x.op=2\/x.op=3\/x.op=4\/x.op=11
 .rw[an i]at a;omega
 rw[ae i]at a
 by_cases j:x.op=5\/x.op=14\/x.op=15\/x.op=18\/x.op=23
 .rw[an j]at a;omega
 rw[ae j]at a
 by_cases k:x.op=6
 .rw[an k]at a;omega
 rw[ae k]at a
 by_cases l:x.op=9\/x.op=24
 .rw[an l]at a
  let⟨q,n,e,o⟩:=a
  have:=(d.dA q (aq e)).1;omega
 rw[ae l]at a
 by_cases m:x.op=10
 .rw[an m]at a
  obtain⟨⟨q,n,e,o⟩,_⟩:=a
  have:=(d.dA q (aq e)).1
  have:=aw e
  have:=d.len;omega
 rw[ae m]at a
 by_cases n:x.op=16\/x.op=17
 .rw[an n]at a;omega
 rw[ae n]at a
 by_cases o:x.op=19
 .rw[an o]at a;omega
 rw[ae o]at a
 by_cases p:x.op=20
 .rw[an p]at a;omega
 rw[ae p]at a
 by_cases q:x.op=22
 .rw[an q]at a;omega
 rw[ae q]at a
 by_cases e:x.op=21
 .rw[an e]at a
  have:=a.1;omega
 rw[ae e]at a;exact a.elim
def zq.Lk(d:zq b s c f x):∀w∈f.aZ,w≠0->1000<=w/\∃e,s.heap[ix w]? =some e/\e.aQ<0:=λw h k=>by
 have g:1000<=w:=by have:=d.F.aZ w h;omega
 refine⟨g,?_⟩;have j:0<dH s.ao (ix w):=by
  rw[d.fr,eK,jg];have:=vR c (ix w);have:=uJ (l:=f.aZ) (f:=ix w) (by rw[iA g];exact h);omega
 exact dR λi=>by have:=d.ok.ny (ix w) i;omega
def zq.OS(d:zq b s c f x):∀o∈f.aR,0<=o/\o<=999999:=λo h=>by
 refine⟨(d.F.PX o h),?_⟩;rcases dS (0<o)with i|i
 .let⟨k,e⟩:=List.mem_iff_getElem?.1 h;have:=d.Gi;let⟨w,j⟩:=cG f.ak k (oh (aw e));have m:=Lv d.F.PX j e (d:=ix w) (by rw[iA ((d.F.aR k o w e j).2 i)]);have n:o<=fB s.ao (ix w):=by
   rw[d.fr,fX,kX];have:=Ku (b:=c) (λg l=>d.ok.ao g (by rw[d.fr];exact bI _ l)) (ix w);omega
  let⟨g,hd,l⟩:=d.ok.heap.lv (ix w) V;have p:=d.ok.heap.ex _ g hd l;have q:=rc s.heap (ix w);have r:=(d.ok.heap.cell g (aq hd)).hi;omega
 .omega
def zq.Kw(a:zq b s c f x):∀r∈bT b x,0<=r/\r<f.ak.length:=λr d=>a.arg r (Ck d)
end
def Mf{o:E}{mb:Nat}{ah aw aU d fr:O}{M:cO}{K:St}(Q:RV o mb 2 ah aw aU d fr M K){fs:List aT}{m:aT}{x:Instr}(C:zq M K fs m x){Z ac h S am ow:O}(R:ap o Z m.ak)(U:ap o h m.aZ)(L:ap o S x.args){aR:List Int}(X:ap o ow aR)(aA:aR.length=m.aR.length):
 dt cg 71 [vp mb 0,fv m Z ac h,xv x S am,O.v ow] o (lg M K m x aR):=by
 apply ur (mb,0)
 simp -zeta only[aC,aB]
 intro Y P
 have b:J o P:=((J.az o).aK _).aK _
 have i:∀g∈[Y.size,o.size],g<P.size:=by simp[P,Y];omega
 have ai:cF P Y.size dY [.i x.op,.i x.dst,.i x.bP,.i x.bU,.s S,.s am]:=cF.push Y _ _
 have ao:cF P o.size dQ [.i m.fq,.i m.pc,.i m.dst,.s Z,.s ac,.s h]:=(cF.push o _ _).ext (J.push Y _)
 have ax:=L.len
 have aF:=R.len
 have ay:=U.len
 have aD:=X.len
 have hd:=C.dst
 have az:=C.Gi
 have G:=C.lE
 have hI:=C.ok.heap
 clear_value P
 refine⟨λN=>J P N/\(∀ac∈aR,0<=ac)/\(me x.op->aE aR x.dst<=0),?_,?_⟩
 .refine(Bh (X.ext b)).aI (J.az _) i λg m3 c n _=>⟨g,rfl,λu=>bW (λl=>nb c u l.nn) (b.trans n),λz=>?_⟩
  refine(xN _ _).aI n i λb2 A y w a=>⟨b2,rfl,λu=>?_,λv=>⟨a,yb c z,λe=>absurd e (fb y v)⟩⟩
  refine⟨hd.1,V,aE aR x.dst,(X.ext (b.trans a)).pI hd.1 V,λk=>bW (λl=>?_) (b.trans a),λk=>⟨a,yb c z,λ_=>by simpa using k⟩⟩
  have:=l.dst (y.1 u);simp at k;omega
 .rintro m3 ⟨n,q,p⟩
  have f:=b.trans n
  have t:=Q.ext f
  have mk:∀{ad:Prop},(lg M K m x aR->ad)->(ad->lg M K m x aR)->(lg M K m x aR<->ad):=λI h2=>⟨I,h2⟩
  have B:1<=x.args.length->0<=aE x.args 0/\aE x.args 0<m.ak.length:=λI=>C.arg _ (fA V V)
  have D:∀{N},J o N->1<=x.args.length->af N S.D (S.off+Int.toNat (0:Int)*1)=some (vi (aE x.args 0)):=λhx I=>(L.ext hx).pI V V
  have F:∀{N},J o N->1<=x.args.length->af N Z.D (Z.off+Int.toNat (aE x.args 0)*1)=some (vi (aE m.ak (aE x.args 0))):=λhx I=>(R.ext hx).pI (B I).1 (B I).2
  refine⟨λe=>?_,λe1=>?_⟩
  .simp only[bQ,aG]at e
   refine(Eu (R.ext f) (L.ext f) C.arg).aI n i λg A c w a=>⟨g,rfl,eU (c.trans ?_) (b.trans a)⟩
   refine⟨λd=>?_,λh=>h.nT V⟩
   refine⟨q,p,?_,?_,?_,?_,?_,?_,?_,?_,?_,?_,?_⟩<;>intro r<;>first|(exfalso;omega)|exact d
  simp only[br,aj]at e1
  refine⟨λe=>?_,λe2=>?_⟩
  .simp only[aG]at e
   have j:=G.2.2.2.2.1 e
   refine(II t (U.ext f) (L.ext f) ⟨j.1,j.2.1⟩ V (λaa W T=>by obtain⟨I,s,H,_⟩:=C.Lk aa W T;exact⟨I,s,H⟩)).aI n i λg A c w a=>⟨g,rfl,eU (c.trans ?_) (b.trans a)⟩
   refine⟨λd=>?_,λh=>h.js e⟩
   refine⟨q,p,?_,?_,?_,?_,?_,?_,?_,?_,?_,?_,?_⟩<;>intro r<;>first|(exfalso;omega)|exact d
  simp only[aj]at e2
  refine⟨λe=>?_,λe3=>?_⟩
  .simp only[aG]at e
   refine(wG t (R.ext f) (L.ext f) C.F C.MI C.arg C.call (Or.inl e)).aI n i λg A c w a=>⟨g,rfl,eU (c.trans ?_) (b.trans a)⟩
   refine⟨λd=>?_,λh=>h.cU (Or.inl e)⟩
   refine⟨q,p,?_,?_,?_,?_,?_,?_,?_,?_,?_,?_,?_⟩<;>intro r<;>first|(exfalso;omega)|exact d
  simp only[aj]at e3
  refine⟨λe=>?_,λe4=>?_⟩
  .simp only[aG]at e
   refine(wG t (R.ext f) (L.ext f) C.F C.MI C.arg C.call (Or.inr e)).aI n i λg A c w a=>⟨g,rfl,λu=>?_,λz=>bW (λl=>fb c z (l.cU (Or.inr e))) (b.trans a)⟩
   refine(mD (X.ext (b.trans a))).aI a i λb2 m5 y k s=>⟨b2,rfl,λag=>?_,λv=>bW (λl=>fb y v (l.zero (Or.inl e)).1) (b.trans s)⟩
   refine(mD (U.ext (b.trans s))).aI s i λb3 m6 H T j=>⟨b3,rfl,eU (H.trans ?_) (b.trans j)⟩
   refine⟨λd=>?_,λh=>(h.zero (Or.inl e)).2⟩
   refine⟨q,p,?_,?_,?_,?_,?_,?_,?_,?_,?_,?_,?_⟩<;>intro r<;>first|(exfalso;omega)|exact c.1 u|exact⟨y.1 ag,d⟩
  simp only[aj]at e4
  refine⟨λe=>?_,λe5=>?_⟩
  .simp only[aG]at e
   have W:=G.2.1 V
   refine(mD (X.ext f)).aI n i λb2 m5 y k s=>⟨b2,rfl,λag=>?_,λv=>bW (λl=>fb y v (l.zero (Or.inr e)).1) (b.trans s)⟩
   refine(mD (U.ext (b.trans s))).aI s i λb3 m6 H T j=>⟨b3,rfl,λau=>?_,λaq=>bW (λl=>fb H aq (l.zero (Or.inr e)).2) (b.trans j)⟩
   have ab:=b.trans j
   have ak:=Q.ext ab
   have aa:=ak.ao.len
   have iP:∀d:1<K.ao.length\/aE m.ak (aE x.args 0)<1000,lg M K m x aR:=λd=>by
    refine⟨q,p,?_,?_,?_,?_,?_,?_,?_,?_,?_,?_,?_⟩<;>intro r<;>first|(exfalso;omega)|exact⟨y.1 ag,H.1 au⟩|exact d
   refine⟨fr,ak.OG,λh8=>iU (iP (Or.inl (by simp at h8;omega))) ab,λh8=>?_⟩
   refine⟨V,V,_,D ab V,(B V).1,oh ((B V).2),_,F ab V,(dX _ _).aI j i λb4 m7 al h9 ae=>⟨b4,rfl,eU ?_ (b.trans ae)⟩⟩
   simp at h8
   constructor
   .intro an
    exact iP (Or.inr (oh (nb al an)))
   .intro l
    rcases l.ret e with an|an
    .omega
    .have:¬b4=true:=λav=>by have:=al.1 av;omega
     simpa using this
  simp only[aj]at e5
  refine⟨λe=>?_,λe6=>?_⟩
  .simp only[aG]at e
   have W:=G.2.2.1 V
   have j:=B V
   refine⟨V,V,_,D f V,j.1,V,_,F f V,(IH t C.ok.fg hI (C.F.pS j.1 j.2 C.MI)).aI n i λg A c w a=>⟨g,rfl,eU (c.trans ?_) (b.trans a)⟩⟩
   refine⟨λd=>?_,λh=>h.apply e⟩
   refine⟨q,p,?_,?_,?_,?_,?_,?_,?_,?_,?_,?_,?_⟩<;>intro r<;>first|(exfalso;omega)|exact d
  simp only[aj]at e6
  refine⟨λe=>?_,λe7=>?_⟩
  .simp only[aG]at e
   have W:=G.2.1 V
   have j:=B V
   refine⟨V,V,_,D f V,j.1,V,_,F f V,d,t.rq,(jf t.heap (C.F.pS j.1 j.2 C.MI)).aI n i λg A c w a=>⟨g,rfl,λu=>?_,λz=>bW (λl=>fb c z (l.W7 e).1) (b.trans a)⟩⟩
   have v:=c.1 u
   refine(fR (Q.ext (b.trans a)) v.1 (bS v).1).aI a i ?_
   rintro _ m5 ⟨fl,rfl,aa,k⟩
   refine⟨k,_,_,_,rfl,eU ?_ (b.trans (a.trans k))⟩
   simp only[ar]
   refine⟨λd=>?_,λh=>(h.W7 e).2⟩
   refine⟨q,p,?_,?_,?_,?_,?_,?_,?_,?_,?_,?_,?_⟩<;>intro r<;>first|(exfalso;omega)|exact⟨v,d⟩
  simp only[aj]at e7
  refine⟨λe=>?_,λe8=>?_⟩
  .simp only[aG]at e
   have W:=G.2.1 V
   have j:=B V
   refine⟨V,V,_,D f V,j.1,V,_,F f V,(dX _ _).aI n i λg A c w a=>⟨g,rfl,eU (c.trans ?_) (b.trans a)⟩⟩
   refine⟨λd=>?_,λh=>h.drop e⟩
   refine⟨q,p,?_,?_,?_,?_,?_,?_,?_,?_,?_,?_,?_⟩<;>intro r<;>first|(exfalso;omega)|exact d
  simp only[aj]at e8
  refine⟨λe=>?_,λe9=>?_⟩
  .simp only[bQ,aG]at e
   refine(J9 t hI (R.ext f) (U.ext f) (L.ext f) C.F C.MI C.arg ⟨G.2.2.2.1 e,G.1⟩ e).aI n i λg A c w a=>⟨g,rfl,eU (c.trans ?_) (b.trans a)⟩
   refine⟨λd=>?_,λh=>h.NL e⟩
   refine⟨q,p,?_,?_,?_,?_,?_,?_,?_,?_,?_,?_,?_⟩<;>intro r<;>first|(exfalso;omega)|exact d
  simp only[br,aj]at e9
  refine⟨λe=>?_,λab=>?_⟩
  .simp only[aG]at e
   have W:=G.2.1 V
   have j:=B V
   refine⟨d,t.rq,V,V,_,D f V,j.1,V,_,F f V,(jf t.heap (C.F.pS j.1 j.2 C.MI)).aI n i λg A c w a=>⟨g,rfl,λu=>?_,λz=>bW (λl=>fb c z (l.load e).1) (b.trans a)⟩⟩
   have v:=c.1 u
   have H:=b.trans a
   refine⟨V,V,_,D H V,j.1,V,_,F H V,(fR (Q.ext H) v.1 (bS v).1).aI a i ?_⟩
   rintro _ m5 ⟨fl,rfl,aa,k⟩
   have ag:=aa.len
   refine⟨k,_,_,_,rfl,k.db ((ai.ext a).bZ 2),eU ?_ (b.trans (a.trans k))⟩
   simp only[ar]
   refine⟨λd=>?_,λh=>oh ((h.load e).2)⟩
   refine⟨q,p,?_,?_,?_,?_,?_,?_,?_,?_,?_,?_,?_⟩<;>intro r<;>first|(exfalso;omega)|exact⟨v,V⟩
  simp only[aj]at ab
  refine⟨λe=>?_,λag=>?_⟩
  .simp only[aG]at e
   have W:=G.2.1 V
   have j:=B V
   refine⟨d,t.rq,V,V,_,D f V,j.1,V,_,F f V,(jf t.heap (C.F.pS j.1 j.2 C.MI)).aI n i λg A c w a=>⟨g,rfl,λu=>?_,λz=>bW (λl=>fb c z (l.Fm e).1) (b.trans a)⟩⟩
   have v:=c.1 u
   have H:=b.trans a
   have l:=Q.ext H
   refine⟨ah,l.bo,V,V,_,D H V,j.1,V,_,F H V,(AF l.fg.bo C.ok.fg.nZ.types _).aI a i ?_⟩
   rintro _ m5 ⟨cs,rfl,ak,k⟩
   have s:=a.trans k
   refine⟨k,cs,rfl,k.db (F H V),k.db (D H V),k.db ((ai.ext a).bZ 4),k.db ((ao.ext a).bZ 3),(fR (Q.ext (b.trans s)) v.1 (bS v).1).aI s i ?_⟩
   rintro _ m6 ⟨fl,rfl,aa,T⟩
   refine⟨T,_,_,_,rfl,(dw (ak.ext T) _).aI (s.trans T) i λb2 m7 y h8 ae=>⟨b2,rfl,eU (y.trans ?_) (b.trans ae)⟩⟩
   refine⟨λd=>?_,λh=>(h.Fm e).2⟩
   refine⟨q,p,?_,?_,?_,?_,?_,?_,?_,?_,?_,?_,?_⟩<;>intro r<;>first|(exfalso;omega)|exact⟨v,d⟩
  .simp only[aj]at ag
   refine iU ?_ f
   refine⟨q,p,?_,?_,?_,?_,?_,?_,?_,?_,?_,?_,?_⟩<;>intro r<;>exfalso<;>omega
end
end Go.Proofs.YtkoifinbblcbiaaGreat
