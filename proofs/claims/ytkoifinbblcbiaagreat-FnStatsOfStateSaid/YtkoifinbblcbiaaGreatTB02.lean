/- Part of a proof. -/
import Derived.Test.YtkoifinbblcbiaaGreatTB01
set_option linter.all false
set_option maxHeartbeats 8000000
set_option maxRecDepth 100000
namespace Go.Proofs.YtkoifinbblcbiaaGreat
open Go.Vc
section
variable{c m:E}{k i g a:Nat}{s:O}{d:List Nat}{e:List Int}{x:cV}{f:List gP}
def Wd{a b:E}(h:J a c)(f:Fz [k] c b)(g:a.size<=k):J a b:=Fz.ext (((h.fz [k]).trans f).DH λe d=>Or.inr (by simp at d;omega))
def _root_.Go.Vc.Fz.OF{M b:E}(f:Fz [k] c M)(h:s.D=k\/c.size<=s.D)(g:M.size<=b.size)(q:∀a,a<M.size->a≠s.D->b[a]? =M[a]?):Fz [k] c b:=
 f.sF ⟨g,λa d e=>q a d (by simpa using e)⟩ (Y:=[s.D]) (λy d=>by simp at d⊢;omega)
def GI.Z9{X:List Nat}{b:E}{x:O}{f:List Int}{K:O->E->Prop}(h:GI d b m s e)(k:Fz X b m)(n:ar m x f)(p:e.length+f.length<=10^12)
 (l:∀r a,GI d b a r (e++f)->Fz X b a->(m.size<=a.size/\(r.D=s.D\/m.size<=r.D))->(∀c,c<m.size->c≠s.D->a[c]? =m[c]?)->K r a):jM m aD [.i 0] 8 s x K:=by
 let⟨o,g,i,j⟩:=n.Wq (b:=1) λ_ _ h=>by rw[h];rfl
 exact Gr.next (g:=[.i 0]) um.mono be h k g i j V l
def bR(d:List Nat){b:O}(h:ar m b e)(c:e.length<=10^12):ln 66 [O.v b] m d (e=·):=by
 apply nJ;intro i;have a:J m i:=J.push m _;exact GI.Z9 (e:=[]) (X:=[]) (GI.nil d m) (a.fz []) (h.ext a) (by simpa using c) λr j g f _ _=>⟨r,e,rfl,by simpa using g,rfl,f.ext⟩
abbrev GB(d:List Nat)(a m:E)(s:O)(e:List Bk):Prop:=Gr d a m di 2 rW s e
def GB.new(d:List Nat)(m:E):GB d m (m.push (.cells (bA []) di)) (.mk m.size 0 0 0) []:=Gr.new d (ad _) _ _ _
def GB.kL{d X:List Nat}{g m:E}{s a:O}{e:List Bk}{c:Bk}{K:O->E->Prop}(h:GB d g m s e)(k:Fz X g m)(j:eN (bP (s.D::d) m) a c.ap)(l:e.length<=10^12)
 (i:∀r b,GB d g b r (e++[c])->Fz X g b->m.size<=b.size/\(r.D=s.D\/m.size<=r.D)->(∀f,f<m.size->f≠s.D->b[f]? =m[f]?)->K r b):
 jM (m.push (.cells (bA [.s a,.i c.aT]) di)) di [.s .nil,.i 0] 32 s (.mk m.size 0 1 1) K:=
 Gr.kL (g:=[.s .nil,.i 0]) rW.mono be h k (by cases c;exact rW.of j) V i
def KK{a:List bz}{b bQ:Int}{y:Int}(h:b=8)(c:(cx a bQ)[i]? =some y):BR a b bQ i=(cF a y).length:=by unfold BR;rw[aj h,c];rfl
def KL{b:List bz}{a bQ:Int}(h:a≠8):BR b a bQ i=0:=by unfold BR;rw[ae h]
def _root_.Go.Vc.WS.P6{b:List bz}{f d:Prop}(h:WS b g f a x)(j:f->d){bM:Int}(l:0<=bM/\bM<=(a:Int)){bE:List Bk}(i:bE.length=x.bE.length)(m:∀(k:Nat)(c:Bk),bE[k]? =some c->WB b g d (a+BR b x.op x.bQ k) c):WS b g d a ⟨x.op,x.bQ,bM,x.args,bE⟩:=
 ⟨⟨h.fe.op.imp id λh=>⟨j h.1,h.2⟩,h.fe.args,h.fe.kX,l,λe=>i.trans (h.fe.Km e),λe=>i▸h.fe.all e,h.fe.call⟩,m⟩
def Iq(hS:∀g∈d,g<m.size){Y U ae a k ac ab:O}{r:List bz}{G lo la:List Int}(D:eK m Y U r f)(hv:ar m ae G)(ha:ar m a x.args)(R:nP m k x.bE)(ho:ar m ac lo)(aA:ar m ab la)
 (aD:∀o∈lo,0<=o/\o<(G.length:Int))(Yh:lo.length+5*x.w<=500)(Yg:la.length+1000*x.w<=1000000)(vN:G.length+5*x.w<=1000000)(aa:WS r f.length False G.length x)(ih:∀c∈x.bE,Xk r f c):
 KC 293 [.agg #[O.v Y,O.v U],O.v ae,pA x a k,O.v ac,O.v ab] m d λy=>WS r f.length True G.length y/\y.op=x.op/\y.w<=1+x.args.length+1100*bw x.bE:=by
 apply AN
 simp -zeta only[aC,aB]
 intro m0 o p aj
 let⟨q,u,s0,s1,s2⟩:=qB (a:=m0) (b:=o) (c:=p) rfl rfl rfl
 have ao:J p aj:=J.push _ _
 have gk:=GB.new (o.size::d) p
 clear_value p
 have aK:=ha.len;have ay:=R.len;have hw:=cV.mz x;have aQ:=KN x.bE
 refine(ic (e:=[p.size]) (by simp[aj]) (D.le (q.trans ao).le).bn D.types x.bQ).aK ao u λg cl m4 t F x4 u4=>⟨_,rfl,?_⟩
 subst F
 have aR:=t.len
 refine dV (n:=x.bE.length) (ay▸R.iC) (λj s M=>Fz [p.size] m4 M/\(s.D=p.size\/m4.size<=s.D)/\∃e,GB (o.size::d) p M s e/\e.length=j/\(∀(i:Nat)(c:Bk),e[i]? =some c->WB r f.length True (G.length+BR r x.op x.bQ i) c)/\bw e<=1100*bw (x.bE.take j)) ⟨Fz.aA _ _,Or.inl rfl,[],gk.ext rW.mono x4,rfl,aL,aL⟩ ?_
 rintro j s T aq μ hj ⟨N,aG,e,Q,aT,ag,aw⟩ aI
 have h:=Wd u4 N (ad _)
 have hy:=Q.bh
 refine dit (λz=>?_) λz=>?_
 .intro m6
  have l:J T m6:=J.push _ _
  let⟨c,C⟩:=cK x.bE j
  have aN:=xr C
  have aP:=uL C
  have av:∀{M:E},J T M->∀g∈s.D::o.size::d,g<M.size:=λz=>bT (bT hS q.size (u _ aL)) (h.trans z).size (oh z.size)
  have iy:∀(M:E)(H:O)(P:List Int)(w:O),J T M->ar M H P->P.length=BR r x.op x.bQ j->eN M w c.ap->
   aM cq 322 [.agg #[O.v Y,O.v U],O.v ae,O.v H,.agg #[O.v w,vi c.aT],O.v ac,O.v ab] M λrv K=>dY [o.size,m0.size,m.size] M K/\∃am:O,∃an:Int,rv=.agg #[O.v am,vi an]/\
    let M1:E:=K.push (.cells (bA [.s am,.i an]) di)
    jM M1 di [.s O.nil,.i (0:Int)] 32 s (O.mk K.size 0 1 1) λal L=>dY [o.size,m0.size,m.size] M1 L/\aq al (cR ((j:Int)+(1:Int))) L/\μ al (cR ((j:Int)+(1:Int))) L<μ s j T:=by
   intro M H P w B hf af I
   have X:=q.trans (h.trans B)
   have b3:=QU D.types x.op x.bQ j
   refine(JS (c:=s.D::o.size::d) (av B) (D.le X.le) (hv.ext X) hf I (ho.ext X) (aA.ext X) ⟨aD,V,V,V,V,af▸aa.bE j c C⟩ (ih c (au C))).aK (h.trans B) u λss b' K aH F y u'=>⟨_,_,rfl,?_⟩
   refine GB.kL (c:=b') (Q.ext rW.mono (B.trans y)) (u'.fz []) aH (oh (qC x.bE)) λU L g2 f2 z2 q2=>⟨J.oQ (u'.aH _) f2.ext u,aI V _ _ ⟨(N.then (B.trans y)).OF aG z2.1 q2,?_,_,g2,bJ,λi b2 v=>?_,?_⟩⟩
   .have A:=(N.then (B.trans y)).size
    rcases z2.2 with Z|Z<;>omega
   .rcases aZ i e.length with A|A
    .rw[ax A]at v;exact ag i b2 v
    .rw[aF A]at v
     have:i -e.length=0:=by have:=az v;simp at this;omega
     rw[this]at v;simp at v;subst v
     have:i=j:=V
     subst this
     rw[<-af];exact F.1
   .rw[oZ,uK,zP]
    have:=F.2;omega
  refine⟨λA=>?_,λA=>?_⟩
  .simp only[aE]at A
   have aS:=(aa.fe.all A).1
   let⟨ap,ah⟩:=cK (cx r x.bQ) j
   refine⟨V,V,ap,(eF.1 ((t.le ((N.then l).dg aL)).aG ah)).2,?_⟩
   have W:=h.trans l
   refine(dN (e:=[]) aL ((D.le (q.trans W).le).bn.le (Al _)) D.types ap).aK W u λH P m7 hf F x7 u7=>⟨_,rfl,?_⟩
   subst F
   let⟨w,I,e0,e1⟩:=(R.le (q.trans u7).le).aG C
   exact⟨V,V,_,e0,_,e1,iy m7 H _ w (l.trans x7) (hf.le (bG _ _)) (KK A ah).symm I⟩
  .simp only[ak]at A
   let⟨w,I,e0,e1⟩:=(R.le (q.trans (h.trans l)).le).aG C
   exact⟨V,V,_,e0,_,e1,iy m6 _ [] w l (mK _ _ _ _ _ _) (KL A).symm I⟩
 .have A:e.length=x.bE.length:=V
  rw[cJ V]at aw
  refine(bR (o.size::d) (ha.ext (q.trans h)) V).aK h u λB H m6 w Z l W=>⟨_,rfl,aJ (l.same _ (h.lt (u _ aL))) _,aJ (l.same _ (h.lt (u _ aL))) _,?_⟩
  subst Z
  intro m7
  have C:=(Q.ext rW.mono l).bh
  have v:∀g∈o.size::d,g<p.size:=bT hS q.size V
  refine⟨B,s,⟨x.op,x.bQ,0,x.args,e⟩,rfl,(w.done (λg t=>aO (v g t) h.size) V).le (cB aL λg t=>ai _ t),nP.le (cB aL λg t=>ai _ t) ((Q.ext rW.mono l).done rW.mono v be (by have:=qC x.bE;show e.length<=_;omega)),⟨aa.P6 (λz=>z.elim) ⟨V,V⟩ A ag,rfl,?_⟩,(q.trans W).ag V _ _⟩
  rw[cV.mz]
  simp only
  omega
def _root_.Go.Vc.R9{σ τ ρ:Type}{n:Nat}(u:n<=9223372036854775807){j:σ}{l:τ}{h:ρ}{g:(σ->τ->ρ->Int->E->Prop)->(σ->τ->ρ->Int->E->Nat)->σ->τ->ρ->Int->E->Prop}(Q:Nat->σ->τ->ρ->E->Prop)(p:Q 0 j l h m)
 (o:∀(k:Nat)(s:σ)(t:τ)(r:ρ)(a:E)(I:σ->τ->ρ->Int->E->Prop)(μ:σ->τ->ρ->Int->E->Nat),k<=n->Q k s t r a->
  (k<n->∀d e c b,Q (k+1) d e c b->I d e c (cR ((k:Int)+1)) b/\μ d e c (cR ((k:Int)+1)) b<μ s t r k a)->g I μ s t r k a):
 ∃(I:σ->τ->ρ->Int->E->Prop)(μ:σ->τ->ρ->Int->E->Nat),I j l h 0 m/\∀s t r i a,I s t r i a->g I μ s t r i a:=by
 refine⟨λs t r i b=>∃k:Nat,i=k/\k<=n/\Q k s t r b,λ_ _ _ i _=>(n -i).toNat,⟨0,rfl,eO _,p⟩,?_⟩
 rintro s t r i a ⟨k,rfl,q,v⟩
 refine o k s t r a _ _ q v λf d e c b w=>?_
 rw[kW f u]
 exact⟨⟨k+1,rfl,f,w⟩,Gj f⟩
structure CB(ds:List bz)(g:Nat)(d:List Nat)(m2 M:E)(v lo:List Int)(ap:List cV)(k:Nat)(st inn mn:O):Prop where
 x:J m2 M
 hs:∃e,GS (inn.D::mn.D::d) m2 M st e/\WL ds g True v.length e/\dc e=dc (ap.take k)/\sw e<=1100*sw (ap.take k)
 hi:∃e,GI d m2 M inn e/\e.length=v.length+dc (ap.take k)
 hm:∃e,GI d m2 M mn e/\e.length<=lo.length+k/\∀o∈e,0<=o/\o<((v.length+dc (ap.take k):Nat):Int)
 ne:inn.D≠mn.D
def dn1{b:List bz}(h:WS b g False a x):dn x=1:=aj (h.fe.op.resolve_right λh=>h.1)
def Gy{U:List bz}:∀c:Bk,Xk U f c:=by
 refine Bk.ind ?_;intro ap v ih d m hS b8 c0 dQ c2 dM c6 aj lo la hn hv hs A bL hp;have bg:=hp.wb.aW;simp only[Bk.jW,Bk.jv]at*;have Yh:=hp.Yh;have Yg:=hp.Yg;have vN:=hp.vN;rw[(Bk.qQ ap v)]at Yh Yg vN;apply zd;simp -zeta only[aC,aB];intro m0 o q aI;let⟨F,N,s0,s1,s2⟩:=qB (a:=m0) (b:=o) (c:=q) rfl rfl rfl;have bo:J q aI:=J.push _ _;have bH:∀am,GS am q aI (.mk q.size 0 0 0) []:=λam=>GS.new am q;have s3:aI.size=q.size+1:=by simp[aI]
 clear_value aI;clear_value q;have bO:=hs.len;have cL:=BH ap;have ds:=fY ap;refine(bR d (hv.ext (F.trans bo)) V).aK bo N λl _ m4 G p x4 u4=>⟨_,rfl,?_⟩;subst p;refine(bR d (A.ext (F.trans u4)) V).aK u4 N λu _ m5 W p x5 u5=>⟨_,rfl,?_⟩;subst p;have bQ:=G.bh;have bS:=W.bh;refine R9 (n:=ap.length) (bO▸hs.iC) (λk z l u g=>CB U f.length (o.size::d) q g aj lo ap k z l u) ⟨u5,⟨[],((bH _).ext gQ.mono x4).ext gQ.mono x5,WL.nil _ _ _ _,rfl,aL⟩,⟨aj,((G.ext x5).cv (λ_ h=>h) bo.size).any,aL⟩,⟨lo,(W.cv (λ_ h=>h) u4.size).any,V,by simpa using hp.aR⟩,V⟩ ?_;clear G W bQ bS bH;rintro k z l u B bq μ hk ⟨x6,⟨R,gs,aX,Z,dt⟩,⟨li,G,aU⟩,⟨lm,W,db,bM⟩,dm⟩ a3
 have v6:=F.trans x6;have dg:=G.len be;have de:=tw (ap.take k);have dj:=qS k ap;have L:∀j∈o.size::d,j<q.size:=bT hS F.size (N _ aL);have cv:ar B l li:=(G.done L V).le (bG _ _);have cx:ar B u lm:=(W.done L V).le (bG _ _);have dH:=gs.bh;have bQ:=G.bh;have bS:=W.bh;have cJ:=fY (ap.take k);have dh:k<=sw (ap.take k):=by rw[gG]at cJ;omega
 refine dit (λh=>?_) λh=>?_
 .let⟨x,r⟩:=cK ap k;let⟨a,kk,ha,bK,g0,g1,g2,g3,g4⟩:=hs.aG r;refine⟨V,V,_,v6.af g0,_,v6.af g1,_,v6.af g2,_,v6.af g3,_,v6.af g4,?_⟩;intro m7 C;have x8:J B C:=(J.push B _).ag (ad _) _ _;have s8:C.size=B.size+1:=by simp[C,m7,aw]
  clear_value C;have T:=x6.trans x8;have z6:=x6.size;have t:∀{g:E},C.size<=g.size->∀c∈[B.size,o.size,m0.size,m.size],c<g.size:=λh c hb=>by
   rcases List.mem_cons.1 hb with p|p
   .omega
   .have:=T.lt (N c p);omega
  have dA:=qd r;have dy:=qV r;have dz:=cV.mz x;have af:WS U f.length False li.length x:=by rw[aU];exact bg.1 k x r
  have bI:=dn1 af;have dv:=cL (k+1);have dd:=qC x.bE;have dk:=fY R;have ae:∀{g:E},J q g->At g b8 c0 a kk U f x:=λh=>⟨hn.le (F.trans h).le,ha.ext (F.trans h),af.fe.call⟩;have aW:∀{g:E},GI (o.size::d) q g l li->ar g l li:=λw=>(w.done L V).le (bG _ _);have bd:∀{g:E},GI (o.size::d) q g u lm->ar g u lm:=λw=>(w.done L V).le (bG _ _);have an:∀{g:E}{am:List Nat},C.size<=g.size->(∀j∈am,j<g.size)->∀j∈am++o.size::d,j<g.size:=λh hb j b=>by
   rcases List.mem_append.1 b with h|h
   .exact hb j h
   .have:=L j h;omega
  refine(oE (ae T).Rj (aW (G.ext x8)) (ae T).args (bK.le (F.trans T).le) V λc _=>nA c).aK (J.aA C) (t (ad _)) λty m9 x9 _=>⟨_,rfl,?_⟩;intro aZ;have b2:J C aZ:=x9.aH _;have e0:ar (bP [] aZ) (.mk m9.size 0 0 0) []:=mK _ _ _ _ _ _;clear_value aZ;rw[kW (k:=k) (n:=ap.length) V (bO▸hs.iC)]at a3⊢
  refine(AA (.mk ap v) [] aZ aL c2 _ _ _ (k+1) (hs.le (F.trans (T.trans b2)).le) e0 (by simp only[Bk.jW];omega) (by simp only[Bk.qQ,eU];omega)).aK b2 (t (ad _)) λus ul cP hu cM dR bn=>⟨_,rfl,?_⟩;rw[Bk.qQ,eU]at cM;refine(O8 (S:=[]) aL hu ((bL.ext (F.trans (T.trans bn))).le (Al _)) V).aK bn (t (ad _)) λlt ll cQ ba bY c3 av=>⟨_,rfl,?_⟩;have aH:∀{g:E},GI [] cP g lt ll->ar g lt ll:=λw=>(w.done aL (oh bY.2)).le (bG _ _);have br:=T.trans av;have bw:=G.ext (x8.trans av);have bE:=W.ext (x8.trans av);have cp:=gs.ext gQ.mono (x8.trans av);refine(GD (b:=[]) aL (ae br) (aW bw) af.fe.args (bd bE) (aH ba) V).aK (J.aA cQ) (t av.size) λdu dl cR cj bZ ax _=>⟨_,rfl,?_⟩;have c7:=bZ.2;have dT:=av.size;have dU:=ax.size;have dS:=bn.size;have ea:=c3.size;refine(eV (c:=[z.D,l.D,u.D]++o.size::d) (an V bJ) 14 ((cj.done aL V).le (bG _ _)) V).aK (J.aA cR) (t V) λdO _ a0 ce p ay _=>⟨_,rfl,?_⟩;subst p;have dW:=ay.size;refine GS.all (cp.ext gQ.mono (ax.trans ay)) (((br.trans ax).trans ay).fz []) (ce.done gQ.mono (an (am:=[z.D,l.D,u.D]) V bJ) be bJ) bJ λbm bU bu b9 b3 a5=>⟨λj b=>a5 j (t V j b) ?_,?_⟩
  .simp at b;omega
  have aT:J q bU:=b9.ext;have cw:l.D<a0.size:=V;have cy:u.D<a0.size:=V;have cz:z.D≠l.D:=gs.Lu G be;have cA:z.D≠u.D:=gs.Lu W be;have di:=ba.bh;have bx:=(bw.ext (ax.trans ay)).jx (a5 _ cw cz.symm);have bF:=(bE.ext (ax.trans ay)).jx (a5 _ cy cA.symm);have bD:=(ba.ext (ax.trans ay)).jx (a5 _ V V);have dp:bm.D=z.D\/a0.size<=bm.D:=b3.2;have dC:=bu.bh;have dZ:=b3.1;refine(Iq (d:=[bm.D,l.D,u.D]++o.size::d) (an V bJ) (ae aT).Rj (aW bx) (ae aT).args (bK.le (F.trans aT).le) (bd bF) (aH bD) (by rw[aU];exact bM) V (oh bY.2) V af (ih x (au r))).aK (J.aA bU) (t V) λc_ da x' bV cr cs cZ az _=>⟨_,_,_,_,_,rfl,?_⟩;let⟨cN,cI,dx⟩:=cZ;have d0:=az.size;refine GS.kL (x:=x') (bu.ext gQ.mono az) ((aT.trans az).fz []) cr cs bJ λaK bh bv b_ b4 a6=>⟨λj b=>?_,?_⟩
  .have:=t (g:=bV) V j b;rw[a6 j this (by simp at b;omega),(J.push bV _).same j this]
  have a8:J q bh:=b_.ext;have bB:=(bx.ext az).jx (a6 _ V V);have co:=(bF.ext az).jx (a6 _ V V);have a_:=(bD.ext az).jx (a6 _ V V);have dq:aK.D=z.D\/a0.size<=aK.D:=by have:=b4.2;omega
  have d3:=b4.1;refine(Iu (b:=[]) aL (ae a8) (aW bB) af.fe.args (bd co) (aH a_) V).aK (J.aA bh) (t V) λaq lf cS gf bk aA _=>⟨_,rfl,?_⟩;have bs:=a8.trans aA;have d4:=aA.size;have cu:∀{g:E},GI [] bh g aq lf->ar g aq lf:=λw=>(w.done aL (oh bk.2)).le (bG _ _);refine(Iv (b:=[]) aL (ae bs) (cu gf) (aH (a_.ext aA)) V).aK (J.aA cS) (t V) λc1 Q cT gd b0 aD _=>⟨_,rfl,?_⟩;have d5:=aD.size;have c9:=b0.2;have c8:=bk.2;have dG:=gf.bh;have dF:=gd.bh;have dE:=bv.bh;refine(eV (c:=[aK.D,aq.D,l.D]++o.size::d) (an V bJ) 15 ((gd.done aL V).le (bG _ _)) V).aK (J.aA cT) (t V) λdP _ cU cg p ak _=>⟨_,rfl,?_⟩;subst p;have b6:=(bs.trans aD).trans ak;have d6:=ak.size;have cf:GS ([aq.D,l.D]++o.size::d) q cU aK _:=bv.re gQ.mono (Y:=[]) (((aA.trans aD).trans ak).fz []) aL aL λj b=>by
   simp only[cH,dX,aS]at b⊢;rcases b with h|h|h
   .exact Or.inr V
   .exact Or.inl (Or.inl h)
   .exact Or.inl (Or.inr (Or.inr h))
  refine GS.all cf (b6.fz []) (cg.done gQ.mono (an (am:=[aK.D,aq.D,l.D]) V bJ) be bJ) bJ λH a1 ch ca c4 aJ=>⟨λj b=>aJ j (t V j b) ?_,?_⟩
  .simp at b;omega
  have b7:J q a1:=ca.ext;have d7:=c4.1;have cm:=((bB.ext aA).ext (aD.trans ak)).jx (aJ _ V V);have cl:=(gf.ext (aD.trans ak)).jx (aJ _ V V);have ci:=(gd.ext ak).jx (aJ _ V V);have cn:=((a_.ext aA).ext (aD.trans ak)).jx (aJ _ V V);have bc:ar a1 c1 Q:=(ci.done aL V).le (bG _ _);have ct:=bc.len;have ck:GI (o.size::d) q a1 aq lf:=(cl.cv (λ_ h=>h) a8.size).any;refine dV (n:=Q.length) (ct▸bc.iC) (λ_ s g=>J a1 g/\∃e,GI (o.size::d) q g s e/\GS ([s.D,l.D]++o.size::d) q g H (R++dl.map (eZ 14)++[x']++Q.map (eZ 15))/\pF lf e/\l.D≠s.D/\C.size<=s.D) ⟨J.aA _,lf,ck,ch,⟨λ_ h=>h,ad _⟩,V,V⟩ ?_;rintro i s bi I2 μ2 hi ⟨aE,e,gl,bb,P,cC,dr⟩ cX;have bt:=b7.trans aE;have d8:=aE.size;have cO:=gl.bh;refine dit (λh2=>?_) λh2=>?_
  .let⟨I,K⟩:=cK Q i;refine⟨V,V,I,(bc.ext aE).aG K,?_⟩;refine(BD (S:=[]) aL (((gl.done L (oh P.2)).le (bG _ _)).le (Al _)) I (oh P.2)).aK (J.aA bi) (t V) λac X ab g2 y D _=>⟨_,rfl,cX V _ _ ⟨aE.trans D,X,(g2.cv (λ_ h=>h) bt.size).any,?_,⟨λaF hz=>P.1 aF (y.1 aF hz),bX y.2 P.2⟩,?_,?_⟩⟩
   .have aa:=g2.bh;refine bb.re gQ.mono (Y:=[]) (D.fz []) aL aL λj b=>?_;simp only[cH,dX,aS]at b⊢;rcases b with h|h|h
    .exact Or.inr V
    .exact Or.inl (Or.inr (Or.inl h))
    .exact Or.inl (Or.inr (Or.inr h))
   .have:=g2.bh;omega
   .have:=g2.bh;omega
  intro dJ;have bC:=cm.ext aE;refine GI.kL bC (bt.fz []) L V λaa ao ab cb b5 a7=>⟨λj b=>?_,?_⟩
  .have:=t (g:=bi) V j b;rw[a7 j this (by simp at b;omega),(J.push bi _).same j this]
  have a9:J q ao:=cb.ext;have c5:=b5.1;have cF:H.D≠l.D:=bb.Lu bC be;have aG:=gl.jx (a7 _ cO.2 cC.symm);have bN:=b5.2;have ac:GS ([s.D,aa.D]++o.size::d) q ao H _:=bb.re gQ.mono (Y:=[l.D]) ⟨c5,λj b hn=>a7 j b (by simpa using hn)⟩ aL (by simpa using cF) λj b=>by
   simp only[cH,dX,aS]at b⊢;rcases b with h|h|h
   .exact Or.inl (Or.inl h)
   .rcases bN with p|p
    .exact Or.inl (Or.inr (Or.inl (h.trans p)))
    .exact Or.inr V
   .exact Or.inl (Or.inr (Or.inr h))
  have bj:aa.D≠s.D:=by rcases bN with p|p<;>omega
  have I:WL U f.length True aj.length (R++dl.map (eZ 14)++[x']++Q.map (eZ 15))/\dc (R++dl.map (eZ 14)++[x']++Q.map (eZ 15))=dc (ap.take (k+1))/\sw (R++dl.map (eZ 14)++[x']++Q.map (eZ 15))+2<=1100*sw (ap.take (k+1)):=by
   have df:dn x'=1:=by unfold dn at bI⊢;rw[cI];exact bI
   have d1:dc (dl.map (eZ 14))=0:=jX V _;have d2:dc (Q.map (eZ 15))=0:=jX V _;refine⟨((aX.append (sg V λy A=>?_)).yY ?_).append (sg V λy A=>?_),?_,?_⟩
   .rw[Z,<-aU];exact af.fe.args y (bZ.1 y A)
   .rw[cW,d1,Z,jF,<-aU];exact cN
   .have:=af.fe.args y (b0.1 y A);rw[cW,cW,d1,Z,kN,tx];omega
   .rw[cW,cW,cW,d1,d2,Z,kN,tx];omega
   .rw[dD,dD,dD,oJ,oJ,mO,vJ];omega
  have bf:∀y∈e,0<=y/\y<((aj.length+dc (ap.take (k+1)):Nat):Int):=λy A=>by
   have:=bM y (bk.1 y (P.1 y A));omega
  have bW:∀(g:E),J ao g->bq H aa s ((k+1:Nat):Int) g/\μ H aa s ((k+1:Nat):Int) g<μ z l u k B:=λg r=>
   a3 V _ _ _ _ ⟨a9.trans r,⟨_,(ac.re gQ.mono (Y:=[]) (r.fz []) aL aL λj b=>Or.inl (by simp only[cH,dX,aS]at b⊢;rcases b with h|h|h;exact Or.inr (Or.inl h);exact Or.inl h;exact Or.inr (Or.inr h))),I.1,I.2.1,V⟩,⟨_,ab.ext r,bJ⟩,⟨e,aG.ext r,oh P.2,bf⟩,bj⟩
  have dI:=ac.bh;have cY:∀(g:E),J ao g->aM cq 227 [vi (15:Int),vi (l.len:Int)] g λrv D=>dY [B.size,o.size,m0.size,m.size] g D/\∃aN:Int,∃aO:Int,∃aP:Int,∃aQ:O,∃aR:O,rv=.agg #[vi aN,vi aO,vi aP,O.v aQ,O.v aR]/\
   let M2:E:=D.push (.cells (bA [.i aN,.i aO,.i aP,.s aQ,.s aR]) gA)
   jM M2 gA [.i (0:Int),.i (0:Int),.i (0:Int),.s O.nil,.s O.nil] 72 H (O.mk D.size 0 1 1) λb1 K=>dY [B.size,o.size,m0.size,m.size] M2 K/\bq b1 aa s ((k+1:Nat):Int) K/\μ b1 aa s ((k+1:Nat):Int) K<μ z l u k B:=by
   intro g r
   have zx:=r.size
   have dB:=ab.bh
   refine(jg (c:=[H.D,s.D,aa.D]++o.size::d) (an V bJ) 15 (l.len:Int)).mono λrv D⟨pa,pk,p,X,h2,ah⟩=>?_
   subst p
   have d_:=ah.size
   have aY:=r.trans ah
   refine⟨ah.dv (t V),_,_,_,_,_,rfl,?_⟩
   have cD:H.D≠aa.D:=ac.Lu ab be
   have cE:H.D≠s.D:=ac.Lu aG be
   refine GS.kL (x:=eZ 15 (l.len:Int)) (ac.ext gQ.mono aY) ((a9.trans aY).fz []) X h2 (Qb I.2.2 (fY (R++dl.map (eZ 14)++[x']++Q.map (eZ 15)))) λr' K w aV aF a4=>⟨λj b=>?_,a3 V _ _ _ _ ⟨aV.ext,⟨_,(w.re gQ.mono (Y:=[]) ((J.aA _).fz []) aL aL λj b=>Or.inl (by simp only[cH,dX,aS]at b⊢;rcases b with h|h|h;exact Or.inr (Or.inl h);exact Or.inl h;exact Or.inr (Or.inr h))),I.1.yY (DS V ?_),?_,?_⟩,⟨_,(ab.ext aY).jx (a4 _ V cD.symm),bJ⟩,⟨e,(aG.ext aY).jx (a4 _ V cE.symm),oh P.2,bf⟩,bj⟩⟩
   .have:=t (g:=D) V j b
    rw[a4 j this (by simp at b;omega),(J.push D _).same j this]
   .rw[I.2.1];omega
   .rw[cW,I.2.1];simp[kN,dn,eZ,pD]
   .rw[dD,mO,vJ]
    have h5:(eZ 15 (l.len:Int)).w=2:=by rw[cV.mz];rfl
    have:=I.2.2;omega
  refine⟨λ_=>?_,λh0=>⟨λX=>by rw[h0]at X;simp at X,λ_=>bW ao (J.aA _)⟩⟩;refine(dw (aH (((cn.ext aE).jx (a7 _ V V)))) _).any.aK (J.aA ao) (t V) λc a2 al _=>⟨_,rfl,λ_=>?_,λ_=>⟨λ_=>cY a2 al,λ_=>bW a2 al⟩⟩;intro dK;have cG:H.D≠s.D:=ac.Lu aG be;have d9:=al.size;refine GI.kL (aG.ext al) ((a9.trans al).fz []) L (oh P.2) λdN dL cd cc bp bl=>⟨λj b=>?_,a3 V _ _ _ _ ⟨cc.ext,⟨_,(ac.ext gQ.mono al).re gQ.mono (Y:=[s.D]) ⟨bp.1,λj b hn=>bl j b (by simpa using hn)⟩ aL (by simpa using cG) λj b=>?_,I.1,I.2.1,V⟩,⟨_,(ab.ext al).jx (bl _ ?_ bj),bJ⟩,⟨_,cd,?_,?_⟩,?_⟩⟩
  .have:=t (g:=a2) V j b;rw[bl j this (by simp at b;omega),(J.push a2 _).same j this]
  .simp only[cH,dX,aS]at b⊢;rcases b with h|h|h
   .exact Or.inl (Or.inr (Or.inl h))
   .rcases bp.2 with p|p
    .exact Or.inl (Or.inl (h.trans p))
    .exact Or.inr V
   .exact Or.inl (Or.inr (Or.inr h))
  .have:=ab.bh;omega
  .have:=P.2;simp;omega
  .intro y A;rcases List.mem_append.1 A with A|A
   .exact bf y A
   .simp at A;omega
  .have:=ab.bh;rcases bp.2 with p|p<;>omega
 .have aa:k=ap.length:=V;subst aa;rw[fy]at*;have P:∀(g:E)(H:O)(t:List cV),J q g->GS (l.D::u.D::o.size::d) q g H t->WL U f.length True aj.length t->dc t=dc ap->sw t<=1100*sw ap+2->
   let y:E:=ag g o.size 0 [.s H,.i v]
   ∃s c,Value.agg #[O.v H,vi v]=.agg #[O.v s,vi c.aT]/\eN (bP d y) s c.ap/\(WB U f.length True aj.length c/\c.w+1050<=1100*(Bk.mk ap v).w)/\J m y:=by
   intro g H t r w X h2 h3 y
   have ab:=fY t
   have:=w.bh
   refine⟨H,.mk t v,rfl,eN.le (cB aL λj b=>ai _ b) (w.re gQ.mono (S':=o.size::d) (Y:=[]) (Fz.aA _ _) aL aL (λj b=>Or.inl (ai _ (ai _ b)))|>.done gQ.mono L be bJ),⟨WB.of X (by rw[h2];exact bg.2),?_⟩,(F.trans r).ag V _ _⟩
   rw[Bk.qQ,Bk.qQ];omega
  have kX:∀(g:E),J B g->aM cq 227 [vi (14:Int),vi v] g λrv D=>dY [o.size,m0.size,m.size] g D/\∃aN:Int,∃aO:Int,∃aP:Int,∃aQ:O,∃aR:O,rv=.agg #[vi aN,vi aO,vi aP,O.v aQ,O.v aR]/\
   let M2:E:=D.push (.cells (bA [.i aN,.i aO,.i aP,.s aQ,.s aR]) gA)
   jM M2 gA [.i (0:Int),.i (0:Int),.i (0:Int),.s O.nil,.s O.nil] 72 z (O.mk D.size 0 1 1) λQ K=>dY [o.size,m0.size,m.size] M2 K/\
    let y:E:=ag K o.size 0 [.s Q,.i v]
    ∃s c,Value.agg #[O.v Q,vi v]=.agg #[O.v s,vi c.aT]/\eN (bP d y) s c.ap/\(WB U f.length True aj.length c/\c.w+1050<=1100*(Bk.mk ap v).w)/\J m y:=by
   intro g r
   refine(jg (c:=z.D::l.D::u.D::o.size::d) (λj b=>?_) 14 v).mono λrv D⟨a,kk,p,X,h2,x1⟩=>?_
   .have:=r.size
    simp at b
    rcases b with h|h|h|h|h
    .omega
    .omega
    .omega
    .have:=x6.lt (N o.size aL);omega
    .have:=hS _ h;have:=v6.size;omega
   subst p
   have ah:=x6.trans (r.trans x1)
   refine⟨J.oQ (x6.trans r) ah N,_,_,_,_,_,rfl,?_⟩
   refine GS.kL (x:=eZ 14 v) (gs.ext gQ.mono (r.trans x1)) (ah.fz []) X h2 (oh (fY R)) λr' K w aV aF a4=>⟨J.oQ (ah.aH _) aV.ext N,P K r' _ aV.ext w (aX.yY (DS V (by rw[Z];exact bg.2))) ?_ ?_⟩
   .rw[cW,Z];simp[kN,dn,eZ,pD]
   .rw[dD];simp[mO,cV.mz,eZ];omega
  let⟨aF,hz⟩:=cK li v.toNat;refine⟨V,V,aF,cv.aG hz,λ_=>?_,λ_=>P B z R x6 gs aX Z V⟩;refine(dw (bL.ext v6) v).any.aK x6 N λc m7 I u7=>⟨_,rfl,λ_=>kX m7 I,λ_=>?_⟩;exact(dw (cx.ext I) v).any.aK u7 N λc C x8 T=>⟨_,rfl,λ_=>kX C (I.trans x8),λ_=>P C z R T ((gs.ext gQ.mono I).ext gQ.mono x8) aX Z V⟩
end
structure Z3(ds:List bz)(nr:Nat)(v lm:List Int)(b:Bk):Prop where
 aR:∀o∈lm,0<=o/\o<(v.length:Int)
 lN:lm.length+5*b.w<=1000000
 vN:v.length+5*b.w<=1000000
 wb:WB ds nr False v.length b
def Yv(a:List bz)(d:List gP)(b:Bk):Prop:=∀(S:List Nat)(m:E),(∀c∈S,c<m.size)->∀(f r h t g:O)(v c:List Int),eK m f r a d->ar m h v->eN m t b.ap->ar m g c->Z3 a d.length v c b->
 nG 240 [.agg #[O.v f,O.v r],O.v h,.agg #[O.v t,vi b.aT],O.v g] m S λe=>WB a d.length True v.length e/\e.w+20<=40*b.w+2*c.length
def J2{o:List Nat}{m:E}(hS:∀c∈o,c<m.size){ah am av aX K:O}{G:List bz}{rs:List gP}{v:List Int}{x:cV}(hn:eK m ah am G rs)(hv:ar m av v)(ha:ar m aX x.args)(hk:nP m K x.bE)
 (vN:v.length+5*x.w<=1000000)(aN:WS G rs.length False v.length x)(ih:∀h∈x.bE,Yv G rs h):
 KC 260 [.agg #[O.v ah,O.v am],O.v av,pA x aX K] m o λx'=>WS G rs.length True v.length x'/\x'.op=x.op/\x'.w<=1+x.args.length+40*bw x.bE:=by
 apply CR
 simp -zeta only[aC,aB]
 intro F e k a5
 let⟨N,H,s0,s1,s2⟩:=qB (a:=F) (b:=e) (c:=k) rfl rfl rfl
 have a_:J k a5:=J.push _ _
 have gk:=GB.new (e.size::o) k
 clear_value k
 have bs:=ha.len;have bk:=hk.len;have hw:=cV.mz x;have bD:=KN x.bE;have bo:=hv.len
 have aK:∀c∈e.size::o,c<k.size:=bT hS N.size (H _ aL)
 refine(ic (e:=[k.size]) (by simp[a5]) (hn.le (N.trans a_).le).bn hn.types x.bQ).aK a_ H λc cl m4 d aR x4 u4=>⟨_,rfl,?_⟩
 subst aR
 have bE:=d.len
 refine dV (n:=x.bE.length) (bk▸hk.iC) (λj s M=>Fz [k.size] m4 M/\(s.D=k.size\/m4.size<=s.D)/\∃p,GB (e.size::o) k M s p/\p.length=j/\(∀(aa:Nat)(h:Bk),p[aa]? =some h->WB G rs.length True (v.length+BR G x.op x.bQ aa) h)/\bw p<=40*bw (x.bE.take j)) ⟨Fz.aA _ _,Or.inl rfl,[],gk.ext rW.mono x4,rfl,aL,aL⟩ ?_
 rintro j s Z aW μ hj ⟨f5,bm,p,C,bF,a4,a0⟩ bq
 have L:=Wd u4 f5 (ad _)
 have hy:=C.bh
 refine dit (λu=>?_) λu=>?_
 .intro m6
  have x6:J Z m6:=J.push _ _
  have u6:=L.trans x6
  let⟨h,P⟩:=cK x.bE j
  have bx:=xr P
  have bC:=uL P
  have bt:=QU hn.types x.op x.bQ j
  have bv:=qC x.bE
  refine⟨λaY M=>J Z M/\∃B,ar M aY B/\B.length=BR G x.op x.bQ j,⟨λh8=>?_,λh8=>?_⟩,?_⟩
  .simp only[aE]at h8
   have g:=(aN.fe.all h8).1
   let⟨y,a⟩:=cK (cx G x.bQ) j
   refine⟨V,V,y,(eF.1 ((d.le ((f5.then x6).dg aL)).aG a)).2,?_⟩
   refine(dN (e:=[]) aL ((hn.le (N.trans u6).le).bn.le (Al _)) hn.types y).aK u6 H λaY B m7 hf aR f i=>⟨_,rfl,x6.trans f,B,hf.le (bG _ _),?_⟩
   subst aR;exact(KK h8 a).symm
  .simp only[ak]at h8
   exact⟨x6,[],mK _ _ _ _ _ _,(KL h8).symm⟩
  rintro fs m8 ⟨R,B,hf,a2⟩
  have e8:(av.len:Int)=((v.length:Nat):Int):=by rw[bo]
  rw[e8]
  refine(sA (S:=[]) aL (hf.le (Al _)) v.length V).aK (L.trans R) H λmi ml y gm qm T u9=>⟨_,rfl,?_⟩
  let⟨aU,hs,e0,e1⟩:=hk.aG P
  have v9:=N.trans u9
  refine⟨V,V,_,v9.af e0,_,v9.af e1,?_⟩
  have z5:=L.size
  have g9:=C.ext rW.mono (R.trans T)
  have a3:∀{M:E},J y M->ar M mi ml:=λu=>((gm.done aL (oh qm.2)).le (bG _ _)).ext u
  have bH:=qm.2
  have E5:∀{M f:E},J k M->J k f->∀{a6:Prop},a6->af f K.D (K.off+Int.toNat (j:Int)*2)=af M K.D (K.off+Int.toNat (j:Int)*2)/\af f K.D (K.off+Int.toNat (j:Int)*2+1)=af M K.D (K.off+Int.toNat (j:Int)*2+1)/\
   af f F.size 4=af M F.size 4/\af f m.size 0=af M m.size 0/\af f m.size 1=af M m.size 1/\a6:=λ{M f} u h' _ hp=>by
   have aD:∀h,h<k.size->∀z,af f h z=af M h z:=λh P z=>aJ (by rw[h'.same h P,u.same h P]) z
   exact⟨((N.trans h').af e0).trans ((N.trans u).af e0).symm,((N.trans h').af e1).trans ((N.trans u).af e1).symm,aD _ V _,aD _ V _,aD _ V _,hp⟩
  have ao:∀{M:E},J Z M->∀c∈s.D::e.size::o,c<M.size:=λu c d=>by
   have:=u.size;rcases List.mem_cons.1 d with g|g
   .omega
   .have:=aK c g;omega
  have X:∀{M:E}{a:Nat},J Z M->a<M.size->∀c∈[a,e.size,F.size,m.size],c<M.size:=λu P c d=>by
   rcases List.mem_cons.1 d with g|g
   .omega
   .exact(L.trans u).lt (H c g)
  have tail:∀(M:E)(a:Nat)(Q:O)(i:Bk),GB (a::e.size::o) k M s p->J Z M->J y M->y.size<=a->a<M.size->eN (bP (a::s.D::e.size::o) M) Q i.ap->WB G rs.length True (v.length+B.length) i/\i.w+20<=40*h.w+2*ml.length->
   let l:E:=ag M a 0 [.s Q,.i i.aT]
   aM cq 257 [vi (14:Int),O.v mi] l λrv q=>dY [a,e.size,F.size,m.size] l q/\∃ab:O,rv=O.v ab/\af q a 1=af l a 1/\af q a 0=af l a 0/\
    jM q gA [.i (0:Int),.i (0:Int),.i (0:Int),.s O.nil,.s O.nil] 72 ab Q λaq w=>dY [a,e.size,F.size,m.size] q w/\af w a 1=af q a 1/\
     let M4:E:=w.push (.cells (bA [.s aq,.i i.aT]) di)
     jM M4 di [.s O.nil,.i (0:Int)] 32 s (O.mk w.size 0 1 1) λac W=>dY [a,e.size,F.size,m.size] M4 W/\aW ac (cR ((j:Int)+(1:Int))) W/\μ ac (cR ((j:Int)+(1:Int))) W<μ s j Z:=by
   intro M a Q i C I bp bj bu aj hq l
   have z1:l.size=M.size:=aw _ _ _ _
   have z9:=(R.trans T).size
   have ba:J y l:=bp.ag bj _ _
   have U:J Z l:=(R.trans T).trans ba
   have bl:s.D≠a:=V
   have g1:GB (e.size::o) k l s p:=C.re rW.mono (Y:=[a]) ((Fz.aA [a] M).ag (Or.inl aL) _ _) aL (by simpa using bl) λc d=>Or.inl (ai _ d)
   have bn:eN (bP (s.D::e.size::o) l) Q i.ap:=aj.le (cB aL λc d=>ai _ d)
   have bB:=Bk.mz i;have a0:=fY i.ap
   refine(eV (c:=s.D::e.size::o) (ao U) 14 (a3 ba) V).aK (J.aA l) (X U V) λab _ q aI g an _=>⟨_,rfl,aJ (an.same _ V) _,aJ (an.same _ V) _,?_⟩
   subst g
   have z2:=an.size
   refine GS.all aI (an.fz []) (bn.le (tA an aI.bh.1)) bJ λaq w bf bd bL a7=>?_
   have ae:J l w:=bd.ext
   have z3:=ae.size
   have bI:=aI.bh
   refine⟨λc d=>a7 c (oh (X U (a:=a) V c d)) (oh (X U (a:=a) V c d)),aJ (a7 _ V V) _,?_⟩
   intro M4
   have bh:=bf.done gQ.mono (ao U) be bJ
   refine GB.kL (c:=.mk (ml.map (eZ 14)++i.ap) i.aT) (g1.ext rW.mono ae) ((((L.trans U).trans ae)).fz []) bh V λac W bg br bc a8=>⟨λc d=>?_,bq V _ _ ⟨(f5.then (U.trans ae)).OF bm bc.1 a8,?_,_,bg,bJ,λaa b2 r=>?_,?_⟩⟩
   .have:=X (U.trans ae) (a:=a) V c d
    rw[a8 c this (by simp at d;omega),(J.push w _).same c this]
   .have h1:=(f5.then (U.trans ae)).size
    rcases bc.2 with g|g<;>omega
   .rcases aZ aa p.length with t|t
    .rw[ax t]at r;exact a4 aa b2 r
    .rw[aF t]at r
     have:aa -p.length=0:=by have:=az r;simp at this;omega
     rw[this]at r;simp at r;subst r
     have:aa=j:=V
     subst this
     rw[<-a2]
     refine WB.of ((sg V λz ho=>?_).append ?_) ?_
     .have:=qm.1 z ho;omega
     .rw[jX V];exact hq.1.aW.1
     .rw[cW,jX V,cE];exact hq.1.aW.2
   .rw[oZ,uK,zP,Bk.qQ,dD,oJ]
    have:=hq.2;omega
  have a1:∀(M:E)(aH:List Nat)(aG:Value->E->Prop),J y M->(∀c∈aH,c<M.size)->(∀s f,ar f s (v++B)->J M f->aG (O.v s) f)->aM cq 187 [O.v av,O.v fs] M λv m'=>dY aH M m'/\aG v m':=λM aH aG I X hK=>
   (eM (S:=[]) aL ((hv.ext (v9.trans I)).le (Al _)) ((hf.ext (T.trans I)).le (Al _)) V).aK (J.aA M) X λs ll f C g x _=>hK s f (by subst g;exact(C.done aL bJ).le (bG _ _)) x
  have D:∀(M:E)(S':List Nat)(t:O),(∀c∈S',c<M.size)->J y M->ar M t (v++B)->nG 240 [.agg #[O.v ah,O.v am],O.v t,.agg #[O.v aU,vi h.aT],O.v mi] M S' λi=>WB G rs.length True (v.length+B.length) i/\i.w+20<=40*h.w+2*ml.length:=by
   intro M S' t bi I r;have hm:=v9.trans I;have:=ih h (au P) S' M bi ah am t aU mi (v++B) ml (hn.le hm.le) r (hs.le hm.le) (a3 I) ⟨λz ho=>?_,V,bJ,by simp;rw[a2];exact aN.bE j h P⟩
   .simpa using this
   .have:=qm.1 z ho;simp;omega
  have iy:∀(M:E)(a:Nat)(t:O),GB (a::e.size::o) k M s p->J y M->y.size<=a->a<M.size->ar M t (v++B)->
   aM cq 240 [.agg #[O.v ah,O.v am],O.v t,.agg #[O.v aU,vi h.aT],O.v mi] M λrv f=>dY [a,e.size,F.size,m.size] M f/\∃aS:O,∃aT:Int,rv=.agg #[O.v aS,vi aT]/\
    let l:E:=ag f a 0 [.s aS,.i aT]
    aM cq 257 [vi (14:Int),O.v mi] l λrv q=>dY [a,e.size,F.size,m.size] l q/\∃ab:O,rv=O.v ab/\af q a 1=af l a 1/\af q a 0=af l a 0/\
     jM q gA [.i (0:Int),.i (0:Int),.i (0:Int),.s O.nil,.s O.nil] 72 ab aS λaq w=>dY [a,e.size,F.size,m.size] q w/\af w a 1=af q a 1/\
      let M4:E:=w.push (.cells (bA [.s aq,.i aT]) di)
      jM M4 di [.s O.nil,.i (0:Int)] 32 s (O.mk w.size 0 1 1) λac W=>dY [a,e.size,F.size,m.size] M4 W/\aW ac (cR ((j:Int)+(1:Int))) W/\μ ac (cR ((j:Int)+(1:Int))) W<μ s j Z:=by
   intro M a t C I h1 h2 h3
   have x5:=(R.trans T).trans I
   have z9:=(R.trans T).size
   refine(D M (a::s.D::e.size::o) t (λc d=>?_) I h3).aK (J.aA M) (X x5 h2) λQ i f aj hq ap _=>⟨_,_,rfl,tail f a Q i (C.ext rW.mono ap) (x5.trans ap) (I.trans ap) h1 (ap.lt h2) aj hq⟩
   rcases List.mem_cons.1 d with g|g
   .omega
   .exact ao x5 c g
  have aQ:∀(M:E)(z:Obj),GB (e.size::o) k M s p->GB (M.size::e.size::o) k (M.push z) s p:=λM z C=>
   C.re rW.mono (Y:=[]) ((J.push M z).fz []) aL aL λc d=>by
    rcases List.mem_cons.1 d with g|g
    .exact Or.inr V
    .exact Or.inl g
  refine⟨a1 y _ _ (J.aA _) (λc d=>u9.lt (H c d)) λt aP r A=>⟨_,rfl,E5 u9 (u9.trans A) ⟨?_,?_⟩⟩,?_⟩
  .have al:=u9.trans A
   have vQ:=A.size
   refine(D aP (s.D::e.size::o) t (ao ((R.trans T).trans A)) A r).aK al H λQ i aA aj hq ay a9=>⟨_,_,rfl,?_⟩
   intro aV
   have bK:=ay.size
   exact E5 a9 (a9.aH _) (tail aV aA.size Q i (aQ aA _ ((g9.ext rW.mono A).ext rW.mono ay)) ((((R.trans T).trans A).trans ay).aH _) ((A.trans ay).aH _) V (by simp[aV]) (aj.le (tA (J.push aA _) (ad _))) hq)
  .intro ay
   have al:=u9.trans A
   have vQ:=A.size
   exact E5 al (al.aH _) (iy ay aP.size t (aQ aP _ (g9.ext rW.mono A)) (A.aH _) V (by simp[ay]) (r.ext (J.push _ _)))
  .intro al
   have ay:J y al:=J.push _ _
   have aV:J k al:=u9.trans ay
   refine E5 u9 aV (a1 al _ _ ay (X ((R.trans T).trans ay) (by simp[al])) λt a9 r aA=>⟨_,rfl,E5 aV (aV.trans aA) ?_⟩)
   exact iy a9 y.size t ((aQ y _ g9).ext rW.mono aA) (ay.trans aA) (ad _) (aA.lt (by simp[al])) r
 .have f:p.length=x.bE.length:=V
  rw[cJ V]at a0
  refine(bR (e.size::o) (ha.ext (N.trans L)) V).aK L H λi l m6 a g x6 u6=>⟨_,rfl,aJ (x6.same _ (L.lt (H _ aL))) _,aJ (x6.same _ (L.lt (H _ aL))) _,?_⟩
  subst g
  intro m7
  refine⟨i,s,⟨x.op,x.bQ,0,x.args,p⟩,rfl,(a.done (λc d=>aO (aK c d) L.size) V).le (cB aL λc d=>ai _ d),nP.le (cB aL λc d=>ai _ d) ((C.ext rW.mono x6).done rW.mono aK be (by have:=qC x.bE;show p.length<=_;omega)),⟨aN.P6 (λu=>u.elim) ⟨V,V⟩ f a4,rfl,?_⟩,(N.trans u6).ag V _ _⟩
  rw[cV.mz]
  simp only
  omega
structure LB(ds:List bz)(nr:Nat)(S:List Nat)(m2 M:E)(v lm:List Int)(ap:List cV)(k:Nat)(st inn ow:O):Prop where
 x:J m2 M
 hs:∃l,GS (inn.D::ow.D::S) m2 M st l/\WL ds nr True v.length l/\dc l=dc (ap.take k)/\sw l+2*k<=40*sw (ap.take k)
 hi:∃l,GI S m2 M inn l/\l.length=v.length+dc (ap.take k)
 ho:∃l,GI S m2 M ow l/\l.length<=lm.length+k/\∀o∈l,0<=o/\o<((v.length+dc (ap.take k):Nat):Int)
 ne:inn.D≠ow.D
def It{D:List bz}{G:List gP}:∀p:Bk,Yv D G p:=by
 refine Bk.ind ?_;intro ap A ih j C hS bc bM ch cg ce H lm hn hv hs bq hp;have av:=hp.wb.aW;simp only[Bk.jW,Bk.jv]at*;have lN:=hp.lN;have vN:=hp.vN;rw[(Bk.qQ ap A)]at lN vN;apply A2;simp -zeta only[aC,aB];intro m d f ac;let⟨B,u,s0,s1,s2⟩:=qB (a:=m) (b:=d) (c:=f) rfl rfl rfl;have aN:J f ac:=J.push _ _;have aW:∀I,GS I f ac (.mk f.size 0 0 0) []:=λI=>GS.new I f;have s3:ac.size=f.size+1:=by simp[ac]
 clear_value ac;clear_value f;have bx:=hs.len;have bC:=BH ap;have b1:=fY ap;refine(bR j (hv.ext (B.trans aN)) V).aK aN u λg _ m4 r e x4 u4=>⟨_,rfl,?_⟩;subst e;refine(bR j (bq.ext (B.trans u4)) V).aK u4 u λi _ m5 z e x5 u5=>⟨_,rfl,?_⟩;subst e;have a5:=r.bh;have bF:=z.bh;refine R9 (n:=ap.length) (bx▸hs.iC) (λk t g i a=>LB D G.length (d.size::j) f a H lm ap k t g i) ⟨u5,⟨[],((aW _).ext gQ.mono x4).ext gQ.mono x5,WL.nil _ _ _ _,rfl,aL⟩,⟨H,((r.ext x5).cv (λ_ h=>h) aN.size).any,aL⟩,⟨lm,(z.cv (λ_ h=>h) u4.size).any,V,by simpa using hp.aR⟩,V⟩ ?_;clear r z a5 bF aW;rintro k t g i s ba μ hk ⟨W,⟨R,K,ax,P,b2⟩,⟨li,r,an⟩,⟨lo,z,bQ,a1⟩,a3⟩ bK
 have v6:=B.trans W;have bV:=r.len be;have bS:=tw (ap.take k);have bX:=qS k ap;have L:∀c∈d.size::j,c<f.size:=bT hS B.size (u _ aL);have cb:=K.bh;have a5:=r.bh;have b_:=z.bh;have bB:=fY (ap.take k);have bW:k<=sw (ap.take k):=by rw[gG]at bB;omega
 have bY:=fY R;have z6:=W.size;have ak:∀{a:E},GI (d.size::j) f a g li->ar a g li:=λq=>(q.done L V).le (bG _ _);have aZ:∀{a:E},GI (d.size::j) f a i lo->ar a i lo:=λq=>(q.done L V).le (bG _ _);have N:∀{a:E}{I:List Nat},s.size<=a.size->(∀c∈I,c<a.size)->∀c∈I++d.size::j,c<a.size:=λh hb c b=>by
  rcases List.mem_append.1 b with h|h
  .exact hb c h
  .have:=L c h;omega
 have aX:∀{a:E},J s a->∀c∈[d.size,m.size,C.size],c<a.size:=λh c b=>(W.trans h).lt (u c b);have bs:t.D≠g.D:=K.Lu r be;have a4:t.D≠i.D:=K.Lu z be;refine dit (λh=>?_) λh=>?_
 .let⟨ae,v⟩:=cK ap k;let⟨bb,kk,ha,a0,g0,g1,g2,g3,g4⟩:=hs.aG v;refine⟨V,V,_,v6.af g0,_,v6.af g1,_,v6.af g2,_,v6.af g3,_,v6.af g4,?_⟩;intro m7 y;have x8:J s y:=(J.push s _).ag (ad _) _ _;have s8:y.size=s.size+1:=by simp[y,m7,aw]
  clear_value y;have u8:=W.trans x8;have w:∀{a:E},y.size<=a.size->∀p∈[s.size,d.size,m.size,C.size],p<a.size:=λh p hb=>by
   rcases List.mem_cons.1 hb with e|e
   .omega
   .have:=u8.lt (u p e);omega
  have b7:=qd v;have b5:=qV v;have b6:=cV.mz ae;have aa:WS D G.length False li.length ae:=by rw[an];exact av.1 k ae v
  have aY:=dn1 aa;have b3:=bC (k+1);have Z:∀{a:E},J f a->At a bc bM bb kk D G ae:=λh=>⟨hn.le (B.trans h).le,ha.ext (B.trans h),aa.fe.call⟩;refine(oE (Z u8).Rj (ak (r.ext x8)) (Z u8).args (a0.le (B.trans u8).le) V λp _=>nA p).aK (J.aA y) (w (ad _)) λty m9 x9 _=>⟨_,rfl,?_⟩;have X9:=u8.trans x9;have z9:=x9.size;refine(zc (b:=[]) aL (Z X9) (ak ((r.ext x8).ext x9)) aa.fe.args V).aK (J.aA m9) (w V) λdu X bH bl a8 aI _=>⟨_,rfl,?_⟩;have bO:=a8.2;have vQ:=aI.size;refine(eV (c:=[t.D,g.D,i.D]++d.size::j) (N V bJ) 14 ((bl.done aL V).le (bG _ _)) V).aK (J.aA bH) (w V) λcf _ ay bi e aK _=>⟨_,rfl,?_⟩;subst e;have ci:=aK.size;have aO:J s ay:=(((x8.trans x9).trans aI).trans aK);refine GS.all (K.ext gQ.mono aO) (((X9.trans aI).trans aK).fz []) (bi.done gQ.mono (N (I:=[t.D,g.D,i.D]) V bJ) be bJ) bJ λaG a6 aR bd a9 az=>⟨λc b=>az c (w V c b) ?_,?_⟩
  .simp at b;omega
  have aj:J f a6:=bd.ext;have aT:=(r.ext aO).jx (az _ V bs.symm);have bm:=(z.ext aO).jx (az _ V a4.symm);have bZ:aG.D=t.D\/ay.size<=aG.D:=a9.2;have b8:=aR.bh;have cj:=a9.1;refine(J2 (o:=[aG.D,g.D,i.D]++d.size::j) (N V bJ) (Z aj).Rj (ak aT) (Z aj).args (a0.le (B.trans aj).le) V aa (ih ae (au v))).aK (J.aA a6) (w V) λca ck U a7 bo bp bL ah _=>⟨_,_,_,_,_,rfl,?_⟩;let⟨bD,bv,b4⟩:=bL;have cl:=ah.size;refine GS.kL (x:=U) (aR.ext gQ.mono ah) ((aj.trans ah).fz []) bo bp bJ λF al ao bf a_ aA=>⟨λc b=>?_,?_⟩
  .have:=w (a:=a7) V c b;rw[aA c this (by simp at b;omega),(J.push a7 _).same c this]
  have aQ:J f al:=bf.ext;have cm:=a_.1;have aU:=(aT.ext ah).jx (aA _ V V);have aq:=(bm.ext ah).jx (aA _ V V);have b0:F.D=t.D\/ay.size<=F.D:=by have:=a_.2;omega
  have B1:WL D G.length True H.length (R++X.map (eZ 14)++[U])/\dc (R++X.map (eZ 14)++[U])=dc (ap.take (k+1))/\sw (R++X.map (eZ 14)++[U])+2*(k+1)<=40*sw (ap.take (k+1)):=by
   have bU:dn U=1:=by unfold dn at aY⊢;rw[bv];exact aY
   have d1:dc (X.map (eZ 14))=0:=jX V _;refine⟨((ax.append (sg V λo l=>?_)).yY ?_),?_,?_⟩
   .rw[P,<-an];exact aa.fe.args o (a8.1 o l)
   .rw[cW,d1,P,jF,<-an];exact bD
   .rw[cW,cW,d1,P,kN,tx];omega
   .rw[dD,dD,oJ,mO,vJ];omega
  have a2:∀o∈lo,0<=o/\o<((H.length+dc (ap.take (k+1)):Nat):Int):=λo l=>by
   have:=a1 o l;omega
  have aV:∀(a:E)(T:O)(ab:List Int),J f a->y.size<=a.size->GS (g.D::T.D::d.size::j) f a F (R++X.map (eZ 14)++[U])->GI (d.size::j) f a g li->GI (d.size::j) f a T ab->g.D≠T.D->ab.length<=lm.length+(k+1)->(∀o∈ab,0<=o/\o<((H.length+dc (ap.take (k+1)):Nat):Int))->
   jM (a.push (.cells (bA [.i ty]) aD)) aD [.i (0:Int)] 8 g (O.mk a.size 0 1 1) λaH M'=>dY [s.size,d.size,m.size,C.size] (a.push (.cells (bA [.i ty]) aD)) M'/\ba F aH T (cR ((k:Int)+(1:Int))) M'/\μ F aH T (cR ((k:Int)+(1:Int))) M'<μ t g i k s:=by
   intro a T ab v Q q gI gO br bn bw
   have b9:=gI.bh;have bE:=gO.bh
   have bu:F.D≠g.D:=q.Lu gI be
   refine GI.kL gI (v.fz []) L V λaH M' bk bh aP aF=>⟨λc b=>?_,bK V _ _ _ _ ⟨bh.ext,⟨_,q.re gQ.mono (Y:=[g.D]) ⟨aP.1,λc b hn=>aF c b (by simpa using hn)⟩ aL (by simpa using bu) (λc b=>?_),B1.1,B1.2.1,B1.2.2⟩,⟨_,bk,bJ⟩,⟨ab,gO.jx (aF _ bE.2 br.symm),bn,bw⟩,?_⟩⟩
   .have:=w Q c b
    rw[aF c this (by simp at b;omega),(J.push a _).same c this]
   .simp only[aS]at b⊢
    rcases b with h|h|h
    .rcases aP.2 with e|e
     .exact Or.inl (Or.inl (h.trans e))
     .exact Or.inr V
    .exact Or.inl (Or.inr (Or.inl h))
    .exact Or.inl (Or.inr (Or.inr h))
   .rcases aP.2 with e|e<;>omega
  refine⟨λ_=>?_,λ_=>?_⟩
  .intro cc;have bt:F.D≠i.D:=ao.Lu aq be;refine GI.kL aq (aQ.fz []) L V λbN bI bj bg am aE=>⟨λc b=>?_,?_⟩
   .have:=w (a:=al) V c b;rw[aE c this (by simp at b;omega),(J.push al _).same c this]
   intro cd;have cn:=am.1;refine aV bI bN _ bg.ext V (ao.re gQ.mono (Y:=[i.D]) ⟨am.1,λc b hn=>aE c b (by simpa using hn)⟩ aL (by simpa using bt) λc b=>?_) (aU.jx (aE _ V a3)) bj ?_ bJ ?_
   .simp only[cH,dX,aS]at b⊢;rcases b with h|h|h
    .exact Or.inl (Or.inl h)
    .rcases am.2 with e|e
     .exact Or.inl (Or.inr (Or.inl (h.trans e)))
     .exact Or.inr V
    .exact Or.inl (Or.inr (Or.inr h))
   .rcases am.2 with e|e<;>omega
   .intro o l;rcases List.mem_append.1 l with l|l
    .exact a2 o l
    .simp at l;omega
  .intro am;exact aV al i lo aQ V ao aU aq a3 V a2
 .have aq:k=ap.length:=V;subst aq;rw[fy]at*;have al:∀(a:E)(X:O)(F:List cV),J f a->s.size<=a.size->GS (g.D::i.D::d.size::j) f a X F->ar a i lo->WL D G.length True H.length F->dc F=dc ap->sw F+2*ap.length<=40*sw ap+2->
   aM cq 257 [vi (15:Int),O.v i] a λrv y=>dY [d.size,m.size,C.size] a y/\∃ae:O,rv=O.v ae/\af y m.size 1=af a m.size 1/\
    jM y gA [.i (0:Int),.i (0:Int),.i (0:Int),.s O.nil,.s O.nil] 72 X ae λaa Z=>dY [d.size,m.size,C.size] y Z/\af Z m.size 1=af y m.size 1/\
     let T:E:=ag Z d.size 0 [.s aa,.i A]
     ∃am p,Value.agg #[O.v aa,vi A]=.agg #[O.v am,vi p.aT]/\eN (bP j T) am p.ap/\(WB D G.length True H.length p/\p.w+20<=40*(Bk.mk ap A).w+2*lm.length)/\J C T:=by
   intro a X F v Q q l aE aj aG
   have hy:=q.bh
   have aF:=fY F
   have aA:m.size<a.size:=v.lt (u _ aL)
   refine(eV (c:=[X.D,g.D,i.D]++d.size::j) (N Q bJ) 15 l V).aK v u λae _ y ao e w u1=>⟨_,rfl,aJ (w.same _ aA) _,?_⟩
   subst e
   have z1:=w.size
   have ay:∀c∈[d.size,m.size,C.size],c<y.size:=λc b=>u1.lt (u c b)
   have az:∀c∈[d.size,m.size,C.size],c<f.size:=u
   refine GS.all (q.ext gQ.mono w) (u1.fz []) (ao.done gQ.mono (N (I:=[X.D,g.D,i.D]) Q bJ) be bJ) bJ λaa Z g2 ab ah U=>⟨λc b=>U c (ay c b) (oh (az c b)),aJ (U _ V V) _,?_⟩
   intro T
   refine⟨aa,.mk _ A,rfl,eN.le (cB aL λc b=>ai _ b) ((g2.re gQ.mono (S':=d.size::j) (Y:=[]) (Fz.aA _ _) aL aL (λc b=>Or.inl (ai _ (ai _ b)))).done gQ.mono L be bJ),⟨WB.of (aE.append (sg V λo l=>?_)) ?_,?_⟩,(B.trans ab.ext).ag V _ _⟩
   .have:=a1 o l;rw[aj];exact this
   .rw[cW,jX V,aj];exact av.2
   .rw[Bk.qQ,Bk.qQ,dD,oJ];omega
  let⟨ah,Q⟩:=cK li A.toNat;refine⟨V,V,ah,(ak r).aG Q,λ_=>?_,λ_=>al s t R W (ad _) K (aZ z) ax P V⟩;refine(jg (c:=[t.D,g.D,i.D]++d.size::j) (N (ad _) bJ) 14 A).mono λrv y⟨pa,pk,e,h1,h2,w⟩=>?_;subst e;refine⟨w.dv (aX (J.aA _)),_,_,_,_,_,rfl,?_⟩;have z1:=w.size;refine GS.kL (x:=eZ 14 A) (K.ext gQ.mono w) ((W.trans w).fz []) h1 h2 V λr' T q ab ah U=>⟨λc b=>?_,al T r' _ ab.ext V q (aZ ((z.ext w).jx (U _ V a4.symm))) (ax.yY (DS V (by rw[P];exact av.2))) ?_ ?_⟩
  .have:=aX w c b;have h5:=u c b;rw[U c this V,(J.push y _).same c this]
  .rw[cW,P];simp[kN,dn,eZ,pD]
  .rw[dD,mO,vJ];have h5:(eZ 14 A).w=2:=by rw[cV.mz];rfl
   omega
section
variable{b:List Nat}{f d h:E}{p t k:O}{q:gP}{l:Int}{g e j:Nat}
def mT.mono:oH 1 mT:=⟨λh=>mT.le h _ _,λ⟨_,h,_⟩=>by rw[h];rfl⟩
def iI.mono:oH 3 iI:=⟨λh=>iI.le h _ _,λ⟨_,h,_⟩=>by rw[h];rfl⟩
def fS(v:∀c∈b,c<f.size){bn:O}{j:List bz}(hd:cy f bn j)(w:dU j):aM cq 202 [O.v bn] f λT B=>∃s,T=O.v s/\cy (bP b B) s j/\J f B:=by
 apply AK;intro N;have ab:=hd.len;have aa:=w.len;have u:Gr b f N jZ 3 iI (.mk f.size 0 0 0) []:=Gr.new b (ad _) _ _ _;refine dV (n:=j.length) V (λq s M=>J f M/\Gr b f M jZ 3 iI s (j.take q)) ⟨J.push _ _,u⟩ ?_;rintro q s d X μ hk ⟨r,m⟩ R
 have hy:=m.bh;refine dit (λl=>?_) λl=>?_
 .let⟨i,o⟩:=cK j q;let⟨z,A,u,g1,g2⟩:=hd.aG o;have ac:=A.len;have Z:=lC w o;intro P;have k:Gr (s.D::b) d P pt 1 mT (.mk d.size 0 0 0) []:=Gr.new _ (ad _) _ _ _;refine dV (n:=i.cons.length) V (λy c M=>J d M/\Gr (s.D::b) d M pt 1 mT c (i.cons.take y)) ⟨J.push _ _,k⟩ ?_;rintro y c C Y μ2 hj ⟨t,k⟩ Q;have g:=r.trans t;refine⟨V,V,z,g.af g2,dit (λK=>?_) λK=>?_⟩
  .let⟨E,x⟩:=cK i.cons y;let⟨U,L,H⟩:=A.aG x;have ae:E.length<=3:=(((w.dx q i o).iY V).2.2.2 E (au x)).1;refine⟨V,V,z,g.af g2,V,V,U,g.af H,?_⟩;have af:=k.bh;refine(bR (c.D::s.D::b) (L.ext g) V).then λW _ h I e D=>⟨_,rfl,?_⟩;subst e;intro M;refine Gr.kL (g:=[.s .nil]) mT.mono be (k.ext mT.mono D) ((t.trans D).fz []) ⟨W,rfl,I.done (λe p=>?_) V⟩ bJ λS m7 G F _ _=>Q V _ _ ⟨F.ext,by rw[bd x];exact G⟩;have:=t.size;simp only[aS]at p;rcases p with l|l|l
   .omega
   .omega
   .have:=v e l;have:=r.size;omega
  .refine⟨V,V,_,g.af u,V,V,_,g.af g1,?_⟩;intro h;rw[cJ V]at k;have D:eR (bP (s.D::b) C) 1 (mT (bP (s.D::b) C)) c i.cons:=k.done mT.mono (λe p=>by
    rcases List.mem_cons.1 p with x|x
    .omega
    .have:=v e x;have:=r.size;omega) be V
   refine Gr.kL (g:=[.i 0,.i 0,.s .nil]) (k:=i) iI.mono be (m.ext iI.mono t) (g.fz []) ⟨c,rfl,D⟩ bJ λS M x p _ _=>R V _ _ ⟨p.ext,by rw[bd o];exact x⟩
 .rw[cJ V]at m;exact⟨s,rfl,m.done iI.mono v be V,r⟩
def yD(H:∀i∈b,i<f.size){B:O}{b1:Int}(I:ar f p q.params)(K:ar f t q.cO)(u:q.params.length<=100/\q.cO.length<=100):
 aM cq 229 [.agg #[O.v p,O.v t,vi q.aT,O.v B,vi l],.agg #[O.v k,vi b1]] f λP x=>∃m n,P=.agg #[O.v m,O.v n,vi q.aT,O.v k,vi b1]/\ar (bP b x) m q.params/\ar (bP b x) n q.cO/\J f x:=by
 apply Dj
 simp -zeta only[aC,aB]
 intro L j d
 let⟨s,w,S,T,U⟩:=qB (a:=L) (b:=j) (c:=d) rfl rfl rfl
 clear_value d
 have z:∀i∈j.size::b,i<d.size:=bT H s.size (w _ aL)
 have c:∀{M y:E},J d M->J d y->∀g,g<d.size->∀o,af y g o=af M g o:=λF G g u o=>aJ (by rw[G.same g u,F.same g u]) o
 refine(bR (j.size::b) (I.ext s) V).aK (J.aA d) w λm _ R C e a _=>⟨_,rfl,c (J.aA _) a _ V _,c (J.aA _) a _ V _,c (J.aA _) a _ V _,c (J.aA _) a _ V _,?_⟩
 subst e
 refine(bR (j.size::b) (K.ext (s.trans a)) V).aK a w λn _ N D e Q r=>⟨_,rfl,c a r _ V _,c a r _ V _,c a r _ V _,?_⟩
 subst e
 intro h
 have A:Le (bP (j.size::b) N) (bP b h):=cB aL λi v=>ai _ v
 exact⟨m,n,rfl,((C.done z V).le (Q.dg _)).le A,(D.done (λi v=>a.lt (z i v)) V).le A,(s.trans r).ag V _ _⟩
abbrev GR(b:List Nat)(a f:E)(s:O)(l:List gP):Prop:=Gr b a f jQ 5 iQ s l
def wz{L:List Nat}{m M:E}{v s:O}{x:List gP}{r:Bk}{N:O}{K:E->Prop}(W:∀c∈b,c<m.size)(w:∀c∈L,c<M.size/\c≠g/\c≠s.D)(A:J m M)(y:GR (g::b) m M s x)
 (z:cw M g nt [.s v,.s s])(Z:m.size<=g)(hp:ar M p q.params)(ht:ar M t q.cO)(aa:eN (bP (s.D::g::b) M) k r.ap)(X:q.params.length<=100/\q.cO.length<=100)(hl:x.length<=100)
 (U:∀u d,GR (g::b) m d u (x++[⟨q.params,q.cO,q.aT,r⟩])->cw d g nt [.s v,.s u]->J m d->K d):
 aM cq 229 [.agg #[O.v p,O.v t,vi q.aT,O.v N,vi l],.agg #[O.v k,vi r.aT]] M λH j=>dY L M j/\∃B:O,∃C:O,∃D:Int,∃F:O,∃G:Int,H=.agg #[O.v B,O.v C,vi D,O.v F,vi G]/\af j g 1=af M g 1/\
  let n:E:=j.push (.cells (bA [.s B,.s C,.i D,.s F,.i G]) jQ)
  af n g 1=af j g 1/\
  jM n jQ [.s O.nil,.s O.nil,.i (0:Int),.s O.nil,.i (0:Int)] 88 s (O.mk j.size 0 1 1) λab o=>dY L n o/\eC o g 1 1/\
   let d:E:=ag o g 1 [.s ab]
   dY L o d/\K d:=by
 have hy:=y.bh
 have Y:=z.lt
 have hz:=A.size
 refine(yD (b:=s.D::g::b) (λc f=>?_) hp ht X).mono λH j⟨p',t',e,R,T,h⟩=>?_
 .simp only[aS]at f
  rcases f with e|e|e
  .omega
  .omega
  .have:=W c e;omega
 subst e
 refine⟨h.dv λc f=>(w c f).1,_,_,_,_,_,rfl,aJ (h.same _ Y) _,?_⟩
 intro n
 refine Gr.box (g:=[.s .nil,.s .nil,.i 0,.s .nil,.i 0]) (j:=1) (i:=[.s v,.s s]) (w:=⟨q.params,q.cO,q.aT,r⟩) iQ.mono be (y.ext iQ.mono h) ((A.trans h).fz []) ⟨p',t',k,rfl,R,T,aa.le (h.dg _)⟩ V (z.ext h) aL be ⟨Z,aL⟩ (λc f=>⟨h.lt (w c f).1,(w c f).2⟩) λu m' Q I P z' q'=>U u m' Q I P.ext
def lg{β:Type}{a c:E}{g:O}{l:Nat}{f:E->List Ce->β->Prop}(q:oH l f)(p:a=d.push (.cells (bA []) e))(i:c=a.push (.cells (bA [.s O.nil,.s O.nil]) j))(k:h=ag c a.size 0 [.s g,.s (O.mk d.size 0 0 0)]):
 J d h/\cw h a.size j [.s g,.s (O.mk d.size 0 0 0)]/\Gr b d h e l f (.mk d.size 0 0 0) []/\a.size=d.size+1/\h.size=d.size+2:=by
 subst p
 have n:J (d.push (.cells (bA []) e)) h:=by subst i k;exact(J.push _ _).ag (ad _) _ _
 refine⟨(J.push d _).trans n,?_,(Gr.new b (ad _) e l f).ext q n,aL,by subst i k;simp[aw]⟩
 have s:cw c (d.push (.cells (bA []) e)).size j [.s O.nil,.s O.nil]:=by rw[i];exact cw.push _ _ _
 rw[k]
 exact cw.ag (m:=c) (o:=0) (r:=[.s g,.s (.mk d.size 0 0 0)]) s
def kV{β:Type}{o b1 r:Nat}{p:E->List Ce->β->Prop}{c A:O}{F:List bz}(G:oH o p)(hz:0<o)(ac:j≠e)(X:∀w∈b,w<f.size)(Y:f.size<=b1/\b1<d.size)(K:J f d)(ak:g=d.size+1)
 (Z:cy (bP (b1::b) d) c F)(hn:A.len=r)(al:r<=1000)(ad:J d h)(U:cw h g j [.s c,.s (O.mk d.size 0 0 0)])(aa:Gr (g::b1::b) d h e o p (.mk d.size 0 0 0) [])(y:Nat->β->Prop)
 {C:(Int->E->Prop)->(Int->E->Nat)->Int->E->Prop}{R:O->O->E->Prop}
 (W:∀D N l q,cy (bP b q) D F->eR (bP b q) o (p (bP b q)) N l->l.length=r->(∀(i:Nat)(x:β),l[i]? =some x->y i x)->J f q->R D N q)
 (T:∀(k:Nat)(M:E)(s:O)(l:List β)(I:Int->E->Prop)(μ:Int->E->Nat),k<r->l.length=k->J d M->Gr (g::b1::b) d M e o p s l->cw M g j [.s c,.s s]->
  (∀u a x,Gr (g::b1::b) d a e o p u (l++[x])->cw a g j [.s c,.s u]->J d a->y k x->I (cR ((k:Int)+1)) a/\μ (cR ((k:Int)+1)) a<μ k M)->C I μ k M):
 ∃(v:Int->E->Prop)(μ0:Int->E->Nat),v (0:Int) h/\(∀(i:Int)(M:E),v i M->
  ((decide (i<(A.len:Int)))=true->C v μ0 i M)/\
  ((decide (i<(A.len:Int)))=false->∃m:O,af M g 0=some (O.v m)/\∃t:O,af M g 1=some (O.v t)/\
   let a:E:=ag M b1 0 [.s m,.s t]
   R m t a)):=by
 refine fm (n:=r) V (λk M=>J d M/\∃s l,Gr (g::b1::b) d M e o p s l/\cw M g j [.s c,.s s]/\l.length=k/\∀(i:Nat)(x:β),l[i]? =some x->y i x) ⟨ad,_,[],aa,U,rfl,aL⟩ ?_
 rintro k M I μ hk ⟨x,s,l,t,B,ab,H⟩ ae
 refine dit (λS=>?_) λS=>?_
 .refine T k M s l I μ V ab x t B λu a ah Q P x' L=>ae V _ ⟨x',u,_,Q,P,bJ,λi aj m=>?_⟩
  rcases aZ i l.length with z|z
  .rw[ax z]at m;exact H i aj m
  .rw[aF z]at m
   have:i -l.length=0:=by have:=az m;simp at this;omega
   rw[this]at m;simp at m;subst m
   have:i=k:=V
   subst this;exact L
 .refine⟨c,B.bU 0,s,B.bU 1,?_⟩
  intro a
  have L:=t.bh
  have z:=t.ne B ac
  have u:Le (bP (g::b1::b) M) (bP b a):=cB aL λw m=>ai _ (ai _ m)
  refine W c s l a (Z.le ((x.bP λw m=>?_).trans u)) (eR.le (t.nQ G (λm=>?_) hz V) u λP ah=>G.le u) V H ((K.trans x).ag Y.1 _ _)
  .rcases List.mem_cons.1 m with e|e
   .exact Or.inr V
   .exact Or.inl e
  .simp only[aS]at m
   rcases m with e|e|e
   .exact z e
   .omega
   .have:=X _ e;have:=K.size;omega
structure yK(ds:List bz)(rs:List gP)(c:Prop)(W:Nat):Prop where
 iY:0<rs.length
 dx:∀q∈rs,q.params.length<=3/\q.cO.length<=3/\WB ds rs.length c q.params.length q.body/\q.body.w<=W
def vn(h:Nat)(e:List Value)(f:E)(b:List Nat)(g:List bz)(Q:List gP->Prop):Prop:=aM cq h e f λv a=>∃d r c,v=.agg #[O.v d,O.v r]/\eK (bP b a) d r g c/\Q c/\J f a
def HT{d:List bz}{a b:List gP}{c:Prop}{W:Nat}(j:0<a.length)(f:b.length=a.length)(h:∀(i:Nat)(q:gP),b[i]? =some q->q.params.length<=3/\q.cO.length<=3/\WB d a.length c q.params.length q.body/\q.body.w<=W):yK d b c W:=
 ⟨V,λq g=>by obtain⟨i,e⟩:=List.mem_iff_getElem?.1 g;rw[f];exact h i q e⟩
def IG(G:∀i∈b,i<f.size){D:O}{e cO:List Int}{K:Int}(B:ar f p e)(H:ar f t cO)(P:e.length<=100):
 ln 241 [.agg #[O.v p,O.v t,vi K,O.v D,vi l]] f b λa=>(∀o∈a,0<=o/\o<(e.length:Int))/\a.length<=e.length:=by
 apply Bl
 simp -zeta only[aC,aB]
 intro c d
 have v:J f c:=J.push _ _
 have A:∀x∈[f.size],x<c.size:=by simp[c]
 have E:GI b c d (.mk c.size 0 0 0) []:=GI.nil b c
 have L:J c d:=J.push _ _
 clear_value d
 clear_value c
 have R:=B.len
 refine dV (n:=e.length) V (λm s M=>J c M/\∃a,GI b c M s a/\(∀o∈a,0<=o/\o<(e.length:Int))/\a.length<=m) ⟨L,[],E,aL,ad _⟩ ?_
 rintro m s S N μ Q ⟨w,a,j,k,z⟩ q
 have r:=v.trans w
 refine⟨λg=>?_,λg=>⟨s,a,rfl,j.cv (λ_ g=>g) v.size,⟨k,by simp at g;omega⟩,r⟩⟩
 simp only[aq]at g
 let⟨M,I⟩:=cK e m
 refine⟨V,V,M,(B.ext r).aG I,λ_=>?_,λ_=>q V _ _ ⟨w,a,j,k,V⟩⟩
 refine(dw (H.ext r) m).any.aK w A λx T C u=>⟨_,rfl,λ_=>?_,λ_=>q V _ _ ⟨u,a,j.ext C,k,V⟩⟩
 intro h
 refine GI.kL (j.ext C) (u.fz []) (λi z=>v.lt (G i z)) V λW U F y _ _=>⟨J.oQ (u.aH _) y.ext A,q V _ _ ⟨y.ext,_,F,λo i=>?_,bJ⟩⟩
 rcases List.mem_append.1 i with i|i
 .exact k o i
 .simp at i;omega
end
section
variable{a:List Nat}{b:E}{d r:O}{c:List gP}
def Ip(hS:∀e∈a,e<b.size){Z aj t:O}{Q:List bz}{q:gP}(hn:eK b d r Q c)(W:ar b Z q.params)(ht:ar b aj q.cO)(hs:eN b t q.body.ap)(aH:q.params.length<=3)(ap:WB Q c.length False q.params.length q.body)(hw:q.body.w<=95):
 nG 239 [.agg #[O.v d,O.v r],.agg #[O.v Z,O.v aj,vi q.aT,O.v t,vi q.body.aT]] b a λl=>WB Q c.length True q.params.length l/\l.w<=1100*q.body.w:=by
 apply AM
 simp -zeta only[aC,aB]
 intro m0 D H
 let⟨v,h,s0,s1,s2⟩:=qB (a:=m0) (b:=D) (c:=H) rfl rfl rfl
 clear_value H
 have aI:=W.len
 have T:∀e∈D.size::a,e<H.size:=bT hS v.size (h _ aL)
 refine(DE (S:=[]) aL (hs.le v.le) _ V).aK (J.aA H) h λus ul g hu aK P _=>⟨_,rfl,?_⟩
 have ao:ar g us ul:=hu.le (bG _ _)
 intro s I
 have aA:J g I:=(J.push g _).trans (J.push s _)
 have s4:s.size=g.size+1:=by simp[s]
 have i:GI a g I (.mk g.size 0 0 0) []:=(GI.nil a g).ext (J.push s _)
 have gd:GI a g I (.mk s.size 0 0 0) []:=(GI.nil a s).cv (λ_ R=>R) V
 clear_value I
 have z3:=P.size
 have am:∀e∈a,e<g.size:=λe f=>by have:=hS e f;have:=v.size;omega
 refine xw (n:=q.params.length) V (λk L sd M=>J g M/\∃j p,GI a g M L j/\GI a g M sd p/\L.D≠sd.D/\(∀o∈j,0<=o/\o<(q.params.length:Int))/\(∀o∈p,0<=o/\o<(q.params.length:Int))/\j.length<=k/\p.length<=k) ⟨aA,[],[],i,gd,bJ,aL,aL,ad _,ad _⟩ ?_
 rintro k L sd m6 aD μ hk ⟨w,j,p,i,gd,G,B,A,cm,cd⟩ K
 have F:=P.trans w
 have v6:=v.trans F
 refine dit (λR=>?_) λR=>?_
 .let⟨ab,Y⟩:=cK q.params k
  have X:∀{m:List Int},(∀o∈m,0<=o/\o<(q.params.length:Int))->∀o∈m++[(k:Int)],0<=o/\o<(q.params.length:Int):=λh o C=>by
   rcases List.mem_append.1 C with C|C
   .exact h o C
   .simp at C;omega
  refine⟨V,V,ab,(W.ext v6).aG Y,λ_=>?_,λ_=>K V _ _ _ ⟨w,j,p,i,gd,G,B,A,V,V⟩⟩
  refine(dw (ht.ext v6) k).any.aK F h λaa m7 u u7=>⟨_,rfl,λ_=>?_,λ_=>K V _ _ _ ⟨w.trans u,j,p,i.ext u,gd.ext u,G,B,A,V,V⟩⟩
  refine(dw (ao.ext (w.trans u)) k).any.aK u7 h λaa m8 x8 u8=>⟨_,rfl,λ_=>?_,λ_=>?_⟩
  .have x:=u.trans x8
   intro m9
   exact GI.SD (i.ext x) (gd.ext x) G ((w.trans x).fz []) V λr m' z N U y=>⟨J.oQ ((F.trans x).aH _) (P.trans y.ext) h,K V _ _ _ ⟨y.ext,_,_,z,N,U,X B,A,bJ,V⟩⟩
  .have x:=u.trans x8
   intro m9
   exact GI.SD (gd.ext x) (i.ext x) G.symm ((w.trans x).fz []) V λr m' z N U y=>⟨J.oQ ((F.trans x).aH _) (P.trans y.ext) h,K V _ _ _ ⟨y.ext,_,_,N,z,U.symm,B,X A,V,bJ⟩⟩
 intro y
 have ac:J m6 y:=J.push _ _
 have aa:=F.trans ac
 have ab:=v.trans aa
 have e0:ar y (.mk m6.size 0 0 0) []:=mK _ _ _ _ _ _
 have ag:∀{M:E}{t:O}{m:List Int},GI a g M t m->m.length<=3->ar M t m:=λz h=>(z.done am V).le (bG _ _)
 clear_value y
 have aG:=q.body.Hm
 refine(Gy q.body (D.size::a) y (λe f=>aa.lt (T e f)) d r Z t L _ q.params j [] (hn.le ab.le) (W.ext ab) (hs.le ab.le) ((ag i V).ext ac) e0 ⟨B,V,bJ,V,ap⟩).aK aa h λss l C an X ay ax=>⟨_,_,rfl,?_⟩
 intro aq o
 have ae:J C o:=(J.push C _).ag (ad _) _ _
 have aQ:o.size=C.size+1:=by simp[o,aq,aw]
 clear_value o
 have N:=ax.trans ae
 have U:∀e∈[C.size,D.size,m0.size,b.size],e<o.size:=λe f=>by
  rcases List.mem_cons.1 f with x|x
  .omega
  .exact N.lt (h e x)
 have aF:=Bk.mz l;have aE:=fY l.ap
 have aM:=X.2
 refine(eV (c:=D.size::a) (λe f=>N.lt (T e f)) 15 ((ag gd V).ext ((ac.trans ay).trans ae)) V).aK (J.aA o) U λaP _ aN af x u _=>⟨_,rfl,aJ (u.same _ V) _,aJ (u.same _ V) _,?_⟩
 subst x
 have aR:=u.size
 have Y:=af.bh
 refine GS.all af (u.fz []) ((an.le (ae.dg _)).le (tA u Y.1)) bJ λav au al ak aS ah=>⟨λe f=>ah e (u.lt (U e f)) (oh (U e f)),aJ (ah _ V V) _,?_⟩
 intro aO
 have az:J b au:=(v.trans N).trans ak.ext
 refine⟨av,.mk _ l.aT,rfl,eN.le (cB aL λe f=>ai _ f) (al.done gQ.mono (λe f=>N.lt (T e f)) be bJ),⟨WB.of ((sg V A).append ?_) ?_,?_⟩,az.ag V _ _⟩
 .rw[jX V];exact X.1.aW.1
 .rw[cW,jX V,cE];exact X.1.aW.2
 .rw[Bk.qQ,dD,oJ];omega
def Mc(K:∀e∈a,e<b.size){i:List bz}(k:eK b d r i c)(hk:yK i c False 95):vn 222 [.agg #[O.v d,O.v r]] b a i λx=>yK i x True 104500:=by
 apply EE;simp -zeta only[aC,aB];intro f a2;let⟨z,v⟩:=dP (a:=f) (c:=a2) rfl rfl;have s1:f.size=b.size+1:=by simp[f]
 clear_value a2;have ai:=k.iW.len;have aq:=k.oK;refine(fS (b:=f.size::a) (bT K z.size (v _ aL)) (k.le z.le).bn k.types).mono λ_ P⟨ac,j,ae,A⟩=>?_;subst j;refine⟨A.dv v,_,rfl,?_⟩;intro Q am ab;have u2:=z.trans A;let⟨x5,B0,g0,s3,s5⟩:=lg (b:=Q.size::f.size::a) iQ.mono (d:=P) (a:=Q) (c:=am) (h:=ab) rfl rfl rfl;clear_value ab;have w:∀e∈[f.size,b.size],e<P.size:=λe g=>A.lt (v e g);have L:∀e∈f.size::a,e<P.size:=λe g=>A.lt (bT K z.size (v _ aL) e g);refine kV (R:=λh o M=>∃d r x,Value.agg #[O.v h,O.v o]=.agg #[O.v d,O.v r]/\eK (bP a M) d r i x/\yK i x True 104500/\J b M) (r:=c.length) (f:=b) (b:=a) iQ.mono be be K ⟨V,w _ aL⟩ u2 s3 ae ai V x5 B0 g0 (λ_ q=>q.params.length<=3/\q.cO.length<=3/\WB i c.length True q.params.length q.body/\q.body.w<=104500) (λh t N u X Y o p s=>⟨h,t,N,rfl,⟨X,Y,k.types,V⟩,HT hk.iY o p,s⟩) λal M st N ao μ ag ap B W C an=>?_
 let⟨q,hq⟩:=cK c al ag;let⟨aa,ah,ak,hw⟩:=hk.dx q (au hq);have o:=u2.trans B;let⟨ar,av,h,T,U,c3,D,E,F,H,I⟩:=k.iW.aG hq;have G:∀{y:Value}{h s:Nat},af b h s=some y->af M h s=some y:=λu=>o.af u;refine⟨st,C.bU 1,V,V,_,G D,_,G E,_,G F,_,G H,_,G I,V,V,_,G D,_,G E,_,G F,_,G H,_,G I,?_⟩;have hy:=W.bh;have ad:=C.lt;have zM:=B.size;refine(Ip (a:=st.D::Q.size::f.size::a) (λe g=>?_) (k.le o.le) (T.ext o) (U.ext o) (c3.le o.le) aa ak hw).aK B w λss b' M1 aj Z p u1=>⟨_,_,rfl,?_⟩
 .simp only[aS]at g;rcases g with j|j|j|j
  .omega
  .omega
  .have:=L e (by simp[j]);omega
  .have:=L e (by simp[j]);omega
 have t:∀{y:Value}{h s:Nat},af b h s=some y->af M1 h s=af M h s:=λu=>by rw[p.af (G u),G u]
 refine⟨t D,t E,t F,t H,t I,aJ (p.same _ (B.lt (w _ aL))) _,aJ (p.same _ ad) _,?_⟩;exact wz (b:=f.size::a) (v:=ac) (x:=N) L (λe g=>by have X:=w e g;have Y:=u1.size;omega) u1 (W.ext iQ.mono p) (C.ext p) V (T.ext (o.trans p)) (U.ext (o.trans p)) aj ⟨V,V⟩ V λs' Y g' X x'=>an s' Y _ g' X x' ⟨aa,ah,Z.1,by have:=Z.2;simp only;omega⟩
def Qr(L:∀f∈a,f<b.size){t:List bz}(u:eK b d r t c)(hk:yK t c False 95):vn 223 [.agg #[O.v d,O.v r]] b a t λB=>yK t B True 104500:=by
 apply J3;simp -zeta only[aC,aB];intro p a2;let⟨D,y⟩:=dP (a:=p) (c:=a2) rfl rfl;have s1:p.size=b.size+1:=by simp[p]
 clear_value a2;have al:=u.iW.len;have az:=u.oK;refine(fS (b:=p.size::a) (bT L D.size (y _ aL)) (u.le D.le).bn u.types).mono λ_ T⟨ag,h,ah,F⟩=>?_;subst h;refine⟨F.dv y,_,rfl,?_⟩;intro A ap ac;have u2:=D.trans F;let⟨x5,B0,g0,s3,s5⟩:=lg (b:=A.size::p.size::a) iQ.mono (d:=T) (a:=A) (c:=ap) (h:=ac) rfl rfl rfl;clear_value ac;have P:∀f∈[p.size,b.size],f<T.size:=λf i=>F.lt (y f i);have N:∀f∈p.size::a,f<T.size:=λf i=>F.lt (bT L D.size (y _ aL) f i);refine kV (R:=λe g M=>∃d r B,Value.agg #[O.v e,O.v g]=.agg #[O.v d,O.v r]/\eK (bP a M) d r t B/\yK t B True 104500/\J b M) (r:=c.length) (f:=b) (b:=a) iQ.mono be be L ⟨V,P _ aL⟩ u2 s3 ah al V x5 B0 g0 (λ_ q=>q.params.length<=3/\q.cO.length<=3/\WB t c.length True q.params.length q.body/\q.body.w<=104500) (λe o Q s h1 w g j k=>⟨e,o,Q,rfl,⟨h1,w,u.types,V⟩,HT hk.iY g j,k⟩) λao M st Q av μ ai ay Y aa H aq=>?_
 let⟨q,hq⟩:=cK c ao ai;let⟨ak,aj,an,hw⟩:=hk.dx q (au hq);have C:=u2.trans Y;let⟨ar,aD,o,I,c2,c3,e0,e1,e2,e3,e4⟩:=u.iW.aG hq;have G:∀{ae:Value}{o v:Nat},af b o v=some ae->af M o v=some ae:=λK=>C.af K;refine⟨V,V,_,G e0,_,G e1,_,G e2,_,G e3,_,G e4,?_⟩;intro m7 k;have hy:=aa.bh;have ax:=H.lt;have zM:=Y.size;have X:J M k:=(J.push M _).ag (ad _) _ _;have s8:k.size=M.size+1:=by simp[k,m7,aw]
 clear_value k;have z:∀f∈[M.size,p.size,b.size],f<k.size:=λf i=>by
  rcases List.mem_cons.1 i with h|h
  .omega
  .have:=P f h;omega
 have U:=C.trans X;have g:∀{Z M2:E},J k Z->J k M2->∀o,o<k.size->∀v,af M2 o v=af Z o v:=λK h' o hb v=>aJ (by rw[h'.same o hb,K.same o hb]) v;have j:M.size<k.size:=V;have i1:b.size<k.size:=z _ aL;have i2:A.size<k.size:=V;refine⟨st,(H.ext X).bU 1,?_⟩;refine(IG (b:=[]) aL (I.ext U) (c2.ext U) V).aK (J.aA k) z λow lo m9 go ho e _=>⟨_,rfl,g (J.aA _) e _ j _,g (J.aA _) e _ j _,g (J.aA _) e _ j _,g (J.aA _) e _ i1 _,g (J.aA _) e _ i1 _,g (J.aA _) e _ j _,g (J.aA _) e _ j _,g (J.aA _) e _ j _,g (J.aA _) e _ j _,g (J.aA _) e _ j _,g (J.aA _) e _ i2 _,?_⟩;have W:=U.trans e;have z9:=e.size;have i:=ho.2;refine(It q.body (st.D::A.size::p.size::a) m9 (λf i=>?_) d r ar o ow q.params lo (u.le W.le) (I.ext W) (c3.le W.le) ((go.done aL V).le (bG _ _)) ⟨ho.1,V,V,an⟩).aK e z λss b' aA am ab aE s=>⟨_,_,rfl,g e s _ j _,g e s _ j _,g e s _ j _,g e s _ j _,g e s _ j _,g e s _ i2 _,?_⟩
 .simp only[aS]at i;rcases i with h|h|h|h
  .omega
  .omega
  .have:=N f (by simp[h]);omega
  .have:=N f (by simp[h]);omega
 have x:=X.trans s;have vQ:=s.size;exact wz (b:=p.size::a) (v:=ag) (x:=Q) N (λf i=>by have h1:=z f i;have w:=P f;simp only[aS]at i w;rcases i with h|h|h|h<;>first|omega|(have:=w (by simp[h]);omega)|simp at h) (Y.trans x) (aa.ext iQ.mono x) (H.ext x) V (I.ext (C.trans x)) (c2.ext (C.trans x)) am ⟨V,V⟩ V λs' M' g' w x'=>aq s' M' _ g' w x' ⟨ak,aj,ab.1,by have:=ab.2;simp only;omega⟩
end
section
variable{x:cV}{l:List cV}{m d M:E}{i f e h:O}{b:List Nat}{c g:List Int}{a:Int}{K:O->E->Prop}
def AX(a k:O)(m:E):dR cq 245 [pA x a k] m (x.op=14\/x.op=15):=by
 apply GN;simp -zeta only[aC,aB];intro c;have b:J m c:=J.push _ _;refine⟨λh=>jU (Or.inl (by simpa using h)) b,λh=>fI ?_ b⟩;simp only[ak]at h;simp only[aE];omega
def X0(l:List cV):Prop:=∀x∈l,x.args.length=1
def zH(l:List cV)(o:Int):Prop:=∃x∈l,o∈x.args
def X0.at(h:X0 l){k:Nat}(a:l[k]? =some x):∃y,x.args[0]? =some y/\zH l y:=by
 have c:=h x (au a);let⟨y,b⟩:=cK x.args 0;exact⟨y,b,x,au a,au b⟩
def O0(p:eN m i l)(B:X0 l)(H:l.length<=10^12)(v:Int):tq 270 [O.v i,vi v] m λb=>-(l.length:Int)<=b/\b<=l.length:=by
 apply Iy;have L:=p.len;refine dV (n:=l.length) V (λk b M=>J m M/\-(k:Int)<=b/\b<=(k:Int)) ⟨J.aA _,V,V⟩ ?_;rintro k b c I μ K ⟨e,E,F⟩ C
 refine⟨λj=>?_,λj=>⟨b,rfl,⟨V,V⟩,e⟩⟩;simp only[aq]at j;let⟨x,q⟩:=cK l k;obtain⟨y,r,_⟩:=B.at q;obtain⟨a,Q,o,_,z,_,_,A,_⟩:=p.aG q;have G:=o.len;have P:=az r;have s:=e.af z;have G3:=e.af A;have h:=(o.ext e).aG r;have u:cR (b+1)=b+1:=aP V V;have w:cR (b -1)=b -1:=aP V V;rw[u,w];have N:∀d,-((k+1:Nat):Int)<=d->d<=((k+1:Nat):Int)->I d (cR ((k:Int)+1)) c/\μ d (cR ((k:Int)+1)) c<μ b k c:=λd a t=>C V _ _ ⟨e,a,t⟩
 have D:(0:Int)<=(k:Int)/\(k:Int)<(i.len:Int)/\∃f:O,af c i.D (i.off+Int.toNat (k:Int)*5+3)=some (O.v f)/\(0:Int)<=(0:Int)/\(0:Int)<(f.len:Int)/\∃g:Int,af c f.D (f.off+Int.toNat (0:Int)*1)=some (vi g)/\
  ((g==v)=true->I (b -1) (cR ((k:Int)+1)) c/\μ (b -1) (cR ((k:Int)+1)) c<μ b k c)/\((g==v)=false->I b (cR ((k:Int)+1)) c/\μ b (cR ((k:Int)+1)) c<μ b k c):=
  ⟨V,V,a,G3,V,V,y,h,λ_=>N _ V V,λ_=>N _ V V⟩
 exact⟨V,V,a,G3,V,V,y,h,λ_=>⟨V,V,_,s,λ_=>N _ V V,λ_=>D⟩,λ_=>D⟩
def Np(q:∀f∈b,f<m.size)(u:eN m i l)(j:X0 l)(G:l.length<=100000000000):ln 269 [O.v i] m b λc=>(∀o∈c,zH l o)/\c.length<=l.length:=by
 apply Hc;intro N;have K:=u.len;refine dV (n:=l.length) V (λk s M=>J m M/\∃c,GI b m M s c/\(∀o∈c,zH l o)/\c.length<=k) ⟨J.push m _,[],GI.nil b m,aL,ad _⟩ ?_;rintro k s d I μ H ⟨e,c,p,v,t⟩ C
 refine⟨λh=>?_,λh=>⟨s,c,rfl,p,⟨v,V⟩,e⟩⟩;simp only[aq]at h;let⟨x,w⟩:=cK l k;let⟨z,y,A⟩:=j.at w;obtain⟨a,R,r,_,E,_,_,g,_⟩:=u.aG w;have F:=r.len;have L:=az y;refine⟨V,V,a,e.af g,V,V,z,(r.ext e).aG y,?_⟩;refine(mH (S:=b) (λf t=>aO (q f t) e.size) (p.done q V) z V).then λQ B P g f D=>⟨_,rfl,C V _ _ ⟨e.trans D,B,g.cv (λ_ h=>h) e.size,λo j=>?_,oh f.2⟩⟩;rcases f.1 o j with h|h
 .exact v o h
 .subst h;exact A
structure vU(b:List Nat)(m d M:E)(f e h:O)(c lr g:List Int):Prop where
 x:J m M
 gd:GI b m M f c
 gr:GI b m M e lr
 gv:GI [] d M h g
 n1:f.D≠e.D
 n2:f.D≠h.D
 n3:e.D≠h.D
def vU.ext{b:List Nat}{m d M i:E}{f e h:O}{c j g:List Int}(T:vU b m d M f e h c j g)(a:J M i):vU b m d i f e h c j g:=
 ⟨T.x.trans a,T.gd.ext a,T.gr.ext a,T.gv.ext a,T.n1,T.n2,T.n3⟩
def vU.aaa{j:List Int}(T:vU b m d M f e h c j g)(s:∀i∈b,i<m.size)(t:c.length<=10^12)(u:∀r i,vU b m d i r e h (c++[a]) j g->K r i):
 jM (M.push (.cells (bA [.i a]) aD)) aD [.i 0] 8 f (.mk M.size 0 1 1) K:=by
 have o:=T.gr.bh;have p:=T.gv.bh;have v:=T.n1;have w:=T.n2
 refine GI.kL T.gd (T.x.fz []) s t λr i n l z q=>u r i ⟨l.ext,n,T.gr.jx (q _ o.2 T.n1.symm),T.gv.jx (q _ p.2 T.n2.symm),?_,?_,T.n3⟩<;>rcases z.2 with k|k<;>omega
def vU.SD{j:List Int}(T:vU b m d M f e h c j g)(s:∀i∈b,i<m.size)(t:j.length<=10^12)(u:∀r i,vU b m d i f r h c (j++[a]) g->K r i):
 jM (M.push (.cells (bA [.i a]) aD)) aD [.i 0] 8 e (.mk M.size 0 1 1) K:=by
 have o:=T.gd.bh;have p:=T.gv.bh;have v:=T.n1;have w:=T.n3
 refine GI.kL T.gr (T.x.fz []) s t λr i n l z q=>u r i ⟨l.ext,T.gd.jx (q _ o.2 T.n1),n,T.gv.jx (q _ p.2 T.n3.symm),?_,T.n2,?_⟩<;>rcases z.2 with k|k<;>omega
def VS(l:List cV)(c:List cV):Prop:=∃b a:List Int,c=b.map (eZ 14)++a.map (eZ 15)/\(∀o∈b,zH l o)/\(∀o∈a,zH l o)/\b.length+a.length<=l.length*l.length
def yC(v:∀t∈b,t<m.size)(Z:eN m i l)(a:X0 l)(x:l.length<=500000):RJ 246 [O.v i] m b (VS l):=by
 apply Db;intro r d;have P:J m d:=(J.push m _).trans (J.push r _);have s1:r.size=m.size+1:=by simp[r]
 have gd:GI b m d (.mk m.size 0 0 0) []:=(GI.nil b m).ext (J.push r _);have U:GI b m d (.mk r.size 0 0 0) []:=(GI.nil b r).cv (λ_ F=>F) V;clear_value d;have ah:l.length*l.length<=250000000000:=bX (MF x x) be;refine(Np (b:=[]) aL (Z.le P.le) a V).then λh g m3 D L Q=>⟨_,rfl,?_⟩;have hv:ar m3 h g:=(D.done aL (oh L.2)).le (bG _ _);have am:=hv.len;have al:=L.2;have an:=D.bh;have ap:=P.size;refine xw (n:=g.length) V (λp f e M=>∃c j,vU b m d M f e h c j g/\(∀o∈c,zH l o)/\(∀o∈j,zH l o)/\c.length+j.length<=p*l.length) ⟨[],[],⟨(P.trans Q),gd.ext Q,U.ext Q,D,bJ,oh gd.bh,oh U.bh⟩,aL,aL,aL⟩ ?_;rintro p f e m4 ag μ hi ⟨c,j,T,hd,hr,X⟩ ae
 have ac:p*l.length<=l.length*l.length:=dh _ V;have G:∀{M:E}{f e:O}{c j:List Int},vU b m d M f e h c j g->ar M h g:=λT=>(T.gv.done aL V).le (bG _ _);refine dit (λF=>?_) λF=>?_
 .let⟨y,z⟩:=cK g p;have ab:=L.1 y (au z);refine⟨V,V,y,(G T).aG z,?_⟩;refine(O0 (Z.le T.x.le) a V y).then λw m5 hn s=>⟨_,rfl,?_⟩;have ak:(p+1)*l.length=p*l.length+l.length:=qu _ _;refine⟨λf k M=>k<=w/\(w<=0->k=w)/\(0<w->0<=k)/\∃H,vU b m d M f e h H j g/\(∀o∈H,zH l o)/\H.length+j.length+k.toNat<=p*l.length+w.toNat,λ_ k _=>k.toNat,⟨V,V,V,c,T.ext s,hd,V⟩,?_⟩;rintro af k m6 ⟨n1,n2,n3,I,A,Y,ai⟩;refine dit (λh1=>?_) λh1=>?_
  .refine⟨V,V,y,(G A).aG z,?_⟩;intro q;have u:cR (k -1)=k -1:=aP V V;rw[u];exact A.aaa v V λN R B=>⟨⟨V,V,V,_,B,λo a=>by
    rcases List.mem_append.1 a with a|a
    .exact Y o a
    .simp at a;subst a;exact ab,bJ⟩,by dsimp only;omega⟩
  .refine⟨λe q M=>k<=q/\q<=0/\∃K,vU b m d M af e h I K g/\(∀o∈K,zH l o)/\I.length+K.length+(-q).toNat<=p*l.length+l.length,λ_ q _=>(-q).toNat,⟨V,V,j,A,hr,V⟩,?_⟩;rintro ao q m8 ⟨p1,p2,ad,C,aa,aj⟩;refine⟨λW=>?_,λW=>ae V _ _ _ ⟨I,ad,C,Y,aa,V⟩⟩;simp only[aq]at W;refine⟨V,V,y,(G C).aG z,?_⟩;intro m9;have u:cR (q+1)=q+1:=aP V V;rw[u];exact C.SD v V λN R B=>⟨⟨V,V,_,B,λo a=>by
    rcases List.mem_append.1 a with a|a
    .exact aa o a
    .simp at a;subst a;exact ab,bJ⟩,by dsimp only;omega⟩
 .have o:∀t∈b,t<m4.size:=λt X=>by have:=v t X;have:=T.x.size;omega
  refine(eV (c:=b) o 14 ((T.gd.done v V).le (bG _ _)) V).mono λ_ m5⟨s1,C,k,g1,u,s⟩=>?_;subst k;subst u;refine⟨_,rfl,?_⟩;have q:=g1.bh;refine(eV (c:=s1.D::b) (bT o s.size q.2) 15 (((T.ext s).gr.done v V).le (bG _ _)) V).mono λ_ m6⟨I,H,k,g2,y,w⟩=>?_;subst k;subst y;refine⟨_,rfl,?_⟩;refine GS.all (g1.ext gQ.mono w) ((s.trans w).fz []) (g2.done gQ.mono (bT o s.size q.2) be bJ) bJ λN R A z _ _=>⟨N,_,rfl,A.cv gQ.mono (λB x=>Or.inl x) T.x.size,⟨c,j,rfl,hd,hr,?_⟩,T.x.trans z.ext⟩;have:p*l.length<=l.length*l.length:=ac;omega
end
section
variable{a c:Nat}
def IS(a b:Nat):a*a+b*b<=(a+b)*(a+b):=by
 rw[gL,Nat.mul_add,Nat.mul_add];omega
def Qt{b:Nat}(h:a<=b):a*a<=b*b:=MF h h
structure CN(ds:List bz)(c:Nat)(S:List Nat)(m2 M:E)(a:Nat)(ap:List cV)(k:Nat)(st run:O)(lo lr:List cV)(P:Nat):Prop where
 x:J m2 M
 gs:GS (run.D::S) m2 M st lo
 gr:GS [st.D] m2 M run lr
 wl:WL ds c True a lo
 Yb:dc lo=dc (ap.take k)
 sws:sw lo<=P*P
 P':P+2*lr.length<=sw (ap.take k)
 kX:X0 lr
 Yj:∀o,zH lr o->0<=o/\o<((a+dc (ap.take k):Nat):Int)
 ne:st.D≠run.D
def Qo{f:List bz}{l b:List cV}(h:VS l b)(e:∀o,zH l o->0<=o/\o<(a:Int)):WL f c True a b/\dc b=0/\sw b<=(2*l.length)*(2*l.length):=by
 obtain⟨k,j,rfl,g,i,m⟩:=h;refine⟨(sg V λo d=>e o (g o d)).append ?_,?_,?_⟩
 .rw[jX V];exact sg V λo d=>e o (i o d)
 .rw[cW,jX V,jX V]
 .rw[dD,oJ,oJ];have:(2*l.length)*(2*l.length)=4*(l.length*l.length):=by
   rw[Nat.mul_mul_mul_comm]
  omega
def ZV(e:List bz)(c:Nat)(b:Bk):Prop:=∀(S:List Nat)(m:E),(∀d∈S,d<m.size)->∀(t:O)(a:Nat),eN m t b.ap->WB e c True a b->b.w<=400000->nG 230 [.agg #[O.v t,vi b.aT]] m S λd=>WB e c True a d/\d.w<=b.w*b.w
def EB{K:List bz}:∀g:Bk,ZV K c g:=by
 refine Bk.ind ?_;intro ap bh ih s I hS bS a hs a_ hw;have aK:=a_.aW;rw[Bk.qQ]at hw⊢;simp only[Bk.jW,Bk.jv]at*;apply xL;simp -zeta only[aC,aB];intro j k Q m3;let⟨x1,hl⟩:=dP (a:=j) (c:=k) rfl rfl;have s0:j.size=I.size+1:=by simp[j]
 have s1:k.size=I.size+2:=by simp[k,s0]
 have bl:J k m3:=(J.push k _).trans (J.push Q _);have s2:Q.size=k.size+1:=by simp[Q]
 have a2:∀u,GS u k m3 (.mk k.size 0 0 0) []:=λu=>(GS.new u k).ext gQ.mono (J.push Q _);have a1:∀u,GS u k m3 (.mk Q.size 0 0 0) []:=λu=>(GS.new u Q).cv gQ.mono (λg m=>Or.inl m) V;clear_value m3;clear_value k;have a9:=hs.len;have aI:=BH ap;have bA:=fY ap;have aA:∀e∈j.size::s,e<k.size:=bT hS x1.size (hl _ aL);refine xw (n:=ap.length) (a9▸hs.iC) (λv G z q=>∃Z t P,CN K c (j.size::s) k q a ap v G z Z t P) ⟨[],[],0,bl,a2 _,a1 _,WL.nil _ _ _ _,rfl,aL,aL,λ_ h=>by simp at h,λaf⟨_,h,_⟩=>by simp at h,bJ⟩ ?_;rintro v G z y bn μ hk ⟨Z,t,P,C⟩ aM
 have T:=C.x;have R:=x1.trans T;have bK:=C.gs.bh;have bI:=C.gr.bh;have z4:=T.size;have ay:=C.P';have bB:=aI v;have bo:P*P<=160000000000:=bX (Qt (b:=400000) V) be;have bx:=fY Z;have a7:=C.sws;have aG:=C.ne;have L:∀{q:E}{u:List Nat},y.size<=q.size->(∀e∈u,e<q.size)->∀e∈u++j.size::s,e<q.size:=λh m e f=>by
  rcases List.mem_append.1 f with h|h
  .exact m e h
  .have:=aA e h;omega
 have aH:∀{q:E},J y q->eN q z t:=λh=>eN.le (bG _ _) ((C.gr.ext gQ.mono h).nQ gQ.mono (by simpa using aG.symm) be V);refine dit (λh=>?_) λh=>?_
 .let⟨d,X⟩:=cK ap v;let⟨pa,pk,ha,ab,g0,g1,g2,g3,g4⟩:=hs.aG X;refine⟨V,V,_,R.af g0,_,R.af g1,_,R.af g2,_,R.af g3,_,R.af g4,?_⟩;intro m5 F;have x6:J y F:=(J.push y _).ag (ad _) _ _;have s6:F.size=y.size+1:=by simp[F,m5,aw]
  clear_value F;have O:∀{q:E},F.size<=q.size->∀g∈[y.size,j.size,I.size],g<q.size:=λh g m=>by
   rcases List.mem_cons.1 m with i|i
   .omega
   .have:=hl g i;omega
  have bE:=qd X;have bD:=qV X;have ba:=cV.mz d;have W:=aK.1 v d X;have bC:=aI (v+1);have br:=qC d.bE;refine(AX pa pk F).aK (J.aA F) (O (ad _)) λbp m7 a4 x7 _=>⟨_,rfl,λhp=>?_,λhp=>?_⟩
  · -- a pair goes to the run
   have hp:=a4.1 hp;have D:d.args.length=1:=W.fe.kX V;have N:dn d=0:=ae λh:pD d.op=>by have:=h.2;omega
   have A:=x6.trans x7;intro m8;have r:Le I (bP (z.D::[G.D]) m7):=(Al I).trans (((R.trans A).fz []).bP aL λe f=>by simp at f;have:=x1.size;exact Or.inr V);refine GS.kL (x:=d) (C.gr.ext gQ.mono A) ((T.trans A).fz []) (ha.le r) (ab.le r) V λa0 M' U B l w=>⟨λe f=>?_,aM V _ _ _ ⟨Z,t++[d],P,B.ext,(C.gs.ext gQ.mono A).re gQ.mono (Y:=[z.D]) ⟨l.1,λe f o=>w e f (by simpa using o)⟩ aL (by simpa using aG) (λe f=>?_),U,C.wl,by rw[C.Yb];omega,a7,bJ,λak o=>?_,λaf H=>?_,?_⟩⟩
   .have:=O (q:=m7) x7.size e f;rw[w e this (by simp at f;omega),(J.push m7 _).same e this]
   .rcases List.mem_cons.1 f with i|i
    .rcases l.2 with p|p
     .exact Or.inl (by rw[i,p];exact aX)
     .exact Or.inr V
    .exact Or.inl (ai _ i)
   .rcases List.mem_append.1 o with o|o
    .exact C.kX ak o
    .simp at o;subst o;exact D
   .let⟨ak,o,p⟩:=H;have i:dc (ap.take (v+1))=dc (ap.take v):=V;rw[i];rcases List.mem_append.1 o with o|o
    .exact C.Yj af ⟨ak,o,p⟩
    .simp at o;subst o;exact W.fe.args af p
   .have:=(C.gs.ext gQ.mono A).bh;rcases l.2 with i|i<;>omega
  · -- another step ends the run
   have A:=x6.trans x7;have aS:=A.size;refine(yC (b:=[G.D,z.D]++j.size::s) (L aS bJ) (aH A) C.kX V).aK (J.aA m7) (O x7.size) λbO bb bL aW bf aO _=>⟨_,rfl,?_⟩;let⟨an,ag,bj⟩:=Qo (f:=K) (c:=c) bf C.Yj;have bu:=fY bb;have vQ:=aO.size;have z7:=x7.size;have a3:(2*t.length)*(2*t.length)<=160000000000:=bX (Qt (b:=400000) V) be;have aQ:=A.trans aO;refine GS.all (C.gs.ext gQ.mono aQ) ((T.trans aQ).fz []) (aW.done gQ.mono (L (u:=[G.D,z.D]) aS bJ) be V) V λw l av aU aR bg=>⟨λe f=>bg e (O V e f) (by simp at f;omega),?_⟩;have aq:J k l:=aU.ext;have bU:=aR.1;have bF:=av.bh;have bq:w.D=G.D\/F.size<=w.D:=by have:=aR.2;omega
   intro p am;have aP:J l p:=J.push l _;have bQ:p.size=l.size+1:=by simp[p]
   have bk:J p am:=J.push p _;have ar:=aq.trans aP;have gn:GS [w.D] k p (.mk l.size 0 0 0) []:=(GS.new _ l).cv gQ.mono (λg m=>Or.inl m) aq.size;have gk:GB ([w.D,l.size]++j.size::s) p am (.mk p.size 0 0 0) []:=GB.new _ p;have aY:GS ([l.size]++j.size::s) k p w _:=av.re gQ.mono (Y:=[]) (aP.fz []) aL aL λe f=>by
    rcases List.mem_cons.1 f with i|i
    .exact Or.inr V
    .exact Or.inl (ai _ i)
   clear_value am;clear_value p;have al:=ab.len;have bs:=KN d.bE;have bt:bw d.bE<=400000:=V;refine dV (n:=d.bE.length) (al▸ab.iC) (λD bi q=>J p q/\∃r,GB ([w.D,l.size]++j.size::s) p q bi r/\r.length=D/\(∀(B:Nat)(g:Bk),r[B]? =some g->WB K c True (a+dc (ap.take v)+BR K d.op d.bQ B) g)/\bw r<=bw (d.bE.take D)*bw (d.bE.take D)) ⟨bk,[],gk,rfl,aL,aL⟩ ?_;rintro D ks ac I2 μ2 hj ⟨aa,r,U,bv,aE,a5⟩ bd;have ah:=x1.trans (ar.trans aa);have bV:=aa.size;have bH:=U.bh;have N:∀g∈[y.size,j.size,I.size],g<ac.size:=O V;refine dit (λh2=>?_) λh2=>?_
   .let⟨g,m⟩:=cK d.bE D;let⟨tb,aV,f0,f1⟩:=ab.aG m;have a6:=xr m;have aN:=uL m;refine⟨V,V,_,ah.af f0,_,ah.af f1,?_⟩;refine(ih d (au X) g (au m) ([ks.D,w.D,l.size]++j.size::s) ac (L V bJ) tb _ (aV.le ah.le) (W.bE D g m) V).aK (J.aA ac) N λss b' a8 aT aD ao _=>⟨_,_,rfl,?_⟩;refine GB.kL (c:=b') (U.ext rW.mono ao) ((aa.trans ao).fz []) aT V λa0 M' g2 f2 z2 q2=>⟨J.oQ ((aa.trans ao).aH _) f2.ext (λe f=>oh (O (q:=p) V e f)),bd V _ _ ⟨f2.ext,_,g2,bJ,λB b2 H=>?_,?_⟩⟩
    .rcases aZ B r.length with aj|aj
     .rw[ax aj]at H;exact aE B b2 H
     .rw[aF aj]at H;have:B -r.length=0:=by have:=az H;simp at this;omega
      rw[this]at H;simp at H;subst H;have:B=D:=V;subst this;exact aD.1
    .rw[oZ,uK,zP,aN];have h3:=IS (bw (d.bE.take D)) g.w;have:=aD.2;omega
   .have a6:r.length=d.bE.length:=V;rw[cJ V]at a5;refine(bR ([w.D,l.size]++j.size::s) (ha.ext ah) V).aK (J.aA ac) N λs' l' bc ga i H _=>⟨_,rfl,aJ (H.same _ (N _ aL)) _,aJ (H.same _ (N _ aL)) _,aJ (H.same _ (N _ aL)) _,?_⟩;subst i;intro bM;have aj:=aa.trans H;have bW:=H.size;have ao:∀e∈[w.D,l.size]++j.size::s,e<p.size:=L V bJ;have a8:w.D≠l.size:=V;refine GS.kL (x:=⟨d.op,d.bQ,d.bM,d.args,r⟩) (aY.ext gQ.mono aj) ((ar.trans aj).fz []) (ga.done (λe f=>oh (ao e f)) V) (nP.le (H.dg _) (U.done rW.mono ao be (by show r.length<=_;omega))) bJ λaN bN a0 aV bm aD=>⟨λe f=>?_,aM V _ _ _ ⟨_,[],P+2*t.length+d.w,aV.ext,a0,?_,((C.wl.append (by rw[C.Yb];exact an)).yY (W.P6 id W.fe.bM a6 aE|>λh=>by rw[cW,C.Yb,ag,jF];exact h)),?_,?_,bJ,λ_ h=>by simp at h,λaf⟨_,h,_⟩=>by simp at h,?_⟩⟩
    .have h3:=N e f;rw[aD e V (by simp at f;omega),(J.push bc _).same e V]
    · -- the new run is empty
     have i:=gn.ext gQ.mono aj;let⟨p0,aT,p1,p2⟩:=i;refine⟨p0,aT,p1.congr (aD _ (by have:=aj.size;show l.size<_;omega) (kH a8)),p2.len,p2.size,λB cs ak _ o=>by simp at o⟩
    .rw[cW,cW,C.Yb,ag,kN,tx];have i:dn (⟨d.op,d.bQ,d.bM,d.args,r⟩:cV)=dn d:=rfl;omega
    .rw[dD,dD,mO,vJ];have h3:=IS P (2*t.length);have h4:=IS (P+2*t.length) d.w;have h5:(⟨d.op,d.bQ,d.bM,d.args,r⟩:cV).w=1+d.args.length+bw r:=cV.mz _;have o:=IS (1+d.args.length) (bw d.bE);have h7:1+d.args.length<=(1+d.args.length)*(1+d.args.length):=Nat.le_mul_of_pos_left _ V;rw[<-ba]at o;omega
    .rcases bm.2 with i|i
     .show aN.D≠l.size;omega
     .show aN.D≠l.size;omega
 .have al:v=ap.length:=V;subst al;rw[fy]at ay;have hd:dc (ap.take ap.length)=dc ap:=by rw[fy]
  have i:∀g∈[j.size,I.size],g<y.size:=λg m=>T.lt (hl g m);refine(yC (b:=[G.D,z.D]++j.size::s) (L (ad _) bJ) (aH (J.aA _)) C.kX V).aK (J.aA y) i λO l F r A d _=>⟨_,rfl,aJ (d.same _ (i _ aL)) _,?_⟩;let⟨an,ag,bj⟩:=Qo (f:=K) (c:=c) A C.Yj;have D:=fY l;have a3:(2*t.length)*(2*t.length)<=160000000000:=bX (Qt (b:=400000) V) be;have U:=d.size;refine GS.all (C.gs.ext gQ.mono d) ((T.trans d).fz []) (r.done gQ.mono (L (u:=[G.D,z.D]) (ad _) bJ) be V) V λB H w p W o=>⟨λe f=>o e (d.lt (i e f)) (oh (hl e f)),aJ (o _ (d.lt (i _ aL)) V) _,?_⟩;intro N;refine⟨B,.mk (Z++l) bh,rfl,eN.le (cB aL λe f=>ai _ f) ((w.re gQ.mono (S':=j.size::s) (Y:=[]) (Fz.aA _ _) aL aL (λe f=>Or.inl (ai _ f))).done gQ.mono aA be bJ),⟨WB.of (C.wl.append (by rw[C.Yb];exact an)) ?_,?_⟩,(x1.trans p.ext).ag V _ _⟩
  .rw[cW,C.Yb,ag,hd];exact aK.2
  .rw[Bk.qQ,dD];have h3:=IS P (2*t.length);have h4:=Qt ay;have h5:=IS 1 (sw ap);omega
end
section
variable{e:List Nat}{c:E}{d f:O}{g:List gP}{W:Nat}
def Ij(F:∀a∈e,a<c.size){j:List bz}(p:eK c d f j g)(hW:W<=400000)(Z:yK j g True W):vn 209 [.agg #[O.v d,O.v f]] c e j λw=>yK j w True (W*W):=by
 apply AH;simp -zeta only[aC,aB];intro b a2;let⟨z,u⟩:=dP (a:=b) (c:=a2) rfl rfl;have s1:b.size=c.size+1:=by simp[b]
 clear_value a2;have ai:=p.iW.len;have aq:=p.oK;refine(fS (b:=b.size::e) (bT F z.size (u _ aL)) (p.le z.le).bn p.types).mono λ_ K⟨ab,k,ad,A⟩=>?_;subst k;refine⟨A.dv u,_,rfl,?_⟩;intro L am aa;have u2:=z.trans A;let⟨x5,B0,g0,s3,s5⟩:=lg (b:=L.size::b.size::e) iQ.mono (d:=K) (a:=L) (c:=am) (h:=aa) rfl rfl rfl;clear_value aa;have v:∀a∈[b.size,c.size],a<K.size:=λa i=>A.lt (u a i);have H:∀a∈b.size::e,a<K.size:=λa i=>A.lt (bT F z.size (u _ aL) a i);refine kV (R:=λh o M=>∃d f w,Value.agg #[O.v h,O.v o]=.agg #[O.v d,O.v f]/\eK (bP e M) d f j w/\yK j w True (W*W)/\J c M) (r:=g.length) (f:=c) (b:=e) iQ.mono be be F ⟨V,v _ aL⟩ u2 s3 ad ai V x5 B0 g0 (λ_ q=>q.params.length<=3/\q.cO.length<=3/\WB j g.length True q.params.length q.body/\q.body.w<=W*W) (λh t I x U X o r s=>⟨h,t,I,rfl,⟨U,X,p.types,V⟩,HT Z.iY o r,s⟩) λal M st I ao μ ae ap B T C an=>?_
 let⟨q,hq⟩:=cK g al ae;let⟨ah,ag,ak,hw⟩:=Z.dx q (au hq);have y:=u2.trans B;let⟨ar,av,h,c1,c2,c3,N,P,Q,D,E⟩:=p.iW.aG hq;have G:∀{x:Value}{h r:Nat},af c h r=some x->af M h r=some x:=λt=>y.af t;refine⟨st,C.bU 1,V,V,_,G N,_,G P,_,G Q,_,G D,_,G E,V,V,_,G D,_,G E,?_⟩;have hy:=T.bh;have ac:=C.lt;have zM:=B.size;refine(EB q.body (st.D::L.size::b.size::e) M (λa i=>?_) h q.params.length (c3.le y.le) ak V).aK B v λss b' M1 aj Y o u1=>⟨_,_,rfl,?_⟩
 .simp only[aS]at i;rcases i with k|k|k|k
  .omega
  .omega
  .have:=H a (by simp[k]);omega
  .have:=H a (by simp[k]);omega
 have s:∀{x:Value}{h r:Nat},af c h r=some x->af M1 h r=af M h r:=λt=>by rw[o.af (G t),G t]
 refine⟨s N,s P,s Q,s D,s E,aJ (o.same _ (B.lt (v _ aL))) _,aJ (o.same _ ac) _,?_⟩;exact wz (b:=b.size::e) (v:=ab) (x:=I) H (λa i=>by have U:=v a i;have X:=u1.size;omega) u1 (T.ext iQ.mono o) (C.ext o) V (c1.ext (y.trans o)) (c2.ext (y.trans o)) aj ⟨V,V⟩ V λs' X g' U x'=>an s' X _ g' U x' ⟨ah,ag,Y.1,bX Y.2 (Qt hw)⟩
def Yp(b:Bk):Prop:=∀(e:List Nat)(c:E),(∀a∈e,a<c.size)->∀t:O,eN c t b.ap->b.w<=10^12->nG 287 [.agg #[O.v t,vi b.aT]] c e (b=·)
def yA(H:∀i∈e,i<c.size){z B:O}{x:cV}(I:ar c z x.args)(u:nP c B x.bE)(hw:x.w<=10^12)(P:∀h∈x.bE,Yp h):KC 318 [pA x z B] c e (x=·):=by
 apply CE;simp -zeta only[aC,aB];intro d a y;let⟨D,v⟩:=dP (a:=d) (c:=a) rfl rfl;have R:d.size=c.size+1:=by simp[d]
 have s1:a.size=c.size+2:=by simp[a,R]
 have S:J a y:=J.push _ _;have F:GB (d.size::e) a y (.mk a.size 0 0 0) []:=GB.new _ a;clear_value y;clear_value a;have r:∀i∈d.size::e,i<a.size:=bT H D.size (v _ aL);have K:=u.len;have aa:=cV.mz x;have Y:=qC x.bE;refine dV (n:=x.bE.length) (K▸u.iC) (λw s M=>J a M/\GB (d.size::e) a M s (x.bE.take w)) ⟨S,F⟩ ?_;rintro w s p U μ hj ⟨m,o⟩ Q
 have l:=D.trans m;have k:∀h∈[d.size,c.size],h<p.size:=λh j=>m.lt (v h j);have N:=o.bh;have T:=m.size;refine dit (λG=>?_) λG=>?_
 .let⟨h,j⟩:=cK x.bE w;let⟨tb,M,A,E⟩:=u.aG j;have Z:=xr j;refine⟨V,V,_,l.af A,_,l.af E,?_⟩;refine(P h (au j) (s.D::d.size::e) p (bT r T N.2) tb (M.le l.le) V).aK (J.aA p) k λss X C L q g _=>⟨_,_,rfl,?_⟩;subst q;refine GB.kL (c:=h) (o.ext rW.mono g) ((m.trans g).fz []) L bJ λf W g2 t z2 q2=>⟨J.oQ ((m.trans g).aH _) t.ext v,Q V _ _ ⟨t.ext,?_⟩⟩;rw[bd j];exact g2
 .rw[cJ V]at o;refine(bR (d.size::e) (I.ext l) V).aK (J.aA p) k λM W C E q g _=>⟨_,rfl,aJ (g.same _ (k _ aL)) _,aJ (g.same _ (k _ aL)) _,aJ (g.same _ (k _ aL)) _,?_⟩;subst q;intro L;have A:Le (bP (d.size::e) C) (bP e L):=cB aL λi t=>ai _ t;exact⟨M,s,x,rfl,(E.done (λi t=>oh (r i t)) V).le A,nP.le A ((o.ext rW.mono g).done rW.mono r be V),rfl,(l.trans g).ag V _ _⟩
def wH:∀j:Bk,Yp j:=by
 refine Bk.ind ?_;intro ap h ih e c W al z hw;rw[Bk.qQ]at hw;simp only[Bk.jW,Bk.jv]at*;apply rL;simp -zeta only[aC,aB];intro f b d C q;let⟨I,y⟩:=dP (a:=f) (c:=b) rfl rfl;have s0:f.size=c.size+1:=by simp[f]
 have s1:b.size=c.size+2:=by simp[b,s0]
 have s2:d.size=b.size+1:=by simp[d]
 have s3:C.size=d.size+1:=by simp[C]
 have K:J d q:=(J.push d _).ag (ad _) _ _;have ag:J b q:=(J.push b _).trans K;have x:GS (d.size::f.size::e) b q (.mk b.size 0 0 0) []:=(GS.new _ b).ext gQ.mono K;have N:cw q d.size di [.s (.mk b.size 0 0 0),.i h]:=cw.ag (m:=C) (o:=0) (r:=[.s (.mk b.size 0 0 0),.i h]) (cw.push d _ _);clear_value q;have F:∀u∈f.size::e,u<b.size:=bT W I.size (y _ aL);have ae:=z.len;have aj:=fY ap;refine fm (n:=ap.length) (ae▸z.iC) (λA M=>J b M/\∃s,GS (d.size::f.size::e) b M s (ap.take A)/\cw M d.size di [.s s,.i h]) ⟨ag,_,x,N⟩ ?_;rintro A D ah μ hk ⟨w,s,l,B⟩ af
 have g:=I.trans w;have ac:∀j∈[f.size,c.size],j<D.size:=λj Y=>w.lt (y j Y);have hy:=l.bh;have z5:=w.size;have E:=B.lt;refine dit (λU=>?_) λU=>?_
 .let⟨H,v⟩:=cK ap A;let⟨pa,pk,X,ab,x,g1,g2,R,T⟩:=z.aG v;have ak:=Pd v;refine⟨s,B.bU 0,V,V,_,g.af x,_,g.af g1,_,g.af g2,_,g.af R,_,g.af T,?_⟩;refine(yA (e:=s.D::d.size::f.size::e) (bT (bT F z5 E) (ad _) hy.2) (X.ext g) (ab.le g.le) V (ih H (au v))).aK (J.aA D) ac λM O x' G Z aa k t _=>⟨_,_,_,_,_,rfl,aJ (t.same _ E) _,?_⟩;subst k;intro m7;refine Gr.box (g:=[.i 0,.i 0,.i 0,.s .nil,.s .nil]) (j:=0) (i:=[.s s,.i h]) (w:=H) gQ.mono be (l.ext gQ.mono t) ((w.trans t).fz []) ⟨M,O,rfl,Z,aa⟩ bJ (B.ext t) aL be ⟨V,aL⟩ (λu p=>by have L:=y u p;have P:=t.size;omega) λr' m' Q L P z' q'=>af V _ ⟨P.ext,r',?_,L⟩
  rw[bd v];exact Q
 .rw[cJ V]at l;refine⟨s,B.bU 0,h,B.bU 1,?_⟩;intro G;have v:=l.ne B be;have t:Le (bP (d.size::f.size::e) D) (bP e G):=cB aL λu p=>ai _ (ai _ p);refine⟨s,.mk ap h,rfl,eN.le t (l.nQ gQ.mono (λp=>?_) be (by show ap.length<=_;omega)),rfl,g.ag V _ _⟩;rcases List.mem_cons.1 p with k|k
  .exact v k
  .have:=F _ k;omega
def ZT(b:Bk):Prop:=∀(c:E)(t:O)(f:Int),eN c t b.ap->oX 319 [.agg #[O.v t,vi b.aT],vi f] c
def JR:∀b:Bk,ZT b:=by
 refine Bk.ind ?_;intro ap Y G c t s m;simp only[Bk.jW,Bk.jv]at*;apply CC;simp -zeta only[aC,aB];intro g;have A:J c g:=J.push _ _;have D:∀b∈[c.size],b<g.size:=by simp[g]
 clear_value g;have F:=m.len;refine fm (n:=ap.length) (F▸m.iC) (λ_ M=>J g M) (J.aA _) ?_;rintro k o I μ X r N
 have h:=A.trans r;refine⟨λj=>?_,λ_=>rA h⟩;simp only[aq]at j;let⟨x,v⟩:=cK ap k;let⟨pa,w,U,l,B,g1,g2,T,u⟩:=m.aG v;have C:=l.len;have L:∃(i:Int->E->Prop)(μ0_1:Int->E->Nat),i (0:Int) o/\(∀(a:Int)(M:E),i a M->
  (0:Int)<=(k:Int)/\(k:Int)<(t.len:Int)/\∃q:O,af M t.D (t.off+Int.toNat (k:Int)*5+4)=some (O.v q)/\
  ((decide (a<(q.len:Int)))=true->(0:Int)<=(k:Int)/\(k:Int)<(t.len:Int)/\∃d:O,af M t.D (t.off+Int.toNat (k:Int)*5+4)=some (O.v d)/\
   (0:Int)<=a/\a<(d.len:Int)/\∃y:O,af M d.D (d.off+Int.toNat a*2)=some (O.v y)/\∃z:Int,af M d.D (d.off+Int.toNat a*2+1)=some (vi z)/\
   aM cq 319 [.agg #[O.v y,vi z],vi s] M λf e=>dY [c.size] M e/\∃p:Bool,f=vb p/\(p=true->∃b:Bool,vb true=.bool b/\J c e)/\(p=false->i (cR (a+(1:Int))) e/\μ0_1 (cR (a+(1:Int))) e<μ0_1 a M))/\
  ((decide (a<(q.len:Int)))=false->I (cR ((k:Int)+(1:Int))) M/\μ (cR ((k:Int)+(1:Int))) M<μ k o)):=by
  refine fm (n:=x.bE.length) (C▸l.iC) (λ_ M=>J o M) (J.aA _) ?_
  rintro H M R μ2 W d K
  have a:=h.trans d
  refine⟨V,V,w,a.af u,λj=>?_,λ_=>N V _ (r.trans d)⟩
  simp only[aq]at j
  let⟨b,p⟩:=cK x.bE H
  let⟨tb,z,q,y⟩:=l.aG p
  refine⟨V,V,w,a.af u,V,V,_,a.af q,_,a.af y,?_⟩
  exact(G x (au v) b (au p) M tb s (z.le a.le)).aK (r.trans d) D λS e Q P=>⟨_,rfl,λ_=>rA (A.trans P),λ_=>K V _ (d.trans Q)⟩
 exact⟨V,V,_,h.af B,λ_=>⟨V,V,_,h.af g1,λ_=>rA h,λ_=>L⟩,λ_=>L⟩
def JY{o:List bz}(h:eK c d f o g)(i:Int):oX 288 [.agg #[O.v d,O.v f],vi i] c:=by
 apply CO;simp -zeta only[aC,aB];intro a;have k:J c a:=J.push _ _;have s:∀e∈[c.size],e<a.size:=by simp[a]
 clear_value a;have H:=h.iW.len;have G:=h.oK;refine fm (n:=g.length) V (λ_ M=>J a M) (J.aA _) ?_;rintro u v I μ F l w
 have b:=k.trans l;refine⟨λr=>?_,λ_=>rA b⟩;simp only[aq]at r;let⟨x,t⟩:=cK g u;let⟨K,L,e,A,B,m,C,D,E,p,q⟩:=h.iW.aG t;exact⟨V,V,_,b.af p,_,b.af q,(JR x.body v e i (m.le b.le)).aK l s λz y M j=>⟨_,rfl,λ_=>rA (k.trans j),λ_=>w V _ j⟩⟩
abbrev ZG(e:List Nat)(a c:E)(s:O)(l:List (List Int)):Prop:=Gr e a c ym 1 mT s l
def Gv(Z:∀a∈e,a<c.size){R:List bz}(o:eK c d f R g)(hp:∀y∈g,y.params.length<=3):
 aM cq 253 [.agg #[O.v d,O.v f]] c λae G=>∃s l,ae=O.v s/\pC (bP e G) s l/\l.length=g.length/\(∀a∈l,a.length<=3)/\J c G:=by
 apply y9
 simp -zeta only[aC,aB]
 intro b x
 have N:J c b:=J.push _ _
 have v:∀z∈[c.size],z<b.size:=by simp[b]
 have af:J b x:=J.push _ _
 have W:ZG e b x (.mk b.size 0 0 0) []:=Gr.new e (ad _) _ _ _
 clear_value x
 clear_value b
 have aj:=o.iW.len;have ai:=o.oK
 have C:∀a∈e,a<b.size:=λa u=>N.lt (Z a u)
 refine dV (n:=g.length) V (λk s M=>J b M/\∃l,ZG e b M s l/\l.length=k/\∀a∈l,a.length<=3) ⟨af,[],W,rfl,aL⟩ ?_
 rintro k s H P μ hk ⟨r,l,t,ag,B⟩ aa
 have q:=N.trans r
 have h:=t.bh
 refine dit (λY=>?_) λY=>?_
 .let⟨y,D⟩:=cK g k
  let⟨ab,ak,z,Q,c2,c3,T,e1,e2,e3,e4⟩:=o.iW.aG D
  have ah:=hp y (au D)
  have iy:∀(M:E)(i:O)(a:List Int),J H M->ar (bP (s.D::e) M) i a->a.length<=3->jM (M.push (.cells (bA [.s i]) ym)) ym [.s O.nil] 24 s (O.mk M.size 0 1 1) λK m=>dY [c.size] (M.push (.cells (bA [.s i]) ym)) m/\P K (cR ((k:Int)+(1:Int))) m/\μ K (cR ((k:Int)+(1:Int))) m<μ s k H:=λM i a w hf u=>
   Gr.kL (g:=[.s .nil]) mT.mono be (t.ext mT.mono w) ((r.trans w).fz []) ⟨i,rfl,hf⟩ V λr' m U A _ _=>⟨J.oQ ((r.trans w).aH _) A.ext v,aa V _ _ ⟨A.ext,_,U,bJ,λj h=>by
    rcases List.mem_append.1 h with h|h
    .exact B j h
    .simp at h;subst h;exact u⟩⟩
  refine(JY (o.le q.le) k).aK r v λa m4 j L=>⟨_,rfl,λ_=>?_,λ_=>⟨V,V,ab,(q.trans j).af T,?_⟩⟩
  .intro p m6
   exact iy p _ [] (j.aH _) (mK _ _ _ _ _ _) aL
  .refine(sA (S:=[]) aL (a:=0) ((Q.ext (q.trans j)).le (Al _)) V).aK L v λac F p X I x5 u5=>⟨_,rfl,?_⟩
   intro m6
   have hg:GI (s.D::e) m4 p ac F:=X.any
   exact iy p _ F (j.trans x5) (hg.done (bT C L.size (oh j.size)) (oh I.2)) (oh I.2)
 .exact⟨s,l,rfl,t.done mT.mono C be V,V,B,q⟩
def ZU(a:List bz)(g:List gP)(b:Bk):Prop:=∀(c:E)(d f t:O)(v:Int)(h:Prop)(e:Nat),eK c d f a g->eN c t b.ap->WB a g.length h e b->oX 289 [.agg #[O.v d,O.v f],.agg #[O.v t,vi b.aT],vi v] c
def AJ{C:List bz}:∀b:Bk,ZU C g b:=by
 refine Bk.ind ?_;intro ap ah ih c d f ai ae m ag E t Z;have aa:=Z.aW.1;simp only[Bk.jW,Bk.jv]at*;apply vz;simp -zeta only[aC,aB];intro K v;let⟨O,W⟩:=dP (a:=K) (c:=v) rfl rfl;clear_value v;have X:=t.len;refine⟨λ_=>rA O,λ_=>?_⟩;refine fm (n:=ap.length) (X▸t.iC) (λ_ M=>J v M) (J.aA _) ?_;rintro I p af μ hk A ac
 have e:=O.trans A;refine⟨λj=>?_,λ_=>rA e⟩;simp only[aq]at j;let⟨x,u⟩:=cK ap I;let⟨pa,pk,o,r,Q,g1,g2,R,S⟩:=t.aG u;have F:=aa I x u;have T:=o.len;have U:=r.len;refine⟨V,V,_,e.af Q,_,e.af g1,_,e.af g2,_,e.af R,_,e.af S,?_⟩;intro m3 h;have B:J p h:=(J.push p _).ag (ad _) _ _;have s4:h.size=p.size+1:=by simp[h,m3,aw]
 clear_value h;have s:∀b∈[p.size,K.size,c.size],b<h.size:=λb k=>by
  rcases List.mem_cons.1 k with D|D
  .omega
  .exact(A.trans B).lt (W b D)
 refine fm (n:=x.args.length) (T▸o.iC) (λ_ M=>J h M) (J.aA _) ?_;rintro H L I1 μ1 hj l y;have z:=(e.trans B).trans l;refine⟨λj=>?_,λ_=>?_⟩
 .simp only[aq]at j;let⟨Y,P⟩:=cK x.args H;refine⟨V,V,Y,(o.ext z).aG P,λ_=>?_,λ_=>y V _ l⟩;refine(yz x.op L).aK l s λm w i G=>⟨_,rfl,λ_=>?_,λ_=>y V _ G⟩;have a:=z.trans i;exact(og (⟨E.le a.le,o.ext a,F.fe.call⟩:At w d f pa pk C g x) H).aK G s λm m7 q N=>⟨_,rfl,λ_=>rA (a.trans q),λ_=>y V _ N⟩
 .refine fm (n:=x.bE.length) (U▸r.iC) (λ_ M=>J L M) (J.aA _) ?_;rintro G w I2 μ2 hi i ab;have a:=z.trans i;refine⟨λj=>?_,λ_=>ac V _ (((A.trans B).trans l).trans i)⟩;simp only[aq]at j;let⟨b,k⟩:=cK x.bE G;let⟨tb,Y,M,P⟩:=r.aG k;refine⟨V,V,_,a.af M,_,a.af P,?_⟩;exact(ih x (au u) b (au k) w d f tb ae m _ (E.le a.le) (Y.le a.le) (F.bE G b k)).aK (l.trans i) s λm m7 q N=>⟨_,rfl,λ_=>rA (a.trans q),λ_=>ab V _ (i.trans q)⟩
def J0(P:∀h∈e,h<c.size){A:List bz}(r:eK c d f A g){h:Prop}(Q:yK A g h W){B:Nat}{q:gP}(s:g[B]? =some q):ln 254 [.agg #[O.v d,O.v f],vi B] c e λl=>l.length<=q.cO.length:=by
 apply CP;simp -zeta only[aC,aB];intro a u;have y:J c a:=J.push _ _;have E:∀k∈[c.size],k<a.size:=by simp[a]
 have T:J a u:=J.push _ _;have N:GI e a u (.mk a.size 0 0 0) []:=GI.nil e a;clear_value u;clear_value a;have af:=r.iW.len;have aa:=az s;let⟨ae,ac,R,hw⟩:=Q.dx q (au s);let⟨ah,w,k,X,m,I,Z,o,e2,K,L⟩:=r.iW.aG s;have ag:=m.len;refine dV (n:=q.cO.length) V (λt v M=>J a M/\∃l,GI e a M v l/\l.length<=t) ⟨T,[],N,ad _⟩ ?_;rintro t v S U μ ab ⟨H,l,p,D⟩ G
 have b:=y.trans H;refine⟨V,V,w,b.af o,λi=>?_,λi=>⟨v,l,rfl,p.cv (λ_ i=>i) y.size,V,b⟩⟩;simp only[aq]at i;let⟨z,F⟩:=cK q.cO t;refine⟨V,V,_,b.af K,_,b.af L,V,V,w,b.af o,V,V,z,(m.ext b).aG F,?_⟩;refine(AJ q.body S d f k z h _ (r.le b.le) (I.le b.le) R).aK H E λY m4 j x=>⟨_,rfl,λ_=>⟨V,V,w,(b.trans j).af o,V,V,z,(m.ext (b.trans j)).aG F,?_⟩,λ_=>G V _ _ ⟨x,l,p.ext j,V⟩⟩;intro m5;exact GI.kL (p.ext j) (x.fz []) (λh D=>y.lt (P h D)) V λf m6 M C _ _=>⟨J.oQ (x.aH _) C.ext E,G V _ _ ⟨C.ext,_,M,bJ⟩⟩
end
section
variable{b:List Nat}{e:E}{d g:O}{f:List gP}{c:Prop}{W:Nat}
def yE(Q:∀c∈b,c<e.size){lt:O}{v:List bz}{H:List (List Int)}(y:eK e d g v f)(hW:W<=1000000)(hk:yK v f c W)(ag:pC e lt H)(aQ:H.length=f.length)(av:∀c∈H,c.length<=3):
 vn 252 [.agg #[O.v d,O.v g],O.v lt] e b v λz=>yK v z c W/\z.length=f.length:=by
 apply Dk
 simp -zeta only[aC,aB]
 intro j a2
 let⟨K,D⟩:=dP (a:=j) (c:=a2) rfl rfl
 have s1:j.size=e.size+1:=by simp[j]
 clear_value a2
 have az:=y.iW.len;have aT:=y.oK
 refine(fS (b:=j.size::b) (bT Q K.size (D _ aL)) (y.le K.le).bn y.types).mono λ_ Y⟨dd,h,ap,L⟩=>?_
 subst h
 refine⟨L.dv D,_,rfl,?_⟩
 intro s aI al
 have u2:=K.trans L
 let⟨x5,B0,g0,s3,s5⟩:=lg (b:=s.size::j.size::b) iQ.mono (d:=Y) (a:=s) (c:=aI) (h:=al) rfl rfl rfl
 clear_value al
 have U:∀c∈[j.size,e.size],c<Y.size:=λc k=>L.lt (D c k)
 have ae:∀c∈j.size::b,c<Y.size:=λc k=>L.lt (bT Q K.size (D _ aL) c k)
 refine kV (R:=λl o M=>∃d g z,Value.agg #[O.v l,O.v o]=.agg #[O.v d,O.v g]/\eK (bP b M) d g v z/\(yK v z c W/\z.length=f.length)/\J e M) (r:=f.length) (f:=e) (b:=b) iQ.mono be be Q ⟨V,U _ aL⟩ u2 s3 ap az V x5 B0 g0 (λ_ q=>q.params.length<=3/\q.cO.length<=3/\WB v f.length c q.params.length q.body/\q.body.w<=W) (λo Z aj m' h1 C l p r=>⟨o,Z,aj,rfl,⟨h1,C,y.types,V⟩,⟨HT hk.iY l p,l⟩,r⟩) λai M t aj aM μ aq aP xM ac N aK=>?_
 let⟨q,hq⟩:=cK f ai aq
 let⟨ay,aO,aE,hw⟩:=hk.dx q (au hq)
 have v6:=u2.trans xM
 let⟨aV,aW,p,c1,c2,c3,e0,e1,e2,e3,e4⟩:=y.iW.aG hq
 have G:∀{am:Value}{p x:Nat},af e p x=some am->af M p x=some am:=λB=>v6.af B
 refine⟨V,V,_,G e0,_,G e1,_,G e2,_,G e3,_,G e4,?_⟩
 intro m7 l
 have hy:=ac.bh
 have aN:=N.lt
 have zM:=xM.size
 have x8:J M l:=(J.push M _).ag (ad _) _ _
 have s8:l.size=M.size+1:=by simp[l,m7,aw]
 clear_value l
 have F:∀c∈[M.size,j.size,e.size],c<l.size:=λc k=>by
  rcases List.mem_cons.1 k with h|h
  .omega
  .have:=U c h;omega
 have A:=v6.trans x8
 have r:∀{M1 M2:E},J l M1->J l M2->∀p,p<l.size->∀x,af M2 p x=af M1 p x:=λB h' p hb x=>aJ (by rw[h'.same p hb,B.same p hb]) x
 have w:M.size<l.size:=V
 have X:s.size<l.size:=V
 let⟨ab,ah⟩:=cK H ai
 let⟨yt,aG,P⟩:=ag.aG ah
 have aF:=av ab (au ah)
 have aR:=ag.len
 have T:∀{M':E},l.size<=M'.size->∀c∈t.D::s.size::j.size::b,c<M'.size:=λB c k=>by
  simp only[aS]at k;rcases k with h|h|h|h
  .omega
  .omega
  .have:=ae c (by simp[h]);omega
  .have:=ae c (by simp[h]);omega
 refine⟨t,(N.ext x8).bU 1,V,V,yt,A.af P,?_⟩
 refine(bR (t.D::s.size::j.size::b) (c1.ext A) V).aK (J.aA l) F λp' _ m9 gp h o _=>⟨_,rfl,r (J.aA _) o _ w _,r (J.aA _) o _ w _,r (J.aA _) o _ w _,((A.trans o).af P).trans (A.af P).symm,r (J.aA _) o _ X _,?_⟩
 subst h
 refine(bR (t.D::s.size::j.size::b) (aG.ext (A.trans o)) V).aK o F λt' _ aH gt h an u=>⟨_,rfl,r o u _ w _,r o u _ w _,r o u _ w _,r o u _ X _,?_⟩
 subst h
 have z9:=o.size;have vQ:=an.size
 refine(wH q.body (t.D::s.size::j.size::b) aH (T V) p (c3.le (A.trans u).le) V).aK u F λss b' ak aA h ao I=>⟨_,_,rfl,r u I _ w _,r u I _ X _,?_⟩
 subst h
 intro aU
 have aa:=x8.trans I
 have aX:=I.size
 have ax:ar (bP (t.D::s.size::j.size::b) ak) p' q.params:=(gp.done (T V) V).le ((an.trans ao).dg _)
 have aD:ar (bP (t.D::s.size::j.size::b) ak) t' ab:=(gt.done (T V) V).le (ao.dg _)
 exact Gr.box (g:=[.s .nil,.s .nil,.i 0,.s .nil,.i 0]) (j:=1) (y:=88) (i:=[.s dd,.s t]) (w:=⟨q.params,ab,q.aT,q.body⟩) iQ.mono be (ac.ext iQ.mono aa) ((xM.trans aa).fz []) ⟨p',t',ss,rfl,ax,aD,aA⟩ V (N.ext aa) aL be ⟨V,aL⟩ (λc k=>by have h1:=F c k;have C:=U c;simp only[aS]at k C;rcases k with h|h|h|h<;>first|omega|(have:=C (by simp[h]);omega)|simp at h) λZ m' g' C f' z' q'=>aK Z m' _ g' C f'.ext ⟨ay,aF,aE,hw⟩
def J5(hS:∀c∈b,c<e.size){A:List bz}(Z:eK e d g A f)(hW:W<=1000000)(hk:yK A f c W):vn 238 [.agg #[O.v d,O.v g]] e b A λt=>yK A t c W:=by
 apply CS;simp -zeta only[aC,aB];intro i a2;let⟨x2,G⟩:=dP (a:=i) (c:=a2) rfl rfl;have s1:i.size=e.size+1:=by simp[i]
 have s2:a2.size=e.size+2:=by simp[a2,s1]
 clear_value a2;have aG:=Z.iW.len;have aE:=Z.oK;have aj:∀c∈i.size::b,c<a2.size:=bT hS x2.size (G _ aL);have p:∀{M q:E},J a2 M->J a2 q->∀ac,af q e.size ac=af M e.size ac:=λu h' ac=>aJ (by rw[h'.same _ (G _ aL),u.same _ (G _ aL)]) ac;have tail:∀(Q:E)(a:Nat)(z y:O)(C:List gP),J a2 Q->a2.size<=a->cw Q a nt [.s z,.s y]->eK (bP (a::i.size::b) Q) z y A C->yK A C c W->
  ∃(I0:Int->E->Prop)(μ0:Int->E->Nat),I0 (0:Int) Q/\(∀(l:Int)(v:E),I0 l v->
   ((decide (l<=(12:Int)))=true->
    let U:E:=v.push (.cells (bA []) ym)
    ∃(w:O->Int->E->Prop)(μ1:O->Int->E->Nat),w (O.mk v.size 0 0 0) (0:Int) U/\(∀(s:O)(x:Int)(h:E),w s x h->
     ∃D:O,af h a 1=some (O.v D)/\
     ((decide (x<(D.len:Int)))=true->∃j:O,af h a 0=some (O.v j)/\∃k:O,af h a 1=some (O.v k)/\
      aM cq 254 [.agg #[O.v j,O.v k],vi x] h λY P=>dY [i.size,e.size] h P/\∃aa:O,Y=O.v aa/\
       let ae:E:=P.push (.cells (bA [.s aa]) ym)
       jM ae ym [.s O.nil] 24 s (O.mk P.size 0 1 1) λF B=>dY [i.size,e.size] ae B/\w F (cR (x+(1:Int))) B/\μ1 F (cR (x+(1:Int))) B<μ1 s x h)/\
     ((decide (x<(D.len:Int)))=false->∃j:O,af h a 0=some (O.v j)/\∃k:O,af h a 1=some (O.v k)/\
      aM cq 252 [.agg #[O.v j,O.v k],O.v s] h λH I=>dY [i.size,e.size] h I/\∃B:O,∃F:O,H=.agg #[O.v B,O.v F]/\eC I a 0 2/\
       let L:E:=ag I a 0 [.s B,.s F]
       dY [i.size,e.size] I L/\I0 (cR (l+(1:Int))) L/\μ0 (cR (l+(1:Int))) L<μ0 l v)))/\
   ((decide (l<=(12:Int)))=false->∃j:O,af v a 0=some (O.v j)/\∃k:O,af v a 1=some (O.v k)/\
    let ah:E:=ag v i.size 0 [.s j,.s k]
    ∃d g t,Value.agg #[O.v j,O.v k]=.agg #[O.v d,O.v g]/\eK (bP b ah) d g A t/\yK A t c W/\J e ah)):=by
  intro Q a z y C T ar hB hN R
  refine fm (n:=13) V (λ_ M=>J a2 M/\∃z y C,cw M a nt [.s z,.s y]/\eK (bP (a::i.size::b) M) z y A C/\yK A C c W) ⟨T,z,y,C,hB,hN,R⟩ ?_
  rintro aI v az μ aD ⟨x6,z,y,C,H,N,K⟩ ay
  have aA:=H.lt
  have aH:=N.iW.len
  have aF:=N.oK
  refine⟨λu=>?_,λu=>?_⟩
  .simp only[aq]at u
   intro U
   have ao:J v U:=J.push _ _
   have g0:ZG [] v U (.mk v.size 0 0 0) []:=Gr.new _ (ad _) _ _ _
   refine dV (n:=C.length) V (λx s M=>J v M/\∃l,ZG [] v M s l/\l.length=x/\∀c∈l,c.length<=3) ⟨ao,[],g0,rfl,aL⟩ ?_
   rintro x s h I2 μ2 hf ⟨D,l,ab,ap,B⟩ am
   have u8:=x6.trans D
   have N8:=N.le (D.dg _)
   refine⟨y,(H.ext D).bU 1,dit (λF=>?_) λF=>?_⟩
   .let⟨X,hq⟩:=cK C x
    have an:=(K.dx X (au hq)).2.1
    have j:=ab.bh
    refine⟨z,(H.ext D).bU 0,y,(H.ext D).bU 1,?_⟩
    refine(J0 (e:=[s.D]) bJ (N8.le (bG _ _)) K hq).aK u8 G λaa av P ak aw x9 u9=>⟨_,rfl,?_⟩
    intro ae
    refine Gr.kL (g:=[.s .nil]) mT.mono be (ab.ext mT.mono x9) ((D.trans x9).fz []) ⟨aa,rfl,ak.done bJ V⟩ V λw q g' k _ _=>⟨J.oQ (u9.aH _) (x6.trans k.ext) G,am V _ _ ⟨k.ext,_,g',bJ,λal j=>?_⟩⟩
    rcases List.mem_append.1 j with j|j
    .exact B al j
    .simp at j;subst j;omega
   .refine⟨z,(H.ext D).bU 0,y,(H.ext D).bU 1,?_⟩
    have ak:pC h s l:=eR.le (ab.done mT.mono aL be V) (bG _ _) (mT.le (bG _ _))
    have z8:=D.size;have z6:=x6.size
    refine(yE (b:=a::i.size::b) (λc k=>?_) (N8.le (bG _ _)) hW K ak V B).mono λ_ I⟨d2,Y,an,j,N2,⟨K2,_⟩,aa⟩=>?_
    .rcases List.mem_cons.1 k with j|j
     .omega
     .have:=aj c j;omega
    subst j
    have ae:=(H.ext D).ext aa
    refine⟨u8.VC G aa,_,_,rfl,ae.eC aL,?_⟩
    intro L
    have al:∀P,P≠a->L[P]? =I[P]? :=λP hb=>bo _ _ _ _ hb
    refine⟨λc k=>al c (oh (G c k)),ay V _ ⟨(u8.trans aa).ag ar _ _,d2,Y,an,cw.ag (m:=I) (o:=0) (r:=[.s d2,.s Y]) ae,N2.le (cB aL λ_ u=>u),K2⟩⟩
  .refine⟨z,H.bU 0,y,H.bU 1,?_⟩
   intro ah
   exact⟨z,y,C,rfl,(N.le (jS v λc k=>ai _ k)).le (cB aL λc k=>ai _ k),K,(x2.trans x6).ag V _ _⟩
 have av:∀X∈f,X.params.length<=3:=λX hq=>(hk.dx X hq).1;have al:∀(M:E)(L:List Nat)(K:Value->E->Prop),J a2 M->(∀c∈L,c<M.size)->(∀s l q,pC q s l->l.length=f.length->(∀c∈l,c.length<=3)->J M q->K (O.v s) q)->aM cq 253 [.agg #[O.v d,O.v g]] M λak U=>dY L M U/\K ak U:=λM L K T hL R=>
  (Gv (e:=[]) aL (Z.le (x2.trans T).le) av).mono λ_ q⟨s,l,j,I,F,B,Y⟩=>⟨Y.dv hL,j▸R s l q (eR.le I (bG _ _) (mT.le (bG _ _))) F B Y⟩
 have cO:∀(M:E)(S' L:List Nat)(K:Value->E->Prop)(s:O)(l:List (List Int)),J a2 M->(∀c∈L,c<M.size)->(∀c∈S',c<M.size)->pC M s l->l.length=f.length->(∀c∈l,c.length<=3)->(∀x w t q,eK (bP S' q) x w A t->yK A t c W->J M q->K (.agg #[O.v x,O.v w]) q)->aM cq 252 [.agg #[O.v d,O.v g],O.v s] M λak U=>dY L M U/\K ak U:=λM S' L K s l T hL ap I F B R=>
  (yE ap (Z.le (x2.trans T).le) hW hk I F B).mono λ_ q⟨x,w,t,j,N,⟨K1,_⟩,Y⟩=>⟨Y.dv hL,j▸R x w t q N K1 Y⟩
 have am:∀{M:E}{a:Nat},J a2 M->a<M.size->∀c∈a::i.size::b,c<M.size:=λu hb c k=>by
  have:=u.size;rcases List.mem_cons.1 k with j|j
  .omega
  .have:=aj c j;omega
 have ah:∀{M:E}{a:Nat},J a2 M->a<M.size->∀c∈[a,i.size,e.size],c<M.size:=λu hb c k=>by
  rcases List.mem_cons.1 k with j|j
  .omega
  .exact u.lt (G c j)
 refine⟨al a2 _ _ (J.aA _) G λs l ab I F B h=>⟨_,rfl,p (J.aA _) h _,p (J.aA _) h _,⟨?_,?_⟩⟩,?_⟩
 .refine cO ab (i.size::b) _ _ s l h (λc k=>h.lt (G c k)) (λc k=>h.lt (aj c k)) I F B λx w t m3 N K P=>⟨_,_,rfl,?_⟩;have D:=h.trans P;intro m4;have u4:J a2 m4:=D.aH _;refine⟨p D u4 _,p D u4 _,p D u4 _,p D u4 _,?_⟩;intro m5;have aa:J m3 m5:=(J.push m3 _).ag (ad _) _ _;exact tail m5 m3.size x w t (D.trans aa) D.size (cw.ag (m:=m4) (o:=0) (r:=[.s x,.s w]) (cw.push m3 _ _)) (N.le (aa.bP λc k=>by
   rcases List.mem_cons.1 k with j|j
   .exact Or.inr V
   .exact Or.inl j)) K
 .intro aa;have D:J a2 aa:=h.aH _;refine⟨p h D _,p h D _,p h D _,p h D _,?_⟩;refine cO aa (ab.size::i.size::b) _ _ s l D (ah D (by simp[aa])) (am D (by simp[aa])) (pC.ext (J.push _ _) I) F B λx w t ae N K P=>⟨_,_,rfl,?_⟩;intro an;exact tail an ab.size x w t ((D.trans P).ag h.size _ _) h.size (cw.ag (m:=ae) (o:=0) (r:=[.s x,.s w]) ((cw.push ab _ _).ext P)) (N.le (cB aL λ_ u=>u)) K
 .intro aa;have D:J a2 aa:=J.push _ _;refine⟨p (J.aA _) D _,p (J.aA _) D _,p (J.aA _) D _,p (J.aA _) D _,?_⟩;refine al aa _ _ D (ah D (by simp[aa])) λs l ao I F B h=>⟨_,rfl,p D (D.trans h) _,p D (D.trans h) _,?_⟩;have ae:=D.trans h;have an:a2.size<ao.size:=h.lt (by simp[aa]);refine cO ao (a2.size::i.size::b) _ _ s l ae (ah ae an) (am ae an) I F B λx w t aw N K P=>⟨_,_,rfl,?_⟩;intro ax;exact tail ax a2.size x w t ((ae.trans P).ag (ad _) _ _) (ad _) (cw.ag (m:=aw) (o:=0) (r:=[.s x,.s w]) ((cw.push a2 _ _).ext (h.trans P))) (N.le (cB aL λ_ u=>u)) K
end
section
variable{w:Int}{r:List Int}
structure bO where
 aQ:Int
 kG:Int
 aN:List Int
structure aU where
 eg:Int
 pc:Int
 dst:Int
 an:List Int
 aR:List Int
 aY:List Int
structure St where
 bI:Int
 value:Int
 bC:Int
 bq:Int
 aW:List Int
 heap:List bO
 av:List aU
def aG(l:List Int)(i:Int):Int:=l.getD i.toNat 0
def gR(l:List Int)(i:Int)(v:Int):List Int:=l.set i.toNat v
def ix(w:Int):Nat:=(w -1000).toNat
def iJ(w:Int):Prop:=-999<=w/\w<=999
def fj(h:List bO)(a:Nat):Prop:=∃c,h[a]? =some c/\0<c.aQ
def gC(h:List bO)(w:Int):Prop:=1000<=w/\fj h (ix w)
def tD(h:List bO)(w:Int):Prop:=iJ w\/gC h w
def jb:bO:=⟨0,0,[]⟩
def aI(h:List bO)(w:Int):bO:=(h[ix w]?).getD jb
def aaf:dA:=⟨[],[],0,0,[]⟩
def dC(a:cg)(n:Int):dA:=(a.cC[n.toNat]?).getD aaf
def bH(a:cg):Int:=(eP a.bn).length
def eQ:List Int->Nat->Int
 |[],_=>0
 |w::b,a=>(if w=1000+(a:Int)then 1 else 0)+eQ b a
def fH:List bO->Nat->Int
 |[],_=>0
 |c::h,a=>eQ c.aN a+fH h a
def dq:List Int->List Int->Nat->Int
 |r::c,o::b,a=>(if r=1000+(a:Int)then o else 0)+dq c b a
 |_,_,_=>0
def gU:List aU->Nat->Int
 |[],_=>0
 |f::b,a=>dq f.an f.aR a+gU b a
def eS:List aU->Nat->Int
 |[],_=>0
 |f::b,a=>eQ f.aY a+eS b a
def nI(a:cg)(x:Instr)(k:Nat):Bool:=(dC a x.bQ).cO.any (λy=>y==(k:Int))
def iD(a:cg)(x:Instr):Nat->List Int->List Int
 |_,[]=>[]
 |k,r::b=>if nI a x k then iD a x (k+1) b else r::iD a x (k+1) b
def fG(a:cg)(x:Instr):Nat->List Int->List Int
 |_,[]=>[]
 |k,r::b=>if nI a x k then r::fG a x (k+1) b else fG a x (k+1) b
def bW(a:cg)(x:Instr):List Int:=
 if x.op=15\/x.op=6\/x.op=10\/x.op=11\/x.op=18\/x.op=23 then x.args
 else if x.op=16\/x.op=17 then x.args.take 1
 else if x.op=9\/x.op=24 then iD a x 0 x.args
 else[]
def bB(an aR:List Int):List Int->List Int
 |[]=>aR
 |r::a=>bB an (if 1000<=aG an r then gR aR r (aG aR r -1)else aR) a
def cN(f:aU)(a:List Int):List Int:=a.map (aG f.an)
def kY(l:List Int):List Int:=l.filter (λw=>decide (1000<=w))
def lz(h:List bO)(a:List Int):Prop:=∀w∈a,1000<=w->(aI h w).aQ+eQ a (ix w)<=999999
def Fy(h:List bO)(f:aU)(x:Instr):Prop:=
 let w:=aG f.an (aG x.args 0)
 gC h w/\kY (aI h w).aN=cN f (x.args.drop 1)/\((aI h w).aQ=1\/lz h (aI h w).aN)/\(x.op=17->aG f.aY (aG x.args 0)=0)
def vS(a:cg)(h:List bO)(w:Int):Prop:=
 gC h w/\0<=(aI h w).kG -bH a/\(aI h w).kG -bH a<a.cC.length/\
  (dC a ((aI h w).kG -bH a)).params.length=(aI h w).aN.length+1/\(dC a ((aI h w).kG -bH a)).cO.length=0/\
  ((aI h w).aQ=1\/lz h (aI h w).aN)
def FA(h:List bO)(f:aU)(x:Instr):Prop:=
 x.bM≠0->aG f.aY (x.bM -1)≠0->(aI h (aG f.aY (x.bM -1))).aN.length=x.args.length
def KF(a:cg)(h:List bO)(f:aU)(x:Instr):Prop:=∀r∈fG a x 0 x.args,1000<=aG f.an r->gC h (aG f.an r)
def SA(l:List Int):Prop:=∀n∈l,n=0
structure kA(im:cg)(s:St)(f:aU)(x:Instr)(aR:List Int):Prop where
 nn:∀o∈aR,0<=o
 dst:lT x.op->aG aR x.dst<=0
 nT:(x.op=1\/x.op=2\/x.op=3\/x.op=4\/x.op=5\/x.op=20)->∀r∈x.args,aG f.an r<1000
 je:x.op=6->FA s.heap f x
 cO:(x.op=9\/x.op=24)->KF im s.heap f x
 zero:(x.op=24\/x.op=23)->SA aR/\SA f.aY
 ret:x.op=23->1<s.av.length\/aG f.an (aG x.args 0)<1000
 apply:x.op=11->vS im s.heap (aG f.an (aG x.args 0))
 VV:x.op=14->gC s.heap (aG f.an (aG x.args 0))/\(aI s.heap (aG f.an (aG x.args 0))).aQ<999999
 drop:x.op=15->1000<=aG f.an (aG x.args 0)
 Jp:(x.op=16\/x.op=17)->Fy s.heap f x
 load:x.op=19->gC s.heap (aG f.an (aG x.args 0))/\x.bQ<(aI s.heap (aG f.an (aG x.args 0))).aN.length
 BJ:x.op=21->gC s.heap (aG f.an (aG x.args 0))/\(aI s.heap (aG f.an (aG x.args 0))).kG∈cx im.bn x.bQ
def FG(n:Int):Int:=if n< -999 then -999 else if 999<n then 999 else n
def OS(c a b:Int):Int:=
 if c=1 then FG (a+b)else if c=2 then FG (a -b)else if c=3 then FG (a*b)else if c=4/\a<b then 1 else 0
def dG:List bO->Nat
 |[]=>0
 |c::h=>if c.aQ=0 then 0 else dG h+1
def je(h:List bO)(a:Nat)(c:bO):List bO:=if a=h.length then h++[c]else h.set a c
def mP(h:List bO)(w:Int):List bO:=h.set (ix w) {aI h w with aQ:=(aI h w).aQ+1}
def fw(h:List bO)(w:Int):List bO:=h.set (ix w) {aI h w with aQ:=(aI h w).aQ -1}
def jf(h:List bO):List Int->List bO
 |[]=>h
 |w::a=>jf (mP h w) a
def ji(h:List bO):Nat->Nat
 |0=>0
 |n+1=>match h[n]? with
  |some c=>if c.aQ=0 then ji h n else n+1
  |none=>ji h n
def ns(h:List bO):List bO:=h.take (ji h h.length)
def Cl:List bO->Nat
 |[]=>0
 |c::h=>(if 0<c.aQ then c.aQ.toNat+c.aN.length else 0)+Cl h
def kD:∀{e:List bO}{f:Nat}{b d:bO},e[f]? =some b->Cl (e.set f d)+(if 0<b.aQ then b.aQ.toNat+b.aN.length else 0)=Cl e+(if 0<d.aQ then d.aQ.toNat+d.aN.length else 0)
 |[],f,b,d,e=>by simp at e
 |i::e,0,b,d,g=>by simp at g;subst g;simp only[il,Cl];omega
 |i::e,f+1,b,d,g=>by
  have:=kD (e:=e) (f:=f) (b:=b) (d:=d) (by simpa using g);simp only[jq,Cl];omega
def bZ{h:List bO}(b:gC h w):h[ix w]? =some (aI h w)/\0<(aI h w).aQ:=by
 obtain⟨_,d,a,c⟩:=b;simp[aI,a,c]
open Classical in
noncomputable def gS (h:List bO) (c:List Int):List bO:=
 match c with
 |[]=>h
 |w::r=>
  if b:gC h w then
   if a:(aI h w).aQ=1 then gS (h.set (ix w) jb) ((aI h w).aN.reverse++r)
   else gS (fw h w) r
  else gS h r
termination_by Cl h+c.length
decreasing_by
 .let⟨e,a⟩:=bZ b
  have:=kD (d:=jb) e
  simp only[jb,aj a]at this
  simp[jb]
  simp at this
  omega
 .let⟨e,a⟩:=bZ b
  have b:=kD (d:={aI h w with aQ:=(aI h w).aQ -1}) e
  simp only[aj a]at b
  rw[aj V]at b
  simp[fw]
  omega
 .simp
def tn(h:List bO):gS h []=h:=by rw[gS]
def tp{h:List bO}(b:gC h w)(a:(aI h w).aQ=1):gS h (w::r)=gS (h.set (ix w) jb) ((aI h w).aN.reverse++r):=by
 rw[gS,Tn b,Tn a]
def qE{h:List bO}(b:gC h w)(a:(aI h w).aQ≠1):gS h (w::r)=gS (fw h w) r:=by
 rw[gS,Tn b,dif_neg a]
def qF{h:List bO}(a:¬gC h w):gS h (w::r)=gS h r:=by
 rw[gS,dif_neg a]
def aU.put(f:aU)(r w o:Int):aU:={f with an:=gR f.an r w,aR:=gR f.aR r o}
def gF(w:Int):Int:=if 1000<=w then 1 else 0
def dE(aR:List Int):List Int->List Int
 |[]=>aR
 |r::a=>dE (gR aR r (aG aR r+1)) a
def df(n:Nat):List Int:=List.replicate n 0
def dI(cO:List Int):Nat->List Int->List Int
 |_,[]=>[]
 |k,w::a=>(if cO.any (λy=>y==(k:Int))then 0 else gF w)::dI cO (k+1) a
def br(a:cg)(g c:Int)(b:List Int):aU:=
 ⟨g,0,c,b++df ((dC a g).an.toNat -b.length),dI (dC a g).cO 0 b++df ((dC a g).an.toNat -b.length),df (dC a g).an.toNat⟩
open Classical in
noncomputable def apart (h:List bO) (w:Int):List bO:=
 if(aI h w).aQ=1 then ns (h.set (ix w) jb)else jf (fw h w) (kY (aI h w).aN)
def rC(l:List Int)(n:Int):Nat:=l.findIdx (λy=>y==n)
open Classical in
noncomputable def eJ (b:cg) (s:St) (a:List aU) (f:aU) (x:Instr) (aR:List Int):St:=
 let g:aU:={f with aR:=aR,pc:=f.pc+1}
 let c:=aG x.args 0
 let w:=aG f.an c
 if x.op=0 then{s with av:=a++[g.put x.dst x.bQ 0]}
 else if x.op=1\/x.op=2\/x.op=3\/x.op=4 then{s with av:=a++[g.put x.dst (OS x.op w (aG f.an (aG x.args 1))) 0]}
 else if x.op=5 then{s with aW:=s.aW++[w],av:=a++[g.put x.dst w 0]}
 else if x.op=6 then
  if x.bM≠0/\aG f.aY (x.bM -1)≠0 then
   {s with heap:=s.heap.set (ix (aG f.aY (x.bM -1))) ⟨1,x.bQ,cN f x.args⟩,av:=a++[{g with aY:=gR f.aY (x.bM -1) 0}.put x.dst (aG f.aY (x.bM -1)) 1]}
  else{s with heap:=je s.heap (dG s.heap) ⟨1,x.bQ,cN f x.args⟩,av:=a++[g.put x.dst (1000+dG s.heap) 1]}
 else if x.op=10 then{s with heap:=je s.heap (dG s.heap) ⟨1,bH b+x.bQ,cN f x.args⟩,av:=a++[g.put x.dst (1000+dG s.heap) 1]}
 else if x.op=14 then{s with heap:=mP s.heap w,av:=a++[{g with aR:=gR aR c (aG aR c+1)}]}
 else if x.op=15 then{s with heap:=ns (gS s.heap [w]),av:=a++[g]}
 else if x.op=16\/x.op=17 then
  let d:={g with aR:=dE aR (x.args.drop 1)}
  if(aI s.heap w).aQ=1/\x.op=17 then{s with heap:=s.heap.set (ix w) ⟨-1,0,df (aI s.heap w).aN.length⟩,av:=a++[{d with aY:=gR f.aY c w}]}
  else{s with heap:=apart s.heap w,av:=a++[d]}
 else if x.op=18 then{s with av:=a++[g.put x.dst w (gF w)]}
 else if x.op=19 then{s with av:=a++[g.put x.dst (aG (aI s.heap w).aN x.bQ) 0]}
 else if x.op=20 then{s with av:=a++[{g with pc:=if w=0 then x.bQ else f.pc+1}]}
 else if x.op=21 then{s with av:=a++[{g with pc:=aG x.eG (rC (cx b.bn x.bQ) (aI s.heap w).kG)}]}
 else if x.op=22 then{s with av:=a++[{g with pc:=x.bQ}]}
 else if x.op=9 then{s with bC:=s.bC+1,av:=a++[g,br b x.bQ x.dst (cN f x.args)]}
 else if x.op=24 then{s with bC:=s.bC+1,av:=a++[br b x.bQ f.dst (cN f x.args)]}
 else if x.op=11 then
  {s with bC:=s.bC+1,heap:=apart s.heap w,av:=a++[g,br b ((aI s.heap w).kG -bH b) x.dst ((aI s.heap w).aN++[aG f.an (aG x.args 1)])]}
 else -- 23
  match a.getLast? with
  |none=>{s with bI:=0,value:=w,av:=[]}
  |some p=>{s with av:=a.dropLast++[p.put f.dst w (gF w)]}
def na(a:Int):Prop:=a=9\/a=11\/a=24
instance(a:Int):Decidable (na a):=by unfold na;infer_instance
def dt(a:cg)(f:aU):Instr:=((dC a f.eg).cX[f.pc.toNat]?).getD ⟨0,0,0,0,[],[]⟩
open Classical in
noncomputable def mh (a:cg) (s:St):St:=
 if s.bI≠3 then s else
 match s.av.getLast? with
 |none=>s
 |some f=>
  if na (dt a f).op/\s.bC=s.bq then{s with bI:=1}
  else if kA a s f (dt a f) (bB f.an f.aR (bW a (dt a f)))then
   eJ a s s.av.dropLast f (dt a f) (bB f.an f.aR (bW a (dt a f)))
  else{s with bI:=2}
end
section
variable{f b:Nat}{h g:List bO}{e e':Nat->Int}{w:Int}{c d:bO}
def lX:∀(l r:List Int)(f:Nat),eQ (l++r) f=eQ l f+eQ r f
 |[],r,f=>by simp[eQ]
 |w::l,r,f=>by simp only[cH,eQ,lX l r f];omega
def Am:∀(l:List Int)(f:Nat),eQ l.reverse f=eQ l f
 |[],f=>rfl
 |w::l,f=>by simp only[QJ,lX,Am l f,eQ];omega
def iU:∀(l:List Int)(f:Nat),0<=eQ l f
 |[],f=>by simp[eQ]
 |w::l,f=>by have:=iU l f;simp only[eQ];split<;>omega
def nW:∀{l:List Int}{f:Nat},(1000+(f:Int))∉l->eQ l f=0
 |[],f,_=>rfl
 |w::l,f,h=>by
  simp only[aS,ui]at h;simp only[eQ,nW h.2];rw[ae (λe=>h.1 e.symm)];rfl
def uS:∀{l:List Int}{f:Nat},(1000+(f:Int))∈l->1<=eQ l f
 |[],f,h=>by simp at h
 |w::l,f,h=>by
  simp only[eQ];rcases List.mem_cons.1 h with rfl|h
  .rw[aj rfl];have:=iU l f;omega
  .have:=uS h;split<;>omega
def OP{l:List Int}(h:0<eQ l f):(1000+(f:Int))∈l:=
 dB λa=>by rw[nW a]at h;omega
def SU(n:Nat)(f:Nat):eQ (df n) f=0:=nW λh=>by have:=VQ h;omega
def wA:∀(l:List Int)(f:Nat),eQ (kY l) f=eQ l f
 |[],f=>rfl
 |w::l,f=>by
  have:=wA l f;simp only[kY]at this⊢;rw[List.filter_cons];split
  .simp only[eQ,this]
  .rename_i h;simp only[eQ,this];rw[ae (λe=>h bJ)];omega
def lY:∀(l:List Int)(f:Nat),eQ l f<=l.length
 |[],f=>by simp[eQ]
 |w::l,f=>by have:=lY l f;simp only[eQ,aV];split<;>omega
def uU:∀(h k:List bO)(f:Nat),fH (h++k) f=fH h f+fH k f
 |[],k,f=>by simp[fH]
 |c::h,k,f=>by simp only[cH,fH,uU h k f];omega
def uV:∀(h:List bO)(f:Nat),0<=fH h f
 |[],f=>by simp[fH]
 |c::h,f=>by have:=uV h f;have:=iU c.aN f;simp only[fH];omega
def Aq:∀{h:List bO}{f:Nat}{c:bO}(e:bO)(_:h[f]? =some c)(b:Nat),fH (h.set f e) b=fH h b -eQ c.aN b+eQ e.aN b
 |[],f,c,e,h,b=>by simp at h
 |d::h,0,c,e,g,b=>by simp at g;subst g;simp only[il,fH];omega
 |d::h,f+1,c,e,g,b=>by
  have:=Aq (h:=h) (f:=f) e (by simpa using g) b;simp only[jq,fH,this];omega
def LH:∀{h:List bO}{f:Nat},0<fH h f->∃c∈h,(1000+(f:Int))∈c.aN
 |[],f,h=>by simp[fH]at h
 |c::h,f,e=>by
  simp only[fH]at e;rcases dJ (0<eQ c.aN f)with b|b
  .exact⟨c,aX,OP b⟩
  .let⟨d,hd,g⟩:=LH (h:=h) (f:=f) (oh (iU c.aN f));exact⟨d,ai _ hd,g⟩
def Sk:∀{h:List bO}{c:bO}(_:c∈h)(f:Nat),eQ c.aN f<=fH h f
 |[],c,a,f=>by simp at a
 |d::h,c,a,f=>by
  simp only[fH];rcases List.mem_cons.1 a with rfl|a
  .have:=uV h f;omega
  .have:=Sk a f;have:=iU d.aN f;omega
structure xh(h:List bO)(c:bO):Prop where
 fl:c.aN.length<=3
 lo: -1<=c.aQ
 hi:c.aQ<=999999
 DT:c.aQ<1->c.kG=0/\(∀w∈c.aN,w=0)/\(c.aQ=0->c.aN=[])
 rp:0<c.aQ->(∀w∈c.aN,tD h w)/\0<=c.kG/\c.kG<=99
def Xi(h:List bO):Prop:=∃a:Nat->Nat,∀(i:Nat)(c:bO),h[i]? =some c->∀w∈c.aN,1000<=w->a (ix w)<a i
structure fL(h:List bO)(e:Nat->Int):Prop where
 cell:∀c∈h,xh h c
 Oo:Xi h
 ex:∀(f:Nat)(c:bO),h[f]? =some c->0<c.aQ->c.aQ=fH h f+e f
 nn:∀f,0<=e f
 lv:∀f,0<e f->fj h f
def fL.congr(c:fL h e)(a:∀b,e' b=e b):fL h e':=by
 have:e'=e:=funext a;rw[this];exact c
def ng(f:Nat):ix (1000+(f:Int))=f:=by unfold ix;omega
def iV(h:1000<=w):1000+((ix w:Nat):Int)=w:=by unfold ix;omega
def Rh{v:Int}(a:1000<=v)(b:1000<=w)(h:ix v=ix w):v=w:=by rw[<-iV a,<-iV b,h]
def fL.field(i:fL h e)(g:c∈h)(f:w∈c.aN)(j:1000<=w):gC h w:=by
 have d:=i.cell c g;rcases dJ (0<c.aQ)with b|b
 .rcases(d.rp b).1 w f with a|a
  .have:=a.2;omega
  .exact a
 .have:=(d.DT V).2.1 w f;omega
def fL.XE(d:fL h e)(g:¬fj h f):fH h f=0:=by
 rcases dJ (0<fH h f)with a|a
 .let⟨c,b,i⟩:=LH a;have:=(d.field b i V).2;rw[ng]at this;exact absurd this g
 .have:=uV h f;omega
def fL.Y0(a:fL h e)(c:¬fj h f):e f=0:=by
 have:=a.nn f;rcases dJ (0<e f)with b|b
 .exact absurd (a.lv f b) c
 .omega
def iB(a:b≠f):(h.set f c)[b]? =h[b]? :=by rw[cz (λe=>a e.symm)]
def eH(hd:h[f]? =some d):(h.set f c)[f]? =some c:=by
 rw[dK (az hd)]
def fj.ne(a:b≠f):fj (h.set f c) b<->fj h b:=by unfold fj;rw[iB a]
def fj.Eo(hd:h[f]? =some d):fj (h.set f c) f<->0<c.aQ:=by
 unfold fj;rw[eH hd];simp
def tD.mono(c:tD h w)(b:1000<=w->fj h (ix w)->fj g (ix w)):tD g w:=by
 rcases c with a|a
 .exact Or.inl a
 .exact Or.inr ⟨a.1,b a.1 a.2⟩
def xh.mono{h g:List bO}{c:bO}(a:xh h c)(e:0<c.aQ->∀w∈c.aN,1000<=w->fj h (ix w)->fj g (ix w)):xh g c:=
 ⟨a.fl,a.lo,a.hi,a.DT,λb=>⟨λw d=>((a.rp b).1 w d).mono (e b w d),(a.rp b).2⟩⟩
def nV{x:bO}(i:x∈h.set f c):x=c\/∃b,b≠f/\h[b]? =some x:=by
 let⟨b,a⟩:=List.mem_iff_getElem?.1 i;by_cases e:b=f
 .subst e;rw[List.getElem?_set_self']at a;cases g:h[b]? with
  |none=>simp[g]at a
  |some d=>simp[g]at a;exact Or.inl a.symm
 .rw[iB e]at a;exact Or.inr ⟨b,e,a⟩
def fL.Ku(j:fL h e)(g:h[f]? =some c)(i:0<c.aQ){n:Int}(v:0<n)(u:n<=999999)
 (m:∀b,e' b=e b+if b=f then n -c.aQ else 0)(s:0<=e' f):fL (h.set f {c with aQ:=n}) e':=by
 have p:∀b,fj (h.set f {c with aQ:=n}) b<->fj h b:=λb=>by
  by_cases a:b=f
  .subst a;rw[fj.Eo g];exact⟨λ_=>⟨c,g,i⟩,λ_=>v⟩
  .exact fj.ne a
 have x:∀b,fH (h.set f {c with aQ:=n}) b=fH h b:=λb=>by rw[Aq _ g];simp only[];omega
 refine⟨λA y=>?_,?_,λb d hd t=>?_,λb=>?_,λb l=>?_⟩
 .rcases nV y with rfl|⟨b,_,l⟩
  .have q:=j.cell c (au g)
   exact⟨q.fl,by simp only[];omega,u,λr=>by simp only[]at r;omega,λ_=>⟨λw k=>((q.rp i).1 w k).mono λ_ o=>(p _).2 o,(q.rp i).2⟩⟩
  .exact(j.cell A (au l)).mono λ_ w _ _ o=>(p _).2 o
 .let⟨z,r⟩:=j.Oo
  refine⟨z,λo d hd w k i=>?_⟩
  by_cases q:o=f
  .subst q;rw[eH g]at hd;simp at hd;subst hd;exact r o c g w k i
  .rw[iB q]at hd;exact r o d hd w k i
 .rw[x,m]
  by_cases a:b=f
  .subst a;rw[eH g]at hd;simp at hd;subst hd
   have:=j.ex b c g i
   simp only[aj];omega
  .rw[iB a]at hd
   have:=j.ex b d hd t
   rw[ae a];omega
 .by_cases a:b=f
  .subst a;exact s
  .rw[m,ae a];have:=j.nn b;omega
 .rw[p]
  by_cases a:b=f
  .subst a;exact⟨c,g,i⟩
  .rw[m,ae a]at l;exact j.lv b V
def fL.Rc(j:fL h e)(m:h[f]? =some c)(I:c.aQ=1)(J:0<e f){c':bO}(C: -1<=c'.aQ)(L:c'.aQ<1)(G:c'.kG=0)
 (r:∀w∈c'.aN,w=0)(B:c'.aN.length<=3)(A:c'.aQ=0->c'.aN=[])
 (p:∀b,e' b=e b -(if b=f then 1 else 0)+eQ c.aN b):fL (h.set f c') e':=by
 have o:=j.ex f c m V
 have O:=uV h f
 have N:fH h f=0:=V
 have K:e f=1:=V
 have u:∀x∈h,(1000+(f:Int))∉x.aN:=λx o g=>by
  have:=Sk o f;have:=uS g;omega
 have M:eQ c.aN f=0:=nW (u c (au m))
 have E:∀b,eQ c'.aN b=0:=λb=>nW λg=>by have:=r _ g;omega
 have t:∀b,b≠f->fj h b->fj (h.set f c') b:=λb i q=>(fj.ne i).2 q
 have D:∀x∈h,∀w∈x.aN,1000<=w->ix w≠f:=λx o w g n y=>by
  have:=iV n;rw[y]at this;rw[<-this]at g;exact u x o g
 refine⟨λx o=>?_,?_,λb d hd z=>?_,λb=>?_,λb k=>?_⟩
 .rcases nV o with rfl|⟨b,_,k⟩
  .exact⟨B,C,V,λ_=>⟨G,r,A⟩,λn=>V⟩
  .exact(j.cell x (au k)).mono λ_ w g n q=>t _ (D x (au k) w g n) q
 .let⟨H,F⟩:=j.Oo
  refine⟨H,λv d hd w g n=>?_⟩
  by_cases s:v=f
  .subst s;rw[eH m]at hd;simp at hd;subst hd;have:=r w g;omega
  .rw[iB s]at hd;exact F v d hd w g n
 .rw[Aq _ m,E,p]
  by_cases i:b=f
  .subst i;rw[eH m]at hd;simp at hd;subst hd;omega
  .rw[iB i]at hd
   have:=j.ex b d hd z
   rw[ae i];omega
 .rw[p]
  have:=j.nn b
  have:=iU c.aN b
  split
  .rename_i i;subst i;omega
  .omega
 .rw[p]at k
  by_cases i:b=f
  .subst i;rw[aj rfl]at k;omega
  .rw[ae i]at k
   refine t b i ?_
   rcases dJ (0<e b)with s|s
   .exact j.lv b s
   .have:=j.nn b
    have g:=OP (l:=c.aN) (f:=b) V
    have:=(j.field (au m) g V).2
    rwa[ng]at this
def fL.make(l:fL h e){v:Int}{c:List Int}(r:¬fj h f)(p:g[f]? =some ⟨1,v,c⟩)(o:∀b,b≠f->g[b]? =h[b]?)
 (E:∀b,fH g b=fH h b+eQ c b)(z:∀w∈c,tD h w)(C:c.length<=3)(G:0<=v/\v<=99)(x:∀b,eQ c b<=e b)
 (t:∀b,e' b=e b -eQ c b+if b=f then 1 else 0):fL g e':=by
 have u:∀b,fj h b->fj g b:=λb i=>by
  by_cases a:b=f
  .subst a;exact absurd i r
  .unfold fj;rw[o b a];exact i
 have L:=l.Y0 r
 have N:=l.XE r
 have M:eQ c f=0:=by have:=iU c f;have:=x f;omega
 refine⟨λK I=>?_,?_,λb d hd B=>?_,λb=>?_,λb j=>?_⟩
 .let⟨b,j⟩:=List.mem_iff_getElem?.1 I
  by_cases a:b=f
  .subst a;rw[p]at j;simp at j;subst j
   exact⟨C,aL,aL,sx,λ_=>⟨λw n=>(z w n).mono λ_ i=>u _ i,G⟩⟩
  .rw[o b a]at j
   exact(l.cell K (au j)).mono λ_ w _ _ i=>u _ i
 .let⟨s,F⟩:=l.Oo
  refine⟨λk=>if k=f then(c.map λw=>s (ix w)).sum+1 else s k,λk d hd w n y=>?_⟩
  have H:ix w≠f:=λA=>by
   have D:gC h w:=by
    by_cases m:k=f
    .subst m;rw[p]at hd;simp at hd;subst hd;rcases z w n with q|q
     .have:=q.2;omega
     .exact q
    .rw[o k m]at hd;exact l.field (au hd) n y
   exact r (A▸D.2)
  simp only[ae H]
  by_cases m:k=f
  .subst m;rw[p]at hd;simp at hd;subst hd
   rw[aj rfl]
   have:∀(q:List Int),w∈q->s (ix w)<=(q.map λw=>s (ix w)).sum:=by
    intro q i;induction q with
    |nil=>simp at i
    |cons O q J=>
     simp only[cG,List.sum_cons];rcases List.mem_cons.1 i with rfl|i
     .omega
     .have:=J i;omega
   have:=this c n;omega
  .rw[ae m];rw[o k m]at hd;exact F k d hd w n y
 .rw[E,t]
  by_cases a:b=f
  .subst a;rw[p]at hd;simp at hd;subst hd
   rw[aj rfl];simp only[];omega
  .rw[o b a]at hd
   have:=l.ex b d hd B
   rw[ae a];omega
 .rw[t];have:=x b;split<;>omega
 .rw[t]at j
  by_cases a:b=f
  .subst a;exact⟨_,p,aL⟩
  .rw[ae a]at j
   exact u b (l.lv b (oh (iU c b)))
def fL.gS:∀(n:Nat)(h:List bO)(o:List Int)(e:Nat->Int),Cl h+o.length<=n->fL h (λb=>e b+eQ o b)->(∀b,0<=e b)->fL (gS h o) e
 |n,h,[],e,_,a,_=>by rw[tn];exact a.congr λb=>by simp[eQ]
 |n,h,w::r,e,f,a,d=>by
  rcases dJ (gC h w)with c|c
  .let⟨g,m⟩:=bZ c;have s:=iV c.1;have l:∀b,eQ (w::r) b=(if b=ix w then 1 else 0)+eQ r b:=λb=>by
    simp only[eQ];congr 1;by_cases k:b=ix w
    .subst k;rw[aj s.symm,aj rfl]
    .rw[ae k,ae (λi=>k (by rw[i,ng]))]
   have p:=kD (d:=jb) g;by_cases j:(aI h w).aQ=1
   .rw[tp c j];simp only[aj m,jb]at p;simp at p;cases n with
    |zero=>simp at f
    |succ n=>
    refine fL.gS n _ _ e ?_ (fL.Rc a g j ?_ be be rfl (by simp[jb]) (by simp[jb]) (λ_=>rfl) λb=>?_) d
    .simp[jb]at f⊢;omega
    .simp only[l,aj];have:=d (ix w);have:=iU r (ix w);omega
    .simp only[l,lX,Am];omega
   .rw[qE c j];have q:=kD (d:={aI h w with aQ:=(aI h w).aQ -1}) g;simp only[aj m]at q;rw[aj V]at q;have t:=(a.cell _ (au g)).hi;cases n with
    |zero=>simp at f
    |succ n=>
    refine fL.gS n _ _ e ?_ (fL.Ku a g m V V (λb=>?_) ?_) d
    .simp only[aV]at f;simp only[fw];omega
    .simp only[l];split<;>omega
    .have:=d (ix w);have:=iU r (ix w);omega
  .rw[qF c];cases n with
   |zero=>simp at f
   |succ n=>
   refine fL.gS n _ _ e (by simp at f;omega) (a.congr λb=>?_) d;simp only[eQ];rw[ae]
   .omega
   .intro i;have:=a.lv b (by simp only[eQ,aj i];have:=d b;have:=iU r b;omega);exact c ⟨V,by rw[i,ng];exact this⟩
def ub(h:List bO):∀n,ji h n<=n
 |0=>ad _
 |n+1=>by
  simp only[ji];have:=ub h n;split
  .split<;>omega
  .omega
def ua(h:List bO):∀(n k:Nat)(c:bO),ji h n<=k->k<n->h[k]? =some c->c.aQ=0
 |0,k,c,_,d,_=>V
 |n+1,k,c,a,e,b=>by
  simp only[ji]at a;by_cases d:k=n
  .subst d;rw[b]at a;simp only[]at a;split at a
   .assumption
   .omega
  .split at a
   .split at a
    .exact ua h n k c a V b
    .omega
   .exact ua h n k c a V b
def Mx(h:List bO):∀(n:Nat)(c:bO),n<=h.length->h[ji h n -1]? =some c->0<ji h n->c.aQ≠0
 |0,c,_,_,b=>by simp[ji]at b
 |n+1,c,f,a,b=>by
  simp only[ji]at a b;let⟨d,hd⟩:=cK h n;rw[hd]at a b;simp only[]at a b;split at a
  .rename_i e;rw[aj e]at b;exact Mx h n c V a b
  .rename_i e;simp at a;rw[hd]at a;simp at a;subst a;exact e
def pK(h:List bO):Prop:=∀c,h[h.length -1]? =some c->c.aQ≠0
def Hi(h:List bO):pK (ns h):=by
 intro c a;have d:=ub h h.length;unfold ns at a;rw[gG,jd d]at a;rcases j8 (ji h h.length)with b|b
 .rw[b]at a;simp at a
 .rw[dH V]at a;exact Mx h _ c (ad _) a b
def NU:∀{h:List bO},(∀c∈h,c.aN=[])->∀f,fH h f=0
 |[],_,f=>rfl
 |c::h,a,f=>by simp only[fH,a c aX,eQ,NU (λd hd=>a d (ai _ hd)) f];rfl
def fL.ns{h:List bO}{e:Nat->Int}(d:fL h e):fL (ns h) e:=by
 have u:=ub h h.length;have q:∀(b:Nat)(c:bO),h[b]? =some c->c.aQ≠0->b<ji h h.length:=λb c a i=>
  dB λv=>i (ua h h.length b c V (az a) a)
 have k:∀(b:Nat)(c:bO),(Go.Proofs.YtkoifinbblcbiaaGreat.ns h)[b]? =some c->h[b]? =some c:=λb c a=>by
  unfold Go.Proofs.YtkoifinbblcbiaaGreat.ns at a;have:=az a;rw[gG]at this;rwa[dH V]at a
 have l:∀b,fj h b->fj (Go.Proofs.YtkoifinbblcbiaaGreat.ns h) b:=λb⟨c,a,j⟩=>⟨c,by
  unfold Go.Proofs.YtkoifinbblcbiaaGreat.ns;rw[dH (q b c a V)];exact a,j⟩
 have s:∀b,fH (Go.Proofs.YtkoifinbblcbiaaGreat.ns h) b=fH h b:=λb=>by
  have m:h=Go.Proofs.YtkoifinbblcbiaaGreat.ns h++h.drop (ji h h.length):=(dm _ _).symm;have n:fH (h.drop (ji h h.length)) b=0:=NU (λc a=>by
   let⟨o,g⟩:=List.mem_iff_getElem?.1 a;rw[sG]at g;have i:=ua h h.length _ c V (az g) g;exact((d.cell c (au g)).DT V).2.2 i) b
  have o:=rV (λg=>fH g b) m;simp only[uU,n]at o;omega
 refine⟨λc a=>?_,?_,λf c a j=>?_,d.nn,λf p=>l f (d.lv f p)⟩
 .let⟨b,g⟩:=List.mem_iff_getElem?.1 a;exact(d.cell c (au (k b c g))).mono λ_ w _ _ r=>l _ r
 .let⟨t,r⟩:=d.Oo;exact⟨t,λg c a=>r g c (k g c a)⟩
 .rw[s];exact d.ex f c (k f c a) j
end
section
variable{l:List Int}{i x v r:Int}{b:Nat}{c:cg}{f:aU}{s:St}
def oI(b:0<=i)(c:i<l.length):l[i.toNat]? =some (aG l i):=by
 let⟨x,a⟩:=cK l i.toNat;simp[aG,a]
def YA(h:l[b]? =some x):aG l b=x:=by simp[aG,h]
def DQ(h:l[i.toNat]? =some x):aG l i=x:=by simp[aG,h]
def fq(a:0<=i)(b:i<l.length):aG l i∈l:=ij (oI a b)
def jV(l:List Int)(i v:Int):(gR l i v).length=l.length:=by simp[gR]
def pS(h:x∈gR l i v):x=v\/x∈l:=by
 rcases dp h with h|h
 .exact Or.inr h
 .exact Or.inl h
def Aw(l:List Int)(i v:Int)(b:Nat):(gR l i v)[b]? =if b=i.toNat/\b<l.length then some v else l[b]? :=by
 unfold gR;by_cases h:b=i.toNat
 .subst h;by_cases a:i.toNat<l.length
  .rw[dK a,aj ⟨rfl,a⟩]
  .rw[ae V,rU V]
 .rw[ae V,cz (λe=>h e.symm)]
def Vd(a:0<=i)(b:i<l.length)(j:Int)(c:0<=j):aG (gR l i v) j=if j=i then v else aG l j:=by
 unfold aG;rw[fR,fR,Aw];by_cases h:j=i
 .subst h;rw[aj rfl,aj ⟨rfl,V⟩];rfl
 .rw[ae h,ae V]
def HW:∀(an aR:List Int)(b:Nat)(w o f e:Int)(a:Nat),an[b]? =some f->aR[b]? =some e->
 dq (an.set b w) (aR.set b o) a=dq an aR a -(if f=1000+(a:Int)then e else 0)+(if w=1000+(a:Int)then o else 0)
 |[],aR,b,w,o,f,e,a,c,d=>by simp at c
 |r::g,[],b,w,o,f,e,a,c,d=>by simp at d
 |r::g,q::h,0,w,o,f,e,a,c,d=>by
  simp at c d;subst c;subst d;simp only[il,dq];omega
 |r::g,q::h,b+1,w,o,f,e,a,c,d=>by
  have:=HW g h b w o f e a (by simpa using c) (by simpa using d);simp only[jq,dq,this];omega
def Uw(h:l[b]? =some x):l.set b x=l:=by
 apply iL;intro i;by_cases a:b=i
 .subst a;rw[dK (az h),h]
 .rw[cz a]
def HV{an aR:List Int}(c:0<=r)(d:r<an.length)(e:r<aR.length)(o:Int)(a:Nat):
 dq an (gR aR r o) a=dq an aR a+(if aG an r=1000+(a:Int)then o -aG aR r else 0):=by
 have b:=oI c d
 have:=HW an aR r.toNat (aG an r) o _ _ a b (oI c e)
 rw[Uw b]at this
 rw[gR,this];split<;>omega
def NP{an aR:List Int}(b:0<=r)(c:r<an.length)(d:r<aR.length)(e:aG aR r=0)(w o:Int)(a:Nat):
 dq (gR an r w) (gR aR r o) a=dq an aR a+(if w=1000+(a:Int)then o else 0):=by
 have:=HW an aR r.toNat w o _ _ a (oI b c) (oI b d)
 rw[gR,gR,this,e];split<;>omega
def tJ:∀{an aR:List Int},(∀o∈aR,0<=o)->∀a,0<=dq an aR a
 |[],aR,h,a=>by cases aR<;>simp[dq]
 |r::b,[],h,a=>by simp[dq]
 |r::b,o::d,h,a=>by
  have:=tJ (an:=b) (aR:=d) (λx c=>h x (ai _ c)) a;have:=h o aX;simp only[dq];split<;>omega
def tK:∀{an aR:List Int},SA aR->∀a,dq an aR a=0
 |[],aR,h,a=>by cases aR<;>simp[dq]
 |r::b,[],h,a=>by simp[dq]
 |r::b,o::d,h,a=>by
  have:=tK (an:=b) (aR:=d) (λx c=>h x (ai _ c)) a;have:=h o aX;simp only[dq,this];split<;>omega
def Gn:∀{c o1:List Int}(b o2:List Int),c.length=o1.length->∀a,dq (c++b) (o1++o2) a=dq c o1 a+dq b o2 a
 |[],[],b,o2,_,a=>by simp[dq]
 |[],_::_,_,_,h,_=>by simp at h
 |_::_,[],_,_,h,_=>by simp at h
 |r::e,o::d,b,o2,h,a=>by
  have:=Gn (c:=e) (o1:=d) b o2 (by simpa using h) a;simp only[cH,dq,this];omega
def LA:∀{an aR:List Int}{b:Nat}{w o:Int}(_:∀o∈aR,0<=o)(_:an[b]? =some w)(_:aR[b]? =some o){d:Nat}(_:w=1000+(d:Int)),o<=dq an aR d
 |[],_,_,_,_,_,a,_,_,_=>by simp at a
 |_::_,[],_,_,_,_,_,c,_,_=>by simp at c
 |r::i,q::h,0,w,o,e,a,c,d,f=>by
  simp at a c;subst a;subst c;have:=tJ (an:=i) (aR:=h) (λx g=>e x (ai _ g)) d;simp only[dq,aj f];omega
 |r::i,q::h,b+1,w,o,e,a,c,d,f=>by
  have:=LA (an:=i) (aR:=h) (b:=b) (λx g=>e x (ai _ g)) (by simpa using a) (by simpa using c) f;have:=e q aX;simp only[dq];split<;>omega
def fW:∀(l r:List aU)(a:Nat),gU (l++r) a=gU l a+gU r a
 |[],r,a=>by simp[gU]
 |f::l,r,a=>by simp only[cH,gU,fW l r a];omega
def kQ(f:aU)(a:Nat):gU [f] a=dq f.an f.aR a:=by simp[gU]
def eI:∀(l r:List aU)(a:Nat),eS (l++r) a=eS l a+eS r a
 |[],r,a=>by simp[eS]
 |f::l,r,a=>by simp only[cH,eS,eI l r a];omega
def iZ(f:aU)(a:Nat):eS [f] a=eQ f.aY a:=by simp[eS]
def zX:∀(l:List aU)(a:Nat),0<=eS l a
 |[],a=>by simp[eS]
 |f::l,a=>by have:=zX l a;have:=iU f.aY a;simp only[eS];omega
def ka(an:List Int):∀(a aR:List Int),(bB an aR a).length=aR.length
 |[],aR=>rfl
 |r::a,aR=>by simp only[bB];rw[ka an a];split<;>simp[jV]
def yl{an:List Int}:∀(b aR:List Int),(∀r∈b,0<=r/\r<an.length)->an.length=aR.length->∀a,dq an (bB an aR b) a=dq an aR a -eQ (b.map (aG an)) a
 |[],aR,_,_,a=>by simp[bB,eQ]
 |r::b,aR,h,c,a=>by
  have e:=h r aX;have f:=λaR c=>yl (an:=an) b aR (λx d=>h x (ai _ d)) c a;simp only[bB,cG,eQ];by_cases d:1000<=aG an r
  .rw[aj d,f _ (by rw[jV];exact c),HV e.1 e.2 V];split<;>omega
  .rw[ae d,f _ c,ae V];omega
def lj{an:List Int}:∀(c aR:List Int)(b:Nat)(o:Int),(bB an aR c)[b]? =some o->∃q,aR[b]? =some q/\o<=q
 |[],aR,b,o,h=>⟨o,h,cY _⟩
 |r::c,aR,b,o,h=>by
  simp only[bB]at h;let⟨q,a,e⟩:=lj c _ b o h;split at a
  .rw[Aw]at a;split at a
   .rename_i d;let⟨y,f⟩:=dZ d.2;have g:aG aR r=y:=by rw[aG,fR,<-d.1,f];rfl
    simp at a;exact⟨y,f,V⟩
   .exact⟨q,a,e⟩
  .exact⟨q,a,e⟩
def lQ:∀(a aR:List Int),(dE aR a).length=aR.length
 |[],aR=>rfl
 |r::a,aR=>by simp only[dE];rw[lQ a,jV]
def FE{an:List Int}:∀(b aR:List Int),(∀r∈b,0<=r/\r<an.length)->an.length=aR.length->∀a,dq an (dE aR b) a=dq an aR a+eQ (b.map (aG an)) a
 |[],aR,_,_,a=>by simp[dE,eQ]
 |r::b,aR,h,d,a=>by
  have c:=h r aX;simp only[dE,cG,eQ];rw[FE (an:=an) b _ (λx e=>h x (ai _ e)) (by rw[jV];exact d) a,HV c.1 c.2 V];split<;>omega
def KM{an:List Int}:∀(d aR:List Int),(∀r∈d,0<=r/\r<aR.length/\1000<=aG an r)->
 (∀(b:Nat)(o w:Int),aR[b]? =some o->an[b]? =some w->0<=o/\(0<o->1000<=w))->∀(b:Nat)(o w:Int),(dE aR d)[b]? =some o->an[b]? =some w->0<=o/\(0<o->1000<=w)
 |[],aR,_,h,b,o,w,a,c=>h b o w a c
 |r::d,aR,g,h,b,o,w,a,c=>by
  refine KM (an:=an) d (gR aR r (aG aR r+1)) (λx e=>by rw[jV];exact g x (ai _ e)) (λb o w a c=>?_) b o w a c;rw[Aw]at a;split at a
  .rename_i f;have e:=g r aX;have i:aG an r=w:=by rw[aG,fR,<-f.1,c];rfl
   have j:=h b (aG aR r) w (by rw[f.1];exact oI e.1 e.2.1) c;simp at a;exact⟨V,λ_=>V⟩
  .exact h b o w a c
def fO(h:List bO)(a:Nat):Prop:=∃c,h[a]? =some c/\c.aQ<0
structure gN(c:cg)(f:aU):Prop where
 eg:0<=f.eg/\f.eg<c.cC.length
 pc:0<=f.pc/\f.pc<(dC c f.eg).cX.length
 lr:(f.an.length:Int)=(dC c f.eg).an
 lo:(f.aR.length:Int)=(dC c f.eg).an
 lh:(f.aY.length:Int)=(dC c f.eg).an
 Sn:∀w∈f.an,iJ w\/1000<=w
 aR:∀(b:Nat)(o w:Int),f.aR[b]? =some o->f.an[b]? =some w->0<=o/\(0<o->1000<=w)
 aY:∀w∈f.aY,w=0\/1000<=w
structure db(c:cg)(s:St):Prop where
 fA:iE c
 bI:0<=s.bI/\s.bI<=3
 done:s.bI=0<->s.av=[]
 value:iJ s.value
 vL:s.value≠0->s.bI=0
 bq:0<=s.bq/\s.bq<=40
 bC:0<=s.bC/\s.bC<=s.bq
 depth:(s.av.length:Int)<=s.bC+1
 aW:∀n∈s.aW,iJ n
 heap:fL s.heap (gU s.av)
 jL:pK s.heap
 av:∀f∈s.av,gN c f
 first:∀f,s.av[0]? =some f->f.dst=0
 chain:∀(b:Nat)(f g:aU),s.av[b]? =some f->s.av[b+1]? =some g->0<=g.dst/\g.dst<f.aR.length/\aG f.aR g.dst=0
 lD:∀a,fO s.heap a->eS s.av a=1
 nL:∀a,¬fO s.heap a->eS s.av a=0
def gN.Qd(h:gN c f):∀o∈f.aR,0<=o:=λo d=>by
 let⟨b,a⟩:=List.mem_iff_getElem?.1 d;have g:=az a;have:=h.lo;have:=h.lr;let⟨w,e⟩:=cK f.an b;exact(h.aR b o w a e).1
def Kr{c:cg}:∀{b:List aU},(∀f∈b,gN c f)->∀a,0<=gU b a
 |[],_,a=>by simp[gU]
 |f::b,h,a=>by
  have:=Kr (λg d=>h g (ai _ d)) a;have:=tJ (an:=f.an) (h f aX).Qd a;simp only[gU];omega
def db.split(h:db c s)(b:s.bI=3):∃a f,s.av=a++[f]:=by
 have:s.av≠[]:=λe=>by have:=h.done.2 e;omega
 exact⟨s.av.dropLast,s.av.getLast this,(eD this).symm⟩
def gN.Jg(j:iE c)(h:gN c f):∃p,c.cC[f.eg.toNat]? =some p/\dC c f.eg=p/\Hx c p/\p.cX[f.pc.toNat]? =some (dt c f)/\iN c p f.pc.toNat (dt c f):=by
 let⟨p,b⟩:=cK c.cC f.eg.toNat (oh h.eg);have e:dC c f.eg=p:=by simp[dC,b]
 have g:=j.dx p (au b);have k:=h.pc;rw[e]at k;let⟨i,a⟩:=cK p.cX f.pc.toNat;have d:dt c f=i:=by simp[dt,e,a]
 exact⟨p,b,e,g,d▸a,d▸g.dx _ _ a⟩
def db.fZ(h:db c s)(A:s.bI=3){e:List aU}{g:aU}(k:s.av=e++[f]){d:List bO}{aW:List Int}(o:gN c g)(hd:g.dst=f.dst)
 (r:fL d (gU (e++[g])))(w:pK d)(t:∀a,fO d a->eS (e++[g]) a=1)(x:∀a,¬fO d a->eS (e++[g]) a=0)(v:∀n∈aW,iJ n){bC:Int}(n:s.bC<=bC/\bC<=s.bq):
 db c {s with heap:=d,aW:=aW,bC:=bC,av:=e++[g]}:=by
 have z:=h.bC
 have m:=h.depth
 rw[k]at m
 refine⟨h.fA,h.bI,⟨λj=>by simp at j;omega,sx⟩,h.value,h.vL,h.bq,⟨by simp only[];omega,n.2⟩,by simp at m⊢;omega,v,r,w,λq a=>?_,λq a=>?_,λb p q d a=>?_,t,x⟩
 .rcases List.mem_append.1 a with a|a
  .exact h.av q (by rw[k];exact bL _ a)
  .simp at a;subst a;exact o
 .have i:=h.first
  rw[k]at i
  cases e with
  |nil=>simp at a;subst a;rw[hd];exact i f aL
  |cons y l=>simp at a;subst a;exact i y aL
 .have l:=h.chain b
  rw[k]at l
  simp only[]at d a
  have u:=az a
  simp at u
  rw[ax V]at d
  rcases aZ (b+1) e.length with i|i
  .rw[ax i]at a
   exact l p q (by rw[ax V];exact d) (by rw[ax i];exact a)
  .rw[aF i]at a
   have j:b+1 -e.length=0:=V
   rw[j]at a;simp at a;subst a
   rw[hd]
   exact l p f (by rw[ax V];exact d) (by rw[aF i,j];rfl)
end
section
variable{h:List bO}{a:Nat}{c d:bO}{w:Int}{e e':Nat->Int}
def fO.ne{b:Nat}(d:b≠a):fO (h.set a c) b<->fO h b:=by unfold fO;rw[iB d]
def fO.Eo(hd:h[a]? =some d):fO (h.set a c) a<->c.aQ<0:=by unfold fO;rw[eH hd];simp
def fO.set(hd:h[a]? =some d)(i:0<=d.aQ)(j:0<=c.aQ)(b:Nat):fO (h.set a c) b<->fO h b:=by
 by_cases g:b=a
 .subst g;rw[fO.Eo hd];refine⟨λk=>V,λ⟨e,f,l⟩=>?_⟩;rw[hd]at f;simp at f;subst f;omega
 .exact fO.ne g
def fO.UE(e:fO h a):¬fj h a:=λ⟨c,b,g⟩=>by
 let⟨d,hd,f⟩:=e;rw[b]at hd;simp at hd;subst hd;omega
def fO.fw(c:gC h w)(b:Nat):fO (fw h w) b<->fO h b:=by
 let⟨a,d⟩:=bZ c;exact fO.set a V (by simp only[];omega) b
def fO.mP(c:gC h w)(b:Nat):fO (mP h w) b<->fO h b:=by
 let⟨a,d⟩:=bZ c;exact fO.set a V (by simp only[];omega) b
def fO.Rc(c:gC h w)(b:Nat):fO (h.set (ix w) jb) b<->fO h b:=by
 let⟨a,d⟩:=bZ c;exact fO.set a V (by simp[jb]) b
def fO.gS:∀(n:Nat)(h:List bO)(i:List Int),Cl h+i.length<=n->∀b,fO (gS h i) b<->fO h b
 |n,h,[],_,b=>by rw[tn]
 |0,h,w::r,c,b=>by simp at c
 |n+1,h,w::r,c,b=>by
  simp only[aV]at c;rcases dJ (gC h w)with a|a
  .let⟨f,g⟩:=bZ a;by_cases d:(aI h w).aQ=1
   .have e:=kD (d:=jb) f;simp only[aj g,jb]at e;simp at e;rw[tp a d,fO.gS n _ _ (by simp[jb];omega) b,fO.Rc a]
   .have e:=kD (d:={aI h w with aQ:=(aI h w).aQ -1}) f;simp only[aj g]at e;rw[aj V]at e;rw[qE a d,fO.gS n _ _ (by simp only[Go.Proofs.YtkoifinbblcbiaaGreat.fw];omega) b,fO.fw a]
  .rw[qF a,fO.gS n _ _ V b]
def fO.ns{h:List bO}(b:Nat):fO (ns h) b<->fO h b:=by
 have f:=ub h h.length;unfold fO Go.Proofs.YtkoifinbblcbiaaGreat.ns;constructor
 .rintro⟨c,a,d⟩;have:=az a;rw[gG]at this;rw[dH V]at a;exact⟨c,a,d⟩
 .rintro⟨c,a,d⟩;refine⟨c,?_,d⟩;rw[dH]
  .exact a
  .exact dB λe=>by have:=ua h h.length b c V (az a) a;omega
def fL.mP(c:fL h e)(f:gC h w)(i:(aI h w).aQ<999999)(a:∀b,e' b=e b+if b=ix w then 1 else 0):fL (mP h w) e':=by
 let⟨d,g⟩:=bZ f;refine c.Ku d g V V (λb=>?_) ?_
 .rw[a];split<;>omega
 .rw[a];have:=c.nn (ix w);split<;>omega
def PI(a:gC h w){v:Int}(d:1000<=v):(aI (mP h w) v).aQ=(aI h v).aQ+(if v=w then 1 else 0):=by
 let⟨c,f⟩:=bZ a;unfold mP;by_cases e:v=w
 .subst e;rw[aj rfl];conv=>lhs;unfold aI
  rw[eH c];rfl
 .rw[ae e];conv=>lhs;unfold aI
  rw[iB (λb=>e (Rh d a.1 b))];simp[aI]
def fj.mP{h:List bO}{w:Int}(a:gC h w)(b:Nat):fj (mP h w) b<->fj h b:=by
 let⟨c,d⟩:=bZ a;by_cases e:b=ix w
 .subst e;unfold Go.Proofs.YtkoifinbblcbiaaGreat.mP;rw[fj.Eo c];exact⟨λ_=>a.2,λ_=>by simp only[];omega⟩
 .exact fj.ne e
def iT(d:1000<=w)(r:List Int)(b:Nat):eQ (w::r) b=(if b=ix w then 1 else 0)+eQ r b:=by
 simp only[eQ];congr 1;have e:=iV d;by_cases a:b=ix w
 .subst a;rw[aj e.symm,aj rfl]
 .rw[ae a,ae (λc=>a (by rw[c,ng]))]
def fL.jf:∀(a:List Int)(h:List bO)(e e':Nat->Int),fL h e->(∀w∈a,gC h w/\(aI h w).aQ+eQ a (ix w)<=999999)->(∀b,e' b=e b+eQ a b)->fL (jf h a) e'/\(∀b,fO (jf h a) b<->fO h b)/\(jf h a).length=h.length
 |[],h,e,e',i,_,g=>⟨i.congr λb=>by rw[g];simp[eQ],λ_=>Tm,rfl⟩
 |w::a,h,e,e',i,k,g=>by
  let⟨c,p⟩:=k w aX;rw[iT c.1,aj rfl]at p;have:=iU a (ix w);let⟨m,n,o⟩:=fL.jf a (Go.Proofs.YtkoifinbblcbiaaGreat.mP h w) (λb=>e b+if b=ix w then 1 else 0) e' (i.mP c V λb=>rfl) (λv q=>by
   let⟨d,j⟩:=k v (ai _ q);refine⟨⟨d.1,(fj.mP c _).2 d.2⟩,?_⟩;rw[PI c d.1];rw[iT c.1]at j;split
   .rename_i f;subst f;rw[aj rfl]at j;omega
   .rename_i f;rw[ae (λl=>f (Rh d.1 c.1 l))]at j;omega) (λb=>by rw[g,iT c.1];omega)
  refine⟨m,λb=>by rw[Go.Proofs.YtkoifinbblcbiaaGreat.jf,n,fO.mP c],by rw[Go.Proofs.YtkoifinbblcbiaaGreat.jf,o];simp[Go.Proofs.YtkoifinbblcbiaaGreat.mP]⟩
def lF{l:List Int}:w∈kY l<->w∈l/\1000<=w:=by simp[kY]
def fL.apart{h:List bO}{e e':Nat->Int}(j:fL h e){w:Int}(o:gC h w)(H:0<e (ix w))(t:(aI h w).aQ=1\/lz h (aI h w).aN)
 (A:∀b,e' b=e b -(if b=ix w then 1 else 0)+eQ (aI h w).aN b)(K:pK h):fL (apart h w) e'/\(∀b,fO (apart h w) b<->fO h b)/\pK (apart h w):=by
 let⟨g,J⟩:=bZ o
 unfold Go.Proofs.YtkoifinbblcbiaaGreat.apart
 by_cases r:(aI h w).aQ=1
 .rw[aj r]
  exact⟨(j.Rc g r H (c':=jb) be be rfl (by simp[jb]) (by simp[jb]) (λ_=>rfl) A).ns,λb=>by rw[fO.ns,fO.Rc o],Hi _⟩
 .rw[ae r]
  have t:lz h (aI h w).aN:=by rcases t with m|m;exact absurd m r;exact m
  have Q:=(j.cell _ (au g)).hi
  have I:fL (Go.Proofs.YtkoifinbblcbiaaGreat.fw h w) (λb=>e b -if b=ix w then 1 else 0):=j.Ku g J V V (λb=>by split<;>omega) bJ
  have u:∀b,fj h b->fj (Go.Proofs.YtkoifinbblcbiaaGreat.fw h w) b:=λb f=>by
   by_cases k:b=ix w
   .subst k;unfold Go.Proofs.YtkoifinbblcbiaaGreat.fw;rw[fj.Eo g];simp only[];omega
   .exact(fj.ne k).2 f
  let⟨m,y,z⟩:=fL.jf (kY (aI h w).aN) _ _ e' I (λv x=>by
   let⟨s,p⟩:=lF.1 x;have a:=j.field (au g) s p;refine⟨⟨a.1,u _ a.2⟩,?_⟩;have:=t v s p;rw[wA];have O:(aI (Go.Proofs.YtkoifinbblcbiaaGreat.fw h w) v).aQ<=(aI h v).aQ:=by
    by_cases k:ix v=ix w
    .have i:=Rh p o.1 k;subst i;unfold Go.Proofs.YtkoifinbblcbiaaGreat.fw;conv=>lhs;unfold aI
     rw[eH g];show(aI h v).aQ -1<=(aI h v).aQ;omega
    .unfold Go.Proofs.YtkoifinbblcbiaaGreat.fw;conv=>lhs;unfold aI
     rw[iB k];exact cY _
   omega) (λb=>by rw[A,wA])
  refine⟨m,λb=>by rw[y,fO.fw o],λc n=>?_⟩
  intro M
  rw[z]at n
  have B:(Go.Proofs.YtkoifinbblcbiaaGreat.fw h w).length=h.length:=by simp[Go.Proofs.YtkoifinbblcbiaaGreat.fw]
  rw[B]at n
  have f:=az n
  rw[z,B]at f
  let⟨d,hd⟩:=cK h (h.length -1)
  have N:=K d hd
  have G:=j.cell d (au hd)
  have P:=G.lo
  rcases dJ (0<d.aQ)with C|C
  .have F:∀(q:List Int)(l:List bO),(∀v∈q,gC l v)->∀b,fj l b->fj (Go.Proofs.YtkoifinbblcbiaaGreat.jf l q) b:=by
    intro q;induction q with
    |nil=>intro l _ b f;exact f
    |cons v q L=>
     intro l i b f;have a:=i v aX;exact L _ (λE D=>⟨(i E (ai _ D)).1,(fj.mP a _).2 (i E (ai _ D)).2⟩) b ((fj.mP a _).2 f)
   let⟨D,i,E⟩:=F (kY (aI h w).aN) (Go.Proofs.YtkoifinbblcbiaaGreat.fw h w) (λv x=>by
    let⟨s,p⟩:=lF.1 x;have a:=j.field (au g) s p;exact⟨a.1,u _ a.2⟩) _ (u _ ⟨d,hd,C⟩)
   rw[n]at i;simp at i;subst i;omega
  .have l:fO h (h.length -1):=⟨d,hd,V⟩
   let⟨D,i,q⟩:=(y (h.length -1)).2 ((fO.fw o _).2 l)
   rw[n]at i;simp at i;subst i;omega
def qH:∀(h:List bO),dG h<=h.length
 |[]=>ad _
 |c::h=>by have:=qH h;simp only[dG,aV];split<;>omega
def DV:∀(h:List bO)(c:bO),h[dG h]? =some c->c.aQ=0
 |[],c,a=>by simp[dG]at a
 |d::h,c,a=>by
  simp only[dG]at a;split at a
  .rename_i b;simp at a;subst a;exact b
  .exact DV h c (by simpa using a)
def fL.alloc(k:fL h e){t:Int}{f:List Int}(s:∀w∈f,tD h w)(m:f.length<=3)(r:0<=t/\t<=99)(n:∀b,eQ f b<=e b)
 (l:∀b,e' b=e b -eQ f b+if b=dG h then 1 else 0)(u:pK h):
 fL (je h (dG h) ⟨1,t,f⟩) e'/\(∀b,fO (je h (dG h) ⟨1,t,f⟩) b<->fO h b)/\pK (je h (dG h) ⟨1,t,f⟩):=by
 unfold je
 have o:¬fj h (dG h):=λ⟨c,a,v⟩=>by have:=DV h c a;omega
 by_cases i:dG h=h.length
 .rw[aj i]
  have q:(h++[⟨1,t,f⟩])[dG h]? =some ⟨1,t,f⟩:=by rw[i];simp
  have p:∀b,b≠dG h->(h++[⟨1,t,f⟩])[b]? =h[b]? :=λb g=>by
   rcases aZ b h.length with j|j
   .rw[ax j]
   .rw[da bJ,da j]
  refine⟨k.make o q p (λb=>by rw[uU];simp[fH]) s m r n l,λb=>?_,λc a=>?_⟩
  .by_cases g:b=dG h
   .rw[g];unfold fO;rw[q,i];simp
   .unfold fO;rw[p b g]
  .simp at a;subst a;simp
 .rw[ae i]
  have q:dG h<h.length:=by have:=qH h;omega
  let⟨d,hd⟩:=dZ q
  have j:=DV h d hd
  have p:=((k.cell d (au hd)).DT V).2.2 j
  refine⟨k.make o (eH hd) (λb g=>iB g) (λb=>by rw[Aq _ hd,p];simp[eQ]) s m r n l,λb=>fO.set hd V aL b,λc a=>?_⟩
  rw[eE]at a
  by_cases g:h.length -1=dG h
  .rw[g,eH hd]at a;simp at a;subst a;simp
  .rw[iB g]at a;exact u c a
end
section
variable{b:cg}{w:Int}{s:St}{c:List aU}{f d:aU}
def Fp{b:cg}{x:Instr}:∀{l:List Int}{k:Nat}{r:Int},r∈iD b x k l->r∈l
 |[],k,r,h=>by simp[iD]at h
 |y::l,k,r,h=>by
  simp only[iD]at h;split at h
  .exact ai _ (Fp h)
  .rcases List.mem_cons.1 h with rfl|h
   .exact aX
   .exact ai _ (Fp h)
def Ch{x:Instr}{r:Int}(h:r∈bW b x):r∈x.args:=by
 unfold bW at h;split at h
 .exact h
 split at h
 .exact gB h
 split at h
 .exact Fp h
 .simp at h
def Jb{a:List bz}(h:dU a)(c:Int):(cF a c).length<=3:=by
 unfold cF;split
 .cases g:(eP a)[c.toNat]? with
  |none=>simp
  |some f=>
   have d:=au g;unfold eP at d;let⟨e,hd,b⟩:=List.mem_flatMap.1 d;let⟨k,i⟩:=List.mem_iff_getElem?.1 hd;have:=(h.dx k e i).iY (List.length_pos_of_mem b);exact(this.2.2.2 f b).1
 .simp
def gN.put{b:cg}{d:aU}(h:gN b d){r w o:Int}(i:0<=r)(g:iJ w\/1000<=w)(e:0<=o)(f:0<o->1000<=w):gN b (d.put r w o):=by
 refine⟨h.eg,h.pc,by simp only[aU.put,jV];exact h.lr,by simp only[aU.put,jV];exact h.lo,h.lh,λy a=>?_,λk q y c a=>?_,h.aY⟩
 .rcases pS a with rfl|a
  .exact g
  .exact h.Sn y a
 .simp only[aU.put]at c a;rw[Aw]at c a;have:=h.lr;have:=h.lo;split at c<;>split at a
  .simp at c a;subst c;subst a;exact⟨e,f⟩
  .omega
  .omega
  .exact h.aR k q y c a
def HZ(w:Int):0<=gF w:=by unfold gF;split<;>omega
def Ej(h:0<gF w):1000<=w:=by unfold gF at h;split at h<;>omega
def xH(w:Int)(b:Nat):(if w=1000+(b:Int)then gF w else 0)=eQ [w] b:=by
 simp only[eQ,gF];split
 .rw[aj V];rfl
 .rfl
def HD(n:Int):iJ (FG n):=by unfold FG iJ;split<;>(try split)<;>omega
def Qg(c a b:Int):iJ (OS c a b):=by
 unfold OS;split
 .exact HD _
 split
 .exact HD _
 split
 .exact HD _
 split<;>(unfold iJ;omega)
def lZ(cO:List Int):∀(a:List Int)(k:Nat),(dI cO k a).length=a.length
 |[],k=>rfl
 |w::a,k=>by simp only[dI,aV,lZ cO a]
def Js(cO:List Int):∀(b:List Int)(k j:Nat)(o w:Int),(dI cO k b)[j]? =some o->b[j]? =some w->0<=o/\(0<o->1000<=w)
 |[],k,j,o,w,_,h=>by simp at h
 |v::b,k,0,o,w,a,c=>by
  simp[dI]at a c;subst c;split at a
  .subst a;omega
  .subst a;exact⟨HZ _,Ej⟩
 |v::b,k,j+1,o,w,a,c=>Js cO b (k+1) j o w (by simpa[dI]using a) (by simpa using c)
def ku(n:Nat):(df n).length=n:=by simp[df]
def qK{n:Nat}(h:w∈df n):w=0:=VQ h
def uR{d j:Int}{e:List Int}{p:dA}(m:iE b)(l:0<=d)(h:b.cC[d.toNat]? =some p)(q:e.length=p.params.length)(n:∀w∈e,iJ w\/1000<=w):gN b (br b d j e):=by
 have f:dC b d=p:=by simp[dC,h]
 have i:=m.dx p (au h);have t:=i.an;have r:=i.len;have s:=az h;refine⟨⟨l,by simp only[br];omega⟩,⟨by simp[br],by simp only[br,f];omega⟩,?_,?_,?_,λw a=>?_,λk o w c a=>?_,λw a=>Or.inl (qK a)⟩
 .simp only[br,f,ba,ku];omega
 .simp only[br,f,ba,ku,lZ];omega
 .simp only[br,f,ku];omega
 .simp only[br]at a;rcases List.mem_append.1 a with a|a
  .exact n w a
  .rw[qK a];exact Or.inl (by unfold iJ;omega)
 .simp only[br]at c a;rcases aZ k e.length with g|g
  .rw[ax (by rw[lZ];exact g)]at c;rw[ax g]at a;exact Js _ e 0 k o w c a
  .rw[aF (by rw[lZ];exact g)]at c;rw[qK (ij c)];omega
def qZ(b:cg)(d e:Int)(a:List Int)(c:Nat):dq (br b d e a).an (br b d e a).aR c=dq a (dI (dC b d).cO 0 a) c:=by
 simp only[br];rw[Gn _ _ (lZ _ _ _).symm,tK (λn f=>qK f)];omega
def pT(b:cg)(d c:Int)(e:List Int)(a:Nat):eS [br b d c e] a=0:=by
 rw[iZ];exact SU _ _
def HY{b:cg}{d:Instr}(f:aU):∀(e:List Int)(k:Nat)(a:Nat),dq (cN f e) (dI (dC b d.bQ).cO k (cN f e)) a=eQ ((iD b d k e).map (aG f.an)) a
 |[],k,a=>by simp[cN,dq,iD,eQ]
 |r::h,k,a=>by
  have g:=HY (b:=b) (d:=d) f h (k+1) a;simp only[cN,cG,dI,dq,iD]at g⊢;rw[g];by_cases c:nI b d k=true
  .rw[aj c];unfold nI at c;rw[aj c];split<;>omega
  .rw[ae c];unfold nI at c;rw[ae c];simp only[cG,eQ];have:=xH (aG f.an r) a;simp only[eQ]at this;omega
def Jt:∀(a:List Int)(k:Nat)(b:Nat),dq a (dI [] k a) b=eQ a b
 |[],k,b=>by simp[dq,eQ]
 |w::a,k,b=>by
  have:=Jt a (k+1) b;have c:=xH w b;simp only[eQ]at c;simp only[dI,dq,eQ,this,QI,ig,qt];omega
def db.qI{g:List bO}(i:db b s)(l:s.av=c++[f])(m:d.aY=f.aY)(j:∀a,fO g a<->fO s.heap a):
 (∀a,fO g a->eS (c++[d]) a=1)/\(∀a,¬fO g a->eS (c++[d]) a=0):=by
 have h:∀a,eS (c++[d]) a=eS s.av a:=λa=>by rw[l,eI,eI,iZ,iZ,m]
 exact⟨λa e=>by rw[h];exact i.lD a ((j a).1 e),λa e=>by rw[h];exact i.nL a λk=>e ((j a).2 k)⟩
def db.push(h:db b s)(C:s.bI=3)(g:s.av=c++[f])(p:gN b d)(hd:0<=d.dst/\d.dst<f.aR.length/\aG f.aR d.dst=0){e:List bO}{bC:Int}
 (r:fL e (gU (c++[f,d])))(v:pK e)(t:∀a,fO e a->eS (c++[f,d]) a=1)(w:∀a,¬fO e a->eS (c++[f,d]) a=0)(z:bC=s.bC+1)(B:s.bC<s.bq):
 db b {s with heap:=e,bC:=bC,av:=c++[f,d]}:=by
 have A:=h.bC
 have m:=h.depth
 rw[g]at m
 refine⟨h.fA,h.bI,⟨λi=>by simp at i;omega,sx⟩,h.value,h.vL,h.bq,⟨by simp only[];omega,by simp only[];omega⟩,by simp at m⊢;omega,h.aW,r,v,λq a=>?_,λq a=>?_,λk x q e a=>?_,t,w⟩
 .rcases List.mem_append.1 a with a|a
  .exact h.av q (by rw[g];exact bL _ a)
  .simp at a
   rcases a with rfl|rfl
   .exact h.av _ (by rw[g];simp)
   .exact p
 .have j:=h.first
  rw[g]at j
  cases c with
  |nil=>simp at a;subst a;exact j f aL
  |cons y l=>simp at a;subst a;exact j y aL
 .have l:=h.chain k
  rw[g]at l
  simp only[]at e a
  have i:c++[f,d]=(c++[f])++[d]:=aL
  rw[i]at e a
  have u:=az a
  simp at u
  rw[ax bJ]at e
  rcases aZ (k+1) (c++[f]).length with j|j
  .rw[ax j]at a
   exact l x q e a
  .simp at j
   rw[aF bJ]at a
   have n:k+1 -(c++[f]).length=0:=bJ
   rw[n]at a;simp at a;subst a
   rw[aF V]at e
   have o:k -c.length=0:=V
   rw[o]at e;simp at e;subst e;exact hd
def Rm(j:db b s)(S:s.bI=3)(q:s.av=c++[f])
 (N:kA b s f (dt b f) (bB f.an f.aR (bW b (dt b f))))(bi:¬(na (dt b f).op/\s.bC=s.bq)):
 db b (eJ b s c f (dt b f) (bB f.an f.aR (bW b (dt b f)))):=by
 have J:gN b f:=j.av f (by rw[q];simp)
 let⟨ac,hp,aB,hP,a6,hI⟩:=J.Jg j.fA
 generalize dt b f=x at*
 have⟨lr,lo,lh⟩:(f.an.length:Int)=ac.an/\(f.aR.length:Int)=ac.an/\(f.aY.length:Int)=ac.an:=⟨aB▸J.lr,aB▸J.lo,aB▸J.lh⟩
 have al:∀u∈x.args,0<=u/\u<f.an.length:=λu v=>by have:=hI.args u v;omega
 have a4:∀r∈bW b x,0<=r/\r<f.an.length:=λr S=>al r (Ch S)
 have bp:=yl (an:=f.an) (bW b x) f.aR a4 V
 have bo:=ka f.an (bW b x) f.aR
 have bn:=lj (an:=f.an) (bW b x) f.aR
 generalize bB f.an f.aR (bW b x)=aR at*
 have aJ:∀E∈c,gN b E:=λE m=>j.av E (by rw[q];exact bL _ m)
 have am:∀e,0<=gU c e+dq f.an aR e:=λe=>by
  have:=Kr aJ e;have:=tJ (an:=f.an) N.nn e;omega
 have F:fL s.heap (λe=>gU c e+dq f.an aR e+eQ ((bW b x).map (aG f.an)) e):=j.heap.congr λe=>by
  rw[q,fW,kQ,bp];omega
 have bc:∀P:Int,0<=P->P<ac.cX.length->gN b {f with aR:=aR,pc:=P}:=λP h0 k=>
  ⟨J.eg,⟨h0,by rw[aB];exact k⟩,J.lr,by simp only[bo];exact J.lo,J.lh,J.Sn,λz ab w X o=>by
   let⟨E,m,p⟩:=bn z ab X;have C:=J.aR z E w m o;exact⟨N.nn ab (ij X),λn=>C.2 V⟩,J.aY⟩
 have bq:=J.pc
 rw[aB]at bq
 have bb:x.op≠23->x.op≠24->f.pc+1<ac.cX.length:=λk C=>by
  rcases dJ (f.pc+1<ac.cX.length)with B|B
  .exact B
  .have U:f.pc.toNat=ac.cX.length -1:=V;rw[U]at a6;have:=hP.Ri x a6;omega
 have hG:x.op≠23->x.op≠24->gN b {f with aR:=aR,pc:=f.pc+1}:=λk C=>bc _ V (bb k C)
 have ap:∀r:Int,0<=r->r<f.an.length->iJ (aG f.an r)\/1000<=aG f.an r:=λr h0 k=>J.Sn _ (fq h0 k)
 have a9:∀r:Int,0<=r->r<f.an.length->aG f.an r<1000->iJ (aG f.an r):=λr h0 k C=>by rcases ap r h0 k with B|B;exact B;omega
 have ah:=hI.dst
 have a7:lT x.op->aG aR x.dst=0:=λO=>by
  have k:=N.dst O;have C:=N.nn _ (fq (l:=aR) ah.1 V);omega
 have bs:∀r∈bW b x,tD s.heap (aG f.an r):=λr bd=>by
  have be:=a4 r bd;rcases ap r be.1 be.2 with B|B
  .exact Or.inl B
  .refine Or.inr ⟨B,F.lv _ ?_⟩;have:=am (ix (aG f.an r));have:=uS (l:=(bW b x).map (aG f.an)) (f:=ix (aG f.an r)) (by rw[iV B];exact List.mem_map.2 ⟨r,bd,rfl⟩);omega
 have aK:∀(P:Int)(a8:List Int)(w ab:Int),lT x.op->∀e,gU (c++[aU.put {f with aR:=aR,pc:=P,aY:=a8} x.dst w ab]) e=gU c e+dq f.an aR e+(if w=1000+(e:Int)then ab else 0):=λP a8 w ab O e=>by
  rw[fW,kQ];simp only[aU.put];rw[NP ah.1 V V (a7 O)];omega
 have aO:∀(w:Int)(aW:List Int),lT x.op->x.op≠23->x.op≠24->bW b x=[]->(iJ w\/1000<=w)->(∀n∈aW,iJ n)->db b {s with aW:=aW,av:=c++[aU.put {f with aR:=aR,pc:=f.pc+1} x.dst w 0]}:=λw aW O k C y o X=>by
  let⟨A,Q⟩:=j.qI q (d:=aU.put {f with aR:=aR,pc:=f.pc+1} x.dst w 0) rfl (λe=>Tm);refine j.fZ S q (hd:=rfl) ((hG k C).put ah.1 o (cY _) (λB=>V)) (F.congr λe=>?_) j.jL A Q X (bC:=s.bC) ⟨cY _,j.bC.2⟩;rw[aK _ _ _ _ O,y];simp[eQ]
 have aQ:∀P:Int,0<=P->P<ac.cX.length->bW b x=[]->db b {s with av:=c++[{f with aR:=aR,pc:=P}]}:=λP h0 k y=>by
  let⟨A,Q⟩:=j.qI q (d:={f with aR:=aR,pc:=P}) rfl (λe=>Tm);refine j.fZ S q (hd:=rfl) (bc P h0 k) (F.congr λe=>?_) j.jL A Q j.aW (bC:=s.bC) ⟨cY _,j.bC.2⟩;rw[fW,kQ,y];simp[eQ]
 have p:=hI.op
 unfold lS at p
 unfold eJ
 simp only[]
 by_cases e0:x.op=0
 .rw[aj e0]at p⊢
  exact aO _ _ (by unfold lT;omega) V V (by simp[bW,e0]) (Or.inl p.2) j.aW
 rw[ae e0]at p⊢
 by_cases e1:x.op=1\/x.op=2\/x.op=3\/x.op=4
 .rw[aj e1]
  exact aO _ _ (by unfold lT;omega) V V (by unfold bW;rw[ae V,ae V,ae V]) (Or.inl (Qg _ _ _)) j.aW
 rw[ae e1]
 have aq:1<=x.args.length->0<=aG x.args 0/\aG x.args 0<f.an.length:=λk=>al _ (fq V V)
 by_cases e5:x.op=5
 .rw[aj e5]
  rw[ae V,aj V]at p
  have v:=aq V
  have ay:iJ (aG f.an (aG x.args 0)):=a9 _ v.1 v.2 (N.nT V _ (fq V V))
  refine aO _ _ (by unfold lT;omega) V V (by simp[bW,e5]) (Or.inl ay) λn G=>?_
  rcases List.mem_append.1 G with G|G
  .exact j.aW n G
  .simp at G;subst G;exact ay
 rw[ae e5]
 have bf:(bW b x=x.args)->∀w∈cN f x.args,tD s.heap w:=λy w o=>by
  obtain⟨r,Z,rfl⟩:=List.mem_map.1 o;exact bs r (y▸Z)
 have a1:∀aC,bW b x=x.args->x.op≠23->x.op≠24->lT x.op->x.args.length<=3->0<=aC/\aC<=99->db b {s with heap:=je s.heap (dG s.heap) ⟨1,aC,cN f x.args⟩,av:=c++[aU.put {f with aR:=aR,pc:=f.pc+1} x.dst (1000+dG s.heap) 1]}:=λaC y k C O B aX=>by
  let⟨T,k2,k3⟩:=F.alloc (t:=aC) (f:=cN f x.args) (e':=gU (c++[aU.put {f with aR:=aR,pc:=f.pc+1} x.dst (1000+dG s.heap) 1])) (bf y) (by simpa[cN]using B) aX (λe=>by rw[y];have:=am e;simp only[cN];omega) (λe=>by
   rw[aK _ _ _ _ O,y];simp only[cN];have:(if(1000+(dG s.heap:Int))=1000+(e:Int)then(1:Int)else 0)=if e=dG s.heap then 1 else 0:=by
    by_cases n:e=dG s.heap
    .rw[aj n,aj V]
    .rw[ae n,ae V]
   rw[this];omega) j.jL
  let⟨A,Q⟩:=j.qI q (d:=aU.put {f with aR:=aR,pc:=f.pc+1} x.dst (1000+dG s.heap) 1) rfl k2;exact j.fZ S q (hd:=rfl) ((hG k C).put ah.1 (Or.inr V) V (λ_=>V)) T k3 A Q j.aW (bC:=s.bC) ⟨cY _,j.bC.2⟩
 have bt:(eP b.bn).length<=12:=by
  have:=ry j.fA.ni.types b.bn.length;rw[mV _ _ (ad _)]at this;exact this
 have bv:=j.fA.ni.len
 by_cases R:x.op=6
 .rw[aj R]
  rw[ae V,ae V,aj R]at p
  have y:bW b x=x.args:=by unfold bW;rw[aj V]
  have O:lT x.op:=by unfold lT;omega
  have aa:x.args.length<=3:=by rw[p.2.1];exact Jb j.fA.ni.types _
  split
  .rename_i aE
   have K:0<=x.bM -1/\x.bM -1<f.aY.length:=V
   have hv:=J.aY _ (fq (l:=f.aY) K.1 K.2)
   have L:1000<=aG f.aY (x.bM -1):=V
   have aD:0<eS s.av (ix (aG f.aY (x.bM -1))):=by
    rw[q,eI,iZ];have:=zX c (ix (aG f.aY (x.bM -1)));have:=uS (l:=f.aY) (f:=ix (aG f.aY (x.bM -1))) (by rw[iV L];exact fq K.1 K.2);omega
   have Y:fO s.heap (ix (aG f.aY (x.bM -1))):=dB λG=>by have:=j.nL _ G;omega
   have ak:=j.lD _ Y
   let⟨W,hd,ar⟩:=Y
   have aw:∀e,eQ W.aN e=0:=λe=>nW λo=>by
    have:=((F.cell W (au hd)).DT V).2.1 _ o;omega
   have T:=F.make (v:=x.bQ) (c:=cN f x.args) (e':=gU (c++[aU.put {f with aR:=aR,pc:=f.pc+1,aY:=gR f.aY (x.bM -1) 0} x.dst (aG f.aY (x.bM -1)) 1])) (f:=ix (aG f.aY (x.bM -1))) (g:=s.heap.set (ix (aG f.aY (x.bM -1))) ⟨1,x.bQ,cN f x.args⟩)
    (fO.UE ⟨W,hd,ar⟩) (eH hd) (λe n=>iB n) (λe=>by rw[Aq _ hd,aw];simp only[];omega) (bf y) (by simpa[cN]using aa) V (λe=>by rw[y];have:=am e;simp only[cN];omega) (λe=>by
     rw[aK _ _ _ _ O,y];simp only[cN];have:(if aG f.aY (x.bM -1)=1000+(e:Int)then(1:Int)else 0)=if e=ix (aG f.aY (x.bM -1))then 1 else 0:=by
      by_cases n:e=ix (aG f.aY (x.bM -1))
      .rw[aj n,aj (by rw[n,iV L])]
      .rw[ae n,ae (λI=>n (by rw[I,ng]))]
     rw[this];omega)
   have aA:∀e,eQ (gR f.aY (x.bM -1) 0) e=eQ f.aY e -(if e=ix (aG f.aY (x.bM -1))then 1 else 0):=by
    intro e;have ai:∀(D:List Int)(z:Nat)(w:Int),D[z]? =some w->eQ (D.set z 0) e=eQ D e -(if w=1000+(e:Int)then 1 else 0):=by
     intro D;induction D with
     |nil=>intro z w A;simp at A
     |cons af D ih=>
      intro z w A;cases z with
      |zero=>simp at A;subst A;simp only[il,eQ];rw[ae V];omega
      |succ z=>have:=ih z w (by simpa using A);simp only[jq,eQ,this];omega
    rw[gR,ai _ _ _ (oI K.1 K.2)];by_cases n:e=ix (aG f.aY (x.bM -1))
    .rw[aj n,aj (by rw[n,iV L])]
    .rw[ae n,ae (λI=>n (by rw[I,ng]))]
   have M:∀e,eS (c++[aU.put {f with aR:=aR,pc:=f.pc+1,aY:=gR f.aY (x.bM -1) 0} x.dst (aG f.aY (x.bM -1)) 1]) e=eS s.av e -(if e=ix (aG f.aY (x.bM -1))then 1 else 0):=λe=>by
    rw[q,eI,eI,iZ,iZ];simp only[aU.put];rw[aA];omega
   have ao:gN b {f with aR:=aR,pc:=f.pc+1,aY:=gR f.aY (x.bM -1) 0}:=by
    have k:=hG V V;exact⟨k.eg,k.pc,k.lr,k.lo,by simp only[jV];exact k.lh,k.Sn,k.aR,λw o=>by rcases pS o with o|o;exact Or.inl o;exact k.aY w o⟩
   refine j.fZ S q (hd:=rfl) (ao.put ah.1 (Or.inr L) V (λ_=>L)) T ?_ (λu v=>?_) (λu v=>?_) j.aW (bC:=s.bC) ⟨cY _,j.bC.2⟩
   .intro ag H
    rw[eE]at H
    by_cases n:s.heap.length -1=ix (aG f.aY (x.bM -1))
    .rw[n,eH hd]at H;simp at H;subst H;simp
    .rw[iB n]at H;exact j.jL ag H
   .rw[M]
    by_cases n:u=ix (aG f.aY (x.bM -1))
    .subst n;rw[fO.Eo hd]at v;simp at v
    .rw[ae n];rw[fO.ne n]at v;have:=j.lD u v;omega
   .rw[M]
    by_cases n:u=ix (aG f.aY (x.bM -1))
    .subst n;rw[aj rfl];omega
    .rw[ae n];rw[fO.ne n]at v;have:=j.nL u v;omega
  .exact a1 _ y V V O aa V
 rw[ae R]
 by_cases Y:x.op=10
 .rw[aj Y]
  rw[ae V,ae V,ae R,ae V,aj Y]at p
  obtain⟨⟨E,aH,ao,aM⟩,_⟩:=p
  have B:=(j.fA.ni.dx E (au ao)).1
  have:=az ao
  exact a1 _ (by unfold bW;rw[aj V]) V V (by unfold lT;omega) V (by unfold bH;omega)
 rw[ae Y]
 by_cases aD:x.op=14
 .rw[aj aD]
  rw[ae V,aj V]at p
  have v:=aq V
  have y:bW b x=[]:=by simp[bW,aD]
  let⟨G,W⟩:=N.VV aD
  let⟨A,Q⟩:=j.qI q (d:={f with aR:=gR aR (aG x.args 0) (aG aR (aG x.args 0)+1),pc:=f.pc+1}) rfl (λe=>fO.mP G e)
  have k:=hG V V
  refine j.fZ S q (hd:=rfl) (g:={f with aR:=gR aR (aG x.args 0) (aG aR (aG x.args 0)+1),pc:=f.pc+1}) ⟨k.eg,k.pc,k.lr,by simp only[jV];exact k.lo,k.lh,k.Sn,λz ab w X o=>?_,k.aY⟩ (F.mP G W λe=>?_) ?_ A Q j.aW (bC:=s.bC) ⟨cY _,j.bC.2⟩
  .simp only[]at X o
   rw[Aw]at X
   split at X
   .rename_i K
    simp at X
    have U:aG f.an (aG x.args 0)=w:=by rw[aG,fR,<-K.1,o];rfl
    have:=N.nn _ (fq (l:=aR) v.1 V)
    have:=G.1
    exact⟨V,λ_=>V⟩
   .exact k.aR z ab w X o
  .rw[fW,kQ,y]
   simp only[]
   rw[HV v.1 v.2 V]
   have K:=iV G.1
   simp only[fD,eQ]
   by_cases n:e=ix (aG f.an (aG x.args 0))
   .rw[aj n,aj (by rw[n,K])];omega
   .rw[ae n,ae (λI=>n (by rw[I,ng]))];omega
  .let⟨H,aA⟩:=bZ G
   intro ag L
   unfold mP at L
   rw[eE]at L
   by_cases n:s.heap.length -1=ix (aG f.an (aG x.args 0))
   .rw[n,eH H]at L;simp at L;subst L;simp only[];omega
   .rw[iB n]at L;exact j.jL ag L
 rw[ae aD]
 have aP:x.args.length=1->x.args=[aG x.args 0]:=λk=>by
  cases hx:x.args with
  |nil=>rw[hx]at k;simp at k
  |cons af D=>cases D with
   |nil=>rfl
   |cons ba D=>rw[hx]at k;simp at k
 by_cases a2:x.op=15
 .rw[aj a2]
  rw[ae V,aj V]at p
  have y:bW b x=[aG x.args 0]:=by unfold bW;rw[aj V];exact aP V
  rw[y]at F
  have T:=fL.gS _ s.heap [aG f.an (aG x.args 0)] (λe=>gU c e+dq f.an aR e) (ad _) (F.congr λe=>rfl) am
  let⟨A,Q⟩:=j.qI q (d:={f with aR:=aR,pc:=f.pc+1}) rfl (λe=>(fO.ns (h:=gS s.heap [aG f.an (aG x.args 0)]) e).trans (fO.gS _ _ _ (ad _) e))
  exact j.fZ S q (hd:=rfl) (hG V V) (T.ns.congr λe=>by rw[fW,kQ]) (Hi _) A Q j.aW (bC:=s.bC) ⟨cY _,j.bC.2⟩
 rw[ae a2]
 by_cases W:x.op=16\/x.op=17
 .rw[aj W]
  rw[ae V,ae V,ae R,ae V,ae Y,aj W]at p
  have v:=aq V
  have y:bW b x=[aG x.args 0]:=by
   unfold bW;rw[ae V,aj W];cases hx:x.args with
   |nil=>rw[hx]at p;simp at p
   |cons af D=>rfl
  let⟨G,aN,aS,a3⟩:=N.Jp W
  let⟨H,aA⟩:=bZ G
  have aT:∀r∈x.args.drop 1,0<=r/\r<aR.length/\1000<=aG f.an r:=λr Z=>by
   have k:=al r (xg Z);have C:aG f.an r∈kY (aI s.heap (aG f.an (aG x.args 0))).aN:=by rw[aN];exact List.mem_map.2 ⟨r,Z,rfl⟩
   exact⟨k.1,V,(lF.1 C).2⟩
  have k:=hG V V
  have aa:gN b {f with aR:=dE aR (x.args.drop 1),pc:=f.pc+1}:=⟨k.eg,k.pc,k.lr,by simp only[lQ];exact k.lo,k.lh,k.Sn,KM (an:=f.an) _ aR aT k.aR,k.aY⟩
  have a_:∀e,dq f.an (dE aR (x.args.drop 1)) e=dq f.an aR e+eQ (aI s.heap (aG f.an (aG x.args 0))).aN e:=λe=>by
   rw[FE (an:=f.an) _ _ (λr Z=>oh (aT r Z)) V,<-wA (aI s.heap _).aN,aN];rfl
  have aw:0<gU c (ix (aG f.an (aG x.args 0)))+dq f.an aR (ix (aG f.an (aG x.args 0)))+eQ ((bW b x).map (aG f.an)) (ix (aG f.an (aG x.args 0))):=by
   rw[y];have:=am (ix (aG f.an (aG x.args 0)));simp only[cG,fD,iT G.1,aj,eQ];omega
  have ar:∀e,gU c e+dq f.an (dE aR (x.args.drop 1)) e=(gU c e+dq f.an aR e+eQ ((bW b x).map (aG f.an)) e) -(if e=ix (aG f.an (aG x.args 0))then 1 else 0)+eQ (aI s.heap (aG f.an (aG x.args 0))).aN e:=λe=>by
   rw[a_,y];simp only[cG,fD,iT G.1,eQ];omega
  split
  .rename_i ak
   have a0:=a3 ak.2
   have T:=F.Rc H ak.1 aw (c':=⟨-1,0,df (aI s.heap (aG f.an (aG x.args 0))).aN.length⟩) aL aL rfl (λw o=>qK o) (by simp only[ku];exact(F.cell _ (au H)).fl) (sx) (e':=gU (c++[{f with aR:=dE aR (x.args.drop 1),pc:=f.pc+1,aY:=gR f.aY (aG x.args 0) (aG f.an (aG x.args 0))}])) (λe=>by rw[fW,kQ];exact ar e)
   have ai:∀(e:Nat)(w:Int)(D:List Int)(z:Nat),D[z]? =some 0->eQ (D.set z w) e=eQ D e+(if w=1000+(e:Int)then 1 else 0):=by
    intro e w D;induction D with
    |nil=>intro z A;simp at A
    |cons af D ih=>
     intro z A;cases z with
     |zero=>simp at A;subst A;simp only[il,eQ];split<;>simp_all<;>omega
     |succ z=>have:=ih z (by simpa using A);simp only[jq,eQ,this];omega
   have aV:aG x.args 0<f.aY.length:=V
   have M:∀e,eS (c++[{f with aR:=dE aR (x.args.drop 1),pc:=f.pc+1,aY:=gR f.aY (aG x.args 0) (aG f.an (aG x.args 0))}]) e=eS s.av e+(if e=ix (aG f.an (aG x.args 0))then 1 else 0):=λe=>by
    rw[q,eI,eI,iZ,iZ];have aE:=oI (l:=f.aY) v.1 aV;rw[a0]at aE;simp only[gR];rw[ai e _ _ _ aE];by_cases n:e=ix (aG f.an (aG x.args 0))
    .rw[aj n,aj (by rw[n,iV G.1])];omega
    .rw[ae n,ae (λI=>n (by rw[I,ng]))];omega
   have a5:¬fO s.heap (ix (aG f.an (aG x.args 0))):=λA=>A.UE G.2
   refine j.fZ S q (hd:=rfl) (g:={f with aR:=dE aR (x.args.drop 1),pc:=f.pc+1,aY:=gR f.aY (aG x.args 0) (aG f.an (aG x.args 0))}) ⟨aa.eg,aa.pc,aa.lr,aa.lo,by simp only[jV];exact aa.lh,aa.Sn,aa.aR,λw o=>?_⟩ T ?_ (λu K=>?_) (λu K=>?_) j.aW (bC:=s.bC) ⟨cY _,j.bC.2⟩
   .rcases pS o with o|o
    .rw[o];exact Or.inr G.1
    .exact J.aY w o
   .intro ag L
    rw[eE]at L
    by_cases n:s.heap.length -1=ix (aG f.an (aG x.args 0))
    .rw[n,eH H]at L;simp at L;subst L;simp
    .rw[iB n]at L;exact j.jL ag L
   .rw[M]
    by_cases n:u=ix (aG f.an (aG x.args 0))
    .rw[aj n,n,j.nL _ a5];rfl
    .rw[ae n];rw[fO.ne n]at K;have:=j.lD u K;omega
   .rw[M]
    by_cases n:u=ix (aG f.an (aG x.args 0))
    .subst n;rw[fO.Eo H]at K;simp at K
    .rw[ae n];rw[fO.ne n]at K;have:=j.nL u K;omega
  .let⟨T,k2,k3⟩:=F.apart G aw aS (e':=gU (c++[{f with aR:=dE aR (x.args.drop 1),pc:=f.pc+1}])) (λe=>by rw[fW,kQ];exact ar e) j.jL
   let⟨A,Q⟩:=j.qI q (d:={f with aR:=dE aR (x.args.drop 1),pc:=f.pc+1}) rfl k2
   exact j.fZ S q (hd:=rfl) aa T k3 A Q j.aW (bC:=s.bC) ⟨cY _,j.bC.2⟩
 rw[ae W]
 by_cases a3:x.op=18
 .rw[aj a3]
  rw[ae V,aj V]at p
  have v:=aq V
  have y:bW b x=[aG x.args 0]:=by unfold bW;rw[aj V];exact aP V
  have O:lT x.op:=by unfold lT;omega
  let⟨A,Q⟩:=j.qI q (d:=aU.put {f with aR:=aR,pc:=f.pc+1} x.dst (aG f.an (aG x.args 0)) (gF (aG f.an (aG x.args 0)))) rfl (λe=>Tm)
  refine j.fZ S q (hd:=rfl) ((hG V V).put ah.1 (ap _ v.1 v.2) (HZ _) Ej) (F.congr λe=>?_) j.jL A Q j.aW (bC:=s.bC) ⟨cY _,j.bC.2⟩
  rw[aK _ _ _ _ O,y,xH];rfl
 rw[ae a3]
 by_cases L:x.op=19
 .rw[aj L]
  rw[ae V,ae V,ae R,ae V,ae Y,ae W,aj L]at p
  let⟨G,n⟩:=N.load L
  let⟨H,aA⟩:=bZ G
  refine aO _ _ (by unfold lT;omega) V V (by simp[bW,L]) ?_ j.aW
  rcases((F.cell _ (au H)).rp aA).1 _ (fq p.2.1 n)with C|C
  .exact Or.inl C
  .exact Or.inr C.1
 rw[ae L]
 by_cases aa:x.op=20
 .rw[aj aa]
  rw[ae V,ae V,ae R,ae V,ae Y,ae W,ae L,aj aa]at p
  have:=bb V V
  exact aQ _ (by split<;>omega) (by split<;>omega) (by simp[bW,aa])
 rw[ae aa]
 by_cases ak:x.op=21
 .rw[aj ak]
  rw[ae V,ae V,ae R,ae V,ae Y,ae W,ae L,ae aa,ae V,aj ak]at p
  let⟨G,aX⟩:=N.BJ ak
  have ag:rC (cx b.bn x.bQ) (aI s.heap (aG f.an (aG x.args 0))).kG<(cx b.bn x.bQ).length:=mE ⟨_,aX,aL⟩
  let⟨ai,n⟩:=p.2.2
  have:=n _ (fq (l:=x.eG) (i:=(rC (cx b.bn x.bQ) (aI s.heap (aG f.an (aG x.args 0))).kG:Nat)) V V)
  exact aQ _ V V (by simp[bW,ak])
 rw[ae ak]
 by_cases ar:x.op=22
 .rw[aj ar]
  rw[ae V,ae V,ae R,ae V,ae Y,ae W,ae L,ae aa,aj ar]at p
  exact aQ _ V V (by simp[bW,ar])
 rw[ae ar]
 have bg:∀w∈cN f x.args,iJ w\/1000<=w:=λw o=>by
  obtain⟨r,Z,rfl⟩:=List.mem_map.1 o;exact ap r (al r Z).1 (al r Z).2
 have aV:na x.op->s.bC<s.bq:=λH=>by
  have:=j.bC;have:s.bC≠s.bq:=λU=>bi ⟨H,U⟩;omega
 have a_:∀(hp:List bO),s.bC<s.bq->x.op≠23->x.op≠24->∀(d:aU),gN b d->lT x.op->d.dst=x.dst->fL hp (gU (c++[{f with aR:=aR,pc:=f.pc+1},d]))->pK hp->(∀e,fO hp e<->fO s.heap e)->(∀e,eS [d] e=0)->
  db b {s with bC:=s.bC+1,heap:=hp,av:=c++[{f with aR:=aR,pc:=f.pc+1},d]}:=λhp bu k C d hg O bl hH hT hK bm=>by
  have a5:=j.bC
  have aw:=j.depth
  rw[q]at aw
  have ee:c++[{f with aR:=aR,pc:=f.pc+1},d]=(c++[{f with aR:=aR,pc:=f.pc+1}])++[d]:=aL
  have M:∀e,eS (c++[{f with aR:=aR,pc:=f.pc+1},d]) e=eS s.av e:=λe=>by
   rw[ee,eI,bm,q,eI,eI,iZ,iZ];simp
  refine⟨j.fA,j.bI,⟨λU=>by simp at U;omega,sx⟩,j.value,j.vL,j.bq,⟨by simp only[];omega,by simp only[];omega⟩,by simp at aw⊢;omega,j.aW,hH,hT,λE m=>?_,λE m=>?_,λz p1 E n m=>?_,λu v=>?_,λu v=>?_⟩
  .rcases List.mem_append.1 m with m|m
   .exact aJ E m
   .simp at m
    rcases m with rfl|rfl
    .exact hG k C
    .exact hg
  .have ai:=j.first
   rw[q]at ai
   cases c with
   |nil=>simp at m;subst m;exact ai f aL
   |cons af ys=>simp at m;subst m;exact ai af aL
  .have ag:=j.chain z
   rw[q]at ag
   simp only[]at n m
   rw[ee]at n m
   have aT:=az m
   simp at aT
   rw[ax bJ]at n
   rcases aZ (z+1) (c.length+1)with B|B
   .rw[ax bJ]at m
    rw[ax V]at n
    rcases aZ (z+1) c.length with h4|h4
    .rw[ax h4]at m
     exact ag p1 E (by rw[ax V];exact n) (by rw[ax h4];exact m)
    .rw[aF h4]at m
     have I:z+1 -c.length=0:=V
     rw[I]at m;simp at m;subst m
     exact ag p1 f (by rw[ax V];exact n) (by rw[aF h4,I];rfl)
   .rw[aF bJ]at m
    have I:z+1 -(c++[{f with aR:=aR,pc:=f.pc+1}]).length=0:=bJ
    rw[I]at m;simp at m;subst m
    rw[aF V]at n
    have e3:z -c.length=0:=V
    rw[e3]at n;simp at n;subst n
    rw[bl]
    exact⟨ah.1,by simp only[];omega,a7 O⟩
  .rw[M];exact j.lD u ((hK u).1 v)
  .rw[M];exact j.nL u λB=>v ((hK u).2 B)
 by_cases e9:x.op=9
 .rw[aj e9]
  rw[ae V,ae V,ae R,aj V]at p
  let⟨E,aH,ao,aM⟩:=p
  have y:bW b x=iD b x 0 x.args:=by unfold bW;rw[ae V,ae V,aj V]
  refine a_ s.heap (aV (Or.inl e9)) V V (br b x.bQ x.dst (cN f x.args)) (uR j.fA aH ao (by simp[cN,aM]) bg) (by unfold lT;omega) rfl (F.congr λe=>?_) j.jL (λ_=>Tm) (pT _ _ _ _)
  rw[fW,y]
  simp only[gU]
  rw[qZ,HY];omega
 rw[ae e9]
 by_cases aE:x.op=24
 .rw[aj aE]
  rw[ae V,ae V,ae R,aj V]at p
  let⟨E,aH,ao,aM⟩:=p
  have y:bW b x=iD b x 0 x.args:=by unfold bW;rw[ae V,ae V,aj V]
  let⟨aN,a0⟩:=N.zero (Or.inl aE)
  have M:∀e,eS (c++[br b x.bQ f.dst (cN f x.args)]) e=eS s.av e:=λe=>by
   rw[q,eI,eI,pT,iZ,nW (λo=>oh (a0 _ o))]
  have bh:=aV (Or.inr (Or.inr aE))
  refine j.fZ S q (hd:=rfl) (uR j.fA aH ao (by simp[cN,aM]) bg) (F.congr λe=>?_) j.jL (λu v=>by rw[M];exact j.lD u v) (λu v=>by rw[M];exact j.nL u v) j.aW (bC:=s.bC+1) V
  rw[fW,kQ,qZ,HY,y,tK aN];omega
 rw[ae aE]
 by_cases ao:x.op=11
 .rw[aj ao]
  rw[aj V]at p
  have y:bW b x=x.args:=by unfold bW;rw[aj V]
  have bh:x.args=[aG x.args 0,aG x.args 1]:=by
   cases hx:x.args with
   |nil=>rw[hx]at p;simp at p
   |cons af D=>cases D with
    |nil=>rw[hx]at p;simp at p
    |cons ba D=>cases D with
     |nil=>rfl
     |cons _ _=>rw[hx]at p;simp at p
  have aH:0<=aG x.args 1/\aG x.args 1<f.an.length:=al _ (fq V V)
  let⟨G,bk,bw,bj,aM,aS⟩:=N.apply ao
  let⟨H,aA⟩:=bZ G
  let⟨E,m⟩:=cK b.cC (((aI s.heap (aG f.an (aG x.args 0))).kG -bH b).toNat)
  have ba:dC b ((aI s.heap (aG f.an (aG x.args 0))).kG -bH b)=E:=by simp[dC,m]
  rw[ba]at bj aM
  have D:∀e,eQ ((bW b x).map (aG f.an)) e=(if e=ix (aG f.an (aG x.args 0))then 1 else 0)+eQ [aG f.an (aG x.args 1)] e:=λe=>by
   rw[y,bh];simp only[cG,fD];rw[iT]
   .rfl
   .exact G.1
  let⟨T,k2,k3⟩:=F.apart G (by simp only[D,aj];have:=am (ix (aG f.an (aG x.args 0)));have:=iU [aG f.an (aG x.args 1)] (ix (aG f.an (aG x.args 0)));omega) aS
   (e':=gU (c++[{f with aR:=aR,pc:=f.pc+1},br b ((aI s.heap (aG f.an (aG x.args 0))).kG -bH b) x.dst ((aI s.heap (aG f.an (aG x.args 0))).aN++[aG f.an (aG x.args 1)])])) (λe=>by
    rw[fW,D];simp only[gU];rw[qZ,ba,List.length_eq_zero_iff.1 aM,Jt,lX];omega) j.jL
  refine a_ _ (aV (Or.inr (Or.inl ao))) V V _ (uR j.fA bk m bJ λw o=>?_) (by unfold lT;omega) rfl T k3 k2 (pT _ _ _ _)
  rcases List.mem_append.1 o with o|o
  .rcases((F.cell _ (au H)).rp aA).1 w o with C|C
   .exact Or.inl C
   .exact Or.inr C.1
  .simp at o;subst o;exact ap _ aH.1 aH.2
 rw[ae ao]
 have aA:x.op=23:=by
  rw[ae V]at p;by_cases aA:x.op=23
  .exact aA
  .rw[ae V,ae R,ae V,ae Y,ae W,ae L,ae aa,ae ar,ae ak]at p;exact p.elim
 rw[ae V,aj V]at p
 have v:=aq V
 have y:bW b x=[aG x.args 0]:=by unfold bW;rw[aj V];exact aP V
 let⟨aN,a0⟩:=N.zero (Or.inr aA)
 have aS:∀e,eS [f] e=0:=λe=>by rw[iZ];exact nW (λo=>oh (a0 _ o))
 split
 .rename_i G
  have aH:c=[]:=List.getLast?_eq_none_iff.1 G
  subst aH
  have D:=N.ret aA
  have ay:=a9 _ v.1 v.2 (by rcases D with k|k;(rw[q]at k;simp at k);exact k)
  have a5:=j.bC
  refine⟨j.fA,⟨aL,aL⟩,aL,ay,aL,j.bq,j.bC,bJ,j.aW,F.congr λe=>?_,j.jL,aL,aL,aL,λu K=>?_,λu K=>?_⟩
  .rw[y,tK aN]
   simp only[gU,cG,fD]
   rw[nW (by simp;have:=ay.2;omega)];rfl
  .have k:=j.lD u K
   rw[q]at k
   have C:=aS u
   simp only[dX]at k
   omega
  .simp[eS]
 .rename_i D G
  have aH:c=c.dropLast++[D]:=by
   have ba:c≠[]:=λU=>by rw[U]at G;simp at G
   rw[fg ba]at G;simp at G;rw[<-G];exact(eD ba).symm
  generalize c.dropLast=fs' at aH
  subst aH
  have ay:gN b D:=aJ D aL
  let⟨aM,bh,bj⟩:=j.chain fs'.length D f (by rw[q];simp) (by rw[q];simp)
  have bk:f.dst<D.an.length:=by have:=ay.lr;have:=ay.lo;omega
  have a5:=j.bC
  have aw:=j.depth
  rw[q]at aw
  have M:∀e,eS (fs'++[D.put f.dst (aG f.an (aG x.args 0)) (gF (aG f.an (aG x.args 0)))]) e=eS s.av e:=λe=>by
   rw[q,eI,eI,aS,eI,iZ,iZ];simp[aU.put]
  refine⟨j.fA,j.bI,⟨λU=>by simp at U;omega,sx⟩,j.value,j.vL,j.bq,j.bC,by simp at aw⊢;omega,j.aW,F.congr λe=>?_,j.jL,λE m=>?_,λE m=>?_,λz p1 E n m=>?_,λu K=>by rw[M];exact j.lD u K,λu K=>by rw[M];exact j.nL u K⟩
  .rw[fW,kQ,fW,kQ,y,tK aN]
   simp only[aU.put,cG,fD]
   rw[NP aM bk bh bj,xH];omega
  .rcases List.mem_append.1 m with m|m
   .exact aJ E (bL _ m)
   .simp at m;subst m
    exact ay.put aM (ap _ v.1 v.2) (HZ _) Ej
  .have ai:=j.first
   rw[q]at ai
   cases fs' with
   |nil=>simp at m;subst m;exact ai D aL
   |cons af ys=>simp at m;subst m;exact ai af aL
  .have ag:=j.chain z
   rw[q]at ag
   simp only[]at n m
   have aT:=az m
   simp at aT
   rw[ax V]at n
   have e1:(fs'++[D]++[f])[z]? =some p1:=by rw[ax bJ,ax V];exact n
   rcases aZ (z+1) fs'.length with B|B
   .rw[ax B]at m
    exact ag p1 E e1 (by rw[ax bJ,ax B];exact m)
   .rw[aF B]at m
    have I:z+1 -fs'.length=0:=V
    rw[I]at m;simp at m;subst m
    exact ag p1 D e1 (by rw[ax bJ,aF B,I];rfl)
def Pa(h:db b s):db b (mh b s):=by
 unfold mh;by_cases d:s.bI=3
 .rw[ae (by simpa using d)];let⟨c,f,a⟩:=h.split d;have i:s.av.getLast?=some f:=by rw[a];simp
  have j:s.av.dropLast=c:=by rw[a];simp
  rw[i,j];simp only[];have g:∀n,1<=n->n<=2->db b {s with bI:=n}:=λn l m=>
   ⟨h.fA,⟨by simp only[];omega,by simp only[];omega⟩,⟨λe=>by simp only[]at e;omega,λe=>by simp only[]at e;rw[a]at e;simp at e⟩,h.value,λe=>oh (h.vL e),h.bq,h.bC,h.depth,h.aW,h.heap,h.jL,h.av,h.first,h.chain,h.lD,h.nL⟩
  split
  .exact g 1 V V
  .rename_i e;split
   .rename_i k;exact Rm h d a k e
   .exact g 2 V V
 .rw[aj (by simpa using d)];exact h
end
section
variable{a:cg}{s:St}
def rem(a:cg):List aU->Int
 |[]=>0
 |f::b=>((dC a f.eg).cX.length -f.pc)+rem a b
def nh(a:cg):∀(l r:List aU),rem a (l++r)=rem a l+rem a r
 |[],r=>by simp[rem]
 |f::l,r=>by simp only[cH,rem,nh a l r];omega
def xc(a:cg)(s:St):Int:=rem a s.av+(s.bq -s.bC)*2000
def Ur{a:cg}:∀{b:List aU},(∀f∈b,gN a f)->0<=rem a b
 |[],_=>by simp[rem]
 |f::b,h=>by
  have:=Ur (λg c=>h g (ai _ c));have:=(h f aX).pc;simp only[rem];omega
def VG(h:db a s):0<=xc a s:=by
 have:=Ur h.av;have:=h.bC;unfold xc;omega
def OR{c:List aU}{f:aU}(D:db a s)(hr:s.bI=3)(j:s.av=c++[f])
 (Q:kA a s f (dt a f) (bB f.an f.aR (bW a (dt a f)))):
 xc a (eJ a s c f (dt a f) (bB f.an f.aR (bW a (dt a f))))<xc a s:=by
 have P:gN a f:=D.av f (by rw[j];simp)
 let⟨ab,hp,z,hP,aa,W⟩:=P.Jg D.fA
 have X:=P.pc
 generalize dt a f=x at*
 generalize bB f.an f.aR (bW a x)=aR at*
 rw[z]at X
 have kX:∀(g:aU)(b:St),b.av=c++[g]->g.eg=f.eg->f.pc<g.pc->b.bq=s.bq->b.bC=s.bC->xc a b<xc a s:=λg b r w U t u=>by
  unfold xc;rw[j,r,t,u,nh,nh];simp only[rem,w];omega
 have cX:∀q:Int,0<=q->q<a.cC.length->((dC a q).cX.length:Int)<=2000:=λq Z w=>by
  let⟨T,S⟩:=cK a.cC q.toNat;have:=(D.fA.dx T (au S)).len;have A:dC a q=T:=by simp[dC,S]
  rw[A];omega
 have Km:∀(g n:aU)(b:St),b.av=c++[g,n]->g.eg=f.eg->f.pc<g.pc->0<=n.eg->n.eg<a.cC.length->n.pc=0->b.bq=s.bq->b.bC=s.bC+1->xc a b<xc a s:=λg n b r w U E F G t u=>by
  have:=cX n.eg E F;unfold xc;rw[j,r,t,u,nh,nh];simp only[rem,w,G];omega
 have tail:∀(n:aU)(b:St),b.av=c++[n]->0<=n.eg->n.eg<a.cC.length->n.pc=0->b.bq=s.bq->b.bC=s.bC+1->xc a b<xc a s:=λn b r E F G t u=>by
  have:=cX n.eg E F;unfold xc;rw[j,r,t,u,nh,nh];simp only[rem,G,z];omega
 have d:=W.op
 unfold lS at d
 unfold eJ
 simp only[]
 by_cases H:x.op=0
 .rw[aj H];exact kX _ _ rfl rfl (by show f.pc<f.pc+1;omega) rfl rfl
 rw[ae H]at d⊢
 by_cases I:x.op=1\/x.op=2\/x.op=3\/x.op=4
 .rw[aj I];exact kX _ _ rfl rfl (by show f.pc<f.pc+1;omega) rfl rfl
 rw[ae I]
 by_cases N:x.op=5
 .rw[aj N];exact kX _ _ rfl rfl (by show f.pc<f.pc+1;omega) rfl rfl
 rw[ae N]
 by_cases e:x.op=6
 .rw[aj e]
  split
  .exact kX _ _ rfl rfl (by show f.pc<f.pc+1;omega) rfl rfl
  .exact kX _ _ rfl rfl (by show f.pc<f.pc+1;omega) rfl rfl
 rw[ae e]
 by_cases k:x.op=10
 .rw[aj k];exact kX _ _ rfl rfl (by show f.pc<f.pc+1;omega) rfl rfl
 rw[ae k]
 by_cases J:x.op=14
 .rw[aj J];exact kX _ _ rfl rfl (by simp only[];omega) rfl rfl
 rw[ae J]
 by_cases K:x.op=15
 .rw[aj K];exact kX _ _ rfl rfl (by simp only[];omega) rfl rfl
 rw[ae K]
 by_cases m:x.op=16\/x.op=17
 .rw[aj m]
  split
  .exact kX _ _ rfl rfl (by simp only[];omega) rfl rfl
  .exact kX _ _ rfl rfl (by simp only[];omega) rfl rfl
 rw[ae m]
 by_cases L:x.op=18
 .rw[aj L];exact kX _ _ rfl rfl (by show f.pc<f.pc+1;omega) rfl rfl
 rw[ae L]
 by_cases o:x.op=19
 .rw[aj o];exact kX _ _ rfl rfl (by show f.pc<f.pc+1;omega) rfl rfl
 rw[ae o]
 by_cases p:x.op=20
 .rw[aj p]
  rw[ae V,ae V,ae e,ae V,ae k,ae m,ae o,aj p]at d
  exact kX _ _ rfl rfl (by simp only[];split<;>omega) rfl rfl
 rw[ae p]
 by_cases v:x.op=21
 .rw[aj v]
  rw[ae V,ae V,ae e,ae V,ae k,ae m,ae o,ae p,ae V,aj v]at d
  let⟨y,B⟩:=Q.BJ v
  have C:rC (cx a.bn x.bQ) (aI s.heap (aG f.an (aG x.args 0))).kG<(cx a.bn x.bQ).length:=mE ⟨_,B,aL⟩
  let⟨M,h⟩:=d.2.2
  have:=h _ (fq (l:=x.eG) (i:=(rC (cx a.bn x.bQ) (aI s.heap (aG f.an (aG x.args 0))).kG:Nat)) V V)
  exact kX _ _ rfl rfl (by simp only[];omega) rfl rfl
 rw[ae v]
 by_cases C:x.op=22
 .rw[aj C]
  rw[ae V,ae V,ae e,ae V,ae k,ae m,ae o,ae p,aj C]at d
  exact kX _ _ rfl rfl (by simp only[];omega) rfl rfl
 rw[ae C]
 by_cases O:x.op=9
 .rw[aj O]
  rw[ae V,ae V,ae e,aj V]at d
  let⟨q,B,h,R⟩:=d
  have:=az h
  exact Km _ _ _ rfl rfl (by show f.pc<f.pc+1;omega) (by simp only[br];omega) (by simp only[br];omega) rfl rfl rfl
 rw[ae O]
 by_cases M:x.op=24
 .rw[aj M]
  rw[ae V,ae V,ae e,aj V]at d
  let⟨q,B,h,R⟩:=d
  have:=az h
  exact tail _ _ rfl (by simp only[br];omega) (by simp only[br];omega) rfl rfl rfl
 rw[ae M]
 by_cases B:x.op=11
 .rw[aj B]
  obtain⟨y,h,R,_⟩:=Q.apply B
  exact Km _ _ _ rfl rfl (by show f.pc<f.pc+1;omega) (by simp only[br];omega) (by simp only[br];omega) rfl rfl rfl
 rw[ae B]
 split
 .rename_i h
  have y:c=[]:=List.getLast?_eq_none_iff.1 h
  subst y
  unfold xc
  rw[j]
  simp only[rem,dX,z];omega
 .rename_i Y h
  have y:c=c.dropLast++[Y]:=by
   have R:c≠[]:=λA=>by rw[A]at h;simp at h
   rw[fg R]at h;simp at h;rw[<-h];exact(eD R).symm
  generalize c.dropLast=fs' at y
  subst y
  unfold xc
  rw[j]
  simp only[nh,rem,aU.put,z];omega
def Tc(h:db a s)(d:s.bI=3)(b:(mh a s).bI=3):xc a (mh a s)<xc a s:=by
 let⟨j,i,c⟩:=h.split d;have f:s.av.getLast?=some i:=by rw[c];simp
 have g:s.av.dropLast=j:=by rw[c];simp
 unfold mh at b⊢;rw[ae (by simpa using d),f,g]at b⊢;simp only[]at b⊢;split at b
 .simp at b
 .rename_i k;rw[ae k];split at b
  .rename_i e;rw[aj e];exact OR h d c e
  .simp at b
noncomputable def ap (a:cg):Nat->St->St
 |0,s=>s
 |n+1,s=>ap a n (mh a s)
def oT(a:cg):∀(n:Nat)(s:St),ap a (n+1) s=mh a (ap a n s)
 |0,s=>rfl
 |n+1,s=>by rw[ap,oT a n,ap]
def wZ{a:cg}:∀(n:Nat){s:St},db a s->db a (ap a n s)
 |0,s,h=>h
 |n+1,s,h=>wZ n (Pa h)
def th(h:s.bI≠3):mh a s=s:=by unfold mh;rw[aj h]
def ou{a:cg}:∀(n:Nat){s:St},s.bI≠3->ap a n s=s
 |0,s,_=>rfl
 |n+1,s,h=>by rw[ap,th h,ou n h]
def Ms{a:cg}:∀(n:Nat){s:St},db a s->xc a s<n->(ap a n s).bI≠3
 |0,s,h,d=>by have:=VG h;omega
 |n+1,s,h,d=>by
  rcases dJ (s.bI=3)with b|b
  .rcases dJ ((mh a s).bI=3)with c|c
   .have:=Tc h b c;exact Ms n (Pa h) V
   .rw[ap,ou n c];exact c
  .rw[ou _ b];exact b
def cA(a:cg)(bq:Int):St:=⟨3,0,0,bq,[],[],[br a 0 0 []]⟩
def BE{bq:Int}(c:iE a)(n:0<=bq/\bq<=40):db a (cA a bq):=by
 have q:=c.ni.len;let⟨p,i⟩:=cK a.cC 0;have l:=c.ni.first p i;have k:=uR (j:=0) (e:=[]) c (cY 0) i (by simp[l.1]) aL;have h:∀f,gU [br a 0 0 []] f=0:=λf=>by rw[kQ,qZ];simp[dq]
 refine⟨c,by simp[cA],by simp[cA],by simp[cA,iJ],by simp[cA],n,by simp[cA];omega,by simp[cA],by simp[cA],⟨by simp[cA],⟨λ_=>0,by simp[cA]⟩,by simp[cA],λd=>by simp only[cA];rw[h];omega,λd b=>by simp only[cA]at b;rw[h]at b;omega⟩,?_,?_,?_,?_,λd⟨j,e,_⟩=>by simp[cA]at e,λd _=>pT _ _ _ _ _⟩
 .intro j e;simp[cA]at e
 .intro g b;simp[cA]at b;subst b;exact k
 .intro g b;simp[cA]at b;subst b;rfl
 .intro r g o b m;simp[cA]at m
def RC{bq:Int}(b:iE a)(g:0<=bq/\bq<=40):xc a (cA a bq)<=82000:=by
 have f:=b.ni.len;let⟨p,c⟩:=cK a.cC 0;have d:=(b.dx p (au c)).len;have e:dC a 0=p:=by simp[dC,c]
 unfold xc cA;simp only[rem,br,e];omega
end
section
variable{k:Nat}{m:E}
def lU{b:List bz}{d:bz}:Ht b k d<->((zI b.length d.uN/\zI b.length d.to/\d.cons.length<=3/\(0<d.cons.length->d.uN=0/\d.to=0))/\
 (∀h∈d.cons,h.length<=3/\Ft b.length h)/\∀e∈b.take k,¬(d.cons.length=0/\e.cons.length=0/\e.uN=d.uN/\e.to=d.to)):=by
 constructor
 .intro l
  rcases j8 d.cons.length with a|a
  .let⟨c,f,g⟩:=l.Sg a
   refine⟨⟨f,g,V,λl=>V⟩,λh m=>?_,λe i j=>c e i j.2⟩
   rw[List.length_eq_zero_iff.1 a]at m;cases m
  .let⟨c,f,g,h⟩:=l.iY a
   exact⟨⟨by unfold zI;omega,by unfold zI;omega,c,λ_=>⟨f,g⟩⟩,h,λe i j=>V⟩
 .rintro⟨⟨c,f,g,h⟩,l,m⟩
  exact⟨λa=>⟨g,(h a).1,(h a).2,l⟩,λa=>⟨λe i j=>m e i ⟨a,j⟩,c,f⟩⟩
def DY{bn:O}{c:List bz}(hd:cy m bn c):dR cq 192 [O.v bn] m (dU c):=by
 apply yO;simp -zeta only[aC,aB];have v:=hd.len;have ao:=hd.cap;refine dit (λaa=>?_) λaa=>?_
 .exact cT (λa=>oh a.len) (J.aA _)
 refine fm (n:=c.length) V (λk f=>J m f/\∀(j:Nat)(d:bz),j<k->c[j]? =some d->Ht c j d) ⟨J.aA _,aL⟩ ?_;rintro j w am μ hj ⟨H,S⟩ al
 refine dit (λh1=>?_) λh1=>?_
 .let⟨d,D⟩:=cK c j;let⟨A,F,g0,g1,g2⟩:=(cy.ext H hd).aG D;have aq:=F.len;refine⟨V,V,_,g0,_,g1,A,g2,?_⟩;intro m2 q;have I:J w q:=((J.aA w).aH _).ag (ad _) _ _;have G:∀r∈[w.size],r<q.size:=by simp[q,m2,aw]
  clear_value q;have K:=H.trans I;have i:∀{f:E},J q f->¬Ht c j d->∃M:Bool,vb false=.bool M/\(M=true<->dU c)/\J m f:=λag af=>cT (λa=>af (a.dx j d D)) (K.trans ag);refine⟨λf=>J q f/\zI c.length d.uN/\zI c.length d.to/\d.cons.length<=3/\(0<d.cons.length->d.uN=0/\d.to=0),?_,?_⟩
  .refine(pQ _ _ _).aK (J.aA _) G λr m4 g N s=>⟨_,rfl,λe=>i s λa=>nb g e (v▸(lU.1 a).1.1),λe=>?_⟩;have p:=yb g e;refine(pQ _ _ _).aK s G λr u g t b=>⟨_,rfl,λh=>i b λa=>nb g h (v▸(lU.1 a).1.2.1),λh=>?_⟩;have x:=yb g h;rw[v]at p x;refine dit (λy=>?_) λy=>?_
   .exact i b λa=>by have:=(lU.1 a).1.2.2.1;omega
   refine dit (λz=>?_) λz=>?_
   .refine⟨λl=>?_,λl=>?_⟩
    .simp only[vP]at l;exact i b λa=>l ((lU.1 a).1.2.2.2 V).1
    simp only[iH]at l;refine⟨λo=>?_,λo=>?_⟩
    .simp only[vP]at o;exact i b λa=>o ((lU.1 a).1.2.2.2 V).2
    simp only[iH]at o;exact⟨b,p,x,V,λ_=>⟨l,o⟩⟩
   .exact⟨b,p,x,V,λl=>V⟩
  .rintro m4 ⟨W,ae⟩;have ap:=pC.ext (I.trans W) F;refine fm (n:=d.cons.length) V (λk f=>J q f/\∀A∈d.cons.take k,A.length<=3/\Ft c.length A) ⟨W,aL⟩ ?_;rintro L u I2 μ2 hi ⟨l,T⟩ ah;refine dit (λN=>?_) λN=>?_
   .let⟨B,o⟩:=cK d.cons L;let⟨P,C,Q⟩:=(pC.ext (I.trans l) F).aG o;have U:=C.len;refine⟨V,V,P,Q,?_⟩;intro x y;have p:J u y:=((J.aA u).aH _).ag (ad _) _ _;have R:∀r∈[u.size,w.size],r<y.size:=by
     have:=l.lt (G w.size aL);simp[y,x,aw];omega
    clear_value y;refine dit (λs=>?_) λs=>?_
    .exact i (l.trans p) λa=>by have:=((lU.1 a).2.1 B (au o)).1;omega
    exact(we (C.ext p) _).aK (J.aA _) R λr z g e t=>⟨_,rfl,λb=>i ((l.trans p).trans e) λa=>nb g b (v▸((lU.1 a).2.1 B (au o)).2),λb=>ah V _ ⟨(l.trans p).trans e,bY o T ⟨V,v▸yb g b⟩⟩⟩
   .have ab:=dy V T;refine⟨V,V,V,?_⟩;have P:cy u (bn.cut 0 j 3) (c.take j):=eR.TR (cy.ext (K.trans l) hd) V;have an:(bn.cut 0 j 3).len=j:=by rw[P.len];simp;omega
    simp -zeta only[uf,Int.toNat_zero];refine fm (n:=j) V (λk f=>J u f/\∀g∈c.take k,¬(d.cons.length=0/\g.cons.length=0/\g.uN=d.uN/\g.to=d.to)) ⟨J.aA _,aL⟩ ?_;rintro p x Y μ3 av ⟨C,U⟩ ai;refine dit (λs=>?_) λs=>?_
    .let⟨g,Q⟩:=cK c p;have R:(c.take j)[p]? =some g:=by rw[lJ,aj V];exact Q
     let⟨Z,ac,q0,q1,q2⟩:=(cy.ext C P).aG R;have ar:=ac.len;refine⟨V,V,_,q0,_,q1,Z,q2,?_⟩;intro y z;have X:J x z:=((J.aA x).aH _).ag (ad _) _ _;clear_value z;have B:¬(d.cons.length=0/\g.cons.length=0/\g.uN=d.uN/\g.to=d.to)->Y (cR ((p:Int)+1)) z/\μ3 (cR ((p:Int)+1)) z<μ3 p x:=λo=>ai V _ ⟨C.trans X,bY Q U o⟩;refine⟨λe=>?_,λe=>?_⟩
     .simp only[aE]at e;refine⟨λt=>?_,λt=>?_⟩
      .simp only[aE]at t;refine⟨λb=>?_,λb=>?_⟩
       .simp only[aE]at b;refine⟨λh=>?_,λh=>?_⟩
        .simp only[aE]at h;exact i ((l.trans C).trans X) λa=>(lU.1 a).2.2 g (au R) ⟨V,V,b,h⟩
        .simp only[ak]at h;exact B λo=>h o.2.2.2
       .simp only[ak]at b;exact B λo=>b o.2.2.1
      .simp only[ak]at t;exact B λo=>t V
     .simp only[ak]at e;exact B λo=>e V
    .have:p=j:=V;subst this;refine al V _ ⟨(K.trans l).trans C,λb e h a=>?_⟩
     by_cases g:b=p
     .subst g;rw[D]at a;simp at a;subst a;exact lU.2 ⟨ae,ab,U⟩
     .exact S b e V a
 .exact jU ⟨V,λL d bP=>S L d (oh (az bP)) bP⟩ H
def Om(m:E)(b:List Ce)(p:dA):Prop:=∃a l,b=[.s a,.s l,.i p.aT]/\ar m a p.params/\ar m l p.cO
def Om.ext{m d:E}(b:J m d)(a:List Ce)(c:dA):Om m a c->Om d a c:=λ⟨f,g,e,h,i⟩=>⟨f,g,e,h.ext b,i.ext b⟩
abbrev pJ(m:E)(s:O)(l:List dA):Prop:=eR m 3 (Om m) s l
def pJ.ext{m b:E}(a:J m b){s:O}{l:List dA}(h:pJ m s l):pJ b s l:=h.mono a (Om.ext a)
def pJ.aG{s:O}{l:List dA}(h:pJ m s l){x:dA}(f:l[k]? =some x):
 ∃a b,ar m a x.params/\ar m b x.cO/\af m s.D (s.off+k*3)=some (O.v a)/\af m s.D (s.off+k*3+1)=some (O.v b)/\af m s.D (s.off+k*3+2)=some (vi x.aT):=by
 obtain⟨g,⟨a,b,rfl,d,e⟩,c⟩:=h.iF k x f
 exact⟨a,b,d,e,c 0 (.s a) rfl,c 1 (.s b) rfl,c 2 (.i x.aT) rfl⟩
def Gf{Y Z:O}{q:List bz}{c:List dA}(hd:cy m Y q)(P:pJ m Z c):
 dR cq 147 [O.v Y,O.v Z] m (KG q c/\∀p∈c,DN p.params p.cO):=by
 apply Aj
 simp -zeta only[aC,aB]
 have N:=hd.len
 have aA:=P.len
 refine(DY hd).then λu m1 e f=>⟨_,rfl,λG=>cT (λa=>nb e G a.1.types) f,λG=>?_⟩
 have ht:=yb e G
 refine dit (λh2=>?_) λh2=>?_
 .exact cT (λa=>oh a.1.len) f
 refine dit (λh3=>?_) λh3=>?_
 .exact cT (λa=>oh a.1.len) f
 let⟨p0,A⟩:=cK c 0
 let⟨a0,l0,al,aD,g0,g1,g2⟩:=(pJ.ext f P).aG A
 have ax:=al.len
 refine⟨V,V,a0,g0,dit (λh4=>?_) λh4=>?_⟩
 .exact cT (λa=>oh ((a.1.first p0 A).1)) f
 refine⟨V,V,_,g2,λs=>?_,λs=>?_⟩
 .simp only[vP]at s
  exact cT (λa=>s (a.1.first p0 A).2) f
 simp only[iH]at s
 refine fm (n:=c.length) V (λj U=>J m U/\∀p∈c.take j,(p.params.length<=3/\Ft q.length p.params/\zI q.length p.aT)/\DN p.params p.cO) ⟨f,aL⟩ ?_
 rintro j C ar μ hj ⟨l,hn⟩ ap
 refine dit (λh6=>?_) λh6=>?_
 .let⟨p,i⟩:=cK c j
  let⟨ah,ao,M,z,q0,q1,q2⟩:=(pJ.ext l P).aG i
  have ay:=M.len
  have aG:=z.len
  have aF:=z.iC
  refine⟨V,V,ah,q0,ao,q1,_,q2,?_⟩
  intro m3 D
  have o:J C D:=((J.aA C).aH _).ag (ad _) _ _
  have aa:∀u∈[C.size],u<D.size:=by simp[D,m3,aw]
  clear_value D
  refine dit (λh7=>?_) λh7=>?_
  .exact cT (λa=>oh ((a.1.dx p (au i)).1)) (l.trans o)
  refine(we (M.ext o) _).aK (J.aA _) aa λu m5 e h8 h9=>⟨_,rfl,λH=>cT (λa=>nb e H (N▸(a.1.dx p (au i)).2.1)) ((l.trans o).trans h8),λH=>?_⟩
  have ac:=yb e H
  refine(pQ _ _ _).aK h9 aa λu W e av I=>⟨_,rfl,λK=>cT (λa=>nb e K (N▸(a.1.dx p (au i)).2.2)) ((l.trans o).trans I),λK=>?_⟩
  have ab:=yb e K
  rw[N]at ac ab
  have ae:J m W:=(l.trans o).trans I
  have S:J C W:=o.trans I
  refine fm (n:=p.cO.length) V (λk U=>U=W/\∀(j:Nat)(v:Int),j<k->p.cO[j]? =some v->(∃t,0<=v/\p.params[v.toNat]? =some t/\t≠0)/\(∀E:Int,0<j->p.cO[j -1]? =some E->E<v)) ⟨rfl,aL⟩ ?_
  rintro k m7 I2 μ2 hk ⟨rfl,Q⟩ af
  have w:¬DN p.params p.cO->∃X:Bool,vb false=.bool X/\(X=true<->KG q c/\∀p∈c,DN p.params p.cO)/\J m m7:=λan=>cT (λa=>an (a.2 p (au i))) ae
  refine dit (λai=>?_) λai=>?_
  .let⟨x,g⟩:=cK p.cO k
   refine⟨V,V,x,by simpa using S.af (z.aG g),dit (λaj=>?_) λaj=>?_⟩
   .exact w λa=>by obtain⟨⟨t,y,_⟩,_⟩:=a k x g;omega
   refine⟨λy=>?_,λy=>?_⟩
   .simp only[Hr,aq]at y
    refine w λa=>?_
    obtain⟨⟨t,_,d,_⟩,_⟩:=a k x g
    have:=az d;omega
   simp only[Hr,bD]at y
   let⟨t,B⟩:=cK p.params x.toNat
   refine⟨V,V,t,by simpa using S.af (M.aG B),λd=>?_,λd=>?_⟩
   .simp only[aE]at d
    refine w λa=>?_
    obtain⟨⟨b,_,r,L⟩,_⟩:=a k x g
    rw[B]at r;simp at r;exact L (r▸d)
   simp only[ak]at d
   refine dit (λr=>?_) λr=>?_
   .have e2:cR ((k:Int) -1)=((k -1:Nat):Int):=by rw[aP V V];omega
    let⟨ag,T⟩:=cK p.cO (k -1)
    rw[e2]
    refine⟨V,V,ag,by simpa using S.af (z.aG T),dit (λL=>?_) λL=>?_⟩
    .exact w λa=>by have:=(a k x g).2 ag V T;omega
    .refine af V _ ⟨rfl,λh v am b=>?_⟩
     by_cases F:h=k
     .subst F
      rw[g]at b;simp at b;subst b
      refine⟨⟨t,V,B,d⟩,λE _ R=>?_⟩
      rw[T]at R;simp at R;subst R;omega
     .exact Q h v V b
   .refine af V _ ⟨rfl,λh v am b=>?_⟩
    by_cases F:h=k
    .subst F
     rw[g]at b;simp at b;subst b
     exact⟨⟨t,V,B,d⟩,λE L _=>V⟩
    .exact Q h v V b
  .exact ap V _ ⟨ae,bY i hn ⟨⟨V,ac,ab⟩,λh v b=>Q h v (oh (az b)) b⟩⟩
 .have b:=dy V hn
  refine jU ⟨⟨ht,V,λp a=>(b p a).1,λp a=>?_⟩,λp a=>(b p a).2⟩ l
  rw[A]at a;simp at a;subst a
  exact⟨V,s⟩
end
section
variable{c:E}{d f a j:O}{b:cg}{i:Instr}
def Gb{H:O}(D:eW c d H b):
 aM cq 74 [.agg #[O.v d,O.v H]] c λan t=>∃T f e,an=.tuple #[.agg #[O.v T,O.v f],vb e]/\(e=true<->KG b.bn b.cC/\∀H∈b.cC,DN H.params H.cO)/\
  (e=true->T=d/\pJ t f b.cC)/\J c t:=by
 apply Ah
 simp -zeta only[aC,aB]
 intro G h
 have aq:=D.cC.len
 have s1:G.size=c.size+1:=by simp[G]
 have s2:h.size=c.size+2:=by simp[h,G]
 have ab:J c h:=((J.aA c).aH _).aH _
 refine dit (λh1=>?_) λh1=>?_
 .intro g
  exact⟨_,_,_,rfl,⟨sx,λD=>oh D.1.len⟩,sx,ab.ag V _ _⟩
 intro m4 C
 have s5:C.size=c.size+3:=by simp[C,m4,aw,s2]
 have al:J c C:=(ab.aH _).ag V _ _
 have ah:cw C h.size mj [.s d,.s .nil]:=cw.ag (m:=m4) (o:=0) (r:=[.s d,.s .nil]) (cw.push h _ _)
 clear_value C
 refine fm (n:=b.cC.length) V (λM t=>J c t/\C.size<=t.size/\∃g w,cw t h.size mj [.s d,.s g]/\gY c t qe 3 g w.flatten/\gE 3 (Om c) w (b.cC.take M)/\(g≠.nil->h.size<g.D)/\g.len=M)
  ⟨al,ad _,.nil,[],ah,gY.nil _ _ _ _,by simpa using gE.nil 3 (Om c),aL,rfl⟩ ?_
 rintro M i ao μ hk ⟨l,ar,g,w,s,K,L,Q,aa⟩ am
 refine dit (λh2=>?_) λh2=>?_
 .let⟨N,Y⟩:=cK b.cC M
  let⟨a,e,ac,ha,p,y,g0,g1,g2,g3,g4⟩:=D.cC.aG Y
  refine⟨V,V,a,by simpa using l.af g0,e,by simpa using l.af g1,_,by simpa using l.af g2,_,by simpa using l.af g3,ac,by simpa using l.af g4,?_⟩
  intro S j
  have F:J i j:=((J.aA i).aH _).ag (ad _) _ _
  have s8:j.size=i.size+1:=by simp[j,S,aw]
  clear_value j
  refine⟨g,(s.ext F).bU 1,?_⟩
  intro u
  have R:J i u:=F.aH _
  have s9:u.size=i.size+2:=by simp[u,s8]
  have jm:fX u j.size 0 [.s a,.s e,.i N.aT]:=(cw.push j _ _).iF
  clear_value u
  refine gY.append (c:=[.s .nil,.s .nil,.i 0]) (h:=[.s a,.s e,.i N.aT]) (K.ext R) (l.trans R) rfl jm (by simp[aa];omega) ?_
  intro v A h7 h8 U ap ae af
  have Z:v≠.nil->h.size<v.D:=by
   intro z;rcases af with⟨_,x⟩|⟨aj,x,_⟩|x
   .exact absurd x z
   .have:=Q aj;omega
   .omega
  have I:∀k,k<u.size->k<=h.size\/k=i.size/\(g=.nil\/g.D<i.size)->A[k]? =u[k]? :=by
   intro k q y;refine ae k q λz=>?_;have:=Q z;rcases y with y|⟨rfl,y|y⟩
   .omega
   .exact absurd y z
   .omega
  have ai:g=.nil\/g.D<i.size:=K.lt
  have W:cw A h.size mj [.s d,.s g]:=(s.ext R).congr (I _ V (Or.inl (ad _)))
  refine⟨λk q=>?_,W.eC aL,?_⟩
  .simp at q
   rcases q with rfl|rfl|rfl
   .exact I _ V (Or.inr ⟨rfl,ai⟩)
   .exact I _ V (Or.inl V)
   .exact I _ V (Or.inl V)
  intro B
  have au:B.size=A.size:=by simp[B,aw]
  have ag:cw B h.size mj [.s d,.s v]:=cw.ag (m:=A) (o:=1) (r:=[.s v]) W
  have X:∀e,e≠h.size->B[e]? =A[e]? :=λe p=>bo _ _ _ _ p
  have ak:J c B:=h8.ag V _ _
  clear_value B
  refine⟨λk q=>?_,?_⟩
  .simp at q
   rcases q with rfl|rfl|rfl<;>exact X _ V
  refine am V _ ⟨ak,V,v,w++[[.s a,.s e,.i N.aT]],ag,?_,?_,Z,by simp[U,aa]⟩
  .rw[qR]
   have P:gY c A qe 3 v (w.flatten++[[.s a,.s e,.i N.aT]].flatten):=by simpa using h7
   rcases P.lt with x|x
   .subst x;exact⟨P.len,Or.inl rfl⟩
   .refine P.congr (X _ λe2=>?_)
    by_cases E:v=.nil
    .subst E
     have:=U
     simp at this
    .have:=Z E;omega
  .rw[bd Y]
   exact L.yY rfl ⟨a,e,rfl,ha,p⟩
 .rw[cJ V]at L
  have x:pJ i g b.cC:=(eR.gK K L V V).mono (J.aA _) (Om.ext l)
  refine⟨d,s.bU 0,g,s.bU 1,g,s.bU 1,?_⟩
  have u:∀e∈[G.size,c.size],e<i.size:=bJ
  refine(Gf (cy.ext l D.bn) x).aK (J.aA _) u λe S p k _=>⟨_,rfl,k.cr (s.bU 0),k.cr (s.bU 1),?_⟩
  intro j
  have z:∀e,e≠G.size->j[e]? =S[e]? :=λe p=>bo _ _ _ _ p
  have F:J c j:=(l.trans k).ag V _ _
  refine⟨d,g,e,rfl,p,λ_=>⟨rfl,?_⟩,F⟩
  have q:=K.ext k
  have v:gY c j qe 3 g w.flatten:=by
   by_cases E:g=.nil
   .subst E;exact⟨q.len,Or.inl rfl⟩
   .exact q.congr (z _ (oh (Q E)))
  exact(eR.gK v L V V).mono (J.aA _) (Om.ext F)
def gH(b:cg)(i:Instr)(a:Int->Prop):Prop:=
 if i.op=0 then -999<=i.bQ/\i.bQ<=999
 else if i.op=6 then 0<=i.bQ/\i.bQ<(eP b.bn).length
 else if i.op=9\/i.op=24 then 0<=i.bQ/\i.bQ<b.cC.length
 else if i.op=10 then 0<=i.bQ/\∃q,b.cC[i.bQ.toNat]? =some q/\q.cO.length=0
 else if i.op=19 then 0<=i.bQ/\i.bQ<3
 else if i.op=20\/i.op=22 then a i.bQ
 else if i.op=21 then 0<(cx b.bn i.bQ).length/\i.eG.length=(cx b.bn i.bQ).length
 else i.bQ=0
def HM(hd:cy c d b.bn)(x:dU b.bn)(A:pJ c f b.cC)(N:ar c a i.args)(E:ar c j i.eG)(t:Nat)(v u:Array Value)(D:GL.elem t=true)(l:Int->Prop)
 (G:∀e,J c e->dR cq t (v.toList++[vi i.bQ]++u.toList) e (l i.bQ)):
 dR cq 150 [.agg #[O.v d,O.v f],.agg #[vi i.op,vi i.dst,vi i.bQ,vi i.bM,O.v a,O.v j],.func (.func t) v u] c (gH b i l):=by
 apply qJ d f i.op i.dst i.bQ i.bM a j (.func t,v,u)
 simp -zeta only[aC,aB]
 intro y r
 have e:J c r:=((J.aA c).aH _).aH _
 have w:∀z∈[y.size,c.size],z<r.size:=by simp[r,y];omega
 have Q:=A.len
 have R:=E.len
 have C:cw r y.size de [.i i.op,.i i.dst,.i i.bQ,.i i.bM,.s a,.s j]:=cw.push _ _ _
 clear_value r
 refine⟨λk=>?_,λk=>?_⟩
 .simp only[aE]at k
  rw[show gH b i l<->-999<=i.bQ/\i.bQ<=999 by rw[gH,aj k]]
  refine⟨λh=>fI ?_ e,λh=>cT ?_ e⟩<;>simp at h
  .simp;omega
  .omega
 simp only[ak]at k
 refine⟨λm=>?_,λm=>?_⟩
 .simp only[aE]at m
  rw[show gH b i l<->0<=i.bQ/\i.bQ<(eP b.bn).length by rw[gH,ae k,aj m]]
  refine⟨λh=>?_,λh=>cT ?_ e⟩<;>simp at h
  .refine(ny (cy.ext e hd) x.len (Ko x)).aK (J.aA _) w λB g _=>⟨_,rfl,g.cr (C.bU 2),fI ?_ (e.trans g)⟩
   simp;omega
  .omega
 simp only[ak]at m
 refine⟨λn=>?_,λn=>?_⟩
 .simp only[bV,aE]at n
  rw[show gH b i l<->0<=i.bQ/\i.bQ<b.cC.length by rw[gH,ae k,ae m,aj n]]
  refine⟨λh=>fI ?_ e,λh=>cT ?_ e⟩<;>simp at h
  .simp;omega
  .omega
 simp only[bu,ak]at n
 replace n:¬(i.op=9\/i.op=24):=V
 refine⟨λo=>?_,λo=>?_⟩
 .simp only[aE]at o
  rw[show gH b i l<->0<=i.bQ/\∃q,b.cC[i.bQ.toNat]? =some q/\q.cO.length=0 by rw[gH,ae k,ae m,ae n,aj o]]
  refine⟨λh=>⟨λp=>?_,λp=>?_⟩,λh=>cT ?_ e⟩<;>simp at h
  .simp at p
   let⟨q,s⟩:=cK b.cC i.bQ.toNat
   let⟨I,H,P,F,K,g1,g2⟩:=(pJ.ext e A).aG s
   have:=F.len
   refine⟨V,V,H,g1,fI ?_ e⟩
   simp only[aE]
   refine⟨λL=>⟨h,q,s,V⟩,λ⟨_,S,g,M⟩=>?_⟩
   rw[s]at g;simp at g;subst g;omega
  .simp at p
   exact cT (λ⟨_,q,g,_⟩=>oh (az g)) e
  .omega
 simp only[ak]at o
 refine⟨λp=>?_,λp=>?_⟩
 .simp only[aE]at p
  rw[show gH b i l<->0<=i.bQ/\i.bQ<3 by rw[gH,ae k,ae m,ae n,ae o,aj p]]
  refine⟨λh=>fI ?_ e,λh=>cT ?_ e⟩<;>simp at h
  .simp;omega
  .omega
 simp only[ak]at p
 refine⟨λq=>?_,λq=>?_⟩
 .simp only[bV,aE]at q
  rw[show gH b i l<->l i.bQ by rw[gH,ae k,ae m,ae n,ae o,ae p,aj q]]
  exact⟨t,rfl,D,(G r e).aK (J.aA _) w λz B s g _=>⟨_,rfl,fI s (e.trans g)⟩⟩
 simp only[bu,ak]at q
 replace q:¬(i.op=20\/i.op=22):=V
 refine⟨λs=>?_,λs=>?_⟩
 .simp only[aE]at s
  rw[show gH b i l<->0<(cx b.bn i.bQ).length/\i.eG.length=(cx b.bn i.bQ).length by rw[gH,ae k,ae m,ae n,ae o,ae p,ae q,aj s]]
  refine(tB (cy.ext e hd) x _).aK (J.aA _) w ?_
  rintro _ B ⟨H,rfl,F,g⟩
  have:=F.len
  refine⟨g,_,rfl,λh=>fI ?_ (e.trans g),λh=>cT ?_ (e.trans g)⟩<;>simp at h
  .simp only[aE];omega
  .omega
 .simp only[ak]at s
  rw[show gH b i l<->i.bQ=0 by rw[gH,ae k,ae m,ae n,ae o,ae p,ae q,ae s]]
  exact fI aL e
def gT(b:cg)(i:Instr)(c a:Int):Prop:=
 if i.op=0\/i.op=22 then c=0/\a=0
 else if i.op=1\/i.op=2\/i.op=3\/i.op=4\/i.op=11 then c=2/\a=2
 else if i.op=6 then c=(cF b.bn i.bQ).length/\a=(cF b.bn i.bQ).length
 else if i.op=9\/i.op=24 then∃q,b.cC[i.bQ.toNat]? =some q/\c=q.params.length/\a=q.params.length
 else if i.op=10 then∃q,b.cC[i.bQ.toNat]? =some q/\c=(q.params.length:Int) -1/\a=(q.params.length:Int) -1
 else if i.op=16\/i.op=17 then c=1/\a=4
 else c=1/\a=1
def Lh(hd:cy c d b.bn)(A:dU b.bn)(x:pJ c f b.cC){H:Int->Prop}(t:gH b i H):
 aM cq 151 [.agg #[O.v d,O.v f],.agg #[vi i.op,vi i.dst,vi i.bQ,vi i.bM,O.v a,O.v j]] c λK I=>∃B z:Int,K=.tuple #[vi B,vi z]/\gT b i B z/\J c I:=by
 apply sq
 simp -zeta only[aC,aB]
 intro C u
 have g:J c u:=((J.aA c).aH _).aH _
 have E:∀D∈[C.size,c.size],D<u.size:=by simp[u,C];omega
 have M:=x.len
 clear_value u
 refine⟨λh=>?_,λh=>?_⟩
 .simp only[bV,aE]at h
  exact⟨_,_,rfl,by rw[gT,aj h];exact⟨rfl,rfl⟩,g⟩
 simp only[bu,ak]at h
 have l:¬(i.op=0\/i.op=22):=V
 refine⟨λq=>?_,λq=>?_⟩
 .simp only[bV,aE]at q
  exact⟨_,_,rfl,by rw[gT,ae l,aj q];exact⟨rfl,rfl⟩,g⟩
 simp only[bu,ak]at q
 have n:¬(i.op=1\/i.op=2\/i.op=3\/i.op=4\/i.op=11):=V
 refine⟨λe=>?_,λe=>?_⟩
 .simp only[aE]at e
  rw[gH,ae h.1,aj e]at t
  have m:=ry A b.bn.length
  rw[mV _ _ (ad _)]at m
  refine(HI (cy.ext g hd) A _ V).aK (J.aA _) E ?_
  rintro _ p ⟨s,rfl,o,k⟩
  have:=o.len
  exact⟨k,_,rfl,_,_,rfl,by rw[gT,ae l,ae n,aj e];omega,g.trans k⟩
 simp only[ak]at e
 refine⟨λo=>?_,λo=>?_⟩
 .simp only[bV,aE]at o
  rw[gH,ae h.1,ae e,aj o]at t
  let⟨v,m⟩:=cK b.cC i.bQ.toNat
  let⟨p,G,s,F,w,g1,g2⟩:=(pJ.ext g x).aG m
  have:=s.len
  exact⟨V,V,p,w,_,_,rfl,by rw[gT,ae l,ae n,ae e,aj o];exact⟨v,m,V,V⟩,g⟩
 simp only[bu,ak]at o
 have r:¬(i.op=9\/i.op=24):=V
 refine⟨λk=>?_,λk=>?_⟩
 .simp only[aE]at k
  rw[gH,ae h.1,ae e,ae r,aj k]at t
  obtain⟨L,v,m,_⟩:=t
  let⟨p,G,s,F,w,g1,g2⟩:=(pJ.ext g x).aG m
  have:=s.len
  have:=s.iC
  have:=az m
  have y:cR ((p.len:Int) -1)=(v.params.length:Int) -1:=by rw[aP V V];omega
  exact⟨V,V,p,w,_,_,rfl,by rw[gT,ae l,ae n,ae e,ae r,aj k];exact⟨v,m,y,y⟩,g⟩
 simp only[ak]at k
 refine⟨λm=>?_,λm=>?_⟩
 .simp only[bV,aE]at m
  exact⟨_,_,rfl,by rw[gT,ae l,ae n,ae e,ae r,ae k,aj m];exact⟨rfl,rfl⟩,g⟩
 .simp only[bu,ak]at m
  have p:¬(i.op=16\/i.op=17):=V
  exact⟨_,_,rfl,by rw[gT,ae l,ae n,ae e,ae r,ae k,ae p];exact⟨rfl,rfl⟩,g⟩
end
section
variable{m:E}{x k:Int}{a b1:Nat}{c:O}
def yr(b:af m a 0=some (vi k))(d:af m b1 4=some (O.v c)):
 dR cq 148 [vi x,vp a 0,vp b1 0] m (k+1<=x/\x<=(c.len:Int) -1):=by
 apply oN (a,0) (b1,0)
 refine⟨k,b,λh=>⟨c,d,fI ?_ (J.aA _)⟩,λh=>cT ?_ (J.aA _)⟩<;>simp at h
 .simp;omega
 .omega
def JL{b2:Nat}(b:af m a 0=some (vi k))(d:af m b1 4=some (O.v c))
 (e:af m b2 0=some (.func (.func 148) #[] #[vp a 0,vp b1 0])):
 dR cq 149 [vi x,vp b2 0] m (¬(k+1<=x/\x<=(c.len:Int) -1)):=by
 apply oO (b2,0)
 refine⟨(.func 148,#[],#[vp a 0,vp b1 0]),e,_,rfl,rfl,?_⟩
 refine(yr b d).then λh i f g=>⟨_,rfl,fI ?_ g⟩
 rw[<-f];simp
def Jh{u:cg}{p:dA}{k:Nat}{i:Instr}(N:p.an<=2000)(L:u.cC.length<=4)(F:∀q∈u.cC,q.params.length<=3):
 iN u p k i<->((0<=i.op/\i.op<=24/\i.op≠7/\i.op≠8/\i.op≠12/\i.op≠13)/\(0<=i.dst/\i.dst<p.an/\(i.dst=0\/lT i.op)/\0<=i.bM/\i.bM<=p.an/\(i.bM=0\/i.op=6))/\
  (∀n∈i.args,0<=n/\n<p.an)/\(i.eG.length=0\/i.op=21)/\(∀t∈i.eG,(k:Int)+1<=t/\t<=(p.cX.length:Int) -1)/\
  gH u i (λt=>(k:Int)+1<=t/\t<=(p.cX.length:Int) -1)/\∀j h,gT u i j h->j<=i.args.length/\(i.args.length:Int)<=h):=by
 have M:(0<=i.dst/\i.dst<p.an)->0<p.an:=λw=>V
 constructor
 .intro w
  have b:=w.op
  have hd:=w.dst
  have C:∀n∈i.args,0<=n/\n<p.an:=λn f=>by have:=w.args n f;omega
  have s:i.op≠21->∀t∈i.eG,(k:Int)+1<=t/\t<=(p.cX.length:Int) -1:=λH t I=>by
   rcases w.eG with o|o
   .exact absurd o H
   .rw[List.length_eq_zero_iff.1 o]at I;cases I
  have D:i.eG.length=0\/i.op=21:=w.eG.symm
  have G:0<=i.dst/\i.dst<p.an:=V
  have iy:∀(_:0<=i.op/\i.op<=24/\i.op≠7/\i.op≠8/\i.op≠12/\i.op≠13)(_:0<=i.bM/\i.bM<=p.an)(_:∀t∈i.eG,(k:Int)+1<=t/\t<=(p.cX.length:Int) -1)
   (_:gH u i (λt=>(k:Int)+1<=t/\t<=(p.cX.length:Int) -1))(_:∀j h,gT u i j h->j<=i.args.length/\(i.args.length:Int)<=h),_:=
   λE B F K o=>(⟨E,⟨G.1,G.2,w.YG,B.1,B.2,w.bM⟩,C,D,F,K,o⟩:(0<=i.op/\i.op<=24/\i.op≠7/\i.op≠8/\i.op≠12/\i.op≠13)/\(0<=i.dst/\i.dst<p.an/\(i.dst=0\/lT i.op)/\0<=i.bM/\i.bM<=p.an/\(i.bM=0\/i.op=6))/\
   (∀n∈i.args,0<=n/\n<p.an)/\(i.eG.length=0\/i.op=21)/\(∀t∈i.eG,(k:Int)+1<=t/\t<=(p.cX.length:Int) -1)/\
   gH u i (λt=>(k:Int)+1<=t/\t<=(p.cX.length:Int) -1)/\∀j h,gT u i j h->j<=i.args.length/\(i.args.length:Int)<=h)
  have r:i.op≠6->0<=i.bM/\i.bM<=p.an:=λH=>by rcases w.bM with o|o<;>omega
  unfold lS at b
  by_cases c:i.op=0
  .rw[aj c]at b
   refine iy V (r V) (s V) (by rw[gH,aj c];exact b.2) (λj h f=>?_)
   rw[gT,aj (Or.inl c)]at f;omega
  rw[ae c]at b
  by_cases g:i.op=1\/i.op=2\/i.op=3\/i.op=4\/i.op=11
  .rw[aj g]at b
   refine iy V (r V) (s V) ?_ (λj h f=>?_)
   .rw[gH,ae c,ae V,ae V,ae V,ae V,ae V,ae V];exact b.2
   .rw[gT,ae V,aj g]at f;omega
  rw[ae g]at b
  by_cases A:i.op=5\/i.op=14\/i.op=15\/i.op=18\/i.op=23
  .rw[aj A]at b
   refine iy V (r V) (s V) ?_ (λj h f=>?_)
   .rw[gH,ae c,ae V,ae V,ae V,ae V,ae V,ae V];exact b.2
   .rw[gT,ae V,ae g,ae V,ae V,ae V,ae V]at f;omega
  rw[ae A]at b
  by_cases a:i.op=6
  .rw[aj a]at b
   refine iy V b.2.2 (s V) ?_ (λj h f=>?_)
   .rw[gH,ae c,aj a];exact b.1
   .rw[gT,ae V,ae g,aj a]at f;omega
  rw[ae a]at b
  by_cases d:i.op=9\/i.op=24
  .rw[aj d]at b
   let⟨q,o,x,v⟩:=b
   have:=az x
   refine iy V (r V) (s V) ?_ (λj h f=>?_)
   .rw[gH,ae c,ae a,aj d];omega
   .rw[gT,ae V,ae g,ae a,aj d]at f
    let⟨J,l,y,m⟩:=f
    rw[x]at l;simp at l;subst l;omega
  rw[ae d]at b
  by_cases e:i.op=10
  .rw[aj e]at b
   let⟨⟨q,o,x,v⟩,l⟩:=b
   have:=az x
   refine iy V (r V) (s V) ?_ (λj h f=>?_)
   .rw[gH,ae c,ae a,ae d,aj e];exact⟨o,q,x,l q x⟩
   .rw[gT,ae V,ae g,ae a,ae d,aj e]at f
    let⟨J,l,y,m⟩:=f
    rw[x]at l;simp at l;subst l;omega
  rw[ae e]at b
  by_cases l:i.op=16\/i.op=17
  .rw[aj l]at b
   refine iy V (r V) (s V) ?_ (λj h f=>?_)
   .rw[gH,ae c,ae a,ae d,ae e,ae V,ae V,ae V];exact b.2
   .rw[gT,ae V,ae g,ae a,ae d,ae e,aj l]at f;omega
  rw[ae l]at b
  by_cases m:i.op=19
  .rw[aj m]at b
   refine iy V (r V) (s V) ?_ (λj h f=>?_)
   .rw[gH,ae c,ae a,ae d,ae e,aj m];omega
   .rw[gT,ae V,ae g,ae a,ae d,ae e,ae l]at f;omega
  rw[ae m]at b
  by_cases z:i.op=20
  .rw[aj z]at b
   refine iy V (r V) (s V) ?_ (λj h f=>?_)
   .rw[gH,ae c,ae a,ae d,ae e,ae m,aj (Or.inl z)];exact b.2
   .rw[gT,ae V,ae g,ae a,ae d,ae e,ae l]at f;omega
  rw[ae z]at b
  by_cases v:i.op=22
  .rw[aj v]at b
   refine iy V (r V) (s V) ?_ (λj h f=>?_)
   .rw[gH,ae c,ae a,ae d,ae e,ae m,aj (Or.inr v)];exact b.2
   .rw[gT,aj (Or.inr v)]at f;omega
  rw[ae v]at b
  by_cases y:i.op=21
  .rw[aj y]at b
   refine iy V (r V) b.2.2.2 ?_ (λj h f=>?_)
   .rw[gH,ae c,ae a,ae d,ae e,ae m,ae V,aj y]
    have:=b.2.2.1
    exact⟨b.2.1,V⟩
   .rw[gT,ae V,ae g,ae a,ae d,ae e,ae l]at f;omega
  rw[ae y]at b
  exact b.elim
 .rintro⟨E,B,C,D,s,b,h⟩
  refine⟨λn f=>oh (C n f),V,B.2.2.1,B.2.2.2.2.2,D.symm,?_⟩
  unfold lS
  by_cases c:i.op=0
  .rw[aj c]
   rw[gH,aj c]at b
   have:=h 0 0 (by rw[gT,aj (Or.inl c)];exact⟨rfl,rfl⟩)
   exact⟨V,b⟩
  rw[ae c]
  by_cases g:i.op=1\/i.op=2\/i.op=3\/i.op=4\/i.op=11
  .rw[aj g]
   rw[gH,ae c,ae V,ae V,ae V,ae V,ae V,ae V]at b
   have:=h 2 2 (by rw[gT,ae V,aj g];exact⟨rfl,rfl⟩)
   exact⟨V,b⟩
  rw[ae g]
  by_cases A:i.op=5\/i.op=14\/i.op=15\/i.op=18\/i.op=23
  .rw[aj A]
   rw[gH,ae c,ae V,ae V,ae V,ae V,ae V,ae V]at b
   have:=h 1 1 (by rw[gT,ae V,ae g,ae V,ae V,ae V,ae V];exact⟨rfl,rfl⟩)
   exact⟨V,b⟩
  rw[ae A]
  by_cases a:i.op=6
  .rw[aj a]
   rw[gH,ae c,aj a]at b
   have:=h _ _ (by rw[gT,ae V,ae g,aj a];exact⟨rfl,rfl⟩)
   exact⟨b,V,V⟩
  rw[ae a]
  by_cases d:i.op=9\/i.op=24
  .rw[aj d]
   rw[gH,ae c,ae a,aj d]at b
   let⟨q,j⟩:=cK u.cC i.bQ.toNat
   have:=h _ _ (by rw[gT,ae V,ae g,ae a,aj d];exact⟨q,j,rfl,rfl⟩)
   exact⟨q,b.1,j,V⟩
  rw[ae d]
  by_cases e:i.op=10
  .rw[aj e]
   rw[gH,ae c,ae a,ae d,aj e]at b
   let⟨o,q,j,x⟩:=b
   have:=h _ _ (by rw[gT,ae V,ae g,ae a,ae d,aj e];exact⟨q,j,rfl,rfl⟩)
   refine⟨⟨q,o,j,V⟩,λJ r=>?_⟩
   rw[j]at r;simp at r;subst r;exact x
  rw[ae e]
  by_cases l:i.op=16\/i.op=17
  .rw[aj l]
   rw[gH,ae c,ae a,ae d,ae e,ae V,ae V,ae V]at b
   have:=h 1 4 (by rw[gT,ae V,ae g,ae a,ae d,ae e,aj l];exact⟨rfl,rfl⟩)
   exact⟨V,b⟩
  have j:i.op≠22->∀(c:¬i.op=0)(g:¬(i.op=1\/i.op=2\/i.op=3\/i.op=4\/i.op=11))(a:¬i.op=6)(d:¬(i.op=9\/i.op=24))(e:¬i.op=10)(l:¬(i.op=16\/i.op=17)),i.args.length=1:=λo c g a d e l=>by
   have:=h 1 1 (by rw[gT,ae V,ae g,ae a,ae d,ae e,ae l];exact⟨rfl,rfl⟩);omega
  rw[ae l]
  by_cases m:i.op=19
  .rw[aj m]
   rw[gH,ae c,ae a,ae d,ae e,aj m]at b
   exact⟨j V c g a d e l,V,V⟩
  rw[ae m]
  by_cases z:i.op=20
  .rw[aj z]
   rw[gH,ae c,ae a,ae d,ae e,ae m,aj (Or.inl z)]at b
   exact⟨j V c g a d e l,b⟩
  rw[ae z]
  by_cases v:i.op=22
  .rw[aj v]
   rw[gH,ae c,ae a,ae d,ae e,ae m,aj (Or.inr v)]at b
   have:=h 0 0 (by rw[gT,aj (Or.inr v)];exact⟨rfl,rfl⟩)
   exact⟨V,b⟩
  rw[ae v]
  by_cases y:i.op=21
  .rw[aj y]
   rw[gH,ae c,ae a,ae d,ae e,ae m,ae V,aj y]at b
   exact⟨j V c g a d e l,b.1,V,s⟩
  rw[ae y]
  omega
end
section
variable{b:E}{d:O}{c:cg}
def Ec{W ah ax Q:O}(hd:cy b d c.bn)(ht:dU c.bn)(hf:pJ b W c.cC)(aI:c.cC.length<=4)(h3:∀q∈c.cC,q.params.length<=3)
 {q:dA}(hc:fu b Q q.cX)(hr:q.an<=2000){l:Nat}{e:Instr}{K P:O}(X:ar b K e.args)(hj:ar b P e.eG):
 dR cq 75 [.agg #[O.v d,O.v W],.agg #[O.v ah,O.v ax,vi q.aT,vi q.an,O.v Q],vi l,.agg #[vi e.op,vi e.dst,vi e.bQ,vi e.bM,O.v K,O.v P]] b (iN c q l e):=by
 apply pR
 simp -zeta only[aC,aB]
 intro B A E w
 have s1:B.size=b.size+1:=by simp[B]
 have s2:A.size=b.size+2:=by simp[A,s1]
 have s3:E.size=b.size+3:=by simp[E,s2]
 have s4:w.size=b.size+4:=by simp[w,s3]
 have z:J b w:=((((J.aA b).aH _).aH _).aH _).aH _
 have am:cw w A.size aD [.i l]:=(cw.push A _ _).ext (J.push _ _)
 have an:cw w B.size jy [.s ah,.s ax,.i q.aT,.i q.an,.s Q]:=(cw.push B _ _).ext ((J.push A _).aH _)
 have u:=Jh (u:=c) (p:=q) (k:=l) (i:=e) hr aI h3
 have aE:=hc.len
 have aR:=X.len
 have aS:=hj.len
 clear_value w
 clear_value E
 clear_value A
 clear_value B
 refine⟨λh=>cT (λf=>?_) z,λc0=>⟨λh=>cT (λf=>?_) z,λc1=>⟨λh=>cT (λf=>?_) z,λc2=>⟨λh=>cT (λf=>?_) z,λc3=>⟨λh=>cT (λf=>?_) z,λc4=>⟨λh=>cT (λf=>?_) z,λc5=>?_⟩⟩⟩⟩⟩⟩
 any_goals (have:=(u.1 f).1;simp at h;omega)
 simp at c0 c1 c2 c3 c4 c5
 have f1:0<=e.op/\e.op<=24/\e.op≠7/\e.op≠8/\e.op≠12/\e.op≠13:=V
 refine⟨λx=>J w x/\(0<=e.dst/\e.dst<q.an/\(e.dst=0\/lT e.op)/\0<=e.bM/\e.bM<=q.an/\(e.bM=0\/e.op=6)),?_,?_⟩
 .refine⟨λh=>cT (λf=>?_) z,λG=>⟨λh=>cT (λf=>?_) z,λI=>?_⟩⟩
  .have:=(u.1 f).2.1;simp at h;omega
  .have:=(u.1 f).2.1;simp at h;omega
  simp at G I
  have tail:∀x,J w x->(e.dst=0\/lT e.op)->((decide (e.bM<(0:Int)))=true->∃g:Bool,Value.bool false=.bool g/\(g=true<->iN c q l e)/\J b x)/\((decide (e.bM<(0:Int)))=false->
   ((decide (e.bM>q.an))=true->∃g:Bool,Value.bool false=.bool g/\(g=true<->iN c q l e)/\J b x)/\((decide (e.bM>q.an))=false->
   ((e.bM !=(0:Int))=true->((e.op !=(6:Int))=true->∃g:Bool,Value.bool false=.bool g/\(g=true<->iN c q l e)/\J b x)/\((e.op !=(6:Int))=false->J w x/\(0<=e.dst/\e.dst<q.an/\(e.dst=0\/lT e.op)/\0<=e.bM/\e.bM<=q.an/\(e.bM=0\/e.op=6))))/\
   ((e.bM !=(0:Int))=false->J w x/\(0<=e.dst/\e.dst<q.an/\(e.dst=0\/lT e.op)/\0<=e.bM/\e.bM<=q.an/\(e.bM=0\/e.op=6))))):=by
   intro x H N
   have L:=z.trans H
   refine⟨λh=>cT (λf=>?_) L,λC=>⟨λh=>cT (λf=>?_) L,λF=>⟨λt=>⟨λh=>cT (λf=>?_) L,λM=>⟨H,?_⟩⟩,λt=>⟨H,?_⟩⟩⟩⟩
   .have:=(u.1 f).2.1;simp at h;omega
   .have:=(u.1 f).2.1;simp at h;omega
   .have:=(u.1 f).2.1.2.2.2.2.2;simp at h t;omega
   .simp at C F M;exact⟨G,I,N,C,F,Or.inr M⟩
   .simp at C F t;exact⟨G,I,N,C,F,Or.inl t⟩
  refine⟨λh=>?_,λh=>tail w (J.aA _) (Or.inl (by simpa using h))⟩
  refine(rG e.op w ⟨V,V⟩).aK (J.aA _) bJ λv x D H _=>⟨v,rfl,λy=>cT (λf=>?_) (z.trans H),λy=>tail x H (Or.inr (yb D y))⟩
  have:=(u.1 f).2.1.2.2.1
  simp at h
  rcases this with s|s
  .exact h s
  .exact nb D y s
 .rintro x ⟨H,f2⟩
  refine fm (n:=e.args.length) (oh X.iC) (λae R=>J w R/\∀G∈e.args.take ae,0<=G/\G<q.an) ⟨H,aL⟩ ?_
  rintro ae I aQ μ hn ⟨y,aj⟩ aO
  have aa:=z.trans y
  refine dit (λh=>?_) λh=>?_
  .let⟨G,t⟩:=cK e.args ae
   refine⟨V,V,G,by simpa using(X.ext aa).aG t,λs=>cT (λf=>?_) aa,λs=>⟨λC=>cT (λf=>?_) aa,λC=>aO V _ ⟨y,bY t aj ?_⟩⟩⟩
   .have:=(u.1 f).2.2.1 G (au t);simp at s;omega
   .have:=(u.1 f).2.2.1 G (au t);simp at C;omega
   .simp at s C;omega
  .have ay:∀G∈e.args,0<=G/\G<q.an:=dy V aj
   intro m7 F
   have s8:F.size=I.size+1:=by simp[F,m7,aw]
   have C:J I F:=((J.aA I).aH _).ag (ad _) _ _
   have ac:=aa.trans C
   have al:af F I.size 0=some (.func (.func 148) #[] #[vp A.size 0,vp B.size 0]):=
    (cw.ag (m:=m7) (o:=0) (r:=[.fn (.func 148) #[] #[vp A.size 0,vp B.size 0]]) (cw.push I _ _)).bU 0
   have aT:=y.size
   clear_value F
   have aK:∀N,J F N->∀t,dR cq 148 [vi t,vp A.size 0,vp B.size 0] N ((l:Int)+1<=t/\t<=(q.cX.length:Int) -1):=λN s t=>by
    rw[<-aE];exact yr (am.ext (y.trans (C.trans s))|>.bU 0) (an.ext (y.trans (C.trans s))|>.bU 4)
   have kd:(e.eG.length=0\/e.op=21)->aM cq 78 [O.v P,.func (.func 149) #[] #[vp I.size 0]] F λaP U=>
    dY [E.size,b.size] F U/\∃ag:Bool,aP=vb ag/\(ag=true->∃g:Bool,Value.bool false=.bool g/\(g=true<->iN c q l e)/\J b U)/\
    (ag=false->∃L:Fn×Array Value×Array Value,af U I.size 0=some (.func L.1 L.2.1 L.2.2)/\
    aM cq 150 [.agg #[O.v d,O.v W],.agg #[vi e.op,vi e.dst,vi e.bQ,vi e.bM,O.v K,O.v P],.func L.1 L.2.1 L.2.2] U λab M=>
    dY [E.size,b.size] U M/\∃T:Bool,ab=vb T/\((!T)=true->∃g:Bool,Value.bool false=.bool g/\(g=true<->iN c q l e)/\J b M)/\
    ((!T)=false->aM cq 151 [.agg #[O.v d,O.v W],.agg #[vi e.op,vi e.dst,vi e.bQ,vi e.bM,O.v K,O.v P]] M λai S=>
    dY [E.size,b.size] M S/\∃Y:Int,∃Z:Int,ai=.tuple #[vi Y,vi Z]/\
    ((decide ((K.len:Int)>=Y))=true->∃g:Bool,Value.bool (decide ((K.len:Int)<=Z))=.bool g/\(g=true<->iN c q l e)/\J b S)/\
    ((decide ((K.len:Int)>=Y))=false->∃g:Bool,Value.bool false=.bool g/\(g=true<->iN c q l e)/\J b S))):=by
    intro aF
    have hl:∀v∈[E.size,b.size],v<F.size:=bJ
    refine(iX (hj.ext ac) 149 #[] #[vp I.size 0] be (λt=>¬((l:Int)+1<=t/\t<=(Q.len:Int) -1)) (λt _ N s=>JL (am.ext (y.trans (C.trans s))|>.bU 0) (an.ext (y.trans (C.trans s))|>.bU 4) (s.af al))).aK (J.aA _) hl ?_
    intro v N D s _
    have M:=ac.trans s
    refine⟨v,rfl,λaA=>cT (λf=>?_) M,λaz=>?_⟩
    .let⟨t,ab,g⟩:=D.1 aA
     have:=(u.1 f).2.2.2.2.1 t ab
     exact g V
    have aG:∀t∈e.eG,(l:Int)+1<=t/\t<=(q.cX.length:Int) -1:=λt ab=>by
     rcases dJ ((l:Int)+1<=t/\t<=(Q.len:Int) -1)with h|h
     .omega
     .exact absurd (D.2 ⟨t,ab,h⟩) (by simp[az])
    refine⟨(.func 148,#[],#[vp A.size 0,vp B.size 0]),s.af al,?_⟩
    have ao:∀v∈[E.size,b.size],v<N.size:=λv D=>s.lt (hl v D)
    refine(HM (cy.ext M hd) ht (pJ.ext M hf) (X.ext M) (hj.ext M) 148 #[] #[vp A.size 0,vp B.size 0] be (λt=>(l:Int)+1<=t/\t<=(q.cX.length:Int) -1) (λR g=>by simpa using aK R (s.trans g) e.bQ)).aK (J.aA _) ao ?_
    intro b2 aN ak L _
    have Z:=M.trans L
    refine⟨b2,rfl,λh=>cT (λf=>nb ak h (u.1 f).2.2.2.2.2.1) Z,λh=>?_⟩
    have ap:=yb ak h
    have aH:∀v∈[E.size,b.size],v<aN.size:=λv D=>L.lt (ao v D)
    refine(Lh (cy.ext Z hd) ht (pJ.ext Z hf) (a:=K) (j:=P) ap).aK (J.aA _) aH ?_
    rintro _ aU ⟨lo,Y,rfl,R,ai⟩
    have av:=Z.trans ai
    have aJ:∀T S,gT c e T S->T=lo/\S=Y:=λT S g=>by
     unfold gT at R g;repeat' (split at R)
     all_goals simp_all
     all_goals (obtain⟨q1,e1,e2,e3⟩:=R;simp_all)
    refine⟨ai,lo,Y,rfl,λh=>fI ?_ av,λh=>cT (λf=>?_) av⟩
    .rw[u]
     simp only[aq]at h⊢
     refine⟨λg=>⟨f1,f2,ay,aF,aG,ap,λT S h2=>?_⟩,λg=>?_⟩
     .obtain⟨rfl,rfl⟩:=aJ T S h2;omega
     .have:=g.2.2.2.2.2.2 lo Y R;omega
    .have:=(u.1 f).2.2.2.2.2.2 lo Y R
     simp at h;omega
   refine⟨λs=>⟨λL=>cT (λf=>?_) ac,λL=>kd (Or.inr (by simpa using L))⟩,λs=>kd (Or.inl (by simp at s;omega))⟩
   have:=(u.1 f).2.2.2.1
   simp at s L;omega
def oL{ah:O}(v:eW b d ah c):dR cq 43 [.agg #[O.v d,O.v ah]] b (iE c):=by
 apply yM;simp -zeta only[aC,aB];intro F;have ac:J b F:=(J.aA b).aH _;have s1:F.size=b.size+1:=by simp[F]
 clear_value F;refine(Gb (v.ext ac)).aK (J.aA _) bJ ?_;rintro _ M ⟨d',aj,ai,rfl,Y,an,H⟩;refine⟨H,d',aj,ai,rfl,?_⟩;intro m3 t;have s4:t.size=M.size+1:=by simp[t,m3,aw]
 have W:J M t:=((J.aA M).aH _).ag (ad _) _ _;have af:J b t:=(ac.trans H).trans W;have:=H.size;have aI:=v.cC.len;have aJ:=v.cC.iC;clear_value t;refine⟨λhn=>cT (λf=>nb Y hn ⟨f.ni,λq x=>(f.dx q x).cO⟩) af,λhy=>?_⟩;let⟨D,am⟩:=yb Y hy;obtain⟨rfl,hf⟩:=an (by simpa using hy);refine fm (n:=c.cC.length) V (λQ z=>J t z/\∀q∈c.cC.take Q,Hx c q) ⟨J.aA _,aL⟩ ?_;rintro Q N ax μ hn ⟨A,X⟩ av
 have K:=af.trans A;refine dit (λaG=>?_) λaE=>?_
 .let⟨q,x⟩:=cK c.cC Q;let⟨R,ag,S,ha,hl,w,g0,g1,g2,g3,g4⟩:=(v.ext K).cC.aG x;refine⟨V,V,R,by simpa using g0,ag,by simpa using g1,_,by simpa using g2,_,by simpa using g3,S,by simpa using g4,?_⟩;intro m6 u;have s7:u.size=N.size+1:=by simp[u,m6,aw]
  have r:J N u:=((J.aA N).aH _).ag (ad _) _ _;have s:=K.trans r;have ay:=ha.len;have aA:=w.len;have aD:=w.iC;have o:=au x;clear_value u;refine⟨λe=>cT (λf=>?_) s,λT=>⟨λe=>cT (λf=>?_) s,λe2=>⟨λe=>cT (λf=>?_) s,λe3=>⟨λe=>cT (λf=>?_) s,λe4=>?_⟩⟩⟩⟩
  .have:=(f.dx q o).an;simp at e;split at e<;>omega
  .have:=(f.dx q o).an;simp at e;omega
  .have:=(f.dx q o).len;simp at e;omega
  .have:=(f.dx q o).len;simp at e;omega
  have ab:(q.params.length:Int)<=q.an/\1<=q.an/\q.an<=2000:=by
   simp at T e2;split at T<;>omega
  have al:1<=q.cX.length/\q.cX.length<=2000:=by simp at e3 e4;omega
  let⟨E,I⟩:=cK q.cX (q.cX.length -1);obtain⟨a0,j0,_,_,L,_⟩:=(fu.ext r w).aG I;refine⟨λz=>J u z/\(E.op=23\/E.op=24),?_,?_⟩
  .have e:cR ((S.len:Int) -1)=((q.cX.length -1:Nat):Int):=by rw[aP V V];omega
   rw[e];refine⟨V,V,E.op,by simpa using L,λg=>⟨λh=>cT (λf=>?_) s,λh=>⟨J.aA _,Or.inr (by simpa using h)⟩⟩,λg=>⟨J.aA _,Or.inl (by simpa using g)⟩⟩;have:=(f.dx q o).Ri E I;simp at g h;omega
  .rintro m8 ⟨h8,ak⟩;refine fm (n:=q.cX.length) V (λy z=>J u z/\∀(j:Nat)(h:Instr),j<y->q.cX[j]? =some h->iN c q j h) ⟨h8,λj h C=>V⟩ ?_;rintro y P I2 μ2 hk ⟨m,aa⟩ ar;refine dit (λaH=>?_) λaF=>?_
   .let⟨h,g⟩:=cK q.cX y;let⟨xa,xj,ao,ap,L,k1,k2,k3,k4,k5⟩:=(fu.ext (r.trans m) w).aG g;refine⟨V,V,_,by simpa using L,_,by simpa using k1,_,by simpa using k2,_,by simpa using k3,xa,by simpa using k4,xj,by simpa using k5,?_⟩;intro aq G;have aM:G.size=P.size+1:=by simp[G,aq,aw]
    have p:J P G:=((J.aA P).aH _).ag (ad _) _ _;have ae:=(s.trans m).trans p;have q1:=m.size;have q2:=A.size;clear_value G;refine(Ec (ah:=R) (ax:=ag) (cy.ext ae v.bn) D.types (pJ.ext (W.trans (A.trans (r.trans (m.trans p)))) hf) D.len.2 (λU B=>(D.dx U B).1) (fu.ext (r.trans (m.trans p)) w) ab.2.2 (l:=y) (e:=h) (ao.ext p) (ap.ext p)).aK (J.aA _) bJ ?_;intro b' aK Z U _;refine⟨b',rfl,λe=>cT (λf=>nb Z e ((f.dx q o).dx y h g)) (ae.trans U),λe=>ar V _ ⟨m.trans (p.trans U),λj i' C B=>?_⟩⟩;rcases Nat.lt_succ_iff_lt_or_eq.1 C with C|rfl
    .exact aa j i' C B
    .rw[g]at B;simp at B;subst B;exact yb Z e
   .refine av V _ ⟨A.trans (r.trans m),bY x X ⟨am q o,ab,al,λj h g=>aa j h (oh (az g)) g,λh g=>?_⟩⟩
    rw[I]at g;simp at g;subst g;exact ak
 .exact jU ⟨D,dy V X⟩ K
end
section
variable{m:E}{s:O}{k:Nat}{γ σ:Type}
def Pr(m:E)(a:List Ce)(c:bO):Prop:=∃f,a=[.i c.aQ,.i c.kG,.s f]/\ar m f c.aN
def Kz(m:E)(a:List Ce)(f:aU):Prop:=∃r o h,a=[.i f.eg,.i f.pc,.i f.dst,.s r,.s o,.s h]/\ar m r f.an/\ar m o f.aR/\ar m h f.aY
abbrev dF(m:E)(s:O)(l:List bO):Prop:=eR m 3 (Pr m) s l
abbrev lR(m:E)(s:O)(l:List aU):Prop:=eR m 6 (Kz m) s l
def Pr.ext{m b:E}(g:J m b)(a:List Ce)(c:bO):Pr m a c->Pr b a c:=λ⟨f,d,e⟩=>⟨f,d,e.ext g⟩
def dF.ext{m b:E}(a:J m b){s:O}{l:List bO}(h:dF m s l):dF b s l:=h.mono a (Pr.ext a)
def Kz.ext{m d:E}(a:J m d)(b:List Ce)(c:aU):Kz m b c->Kz d b c:=λ⟨r,o,h,e,f,g,i⟩=>⟨r,o,h,e,f.ext a,g.ext a,i.ext a⟩
def lR.ext{m b:E}(a:J m b){s:O}{l:List aU}(h:lR m s l):lR b s l:=h.mono a (Kz.ext a)
def dF.aG{l:List bO}(h:dF m s l){x:bO}(c:l[k]? =some x):
 ∃f,ar m f x.aN/\af m s.D (s.off+k*3)=some (vi x.aQ)/\af m s.D (s.off+k*3+1)=some (vi x.kG)/\af m s.D (s.off+k*3+2)=some (O.v f):=by
 obtain⟨d,⟨f,rfl,b⟩,a⟩:=h.iF k x c
 exact⟨f,b,a 0 (.i x.aQ) rfl,a 1 (.i x.kG) rfl,a 2 (.s f) rfl⟩
def lR.aG{l:List aU}(h:lR m s l){x:aU}(b:l[k]? =some x):
 ∃r o e,ar m r x.an/\ar m o x.aR/\ar m e x.aY/\af m s.D (s.off+k*6)=some (vi x.eg)/\af m s.D (s.off+k*6+1)=some (vi x.pc)/\af m s.D (s.off+k*6+2)=some (vi x.dst)/\
  af m s.D (s.off+k*6+3)=some (O.v r)/\af m s.D (s.off+k*6+4)=some (O.v o)/\af m s.D (s.off+k*6+5)=some (O.v e):=by
 obtain⟨f,⟨r,o,e,rfl,d,c,a⟩,jm⟩:=h.iF k x b
 exact⟨r,o,e,d,c,a,jm 0 (.i x.eg) rfl,jm 1 (.i x.pc) rfl,jm 2 (.i x.dst) rfl,jm 3 (.s r) rfl,jm 4 (.s o) rfl,jm 5 (.s e) rfl⟩
def _root_.Go.Vc.eR.pM{l:List Int}(h:eR m 1 U9 s l){i:Int}(a:0<=i)(b:i<l.length):af m s.D (s.off+i.toNat*1)=some (vi (aG l i)):=ar.aG h (oI a b)
structure RV(m:E)(mb o:Nat)(d p aW hp fr:O)(im:cg)(s:St):Prop where
 fA:eW m d p im
 bn:af m mb 0=some (O.v d)
 cC:af m mb 1=some (O.v p)
 bI:af m mb o=some (vi s.bI)
 value:af m mb (o+1)=some (vi s.value)
 bC:af m mb (o+2)=some (vi s.bC)
 bq:af m mb (o+3)=some (vi s.bq)
 aae:af m mb (o+4)=some (O.v aW)
 rB:af m mb (o+5)=some (O.v hp)
 OD:af m mb (o+6)=some (O.v fr)
 aW:ar m aW s.aW
 heap:dF m hp s.heap
 av:lR m fr s.av
def RV.ext{m f:E}{g o:Nat}{d p aW c b:O}{e:cg}{s:St}(h:RV m g o d p aW c b e s)(a:J m f):RV f g o d p aW c b e s:=
 ⟨h.fA.ext a,a.af h.bn,a.af h.cC,a.af h.bI,a.af h.value,a.af h.bC,a.af h.bq,a.af h.aae,a.af h.rB,a.af h.OD,h.aW.ext a,dF.ext a h.heap,lR.ext a h.av⟩
def XD(P:Nat->Prop):∀(n:Nat),P n->∃k,P k/\∀j,P j->k<=j:=by
 intro n;induction n using Nat.strongRecOn with
 |_ n e=>
  intro b;rcases dJ (∃j,j<n/\P j)with⟨j,a,d⟩|c
  .exact e j a d
  .exact⟨n,b,λj a=>dB λh=>c ⟨j,V,a⟩⟩
def Ky{p:σ}{j:(σ->E->Prop)->(σ->E->Nat)->σ->E->Prop}(J:γ->σ->E->Prop)(ν:γ->Nat)(l:γ)(r:J l p m)
 (q:∀(g:γ)(s:σ)(a:E)(I:σ->E->Prop)(μ:σ->E->Nat),J g s a->(∀b d c,J b d c->ν b<ν g->I d c/\μ d c<μ s a)->j I μ s a):
 ∃(I:σ->E->Prop)(μ:σ->E->Nat),I p m/\∀s a,I s a->j I μ s a:=by
 classical
 let I:σ->E->Prop:=λs m=>∃g,J g s m
 have h:∀s m,I s m->∃k,(∃g,J g s m/\ν g=k)/\∀o,(∃g,J g s m/\ν g=o)->k<=o:=λs m⟨g,i⟩=>XD _ (ν g) ⟨g,i,rfl⟩
 let μ:σ->E->Nat:=λs m=>if e:I s m then Classical.choose (h s m e)else 0
 refine⟨I,μ,⟨l,r⟩,λs a e=>?_⟩
 let⟨g,i,u⟩:=(eB (h s a e)).1
 refine q g s a I μ i λb d c f t=>⟨⟨b,f⟩,?_⟩
 have n:I d c:=⟨b,f⟩
 simp only[μ,Tn e,Tn n]
 exact nO ((eB (h d c n)).2 _ ⟨b,f,rfl⟩) (u▸t)
def Sv{d:(E->Prop)->(E->Nat)->E->Prop}(J:γ->E->Prop)(ν:γ->Nat)(e:γ)(f:J e m)
 (h:∀(g:γ)(a:E)(I:E->Prop)(μ:E->Nat),J g a->(∀c b,J c b->ν c<ν g->I b/\μ b<μ a)->d I μ a):
 ∃(I:E->Prop)(μ:E->Nat),I m/\∀a,I a->d I μ a:=by
 let⟨I,μ,i,j⟩:=Ky (σ:=Unit) (p:=()) (j:=λI μ _ a=>d (I ()) (μ ()) a) (λg _ m=>J g m) ν e f (λg _ a I μ k l=>h g a (I ()) (μ ()) k λc b=>l c () b)
 exact⟨I (),μ (),i,j ()⟩
def VJ{τ:Type}{i:σ}{j:τ}{h:(σ->τ->E->Prop)->(σ->τ->E->Nat)->σ->τ->E->Prop}(J:γ->σ->τ->E->Prop)(ν:γ->Nat)(k:γ)(n:J k i j m)
 (l:∀(g:γ)(s:σ)(t:τ)(a:E)(I:σ->τ->E->Prop)(μ:σ->τ->E->Nat),J g s t a->(∀f d e c,J f d e c->ν f<ν g->I d e c/\μ d e c<μ s t a)->h I μ s t a):
 ∃(I:σ->τ->E->Prop)(μ:σ->τ->E->Nat),I i j m/\∀s t a,I s t a->h I μ s t a:=by
 let⟨I,μ,o,p⟩:=Ky (σ:=σ×τ) (p:=(i,j)) (j:=λI μ b a=>h (λs t=>I (s,t)) (λs t=>μ (s,t)) b.1 b.2 a) (λg b m=>J g b.1 b.2 m) ν k n (λg b a I μ q r=>l g b.1 b.2 a (λs t=>I (s,t)) (λs t=>μ (s,t)) q λf d e c=>r f (d,e) c)
 exact⟨λs t=>I (s,t),λs t=>μ (s,t),o,λs t=>p (s,t)⟩
end
section
variable{m g:E}{s d p a j t o e:O}{b r:List Int}{f:Nat}{K:Value->E->Prop}{c:cg}{x:Instr}
def _root_.Go.Vc.eR.Ic(h:eR m 1 U9 s b):fX m s.D s.off (b.map Ce.i):=λi d a=>by
 rw[cU]at a;obtain⟨x,c,rfl⟩:=Option.map_eq_some_iff.1 a;have:=ar.aG h c;rw[iu]at this;exact this
def oG(f:Nat)(c:List Value)(m:E)(b:List Int):Prop:=aM cq f c m λv a=>∃s,v=O.v s/\gY m a aD 1 s (b.map Ce.i)/\J m a
def oG.then{c:List Value}(h:oG f c m b)(i:b.length<=1000000000)(e:∀s a,gY m a aD 1 s (b.map Ce.i)->ar a s b->J m a->K (O.v s) a):aM cq f c m K:=
 h.mono λ_ _⟨s,d,a,g⟩=>d▸e s _ a (ar.gK a V) g
def oG.aK{c:List Value}{d:List Nat}(h:oG f c m b)(l:b.length<=1000000000)(i:∀a∈d,a<m.size)(k:∀s a,gY m a aD 1 s (b.map Ce.i)->ar a s b->J m a->K (O.v s) a):aM cq f c m λv a=>dY d m a/\K v a:=
 h.mono λ_ _⟨s,j,e,g⟩=>⟨g.dv i,j▸k s _ e (ar.gK e V) g⟩
def fE(w:Int)(m:E):dR cq 119 [vi w] m (1000<=w):=by
 apply AY;exact fI aL (J.aA _)
def lH{a:O}{h:List bO}(j:dF m a h){w:Int}(C: -9223372036854775808<=w/\w<=9223372036854775807):dR cq 130 [O.v a,vi w] m (gC h w):=by
 apply GM;have z:=j.len;have A:=j.iC;have o:cR ((a.len:Int) -1)=(a.len:Int) -1:=aP V V;rw[o];have x:cR (w -1000)=w -1000\/(w<1000/\¬(0<=cR (w -1000)/\cR (w -1000)<=(a.len:Int) -1))\/(w<1000/\cR (w -1000)=w -1000+18446744073709551616):=by
  rcases dJ (-9223372036854775808<=w -1000)with b|b
  .exact Or.inl (aP b V)
  .refine Or.inr (Or.inr ⟨V,?_⟩);simp only[cR,IntKind.wrap,IntKind.signed,IntKind.bits];simp;omega
 refine(bF _ _ _ _).then λn D i b=>⟨n,rfl,λu=>?_,λt=>?_⟩
 .refine(fE _ _).then λb2 E l g=>⟨b2,rfl,λs=>?_,λr=>cT (λc=>fb l r c.1) (b.trans g)⟩;have k:=l.1 s;have p:cR (w -1000)=w -1000:=aP V V;rw[p]at i⊢;have B:=i.1 u;let⟨e,c⟩:=cK h ((w -1000).toNat);obtain⟨f,y,q,_⟩:=(dF.ext (b.trans g) j).aG c;refine⟨V,V,e.aQ,q,fI ?_ (b.trans g)⟩;simp only[lx,aq];refine⟨λa=>⟨k,e,c,a⟩,λ⟨_,v,d,a⟩=>?_⟩;unfold ix at d;rw[c]at d;simp at d;subst d;exact a
 .refine cT (λ⟨k,e,c,_⟩=>fb i t ?_) b;have:=az c;unfold ix at this;rw[aP V V];omega
def Mk(a:Int)(m:E):dR cq 68 [vi a] m (na a):=by
 apply GK;refine⟨λh=>jU ?_ (J.aA _),λh=>⟨λb=>jU ?_ (J.aA _),λb=>fI ?_ (J.aA _)⟩⟩<;>simp[na]at* <;>omega
def Ln{q:dA}(a:c.cC[x.bQ.toNat]? =some q)(k:Nat):nI c x k=true<->(k:Int)∈q.cO:=by
 simp[nI,dC,a,List.any_eq_true]
def zG(c:cg)(x:Instr):Prop:=(x.op=9\/x.op=24)->0<=x.bQ/\∃q,c.cC[x.bQ.toNat]? =some q
def iN.call{p:dA}{k:Nat}(h:iN c p k x):zG c x:=λe=>by
 have a:=h.op;unfold lS at a;rw[ae V,ae V,ae V,ae V,aj e]at a;obtain⟨q,b,d,_⟩:=a;exact⟨b,q,d⟩
def sB(h:eW m d p c)(z:zG c x)(a j:O)(k:Nat):
 dR cq 122 [.agg #[O.v d,O.v p],.agg #[vi x.op,vi x.dst,vi x.bQ,vi x.bM,O.v a,O.v j],vi k] m ((x.op=9\/x.op=24)/\nI c x k=true):=by
 apply EP
 simp -zeta only[aC,aB]
 intro o b
 have n:J m b:=((J.aA m).aH _).aH _
 have A:∀f∈[o.size,m.size],f<b.size:=by simp[b,o];omega
 have L:=h.cC.len
 clear_value b
 have q:∀e:x.op=9\/x.op=24,(0:Int)<=x.bQ/\x.bQ<(p.len:Int)/\∃u:O,af b p.D (p.off+Int.toNat x.bQ*5+1)=some (O.v u)/\
  aM cq 133 [O.v u,vi k] b λr s=>dY [o.size,m.size] b s/\∃t:Bool,r=vb t/\∃f:Bool,vb t=.bool f/\(f=true<->((x.op=9\/x.op=24)/\nI c x k=true))/\J m s:=λe=>by
  let⟨v,N,l⟩:=z e
  let⟨D,C,E,I,B,K,F,g1,g2,G,H⟩:=(h.ext n).cC.aG l
  have:=az l
  refine⟨v,V,C,g1,(dw B _).aK (J.aA _) A λf M y w _=>⟨f,rfl,fI ?_ (n.trans w)⟩⟩
  rw[y,Ln l]
  exact⟨λh=>⟨e,h⟩,λh=>h.2⟩
 refine⟨λi=>q (Or.inl (by simpa using i)),λi=>⟨λg=>q (Or.inr (by simpa using g)),λg=>cT (λ⟨e,_⟩=>?_) n⟩⟩
 simp at i g;omega
def Im(a:Int)(m:E):dR cq 121 [vi a] m (a=6\/a=9\/a=10\/a=11):=by
 apply sK;refine⟨λh=>jU ?_ (J.aA _),λh=>⟨λb=>jU ?_ (J.aA _),λb=>⟨λc=>jU ?_ (J.aA _),λc=>fI ?_ (J.aA _)⟩⟩⟩<;>simp at* <;>omega
def jt(c:cg)(x:Instr)(n:Nat):List Int:=iD c x 0 (x.args.take n)
def vK(c:cg)(x:Instr):∀(b r:List Int)(k:Nat),iD c x k (b++r)=iD c x k b++iD c x (k+b.length) r
 |[],r,k=>by simp[iD]
 |a::b,r,k=>by
  have:=vK c x b r (k+1);simp only[cH,iD,this,aV];have e:k+(b.length+1)=k+1+b.length:=V;rw[e];split<;>simp
def uc(c:cg)(x:Instr):∀(b:List Int)(k:Nat),(iD c x k b).length<=b.length
 |[],k=>ad _
 |a::b,k=>by
  have:=uc c x b (k+1);simp only[iD];split<;>simp<;>omega
def IY(c:cg)(x:Instr):(bW c x).length<=x.args.length:=by
 unfold bW;split
 .exact ad _
 split
 .simp;omega
 split
 .exact uc _ _ _ _
 .simp
def J.tO{a c:E}(f:J g a)(h:J g c){b:List Nat}(d:∀x∈b,x<g.size):dY b a c:=λx e=>by rw[f.same x (d x e),h.same x (d x e)]
def nX{v:Int}{K:O->E->Prop}(c:gY g m aD 1 s (b.map Ce.i))(h:J g m)(n:b.length<1000000000)
 (f:∀r a,gY g a aD 1 r ((b++[v]).map Ce.i)->J g a->K r a):
 jM (m.push (.cells (bA [.i v]) aD)) aD [.i (0:Int)] 8 s (O.mk m.size 0 1 1) K:=by
 have o:s.len=b.length:=by have:=c.len;simp at this;omega
 refine gY.append (c:=[.i 0]) (h:=[.i v]) (c.ext (J.push _ _)) (h.aH _) rfl (cw.push m _ _).iF bJ λr a d e i j k l=>?_
 exact f r a (by simpa using d) e
def Kk(aa:eW m d p c)(hc:zG c x)(I:ar m a x.args)(al:x.args.length<=1000000)(ab:(x.op=16\/x.op=17)->1<=x.args.length):
 oG 70 [.agg #[O.v d,O.v p],.agg #[vi x.op,vi x.dst,vi x.bQ,vi x.bM,O.v a,O.v j]] m (bW c x):=by
 apply Fc
 simp -zeta only[aC,aB]
 intro C f Q
 have B:J m f:=((J.aA m).aH _).aH _
 have s2:f.size=m.size+2:=by simp[f,C]
 have h3:J f Q:=(J.aA f).aH _
 have u:gY f Q aD 1 (.mk f.size 0 0 0) []:=gY.new (J.aA f) aD 1 [] 0 aL
 have s1:C.size=m.size+1:=by simp[C]
 have ah:=I.len
 have w:∀v∈[C.size,m.size],v<f.size:=λv t=>by simp at t;omega
 clear_value Q
 clear_value f
 have K:∀{o s b},gY f o aD 1 s b->gY m o aD 1 s b:=λu=>u.cv B.size
 refine⟨λZ o=>J f o/\gY f o aD 1 (.mk f.size 0 0 0) []/\(Z=true<->(x.op=15\/x.op=6\/x.op=10\/x.op=11\/x.op=18\/x.op=23\/x.op=9\/x.op=24)),?_,?_⟩
 .refine(Im _ _).aK h3 w λv D t g i=>⟨v,rfl,λM=>⟨i,u.ext g,by have:=t.1 M;simp;omega⟩,λL=>?_⟩
  have h:=fb t L
  refine⟨λe=>⟨i,u.ext g,by simp at e;simp;omega⟩,λH=>⟨λe=>⟨i,u.ext g,by simp at e;simp;omega⟩,λq=>⟨λe=>⟨i,u.ext g,by simp at e;simp;omega⟩,λA=>⟨i,u.ext g,by simp at H q A;simp;omega⟩⟩⟩⟩
 .rintro Z D ⟨g,N,W⟩
  refine⟨λad=>?_,λac=>?_⟩
  .have hT:=W.1 ad
   refine dV (n:=x.args.length) V (λk s o=>J f o/\gY f o aD 1 s ((if x.op=9\/x.op=24 then jt c x k else x.args.take k).map Ce.i)) ⟨g,by simpa[jt,iD]using N⟩ ?_
   rintro k s m5 ag μ hk ⟨R,P⟩ Y
   have X:=B.trans R
   refine dit (λak=>?_) λai=>?_
   .let⟨y,h⟩:=cK x.args k
    have U:jt c x (k+1)=jt c x k++iD c x k [y]:=by
     unfold jt;rw[bd h,vK];simp;congr 2;omega
    refine(sB (aa.ext X) hc a j k).aK R w λv m6 t S F=>⟨v,rfl,λM=>?_,λL=>?_⟩
    .have G:=nb t M
     refine⟨V,V,y,by simpa using(I.ext (B.trans F)).aG h,?_⟩
     intro m7
     have T:(if x.op=9\/x.op=24 then jt c x k else x.args.take k).length<=k:=by
      split
      .refine bX (uc _ _ _ _) ?_;simp;omega
      .simp;omega
     refine nX (P.ext S) F V λr m8 z E=>?_
     refine⟨J.tO (F.aH _) E w,Y V _ _ ⟨E,?_⟩⟩
     by_cases e:x.op=9\/x.op=24
     .rw[aj e]at z⊢
      rw[U]
      have:iD c x k [y]=[y]:=by
       simp only[iD];rw[ae (λw=>G ⟨e,w⟩)]
      rw[this];exact z
     .rw[ae e]at z⊢
      rw[bd h];exact z
    .have G:=yb t L
     refine Y V _ _ ⟨F,?_⟩
     have T:=P.ext S
     rw[aj G.1]at T⊢
     rw[U]
     have:iD c x k [y]=[]:=by
      simp only[iD];rw[aj G.2]
     rw[this,dO];exact T
   .refine⟨s,rfl,?_,X⟩
    have q:bW c x=if x.op=9\/x.op=24 then jt c x k else x.args.take k:=by
     have A:x.args.take k=x.args:=cJ V;unfold bW jt;rw[A];by_cases e:x.op=9\/x.op=24
     .rw[ae V,ae V,aj e,aj e]
     .rw[aj V,ae e]
    rw[q];exact K P
  .have hT:¬(x.op=15\/x.op=6\/x.op=10\/x.op=11\/x.op=18\/x.op=23\/x.op=9\/x.op=24):=λe=>by have:=W.2 e;rw[ac]at this;simp at this
   have i:=B.trans g
   have kX:∀e:x.op=16\/x.op=17,(0:Int)<=(0:Int)/\(0:Int)<(a.len:Int)/\∃F:Int,af D a.D (a.off+Int.toNat (0:Int)*1)=some (vi F)/\
    jM (D.push (.cells (bA [.i F]) 3)) 3 [.i (0:Int)] 8 (O.mk f.size 0 0 0) (O.mk D.size 0 1 1) λL k=>dY [C.size,m.size] (D.push (.cells (bA [.i F]) 3)) k/\∃s,O.v L=O.v s/\gY m k aD 1 s ((bW c x).map Ce.i)/\J m k:=λe=>by
    have M:=ab e
    let⟨y,h⟩:=cK x.args 0
    refine⟨V,V,y,by simpa using(I.ext i).aG h,nX (b:=[]) N g aL λr m8 z E=>⟨J.tO (g.aH _) E w,r,rfl,?_,B.trans E⟩⟩
    have q:bW c x=[y]:=by
     unfold bW;rw[ae V,aj e];cases G:x.args with
     |nil=>rw[G]at h;simp at h
     |cons P b=>rw[G]at h;simp at h;subst h;rfl
    rw[q];exact K z
   refine⟨λe=>kX (Or.inl (by simpa using e)),λH=>⟨λe=>kX (Or.inr (by simpa using e)),λq=>⟨_,rfl,?_,i⟩⟩⟩
   have A:bW c x=[]:=by
    simp at H q;unfold bW;rw[ae V,ae V,ae V]
   rw[A];exact K N
def nB(c:ar m s b)(l:b.length<=1000000000):oG 66 [O.v s] m b:=by
 apply nJ;intro d;have a:J m d:=(J.aA m).aH _;have g:gY m d aD 1 (.mk m.size 0 0 0) []:=gY.new (J.aA m) aD 1 [] 0 aL;have f:=c.len;refine gY.append (c:=[.i 0]) (h:=b.map Ce.i) g a (by simp[f]) (c.ext a).Ic bJ λr n a e h i j k=>⟨r,rfl,by simpa using a,e⟩
def Mg(h:ar m s b)(c:ar m t r)(p:b.length+r.length<=1000000000):oG 187 [O.v s,O.v t] m (b++r):=by
 apply uZ;refine(nB h V).then V λq w d e a=>⟨q,rfl,?_⟩;have i:=c.len;have o:=e.len;refine gY.append (c:=[.i 0]) (h:=r.map Ce.i) d a (by simp[i]) (c.ext a).Ic V λu v f g j k l n=>⟨u,rfl,by simpa using f,g⟩
def oD(d:ar m s b):dR cq 128 [O.v s] m (SA b):=by
 apply Ew;have g:=d.len;refine fm (n:=b.length) (g▸d.iC) (λk a=>J m a/\∀y∈b.take k,y=0) ⟨J.aA _,aL⟩ ?_;rintro k o I μ l ⟨a,f⟩ j
 refine⟨λh=>?_,λh=>jU (dy (by simp at h;omega) f) a⟩;simp only[aq]at h;let⟨x,e⟩:=cK b k;refine⟨V,V,x,by simpa using a.af (d.aG e),λc=>cT (λi=>?_) a,λc=>j V _ ⟨a,bY e f (by simpa using c)⟩⟩;have:=i x (au e);simp at c;omega
def Bi(d:ar m s b):dR cq 123 [O.v s] m (∀o∈b,0<=o):=by
 apply wT;have g:=d.len;refine fm (n:=b.length) (g▸d.iC) (λk a=>J m a/\∀y∈b.take k,0<=y) ⟨J.aA _,aL⟩ ?_;rintro k p I μ l ⟨a,f⟩ j
 refine⟨λh=>?_,λh=>jU (dy (by simp at h;omega) f) a⟩;simp only[aq]at h;let⟨x,e⟩:=cK b k;refine⟨V,V,x,by simpa using a.af (d.aG e),λc=>cT (λi=>?_) a,λc=>j V _ ⟨a,bY e f (by simpa using c)⟩⟩;have:=i x (au e);simp at c;omega
def qO(f:ar m s b)(j:ar m t r):dR cq 182 [O.v s,O.v t] m (b=r):=by
 apply Da;have l:=f.len;have q:=j.len;refine⟨λh=>cT (λe=>by subst e;simp at h;omega) (J.aA _),λh=>?_⟩;simp at h;refine fm (n:=b.length) (l▸f.iC) (λk a=>J m a/\b.take k=r.take k) ⟨J.aA _,aL⟩ ?_;rintro k u I μ p ⟨c,i⟩ o
 refine⟨λh=>?_,λh=>jU (by simp at h;rwa[cJ V,cJ V]at i) c⟩;simp only[aq]at h;let⟨x,g⟩:=cK b k;let⟨y,d⟩:=cK r k;refine⟨V,V,x,by simpa using c.af (f.aG g),V,V,y,by simpa using c.af (j.aG d),λa=>cT (λe=>?_) c,λa=>o V _ ⟨c,?_⟩⟩
 .subst e;rw[g]at d;simp at d;simp at a;exact a d
 .rw[bd g,bd d,i];simp at a;rw[a]
abbrev fv(f:aU)(r o h:O):Value:=.agg #[vi f.eg,vi f.pc,vi f.dst,O.v r,O.v o,O.v h]
abbrev xv(x:Instr)(a j:O):Value:=.agg #[vi x.op,vi x.dst,vi x.bQ,vi x.bM,O.v a,O.v j]
def Ev{f:aU}{r:O}(t:ar m r f.an)(g:ar m a x.args)(C:∀y∈x.args,0<=y/\y<f.an.length):
 dR cq 125 [fv f r o e,xv x a j] m (∀y∈x.args,aG f.an y<1000):=by
 apply y8
 simp -zeta only[aC,aB]
 intro w b
 have v:J m b:=((J.aA m).aH _).aH _
 have D:∀d∈[w.size,m.size],d<b.size:=by simp[b,w];omega
 have z:=g.len
 have K:=t.len
 clear_value b
 refine fm (n:=x.args.length) (z▸g.iC) (λl c=>J b c/\∀y∈x.args.take l,aG f.an y<1000) ⟨J.aA _,aL⟩ ?_
 rintro l L I μ H ⟨u,s⟩ F
 have i:=v.trans u
 refine⟨λh=>?_,λh=>jU (dy (by simp at h;omega) s) i⟩
 simp only[aq]at h
 let⟨y,c⟩:=cK x.args l
 have k:=C y (au c)
 refine⟨V,V,y,by simpa using i.af (g.aG c),k.1,V,aG f.an y,by simpa using i.af (t.pM k.1 k.2),?_⟩
 refine(fE _ _).aK u D λd M q G p=>⟨d,rfl,λB=>cT (λE=>?_) (v.trans p),λA=>F V _ ⟨p,bY c s ?_⟩⟩
 .have:=E y (au c);have:=q.1 B;omega
 .have:=fb q A;omega
def ph(b r:List Int):kY (b++r)=kY b++kY r:=by simp[kY]
def nZ(b:List Int):(kY b).length<=b.length:=List.length_filter_le _ _
def oR(f:ar m s b)(A:b.length<=100000000):oG 181 [O.v s] m (kY b):=by
 apply zm;intro g;have p:J m g:=(J.aA m).aH _;have u:gY m g aD 1 (.mk m.size 0 0 0) []:=gY.new (J.aA m) aD 1 [] 0 aL;have z:=f.len;clear_value g;refine dV (n:=b.length) V (λk s a=>J m a/\gY m a aD 1 s ((kY (b.take k)).map Ce.i)) ⟨p,by simpa[kY]using u⟩ ?_;rintro k s B I μ y ⟨d,c⟩ j
 refine dit (λo=>?_) λo=>?_
 .let⟨x,e⟩:=cK b k;refine⟨V,V,x,by simpa using d.af (f.aG e),?_⟩;refine(fE _ _).then λl C h a=>⟨l,rfl,λt=>?_,λq=>?_⟩
  .have i:=d.trans a;refine⟨V,V,x,by simpa using i.af (f.aG e),?_⟩;intro D;refine nX (c.ext a) i (by have:=nZ (b.take k);simp at this;omega) λr E v w=>j V _ _ ⟨w,?_⟩
   rw[bd e,ph];have:kY [x]=[x]:=by simp[kY,h.1 t]
   rw[this];exact v
  .refine j V _ _ ⟨d.trans a,?_⟩
   rw[bd e,ph];have:kY [x]=[]:=by simp[kY];have:=fb h q;omega
   rw[this,dO];exact c.ext a
 .rw[cJ V]at c;exact⟨s,rfl,c,d⟩
def sE{f:aU}{r:O}(l:ar m r f.an)(p:ar m s b)(x:∀y∈b,0<=y/\y<f.an.length)(G:b.length<=100000000):
 oG 183 [fv f r o e,O.v s] m (cN f b):=by
 apply Fl
 simp -zeta only[aC,aB]
 intro a j
 have q:J m a:=(J.aA m).aH _
 have w:J a j:=(J.aA a).aH _
 have A:gY a j aD 1 (.mk a.size 0 0 0) []:=gY.new (J.aA a) aD 1 [] 0 aL
 have z:∀u∈[m.size],u<a.size:=by simp[a]
 have F:=p.len
 have E:=l.len
 clear_value j
 clear_value a
 refine dV (n:=b.length) V (λk s c=>J a c/\gY a c aD 1 s ((cN f (b.take k)).map Ce.i)) ⟨w,by simpa[cN]using A⟩ ?_
 rintro k s H I μ D ⟨d,c⟩ B
 have g:=q.trans d
 refine dit (λv=>?_) λv=>?_
 .let⟨y,h⟩:=cK b k
  have i:=x y (au h)
  refine⟨V,V,y,by simpa using g.af (p.aG h),i.1,V,aG f.an y,by simpa using g.af (l.pM i.1 i.2),?_⟩
  intro K
  refine nX c d (by simp[cN];omega) λM L C t=>⟨J.tO (d.aH _) t z,B V _ _ ⟨t,?_⟩⟩
  rw[bd h]
  simpa[cN]using C
 .rw[cJ V]at c
  exact⟨s,rfl,c.cv q.size,g⟩
end
section
variable{g:E}{b:aU}{t v d p h u j:O}{s:St}{c:List Int}{q:Nat}{k:cg}{w:Int}{e:Nat->Int}{x:Instr}
def IF{e:O}(Q:ar g t b.an)(ho:ar g v b.aR){s:O}(D:ar g s c)(ad:∀y∈c,0<=y/\y<b.an.length)(an:b.an.length=b.aR.length)(ay:b.aR.length<=1000000)(aw:c.length<=1000000)
 (M:∀w∈b.aR,-1000000000<=w/\w<=1000000000):oG 69 [fv b t v e,O.v s] g (bB b.an b.aR c):=by
 apply CX
 simp -zeta only[aC,aB]
 intro p
 have E:J g p:=(J.aA g).aH _
 have H:∀G∈[g.size],G<p.size:=by simp[p]
 have ax:=D.len
 have av:=Q.len
 clear_value p
 refine(nB (ho.ext E) V).aK V H λx m2 o2 i2 Y=>⟨x,rfl,?_⟩
 have P:=i2.len
 have kL:∀(d F aR:List Int),bB b.an aR (d++F)=bB b.an (bB b.an aR d) F:=by
  intro d;induction d with
  |nil=>intro F aR;rfl
  |cons y d k=>intro F aR;simp only[cH,bB,k]
 have lo:∀(d aR:List Int)(A:Int),(∀w∈aR,A<=w)->∀w∈bB b.an aR d,A -d.length<=w:=by
  intro d;induction d with
  |nil=>intro aR A h w q;have:=h w q;simp;omega
  |cons y d k=>
   intro aR A h w q;simp only[bB]at q;have:=k _ (A -1) (λu j=>by
    split at j
    .rcases dJ (y.toNat<aR.length)with B|B
     .rcases pS j with j|j
      .have:=h _ (ij (i:=y.toNat) (a:=aG aR y) (by obtain⟨C,z⟩:=dZ B;rw[DQ z];exact z));omega
      .have:=h u j;omega
     .have z:gR aR y (aG aR y -1)=aR:=by unfold gR;rw[rU V]
      rw[z]at j;have:=h u j;omega
    .have:=h u j;omega) w q
   simp only[aV];omega
 refine fm (n:=c.length) V (λk j=>J p j/\gY p j aD 1 x ((bB b.an b.aR (c.take k)).map Ce.i)) ⟨Y,o2⟩ ?_
 rintro k m3 ak μ hk ⟨R,C⟩ U
 have K:=E.trans R
 refine dit (λh=>?_) λh=>?_
 .let⟨y,u⟩:=cK c k
  have j:=ad y (au u)
  have ao:=ka b.an (c.take k) b.aR
  refine⟨V,V,y,by simpa using K.af (D.aG u),j.1,V,aG b.an y,by simpa using K.af (Q.pM j.1 j.2),?_⟩
  refine(fE _ _).aK R H λG T N L B=>⟨G,rfl,λab=>?_,λZ=>?_⟩
  .have S:=E.trans B
   have I:=C.ext L
   have i4:ar T x (bB b.an b.aR (c.take k)):=ar.gK I V
   refine⟨V,V,y,by simpa using S.af (D.aG u),V,V,y,by simpa using S.af (D.aG u),j.1,V,aG (bB b.an b.aR (c.take k)) y,i4.pM j.1 V,j.1,V,?_⟩
   have aq:=lo (c.take k) b.aR (-1000000000) (λw q=>(M w q).1) _ (fq (l:=bB b.an b.aR (c.take k)) j.1 V)
   have al:aG (bB b.an b.aR (c.take k)) y<=1000000000:=by
    let⟨q',ai,am⟩:=lj (c.take k) b.aR y.toNat _ (oI (l:=bB b.an b.aR (c.take k)) j.1 V);have:=(M q' (au ai)).2;omega
   have ap:(c.take k).length<=1000000:=bJ
   rw[aP V V]
   rcases I.aG with ag|⟨q,X,tail,z,e2,e3,e4,e5⟩
   .rw[ag]at P;simp at P;omega
   .have ah:x.off=0:=by rw[z];rfl
    have aa:x.D=q:=by rw[z];rfl
    rw[ah,aa]
    have ac:0+y.toNat*1=y.toNat:=V
    rw[ac]
    have af:y.toNat<((bB b.an b.aR (c.take k)).map Ce.i).length:=bJ
    refine⟨e3.eC (by simp only[ba];omega),?_⟩
    intro m5
    have W:J p m5:=B.ag e2 _ _
    refine⟨J.tO B W H,U V _ ⟨W,?_⟩⟩
    rw[bd u,kL]
    simp only[bB,aj (N.1 ab)]
    refine⟨by rw[dW,jV,<-dW (f:=Ce.i)];exact I.len,Or.inr ⟨q,X,tail,z,e2,?_,?_,e5⟩⟩
    .have:=cw.ag (m:=T) (o:=y.toNat) (r:=[.i (aG (bB b.an b.aR (c.take k)) y -1)]) e3
     have z:js ((bB b.an b.aR (c.take k)).map Ce.i++tail) y.toNat [.i (aG (bB b.an b.aR (c.take k)) y -1)]=(gR (bB b.an b.aR (c.take k)) y (aG (bB b.an b.aR (c.take k)) y -1)).map Ce.i++tail:=by
      simp only[js,gR,ug];rw[MD _ _ af]
     rw[z]at this;exact this
    .simp only[ba,dW,jV]at e4⊢;exact e4
  .refine U V _ ⟨B,?_⟩
   rw[bd u,kL]
   simp only[bB,ae (fb N Z)]
   exact C.ext L
 .rw[cJ V]at C
  exact⟨x,rfl,C.cv E.size,K⟩
def fP{aW t x:O}(a:RV g q 2 d p aW t x k s)(L:1000<=w){c:bO}(j:s.heap[ix w]? =some c):
 aM cq 131 [vp q 0,vi w] g λD v=>∃b,D=.agg #[vi c.aQ,vi c.kG,O.v b]/\ar v b c.aN/\J g v:=by
 apply uA (q,0)
 simp -zeta only[aC,aB]
 intro B
 have f:J g B:=(J.aA g).aH _
 have l:=dF.ext f a.heap
 let⟨b,G,r,g1,g2⟩:=l.aG j
 have I:=l.len
 have K:=l.iC
 have A:=az j
 unfold ix at A r g1 g2
 have e:cR (w -1000)=w -1000:=aP V V
 rw[e]
 refine⟨t,f.af a.rB,V,V,c.aQ,r,c.kG,g1,b,g2,?_⟩
 intro C
 have m:J g C:=f.ag (ad _) _ _
 let⟨o,y,M,N,u⟩:=(dF.ext m a.heap).aG j
 unfold ix at u
 have z:o=b:=by
  have F:=f.af (a.rB);obtain⟨E,H,_,_,n⟩:=a.heap.aG j;unfold ix at n;have h:=f.af n;have i:=m.af n;rw[g2]at h;rw[u]at i;simp at h i;rw[O.Hl]at h i;rw[h,i]
 subst z
 exact⟨o,rfl,y,m⟩
def uY{aW L D:O}(C:RV g q 2 d p aW L D k s)(G:fL s.heap e){B:O}(o:ar g B c)(I:∀w∈c,gC s.heap w)(Y:c.length<=1000000):
 dR cq 180 [vp q 0,O.v B] g (lz s.heap c):=by
 apply sD (q,0)
 have X:=o.len
 refine fm (n:=c.length) V (λr a=>J g a/\∀w∈c.take r,1000<=w->(aI s.heap w).aQ+eQ c (ix w)<=999999) ⟨J.aA _,aL⟩ ?_
 rintro r Z P μ T ⟨y,v⟩ N
 refine⟨λh=>?_,λh=>jU (dy (by simp at h;omega) v) y⟩
 simp only[aq]at h
 let⟨x,l⟩:=cK c r
 have m:=I x (au l)
 have M:=iV m.1
 refine dV (n:=c.length) V (λj(z:Int) a=>J g a/\z=eQ (c.take j) (ix x)) ⟨y,by simp[eQ]⟩ ?_
 rintro j z m2 Q μ2 S ⟨f,rfl⟩ A
 refine dit (λE=>?_) λE=>?_
 .let⟨u,t⟩:=cK c j
  have K:=lY (c.take j) (ix x)
  have H:=iU (c.take j) (ix x)
  have F:(c.take j).length<=1000000:=bJ
  have i:eQ (c.take (j+1)) (ix x)=eQ (c.take j) (ix x)+if u=x then 1 else 0:=by
   rw[bd t,lX];simp only[eQ,M];omega
  refine⟨V,V,u,by simpa using f.af (o.aG t),V,V,x,by simpa using f.af (o.aG l),λa=>A V _ _ ⟨f,?_⟩,λa=>A V _ _ ⟨f,?_⟩⟩
  .simp at a;rw[i,aj a];exact aP V V
  .simp at a;rw[i,ae a];omega
 .rw[cJ V]
  have K:=lY c (ix x)
  have H:=iU c (ix x)
  let⟨u,W⟩:=bZ m
  have U:=(G.cell _ (au u)).hi
  refine⟨V,V,x,by simpa using f.af (o.aG l),?_⟩
  refine(fP (C.ext f) m.1 u).mono ?_
  rintro _ m3 ⟨b,rfl,R,a⟩
  have t:cR ((aI s.heap x).aQ+eQ c (ix x))=(aI s.heap x).aQ+eQ c (ix x):=aP V V
  refine⟨_,_,_,rfl,λi=>cT (λF=>?_) (f.trans a),λi=>N V _ ⟨f.trans a,bY l v λ_=>?_⟩⟩
  .have:=F x (au l) m.1
   rw[t]at i;simp at i;omega
  .rw[t]at i;simp at i;omega
def tv{h:List bO}:lz h (kY c)<->lz h c:=by
 unfold lz;constructor
 .intro b w d a;have:=b w (lF.2 ⟨d,a⟩) a;rwa[wA]at this
 .intro b w d a;rw[wA];exact b w (lF.1 d).1 a
def Vn{s:O}(h:ar g s c)(p:1<=c.length):ar g (O.cut s 1 s.len 1) (c.drop 1):=by
 have b:=h.len;have i:=h.cap;have l:=h.iC;cases s with
 |nil=>simp at b;omega
 |zT d v a=>simp at b;omega
 |mk d v r o=>
  simp at b i l;refine⟨by simp[O.cut];omega,by simp[O.cut];omega,by simp[O.cut];omega,λn x a=>?_⟩;rw[sG]at a;have q:=az a;let⟨f,j,jm⟩:=h.iF (1+n) x a;refine⟨f,j,λm e k=>?_⟩;have:=jm m e k;simp only[O.cut,O.jB,O.tH]at this⊢;rw[ae V];rw[<-this];congr 1;omega
def gN.pW(h:gN k b){t:Int}(d:0<=t)(e:t<b.an.length)(f:∀w∈b.an,w<=9223372036854775807): -9223372036854775808<=aG b.an t/\aG b.an t<=9223372036854775807:=by
 have c:=fq (l:=b.an) d e;refine⟨?_,f _ c⟩;rcases h.Sn _ c with a|a
 .have:=a.1;omega
 .omega
def J7{aW hp fr:O}(z:RV g q 2 d p aW hp fr k s)(M:fL s.heap e)(P:ar g t b.an)(N:ar g h b.aY)(r:ar g u x.args)
 (L:gN k b)(ai:∀w∈b.an,w<=9223372036854775807)(Z:∀l∈x.args,0<=l/\l<b.an.length)(ax:1<=x.args.length/\x.args.length<=4)(ay:x.op=16\/x.op=17):
 dR cq 132 [vp q 0,fv b t v h,xv x u j] g (Fy s.heap b x):=by
 apply tV (q,0)
 simp -zeta only[aC,aB]
 intro m1 F
 have a:J g F:=((J.aA g).aH _).aH _
 have m:∀i∈[m1.size,g.size],i<F.size:=by simp[F,m1];omega
 have ap:=r.len
 have aA:=P.len
 have aw:=N.len
 have ao:=r.cap
 clear_value F
 have c:0<=aG x.args 0/\aG x.args 0<b.an.length:=Z _ (fq V V)
 have R:aG x.args 0<b.aY.length:=by have:=L.lr;have:=L.lh;omega
 have al:=L.pW c.1 c.2 ai
 refine⟨V,V,aG x.args 0,(r.ext a).pM V V,c.1,V,aG b.an (aG x.args 0),(P.ext a).pM c.1 c.2,hp,a.af z.rB,?_⟩
 unfold Fy
 simp only[]
 generalize aD:aG b.an (aG x.args 0)=w at*
 refine(lH (dF.ext a z.heap) al).aK (J.aA _) m λi m3 y B _=>⟨i,rfl,λah=>cT (λf=>nb y ah f.1) (a.trans B),λag=>?_⟩
 have n:=yb y ag
 let⟨C,az⟩:=bZ n
 have aq:=(M.cell _ (au C)).fl
 have am:=a.trans B
 refine((fP (z.ext am) n.1 C)).aK B m ?_
 rintro _ m4 ⟨fl,rfl,aj,U⟩
 have S:=B.trans U
 refine⟨U,_,_,_,rfl,(oR aj V).aK (oh (nZ (aI s.heap w).aN)) (λi y=>S.lt (m i y)) λps m5 o5 i5 h5=>⟨ps,rfl,V,V,V,?_⟩⟩
 have G:=S.trans h5
 have aa:=a.trans G
 have e1:(Int.toNat (1:Int))=1:=rfl
 have e2:(Int.toNat (u.len:Int))=u.len:=V
 rw[e1,e2]
 refine(sE (P.ext aa) (Vn (r.ext aa) V) (λl o=>Z l (xg o)) bJ).aK (by simp[cN];omega) (λi y=>G.lt (m i y)) λqs m6 o6 i6 I=>⟨qs,rfl,?_⟩
 have ab:=G.trans I
 refine(qO (i5.ext I) i6).aK ab m λb2 m7 W h7 A=>⟨b2,rfl,λad=>?_,λac=>cT (λf=>fb W ac f.2.1) (a.trans A)⟩
 have D:=W.1 ad
 refine(fP (z.ext (a.trans A)) n.1 C).aK A m ?_
 rintro _ m8 ⟨an,rfl,av,K⟩
 have H:=A.trans K
 refine⟨K,_,_,_,rfl,λo=>?_,λo=>?_⟩
 .simp at o
  have E:=a.trans H
  refine⟨λl=>jU ⟨n,D,Or.inl o,λe=>by simp at l;omega⟩ E,λl=>⟨V,V,aG x.args 0,(r.ext E).pM V V,c.1,V,aG b.aY (aG x.args 0),(N.ext E).pM c.1 R,fI ?_ E⟩⟩
  simp only[aE,ak,ne_eq]at l⊢
  exact⟨λQ=>⟨n,D,Or.inl o,λ_=>Q⟩,λf=>f.2.2.2 V⟩
 .simp at o
  refine(uY (z.ext (a.trans H)) M (i5.ext ((I.trans h7).trans K)) (λT E=>M.field (au C) (lF.1 E).1 (lF.1 E).2) (oh (nZ (aI s.heap w).aN))).aK H m λb3 m9 X h9 T=>⟨b3,rfl,λaf=>?_,λae=>cT (λf=>?_) (a.trans T)⟩
  .have Y:=tv.1 (X.1 af)
   have E:=a.trans T
   refine⟨λl=>jU ⟨n,D,Or.inr Y,λe=>by simp at l;omega⟩ E,λl=>⟨V,V,aG x.args 0,(r.ext E).pM V V,c.1,V,aG b.aY (aG x.args 0),(N.ext E).pM c.1 R,fI ?_ E⟩⟩
   simp only[aE,ak,ne_eq]at l⊢
   exact⟨λQ=>⟨n,D,Or.inr Y,λ_=>Q⟩,λf=>f.2.2.2 V⟩
  .rcases f.2.2.1 with l|l
   .exact o l
   .exact fb X ae (tv.2 l)
def Iw{aW P Z:O}(b:RV g q 2 d p aW P Z k s)(G:iE k)(D:fL s.heap e)(hw: -9223372036854775808<=w/\w<=9223372036854775807):
 dR cq 129 [vp q 0,vi w] g (vS k s.heap w):=by
 apply ta (q,0)
 simp -zeta only[aC,aB]
 refine⟨P,b.rB,(lH b.heap hw).then λi m1 x C=>⟨i,rfl,λai=>cT (λa=>nb x ai a.1) C,λah=>?_⟩⟩
 have z:=yb x ah
 let⟨F,al⟩:=bZ z
 have K:=D.cell _ (au F)
 have aE:=(K.rp al).2
 refine(fP (b.ext C) z.1 F).mono ?_
 rintro _ f ⟨B,rfl,N,j⟩
 refine⟨_,_,_,rfl,?_⟩
 intro T h
 have an:=C.trans j
 have H:J f h:=((J.aA f).aH _).ag (ad _) _ _
 have s4:h.size=f.size+1:=by simp[h,T,aw]
 have hB:af h f.size 1=some (vi (aI s.heap w).kG):=(cw.ag (m:=T) (o:=0) (r:=[.i (aI s.heap w).aQ,.i (aI s.heap w).kG,.s B]) (cw.push f _ _)).bU 1
 have y:∀i∈[f.size],i<h.size:=by simp[s4]
 clear_value h
 have c:=an.trans H
 have L:=b.ext c
 have aD:=b.fA.cC.len
 have aA:=G.ni.len
 have aq:(eP k.bn).length<=12:=by
  have:=ry G.ni.types k.bn.length;rw[mV _ _ (ad _)]at this;exact this
 refine⟨d,L.bn,(qM L.fA.bn G.ni.types).aK (J.aA _) y λm5 t _=>⟨_,rfl,t.cr hB,p,(b.ext (c.trans t)).cC,?_⟩⟩
 have aF:=c.trans t
 have W:cR ((aI s.heap w).kG -((eP k.bn).length:Int))=(aI s.heap w).kG -bH k:=aP V V
 have X:cR ((p.len:Int) -1)=(p.len:Int) -1:=aP V V
 rw[W,X]
 refine(bF _ _ _ _).aK t y λb2 m6 M h6 l=>⟨b2,rfl,λae=>?_,λac=>cT (λa=>fb M ac ⟨a.2.1,oh a.2.2.1⟩) (c.trans l)⟩
 have R:=M.1 ae
 have A:=c.trans l
 have E:=b.ext A
 let⟨ao,Q⟩:=cK k.cC (((aI s.heap w).kG -bH k).toNat)
 have am:dC k ((aI s.heap w).kG -bH k)=ao:=by simp[dC,Q]
 obtain⟨U,l',c',ab,ak,av,g0,g1,_⟩:=E.fA.cC.aG Q
 have ar:=ab.len
 have az:=ak.len
 have ay:=N.len
 have ax:=K.fl
 have Y:cR ((B.len:Int)+1)=(B.len:Int)+1:=aP V V
 rw[Y]
 unfold vS
 rw[am]
 refine⟨p,E.cC,V,V,U,g0,λu=>⟨p,E.cC,V,V,l',g1,λv=>⟨λn=>?_,λn=>?_⟩,λv=>cT (λa=>?_) A⟩,λu=>cT (λa=>?_) A⟩
 .simp at u v n
  exact jU ⟨z,R.1,V,V,V,Or.inl n⟩ A
 .simp at u v n
  refine(oR (N.ext (H.trans l)) V).aK (oh (nZ (aI s.heap w).aN)) (λi x=>l.lt (y i x)) λps m7 o7 i7 aa=>⟨ps,rfl,?_⟩
  have I:=l.trans aa
  refine(uY (b.ext (c.trans I)) D i7 (λag S=>D.field (au F) (lF.1 S).1 (lF.1 S).2) (oh (nZ (aI s.heap w).aN))).aK I y λb3 m8 ag ap S=>⟨b3,rfl,fI ?_ (c.trans S)⟩
  rw[ag,tv]
  refine⟨λaj=>⟨z,R.1,V,V,V,Or.inr aj⟩,λa=>?_⟩
  rcases a.2.2.2.2.2 with j|j
  .exact absurd j n
  .exact j
 .have:=a.2.2.2.2.1;simp at v;omega
 .have:=a.2.2.2.1;simp at u;omega
def Ix{aW M E:O}(C:RV g q 2 d p aW M E k s)(B:ar g h b.aY)(G:ar g u x.args)(T:0<=x.bM/\x.bM<=b.aY.length)(U:b.aY.length<=1000000)
 (K:∀w∈b.aY,w≠0->1000<=w/\∃o,s.heap[ix w]? =some o):
 dR cq 126 [vp q 0,fv b t v h,xv x u j] g (FA s.heap b x):=by
 apply tc (q,0)
 simp -zeta only[aC,aB]
 intro n f
 have c:J g f:=((J.aA g).aH _).aH _
 have L:∀D∈[n.size,g.size],D<f.size:=by simp[f,n];omega
 have F:af f n.size 4=some (O.v u):=(cw.push n _ _).bU 4
 have Q:=G.len
 have S:=B.len
 clear_value f
 unfold FA
 refine⟨λm=>jU (λr=>absurd (by simpa using m) r) c,λm=>?_⟩
 simp at m
 have e:cR (x.bM -1)=x.bM -1:=aP V V
 rw[e]
 have A:=(B.ext c).pM (i:=x.bM -1) V V
 refine⟨V,V,aG b.aY (x.bM -1),A,λa=>jU (λ_ r=>absurd (by simpa using a) r) c,λa=>?_⟩
 simp at a
 let⟨N,o,z⟩:=K _ (fq (l:=b.aY) (i:=x.bM -1) V V) a
 refine⟨V,V,aG b.aY (x.bM -1),A,(fP (C.ext c) N z).aK (J.aA _) L ?_⟩
 rintro _ W ⟨P,rfl,I,r⟩
 have R:=I.len
 have H:aI s.heap (aG b.aY (x.bM -1))=o:=by simp[aI,z]
 refine⟨r,_,_,_,rfl,r.cr F,fI ?_ (c.trans r)⟩
 rw[H]
 simp
 exact⟨λy _ _=>V,λy=>oh (y m a)⟩
def qY(k:cg)(x:Instr):∀(c t:List Int)(a:Nat),fG k x a (c++t)=fG k x a c++fG k x (a+c.length) t
 |[],t,a=>by simp[fG]
 |u::c,t,a=>by
  have:=qY k x c t (a+1);simp only[cH,fG,this,aV];have e:a+(c.length+1)=a+1+c.length:=V;rw[e];split<;>simp
def wP{aW l Y:O}(o:RV g q 2 d p aW l Y k s)(R:ar g t b.an)(D:ar g u x.args)(Z:gN k b)(af:∀w∈b.an,w<=9223372036854775807)
 (ag:∀y∈x.args,0<=y/\y<b.an.length)(hc:zG k x)(ai:x.op=9\/x.op=24):
 dR cq 127 [vp q 0,fv b t v h,xv x u j] g (KF k s.heap b x):=by
 apply sZ (q,0)
 simp -zeta only[aC,aB]
 intro W i
 have G:J g i:=((J.aA g).aH _).aH _
 have F:∀r∈[W.size,g.size],r<i.size:=by simp[i,W];omega
 have aa:=D.len
 have al:=R.len
 clear_value i
 refine fm (n:=x.args.length) (aa▸D.iC) (λa c=>J i c/\∀y∈fG k x 0 (x.args.take a),1000<=aG b.an y->gC s.heap (aG b.an y)) ⟨J.aA _,by simp[fG]⟩ ?_
 rintro a m3 ak μ hk ⟨T,Q⟩ I
 have m:=G.trans T
 refine⟨λh=>?_,λh=>jU (by simp at h;rwa[cJ V]at Q) m⟩
 simp only[aq]at h
 let⟨y,H⟩:=cK x.args a
 have f:=ag y (au H)
 have C:=o.ext m
 have S:fG k x 0 (x.args.take (a+1))=fG k x 0 (x.args.take a)++fG k x a [y]:=by
  rw[bd H,qY];congr 2;simp;omega
 have E:(nI k x a=true->1000<=aG b.an y->gC s.heap (aG b.an y))->∀z∈fG k x 0 (x.args.take (a+1)),1000<=aG b.an z->gC s.heap (aG b.an z):=λhh z c=>by
  rw[S]at c;rcases List.mem_append.1 c with c|c
  .exact Q z c
  .simp only[fG]at c;split at c
   .rename_i e;simp at c;subst c;exact hh e
   .simp at c
 have ah:nI k x a=true->y∈fG k x 0 x.args:=λe=>by
  have X:x.args=x.args.take (a+1)++x.args.drop (a+1):=(dm _ _).symm;rw[X,qY,S];refine bL _ (fK _ ?_);simp only[fG];rw[aj e];simp
 refine⟨V,V,y,by simpa using m.af (D.aG H),f.1,V,aG b.an y,by simpa using m.af (R.pM f.1 f.2),d,C.bn,p,C.cC,?_⟩
 refine(sB C.fA hc u j a).aK T F λr m4 M h4 K=>⟨r,rfl,λae=>?_,λad=>I V _ ⟨K,E λe=>absurd ⟨ai,e⟩ (fb M ad)⟩⟩
 have e:=(M.1 ae).2
 refine(fE _ _).aK K F λb2 m5 N h5 A=>⟨b2,rfl,λac=>?_,λab=>I V _ ⟨A,E λ_ l=>absurd l (fb N ab)⟩⟩
 have U:=G.trans A
 refine⟨l,(o.ext U).rB,(lH (dF.ext U o.heap) (Z.pW f.1 f.2 af)).aK A F λb3 m6 P h6 L=>⟨b3,rfl,λB=>cT (λhM=>nb P B (hM y (ah e) (N.1 ac))) (G.trans L),λB=>I V _ ⟨L,E λ_ _=>yb P B⟩⟩⟩
end
end Go.Proofs.YtkoifinbblcbiaaGreat
