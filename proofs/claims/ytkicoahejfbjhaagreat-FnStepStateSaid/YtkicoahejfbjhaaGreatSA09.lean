/- Part of a proof. -/
import Derived.Test.YtkicoahejfbjhaaGreatSA07
import Derived.Test.YtkicoahejfbjhaaGreatSA08
set_option linter.all false
set_option maxHeartbeats 8000000
set_option maxRecDepth 100000
namespace Go.Proofs.YtkicoahejfbjhaaGreat
open Go.Vc
section
variable{e:List Nat}{c:E}{d f:O}{g:List gN}{W:Nat}
def Ie(F:∀a∈e,a<c.size){j:List bz}(p:eK c d f j g)(hW:W<=400000)(Z:yi j g True W):uP 211 [.agg #[O.v d,O.v f]] c e j λw=>yi j w True (W*W):=by
 apply Ar;simp -zeta only[aC,aB];intro b a2;let⟨z,u⟩:=dD (a:=b) (c:=a2) rfl rfl;have s1:b.size=c.size+1:=by simp[b]
 clear_value a2;have ai:=p.iT.len;have ar:=p.oA;refine(fU (b:=b.size::e) (bO F z.size (u _ aL)) (p.le z.le).bo p.types).mono λ_ K⟨ab,k,ad,A⟩=>?_;subst k;refine⟨A.dv u,_,rfl,?_⟩;intro L am aa;have u2:=z.trans A;let⟨x5,B0,g0,s3,s5⟩:=kW (b:=L.size::b.size::e) iQ.mono (d:=K) (a:=L) (c:=am) (h:=aa) rfl rfl rfl;clear_value aa;have v:∀a∈[b.size,c.size],a<K.size:=λa i=>A.lt (u a i);have H:∀a∈b.size::e,a<K.size:=λa i=>A.lt (bO F z.size (u _ aL) a i);refine kQ (R:=λh o M=>∃d f w,Value.agg #[O.v h,O.v o]=.agg #[O.v d,O.v f]/\eK (bG e M) d f j w/\yi j w True (W*W)/\J c M) (r:=g.length) (f:=c) (b:=e) iQ.mono bh bh F ⟨V,v _ aL⟩ u2 s3 ad ai V x5 B0 g0 (λ_ q=>q.params.length<=3/\q.cR.length<=3/\WB j g.length True q.params.length q.body/\q.body.w<=W*W) (λh t I x U X o r s=>⟨h,t,I,rfl,⟨U,X,p.types,V⟩,HN Z.iV o r,s⟩) λal M st I ao μ ae ap B T C an=>?_
 let⟨q,hq⟩:=cG g al ae;let⟨ah,ag,ak,hw⟩:=Z.dz q (aq hq);have y:=u2.trans B;let⟨au,av,h,c1,c2,c3,N,P,Q,D,E⟩:=p.iT.aF hq;have G:∀{x:Value}{h r:Nat},af c h r=some x->af M h r=some x:=λt=>y.af t;refine⟨st,C.bZ 1,V,V,_,G N,_,G P,_,G Q,_,G D,_,G E,V,V,_,G D,_,G E,?_⟩;have hy:=T.bn;have ac:=C.lt;have zM:=B.size;refine(Em q.body (st.D::L.size::b.size::e) M (λa i=>?_) h q.params.length (c3.le y.le) ak V).aH B v λss b' M1 aj Y o u1=>⟨_,_,rfl,?_⟩
 .simp only[aV]at i;rcases i with k|k|k|k
  .omega
  .omega
  .have:=H a (by simp[k]);omega
  .have:=H a (by simp[k]);omega
 have s:∀{x:Value}{h r:Nat},af c h r=some x->af M1 h r=af M h r:=λt=>by rw[o.af (G t),G t]
 refine⟨s N,s P,s Q,s D,s E,aJ (o.same _ (B.lt (v _ aL))) _,aJ (o.same _ ac) _,?_⟩;exact vR (b:=b.size::e) (v:=ab) (x:=I) H (λa i=>by have U:=v a i;have X:=u1.size;omega) u1 (T.ext iQ.mono o) (C.ext o) V (c1.ext (y.trans o)) (c2.ext (y.trans o)) aj ⟨V,V⟩ V λs' X g' U x'=>an s' X _ g' U x' ⟨ah,ag,Y.1,bH Y.2 (P4 hw)⟩
def XH(b:Bk):Prop:=∀(e:List Nat)(c:E),(∀a∈e,a<c.size)->∀t:O,eO c t b.aD->b.w<=10^12->ns 289 [.agg #[O.v t,vi b.aS]] c e (b=·)
def xY(H:∀i∈e,i<c.size){z B:O}{x:cV}(I:ap c z x.args)(u:nD c B x.bC)(hw:x.w<=10^12)(P:∀h∈x.bC,XH h):Km 320 [oW x z B] c e (x=·):=by
 apply Cw;simp -zeta only[aC,aB];intro d a y;let⟨D,v⟩:=dD (a:=d) (c:=a) rfl rfl;have R:d.size=c.size+1:=by simp[d]
 have s1:a.size=c.size+2:=by simp[a,R]
 have S:J a y:=J.push _ _;have F:GB (d.size::e) a y (.mk a.size 0 0 0) []:=GB.new _ a;clear_value y;clear_value a;have r:∀i∈d.size::e,i<a.size:=bO H D.size (v _ aL);have K:=u.len;have aa:=cV.mr x;have Y:=qb x.bC;refine ez (n:=x.bC.length) (K▸u.gS) (λw s M=>J a M/\GB (d.size::e) a M s (x.bC.take w)) ⟨S,F⟩ ?_;rintro w s p U μ hj ⟨m,o⟩ Q
 have l:=D.trans m;have k:∀h∈[d.size,c.size],h<p.size:=λh j=>m.lt (v h j);have N:=o.bn;have T:=m.size;refine dit (λG=>?_) λG=>?_
 .let⟨h,j⟩:=cG x.bC w;let⟨tb,M,A,E⟩:=u.aF j;have Z:=wJ j;refine⟨V,V,_,l.af A,_,l.af E,?_⟩;refine(P h (aq j) (s.D::d.size::e) p (bO r T N.2) tb (M.le l.le) V).aH (J.az p) k λss X C L q g _=>⟨_,_,rfl,?_⟩;subst q;refine GB.kH (c:=h) (o.ext rH.mono g) ((m.trans g).fz []) L bE λf W g2 t z2 q2=>⟨J.oE ((m.trans g).aK _) t.ext v,Q V _ _ ⟨t.ext,?_⟩⟩;rw[aU j];exact g2
 .rw[bX V]at o;refine(bN (d.size::e) (I.ext l) V).aH (J.az p) k λM W C E q g _=>⟨_,rfl,aJ (g.same _ (k _ aL)) _,aJ (g.same _ (k _ aL)) _,aJ (g.same _ (k _ aL)) _,?_⟩;subst q;intro L;have A:Le (bG (d.size::e) C) (bG e L):=cA aL λi t=>ai _ t;exact⟨M,s,x,rfl,(E.done (λi t=>oh (r i t)) V).le A,nD.le A ((o.ext rH.mono g).done rH.mono r bh V),rfl,(l.trans g).ah V _ _⟩
def vZ:∀j:Bk,XH j:=by
 refine Bk.ind ?_;intro aD h ih e c W al z hw;rw[Bk.qG]at hw;simp only[Bk.jS,Bk.ju]at*;apply ru;simp -zeta only[aC,aB];intro f b d C q;let⟨I,y⟩:=dD (a:=f) (c:=b) rfl rfl;have s0:f.size=c.size+1:=by simp[f]
 have s1:b.size=c.size+2:=by simp[b,s0]
 have s2:d.size=b.size+1:=by simp[d]
 have s3:C.size=d.size+1:=by simp[C]
 have K:J d q:=(J.push d _).ah (ad _) _ _;have ag:J b q:=(J.push b _).trans K;have x:GS (d.size::f.size::e) b q (.mk b.size 0 0 0) []:=(GS.new _ b).ext gD.mono K;have N:cE q d.size di [.s (.mk b.size 0 0 0),.i h]:=cE.ah (m:=C) (o:=0) (r:=[.s (.mk b.size 0 0 0),.i h]) (cE.push d _ _);clear_value q;have F:∀u∈f.size::e,u<b.size:=bO W I.size (y _ aL);have ae:=z.len;have aj:=fY aD;refine dU (n:=aD.length) (ae▸z.gS) (λA M=>J b M/\∃s,GS (d.size::f.size::e) b M s (aD.take A)/\cE M d.size di [.s s,.i h]) ⟨ag,_,x,N⟩ ?_;rintro A D ah μ hk ⟨w,s,l,B⟩ af
 have g:=I.trans w;have ac:∀j∈[f.size,c.size],j<D.size:=λj Y=>w.lt (y j Y);have hy:=l.bn;have z5:=w.size;have E:=B.lt;refine dit (λU=>?_) λU=>?_
 .let⟨H,v⟩:=cG aD A;let⟨pa,pk,X,ab,x,g1,g2,R,T⟩:=z.aF v;have ak:=OS v;refine⟨s,B.bZ 0,V,V,_,g.af x,_,g.af g1,_,g.af g2,_,g.af R,_,g.af T,?_⟩;refine(xY (e:=s.D::d.size::f.size::e) (bO (bO F z5 E) (ad _) hy.2) (X.ext g) (ab.le g.le) V (ih H (aq v))).aH (J.az D) ac λM O x' G Z aa k t _=>⟨_,_,_,_,_,rfl,aJ (t.same _ E) _,?_⟩;subst k;intro m7;refine Gr.box (g:=[.i 0,.i 0,.i 0,.s .nil,.s .nil]) (j:=0) (i:=[.s s,.i h]) (w:=H) gD.mono bh (l.ext gD.mono t) ((w.trans t).fz []) ⟨M,O,rfl,Z,aa⟩ bE (B.ext t) aL bh ⟨V,aL⟩ (λu p=>by have L:=y u p;have P:=t.size;omega) λr' m' Q L P z' q'=>af V _ ⟨P.ext,r',?_,L⟩
  rw[aU v];exact Q
 .rw[bX V]at l;refine⟨s,B.bZ 0,h,B.bZ 1,?_⟩;intro G;have v:=l.ne B bh;have t:Le (bG (d.size::f.size::e) D) (bG e G):=cA aL λu p=>ai _ (ai _ p);refine⟨s,.mk aD h,rfl,eO.le t (l.nF gD.mono (λp=>?_) bh (by show aD.length<=_;omega)),rfl,g.ah V _ _⟩;rcases List.mem_cons.1 p with k|k
  .exact v k
  .have:=F _ k;omega
def Zv(b:Bk):Prop:=∀(c:E)(t:O)(f:Int),eO c t b.aD->oJ 321 [.agg #[O.v t,vi b.aS],vi f] c
def JH:∀b:Bk,Zv b:=by
 refine Bk.ind ?_;intro aD Y G c t s m;simp only[Bk.jS,Bk.ju]at*;apply Ct;simp -zeta only[aC,aB];intro g;have A:J c g:=J.push _ _;have D:∀b∈[c.size],b<g.size:=by simp[g]
 clear_value g;have F:=m.len;refine dU (n:=aD.length) (F▸m.gS) (λ_ M=>J g M) (J.az _) ?_;rintro k o I μ X r N
 have h:=A.trans r;refine⟨λj=>?_,λ_=>rA h⟩;simp only[ar]at j;let⟨x,v⟩:=cG aD k;let⟨pa,w,U,l,B,g1,g2,T,u⟩:=m.aF v;have C:=l.len;have L:∃(i:Int->E->Prop)(μ0_1:Int->E->Nat),i (0:Int) o/\(∀(a:Int)(M:E),i a M->
  (0:Int)<=(k:Int)/\(k:Int)<(t.len:Int)/\∃q:O,af M t.D (t.off+Int.toNat (k:Int)*5+4)=some (O.v q)/\
  ((decide (a<(q.len:Int)))=true->(0:Int)<=(k:Int)/\(k:Int)<(t.len:Int)/\∃d:O,af M t.D (t.off+Int.toNat (k:Int)*5+4)=some (O.v d)/\
   (0:Int)<=a/\a<(d.len:Int)/\∃y:O,af M d.D (d.off+Int.toNat a*2)=some (O.v y)/\∃z:Int,af M d.D (d.off+Int.toNat a*2+1)=some (vi z)/\
   aN cg 321 [.agg #[O.v y,vi z],vi s] M λf e=>eF [c.size] M e/\∃p:Bool,f=vb p/\(p=true->∃b:Bool,vb true=.bool b/\J c e)/\(p=false->i (cT (a+(1:Int))) e/\μ0_1 (cT (a+(1:Int))) e<μ0_1 a M))/\
  ((decide (a<(q.len:Int)))=false->I (cT ((k:Int)+(1:Int))) M/\μ (cT ((k:Int)+(1:Int))) M<μ k o)):=by
  refine dU (n:=x.bC.length) (C▸l.gS) (λ_ M=>J o M) (J.az _) ?_
  rintro H M R μ2 W d K
  have a:=h.trans d
  refine⟨V,V,w,a.af u,λj=>?_,λ_=>N V _ (r.trans d)⟩
  simp only[ar]at j
  let⟨b,p⟩:=cG x.bC H
  let⟨tb,z,q,y⟩:=l.aF p
  refine⟨V,V,w,a.af u,V,V,_,a.af q,_,a.af y,?_⟩
  exact(G x (aq v) b (aq p) M tb s (z.le a.le)).aH (r.trans d) D λS e Q P=>⟨_,rfl,λ_=>rA (A.trans P),λ_=>K V _ (d.trans Q)⟩
 exact⟨V,V,_,h.af B,λ_=>⟨V,V,_,h.af g1,λ_=>rA h,λ_=>L⟩,λ_=>L⟩
def JO{o:List bz}(h:eK c d f o g)(i:Int):oJ 290 [.agg #[O.v d,O.v f],vi i] c:=by
 apply CI;simp -zeta only[aC,aB];intro a;have k:J c a:=J.push _ _;have s:∀e∈[c.size],e<a.size:=by simp[a]
 clear_value a;have H:=h.iT.len;have G:=h.oA;refine dU (n:=g.length) V (λ_ M=>J a M) (J.az _) ?_;rintro u v I μ F l w
 have b:=k.trans l;refine⟨λr=>?_,λ_=>rA b⟩;simp only[ar]at r;let⟨x,t⟩:=cG g u;let⟨K,L,e,A,B,m,C,D,E,p,q⟩:=h.iT.aF t;exact⟨V,V,_,b.af p,_,b.af q,(JH x.body v e i (m.le b.le)).aH l s λz y M j=>⟨_,rfl,λ_=>rA (k.trans j),λ_=>w V _ j⟩⟩
abbrev Zg(e:List Nat)(a c:E)(s:O)(l:List (List Int)):Prop:=Gr e a c xK 1 mM s l
def Gj(Z:∀a∈e,a<c.size){R:List bz}(o:eK c d f R g)(hp:∀y∈g,y.params.length<=3):
 aN cg 255 [.agg #[O.v d,O.v f]] c λae G=>∃s l,ae=O.v s/\oX (bG e G) s l/\l.length=g.length/\(∀a∈l,a.length<=3)/\J c G:=by
 apply yH
 simp -zeta only[aC,aB]
 intro b x
 have N:J c b:=J.push _ _
 have v:∀z∈[c.size],z<b.size:=by simp[b]
 have af:J b x:=J.push _ _
 have W:Zg e b x (.mk b.size 0 0 0) []:=Gr.new e (ad _) _ _ _
 clear_value x
 clear_value b
 have aj:=o.iT.len;have ai:=o.oA
 have C:∀a∈e,a<b.size:=λa u=>N.lt (Z a u)
 refine ez (n:=g.length) V (λk s M=>J b M/\∃l,Zg e b M s l/\l.length=k/\∀a∈l,a.length<=3) ⟨af,[],W,rfl,aL⟩ ?_
 rintro k s H P μ hk ⟨r,l,t,ag,B⟩ aa
 have q:=N.trans r
 have h:=t.bn
 refine dit (λY=>?_) λY=>?_
 .let⟨y,D⟩:=cG g k
  let⟨ab,ak,z,Q,c2,c3,T,e1,e2,e3,e4⟩:=o.iT.aF D
  have ah:=hp y (aq D)
  have iH:∀(M:E)(i:O)(a:List Int),J H M->ap (bG (s.D::e) M) i a->a.length<=3->jK (M.push (.cells (bt [.s i]) xK)) xK [.s O.nil] 24 s (O.mk M.size 0 1 1) λK m=>eF [c.size] (M.push (.cells (bt [.s i]) xK)) m/\P K (cT ((k:Int)+(1:Int))) m/\μ K (cT ((k:Int)+(1:Int))) m<μ s k H:=λM i a w hf u=>
   Gr.kH (g:=[.s .nil]) mM.mono bh (t.ext mM.mono w) ((r.trans w).fz []) ⟨i,rfl,hf⟩ V λr' m U A _ _=>⟨J.oE ((r.trans w).aK _) A.ext v,aa V _ _ ⟨A.ext,_,U,bE,λj h=>by
    rcases List.mem_append.1 h with h|h
    .exact B j h
    .simp at h;subst h;exact u⟩⟩
  refine(JO (o.le q.le) k).aH r v λa m4 j L=>⟨_,rfl,λ_=>?_,λ_=>⟨V,V,ab,(q.trans j).af T,?_⟩⟩
  .intro p m6
   exact iH p _ [] (j.aK _) (mD _ _ _ _ _ _) aL
  .refine(rQ (S:=[]) aL (a:=0) ((Q.ext (q.trans j)).le (zW _)) V).aH L v λac F p X I x5 u5=>⟨_,rfl,?_⟩
   intro m6
   have hg:GI (s.D::e) m4 p ac F:=X.any
   exact iH p _ F (j.trans x5) (hg.done (bO C L.size (oh j.size)) (oh I.2)) (oh I.2)
 .exact⟨s,l,rfl,t.done mM.mono C bh V,V,B,q⟩
def Zw(a:List bz)(g:List gN)(b:Bk):Prop:=∀(c:E)(d f t:O)(v:Int)(h:Prop)(e:Nat),eK c d f a g->eO c t b.aD->WB a g.length h e b->oJ 291 [.agg #[O.v d,O.v f],.agg #[O.v t,vi b.aS],vi v] c
def Av{C:List bz}:∀b:Bk,Zw C g b:=by
 refine Bk.ind ?_;intro aD ah ih c d f ai ae m ag E t Z;have aa:=Z.aT.1;simp only[Bk.jS,Bk.ju]at*;apply uZ;simp -zeta only[aC,aB];intro K v;let⟨O,W⟩:=dD (a:=K) (c:=v) rfl rfl;clear_value v;have X:=t.len;refine⟨λ_=>rA O,λ_=>?_⟩;refine dU (n:=aD.length) (X▸t.gS) (λ_ M=>J v M) (J.az _) ?_;rintro I p af μ hk A ac
 have e:=O.trans A;refine⟨λj=>?_,λ_=>rA e⟩;simp only[ar]at j;let⟨x,u⟩:=cG aD I;let⟨pa,pk,o,r,Q,g1,g2,R,S⟩:=t.aF u;have F:=aa I x u;have T:=o.len;have U:=r.len;refine⟨V,V,_,e.af Q,_,e.af g1,_,e.af g2,_,e.af R,_,e.af S,?_⟩;intro m3 h;have B:J p h:=(J.push p _).ah (ad _) _ _;have s4:h.size=p.size+1:=by simp[h,m3,aw]
 clear_value h;have s:∀b∈[p.size,K.size,c.size],b<h.size:=λb k=>by
  rcases List.mem_cons.1 k with D|D
  .omega
  .exact(A.trans B).lt (W b D)
 refine dU (n:=x.args.length) (T▸o.gS) (λ_ M=>J h M) (J.az _) ?_;rintro H L I1 μ1 hj l y;have z:=(e.trans B).trans l;refine⟨λj=>?_,λ_=>?_⟩
 .simp only[ar]at j;let⟨Y,P⟩:=cG x.args H;refine⟨V,V,Y,(o.ext z).aF P,λ_=>?_,λ_=>y V _ l⟩;refine(xX x.op L).aH l s λm w i G=>⟨_,rfl,λ_=>?_,λ_=>y V _ G⟩;have a:=z.trans i;exact(nO (⟨E.le a.le,o.ext a,F.eZ.call⟩:At w d f pa pk C g x) H).aH G s λm m7 q N=>⟨_,rfl,λ_=>rA (a.trans q),λ_=>y V _ N⟩
 .refine dU (n:=x.bC.length) (U▸r.gS) (λ_ M=>J L M) (J.az _) ?_;rintro G w I2 μ2 hi i ab;have a:=z.trans i;refine⟨λj=>?_,λ_=>ac V _ (((A.trans B).trans l).trans i)⟩;simp only[ar]at j;let⟨b,k⟩:=cG x.bC G;let⟨tb,Y,M,P⟩:=r.aF k;refine⟨V,V,_,a.af M,_,a.af P,?_⟩;exact(ih x (aq u) b (aq k) w d f tb ae m _ (E.le a.le) (Y.le a.le) (F.bC G b k)).aH (l.trans i) s λm m7 q N=>⟨_,rfl,λ_=>rA (a.trans q),λ_=>ab V _ (i.trans q)⟩
def JQ(P:∀h∈e,h<c.size){A:List bz}(r:eK c d f A g){h:Prop}(Q:yi A g h W){B:Nat}{q:gN}(s:g[B]? =some q):kY 256 [.agg #[O.v d,O.v f],vi B] c e λl=>l.length<=q.cR.length:=by
 apply CJ;simp -zeta only[aC,aB];intro a u;have y:J c a:=J.push _ _;have E:∀k∈[c.size],k<a.size:=by simp[a]
 have T:J a u:=J.push _ _;have N:GI e a u (.mk a.size 0 0 0) []:=GI.nil e a;clear_value u;clear_value a;have af:=r.iT.len;have aa:=av s;let⟨ae,ac,R,hw⟩:=Q.dz q (aq s);let⟨ah,w,k,X,m,I,Z,o,e2,K,L⟩:=r.iT.aF s;have ag:=m.len;refine ez (n:=q.cR.length) V (λt v M=>J a M/\∃l,GI e a M v l/\l.length<=t) ⟨T,[],N,ad _⟩ ?_;rintro t v S U μ ab ⟨H,l,p,D⟩ G
 have b:=y.trans H;refine⟨V,V,w,b.af o,λi=>?_,λi=>⟨v,l,rfl,p.cx (λ_ i=>i) y.size,V,b⟩⟩;simp only[ar]at i;let⟨z,F⟩:=cG q.cR t;refine⟨V,V,_,b.af K,_,b.af L,V,V,w,b.af o,V,V,z,(m.ext b).aF F,?_⟩;refine(Av q.body S d f k z h _ (r.le b.le) (I.le b.le) R).aH H E λY m4 j x=>⟨_,rfl,λ_=>⟨V,V,w,(b.trans j).af o,V,V,z,(m.ext (b.trans j)).aF F,?_⟩,λ_=>G V _ _ ⟨x,l,p.ext j,V⟩⟩;intro m5;exact GI.kH (p.ext j) (x.fz []) (λh D=>y.lt (P h D)) V λf m6 M C _ _=>⟨J.oE (x.aK _) C.ext E,G V _ _ ⟨C.ext,_,M,bE⟩⟩
end
section
variable{b:List Nat}{e:E}{d g:O}{f:List gN}{c:Prop}{W:Nat}
def yf(Q:∀c∈b,c<e.size){lt:O}{v:List bz}{H:List (List Int)}(y:eK e d g v f)(hW:W<=1000000)(hk:yi v f c W)(ag:oX e lt H)(aQ:H.length=f.length)(av:∀c∈H,c.length<=3):
 uP 254 [.agg #[O.v d,O.v g],O.v lt] e b v λz=>yi v z c W/\z.length=f.length:=by
 apply Df
 simp -zeta only[aC,aB]
 intro j a2
 let⟨K,D⟩:=dD (a:=j) (c:=a2) rfl rfl
 have s1:j.size=e.size+1:=by simp[j]
 clear_value a2
 have az:=y.iT.len;have aS:=y.oA
 refine(fU (b:=j.size::b) (bO Q K.size (D _ aL)) (y.le K.le).bo y.types).mono λ_ Y⟨dd,h,ar,L⟩=>?_
 subst h
 refine⟨L.dv D,_,rfl,?_⟩
 intro s aI al
 have u2:=K.trans L
 let⟨x5,B0,g0,s3,s5⟩:=kW (b:=s.size::j.size::b) iQ.mono (d:=Y) (a:=s) (c:=aI) (h:=al) rfl rfl rfl
 clear_value al
 have U:∀c∈[j.size,e.size],c<Y.size:=λc k=>L.lt (D c k)
 have ae:∀c∈j.size::b,c<Y.size:=λc k=>L.lt (bO Q K.size (D _ aL) c k)
 refine kQ (R:=λl o M=>∃d g z,Value.agg #[O.v l,O.v o]=.agg #[O.v d,O.v g]/\eK (bG b M) d g v z/\(yi v z c W/\z.length=f.length)/\J e M) (r:=f.length) (f:=e) (b:=b) iQ.mono bh bh Q ⟨V,U _ aL⟩ u2 s3 ar az V x5 B0 g0 (λ_ q=>q.params.length<=3/\q.cR.length<=3/\WB v f.length c q.params.length q.body/\q.body.w<=W) (λo Z aj m' h1 C l p r=>⟨o,Z,aj,rfl,⟨h1,C,y.types,V⟩,⟨HN hk.iV l p,l⟩,r⟩) λai M t aj aM μ au aP xM ac N aK=>?_
 let⟨q,hq⟩:=cG f ai au
 let⟨ay,aO,aE,hw⟩:=hk.dz q (aq hq)
 have v6:=u2.trans xM
 let⟨aU,aW,p,c1,c2,c3,e0,e1,e2,e3,e4⟩:=y.iT.aF hq
 have G:∀{am:Value}{p x:Nat},af e p x=some am->af M p x=some am:=λB=>v6.af B
 refine⟨V,V,_,G e0,_,G e1,_,G e2,_,G e3,_,G e4,?_⟩
 intro m7 l
 have hy:=ac.bn
 have aN:=N.lt
 have zM:=xM.size
 have x8:J M l:=(J.push M _).ah (ad _) _ _
 have s8:l.size=M.size+1:=by simp[l,m7,aw]
 clear_value l
 have F:∀c∈[M.size,j.size,e.size],c<l.size:=λc k=>by
  rcases List.mem_cons.1 k with h|h
  .omega
  .have:=U c h;omega
 have A:=v6.trans x8
 have r:∀{M1 M2:E},J l M1->J l M2->∀p,p<l.size->∀x,af M2 p x=af M1 p x:=λB h' p hb x=>aJ (by rw[h'.same p hb,B.same p hb]) x
 have w:M.size<l.size:=V
 have X:s.size<l.size:=V
 let⟨ab,ah⟩:=cG H ai
 let⟨yt,aG,P⟩:=ag.aF ah
 have aF:=av ab (aq ah)
 have aR:=ag.len
 have T:∀{M':E},l.size<=M'.size->∀c∈t.D::s.size::j.size::b,c<M'.size:=λB c k=>by
  simp only[aV]at k;rcases k with h|h|h|h
  .omega
  .omega
  .have:=ae c (by simp[h]);omega
  .have:=ae c (by simp[h]);omega
 refine⟨t,(N.ext x8).bZ 1,V,V,yt,A.af P,?_⟩
 refine(bN (t.D::s.size::j.size::b) (c1.ext A) V).aH (J.az l) F λp' _ m9 gp h o _=>⟨_,rfl,r (J.az _) o _ w _,r (J.az _) o _ w _,r (J.az _) o _ w _,((A.trans o).af P).trans (A.af P).symm,r (J.az _) o _ X _,?_⟩
 subst h
 refine(bN (t.D::s.size::j.size::b) (aG.ext (A.trans o)) V).aH o F λt' _ aH gt h an u=>⟨_,rfl,r o u _ w _,r o u _ w _,r o u _ w _,r o u _ X _,?_⟩
 subst h
 have z9:=o.size;have vu:=an.size
 refine(vZ q.body (t.D::s.size::j.size::b) aH (T V) p (c3.le (A.trans u).le) V).aH u F λss b' ak aA h ao I=>⟨_,_,rfl,r u I _ w _,r u I _ X _,?_⟩
 subst h
 intro aT
 have aa:=x8.trans I
 have aX:=I.size
 have ax:ap (bG (t.D::s.size::j.size::b) ak) p' q.params:=(gp.done (T V) V).le ((an.trans ao).df _)
 have aD:ap (bG (t.D::s.size::j.size::b) ak) t' ab:=(gt.done (T V) V).le (ao.df _)
 exact Gr.box (g:=[.s .nil,.s .nil,.i 0,.s .nil,.i 0]) (j:=1) (y:=88) (i:=[.s dd,.s t]) (w:=⟨q.params,ab,q.aS,q.body⟩) iQ.mono bh (ac.ext iQ.mono aa) ((xM.trans aa).fz []) ⟨p',t',ss,rfl,ax,aD,aA⟩ V (N.ext aa) aL bh ⟨V,aL⟩ (λc k=>by have h1:=F c k;have C:=U c;simp only[aV]at k C;rcases k with h|h|h|h<;>first|omega|(have:=C (by simp[h]);omega)|simp at h) λZ m' g' C f' z' q'=>aK Z m' _ g' C f'.ext ⟨ay,aF,aE,hw⟩
def JV(hS:∀c∈b,c<e.size){A:List bz}(Z:eK e d g A f)(hW:W<=1000000)(hk:yi A f c W):uP 240 [.agg #[O.v d,O.v g]] e b A λt=>yi A t c W:=by
 apply CM;simp -zeta only[aC,aB];intro i a2;let⟨x2,G⟩:=dD (a:=i) (c:=a2) rfl rfl;have s1:i.size=e.size+1:=by simp[i]
 have s2:a2.size=e.size+2:=by simp[a2,s1]
 clear_value a2;have aG:=Z.iT.len;have aE:=Z.oA;have aj:∀c∈i.size::b,c<a2.size:=bO hS x2.size (G _ aL);have p:∀{M q:E},J a2 M->J a2 q->∀ac,af q e.size ac=af M e.size ac:=λu h' ac=>aJ (by rw[h'.same _ (G _ aL),u.same _ (G _ aL)]) ac;have tail:∀(Q:E)(a:Nat)(z y:O)(C:List gN),J a2 Q->a2.size<=a->cE Q a na [.s z,.s y]->eK (bG (a::i.size::b) Q) z y A C->yi A C c W->
  ∃(I0:Int->E->Prop)(μ0:Int->E->Nat),I0 (0:Int) Q/\(∀(l:Int)(v:E),I0 l v->
   ((decide (l<=(12:Int)))=true->
    let U:E:=v.push (.cells (bt []) xK)
    ∃(w:O->Int->E->Prop)(μ1:O->Int->E->Nat),w (O.mk v.size 0 0 0) (0:Int) U/\(∀(s:O)(x:Int)(h:E),w s x h->
     ∃D:O,af h a 1=some (O.v D)/\
     ((decide (x<(D.len:Int)))=true->∃j:O,af h a 0=some (O.v j)/\∃k:O,af h a 1=some (O.v k)/\
      aN cg 256 [.agg #[O.v j,O.v k],vi x] h λY P=>eF [i.size,e.size] h P/\∃aa:O,Y=O.v aa/\
       let ae:E:=P.push (.cells (bt [.s aa]) xK)
       jK ae xK [.s O.nil] 24 s (O.mk P.size 0 1 1) λF B=>eF [i.size,e.size] ae B/\w F (cT (x+(1:Int))) B/\μ1 F (cT (x+(1:Int))) B<μ1 s x h)/\
     ((decide (x<(D.len:Int)))=false->∃j:O,af h a 0=some (O.v j)/\∃k:O,af h a 1=some (O.v k)/\
      aN cg 254 [.agg #[O.v j,O.v k],O.v s] h λH I=>eF [i.size,e.size] h I/\∃B:O,∃F:O,H=.agg #[O.v B,O.v F]/\fJ I a 0 2/\
       let L:E:=ah I a 0 [.s B,.s F]
       eF [i.size,e.size] I L/\I0 (cT (l+(1:Int))) L/\μ0 (cT (l+(1:Int))) L<μ0 l v)))/\
   ((decide (l<=(12:Int)))=false->∃j:O,af v a 0=some (O.v j)/\∃k:O,af v a 1=some (O.v k)/\
    let ag:E:=ah v i.size 0 [.s j,.s k]
    ∃d g t,Value.agg #[O.v j,O.v k]=.agg #[O.v d,O.v g]/\eK (bG b ag) d g A t/\yi A t c W/\J e ag)):=by
  intro Q a z y C T au hB hN R
  refine dU (n:=13) V (λ_ M=>J a2 M/\∃z y C,cE M a na [.s z,.s y]/\eK (bG (a::i.size::b) M) z y A C/\yi A C c W) ⟨T,z,y,C,hB,hN,R⟩ ?_
  rintro aI v az μ aD ⟨x6,z,y,C,H,N,K⟩ ay
  have aA:=H.lt
  have aH:=N.iT.len
  have aF:=N.oA
  refine⟨λu=>?_,λu=>?_⟩
  .simp only[ar]at u
   intro U
   have ao:J v U:=J.push _ _
   have g0:Zg [] v U (.mk v.size 0 0 0) []:=Gr.new _ (ad _) _ _ _
   refine ez (n:=C.length) V (λx s M=>J v M/\∃l,Zg [] v M s l/\l.length=x/\∀c∈l,c.length<=3) ⟨ao,[],g0,rfl,aL⟩ ?_
   rintro x s h I2 μ2 hf ⟨D,l,ab,ap,B⟩ am
   have u8:=x6.trans D
   have N8:=N.le (D.df _)
   refine⟨y,(H.ext D).bZ 1,dit (λF=>?_) λF=>?_⟩
   .let⟨X,hq⟩:=cG C x
    have an:=(K.dz X (aq hq)).2.1
    have j:=ab.bn
    refine⟨z,(H.ext D).bZ 0,y,(H.ext D).bZ 1,?_⟩
    refine(JQ (e:=[s.D]) bE (N8.le (bA _ _)) K hq).aH u8 G λaa av P ak aw x9 u9=>⟨_,rfl,?_⟩
    intro ae
    refine Gr.kH (g:=[.s .nil]) mM.mono bh (ab.ext mM.mono x9) ((D.trans x9).fz []) ⟨aa,rfl,ak.done bE V⟩ V λw q g' k _ _=>⟨J.oE (u9.aK _) (x6.trans k.ext) G,am V _ _ ⟨k.ext,_,g',bE,λal j=>?_⟩⟩
    rcases List.mem_append.1 j with j|j
    .exact B al j
    .simp at j;subst j;omega
   .refine⟨z,(H.ext D).bZ 0,y,(H.ext D).bZ 1,?_⟩
    have ak:oX h s l:=eS.le (ab.done mM.mono aL bh V) (bA _ _) (mM.le (bA _ _))
    have z8:=D.size;have z6:=x6.size
    refine(yf (b:=a::i.size::b) (λc k=>?_) (N8.le (bA _ _)) hW K ak V B).mono λ_ I⟨d2,Y,an,j,N2,⟨K2,_⟩,aa⟩=>?_
    .rcases List.mem_cons.1 k with j|j
     .omega
     .have:=aj c j;omega
    subst j
    have ae:=(H.ext D).ext aa
    refine⟨u8.U9 G aa,_,_,rfl,ae.fJ aL,?_⟩
    intro L
    have al:∀P,P≠a->L[P]? =I[P]? :=λP hb=>bd _ _ _ _ hb
    refine⟨λc k=>al c (oh (G c k)),ay V _ ⟨(u8.trans aa).ah au _ _,d2,Y,an,cE.ah (m:=I) (o:=0) (r:=[.s d2,.s Y]) ae,N2.le (cA aL λ_ u=>u),K2⟩⟩
  .refine⟨z,H.bZ 0,y,H.bZ 1,?_⟩
   intro ag
   exact⟨z,y,C,rfl,(N.le (iR v λc k=>ai _ k)).le (cA aL λc k=>ai _ k),K,(x2.trans x6).ah V _ _⟩
 have av:∀X∈f,X.params.length<=3:=λX hq=>(hk.dz X hq).1;have al:∀(M:E)(L:List Nat)(K:Value->E->Prop),J a2 M->(∀c∈L,c<M.size)->(∀s l q,oX q s l->l.length=f.length->(∀c∈l,c.length<=3)->J M q->K (O.v s) q)->aN cg 255 [.agg #[O.v d,O.v g]] M λak U=>eF L M U/\K ak U:=λM L K T hL R=>
  (Gj (e:=[]) aL (Z.le (x2.trans T).le) av).mono λ_ q⟨s,l,j,I,F,B,Y⟩=>⟨Y.dv hL,j▸R s l q (eS.le I (bA _ _) (mM.le (bA _ _))) F B Y⟩
 have cR:∀(M:E)(S' L:List Nat)(K:Value->E->Prop)(s:O)(l:List (List Int)),J a2 M->(∀c∈L,c<M.size)->(∀c∈S',c<M.size)->oX M s l->l.length=f.length->(∀c∈l,c.length<=3)->(∀x w t q,eK (bG S' q) x w A t->yi A t c W->J M q->K (.agg #[O.v x,O.v w]) q)->aN cg 254 [.agg #[O.v d,O.v g],O.v s] M λak U=>eF L M U/\K ak U:=λM S' L K s l T hL ap I F B R=>
  (yf ap (Z.le (x2.trans T).le) hW hk I F B).mono λ_ q⟨x,w,t,j,N,⟨K1,_⟩,Y⟩=>⟨Y.dv hL,j▸R x w t q N K1 Y⟩
 have am:∀{M:E}{a:Nat},J a2 M->a<M.size->∀c∈a::i.size::b,c<M.size:=λu hb c k=>by
  have:=u.size;rcases List.mem_cons.1 k with j|j
  .omega
  .have:=aj c j;omega
 have ag:∀{M:E}{a:Nat},J a2 M->a<M.size->∀c∈[a,i.size,e.size],c<M.size:=λu hb c k=>by
  rcases List.mem_cons.1 k with j|j
  .omega
  .exact u.lt (G c j)
 refine⟨al a2 _ _ (J.az _) G λs l ab I F B h=>⟨_,rfl,p (J.az _) h _,p (J.az _) h _,⟨?_,?_⟩⟩,?_⟩
 .refine cR ab (i.size::b) _ _ s l h (λc k=>h.lt (G c k)) (λc k=>h.lt (aj c k)) I F B λx w t m3 N K P=>⟨_,_,rfl,?_⟩;have D:=h.trans P;intro m4;have u4:J a2 m4:=D.aK _;refine⟨p D u4 _,p D u4 _,p D u4 _,p D u4 _,?_⟩;intro m5;have aa:J m3 m5:=(J.push m3 _).ah (ad _) _ _;exact tail m5 m3.size x w t (D.trans aa) D.size (cE.ah (m:=m4) (o:=0) (r:=[.s x,.s w]) (cE.push m3 _ _)) (N.le (aa.bG λc k=>by
   rcases List.mem_cons.1 k with j|j
   .exact Or.inr V
   .exact Or.inl j)) K
 .intro aa;have D:J a2 aa:=h.aK _;refine⟨p h D _,p h D _,p h D _,p h D _,?_⟩;refine cR aa (ab.size::i.size::b) _ _ s l D (ag D (by simp[aa])) (am D (by simp[aa])) (oX.ext (J.push _ _) I) F B λx w t ae N K P=>⟨_,_,rfl,?_⟩;intro an;exact tail an ab.size x w t ((D.trans P).ah h.size _ _) h.size (cE.ah (m:=ae) (o:=0) (r:=[.s x,.s w]) ((cE.push ab _ _).ext P)) (N.le (cA aL λ_ u=>u)) K
 .intro aa;have D:J a2 aa:=J.push _ _;refine⟨p (J.az _) D _,p (J.az _) D _,p (J.az _) D _,p (J.az _) D _,?_⟩;refine al aa _ _ D (ag D (by simp[aa])) λs l ao I F B h=>⟨_,rfl,p D (D.trans h) _,p D (D.trans h) _,?_⟩;have ae:=D.trans h;have an:a2.size<ao.size:=h.lt (by simp[aa]);refine cR ao (a2.size::i.size::b) _ _ s l ae (ag ae an) (am ae an) I F B λx w t aw N K P=>⟨_,_,rfl,?_⟩;intro ax;exact tail ax a2.size x w t ((ae.trans P).ah (ad _) _ _) (ad _) (cE.ah (m:=aw) (o:=0) (r:=[.s x,.s w]) ((cE.push a2 _ _).ext (h.trans P))) (N.le (cA aL λ_ u=>u)) K
end
section
variable{w:Int}{r:List Int}
structure bM where
 aP:Int
 j8:Int
 aE:List Int
structure aX where
 fE:Int
 pc:Int
 dst:Int
 ak:List Int
 aR:List Int
 ba:List Int
structure St where
 cz:Int
 value:Int
 bu:Int
 dR:Int
 aT:List Int
 heap:List bM
 ao:List aX
def aF(l:List Int)(i:Int):Int:=l.getD i.toNat 0
def gQ(l:List Int)(i:Int)(v:Int):List Int:=l.set i.toNat v
def ix(w:Int):Nat:=(w -1000).toNat
def gK(w:Int):Prop:=-999<=w/\w<=999
def fO(h:List bM)(a:Nat):Prop:=∃c,h[a]? =some c/\0<c.aP
def fX(h:List bM)(w:Int):Prop:=1000<=w/\fO h (ix w)
def qy(h:List bM)(w:Int):Prop:=gK w\/fX h w
def iY:bM:=⟨0,0,[]⟩
def aM(h:List bM)(w:Int):bM:=(h[ix w]?).getD iY
def aac:dy:=⟨[],[],0,0,[]⟩
def dN(a:cN)(n:Int):dy:=(a.cF[n.toNat]?).getD aac
def cq(a:cN):Int:=(eR a.bo).length
def eB:List Int->Nat->Int
 |[],_=>0
 |w::b,a=>(if w=1000+(a:Int)then 1 else 0)+eB b a
def eg:List bM->Nat->Int
 |[],_=>0
 |c::h,a=>eB c.aE a+eg h a
def de:List Int->List Int->Nat->Int
 |r::c,o::b,a=>(if r=1000+(a:Int)then o else 0)+de c b a
 |_,_,_=>0
def fA:List aX->Nat->Int
 |[],_=>0
 |f::b,a=>de f.ak f.aR a+fA b a
def holds:List aX->Nat->Int
 |[],_=>0
 |f::b,a=>eB f.ba a+holds b a
def nu(a:cN)(x:Instr)(k:Nat):Bool:=(dN a x.bP).cR.any (λy=>y==(k:Int))
def iD(a:cN)(x:Instr):Nat->List Int->List Int
 |_,[]=>[]
 |k,r::b=>if nu a x k then iD a x (k+1) b else r::iD a x (k+1) b
def fG(a:cN)(x:Instr):Nat->List Int->List Int
 |_,[]=>[]
 |k,r::b=>if nu a x k then r::fG a x (k+1) b else fG a x (k+1) b
def bU(a:cN)(x:Instr):List Int:=
 if x.op=15\/x.op=6\/x.op=10\/x.op=11\/x.op=18\/x.op=23 then x.args
 else if x.op=16\/x.op=17 then x.args.take 1
 else if x.op=9\/x.op=24 then iD a x 0 x.args
 else[]
def bD(ak aR:List Int):List Int->List Int
 |[]=>aR
 |r::a=>bD ak (if 1000<=aF ak r then gQ aR r (aF aR r -1)else aR) a
def cL(f:aX)(a:List Int):List Int:=a.map (aF f.ak)
def kU(l:List Int):List Int:=l.filter (λw=>decide (1000<=w))
def lg(h:List bM)(a:List Int):Prop:=∀w∈a,1000<=w->(aM h w).aP+eB a (ix w)<=999999
def Fi(h:List bM)(f:aX)(x:Instr):Prop:=
 let w:=aF f.ak (aF x.args 0)
 fX h w/\kU (aM h w).aE=cL f (x.args.drop 1)/\((aM h w).aP=1\/lg h (aM h w).aE)/\(x.op=17->aF f.ba (aF x.args 0)=0)
def vx(a:cN)(h:List bM)(w:Int):Prop:=
 fX h w/\0<=(aM h w).j8 -cq a/\(aM h w).j8 -cq a<a.cF.length/\
  (dN a ((aM h w).j8 -cq a)).params.length=(aM h w).aE.length+1/\(dN a ((aM h w).j8 -cq a)).cR.length=0/\
  ((aM h w).aP=1\/lg h (aM h w).aE)
def Fj(h:List bM)(f:aX)(x:Instr):Prop:=
 x.bY≠0->aF f.ba (x.bY -1)≠0->(aM h (aF f.ba (x.bY -1))).aE.length=x.args.length
def Ko(a:cN)(h:List bM)(f:aX)(x:Instr):Prop:=∀r∈fG a x 0 x.args,1000<=aF f.ak r->fX h (aF f.ak r)
def R1(l:List Int):Prop:=∀n∈l,n=0
structure kT(im:cN)(s:St)(f:aX)(x:Instr)(aR:List Int):Prop where
 nn:∀o∈aR,0<=o
 dst:lO x.op->aF aR x.dst<=0
 nH:(x.op=1\/x.op=2\/x.op=3\/x.op=4\/x.op=5\/x.op=20)->∀r∈x.args,aF f.ak r<1000
 jc:x.op=6->Fj s.heap f x
 cR:(x.op=9\/x.op=24)->Ko im s.heap f x
 zero:(x.op=24\/x.op=23)->R1 aR/\R1 f.ba
 ret:x.op=23->1<s.ao.length\/aF f.ak (aF x.args 0)<1000
 apply:x.op=11->vx im s.heap (aF f.ak (aF x.args 0))
 WT:x.op=14->fX s.heap (aF f.ak (aF x.args 0))/\(aM s.heap (aF f.ak (aF x.args 0))).aP<999999
 drop:x.op=15->1000<=aF f.ak (aF x.args 0)
 Ny:(x.op=16\/x.op=17)->Fi s.heap f x
 load:x.op=19->fX s.heap (aF f.ak (aF x.args 0))/\x.bP<(aM s.heap (aF f.ak (aF x.args 0))).aE.length
 E8:x.op=21->fX s.heap (aF f.ak (aF x.args 0))/\(aM s.heap (aF f.ak (aF x.args 0))).j8∈cy im.bo x.bP
def Fs(n:Int):Int:=if n< -999 then -999 else if 999<n then 999 else n
def OH(c a b:Int):Int:=
 if c=1 then Fs (a+b)else if c=2 then Fs (a -b)else if c=3 then Fs (a*b)else if c=4/\a<b then 1 else 0
def dF:List bM->Nat
 |[]=>0
 |c::h=>if c.aP=0 then 0 else dF h+1
def jc(h:List bM)(a:Nat)(c:bM):List bM:=if a=h.length then h++[c]else h.set a c
def mO(h:List bM)(w:Int):List bM:=h.set (ix w) {aM h w with aP:=(aM h w).aP+1}
def fg(h:List bM)(w:Int):List bM:=h.set (ix w) {aM h w with aP:=(aM h w).aP -1}
def jd(h:List bM):List Int->List bM
 |[]=>h
 |w::a=>jd (mO h w) a
def jg(h:List bM):Nat->Nat
 |0=>0
 |n+1=>match h[n]? with
  |some c=>if c.aP=0 then jg h n else n+1
  |none=>jg h n
def nm(h:List bM):List bM:=h.take (jg h h.length)
def Ca:List bM->Nat
 |[]=>0
 |c::h=>(if 0<c.aP then c.aP.toNat+c.aE.length else 0)+Ca h
def kj:∀{e:List bM}{f:Nat}{b d:bM},e[f]? =some b->Ca (e.set f d)+(if 0<b.aP then b.aP.toNat+b.aE.length else 0)=Ca e+(if 0<d.aP then d.aP.toNat+d.aE.length else 0)
 |[],f,b,d,e=>by simp at e
 |i::e,0,b,d,g=>by simp at g;subst g;simp only[iy,Ca];omega
 |i::e,f+1,b,d,g=>by
  have:=kj (e:=e) (f:=f) (b:=b) (d:=d) (by simpa using g);simp only[jm,Ca];omega
def bS{h:List bM}(b:fX h w):h[ix w]? =some (aM h w)/\0<(aM h w).aP:=by
 obtain⟨_,d,a,c⟩:=b;simp[aM,a,c]
open Classical in
noncomputable def gY (h:List bM) (c:List Int):List bM:=
 match c with
 |[]=>h
 |w::r=>
  if b:fX h w then
   if a:(aM h w).aP=1 then gY (h.set (ix w) iY) ((aM h w).aE.reverse++r)
   else gY (fg h w) r
  else gY h r
termination_by Ca h+c.length
decreasing_by
 .let⟨e,a⟩:=bS b
  have:=kj (d:=iY) e
  simp only[iY,an a]at this
  simp[iY]
  simp at this
  omega
 .let⟨e,a⟩:=bS b
  have b:=kj (d:={aM h w with aP:=(aM h w).aP -1}) e
  simp only[an a]at b
  rw[an V]at b
  simp[fg]
  omega
 .simp
def sQ(h:List bM):gY h []=h:=by rw[gY]
def sR{h:List bM}(b:fX h w)(a:(aM h w).aP=1):gY h (w::r)=gY (h.set (ix w) iY) ((aM h w).aE.reverse++r):=by
 rw[gY,SF b,SF a]
def qe{h:List bM}(b:fX h w)(a:(aM h w).aP≠1):gY h (w::r)=gY (fg h w) r:=by
 rw[gY,SF b,dif_neg a]
def qj{h:List bM}(a:¬fX h w):gY h (w::r)=gY h r:=by
 rw[gY,dif_neg a]
def aX.put(f:aX)(r w o:Int):aX:={f with ak:=gQ f.ak r w,aR:=gQ f.aR r o}
def gG(w:Int):Int:=if 1000<=w then 1 else 0
def dE(aR:List Int):List Int->List Int
 |[]=>aR
 |r::a=>dE (gQ aR r (aF aR r+1)) a
def dk(n:Nat):List Int:=List.replicate n 0
def dK(cR:List Int):Nat->List Int->List Int
 |_,[]=>[]
 |k,w::a=>(if cR.any (λy=>y==(k:Int))then 0 else gG w)::dK cR (k+1) a
def bW(a:cN)(g c:Int)(b:List Int):aX:=
 ⟨g,0,c,b++dk ((dN a g).ak.toNat -b.length),dK (dN a g).cR 0 b++dk ((dN a g).ak.toNat -b.length),dk (dN a g).ak.toNat⟩
open Classical in
noncomputable def apart (h:List bM) (w:Int):List bM:=
 if(aM h w).aP=1 then nm (h.set (ix w) iY)else jd (fg h w) (kU (aM h w).aE)
def tc(l:List Int)(n:Int):Nat:=l.findIdx (λy=>y==n)
open Classical in
noncomputable def fj (b:cN) (s:St) (a:List aX) (f:aX) (x:Instr) (aR:List Int):St:=
 let g:aX:={f with aR:=aR,pc:=f.pc+1}
 let c:=aF x.args 0
 let w:=aF f.ak c
 if x.op=0 then{s with ao:=a++[g.put x.dst x.bP 0]}
 else if x.op=1\/x.op=2\/x.op=3\/x.op=4 then{s with ao:=a++[g.put x.dst (OH x.op w (aF f.ak (aF x.args 1))) 0]}
 else if x.op=5 then{s with aT:=s.aT++[w],ao:=a++[g.put x.dst w 0]}
 else if x.op=6 then
  if x.bY≠0/\aF f.ba (x.bY -1)≠0 then
   {s with heap:=s.heap.set (ix (aF f.ba (x.bY -1))) ⟨1,x.bP,cL f x.args⟩,ao:=a++[{g with ba:=gQ f.ba (x.bY -1) 0}.put x.dst (aF f.ba (x.bY -1)) 1]}
  else{s with heap:=jc s.heap (dF s.heap) ⟨1,x.bP,cL f x.args⟩,ao:=a++[g.put x.dst (1000+dF s.heap) 1]}
 else if x.op=10 then{s with heap:=jc s.heap (dF s.heap) ⟨1,cq b+x.bP,cL f x.args⟩,ao:=a++[g.put x.dst (1000+dF s.heap) 1]}
 else if x.op=14 then{s with heap:=mO s.heap w,ao:=a++[{g with aR:=gQ aR c (aF aR c+1)}]}
 else if x.op=15 then{s with heap:=nm (gY s.heap [w]),ao:=a++[g]}
 else if x.op=16\/x.op=17 then
  let d:={g with aR:=dE aR (x.args.drop 1)}
  if(aM s.heap w).aP=1/\x.op=17 then{s with heap:=s.heap.set (ix w) ⟨-1,0,dk (aM s.heap w).aE.length⟩,ao:=a++[{d with ba:=gQ f.ba c w}]}
  else{s with heap:=apart s.heap w,ao:=a++[d]}
 else if x.op=18 then{s with ao:=a++[g.put x.dst w (gG w)]}
 else if x.op=19 then{s with ao:=a++[g.put x.dst (aF (aM s.heap w).aE x.bP) 0]}
 else if x.op=20 then{s with ao:=a++[{g with pc:=if w=0 then x.bP else f.pc+1}]}
 else if x.op=21 then{s with ao:=a++[{g with pc:=aF x.eL (tc (cy b.bo x.bP) (aM s.heap w).j8)}]}
 else if x.op=22 then{s with ao:=a++[{g with pc:=x.bP}]}
 else if x.op=9 then{s with bu:=s.bu+1,ao:=a++[g,bW b x.bP x.dst (cL f x.args)]}
 else if x.op=24 then{s with bu:=s.bu+1,ao:=a++[bW b x.bP f.dst (cL f x.args)]}
 else if x.op=11 then
  {s with bu:=s.bu+1,heap:=apart s.heap w,ao:=a++[g,bW b ((aM s.heap w).j8 -cq b) x.dst ((aM s.heap w).aE++[aF f.ak (aF x.args 1)])]}
 else -- 23
  match a.getLast? with
  |none=>{s with cz:=0,value:=w,ao:=[]}
  |some p=>{s with ao:=a.dropLast++[p.put f.dst w (gG w)]}
def mS(a:Int):Prop:=a=9\/a=11\/a=24
instance(a:Int):Decidable (mS a):=by unfold mS;infer_instance
def eu(a:cN)(f:aX):Instr:=((dN a f.fE).dq[f.pc.toNat]?).getD ⟨0,0,0,0,[],[]⟩
open Classical in
noncomputable def lC (a:cN) (s:St):St:=
 if s.cz≠3 then s else
 match s.ao.getLast? with
 |none=>s
 |some f=>
  if mS (eu a f).op/\s.bu=s.dR then{s with cz:=1}
  else if kT a s f (eu a f) (bD f.ak f.aR (bU a (eu a f)))then
   fj a s s.ao.dropLast f (eu a f) (bD f.ak f.aR (bU a (eu a f)))
  else{s with cz:=2}
end
section
variable{f b:Nat}{h g:List bM}{e e':Nat->Int}{w:Int}{c d:bM}
def lR:∀(l r:List Int)(f:Nat),eB (l++r) f=eB l f+eB r f
 |[],r,f=>by simp[eB]
 |w::l,r,f=>by simp only[cZ,eB,lR l r f];omega
def zX:∀(l:List Int)(f:Nat),eB l.reverse f=eB l f
 |[],f=>rfl
 |w::l,f=>by simp only[Qi,lR,zX l f,eB];omega
def iC:∀(l:List Int)(f:Nat),0<=eB l f
 |[],f=>by simp[eB]
 |w::l,f=>by have:=iC l f;simp only[eB];split<;>omega
def nK:∀{l:List Int}{f:Nat},(1000+(f:Int))∉l->eB l f=0
 |[],f,_=>rfl
 |w::l,f,h=>by
  simp only[aV,vt]at h;simp only[eB,nK h.2];rw[ae (λe=>h.1 e.symm)];rfl
def uy:∀{l:List Int}{f:Nat},(1000+(f:Int))∈l->1<=eB l f
 |[],f,h=>by simp at h
 |w::l,f,h=>by
  simp only[eB];rcases List.mem_cons.1 h with rfl|h
  .rw[an rfl];have:=iC l f;omega
  .have:=uy h;split<;>omega
def OE{l:List Int}(h:0<eB l f):(1000+(f:Int))∈l:=
 dP λa=>by rw[nK a]at h;omega
def Sp(n:Nat)(f:Nat):eB (dk n) f=0:=nK λh=>by have:=Vl h;omega
def vS:∀(l:List Int)(f:Nat),eB (kU l) f=eB l f
 |[],f=>rfl
 |w::l,f=>by
  have:=vS l f;simp only[kU]at this⊢;rw[List.filter_cons];split
  .simp only[eB,this]
  .rename_i h;simp only[eB,this];rw[ae (λe=>h bE)];omega
def km:∀(l:List Int)(f:Nat),eB l f<=l.length
 |[],f=>by simp[eB]
 |w::l,f=>by have:=km l f;simp only[eB,aZ];split<;>omega
def uA:∀(h k:List bM)(f:Nat),eg (h++k) f=eg h f+eg k f
 |[],k,f=>by simp[eg]
 |c::h,k,f=>by simp only[cZ,eg,uA h k f];omega
def qR:∀(h:List bM)(f:Nat),0<=eg h f
 |[],f=>by simp[eg]
 |c::h,f=>by have:=qR h f;have:=iC c.aE f;simp only[eg];omega
def Ab:∀{h:List bM}{f:Nat}{c:bM}(e:bM)(_:h[f]? =some c)(b:Nat),eg (h.set f e) b=eg h b -eB c.aE b+eB e.aE b
 |[],f,c,e,h,b=>by simp at h
 |d::h,0,c,e,g,b=>by simp at g;subst g;simp only[iy,eg];omega
 |d::h,f+1,c,e,g,b=>by
  have:=Ab (h:=h) (f:=f) e (by simpa using g) b;simp only[jm,eg,this];omega
def Lk:∀{h:List bM}{f:Nat},0<eg h f->∃c∈h,(1000+(f:Int))∈c.aE
 |[],f,h=>by simp[eg]at h
 |c::h,f,e=>by
  simp only[eg]at e;rcases dQ (0<eB c.aE f)with b|b
  .exact⟨c,bg,OE b⟩
  .let⟨d,hd,g⟩:=Lk (h:=h) (f:=f) (oh (iC c.aE f));exact⟨d,ai _ hd,g⟩
def RK:∀{h:List bM}{c:bM}(_:c∈h)(f:Nat),eB c.aE f<=eg h f
 |[],c,a,f=>by simp at a
 |d::h,c,a,f=>by
  simp only[eg];rcases List.mem_cons.1 a with rfl|a
  .have:=qR h f;omega
  .have:=RK a f;have:=iC d.aE f;omega
structure nZ(h:List bM)(c:bM):Prop where
 fl:c.aE.length<=3
 lo: -1<=c.aP
 hi:c.aP<=999999
 wL:c.aP<1->c.j8=0/\(∀w∈c.aE,w=0)/\(c.aP=0->c.aE=[])
 oL:0<c.aP->(∀w∈c.aE,qy h w)/\0<=c.j8/\c.j8<=99
def SG(h:List bM):Prop:=∃a:Nat->Nat,∀(i:Nat)(c:bM),h[i]? =some c->∀w∈c.aE,1000<=w->a (ix w)<a i
structure fL(h:List bM)(e:Nat->Int):Prop where
 cell:∀c∈h,nZ h c
 Mp:SG h
 ex:∀(f:Nat)(c:bM),h[f]? =some c->0<c.aP->c.aP=eg h f+e f
 nn:∀f,0<=e f
 lv:∀f,0<e f->fO h f
def fL.congr(c:fL h e)(a:∀b,e' b=e b):fL h e':=by
 have:e'=e:=funext a;rw[this];exact c
def ly(f:Nat):ix (1000+(f:Int))=f:=by unfold ix;omega
def ij(h:1000<=w):1000+((ix w:Nat):Int)=w:=by unfold ix;omega
def QR{v:Int}(a:1000<=v)(b:1000<=w)(h:ix v=ix w):v=w:=by rw[<-ij a,<-ij b,h]
def fL.field(i:fL h e)(g:c∈h)(f:w∈c.aE)(j:1000<=w):fX h w:=by
 have d:=i.cell c g;rcases dQ (0<c.aP)with b|b
 .rcases(d.oL b).1 w f with a|a
  .have:=a.2;omega
  .exact a
 .have:=(d.wL V).2.1 w f;omega
def fL.Xa(d:fL h e)(g:¬fO h f):eg h f=0:=by
 rcases dQ (0<eg h f)with a|a
 .let⟨c,b,i⟩:=Lk a;have:=(d.field b i V).2;rw[ly]at this;exact absurd this g
 .have:=qR h f;omega
def fL.Yy(a:fL h e)(c:¬fO h f):e f=0:=by
 have:=a.nn f;rcases dQ (0<e f)with b|b
 .exact absurd (a.lv f b) c
 .omega
def iB(a:b≠f):(h.set f c)[b]? =h[b]? :=by rw[cr (λe=>a e.symm)]
def eI(hd:h[f]? =some d):(h.set f c)[f]? =some c:=by
 rw[dx (av hd)]
def fO.ne(a:b≠f):fO (h.set f c) b<->fO h b:=by unfold fO;rw[iB a]
def fO.yB(hd:h[f]? =some d):fO (h.set f c) f<->0<c.aP:=by
 unfold fO;rw[eI hd];simp
def qy.mono(c:qy h w)(b:1000<=w->fO h (ix w)->fO g (ix w)):qy g w:=by
 rcases c with a|a
 .exact Or.inl a
 .exact Or.inr ⟨a.1,b a.1 a.2⟩
def nZ.mono{h g:List bM}{c:bM}(a:nZ h c)(e:0<c.aP->∀w∈c.aE,1000<=w->fO h (ix w)->fO g (ix w)):nZ g c:=
 ⟨a.fl,a.lo,a.hi,a.wL,λb=>⟨λw d=>((a.oL b).1 w d).mono (e b w d),(a.oL b).2⟩⟩
def nJ{x:bM}(i:x∈h.set f c):x=c\/∃b,b≠f/\h[b]? =some x:=by
 let⟨b,a⟩:=List.mem_iff_getElem?.1 i;by_cases e:b=f
 .subst e;rw[List.getElem?_set_self']at a;cases g:h[b]? with
  |none=>simp[g]at a
  |some d=>simp[g]at a;exact Or.inl a.symm
 .rw[iB e]at a;exact Or.inr ⟨b,e,a⟩
def fL.Kg(j:fL h e)(g:h[f]? =some c)(i:0<c.aP){n:Int}(v:0<n)(u:n<=999999)
 (m:∀b,e' b=e b+if b=f then n -c.aP else 0)(s:0<=e' f):fL (h.set f {c with aP:=n}) e':=by
 have p:∀b,fO (h.set f {c with aP:=n}) b<->fO h b:=λb=>by
  by_cases a:b=f
  .subst a;rw[fO.yB g];exact⟨λ_=>⟨c,g,i⟩,λ_=>v⟩
  .exact fO.ne a
 have x:∀b,eg (h.set f {c with aP:=n}) b=eg h b:=λb=>by rw[Ab _ g];simp only[];omega
 refine⟨λA y=>?_,?_,λb d hd t=>?_,λb=>?_,λb l=>?_⟩
 .rcases nJ y with rfl|⟨b,_,l⟩
  .have q:=j.cell c (aq g)
   exact⟨q.fl,by simp only[];omega,u,λr=>by simp only[]at r;omega,λ_=>⟨λw k=>((q.oL i).1 w k).mono λ_ o=>(p _).2 o,(q.oL i).2⟩⟩
  .exact(j.cell A (aq l)).mono λ_ w _ _ o=>(p _).2 o
 .let⟨z,r⟩:=j.Mp
  refine⟨z,λo d hd w k i=>?_⟩
  by_cases q:o=f
  .subst q;rw[eI g]at hd;simp at hd;subst hd;exact r o c g w k i
  .rw[iB q]at hd;exact r o d hd w k i
 .rw[x,m]
  by_cases a:b=f
  .subst a;rw[eI g]at hd;simp at hd;subst hd
   have:=j.ex b c g i
   simp only[an];omega
  .rw[iB a]at hd
   have:=j.ex b d hd t
   rw[ae a];omega
 .by_cases a:b=f
  .subst a;exact s
  .rw[m,ae a];have:=j.nn b;omega
 .rw[p]
  by_cases a:b=f
  .subst a;exact⟨c,g,i⟩
  .rw[m,ae a]at l;exact j.lv b V
def fL.QO(j:fL h e)(m:h[f]? =some c)(I:c.aP=1)(J:0<e f){c':bM}(C: -1<=c'.aP)(L:c'.aP<1)(G:c'.j8=0)
 (r:∀w∈c'.aE,w=0)(B:c'.aE.length<=3)(A:c'.aP=0->c'.aE=[])
 (p:∀b,e' b=e b -(if b=f then 1 else 0)+eB c.aE b):fL (h.set f c') e':=by
 have o:=j.ex f c m V
 have O:=qR h f
 have N:eg h f=0:=V
 have K:e f=1:=V
 have u:∀x∈h,(1000+(f:Int))∉x.aE:=λx o g=>by
  have:=RK o f;have:=uy g;omega
 have M:eB c.aE f=0:=nK (u c (aq m))
 have E:∀b,eB c'.aE b=0:=λb=>nK λg=>by have:=r _ g;omega
 have t:∀b,b≠f->fO h b->fO (h.set f c') b:=λb i q=>(fO.ne i).2 q
 have D:∀x∈h,∀w∈x.aE,1000<=w->ix w≠f:=λx o w g n y=>by
  have:=ij n;rw[y]at this;rw[<-this]at g;exact u x o g
 refine⟨λx o=>?_,?_,λb d hd z=>?_,λb=>?_,λb k=>?_⟩
 .rcases nJ o with rfl|⟨b,_,k⟩
  .exact⟨B,C,V,λ_=>⟨G,r,A⟩,λn=>V⟩
  .exact(j.cell x (aq k)).mono λ_ w g n q=>t _ (D x (aq k) w g n) q
 .let⟨H,F⟩:=j.Mp
  refine⟨H,λv d hd w g n=>?_⟩
  by_cases s:v=f
  .subst s;rw[eI m]at hd;simp at hd;subst hd;have:=r w g;omega
  .rw[iB s]at hd;exact F v d hd w g n
 .rw[Ab _ m,E,p]
  by_cases i:b=f
  .subst i;rw[eI m]at hd;simp at hd;subst hd;omega
  .rw[iB i]at hd
   have:=j.ex b d hd z
   rw[ae i];omega
 .rw[p]
  have:=j.nn b
  have:=iC c.aE b
  split
  .rename_i i;subst i;omega
  .omega
 .rw[p]at k
  by_cases i:b=f
  .subst i;rw[an rfl]at k;omega
  .rw[ae i]at k
   refine t b i ?_
   rcases dQ (0<e b)with s|s
   .exact j.lv b s
   .have:=j.nn b
    have g:=OE (l:=c.aE) (f:=b) V
    have:=(j.field (aq m) g V).2
    rwa[ly]at this
def fL.make(l:fL h e){v:Int}{c:List Int}(r:¬fO h f)(p:g[f]? =some ⟨1,v,c⟩)(o:∀b,b≠f->g[b]? =h[b]?)
 (E:∀b,eg g b=eg h b+eB c b)(z:∀w∈c,qy h w)(C:c.length<=3)(G:0<=v/\v<=99)(x:∀b,eB c b<=e b)
 (t:∀b,e' b=e b -eB c b+if b=f then 1 else 0):fL g e':=by
 have u:∀b,fO h b->fO g b:=λb i=>by
  by_cases a:b=f
  .subst a;exact absurd i r
  .unfold fO;rw[o b a];exact i
 have L:=l.Yy r
 have N:=l.Xa r
 have M:eB c f=0:=by have:=iC c f;have:=x f;omega
 refine⟨λK I=>?_,?_,λb d hd B=>?_,λb=>?_,λb j=>?_⟩
 .let⟨b,j⟩:=List.mem_iff_getElem?.1 I
  by_cases a:b=f
  .subst a;rw[p]at j;simp at j;subst j
   exact⟨C,aL,aL,sx,λ_=>⟨λw n=>(z w n).mono λ_ i=>u _ i,G⟩⟩
  .rw[o b a]at j
   exact(l.cell K (aq j)).mono λ_ w _ _ i=>u _ i
 .let⟨s,F⟩:=l.Mp
  refine⟨λk=>if k=f then(c.map λw=>s (ix w)).sum+1 else s k,λk d hd w n y=>?_⟩
  have H:ix w≠f:=λA=>by
   have D:fX h w:=by
    by_cases m:k=f
    .subst m;rw[p]at hd;simp at hd;subst hd;rcases z w n with q|q
     .have:=q.2;omega
     .exact q
    .rw[o k m]at hd;exact l.field (aq hd) n y
   exact r (A▸D.2)
  simp only[ae H]
  by_cases m:k=f
  .subst m;rw[p]at hd;simp at hd;subst hd
   rw[an rfl]
   have:∀(q:List Int),w∈q->s (ix w)<=(q.map λw=>s (ix w)).sum:=by
    intro q i;induction q with
    |nil=>simp at i
    |cons O q J=>
     simp only[cK,List.sum_cons];rcases List.mem_cons.1 i with rfl|i
     .omega
     .have:=J i;omega
   have:=this c n;omega
  .rw[ae m];rw[o k m]at hd;exact F k d hd w n y
 .rw[E,t]
  by_cases a:b=f
  .subst a;rw[p]at hd;simp at hd;subst hd
   rw[an rfl];simp only[];omega
  .rw[o b a]at hd
   have:=l.ex b d hd B
   rw[ae a];omega
 .rw[t];have:=x b;split<;>omega
 .rw[t]at j
  by_cases a:b=f
  .subst a;exact⟨_,p,aL⟩
  .rw[ae a]at j
   exact u b (l.lv b (oh (iC c b)))
def fL.gY:∀(n:Nat)(h:List bM)(o:List Int)(e:Nat->Int),Ca h+o.length<=n->fL h (λb=>e b+eB o b)->(∀b,0<=e b)->fL (gY h o) e
 |n,h,[],e,_,a,_=>by rw[sQ];exact a.congr λb=>by simp[eB]
 |n,h,w::r,e,f,a,d=>by
  rcases dQ (fX h w)with c|c
  .let⟨g,m⟩:=bS c;have s:=ij c.1;have l:∀b,eB (w::r) b=(if b=ix w then 1 else 0)+eB r b:=λb=>by
    simp only[eB];congr 1;by_cases k:b=ix w
    .subst k;rw[an s.symm,an rfl]
    .rw[ae k,ae (λi=>k (by rw[i,ly]))]
   have p:=kj (d:=iY) g;by_cases j:(aM h w).aP=1
   .rw[sR c j];simp only[an m,iY]at p;simp at p;cases n with
    |zero=>simp at f
    |succ n=>
    refine fL.gY n _ _ e ?_ (fL.QO a g j ?_ bh bh rfl (by simp[iY]) (by simp[iY]) (λ_=>rfl) λb=>?_) d
    .simp[iY]at f⊢;omega
    .simp only[l,an];have:=d (ix w);have:=iC r (ix w);omega
    .simp only[l,lR,zX];omega
   .rw[qe c j];have q:=kj (d:={aM h w with aP:=(aM h w).aP -1}) g;simp only[an m]at q;rw[an V]at q;have t:=(a.cell _ (aq g)).hi;cases n with
    |zero=>simp at f
    |succ n=>
    refine fL.gY n _ _ e ?_ (fL.Kg a g m V V (λb=>?_) ?_) d
    .simp only[aZ]at f;simp only[fg];omega
    .simp only[l];split<;>omega
    .have:=d (ix w);have:=iC r (ix w);omega
  .rw[qj c];cases n with
   |zero=>simp at f
   |succ n=>
   refine fL.gY n _ _ e (by simp at f;omega) (a.congr λb=>?_) d;simp only[eB];rw[ae]
   .omega
   .intro i;have:=a.lv b (by simp only[eB,an i];have:=d b;have:=iC r b;omega);exact c ⟨V,by rw[i,ly];exact this⟩
def tK(h:List bM):∀n,jg h n<=n
 |0=>ad _
 |n+1=>by
  simp only[jg];have:=tK h n;split
  .split<;>omega
  .omega
def tJ(h:List bM):∀(n k:Nat)(c:bM),jg h n<=k->k<n->h[k]? =some c->c.aP=0
 |0,k,c,_,d,_=>V
 |n+1,k,c,a,e,b=>by
  simp only[jg]at a;by_cases d:k=n
  .subst d;rw[b]at a;simp only[]at a;split at a
   .assumption
   .omega
  .split at a
   .split at a
    .exact tJ h n k c a V b
    .omega
   .exact tJ h n k c a V b
def Md(h:List bM):∀(n:Nat)(c:bM),n<=h.length->h[jg h n -1]? =some c->0<jg h n->c.aP≠0
 |0,c,_,_,b=>by simp[jg]at b
 |n+1,c,f,a,b=>by
  simp only[jg]at a b;let⟨d,hd⟩:=cG h n;rw[hd]at a b;simp only[]at a b;split at a
  .rename_i e;rw[an e]at b;exact Md h n c V a b
  .rename_i e;simp at a;rw[hd]at a;simp at a;subst a;exact e
def nR(h:List bM):Prop:=∀c,h[h.length -1]? =some c->c.aP≠0
def Hc(h:List bM):nR (nm h):=by
 intro c a;have d:=tK h h.length;unfold nm at a;rw[gH,jb d]at a;rcases jX (jg h h.length)with b|b
 .rw[b]at a;simp at a
 .rw[dG V]at a;exact Md h _ c (ad _) a b
def NG:∀{h:List bM},(∀c∈h,c.aE=[])->∀f,eg h f=0
 |[],_,f=>rfl
 |c::h,a,f=>by simp only[eg,a c bg,eB,NG (λd hd=>a d (ai _ hd)) f];rfl
def fL.nm{h:List bM}{e:Nat->Int}(d:fL h e):fL (nm h) e:=by
 have u:=tK h h.length;have q:∀(b:Nat)(c:bM),h[b]? =some c->c.aP≠0->b<jg h h.length:=λb c a i=>
  dP λv=>i (tJ h h.length b c V (av a) a)
 have k:∀(b:Nat)(c:bM),(Go.Proofs.YtkicoahejfbjhaaGreat.nm h)[b]? =some c->h[b]? =some c:=λb c a=>by
  unfold Go.Proofs.YtkicoahejfbjhaaGreat.nm at a;have:=av a;rw[gH]at this;rwa[dG V]at a
 have l:∀b,fO h b->fO (Go.Proofs.YtkicoahejfbjhaaGreat.nm h) b:=λb⟨c,a,j⟩=>⟨c,by
  unfold Go.Proofs.YtkicoahejfbjhaaGreat.nm;rw[dG (q b c a V)];exact a,j⟩
 have s:∀b,eg (Go.Proofs.YtkicoahejfbjhaaGreat.nm h) b=eg h b:=λb=>by
  have m:h=Go.Proofs.YtkicoahejfbjhaaGreat.nm h++h.drop (jg h h.length):=(dm _ _).symm;have n:eg (h.drop (jg h h.length)) b=0:=NG (λc a=>by
   let⟨o,g⟩:=List.mem_iff_getElem?.1 a;rw[rW]at g;have i:=tJ h h.length _ c V (av g) g;exact((d.cell c (aq g)).wL V).2.2 i) b
  have o:=pV (λg=>eg g b) m;simp only[uA,n]at o;omega
 refine⟨λc a=>?_,?_,λf c a j=>?_,d.nn,λf p=>l f (d.lv f p)⟩
 .let⟨b,g⟩:=List.mem_iff_getElem?.1 a;exact(d.cell c (aq (k b c g))).mono λ_ w _ _ r=>l _ r
 .let⟨t,r⟩:=d.Mp;exact⟨t,λg c a=>r g c (k g c a)⟩
 .rw[s];exact d.ex f c (k f c a) j
end
section
variable{l:List Int}{i x v r:Int}{b:Nat}{c:cN}{f:aX}{s:St}
def ou(b:0<=i)(c:i<l.length):l[i.toNat]? =some (aF l i):=by
 let⟨x,a⟩:=cG l i.toNat;simp[aF,a]
def XZ(h:l[b]? =some x):aF l b=x:=by simp[aF,h]
def Hv(h:l[i.toNat]? =some x):aF l i=x:=by simp[aF,h]
def fx(a:0<=i)(b:i<l.length):aF l i∈l:=iv (ou a b)
def jR(l:List Int)(i v:Int):(gQ l i v).length=l.length:=by simp[gQ]
def pD(h:x∈gQ l i v):x=v\/x∈l:=by
 rcases cB h with h|h
 .exact Or.inr h
 .exact Or.inl h
def Af(l:List Int)(i v:Int)(b:Nat):(gQ l i v)[b]? =if b=i.toNat/\b<l.length then some v else l[b]? :=by
 unfold gQ;by_cases h:b=i.toNat
 .subst h;by_cases a:i.toNat<l.length
  .rw[dx a,an ⟨rfl,a⟩]
  .rw[ae V,rE V]
 .rw[ae V,cr (λe=>h e.symm)]
def UA(a:0<=i)(b:i<l.length)(j:Int)(c:0<=j):aF (gQ l i v) j=if j=i then v else aF l j:=by
 unfold aF;rw[fR,fR,Af];by_cases h:j=i
 .subst h;rw[an rfl,an ⟨rfl,V⟩];rfl
 .rw[ae h,ae V]
def HQ:∀(ak aR:List Int)(b:Nat)(w o f e:Int)(a:Nat),ak[b]? =some f->aR[b]? =some e->
 de (ak.set b w) (aR.set b o) a=de ak aR a -(if f=1000+(a:Int)then e else 0)+(if w=1000+(a:Int)then o else 0)
 |[],aR,b,w,o,f,e,a,c,d=>by simp at c
 |r::g,[],b,w,o,f,e,a,c,d=>by simp at d
 |r::g,q::h,0,w,o,f,e,a,c,d=>by
  simp at c d;subst c;subst d;simp only[iy,de];omega
 |r::g,q::h,b+1,w,o,f,e,a,c,d=>by
  have:=HQ g h b w o f e a (by simpa using c) (by simpa using d);simp only[jm,de,this];omega
def TZ(h:l[b]? =some x):l.set b x=l:=by
 apply gU;intro i;by_cases a:b=i
 .subst a;rw[dx (av h),h]
 .rw[cr a]
def HP{ak aR:List Int}(c:0<=r)(d:r<ak.length)(e:r<aR.length)(o:Int)(a:Nat):
 de ak (gQ aR r o) a=de ak aR a+(if aF ak r=1000+(a:Int)then o -aF aR r else 0):=by
 have b:=ou c d
 have:=HQ ak aR r.toNat (aF ak r) o _ _ a b (ou c e)
 rw[TZ b]at this
 rw[gQ,this];split<;>omega
def NB{ak aR:List Int}(b:0<=r)(c:r<ak.length)(d:r<aR.length)(e:aF aR r=0)(w o:Int)(a:Nat):
 de (gQ ak r w) (gQ aR r o) a=de ak aR a+(if w=1000+(a:Int)then o else 0):=by
 have:=HQ ak aR r.toNat w o _ _ a (ou b c) (ou b d)
 rw[gQ,gQ,this,e];split<;>omega
def tn:∀{ak aR:List Int},(∀o∈aR,0<=o)->∀a,0<=de ak aR a
 |[],aR,h,a=>by cases aR<;>simp[de]
 |r::b,[],h,a=>by simp[de]
 |r::b,o::d,h,a=>by
  have:=tn (ak:=b) (aR:=d) (λx c=>h x (ai _ c)) a;have:=h o bg;simp only[de];split<;>omega
def tq:∀{ak aR:List Int},R1 aR->∀a,de ak aR a=0
 |[],aR,h,a=>by cases aR<;>simp[de]
 |r::b,[],h,a=>by simp[de]
 |r::b,o::d,h,a=>by
  have:=tq (ak:=b) (aR:=d) (λx c=>h x (ai _ c)) a;have:=h o bg;simp only[de,this];split<;>omega
def FZ:∀{c o1:List Int}(b o2:List Int),c.length=o1.length->∀a,de (c++b) (o1++o2) a=de c o1 a+de b o2 a
 |[],[],b,o2,_,a=>by simp[de]
 |[],_::_,_,_,h,_=>by simp at h
 |_::_,[],_,_,h,_=>by simp at h
 |r::e,o::d,b,o2,h,a=>by
  have:=FZ (c:=e) (o1:=d) b o2 (by simpa using h) a;simp only[cZ,de,this];omega
def Lg:∀{ak aR:List Int}{b:Nat}{w o:Int}(_:∀o∈aR,0<=o)(_:ak[b]? =some w)(_:aR[b]? =some o){d:Nat}(_:w=1000+(d:Int)),o<=de ak aR d
 |[],_,_,_,_,_,a,_,_,_=>by simp at a
 |_::_,[],_,_,_,_,_,c,_,_=>by simp at c
 |r::i,q::h,0,w,o,e,a,c,d,f=>by
  simp at a c;subst a;subst c;have:=tn (ak:=i) (aR:=h) (λx g=>e x (ai _ g)) d;simp only[de,an f];omega
 |r::i,q::h,b+1,w,o,e,a,c,d,f=>by
  have:=Lg (ak:=i) (aR:=h) (b:=b) (λx g=>e x (ai _ g)) (by simpa using a) (by simpa using c) f;have:=e q bg;simp only[de];split<;>omega
def fW:∀(l r:List aX)(a:Nat),fA (l++r) a=fA l a+fA r a
 |[],r,a=>by simp[fA]
 |f::l,r,a=>by simp only[cZ,fA,fW l r a];omega
def kN(f:aX)(a:Nat):fA [f] a=de f.ak f.aR a:=by simp[fA]
def eJ:∀(l r:List aX)(a:Nat),holds (l++r) a=holds l a+holds r a
 |[],r,a=>by simp[holds]
 |f::l,r,a=>by simp only[cZ,holds,eJ l r a];omega
def iX(f:aX)(a:Nat):holds [f] a=eB f.ba a:=by simp[holds]
def vE:∀(l:List aX)(a:Nat),0<=holds l a
 |[],a=>by simp[holds]
 |f::l,a=>by have:=vE l a;have:=iC f.ba a;simp only[holds];omega
def jZ(ak:List Int):∀(a aR:List Int),(bD ak aR a).length=aR.length
 |[],aR=>rfl
 |r::a,aR=>by simp only[bD];rw[jZ ak a];split<;>simp[jR]
def xJ{ak:List Int}:∀(b aR:List Int),(∀r∈b,0<=r/\r<ak.length)->ak.length=aR.length->∀a,de ak (bD ak aR b) a=de ak aR a -eB (b.map (aF ak)) a
 |[],aR,_,_,a=>by simp[bD,eB]
 |r::b,aR,h,c,a=>by
  have e:=h r bg;have f:=λaR c=>xJ (ak:=ak) b aR (λx d=>h x (ai _ d)) c a;simp only[bD,cK,eB];by_cases d:1000<=aF ak r
  .rw[an d,f _ (by rw[jR];exact c),HP e.1 e.2 V];split<;>omega
  .rw[ae d,f _ c,ae V];omega
def kX{ak:List Int}:∀(c aR:List Int)(b:Nat)(o:Int),(bD ak aR c)[b]? =some o->∃q,aR[b]? =some q/\o<=q
 |[],aR,b,o,h=>⟨o,h,dg _⟩
 |r::c,aR,b,o,h=>by
  simp only[bD]at h;let⟨q,a,e⟩:=kX c _ b o h;split at a
  .rw[Af]at a;split at a
   .rename_i d;let⟨y,f⟩:=dB d.2;have g:aF aR r=y:=by rw[aF,fR,<-d.1,f];rfl
    simp at a;exact⟨y,f,V⟩
   .exact⟨q,a,e⟩
  .exact⟨q,a,e⟩
def lL:∀(a aR:List Int),(dE aR a).length=aR.length
 |[],aR=>rfl
 |r::a,aR=>by simp only[dE];rw[lL a,jR]
def Fp{ak:List Int}:∀(b aR:List Int),(∀r∈b,0<=r/\r<ak.length)->ak.length=aR.length->∀a,de ak (dE aR b) a=de ak aR a+eB (b.map (aF ak)) a
 |[],aR,_,_,a=>by simp[dE,eB]
 |r::b,aR,h,d,a=>by
  have c:=h r bg;simp only[dE,cK,eB];rw[Fp (ak:=ak) b _ (λx e=>h x (ai _ e)) (by rw[jR];exact d) a,HP c.1 c.2 V];split<;>omega
def Kw{ak:List Int}:∀(d aR:List Int),(∀r∈d,0<=r/\r<aR.length/\1000<=aF ak r)->
 (∀(b:Nat)(o w:Int),aR[b]? =some o->ak[b]? =some w->0<=o/\(0<o->1000<=w))->∀(b:Nat)(o w:Int),(dE aR d)[b]? =some o->ak[b]? =some w->0<=o/\(0<o->1000<=w)
 |[],aR,_,h,b,o,w,a,c=>h b o w a c
 |r::d,aR,g,h,b,o,w,a,c=>by
  refine Kw (ak:=ak) d (gQ aR r (aF aR r+1)) (λx e=>by rw[jR];exact g x (ai _ e)) (λb o w a c=>?_) b o w a c;rw[Af]at a;split at a
  .rename_i f;have e:=g r bg;have i:aF ak r=w:=by rw[aF,fR,<-f.1,c];rfl
   have j:=h b (aF aR r) w (by rw[f.1];exact ou e.1 e.2.1) c;simp at a;exact⟨V,λ_=>V⟩
  .exact h b o w a c
def fN(h:List bM)(a:Nat):Prop:=∃c,h[a]? =some c/\c.aP<0
structure iz(c:cN)(f:aX):Prop where
 fE:0<=f.fE/\f.fE<c.cF.length
 pc:0<=f.pc/\f.pc<(dN c f.fE).dq.length
 lr:(f.ak.length:Int)=(dN c f.fE).ak
 lo:(f.aR.length:Int)=(dN c f.fE).ak
 lh:(f.ba.length:Int)=(dN c f.fE).ak
 RL:∀w∈f.ak,gK w\/1000<=w
 aR:∀(b:Nat)(o w:Int),f.aR[b]? =some o->f.ak[b]? =some w->0<=o/\(0<o->1000<=w)
 ba:∀w∈f.ba,w=0\/1000<=w
structure cU(c:cN)(s:St):Prop where
 fy:nj c
 cz:0<=s.cz/\s.cz<=3
 done:s.cz=0<->s.ao=[]
 value:gK s.value
 tO:s.value≠0->s.cz=0
 dR:0<=s.dR/\s.dR<=40
 bu:0<=s.bu/\s.bu<=s.dR
 depth:(s.ao.length:Int)<=s.bu+1
 aT:∀n∈s.aT,gK n
 heap:fL s.heap (fA s.ao)
 jy:nR s.heap
 ao:∀f∈s.ao,iz c f
 first:∀f,s.ao[0]? =some f->f.dst=0
 chain:∀(b:Nat)(f g:aX),s.ao[b]? =some f->s.ao[b+1]? =some g->0<=g.dst/\g.dst<f.aR.length/\aF f.aR g.dst=0
 kZ:∀a,fN s.heap a->holds s.ao a=1
 ng:∀a,¬fN s.heap a->holds s.ao a=0
def iz.PK(h:iz c f):∀o∈f.aR,0<=o:=λo d=>by
 let⟨b,a⟩:=List.mem_iff_getElem?.1 d;have g:=av a;have:=h.lo;have:=h.lr;let⟨w,e⟩:=cG f.ak b;exact(h.aR b o w a e).1
def Kf{c:cN}:∀{b:List aX},(∀f∈b,iz c f)->∀a,0<=fA b a
 |[],_,a=>by simp[fA]
 |f::b,h,a=>by
  have:=Kf (λg d=>h g (ai _ d)) a;have:=tn (ak:=f.ak) (h f bg).PK a;simp only[fA];omega
def cU.split(h:cU c s)(b:s.cz=3):∃a f,s.ao=a++[f]:=by
 have:s.ao≠[]:=λe=>by have:=h.done.2 e;omega
 exact⟨s.ao.dropLast,s.ao.getLast this,(fq this).symm⟩
def iz.Jd(j:nj c)(h:iz c f):∃p,c.cF[f.fE.toNat]? =some p/\dN c f.fE=p/\Hr c p/\p.dq[f.pc.toNat]? =some (eu c f)/\iO c p f.pc.toNat (eu c f):=by
 let⟨p,b⟩:=cG c.cF f.fE.toNat (oh h.fE);have e:dN c f.fE=p:=by simp[dN,b]
 have g:=j.dz p (aq b);have k:=h.pc;rw[e]at k;let⟨i,a⟩:=cG p.dq f.pc.toNat;have d:eu c f=i:=by simp[eu,e,a]
 exact⟨p,b,e,g,d▸a,d▸g.dz _ _ a⟩
def cU.fS(h:cU c s)(A:s.cz=3){e:List aX}{g:aX}(k:s.ao=e++[f]){d:List bM}{aT:List Int}(o:iz c g)(hd:g.dst=f.dst)
 (r:fL d (fA (e++[g])))(w:nR d)(t:∀a,fN d a->holds (e++[g]) a=1)(x:∀a,¬fN d a->holds (e++[g]) a=0)(v:∀n∈aT,gK n){bu:Int}(n:s.bu<=bu/\bu<=s.dR):
 cU c {s with heap:=d,aT:=aT,bu:=bu,ao:=e++[g]}:=by
 have z:=h.bu
 have m:=h.depth
 rw[k]at m
 refine⟨h.fy,h.cz,⟨λj=>by simp at j;omega,sx⟩,h.value,h.tO,h.dR,⟨by simp only[];omega,n.2⟩,by simp at m⊢;omega,v,r,w,λq a=>?_,λq a=>?_,λb p q d a=>?_,t,x⟩
 .rcases List.mem_append.1 a with a|a
  .exact h.ao q (by rw[k];exact bI _ a)
  .simp at a;subst a;exact o
 .have i:=h.first
  rw[k]at i
  cases e with
  |nil=>simp at a;subst a;rw[hd];exact i f aL
  |cons y l=>simp at a;subst a;exact i y aL
 .have l:=h.chain b
  rw[k]at l
  simp only[]at d a
  have u:=av a
  simp at u
  rw[ax V]at d
  rcases aW (b+1) e.length with i|i
  .rw[ax i]at a
   exact l p q (by rw[ax V];exact d) (by rw[ax i];exact a)
  .rw[aI i]at a
   have j:b+1 -e.length=0:=V
   rw[j]at a;simp at a;subst a
   rw[hd]
   exact l p f (by rw[ax V];exact d) (by rw[aI i,j];rfl)
end
section
variable{h:List bM}{a:Nat}{c d:bM}{w:Int}{e e':Nat->Int}
def fN.ne{b:Nat}(d:b≠a):fN (h.set a c) b<->fN h b:=by unfold fN;rw[iB d]
def fN.yB(hd:h[a]? =some d):fN (h.set a c) a<->c.aP<0:=by unfold fN;rw[eI hd];simp
def fN.set(hd:h[a]? =some d)(i:0<=d.aP)(j:0<=c.aP)(b:Nat):fN (h.set a c) b<->fN h b:=by
 by_cases g:b=a
 .subst g;rw[fN.yB hd];refine⟨λk=>V,λ⟨e,f,l⟩=>?_⟩;rw[hd]at f;simp at f;subst f;omega
 .exact fN.ne g
def fN.Ub(e:fN h a):¬fO h a:=λ⟨c,b,g⟩=>by
 let⟨d,hd,f⟩:=e;rw[b]at hd;simp at hd;subst hd;omega
def fN.fg(c:fX h w)(b:Nat):fN (fg h w) b<->fN h b:=by
 let⟨a,d⟩:=bS c;exact fN.set a V (by simp only[];omega) b
def fN.mO(c:fX h w)(b:Nat):fN (mO h w) b<->fN h b:=by
 let⟨a,d⟩:=bS c;exact fN.set a V (by simp only[];omega) b
def fN.QO(c:fX h w)(b:Nat):fN (h.set (ix w) iY) b<->fN h b:=by
 let⟨a,d⟩:=bS c;exact fN.set a V (by simp[iY]) b
def fN.gY:∀(n:Nat)(h:List bM)(i:List Int),Ca h+i.length<=n->∀b,fN (gY h i) b<->fN h b
 |n,h,[],_,b=>by rw[sQ]
 |0,h,w::r,c,b=>by simp at c
 |n+1,h,w::r,c,b=>by
  simp only[aZ]at c;rcases dQ (fX h w)with a|a
  .let⟨f,g⟩:=bS a;by_cases d:(aM h w).aP=1
   .have e:=kj (d:=iY) f;simp only[an g,iY]at e;simp at e;rw[sR a d,fN.gY n _ _ (by simp[iY];omega) b,fN.QO a]
   .have e:=kj (d:={aM h w with aP:=(aM h w).aP -1}) f;simp only[an g]at e;rw[an V]at e;rw[qe a d,fN.gY n _ _ (by simp only[Go.Proofs.YtkicoahejfbjhaaGreat.fg];omega) b,fN.fg a]
  .rw[qj a,fN.gY n _ _ V b]
def fN.nm{h:List bM}(b:Nat):fN (nm h) b<->fN h b:=by
 have f:=tK h h.length;unfold fN Go.Proofs.YtkicoahejfbjhaaGreat.nm;constructor
 .rintro⟨c,a,d⟩;have:=av a;rw[gH]at this;rw[dG V]at a;exact⟨c,a,d⟩
 .rintro⟨c,a,d⟩;refine⟨c,?_,d⟩;rw[dG]
  .exact a
  .exact dP λe=>by have:=tJ h h.length b c V (av a) a;omega
def fL.mO(c:fL h e)(f:fX h w)(i:(aM h w).aP<999999)(a:∀b,e' b=e b+if b=ix w then 1 else 0):fL (mO h w) e':=by
 let⟨d,g⟩:=bS f;refine c.Kg d g V V (λb=>?_) ?_
 .rw[a];split<;>omega
 .rw[a];have:=c.nn (ix w);split<;>omega
def Pp(a:fX h w){v:Int}(d:1000<=v):(aM (mO h w) v).aP=(aM h v).aP+(if v=w then 1 else 0):=by
 let⟨c,f⟩:=bS a;unfold mO;by_cases e:v=w
 .subst e;rw[an rfl];conv=>lhs;unfold aM
  rw[eI c];rfl
 .rw[ae e];conv=>lhs;unfold aM
  rw[iB (λb=>e (QR d a.1 b))];simp[aM]
def fO.mO{h:List bM}{w:Int}(a:fX h w)(b:Nat):fO (mO h w) b<->fO h b:=by
 let⟨c,d⟩:=bS a;by_cases e:b=ix w
 .subst e;unfold Go.Proofs.YtkicoahejfbjhaaGreat.mO;rw[fO.yB c];exact⟨λ_=>a.2,λ_=>by simp only[];omega⟩
 .exact fO.ne e
def iS(d:1000<=w)(r:List Int)(b:Nat):eB (w::r) b=(if b=ix w then 1 else 0)+eB r b:=by
 simp only[eB];congr 1;have e:=ij d;by_cases a:b=ix w
 .subst a;rw[an e.symm,an rfl]
 .rw[ae a,ae (λc=>a (by rw[c,ly]))]
def fL.jd:∀(a:List Int)(h:List bM)(e e':Nat->Int),fL h e->(∀w∈a,fX h w/\(aM h w).aP+eB a (ix w)<=999999)->(∀b,e' b=e b+eB a b)->fL (jd h a) e'/\(∀b,fN (jd h a) b<->fN h b)/\(jd h a).length=h.length
 |[],h,e,e',i,_,g=>⟨i.congr λb=>by rw[g];simp[eB],λ_=>SE,rfl⟩
 |w::a,h,e,e',i,k,g=>by
  let⟨c,p⟩:=k w bg;rw[iS c.1,an rfl]at p;have:=iC a (ix w);let⟨m,n,o⟩:=fL.jd a (Go.Proofs.YtkicoahejfbjhaaGreat.mO h w) (λb=>e b+if b=ix w then 1 else 0) e' (i.mO c V λb=>rfl) (λv q=>by
   let⟨d,j⟩:=k v (ai _ q);refine⟨⟨d.1,(fO.mO c _).2 d.2⟩,?_⟩;rw[Pp c d.1];rw[iS c.1]at j;split
   .rename_i f;subst f;rw[an rfl]at j;omega
   .rename_i f;rw[ae (λl=>f (QR d.1 c.1 l))]at j;omega) (λb=>by rw[g,iS c.1];omega)
  refine⟨m,λb=>by rw[Go.Proofs.YtkicoahejfbjhaaGreat.jd,n,fN.mO c],by rw[Go.Proofs.YtkicoahejfbjhaaGreat.jd,o];simp[Go.Proofs.YtkicoahejfbjhaaGreat.mO]⟩
def lA{l:List Int}:w∈kU l<->w∈l/\1000<=w:=by simp[kU]
def fL.apart{h:List bM}{e e':Nat->Int}(j:fL h e){w:Int}(o:fX h w)(H:0<e (ix w))(t:(aM h w).aP=1\/lg h (aM h w).aE)
 (A:∀b,e' b=e b -(if b=ix w then 1 else 0)+eB (aM h w).aE b)(K:nR h):fL (apart h w) e'/\(∀b,fN (apart h w) b<->fN h b)/\nR (apart h w):=by
 let⟨g,J⟩:=bS o
 unfold Go.Proofs.YtkicoahejfbjhaaGreat.apart
 by_cases r:(aM h w).aP=1
 .rw[an r]
  exact⟨(j.QO g r H (c':=iY) bh bh rfl (by simp[iY]) (by simp[iY]) (λ_=>rfl) A).nm,λb=>by rw[fN.nm,fN.QO o],Hc _⟩
 .rw[ae r]
  have t:lg h (aM h w).aE:=by rcases t with m|m;exact absurd m r;exact m
  have Q:=(j.cell _ (aq g)).hi
  have I:fL (Go.Proofs.YtkicoahejfbjhaaGreat.fg h w) (λb=>e b -if b=ix w then 1 else 0):=j.Kg g J V V (λb=>by split<;>omega) bE
  have u:∀b,fO h b->fO (Go.Proofs.YtkicoahejfbjhaaGreat.fg h w) b:=λb f=>by
   by_cases k:b=ix w
   .subst k;unfold Go.Proofs.YtkicoahejfbjhaaGreat.fg;rw[fO.yB g];simp only[];omega
   .exact(fO.ne k).2 f
  let⟨m,y,z⟩:=fL.jd (kU (aM h w).aE) _ _ e' I (λv x=>by
   let⟨s,p⟩:=lA.1 x;have a:=j.field (aq g) s p;refine⟨⟨a.1,u _ a.2⟩,?_⟩;have:=t v s p;rw[vS];have O:(aM (Go.Proofs.YtkicoahejfbjhaaGreat.fg h w) v).aP<=(aM h v).aP:=by
    by_cases k:ix v=ix w
    .have i:=QR p o.1 k;subst i;unfold Go.Proofs.YtkicoahejfbjhaaGreat.fg;conv=>lhs;unfold aM
     rw[eI g];show(aM h v).aP -1<=(aM h v).aP;omega
    .unfold Go.Proofs.YtkicoahejfbjhaaGreat.fg;conv=>lhs;unfold aM
     rw[iB k];exact dg _
   omega) (λb=>by rw[A,vS])
  refine⟨m,λb=>by rw[y,fN.fg o],λc n=>?_⟩
  intro M
  rw[z]at n
  have B:(Go.Proofs.YtkicoahejfbjhaaGreat.fg h w).length=h.length:=by simp[Go.Proofs.YtkicoahejfbjhaaGreat.fg]
  rw[B]at n
  have f:=av n
  rw[z,B]at f
  let⟨d,hd⟩:=cG h (h.length -1)
  have N:=K d hd
  have G:=j.cell d (aq hd)
  have P:=G.lo
  rcases dQ (0<d.aP)with C|C
  .have F:∀(q:List Int)(l:List bM),(∀v∈q,fX l v)->∀b,fO l b->fO (Go.Proofs.YtkicoahejfbjhaaGreat.jd l q) b:=by
    intro q;induction q with
    |nil=>intro l _ b f;exact f
    |cons v q L=>
     intro l i b f;have a:=i v bg;exact L _ (λE D=>⟨(i E (ai _ D)).1,(fO.mO a _).2 (i E (ai _ D)).2⟩) b ((fO.mO a _).2 f)
   let⟨D,i,E⟩:=F (kU (aM h w).aE) (Go.Proofs.YtkicoahejfbjhaaGreat.fg h w) (λv x=>by
    let⟨s,p⟩:=lA.1 x;have a:=j.field (aq g) s p;exact⟨a.1,u _ a.2⟩) _ (u _ ⟨d,hd,C⟩)
   rw[n]at i;simp at i;subst i;omega
  .have l:fN h (h.length -1):=⟨d,hd,V⟩
   let⟨D,i,q⟩:=(y (h.length -1)).2 ((fN.fg o _).2 l)
   rw[n]at i;simp at i;subst i;omega
def qt:∀(h:List bM),dF h<=h.length
 |[]=>ad _
 |c::h=>by have:=qt h;simp only[dF,aZ];split<;>omega
def DM:∀(h:List bM)(c:bM),h[dF h]? =some c->c.aP=0
 |[],c,a=>by simp[dF]at a
 |d::h,c,a=>by
  simp only[dF]at a;split at a
  .rename_i b;simp at a;subst a;exact b
  .exact DM h c (by simpa using a)
def fL.alloc(k:fL h e){t:Int}{f:List Int}(s:∀w∈f,qy h w)(m:f.length<=3)(r:0<=t/\t<=99)(n:∀b,eB f b<=e b)
 (l:∀b,e' b=e b -eB f b+if b=dF h then 1 else 0)(u:nR h):
 fL (jc h (dF h) ⟨1,t,f⟩) e'/\(∀b,fN (jc h (dF h) ⟨1,t,f⟩) b<->fN h b)/\nR (jc h (dF h) ⟨1,t,f⟩):=by
 unfold jc
 have o:¬fO h (dF h):=λ⟨c,a,v⟩=>by have:=DM h c a;omega
 by_cases i:dF h=h.length
 .rw[an i]
  have q:(h++[⟨1,t,f⟩])[dF h]? =some ⟨1,t,f⟩:=by rw[i];simp
  have p:∀b,b≠dF h->(h++[⟨1,t,f⟩])[b]? =h[b]? :=λb g=>by
   rcases aW b h.length with j|j
   .rw[ax j]
   .rw[cO bE,cO j]
  refine⟨k.make o q p (λb=>by rw[uA];simp[eg]) s m r n l,λb=>?_,λc a=>?_⟩
  .by_cases g:b=dF h
   .rw[g];unfold fN;rw[q,i];simp
   .unfold fN;rw[p b g]
  .simp at a;subst a;simp
 .rw[ae i]
  have q:dF h<h.length:=by have:=qt h;omega
  let⟨d,hd⟩:=dB q
  have j:=DM h d hd
  have p:=((k.cell d (aq hd)).wL V).2.2 j
  refine⟨k.make o (eI hd) (λb g=>iB g) (λb=>by rw[Ab _ hd,p];simp[eB]) s m r n l,λb=>fN.set hd V aL b,λc a=>?_⟩
  rw[dZ]at a
  by_cases g:h.length -1=dF h
  .rw[g,eI hd]at a;simp at a;subst a;simp
  .rw[iB g]at a;exact u c a
end
section
variable{b:cN}{w:Int}{s:St}{f g:aX}
def Fa{b:cN}{x:Instr}:∀{l:List Int}{k:Nat}{r:Int},r∈iD b x k l->r∈l
 |[],k,r,h=>by simp[iD]at h
 |y::l,k,r,h=>by
  simp only[iD]at h;split at h
  .exact ai _ (Fa h)
  .rcases List.mem_cons.1 h with rfl|h
   .exact bg
   .exact ai _ (Fa h)
def BW{x:Instr}{r:Int}(h:r∈bU b x):r∈x.args:=by
 unfold bU at h;split at h
 .exact h
 split at h
 .exact dA h
 split at h
 .exact Fa h
 .simp at h
def I9{a:List bz}(h:dT a)(c:Int):(cD a c).length<=3:=by
 unfold cD;split
 .cases g:(eR a)[c.toNat]? with
  |none=>simp
  |some f=>
   have d:=aq g;unfold eR at d;let⟨e,hd,b⟩:=List.mem_flatMap.1 d;let⟨k,i⟩:=List.mem_iff_getElem?.1 hd;have:=(h.dz k e i).iV (List.length_pos_of_mem b);exact(this.2.2.2 f b).1
 .simp
def iz.put{b:cN}{g:aX}(h:iz b g){r w o:Int}(i:0<=r)(f:gK w\/1000<=w)(d:0<=o)(e:0<o->1000<=w):iz b (g.put r w o):=by
 refine⟨h.fE,h.pc,by simp only[aX.put,jR];exact h.lr,by simp only[aX.put,jR];exact h.lo,h.lh,λy a=>?_,λk q y c a=>?_,h.ba⟩
 .rcases pD a with rfl|a
  .exact f
  .exact h.RL y a
 .simp only[aX.put]at c a;rw[Af]at c a;have:=h.lr;have:=h.lo;split at c<;>split at a
  .simp at c a;subst c;subst a;exact⟨d,e⟩
  .omega
  .omega
  .exact h.aR k q y c a
def HT(w:Int):0<=gG w:=by unfold gG;split<;>omega
def DZ(h:0<gG w):1000<=w:=by unfold gG at h;split at h<;>omega
def wV(w:Int)(b:Nat):(if w=1000+(b:Int)then gG w else 0)=eB [w] b:=by
 simp only[eB,gG];split
 .rw[an V];rfl
 .rfl
def Hx(n:Int):gK (Fs n):=by unfold Fs gK;split<;>(try split)<;>omega
def PN(c a b:Int):gK (OH c a b):=by
 unfold OH;split
 .exact Hx _
 split
 .exact Hx _
 split
 .exact Hx _
 split<;>(unfold gK;omega)
def lS(cR:List Int):∀(a:List Int)(k:Nat),(dK cR k a).length=a.length
 |[],k=>rfl
 |w::a,k=>by simp only[dK,aZ,lS cR a]
def Jn(cR:List Int):∀(b:List Int)(k j:Nat)(o w:Int),(dK cR k b)[j]? =some o->b[j]? =some w->0<=o/\(0<o->1000<=w)
 |[],k,j,o,w,_,h=>by simp at h
 |v::b,k,0,o,w,a,c=>by
  simp[dK]at a c;subst c;split at a
  .subst a;omega
  .subst a;exact⟨HT _,DZ⟩
 |v::b,k,j+1,o,w,a,c=>Jn cR b (k+1) j o w (by simpa[dK]using a) (by simpa using c)
def ka(n:Nat):(dk n).length=n:=by simp[dk]
def qA{n:Nat}(h:w∈dk n):w=0:=Vl h
def ux{g j:Int}{d:List Int}{p:dy}(m:nj b)(l:0<=g)(h:b.cF[g.toNat]? =some p)(q:d.length=p.params.length)(n:∀w∈d,gK w\/1000<=w):iz b (bW b g j d):=by
 have e:dN b g=p:=by simp[dN,h]
 have i:=m.dz p (aq h);have t:=i.ak;have r:=i.len;have s:=av h;refine⟨⟨l,by simp only[bW];omega⟩,⟨by simp[bW],by simp only[bW,e];omega⟩,?_,?_,?_,λw a=>?_,λk o w c a=>?_,λw a=>Or.inl (qA a)⟩
 .simp only[bW,e,be,ka];omega
 .simp only[bW,e,be,ka,lS];omega
 .simp only[bW,e,ka];omega
 .simp only[bW]at a;rcases List.mem_append.1 a with a|a
  .exact n w a
  .rw[qA a];exact Or.inl (by unfold gK;omega)
 .simp only[bW]at c a;rcases aW k d.length with f|f
  .rw[ax (by rw[lS];exact f)]at c;rw[ax f]at a;exact Jn _ d 0 k o w c a
  .rw[aI (by rw[lS];exact f)]at c;rw[qA (iv c)];omega
def qP(b:cN)(g d:Int)(a:List Int)(c:Nat):de (bW b g d a).ak (bW b g d a).aR c=de a (dK (dN b g).cR 0 a) c:=by
 simp only[bW];rw[FZ _ _ (lS _ _ _).symm,tq (λn e=>qA e)];omega
def pE(b:cN)(g c:Int)(d:List Int)(a:Nat):holds [bW b g c d] a=0:=by
 rw[iX];exact Sp _ _
def HR{b:cN}{d:Instr}(f:aX):∀(e:List Int)(k:Nat)(a:Nat),de (cL f e) (dK (dN b d.bP).cR k (cL f e)) a=eB ((iD b d k e).map (aF f.ak)) a
 |[],k,a=>by simp[cL,de,iD,eB]
 |r::h,k,a=>by
  have g:=HR (b:=b) (d:=d) f h (k+1) a;simp only[cL,cK,dK,de,iD]at g⊢;rw[g];by_cases c:nu b d k=true
  .rw[an c];unfold nu at c;rw[an c];split<;>omega
  .rw[ae c];unfold nu at c;rw[ae c];simp only[cK,eB];have:=wV (aF f.ak r) a;simp only[eB]at this;omega
def Jo:∀(a:List Int)(k:Nat)(b:Nat),de a (dK [] k a) b=eB a b
 |[],k,b=>by simp[de,eB]
 |w::a,k,b=>by
  have:=Jo a (k+1) b;have c:=wV w b;simp only[eB]at c;simp only[dK,de,eB,this,Qh,ji,rG];omega
def cU.qu{e:List bM}{c:List aX}(i:cU b s)(l:s.ao=c++[f])(m:g.ba=f.ba)(j:∀a,fN e a<->fN s.heap a):
 (∀a,fN e a->holds (c++[g]) a=1)/\(∀a,¬fN e a->holds (c++[g]) a=0):=by
 have h:∀a,holds (c++[g]) a=holds s.ao a:=λa=>by rw[l,eJ,eJ,iX,iX,m]
 exact⟨λa d=>by rw[h];exact i.kZ a ((j a).1 d),λa d=>by rw[h];exact i.ng a λk=>d ((j a).2 k)⟩
def cU.push(h:cU b s)(C:s.cz=3){d:List aX}(e:s.ao=d++[f])(p:iz b g)(hd:0<=g.dst/\g.dst<f.aR.length/\aF f.aR g.dst=0){c:List bM}{bu:Int}
 (r:fL c (fA (d++[f,g])))(v:nR c)(t:∀a,fN c a->holds (d++[f,g]) a=1)(w:∀a,¬fN c a->holds (d++[f,g]) a=0)(z:bu=s.bu+1)(B:s.bu<s.dR):
 cU b {s with heap:=c,bu:=bu,ao:=d++[f,g]}:=by
 have A:=h.bu
 have m:=h.depth
 rw[e]at m
 refine⟨h.fy,h.cz,⟨λi=>by simp at i;omega,sx⟩,h.value,h.tO,h.dR,⟨by simp only[];omega,by simp only[];omega⟩,by simp at m⊢;omega,h.aT,r,v,λq a=>?_,λq a=>?_,λk x q c a=>?_,t,w⟩
 .rcases List.mem_append.1 a with a|a
  .exact h.ao q (by rw[e];exact bI _ a)
  .simp at a
   rcases a with rfl|rfl
   .exact h.ao _ (by rw[e];simp)
   .exact p
 .have j:=h.first
  rw[e]at j
  cases d with
  |nil=>simp at a;subst a;exact j f aL
  |cons y l=>simp at a;subst a;exact j y aL
 .have l:=h.chain k
  rw[e]at l
  simp only[]at c a
  have i:d++[f,g]=(d++[f])++[g]:=aL
  rw[i]at c a
  have u:=av a
  simp at u
  rw[ax bE]at c
  rcases aW (k+1) (d++[f]).length with j|j
  .rw[ax j]at a
   exact l x q c a
  .simp at j
   rw[aI bE]at a
   have n:k+1 -(d++[f]).length=0:=bE
   rw[n]at a;simp at a;subst a
   rw[aI V]at c
   have o:k -d.length=0:=V
   rw[o]at c;simp at c;subst c;exact hd
def QV{m:List aX}(d:cU b s)(R:s.cz=3)(p:s.ao=m++[f])
 (M:kT b s f (eu b f) (bD f.ak f.aR (bU b (eu b f))))(bi:¬(mS (eu b f).op/\s.bu=s.dR)):
 cU b (fj b s m f (eu b f) (bD f.ak f.aR (bU b (eu b f)))):=by
 have I:iz b f:=d.ao f (by rw[p];simp)
 let⟨ac,hp,aB,hP,a5,hI⟩:=I.Jd d.fy
 generalize eu b f=x at*
 have⟨lr,lo,lh⟩:(f.ak.length:Int)=ac.ak/\(f.aR.length:Int)=ac.ak/\(f.ba.length:Int)=ac.ak:=⟨aB▸I.lr,aB▸I.lo,aB▸I.lh⟩
 have al:∀q∈x.args,0<=q/\q<f.ak.length:=λq u=>by have:=hI.args q u;omega
 have a3:∀r∈bU b x,0<=r/\r<f.ak.length:=λr R=>al r (BW R)
 have bp:=xJ (ak:=f.ak) (bU b x) f.aR a3 V
 have bo:=jZ f.ak (bU b x) f.aR
 have bn:=kX (ak:=f.ak) (bU b x) f.aR
 generalize bD f.ak f.aR (bU b x)=aR at*
 have aH:∀D∈m,iz b D:=λD j=>d.ao D (by rw[p];exact bI _ j)
 have am:∀c,0<=fA m c+de f.ak aR c:=λc=>by
  have:=Kf aH c;have:=tn (ak:=f.ak) M.nn c;omega
 have E:fL s.heap (λc=>fA m c+de f.ak aR c+eB ((bU b x).map (aF f.ak)) c):=d.heap.congr λc=>by
  rw[p,fW,kN,bp];omega
 have bc:∀O:Int,0<=O->O<ac.dq.length->iz b {f with aR:=aR,pc:=O}:=λO h0 e=>
  ⟨I.fE,⟨h0,by rw[aB];exact e⟩,I.lr,by simp only[bo];exact I.lo,I.lh,I.RL,λy ab w W n=>by
   let⟨D,j,o⟩:=bn y ab W;have B:=I.aR y D w j n;exact⟨M.nn ab (iv W),λk=>B.2 V⟩,I.ba⟩
 have bq:=I.pc
 rw[aB]at bq
 have bb:x.op≠23->x.op≠24->f.pc+1<ac.dq.length:=λe B=>by
  rcases dQ (f.pc+1<ac.dq.length)with A|A
  .exact A
  .have T:f.pc.toNat=ac.dq.length -1:=V;rw[T]at a5;have:=hP.MF x a5;omega
 have Z:x.op≠23->x.op≠24->iz b {f with aR:=aR,pc:=f.pc+1}:=λe B=>bc _ V (bb e B)
 have ar:∀r:Int,0<=r->r<f.ak.length->gK (aF f.ak r)\/1000<=aF f.ak r:=λr h0 e=>I.RL _ (fx h0 e)
 have a8:∀r:Int,0<=r->r<f.ak.length->aF f.ak r<1000->gK (aF f.ak r):=λr h0 e B=>by rcases ar r h0 e with A|A;exact A;omega
 have ah:=hI.dst
 have a6:lO x.op->aF aR x.dst=0:=λN=>by
  have e:=M.dst N;have B:=M.nn _ (fx (l:=aR) ah.1 V);omega
 have br:∀r∈bU b x,qy s.heap (aF f.ak r):=λr bd=>by
  have be:=a3 r bd;rcases ar r be.1 be.2 with A|A
  .exact Or.inl A
  .refine Or.inr ⟨A,E.lv _ ?_⟩;have:=am (ix (aF f.ak r));have:=uy (l:=(bU b x).map (aF f.ak)) (f:=ix (aF f.ak r)) (by rw[ij A];exact List.mem_map.2 ⟨r,bd,rfl⟩);omega
 have aJ:∀(O:Int)(a7:List Int)(w ab:Int),lO x.op->∀c,fA (m++[aX.put {f with aR:=aR,pc:=O,ba:=a7} x.dst w ab]) c=fA m c+de f.ak aR c+(if w=1000+(c:Int)then ab else 0):=λO a7 w ab N c=>by
  rw[fW,kN];simp only[aX.put];rw[NB ah.1 V V (a6 N)];omega
 have aO:∀(w:Int)(aT:List Int),lO x.op->x.op≠23->x.op≠24->bU b x=[]->(gK w\/1000<=w)->(∀k∈aT,gK k)->cU b {s with aT:=aT,ao:=m++[aX.put {f with aR:=aR,pc:=f.pc+1} x.dst w 0]}:=λw aT N e B v n W=>by
  let⟨z,P⟩:=d.qu p (g:=aX.put {f with aR:=aR,pc:=f.pc+1} x.dst w 0) rfl (λc=>SE);refine d.fS R p (hd:=rfl) ((Z e B).put ah.1 n (dg _) (λA=>V)) (E.congr λc=>?_) d.jy z P W (bu:=s.bu) ⟨dg _,d.bu.2⟩;rw[aJ _ _ _ _ N,v];simp[eB]
 have aQ:∀O:Int,0<=O->O<ac.dq.length->bU b x=[]->cU b {s with ao:=m++[{f with aR:=aR,pc:=O}]}:=λO h0 e v=>by
  let⟨z,P⟩:=d.qu p (g:={f with aR:=aR,pc:=O}) rfl (λc=>SE);refine d.fS R p (hd:=rfl) (bc O h0 e) (E.congr λc=>?_) d.jy z P d.aT (bu:=s.bu) ⟨dg _,d.bu.2⟩;rw[fW,kN,v];simp[eB]
 have o:=hI.op
 unfold lY at o
 unfold fj
 simp only[]
 by_cases e0:x.op=0
 .rw[an e0]at o⊢
  exact aO _ _ (by unfold lO;omega) V V (by simp[bU,e0]) (Or.inl o.2) d.aT
 rw[ae e0]at o⊢
 by_cases e1:x.op=1\/x.op=2\/x.op=3\/x.op=4
 .rw[an e1]
  exact aO _ _ (by unfold lO;omega) V V (by unfold bU;rw[ae V,ae V,ae V]) (Or.inl (PN _ _ _)) d.aT
 rw[ae e1]
 have au:1<=x.args.length->0<=aF x.args 0/\aF x.args 0<f.ak.length:=λe=>al _ (fx V V)
 by_cases e5:x.op=5
 .rw[an e5]
  rw[ae V,an V]at o
  have u:=au V
  have az:gK (aF f.ak (aF x.args 0)):=a8 _ u.1 u.2 (M.nH V _ (fx V V))
  refine aO _ _ (by unfold lO;omega) V V (by simp[bU,e5]) (Or.inl az) λk F=>?_
  rcases List.mem_append.1 F with F|F
  .exact d.aT k F
  .simp at F;subst F;exact az
 rw[ae e5]
 have bf:(bU b x=x.args)->∀w∈cL f x.args,qy s.heap w:=λv w n=>by
  obtain⟨r,Y,rfl⟩:=List.mem_map.1 n;exact br r (v▸Y)
 have a0:∀aC,bU b x=x.args->x.op≠23->x.op≠24->lO x.op->x.args.length<=3->0<=aC/\aC<=99->cU b {s with heap:=jc s.heap (dF s.heap) ⟨1,aC,cL f x.args⟩,ao:=m++[aX.put {f with aR:=aR,pc:=f.pc+1} x.dst (1000+dF s.heap) 1]}:=λaC v e B N A aY=>by
  let⟨S,k2,k3⟩:=E.alloc (t:=aC) (f:=cL f x.args) (e':=fA (m++[aX.put {f with aR:=aR,pc:=f.pc+1} x.dst (1000+dF s.heap) 1])) (bf v) (by simpa[cL]using A) aY (λc=>by rw[v];have:=am c;simp only[cL];omega) (λc=>by
   rw[aJ _ _ _ _ N,v];simp only[cL];have:(if(1000+(dF s.heap:Int))=1000+(c:Int)then(1:Int)else 0)=if c=dF s.heap then 1 else 0:=by
    by_cases k:c=dF s.heap
    .rw[an k,an V]
    .rw[ae k,ae V]
   rw[this];omega) d.jy
  let⟨z,P⟩:=d.qu p (g:=aX.put {f with aR:=aR,pc:=f.pc+1} x.dst (1000+dF s.heap) 1) rfl k2;exact d.fS R p (hd:=rfl) ((Z e B).put ah.1 (Or.inr V) V (λ_=>V)) S k3 z P d.aT (bu:=s.bu) ⟨dg _,d.bu.2⟩
 have bs:(eR b.bo).length<=12:=by
  have:=qW d.fy.nN.types b.bo.length;rw[mP _ _ (ad _)]at this;exact this
 have bv:=d.fy.nN.len
 by_cases Q:x.op=6
 .rw[an Q]
  rw[ae V,ae V,an Q]at o
  have v:bU b x=x.args:=by unfold bU;rw[an V]
  have N:lO x.op:=by unfold lO;omega
  have aa:x.args.length<=3:=by rw[o.2.1];exact I9 d.fy.nN.types _
  split
  .rename_i aE
   have J:0<=x.bY -1/\x.bY -1<f.ba.length:=V
   have hv:=I.ba _ (fx (l:=f.ba) J.1 J.2)
   have K:1000<=aF f.ba (x.bY -1):=V
   have aD:0<holds s.ao (ix (aF f.ba (x.bY -1))):=by
    rw[p,eJ,iX];have:=vE m (ix (aF f.ba (x.bY -1)));have:=uy (l:=f.ba) (f:=ix (aF f.ba (x.bY -1))) (by rw[ij K];exact fx J.1 J.2);omega
   have X:fN s.heap (ix (aF f.ba (x.bY -1))):=dP λF=>by have:=d.ng _ F;omega
   have aj:=d.kZ _ X
   let⟨U,hd,aw⟩:=X
   have ay:∀c,eB U.aE c=0:=λc=>nK λn=>by
    have:=((E.cell U (aq hd)).wL V).2.1 _ n;omega
   have S:=E.make (v:=x.bP) (c:=cL f x.args) (e':=fA (m++[aX.put {f with aR:=aR,pc:=f.pc+1,ba:=gQ f.ba (x.bY -1) 0} x.dst (aF f.ba (x.bY -1)) 1])) (f:=ix (aF f.ba (x.bY -1))) (g:=s.heap.set (ix (aF f.ba (x.bY -1))) ⟨1,x.bP,cL f x.args⟩)
    (fN.Ub ⟨U,hd,aw⟩) (eI hd) (λc k=>iB k) (λc=>by rw[Ab _ hd,ay];simp only[];omega) (bf v) (by simpa[cL]using aa) V (λc=>by rw[v];have:=am c;simp only[cL];omega) (λc=>by
     rw[aJ _ _ _ _ N,v];simp only[cL];have:(if aF f.ba (x.bY -1)=1000+(c:Int)then(1:Int)else 0)=if c=ix (aF f.ba (x.bY -1))then 1 else 0:=by
      by_cases k:c=ix (aF f.ba (x.bY -1))
      .rw[an k,an (by rw[k,ij K])]
      .rw[ae k,ae (λH=>k (by rw[H,ly]))]
     rw[this];omega)
   have aA:∀c,eB (gQ f.ba (x.bY -1) 0) c=eB f.ba c -(if c=ix (aF f.ba (x.bY -1))then 1 else 0):=by
    intro c;have ai:∀(C:List Int)(y:Nat)(w:Int),C[y]? =some w->eB (C.set y 0) c=eB C c -(if w=1000+(c:Int)then 1 else 0):=by
     intro C;induction C with
     |nil=>intro y w z;simp at z
     |cons af C ih=>
      intro y w z;cases y with
      |zero=>simp at z;subst z;simp only[iy,eB];rw[ae V];omega
      |succ y=>have:=ih y w (by simpa using z);simp only[jm,eB,this];omega
    rw[gQ,ai _ _ _ (ou J.1 J.2)];by_cases k:c=ix (aF f.ba (x.bY -1))
    .rw[an k,an (by rw[k,ij K])]
    .rw[ae k,ae (λH=>k (by rw[H,ly]))]
   have L:∀c,holds (m++[aX.put {f with aR:=aR,pc:=f.pc+1,ba:=gQ f.ba (x.bY -1) 0} x.dst (aF f.ba (x.bY -1)) 1]) c=holds s.ao c -(if c=ix (aF f.ba (x.bY -1))then 1 else 0):=λc=>by
    rw[p,eJ,eJ,iX,iX];simp only[aX.put];rw[aA];omega
   have ap:iz b {f with aR:=aR,pc:=f.pc+1,ba:=gQ f.ba (x.bY -1) 0}:=by
    have e:=Z V V;exact⟨e.fE,e.pc,e.lr,e.lo,by simp only[jR];exact e.lh,e.RL,e.aR,λw n=>by rcases pD n with n|n;exact Or.inl n;exact e.ba w n⟩
   refine d.fS R p (hd:=rfl) (ap.put ah.1 (Or.inr K) V (λ_=>K)) S ?_ (λq u=>?_) (λq u=>?_) d.aT (bu:=s.bu) ⟨dg _,d.bu.2⟩
   .intro ag G
    rw[dZ]at G
    by_cases k:s.heap.length -1=ix (aF f.ba (x.bY -1))
    .rw[k,eI hd]at G;simp at G;subst G;simp
    .rw[iB k]at G;exact d.jy ag G
   .rw[L]
    by_cases k:q=ix (aF f.ba (x.bY -1))
    .subst k;rw[fN.yB hd]at u;simp at u
    .rw[ae k];rw[fN.ne k]at u;have:=d.kZ q u;omega
   .rw[L]
    by_cases k:q=ix (aF f.ba (x.bY -1))
    .subst k;rw[an rfl];omega
    .rw[ae k];rw[fN.ne k]at u;have:=d.ng q u;omega
  .exact a0 _ v V V N aa V
 rw[ae Q]
 by_cases X:x.op=10
 .rw[an X]
  rw[ae V,ae V,ae Q,ae V,an X]at o
  obtain⟨⟨D,aG,ap,aK⟩,_⟩:=o
  have A:=(d.fy.nN.dz D (aq ap)).1
  have:=av ap
  exact a0 _ (by unfold bU;rw[an V]) V V (by unfold lO;omega) V (by unfold cq;omega)
 rw[ae X]
 by_cases aD:x.op=14
 .rw[an aD]
  rw[ae V,an V]at o
  have u:=au V
  have v:bU b x=[]:=by simp[bU,aD]
  let⟨F,U⟩:=M.WT aD
  let⟨z,P⟩:=d.qu p (g:={f with aR:=gQ aR (aF x.args 0) (aF aR (aF x.args 0)+1),pc:=f.pc+1}) rfl (λc=>fN.mO F c)
  have e:=Z V V
  refine d.fS R p (hd:=rfl) (g:={f with aR:=gQ aR (aF x.args 0) (aF aR (aF x.args 0)+1),pc:=f.pc+1}) ⟨e.fE,e.pc,e.lr,by simp only[jR];exact e.lo,e.lh,e.RL,λy ab w W n=>?_,e.ba⟩ (E.mO F U λc=>?_) ?_ z P d.aT (bu:=s.bu) ⟨dg _,d.bu.2⟩
  .simp only[]at W n
   rw[Af]at W
   split at W
   .rename_i J
    simp at W
    have T:aF f.ak (aF x.args 0)=w:=by rw[aF,fR,<-J.1,n];rfl
    have:=M.nn _ (fx (l:=aR) u.1 V)
    have:=F.1
    exact⟨V,λ_=>V⟩
   .exact e.aR y ab w W n
  .rw[fW,kN,v]
   simp only[]
   rw[HP u.1 u.2 V]
   have J:=ij F.1
   simp only[fD,eB]
   by_cases k:c=ix (aF f.ak (aF x.args 0))
   .rw[an k,an (by rw[k,J])];omega
   .rw[ae k,ae (λH=>k (by rw[H,ly]))];omega
  .let⟨G,aA⟩:=bS F
   intro ag K
   unfold mO at K
   rw[dZ]at K
   by_cases k:s.heap.length -1=ix (aF f.ak (aF x.args 0))
   .rw[k,eI G]at K;simp at K;subst K;simp only[];omega
   .rw[iB k]at K;exact d.jy ag K
 rw[ae aD]
 have aP:x.args.length=1->x.args=[aF x.args 0]:=λe=>by
  cases hx:x.args with
  |nil=>rw[hx]at e;simp at e
  |cons af C=>cases C with
   |nil=>rfl
   |cons a_ C=>rw[hx]at e;simp at e
 by_cases a1:x.op=15
 .rw[an a1]
  rw[ae V,an V]at o
  have v:bU b x=[aF x.args 0]:=by unfold bU;rw[an V];exact aP V
  rw[v]at E
  have S:=fL.gY _ s.heap [aF f.ak (aF x.args 0)] (λc=>fA m c+de f.ak aR c) (ad _) (E.congr λc=>rfl) am
  let⟨z,P⟩:=d.qu p (g:={f with aR:=aR,pc:=f.pc+1}) rfl (λc=>(fN.nm (h:=gY s.heap [aF f.ak (aF x.args 0)]) c).trans (fN.gY _ _ _ (ad _) c))
  exact d.fS R p (hd:=rfl) (Z V V) (S.nm.congr λc=>by rw[fW,kN]) (Hc _) z P d.aT (bu:=s.bu) ⟨dg _,d.bu.2⟩
 rw[ae a1]
 by_cases U:x.op=16\/x.op=17
 .rw[an U]
  rw[ae V,ae V,ae Q,ae V,ae X,an U]at o
  have u:=au V
  have v:bU b x=[aF x.args 0]:=by
   unfold bU;rw[ae V,an U];cases hx:x.args with
   |nil=>rw[hx]at o;simp at o
   |cons af C=>rfl
  let⟨F,aN,aS,a2⟩:=M.Ny U
  let⟨G,aA⟩:=bS F
  have aU:∀r∈x.args.drop 1,0<=r/\r<aR.length/\1000<=aF f.ak r:=λr Y=>by
   have e:=al r (wF Y);have B:aF f.ak r∈kU (aM s.heap (aF f.ak (aF x.args 0))).aE:=by rw[aN];exact List.mem_map.2 ⟨r,Y,rfl⟩
   exact⟨e.1,V,(lA.1 B).2⟩
  have e:=Z V V
  have aa:iz b {f with aR:=dE aR (x.args.drop 1),pc:=f.pc+1}:=⟨e.fE,e.pc,e.lr,by simp only[lL];exact e.lo,e.lh,e.RL,Kw (ak:=f.ak) _ aR aU e.aR,e.ba⟩
  have a9:∀c,de f.ak (dE aR (x.args.drop 1)) c=de f.ak aR c+eB (aM s.heap (aF f.ak (aF x.args 0))).aE c:=λc=>by
   rw[Fp (ak:=f.ak) _ _ (λr Y=>oh (aU r Y)) V,<-vS (aM s.heap _).aE,aN];rfl
  have ay:0<fA m (ix (aF f.ak (aF x.args 0)))+de f.ak aR (ix (aF f.ak (aF x.args 0)))+eB ((bU b x).map (aF f.ak)) (ix (aF f.ak (aF x.args 0))):=by
   rw[v];have:=am (ix (aF f.ak (aF x.args 0)));simp only[cK,fD,iS F.1,an,eB];omega
  have aw:∀c,fA m c+de f.ak (dE aR (x.args.drop 1)) c=(fA m c+de f.ak aR c+eB ((bU b x).map (aF f.ak)) c) -(if c=ix (aF f.ak (aF x.args 0))then 1 else 0)+eB (aM s.heap (aF f.ak (aF x.args 0))).aE c:=λc=>by
   rw[a9,v];simp only[cK,fD,iS F.1,eB];omega
  split
  .rename_i aj
   have aZ:=a2 aj.2
   have S:=E.QO G aj.1 ay (c':=⟨-1,0,dk (aM s.heap (aF f.ak (aF x.args 0))).aE.length⟩) aL aL rfl (λw n=>qA n) (by simp only[ka];exact(E.cell _ (aq G)).fl) (sx) (e':=fA (m++[{f with aR:=dE aR (x.args.drop 1),pc:=f.pc+1,ba:=gQ f.ba (aF x.args 0) (aF f.ak (aF x.args 0))}])) (λc=>by rw[fW,kN];exact aw c)
   have ai:∀(c:Nat)(w:Int)(C:List Int)(y:Nat),C[y]? =some 0->eB (C.set y w) c=eB C c+(if w=1000+(c:Int)then 1 else 0):=by
    intro c w C;induction C with
    |nil=>intro y z;simp at z
    |cons af C ih=>
     intro y z;cases y with
     |zero=>simp at z;subst z;simp only[iy,eB];split<;>simp_all<;>omega
     |succ y=>have:=ih y (by simpa using z);simp only[jm,eB,this];omega
   have aV:aF x.args 0<f.ba.length:=V
   have L:∀c,holds (m++[{f with aR:=dE aR (x.args.drop 1),pc:=f.pc+1,ba:=gQ f.ba (aF x.args 0) (aF f.ak (aF x.args 0))}]) c=holds s.ao c+(if c=ix (aF f.ak (aF x.args 0))then 1 else 0):=λc=>by
    rw[p,eJ,eJ,iX,iX];have aE:=ou (l:=f.ba) u.1 aV;rw[aZ]at aE;simp only[gQ];rw[ai c _ _ _ aE];by_cases k:c=ix (aF f.ak (aF x.args 0))
    .rw[an k,an (by rw[k,ij F.1])];omega
    .rw[ae k,ae (λH=>k (by rw[H,ly]))];omega
   have a4:¬fN s.heap (ix (aF f.ak (aF x.args 0))):=λz=>z.Ub F.2
   refine d.fS R p (hd:=rfl) (g:={f with aR:=dE aR (x.args.drop 1),pc:=f.pc+1,ba:=gQ f.ba (aF x.args 0) (aF f.ak (aF x.args 0))}) ⟨aa.fE,aa.pc,aa.lr,aa.lo,by simp only[jR];exact aa.lh,aa.RL,aa.aR,λw n=>?_⟩ S ?_ (λq J=>?_) (λq J=>?_) d.aT (bu:=s.bu) ⟨dg _,d.bu.2⟩
   .rcases pD n with n|n
    .rw[n];exact Or.inr F.1
    .exact I.ba w n
   .intro ag K
    rw[dZ]at K
    by_cases k:s.heap.length -1=ix (aF f.ak (aF x.args 0))
    .rw[k,eI G]at K;simp at K;subst K;simp
    .rw[iB k]at K;exact d.jy ag K
   .rw[L]
    by_cases k:q=ix (aF f.ak (aF x.args 0))
    .rw[an k,k,d.ng _ a4];rfl
    .rw[ae k];rw[fN.ne k]at J;have:=d.kZ q J;omega
   .rw[L]
    by_cases k:q=ix (aF f.ak (aF x.args 0))
    .subst k;rw[fN.yB G]at J;simp at J
    .rw[ae k];rw[fN.ne k]at J;have:=d.ng q J;omega
  .let⟨S,k2,k3⟩:=E.apart F ay aS (e':=fA (m++[{f with aR:=dE aR (x.args.drop 1),pc:=f.pc+1}])) (λc=>by rw[fW,kN];exact aw c) d.jy
   let⟨z,P⟩:=d.qu p (g:={f with aR:=dE aR (x.args.drop 1),pc:=f.pc+1}) rfl k2
   exact d.fS R p (hd:=rfl) aa S k3 z P d.aT (bu:=s.bu) ⟨dg _,d.bu.2⟩
 rw[ae U]
 by_cases a2:x.op=18
 .rw[an a2]
  rw[ae V,an V]at o
  have u:=au V
  have v:bU b x=[aF x.args 0]:=by unfold bU;rw[an V];exact aP V
  have N:lO x.op:=by unfold lO;omega
  let⟨z,P⟩:=d.qu p (g:=aX.put {f with aR:=aR,pc:=f.pc+1} x.dst (aF f.ak (aF x.args 0)) (gG (aF f.ak (aF x.args 0)))) rfl (λc=>SE)
  refine d.fS R p (hd:=rfl) ((Z V V).put ah.1 (ar _ u.1 u.2) (HT _) DZ) (E.congr λc=>?_) d.jy z P d.aT (bu:=s.bu) ⟨dg _,d.bu.2⟩
  rw[aJ _ _ _ _ N,v,wV];rfl
 rw[ae a2]
 by_cases K:x.op=19
 .rw[an K]
  rw[ae V,ae V,ae Q,ae V,ae X,ae U,an K]at o
  let⟨F,k⟩:=M.load K
  let⟨G,aA⟩:=bS F
  refine aO _ _ (by unfold lO;omega) V V (by simp[bU,K]) ?_ d.aT
  rcases((E.cell _ (aq G)).oL aA).1 _ (fx o.2.1 k)with B|B
  .exact Or.inl B
  .exact Or.inr B.1
 rw[ae K]
 by_cases aa:x.op=20
 .rw[an aa]
  rw[ae V,ae V,ae Q,ae V,ae X,ae U,ae K,an aa]at o
  have:=bb V V
  exact aQ _ (by split<;>omega) (by split<;>omega) (by simp[bU,aa])
 rw[ae aa]
 by_cases aj:x.op=21
 .rw[an aj]
  rw[ae V,ae V,ae Q,ae V,ae X,ae U,ae K,ae aa,ae V,an aj]at o
  let⟨F,aY⟩:=M.E8 aj
  have ag:tc (cy b.bo x.bP) (aM s.heap (aF f.ak (aF x.args 0))).j8<(cy b.bo x.bP).length:=tS ⟨_,aY,aL⟩
  let⟨ai,k⟩:=o.2.2
  have:=k _ (fx (l:=x.eL) (i:=(tc (cy b.bo x.bP) (aM s.heap (aF f.ak (aF x.args 0))).j8:Nat)) V V)
  exact aQ _ V V (by simp[bU,aj])
 rw[ae aj]
 by_cases aw:x.op=22
 .rw[an aw]
  rw[ae V,ae V,ae Q,ae V,ae X,ae U,ae K,ae aa,an aw]at o
  exact aQ _ V V (by simp[bU,aw])
 rw[ae aw]
 have bg:∀w∈cL f x.args,gK w\/1000<=w:=λw n=>by
  obtain⟨r,Y,rfl⟩:=List.mem_map.1 n;exact ar r (al r Y).1 (al r Y).2
 have aV:mS x.op->s.bu<s.dR:=λG=>by
  have:=d.bu;have:s.bu≠s.dR:=λT=>bi ⟨G,T⟩;omega
 have a9:∀(hp:List bM),s.bu<s.dR->x.op≠23->x.op≠24->∀(g:aX),iz b g->lO x.op->g.dst=x.dst->fL hp (fA (m++[{f with aR:=aR,pc:=f.pc+1},g]))->nR hp->(∀c,fN hp c<->fN s.heap c)->(∀c,holds [g] c=0)->
  cU b {s with bu:=s.bu+1,heap:=hp,ao:=m++[{f with aR:=aR,pc:=f.pc+1},g]}:=λhp bt e B g hg N bl hH hT hK bm=>by
  have a4:=d.bu
  have ay:=d.depth
  rw[p]at ay
  have ee:m++[{f with aR:=aR,pc:=f.pc+1},g]=(m++[{f with aR:=aR,pc:=f.pc+1}])++[g]:=aL
  have L:∀c,holds (m++[{f with aR:=aR,pc:=f.pc+1},g]) c=holds s.ao c:=λc=>by
   rw[ee,eJ,bm,p,eJ,eJ,iX,iX];simp
  refine⟨d.fy,d.cz,⟨λT=>by simp at T;omega,sx⟩,d.value,d.tO,d.dR,⟨by simp only[];omega,by simp only[];omega⟩,by simp at ay⊢;omega,d.aT,hH,hT,λD j=>?_,λD j=>?_,λy p1 D k j=>?_,λq u=>?_,λq u=>?_⟩
  .rcases List.mem_append.1 j with j|j
   .exact aH D j
   .simp at j
    rcases j with rfl|rfl
    .exact Z e B
    .exact hg
  .have ai:=d.first
   rw[p]at ai
   cases m with
   |nil=>simp at j;subst j;exact ai f aL
   |cons af ys=>simp at j;subst j;exact ai af aL
  .have ag:=d.chain y
   rw[p]at ag
   simp only[]at k j
   rw[ee]at k j
   have aU:=av j
   simp at aU
   rw[ax bE]at k
   rcases aW (y+1) (m.length+1)with A|A
   .rw[ax bE]at j
    rw[ax V]at k
    rcases aW (y+1) m.length with h4|h4
    .rw[ax h4]at j
     exact ag p1 D (by rw[ax V];exact k) (by rw[ax h4];exact j)
    .rw[aI h4]at j
     have H:y+1 -m.length=0:=V
     rw[H]at j;simp at j;subst j
     exact ag p1 f (by rw[ax V];exact k) (by rw[aI h4,H];rfl)
   .rw[aI bE]at j
    have H:y+1 -(m++[{f with aR:=aR,pc:=f.pc+1}]).length=0:=bE
    rw[H]at j;simp at j;subst j
    rw[aI V]at k
    have e3:y -m.length=0:=V
    rw[e3]at k;simp at k;subst k
    rw[bl]
    exact⟨ah.1,by simp only[];omega,a6 N⟩
  .rw[L];exact d.kZ q ((hK q).1 u)
  .rw[L];exact d.ng q λA=>u ((hK q).2 A)
 by_cases e9:x.op=9
 .rw[an e9]
  rw[ae V,ae V,ae Q,an V]at o
  let⟨D,aG,ap,aK⟩:=o
  have v:bU b x=iD b x 0 x.args:=by unfold bU;rw[ae V,ae V,an V]
  refine a9 s.heap (aV (Or.inl e9)) V V (bW b x.bP x.dst (cL f x.args)) (ux d.fy aG ap (by simp[cL,aK]) bg) (by unfold lO;omega) rfl (E.congr λc=>?_) d.jy (λ_=>SE) (pE _ _ _ _)
  rw[fW,v]
  simp only[fA]
  rw[qP,HR];omega
 rw[ae e9]
 by_cases aE:x.op=24
 .rw[an aE]
  rw[ae V,ae V,ae Q,an V]at o
  let⟨D,aG,ap,aK⟩:=o
  have v:bU b x=iD b x 0 x.args:=by unfold bU;rw[ae V,ae V,an V]
  let⟨aN,aZ⟩:=M.zero (Or.inl aE)
  have L:∀c,holds (m++[bW b x.bP f.dst (cL f x.args)]) c=holds s.ao c:=λc=>by
   rw[p,eJ,eJ,pE,iX,nK (λn=>oh (aZ _ n))]
  have bh:=aV (Or.inr (Or.inr aE))
  refine d.fS R p (hd:=rfl) (ux d.fy aG ap (by simp[cL,aK]) bg) (E.congr λc=>?_) d.jy (λq u=>by rw[L];exact d.kZ q u) (λq u=>by rw[L];exact d.ng q u) d.aT (bu:=s.bu+1) V
  rw[fW,kN,qP,HR,v,tq aN];omega
 rw[ae aE]
 by_cases ap:x.op=11
 .rw[an ap]
  rw[an V]at o
  have v:bU b x=x.args:=by unfold bU;rw[an V]
  have bh:x.args=[aF x.args 0,aF x.args 1]:=by
   cases hx:x.args with
   |nil=>rw[hx]at o;simp at o
   |cons af C=>cases C with
    |nil=>rw[hx]at o;simp at o
    |cons a_ C=>cases C with
     |nil=>rfl
     |cons _ _=>rw[hx]at o;simp at o
  have aG:0<=aF x.args 1/\aF x.args 1<f.ak.length:=al _ (fx V V)
  let⟨F,bk,bw,bj,aK,aS⟩:=M.apply ap
  let⟨G,aA⟩:=bS F
  let⟨D,j⟩:=cG b.cF (((aM s.heap (aF f.ak (aF x.args 0))).j8 -cq b).toNat)
  have a_:dN b ((aM s.heap (aF f.ak (aF x.args 0))).j8 -cq b)=D:=by simp[dN,j]
  rw[a_]at bj aK
  have C:∀c,eB ((bU b x).map (aF f.ak)) c=(if c=ix (aF f.ak (aF x.args 0))then 1 else 0)+eB [aF f.ak (aF x.args 1)] c:=λc=>by
   rw[v,bh];simp only[cK,fD];rw[iS]
   .rfl
   .exact F.1
  let⟨S,k2,k3⟩:=E.apart F (by simp only[C,an];have:=am (ix (aF f.ak (aF x.args 0)));have:=iC [aF f.ak (aF x.args 1)] (ix (aF f.ak (aF x.args 0)));omega) aS
   (e':=fA (m++[{f with aR:=aR,pc:=f.pc+1},bW b ((aM s.heap (aF f.ak (aF x.args 0))).j8 -cq b) x.dst ((aM s.heap (aF f.ak (aF x.args 0))).aE++[aF f.ak (aF x.args 1)])])) (λc=>by
    rw[fW,C];simp only[fA];rw[qP,a_,List.length_eq_zero_iff.1 aK,Jo,lR];omega) d.jy
  refine a9 _ (aV (Or.inr (Or.inl ap))) V V _ (ux d.fy bk j bE λw n=>?_) (by unfold lO;omega) rfl S k3 k2 (pE _ _ _ _)
  rcases List.mem_append.1 n with n|n
  .rcases((E.cell _ (aq G)).oL aA).1 w n with B|B
   .exact Or.inl B
   .exact Or.inr B.1
  .simp at n;subst n;exact ar _ aG.1 aG.2
 rw[ae ap]
 have aA:x.op=23:=by
  rw[ae V]at o;by_cases aA:x.op=23
  .exact aA
  .rw[ae V,ae Q,ae V,ae X,ae U,ae K,ae aa,ae aw,ae aj]at o;exact o.elim
 rw[ae V,an V]at o
 have u:=au V
 have v:bU b x=[aF x.args 0]:=by unfold bU;rw[an V];exact aP V
 let⟨aN,aZ⟩:=M.zero (Or.inr aA)
 have aS:∀c,holds [f] c=0:=λc=>by rw[iX];exact nK (λn=>oh (aZ _ n))
 split
 .rename_i F
  have aG:m=[]:=List.getLast?_eq_none_iff.1 F
  subst aG
  have C:=M.ret aA
  have az:=a8 _ u.1 u.2 (by rcases C with e|e;(rw[p]at e;simp at e);exact e)
  have a4:=d.bu
  refine⟨d.fy,⟨aL,aL⟩,aL,az,aL,d.dR,d.bu,bE,d.aT,E.congr λc=>?_,d.jy,aL,aL,aL,λq J=>?_,λq J=>?_⟩
  .rw[v,tq aN]
   simp only[fA,cK,fD]
   rw[nK (by simp;have:=az.2;omega)];rfl
  .have e:=d.kZ q J
   rw[p]at e
   have B:=aS q
   simp only[eE]at e
   omega
  .simp[holds]
 .rename_i C F
  have aG:m=m.dropLast++[C]:=by
   have a_:m≠[]:=λT=>by rw[T]at F;simp at F
   rw[gC a_]at F;simp at F;rw[<-F];exact(fq a_).symm
  generalize m.dropLast=fs' at aG
  subst aG
  have az:iz b C:=aH C aL
  let⟨aK,bh,bj⟩:=d.chain fs'.length C f (by rw[p];simp) (by rw[p];simp)
  have bk:f.dst<C.ak.length:=by have:=az.lr;have:=az.lo;omega
  have a4:=d.bu
  have ay:=d.depth
  rw[p]at ay
  have L:∀c,holds (fs'++[C.put f.dst (aF f.ak (aF x.args 0)) (gG (aF f.ak (aF x.args 0)))]) c=holds s.ao c:=λc=>by
   rw[p,eJ,eJ,aS,eJ,iX,iX];simp[aX.put]
  refine⟨d.fy,d.cz,⟨λT=>by simp at T;omega,sx⟩,d.value,d.tO,d.dR,d.bu,by simp at ay⊢;omega,d.aT,E.congr λc=>?_,d.jy,λD j=>?_,λD j=>?_,λy p1 D k j=>?_,λq J=>by rw[L];exact d.kZ q J,λq J=>by rw[L];exact d.ng q J⟩
  .rw[fW,kN,fW,kN,v,tq aN]
   simp only[aX.put,cK,fD]
   rw[NB aK bk bh bj,wV];omega
  .rcases List.mem_append.1 j with j|j
   .exact aH D (bI _ j)
   .simp at j;subst j
    exact az.put aK (ar _ u.1 u.2) (HT _) DZ
  .have ai:=d.first
   rw[p]at ai
   cases fs' with
   |nil=>simp at j;subst j;exact ai C aL
   |cons af ys=>simp at j;subst j;exact ai af aL
  .have ag:=d.chain y
   rw[p]at ag
   simp only[]at k j
   have aU:=av j
   simp at aU
   rw[ax V]at k
   have e1:(fs'++[C]++[f])[y]? =some p1:=by rw[ax bE,ax V];exact k
   rcases aW (y+1) fs'.length with A|A
   .rw[ax A]at j
    exact ag p1 D e1 (by rw[ax bE,ax A];exact j)
   .rw[aI A]at j
    have H:y+1 -fs'.length=0:=V
    rw[H]at j;simp at j;subst j
    exact ag p1 C e1 (by rw[ax bE,aI A,H];rfl)
def RO(h:cU b s):cU b (lC b s):=by
 unfold lC;by_cases c:s.cz=3
 .rw[ae (by simpa using c)];let⟨j,f,a⟩:=h.split c;have g:s.ao.getLast?=some f:=by rw[a];simp
  have i:s.ao.dropLast=j:=by rw[a];simp
  rw[g,i];simp only[];have d:∀n,1<=n->n<=2->cU b {s with cz:=n}:=λn l m=>
   ⟨h.fy,⟨by simp only[];omega,by simp only[];omega⟩,⟨λe=>by simp only[]at e;omega,λe=>by simp only[]at e;rw[a]at e;simp at e⟩,h.value,λe=>oh (h.tO e),h.dR,h.bu,h.depth,h.aT,h.heap,h.jy,h.ao,h.first,h.chain,h.kZ,h.ng⟩
  split
  .exact d 1 V V
  .rename_i e;split
   .rename_i k;exact QV h c a k e
   .exact d 2 V V
 .rw[an (by simpa using c)];exact h
end
section
variable{a:cN}
def rem(a:cN):List aX->Int
 |[]=>0
 |f::b=>((dN a f.fE).dq.length -f.pc)+rem a b
noncomputable def aD (a:cN):Nat->St->St
 |0,s=>s
 |n+1,s=>aD a n (lC a s)
def LZ(a:cN):∀(n:Nat)(s:St),aD a (n+1) s=lC a (aD a n s)
 |0,s=>rfl
 |n+1,s=>by rw[aD,LZ a n,aD]
def wC{a:cN}:∀(n:Nat){s:St},cU a s->cU a (aD a n s)
 |0,s,h=>h
 |n+1,s,h=>wC n (RO h)
def pQ{s:St}(h:s.cz≠3):lC a s=s:=by unfold lC;rw[an h]
def Dz{a:cN}:∀(n:Nat){s:St},s.cz≠3->aD a n s=s
 |0,s,_=>rfl
 |n+1,s,h=>by rw[aD,pQ h,Dz n h]
def lM(a:cN)(dR:Int):St:=⟨3,0,0,dR,[],[],[bW a 0 0 []]⟩
def LX{dR:Int}(c:nj a)(n:0<=dR/\dR<=40):cU a (lM a dR):=by
 have q:=c.nN.len;let⟨p,i⟩:=cG a.cF 0;have l:=c.nN.first p i;have k:=ux (j:=0) (d:=[]) c (dg 0) i (by simp[l.1]) aL;have h:∀f,fA [bW a 0 0 []] f=0:=λf=>by rw[kN,qP];simp[de]
 refine⟨c,by simp[lM],by simp[lM],by simp[lM,gK],by simp[lM],n,by simp[lM];omega,by simp[lM],by simp[lM],⟨by simp[lM],⟨λ_=>0,by simp[lM]⟩,by simp[lM],λd=>by simp only[lM];rw[h];omega,λd b=>by simp only[lM]at b;rw[h]at b;omega⟩,?_,?_,?_,?_,λd⟨j,e,_⟩=>by simp[lM]at e,λd _=>pE _ _ _ _ _⟩
 .intro j e;simp[lM]at e
 .intro g b;simp[lM]at b;subst b;exact k
 .intro g b;simp[lM]at b;subst b;rfl
 .intro r g o b m;simp[lM]at m
end
end Go.Proofs.YtkicoahejfbjhaaGreat
