/- Part of a proof. -/
import Derived.Carry
import Derived.ChangeSame
import Derived.ChangeSlices
import Derived.Deep.Slices
import Derived.OpenShut
import Derived.RowKit
import Derived.WideShapes
import Derived.Test.YtbbbdejieenniaaGreatRA00
import Derived.Test.YtbbbdejieenniaaGreatRA02
import Derived.Test.YtbbbdejieenniaaGreatRA04
set_option linter.all false
set_option maxHeartbeats 8000000
set_option maxRecDepth 100000
namespace Go.Proofs.YtbbbdejieenniaaGreat
open Go.Vc
section
variable{j:ab}{b:Nat}
def Lu{d:cV}{c:Instr}:∀{j:ab}{a b:Nat}{r:Int},j[b]? =some r->js d c (a+b)=true->r∈fe d c a j
 |[],_,_,_,h,_=>by simp at h
 |y::j,a,0,r,h,e=>by simp at h;subst h;simp only[fe];rw[ba cG];exact cK
 |y::j,a,b+1,r,h,e=>by
  have f:=Lu (d:=d) (c:=c) (j:=j) (a:=a+1) (b:=b) (sp h) cG;grind [fe,List.mem_cons_of_mem]
def Z7{c:bS}{w:Int}(h:(dO c j)[b]? =some w):∃r,j[b]? =some r/\w=D c.aT r:=by
 grind [dO]
def Ci{k:Kn}{r:Int}(h:j[b]? =some r):(pZ k j)[b]? =some (k.r r).lD:=by grind [pZ]
def Ic{a b v:Int}(h:a.toNat≠b.toNat):D (gT j a v) b=D j b:=by simp[D,gT,iY h]
variable{d:cV}{s e:St}{rL:Nat->Nat->Option Kn}{h:ak}{c:bS}
def Wb(fl:∀(aa:Nat)(ac:dP),d.cO[aa]? =some ac->rj d ac (rL aa))(O:eM d s)(hf:s.bn=h++[c])(K:VS d rL s)
 (hM:iR d s c (bH d c) (bV c.aT c.bF (bY d (bH d c))))(y:e=dI d s h c (bH d c) (bV c.aT c.bF (bY d (bH d c))))(bf:eM d e):VS d rL e:=by
 have hF:fX d c:=O.bn c (by rw[hf];simp)
 let⟨ac,hp,aR,hP,a7,hI⟩:=hF.Aj O.gW
 let⟨u,hb,H⟩:=K.jz h c hf
 have Ss:=fl _ ac hp
 generalize bH d c=x at*
 have lr:=hF.lr;have lo:=hF.lo;have lh:=hF.lh
 rw[aR]at lr lo lh
 have Z:∀r∈x.aN,0<=r/\r<u.aT.length/\r<c.bF.length:=λr v=>by have:=hI.aN r v;rw[H.aS];omega
 have aE:∀r∈bY d x,0<=r/\r<u.aT.length/\r<c.bF.length:=λr v=>Z r (qW v)
 have bm:=hI.br
 have ar:=Jz (aT:=c.aT) (bY d x) c.bF λr v=>⟨(aE r v).1,(aE r v).2.2⟩
 have au:=mh c.aT (bY d x) c.bF
 have T1:=KX (aT:=c.aT) (bY d x) u c.bF H.bF aE
 have a_:=hM.nn
 have aw:=hM.br
 have nil:bY d x=[]->bV c.aT c.bF (bY d x)=c.bF:=λm=>by rw[m];rfl
 generalize ax:bV c.aT c.bF (bY d x)=bF at*
 have ol:=OL.of O
 have aH:OL s.aQ c:=ol c (by rw[hf];simp)
 have ag:∀J∈h,OL s.aQ J:=λJ R=>ol J (by rw[hf];exact dK _ R)
 have hc:FC s.aQ:=FC.of O.aQ
 have T:FC e.aQ:=FC.of bf.aQ
 have az:=OL.of bf
 have bx:=hF.pc
 have F1:(∀r∈bY d x,0<=(u.r r).lD)->FW d s.aQ h {c with bF:=bF} (fJ u (bY d x))/\(∀b,0<=b->(fJ u (bY d x)).r b={u.r b with bF:=D bF b}):=λht=>by
  have aj:=T1 λr v=>by
   have q:=(aE r v).1;rcases Dv 0 (u.r r).lD with m|m
   .exact bG ⟨V,H.SU r q m⟩
   .have:=ht r v;exact bu ⟨V,H.pS r q V⟩
  refine⟨H.oT aj ⟨wV _ _,pb _ _⟩ λb q m=>.wF (bu ?_),aj⟩;rw[H.bF b q];have:=(ar b q).1;omega
 have al:∀{j:ak},e.bn=h++j->∀F∈h,OL e.aQ F:=λR F Q=>az F (by rw[R];exact dK _ Q)
 have bg:∀{J:bS},e.bn=h++[J]->OL e.aQ J:=λR=>az _ (by rw[R];simp)
 have mv:∀{J:bS}{kk:Kn}{aa:Int},FW d s.aQ h J kk->YC s.aQ e.aQ->OL s.aQ J->e.bn=h++[{J with pc:=aa}]->FW d e.aQ h {J with pc:=aa} kk:=λG st o1 R=>(G.pM ag o1 hc (al R) (λb q m=>bg R b q m) T st).pc
 have aA:∀{J:bS}{kk:Kn}{I Y ay:Int},FW d s.aQ h J kk->J.aT=c.aT->J.bF.length=c.bF.length->OL s.aQ J->D J.bF x.br<=0->e.bn=h++[J.cB x.br I ay]->YC s.aQ e.aQ->(Y=0->I<1000)->(0<Y->1000<=I)->(0<ay->0<Y->Hz d (bt e.aQ I).jJ Y)->FW d e.aQ h (J.cB x.br I ay) (kk.eB x.br Y ay):=λ{J kk I Y ay} G er eo o1 q R st t0 t1 tt=>by
  have hd:0<=x.br/\x.br<J.aT.length/\x.br<J.bF.length:=by rw[er,eo];omega
  exact(G.pM ag o1 hc (al R) (OL.aey hd q (bg R)) T st).cB hd t0 t1 tt
 have P:=hI.op
 have ap:x.op≠21->∃k',vF d ac u x k'/\∀aa∈tp x c.pc.toNat,∃S,rL c.fY.toNat aa.toNat=some S/\vG k' S:=Ss.ns _ x u a7 hb
 have j7:∀{J:bS}{k':Kn}{aa:Int},(∀z∈tp x c.pc.toNat,∃S,rL c.fY.toNat z.toNat=some S/\vG k' S)->aa∈tp x c.pc.toNat->e.bn=h++[J]->J.br=c.br->J.fY=c.fY->J.pc=aa->YC s.aQ e.aQ->HT d e.aQ->FW d e.aQ h J k'->VS d rL e:=λM hm R hd bc m st hh G=>by
  let⟨S,E,C⟩:=M _ hm;exact K.of1 hf ag (al R) hc T st hd (by rw[bc]) R hh ⟨S,by rw[m,bc];exact E,G.Wv C⟩
 have en:(((c.pc.toNat:Nat):Int)+1)=c.pc+1:=V
 have nx:¬(20<=x.op/\x.op<=24)->c.pc+1∈tp x c.pc.toNat:=λae=>by
  simp(disch:=omega) only[tp,aU,en];simp
 have ao:OL s.aQ {c with bF:=bF}:=aH.iG λb q=>(ar b q).1
 have am:1<=x.aN.length->D x.aN 0∈x.aN:=λE=>gS V V
 unfold kL at P
 by_cases a6:x.op=22
 .let⟨k',z,M⟩:=ap V
  simp[vF,dI,bY,bV,a6]at z y ax
  subst y z ax
  exact j7 M (aa:=x.cE) (by simp[tp,a6]) rfl rfl rfl rfl (λ_ _ _=>⟨rfl,rfl⟩) K.aQ H.pc
 by_cases a3:x.op=14
 .let⟨k',z,M⟩:=ap V
  simp[vF,dI,bY,bV,a3]at z y ax P
  obtain⟨E,C,rfl⟩:=z
  have L:=Z _ (am V)
  let⟨U,A⟩:=hM.WU a3
  generalize D x.aN 0=B at*
  subst y ax
  have W:yF s.aQ (pX s.aQ (D c.aT B)):=yF.at1 U λ_=>⟨rfl,rfl⟩
  refine j7 M (nx V) rfl rfl rfl rfl W.Th (K.aQ.pM W T) ?_
  have G:FW d s.aQ h {c with bF:=gT c.bF B (D c.bF B+1)} (u.gZ B 1):=H.oT (λb q=>by
   grind [yG,mO,FW.bF]) ⟨qT,rfl⟩ λb q m=>by
    grind [mO,FW.bF,qZ]
  refine mv G W.Th (λb q m=>?_) rfl
  simp only at m⊢
  rw[mO L.1 L.2.2 b q]at m
  split at m
  .rename_i N;rw[N];exact U
  .exact aH b q m
 by_cases a4:x.op=15
 .let⟨k',z,M⟩:=ap V
  simp[vF,dI,a4]at z y P
  obtain⟨E,rfl⟩:=z
  let⟨ad,A⟩:=xY.1 P.1
  have et:bY d x=[ad]:=by simp[bY,a4,A]
  rw[et]at F1
  simp[A,fJ,D]at E F1 y M
  rw[aU V]at F1
  subst y
  let⟨G,aj⟩:=F1 V
  have W:=(yF.jx _ s.aQ [D c.aT ad] bW).O yF.pd
  exact j7 M (nx V) rfl rfl rfl rfl W.Th (K.aQ.pM W T) (mv G W.Th ao rfl)
 by_cases bk:x.op=16\/x.op=17
 .let⟨k',z,M⟩:=ap V
  simp(disch:=omega) only[vF,dI,aU,ba]at z y P
  obtain⟨E,C,aa,bo,rfl⟩:=z
  have L:=Z _ (am P.1.1)
  have et:bY d x=[D x.aN 0]:=by
   simp(disch:=omega) only[bY,aU,ba,UR P.1.1]
  have an:=hM.Em bk
  unfold FQ at an
  obtain⟨U,aC,-,aD⟩:=an
  have X:∀r∈x.aN.drop 1,r∈x.aN:=λr v=>uj v
  generalize D x.aN 0=B at*
  generalize x.aN.drop 1=mC at*
  have aB:bF=gT c.bF B (D c.bF B -1):=by rw[<-ax,et];simp only[bV,ba U.1]
  have ka:∀b,0<=b->((u.gZ B (-1)).r b)={u.r b with bF:=D bF b}:=λb q=>by
   rw[yG ⟨L.1,L.2.1⟩ q,aB,mO L.1 L.2.2 b q,H.bF b q];by_cases m:b=B
   .rw[ba m,ba m,m];rfl
   .rw[aU m,aU m,Int.add_zero]
  have kb:∀b,0<=b->((jA (u.gZ B (-1)) mC).r b)={u.r b with bF:=D (eY bF mC) b}:=λb q=>by
   rw[TF mC (u.gZ B (-1)) bF (λb q=>by rw[ka b q]) (λr v=>by rw[qT,au];exact Z r (X r v)) b q,ka b q]
  have av:qZ u B:=.wF (bu E)
  have ai:∀b,0<=b->b∉mC->D (eY bF mC) b=D bF b:=λb q hm=>OV q mC bF λad A=>⟨(Z ad (X ad A)).1,by rw[au];exact(Z ad (X ad A)).2.2,λm=>hm (m▸A)⟩
  have G:FW d s.aQ h {c with bF:=eY bF mC} (jA (u.gZ B (-1)) mC):=H.oT kb ⟨by rw[OM,qT],by rw[ve];rfl⟩ λb q m=>by
   by_cases hm:b∈mC
   .exact .qd (by rw[C b hm];exact L.1) (by rw[C b hm];exact av)
   .rw[ai b q hm]at m;exact .wF (bu (by rw[H.bF b q];have:=(ar b q).1;omega))
  have aq:OL s.aQ {c with bF:=eY bF mC}:=λb q m=>by
   by_cases hm:b∈mC
   .have hw:D c.aT b∈dO c mC:=fu.2 ⟨b,hm,rfl⟩;rw[<-aC]at hw;let⟨m1,m2⟩:=nN.1 hw;exact hc _ U _ m1 m2
   .simp only[ai b q hm]at m;exact ao b q m
  have W:yF s.aQ e.aQ:=by
   rw[y];split
   .exact yF.at1 U λae=>by simp at ae
   .exact yF.iO O.aQ U
  have z:∀b,0<=b->D (if x.op=17 then gT u.eG B aa else u.eG) b<0->D u.eG b<0/\(x.op=17->b≠B):=λb q m=>by
   split at m
   .rename_i af;have M:b≠B:=λN=>by
     subst N;rcases eJ b.toNat u.eG.length with aJ|aJ
     .rw[aaL ⟨q,V⟩]at m;omega
     .unfold D gT at m;rw[fE,kX (sp aJ)]at m;simp at m
    rw[Ic V]at m;exact⟨m,λ_=>M⟩
   .exact⟨m,λae=>absurd ae (by assumption)⟩
  have af:=nx V
  by_cases hh:(bt s.aQ (D c.aT B)).ct=1/\x.op=17
  .rw[ba hh]at y
   subst y
   exact j7 M af rfl rfl rfl rfl W.Th (K.aQ.pM W T) (mv (G.cQ (by rw[ve];split<;>simp[jC,Kn.gZ,Kn.tn]) λb q m=>by
    let⟨N,d2⟩:=z b q m;exact(mO L.1 V b q).trans ((aU (d2 hh.2)).trans (H.kp b q N))) W.Th aq rfl)
  .rw[aU hh]at y
   subst y
   exact j7 M af rfl rfl rfl rfl W.Th (K.aQ.pM W T) (mv (G.cQ (by rw[ve];split<;>simp[jC,Kn.gZ,Kn.tn]) λb q m=>H.kp b q (z b q m).1) W.Th aq rfl)
 by_cases bs:x.op=18
 .let⟨k',z,M⟩:=ap V
  simp(disch:=omega) only[vF,dI,aU,ba]at z y P
  obtain⟨E,-,C,rfl⟩:=z
  have L:=Z _ (am V)
  have et:bY d x=[D x.aN 0]:=by
   simp(disch:=omega) only[bY,ba];let⟨ad,A⟩:=xY.1 P.1;rw[A];rfl
  let⟨G,aj⟩:=F1 λr v=>by rw[et]at v;simp at v;rw[v];exact E
  subst y
  have X:kM x.op:=by unfold kM;omega
  have N:gE (D c.aT (D x.aN 0))=Kb (u.r (D x.aN 0)).lD:=by
   unfold gE Kb;rcases Dv 0 (u.r (D x.aN 0)).lD with m|m
   .rw[ba m,ba (H.SU _ L.1 m)]
   .have:=H.pS _ L.1 (show(u.r (D x.aN 0)).lD=0 by omega);rw[aU V,aU V]
  refine j7 M (nx V) rfl rfl rfl rfl (λ_ _ _=>⟨rfl,rfl⟩) K.aQ ?_
  rw[<-et,N]
  refine aA G.pc rfl au ao (aw X) (by rw[N]) (λ_ _ _=>⟨rfl,rfl⟩) (H.pS _ L.1) (H.SU _ L.1) λ_ ht=>H.jJ _ L.1 (.wF (bu ?_)) ht
  rw[H.bF _ L.1]
  have:=(ar _ L.1).2 (by rw[et];simp) (H.SU _ L.1 ht)
  have:=TO a_ (D x.aN 0);omega
 by_cases a5:x.op=19
 .let⟨k',z,M⟩:=ap V
  simp(disch:=omega) only[vF,dI,aU,ba]at z y P
  obtain⟨E,C,Y,h3,h4,rfl⟩:=z
  have L:=Z _ (am V)
  have eo:=nil (by simp[bY,a5])
  let⟨U,aP⟩:=hM.pL a5
  generalize D x.aN 0=B at*
  subst y
  have X:kM x.op:=by unfold kM;omega
  have aq:=jG P.2.1 aP
  have ai:=H.lx _ L.1 E C
  have av:=T9 h3
  have hw:YD d s.aQ (D (bt s.aQ (D c.aT B)).bU x.cE) Y:=K.aQ _ U _ _ _ aq (by
   unfold FTy;rw[ai,ba (by unfold cJ;omega)];exact h3)
  have af:=nx V
  refine j7 M af rfl rfl rfl rfl (λ_ _ _=>⟨rfl,rfl⟩) K.aQ ?_
  subst eo
  have an:=aA (J:={c with pc:=c.pc+1}) (I:=D (bt s.aQ (D c.aT B)).bU x.cE) (Y:=Y) (ay:=0) H.pc rfl rfl aH (aw X) rfl (λ_ _ _=>⟨rfl,rfl⟩) hw.1 (λht=>(hw.2 ht).1.1) λae=>absurd ae cH
  by_cases A:x.br=B
  .rw[ba A];exact an
  .rw[aU A]
   have hd:0<=x.br/\x.br<u.aT.length:=by rw[H.aS];omega
   have N:=λb q=>P7 (k:=u) (t:=Y) (o:=0) hd (i:=b) q
   have gr:∀b,0<=b->D (bS.cB {c with pc:=c.pc+1} x.br (D (bt s.aQ (D c.aT B)).bU x.cE) 0).aT b=if b=x.br then D (bt s.aQ (D c.aT B)).bU x.cE else D c.aT b:=λb q=>mO bm.1 (by show x.br<(c.aT.length:Int);omega) b q
   refine an.pL ⟨hd.1,by rw[Bw];exact hd.2⟩ ⟨L.1,λm=>A m.symm⟩ (by rw[N _ hd.1,ba rfl];exact⟨rfl,rfl⟩) (λb q=>?_) (by rw[N _ hd.1,ba rfl];exact(by decide:(-1:Int)<0)) ?_ (λ_ ht=>?_) λ_=>?_
   .rw[N b q];split
    .simp;omega
    .exact aaw hd.1
   .rw[gr B L.1,aU λm=>A m.symm];exact U.1
   .rw[N _ hd.1,ba rfl]at ht⊢
    rw[gr _ hd.1,ba rfl];exact(hw.2 ht).2
   .rw[gr B L.1,aU λm=>A m.symm,gr _ hd.1,ba rfl];exact aq
 by_cases aD:x.op=21
 .let⟨E,C,h3⟩:=Ss.sM _ x u a7 hb aD
  simp(disch:=omega) only[dI,aU,ba]at y P
  have L:=Z _ (am V)
  have eo:=nil (by simp[bY,aD])
  let⟨U,ai⟩:=hM.sM aD
  generalize D x.aN 0=B at*
  subst y
  let⟨S,b1,b2⟩:=h3 (tJ (cT d.bQ x.cE) (bt s.aQ (D c.aT B)).jJ) (bt s.aQ (D c.aT B)).jJ (by
   have A:tJ (cT d.bQ x.cE) (bt s.aQ (D c.aT B)).jJ<(cT d.bQ x.cE).length:=mo ⟨_,ai,bO⟩;rw[aa6 A];have:=List.findIdx_getElem (xs:=cT d.bQ x.cE) (p:=λN=>N==(bt s.aQ (D c.aT B)).jJ) (w:=A);exact jO some (eq_of_beq this)) (by
   rcases Dv (u.r B).lx 0 with m|m
   .exact bu m
   .exact bG (H.lx B L.1 C m).symm)
  refine K.of1 hf ag (al rfl) hc T (λ_ _ _=>⟨rfl,rfl⟩) (by rfl) (by rfl) rfl K.aQ ⟨S,b1,?_⟩
  rw[eo]
  exact((H.arm L.1 U.1 rfl).Wv b2).pc
 let⟨k',z,M⟩:=ap aD
 simp(disch:=omega) only[vF,aU]at z
 obtain⟨Y,A,-,U,z⟩:=z
 have nn:=Xz O.gW.kQ (aZ hp) A
 have aG:∀r∈x.aN,0<=(u.r r).lD:=λr v=>nn _ (fu.2 ⟨r,v,rfl⟩)
 let⟨G,aj⟩:=F1 λr v=>aG r (qW v)
 have bi:∀{b:Int},qZ (fJ u (bY d x)) b->0<=b->qZ u b:=λB q=>B.of (λb q m=>.wF (bu (by rw[aj b q]at m;simp only at m;rw[H.bF b q];have:=(ar b q).1;omega))) (λb q m=>.wF (bG (by rw[aj b q]at m;exact m))) (λb q _=>by rw[aj b q]) q
 have a2:∀a1:ab,pZ u x.aN=a1->(∀N∈a1,N=0)->∀r∈x.aN,(u.r r).lD=0:=λa1 m hz r v=>hz _ (m▸fu.2 ⟨r,v,rfl⟩)
 have bj:∀r∈x.aN,(u.r r).lD≠0->qZ u r:=λr v ht=>by
  have q:=(Z r v).1;have bh:r∈bY d x->qZ u r:=λhm=>.wF (bu (by
   rw[H.bF r q];have:=(ar r q).2 hm (H.SU r q (oh (aG r v)));have:=TO a_ r;omega))
  by_cases bd:x.op=15\/x.op=6\/x.op=10\/x.op=11\/x.op=18\/x.op=23
  .exact bh (by unfold bY;rw[ba bd];exact v)
  by_cases h9:x.op=9\/x.op=24
  .have et:bY d x=iN d x 0 x.aN:=by unfold bY;rw[aU bd,aU V,ba h9]
   rcases Xg (b:=d) (x:=x) x.aN 0 r v with m|m
   .exact bh (et▸m)
   .exact bi (U h9 r m) q
  exfalso;apply ht;simp(disch:=omega) only[ux,fZ,aU]at A;(repeat' split at A)<;>first|exact a2 _ A bO r v|exact a2 _ A.2 bO r v|exact A.elim
 have av:∀r∈x.aN,YD d s.aQ (D c.aT r) (u.r r).lD:=λr v=>H.wty ag aH hc (Z r v).1 λht=>bj r v V
 have aI:∀(b:Nat)(I N:Int),(dO c x.aN)[b]? =some I->(pZ u x.aN)[b]? =some N->YD d s.aQ I N:=λb I N E C=>by
  obtain⟨r,v,rfl⟩:=Z7 E;rw[Ci v]at C;cases C;exact av r (aZ v)
 unfold ux at A
 by_cases aC:x.op=20
 .rw[ba aC]at A
  simp[dI,aC,kM,bY]at y z
  have eo:=nil (by simp[bY,aC])
  have aO:x.cY=0:=by have:=hI.cY;omega
  rw[ba aO]at z
  subst y z eo
  refine j7 M (aa:=if D c.aT (D x.aN 0)=0 then x.cE else c.pc+1) ?_ rfl rfl rfl rfl (λ_ _ _=>⟨rfl,rfl⟩) K.aQ H.pc
  simp(disch:=omega) only[tp,aU,ba,en];split<;>simp
 rw[aU aC]at A
 by_cases aK:x.op=23
 .rw[ba aK]at A
  rw[ba (bu aK)]at z
  obtain⟨hz,aN,rfl⟩:=z
  rw[aU V,aU V,ba V]at P
  have a0:=am V
  have L:=Z _ a0
  have wt:=av _ a0
  have aS:(u.r (D x.aN 0)).lD=ac.bL:=by
   have:=Ci (k:=u) (jG (l:=x.aN) (i:=0) V V);rw[A.1]at this;simpa using this.symm
  simp(disch:=omega) only[dI,aU]at y
  rcases ac5 h with m|⟨an,F,m⟩
  .subst m
   simp only[List.getLast?_nil]at y
   subst y
   exact⟨K.aQ,λF m=>by simp at m,λB aB m=>by simp at m,λaF B aB m=>by simp at m⟩
  .rw[List.concat_eq_append]at m
   subst m
   simp only[ui,qN,FL,uh]at y
   subst y
   have ai:s.bn=an++F::[c]:=by rw[hf];simp
   let⟨kq,Fq,bp,S,b1,b2⟩:=K.sus an.length F c (by rw[ai];simp) (by rw[ai];simp)
   rw[ai,List.take_left' rfl]at Fq
   have aq:=O.tG an.length F c (by rw[ai];simp) (by rw[ai];simp)
   have aL:=O.bn F (by rw[ai];simp)
   have aM:gE (D c.aT (D x.aN 0))=Kb ac.bL:=by
    unfold gE Kb;rcases Dv 0 ac.bL with m|m
    .rw[ba m,ba (wt.2 V).1.1]
    .have:=nn _ (fu.2 ⟨_,a0,rfl⟩);have:=wt.1 V;rw[aU V,aU V]
   rw[aR]at b2
   have aW:=aL.lr;have aV:=aL.lo
   refine K.of1 ai (λJ R=>ag J (dK _ R)) (λJ R=>az J (dK _ R)) hc T (λ_ _ _=>⟨rfl,rfl⟩) (by rfl) (by rfl) rfl K.aQ ⟨S,b1,FW.Wv (k:=kq.eB c.br ac.bL (Kb ac.bL)) ?_ b2⟩
   rw[aM]
   exact Fq.cB ⟨aq.1,V,aq.2.1⟩ (λm=>wt.1 V) (λm=>(wt.2 V).1.1) λ_ m=>by rw[<-aS]at m⊢;exact(wt.2 m).2
 rw[aU aK]at A
 by_cases aL:x.op=24
 .rw[ba aL]at A
  rw[ba (bG aL)]at z
  obtain⟨hz,aN,rfl⟩:=z
  obtain⟨A,rfl⟩:=A
  simp[fZ]at A
  let⟨F,Q,ts,te⟩:=A
  have L:dy d x.cE=F:=by simp[dy,Q]
  simp(disch:=omega) only[dI,aU,ba]at y
  subst y
  have an:=O.gW.eN F (aZ Q)
  have wl:(dO c x.aN).length=F.aX.length:=by rw[<-ts];simp[dO,pZ]
  refine K.of1 hf ag (al rfl) hc T (λ_ _ _=>⟨rfl,rfl⟩) (g:=cq d x.cE c.br (dO c x.aN)) rfl (by show(dy d x.cE).bL=_;rw[L,aR,te]) rfl K.aQ ?_
  let⟨k0,c0,c1⟩:=(fl _ F Q).first
  refine⟨k0,c0,FW.Wv ?_ c1⟩
  refine FW.bI L an.aT.1 wl (λN A=>((O.gW.kQ.eN F (aZ Q)).2.1 N A).1) (λb I N E C=>aI b I N E (ts▸C)) λb hi q aP=>?_
  let⟨r,v⟩:=dY x.aN b.toNat (by have:(dO c x.aN).length=x.aN.length:=(by simp[dO]);omega)
  have aX:D (dO c x.aN) b=D c.aT r:=by simp[D,dO,v]
  have aS:r∈fe d x 0 x.aN:=Lu v (by
   unfold js;rw[L,Wy];exact⟨b,hi,fj⟩)
  have aM:=U (bG aL) r aS
  have r0:=(Z r (aZ v)).1
  rw[aX]
  refine(FW.afc G hz aM r0 (H.SU r r0 ?_):)
  let⟨aF,hj⟩:=cX.1 hi
  obtain⟨⟨N,_,aW,br⟩,-⟩:=an.cR aF b hj
  have C:=Ci (k:=u) v
  rw[ts,aW]at C
  have:=aG r (aZ v)
  cases C;omega
 simp(disch:=omega) only[fZ,aU]at A z
 have af:=nx V
 have aY:∀(I:Int)(cC:ab),0<=x.op/\x.op<6->Y=0->I<1000->e={s with cC:=cC,bn:=h++[bS.cB {c with bF:=bF,pc:=c.pc+1} x.br I 0]}->VS d rL e:=λI cC ho t0 hw y=>by
  have X:kM x.op:=by unfold kM;omega
  have:=hI.cY;rw[ba X,ba V]at z;obtain⟨aq,rfl⟩:=z;subst t0 y;exact j7 M af rfl rfl rfl rfl (λ_ _ _=>⟨rfl,rfl⟩) K.aQ (aA G.pc rfl au ao (aw X) rfl (λ_ _ _=>⟨rfl,rfl⟩) (λ_=>hw) (λae=>absurd ae cH) λae=>absurd ae cH)
 by_cases e0:x.op=0
 .simp(disch:=omega) only[dI,aU,ba]at y A P
  exact aY _ _ V A.1 V y
 by_cases e1:x.op=1\/x.op=2\/x.op=3\/x.op=4
 .simp(disch:=omega) only[dI,aU,ba]at y A
  exact aY _ _ V A.1 (oh ((PM x.op (D c.aT (D x.aN 0)) (D c.aT (D x.aN 1))).2)) y
 by_cases e5:x.op=5
 .simp(disch:=omega) only[dI,aU,ba]at y A P
  have a0:=am V
  exact aY _ _ V A.1 ((av _ a0).1 (a2 _ A.2 bO _ a0)) y
 by_cases e6:x.op=6
 .simp(disch:=omega) only[dI,aU,ba]at y A P
  have X:kM x.op:=by unfold kM;omega
  rw[ba X]at z
  obtain⟨aq,rfl⟩:=z
  have bq:=(Ie A.1).1
  have a0:x.cE<cJ d:=by unfold cJ;omega
  have aN:FTy d x.cE=pZ u x.aN:=by unfold FTy;rw[ba a0,A.2]
  have aV:Hz d x.cE Y:=by unfold Hz;rw[ba a0];exact A.1
  have be:∀(B:Nat)(h':ah)(cQ:ab),WE s.aQ h' B x.cE (dO c x.aN)->(∀b,0<=b->D (if x.cY=0 then fJ u (bY d x)else{fJ u (bY d x)with eG:=gT (fJ u (bY d x)).eG (x.cY -1) (-1)}:Kn).eG b<0->D cQ b=0)->e={s with aQ:=h',bn:=h++[bS.cB {c with bF:=bF,pc:=c.pc+1,cQ:=cQ} x.br (1000+(B:Int)) 1]}->VS d rL e:=λB h' cQ ai hh y=>by
   subst y;refine j7 M af rfl rfl rfl rfl ai.Th (ai.ht K.aQ T λb I N E C=>aI b I N E (aN▸C)) ?_;have m1:Kb Y=1:=ba V;rw[m1];have G2:=G.cQ (by split<;>simp[jC]) hh;refine aA ?_ rfl au ao (aw X) rfl ai.Th (λm=>V) (λ_=>V) λ_ _=>?_
   .split<;>rename_i hi<;>simp only[hi,vE,mN]at G2<;>exact G2.pc
   .have:bt h' (1000+(B:Int))=⟨1,x.cE,dO c x.aN⟩:=by unfold bt;rw[Ef,ai.bI];rfl
    rw[this];exact aV
  by_cases hh:x.cY≠0/\D c.cQ (x.cY -1)≠0
  .have bw:(c.cQ.length:Int)=ac.aT:=lh
   have a8:=gS (l:=c.cQ) (i:=x.cY -1) V V
   have bb:1000<=D c.cQ (x.cY -1):=by
    rcases hF.cQ _ a8 with m|m
    .exact absurd m hh.2
    .exact m
   obtain⟨aJ,bl,bv⟩:jv s.aQ (ix (D c.cQ (x.cY -1))):=gA λM=>by
    have E:=O.ug _ M;rw[hf,iU,mu]at E;have C:=yQ (l:=c.cQ) (f:=ix (D c.cQ (x.cY -1))) (by rw[nC bb];exact a8);have h3:=DW h (ix (D c.cQ (x.cY -1)));omega
   refine be (ix (D c.cQ (x.cY -1))) _ (gT c.cQ (x.cY -1) 0) (WE.eB bl V) (λb q m=>?_) ?_
   .rw[aU hh.1]at m
    rw[mO V V b q]
    split
    .rfl
    .rename_i a9
     refine H.kp b q ?_
     have e':D (gT (fJ u (bY d x)).eG (x.cY -1) (-1)) b<0:=m
     rw[Ic V,pb]at e';exact e'
   .rw[y,ba hh,nC bb]
  .refine be (fD s.aQ) _ c.cQ (WE.jB O.aQ) (λb q m=>?_) ?_
   .split at m
    .exact H.kp b q (by rw[pb]at m;exact m)
    .rename_i hi
     by_cases a9:b=x.cY -1
     .subst a9
      rcases fP (D c.cQ (x.cY -1)=0)with m|m
      .exact m
      .exact absurd ⟨hi,m⟩ hh
     .refine H.kp b q ?_
      have e':D (gT (fJ u (bY d x)).eG (x.cY -1) (-1)) b<0:=m
      rw[Ic V,pb]at e';exact e'
   .rw[y,aU hh]
 have aO:x.cY=0:=by have:=hI.cY;omega
 rw[ba aO]at z
 by_cases e9:x.op=9
 .simp(disch:=omega) only[dI,aU,ba]at y A
  have X:kM x.op:=by unfold kM;omega
  rw[ba X]at z
  obtain⟨aq,rfl⟩:=z
  let⟨F,Q,ts,te⟩:=A
  have L:dy d x.cE=F:=by simp[dy,Q]
  subst y
  have an:=O.gW.eN F (aZ Q)
  have wl:(dO c x.aN).length=F.aX.length:=by rw[<-ts];simp[dO,pZ]
  refine K.of2 hf ag (al rfl) hc T (λ_ _ _=>⟨rfl,rfl⟩) (by rfl) (by rfl) rfl K.aQ ?_ ?_
  .let⟨S,b1,b2⟩:=M _ af
   refine⟨_,G.pc,aq,S,b1,?_⟩
   show vG ((fJ u (bY d x)).eB x.br (dy d x.cE).bL (Kb (dy d x.cE).bL)) S
   rw[L,<-te];exact b2
  .let⟨k0,c0,c1⟩:=(fl _ F Q).first
   refine⟨k0,c0,FW.Wv ?_ c1⟩
   refine FW.bI L an.aT.1 wl (λN A=>((O.gW.kQ.eN F (aZ Q)).2.1 N A).1) (λb I N E C=>aI b I N E (ts▸C)) λb hi q aP=>?_
   let⟨r,v⟩:=dY x.aN b.toNat (by have:(dO c x.aN).length=x.aN.length:=(by simp[dO]);omega)
   have aX:D (dO c x.aN) b=D c.aT r:=by simp[D,dO,v]
   have aS:r∈fe d x 0 x.aN:=Lu v (by
    unfold js;rw[L,Wy];exact⟨b,hi,fj⟩)
   have aM:=U (bu e9) r aS
   have r0:=(Z r (aZ v)).1
   rw[aX]
   refine FW.rtd (f:={c with bF:=bF,pc:=c.pc+1}) G.pc aM r0 (H.SU r r0 ?_)
   let⟨aF,hj⟩:=cX.1 hi
   obtain⟨⟨N,_,aW,br⟩,-⟩:=an.cR aF b hj
   have C:=Ci (k:=u) v
   rw[ts,aW]at C
   have:=aG r (aZ v)
   cases C;omega
 by_cases aX:x.op=10
 .simp(disch:=omega) only[dI,aU,ba]at y A P
  have X:kM x.op:=by unfold kM;omega
  rw[ba X]at z
  obtain⟨aq,rfl⟩:=z
  let⟨F,aB,Q,ts,te⟩:=A
  obtain⟨⟨q',bp,aJ,aF⟩,-⟩:=P
  have bq:=(Vv O.gW.kQ.dh te).1
  have eg:cJ d+x.cE -cJ d=x.cE:=V
  have L:dy d (cJ d+x.cE -cJ d)=F:=by rw[eg];simp[dy,Q]
  have aN:FTy d (cJ d+x.cE)=pZ u x.aN:=by unfold FTy;rw[aU V,L,ts];simp
  have aV:Hz d (cJ d+x.cE) Y:=by
   unfold Hz;rw[aU V,eg];exact⟨F,aB,Q,by rw[ts];simp,te⟩
  have ai:WE s.aQ (jB s.aQ (fD s.aQ) ⟨1,cJ d+x.cE,dO c x.aN⟩) (fD s.aQ) (cJ d+x.cE) (dO c x.aN):=WE.jB O.aQ
  subst y
  refine j7 M af rfl rfl rfl rfl ai.Th (ai.ht K.aQ T λb I N E C=>aI b I N E (aN▸C)) ?_
  have m1:Kb Y=1:=ba V
  rw[m1]
  refine aA G.pc rfl au ao (aw X) rfl ai.Th (λm=>V) (λ_=>V) λ_ _=>?_
  simp only[bt,Ef,ai.bI];exact aV
 by_cases aM:x.op=11
 .simp(disch:=omega) only[dI,aU,ba]at y A P
  have X:kM x.op:=by unfold kM;omega
  rw[ba X]at z
  obtain⟨aq,rfl⟩:=z
  let⟨N,ad,ts,te⟩:=A
  obtain⟨aF,a0,a8,aS,ai,-⟩:=hM.apply aM
  have g0:=jG (l:=x.aN) (i:=0) V V
  have g1:=jG (l:=x.aN) (i:=1) V V
  have y0:=Ci (k:=u) g0
  have y1:=Ci (k:=u) g1
  rw[ts]at y0 y1
  have y0:(u.r (D x.aN 0)).lD=N:=sp y0.symm
  have y1:(u.r (D x.aN 1)).lD=ad:=sp y1.symm
  have w0:=av _ (aZ g0)
  have w1:=av _ (aZ g1)
  rw[y0]at w0;rw[y1]at w1
  have u1:=(Vv O.gW.kQ.dh te).1
  have tg:=(w0.2 V).2
  generalize D c.aT (D x.aN 0)=I at*
  generalize D c.aT (D x.aN 1)=wa at*
  unfold Hz at tg
  rw[aU V]at tg
  let⟨F,aB,Q,aN,aP⟩:=tg
  obtain⟨rfl,rfl⟩:=acH te aP
  have L:dy d ((bt s.aQ I).jJ -cJ d)=F:=by simp[dy,Q]
  rw[L]at aS ai
  subst y
  have W:=yF.iO O.aQ aF
  have an:=O.gW.eN F (aZ Q)
  have aV:OL _ {c with bF:=bF,pc:=c.pc+1}:=λb q m=>az {c with bF:=bF,pc:=c.pc+1} bO b q m
  have aJ:F.aX=F.aX.dropLast++[ad]:=by
   let⟨j,m⟩:=List.getLast?_eq_some_iff.1 aN;rw[m];simp
  have aW:=az (cq d ((bt s.aQ I).jJ -cJ d) x.br ((bt s.aQ I).bU++[wa])) bO
  have el:F.cR=[]:=cr.1 ai
  refine K.of2 hf ag (al rfl) hc T W.Th (by rfl) (by rfl) rfl (K.aQ.pM W T) ?_ ?_
  .let⟨S,b1,b2⟩:=M _ af
   refine⟨_,G.pc.pM ag (λb q m=>ao b q m) hc (al rfl) (λb q m=>aV b q m) T W.Th,aq,S,b1,?_⟩
   show vG ((fJ u (bY d x)).eB x.br (dy d ((bt s.aQ I).jJ -cJ d)).bL (Kb (dy d ((bt s.aQ I).jJ -cJ d)).bL)) S
   rw[L];exact b2
  .let⟨k0,c0,c1⟩:=(fl _ F Q).first
   refine⟨k0,c0,FW.Wv ?_ c1⟩
   have wl:((bt s.aQ I).bU++[wa]).length=F.aX.length:=fj
   have pn:∀N∈F.aX,0<=N:=λN A=>((O.gW.kQ.eN F (aZ Q)).2.1 N A).1
   refine FW.bI L an.aT.1 wl pn (λb w' u' E C=>?_) (by rw[el];simp)
   have old:YD d s.aQ w' u':=by
    rw[aJ]at C;have a9:F.aX.dropLast.length=(bt s.aQ I).bU.length:=fj;rcases eJ b (bt s.aQ I).bU.length with m|m
    .rw[dX m]at E;rw[dX V]at C;exact K.aQ I aF b w' u' E (by unfold FTy;rw[aU V,L];exact C)
    .rw[dL m]at E;rw[dL V]at C;have:b -(bt s.aQ I).bU.length=0:=by have:=bA E;simp at this;omega
     rw[this]at E;rw[show b -F.aX.dropLast.length=0 by omega]at C;simp at E C;subst E;subst C;exact w1
   refine old.pM W.Th λhp=>?_
   have bo:=pn u' (aZ C)
   have ew:D (cq d ((bt s.aQ I).jJ -cJ d) x.br ((bt s.aQ I).bU++[wa])).aT b=w':=by
    simp only[cq,D,fE];rw[dX (by have:=bA E;simpa using this)];simp[E]
   have:=aW b V (by
    simp only[cq,D,fE];rw[dX (by rw[lU];have:=bA E;simpa using this)];simp only[iD];rw[En _ _ _ _ _ E,L,el];simp[gE,hp])
   rw[ew]at this;exact this
 simp(disch:=omega) only[aU]at A
end
section
variable{a:cV}{s:St}{rL:Nat->Nat->Option Kn}{dG:Int}
def VS.Xu(V:VS a rL s)(n:Int):VS a rL {s with dT:=n}:=⟨V.aQ,V.first,V.jz,V.sus⟩
theorem VS.ns(i:∀(n:Nat)(p:dP),a.cO[n]? =some p->rj a p (rL n))(d:eM a s)(c:VS a rL s):VS a rL (ns a s):=by
 have b:=Ow d;by_cases m:s.dT=3
 .let⟨j,h,l⟩:=d.split m;unfold Go.Proofs.YtbbbdejieenniaaGreat.ns at b⊢;rw[aU V]at b⊢;have f:s.bn.getLast?=some h:=cG;have g:s.bn.dropLast=j:=cG;rw[f,g]at b⊢;simp only at b⊢;split
  .exact c.Xu 1
  .rename_i k;rw[aU k]at b;split
   .rename_i e;rw[ba e]at b;exact Wb i d l c e rfl b
   .exact c.Xu 2
 .grind [o8]
theorem VS.iI(k:∀(n:Nat)(p:dP),a.cO[n]? =some p->rj a p (rL n))(c:gC a):VS a rL (iI a dG):=by
 let⟨p,d⟩:=dY a.cO 0 c.kQ.aS.1;have e:dy a 0=p:=by grind [dy]
 have m:=c.kQ.first p d;let⟨r,h,i⟩:=(k 0 p d).first;refine⟨λz⟨_,u,o,_⟩=>by simp[Go.Proofs.YtbbbdejieenniaaGreat.iI]at o,λx g=>by simp[Go.Proofs.YtbbbdejieenniaaGreat.iI]at g;subst g;show(dy a 0).bL=0;rw[e];exact m.2,λb f j=>?_,λw s t _ v=>?_⟩
 .have:b=[]/\cq a 0 0 []=f:=by
   have e:[cq a 0 0 []]=b++[f]:=j;cases b with
   |nil=>simpa using e
   |cons l q=>simp at e
  obtain⟨rfl,rfl⟩:=this;exact⟨r,h,FW.Wv (FW.bI e (c.eN p (aZ d)).aT.1 cG cG (λq A y l=>by simp at l) λq _ _ l=>by simp at l;omega) i⟩
 .grind [bA,iI]
theorem VS.bz(b:∀(n:Nat)(p:dP),a.cO[n]? =some p->rj a p (rL n))(c:gC a)(d:0<=dG/\dG<=40):∀n,VS a rL (bz a n (Go.Proofs.YtbbbdejieenniaaGreat.iI a dG))
 |0=>VS.iI b c
 |n+1=>by rw[uP];exact(VS.bz b c d n).ns b (AP n (FE c d))
theorem VS.oF(l:eM a s)(h:VS a rL s){j:Nat}{f:bS}(c:s.bn[j]? =some f):∃k,rL f.fY.toNat f.pc.toNat=some k/\k.aT.length=f.aT.length/\∀r,0<=r->(k.r r).bF=D f.bF r\/∃g,s.bn[j+1]? =some g/\r=g.br:=by
 rcases eJ (j+1) s.bn.length with m|m
 .let⟨g,d⟩:=dY s.bn (j+1);let⟨k,F,n,p,b1,b2⟩:=h.sus j f g c d;refine⟨p,b1,by rw[b2.aS,Bw,F.aS],λr b=>?_⟩;by_cases e:r=g.br
  .exact bG ⟨g,d,e⟩
  .refine bu ?_;rw[b2.bF r b];have o:=l.tG j f g c d;have i:=l.bn f (aZ c);have n:=i.lr;have q:=i.lo;rw[P7 ⟨o.1,by rw[F.aS];omega⟩ b,aU e];unfold tm;split<;>exact F.bF r b
 .have e:s.bn=s.bn.take j++[f]:=by
   have:=bX c;rw[yd V]at this;exact this
  let⟨k,d,F⟩:=h.jz _ f e;exact⟨k,d,F.aS,λr b=>bu (F.bF r b)⟩
end
section
variable{h:ah}
inductive BB(cF:List Instr):Nat->Int->Prop
 |ym {k:Nat} {r:Int} {x:Instr}:cF[k]? =some x->x.op=22->BB cF x.cE.toNat r->BB cF k r
 |move {k:Nat} {r:Int} {x:Instr}:cF[k]? =some x->x.op=18->D x.aN 0=r->BB cF (k+1) x.br->BB cF k r
 |ret {k:Nat} {r:Int} {x:Instr}:cF[k]? =some x->x.op=23->D x.aN 0=r->BB cF k r
open Classical in
noncomputable def rW (cF:List Instr) (k:Nat) (x:Instr):Instr:=if x.op=9/\BB cF (k+1) x.br then{x with op:=24,br:=0}else x
noncomputable def ry (p:dP):dP:={p with cF:=p.cF.mapIdx (rW p.cF)}
noncomputable def fC (a:cV):cV:={a with cO:=a.cO.map ry}
variable{a:cV}{x:Instr}{s:St}{b:ak}{f:bS}{bF:ab}
theorem Gd(n:Int):dy (fC a) n=ry (dy a n):=by
 unfold dy fC;simp only[eu];cases a.cO[n.toNat]? with
 |none=>rfl
 |some p=>rfl
def Nn(k:Nat):js (fC a) x k=js a x k:=by unfold js;rw[Gd];rfl
theorem Np:∀(l:ab)(k:Nat),iN (fC a) x k l=iN a x k l
 |[],_=>rfl
 |r::l,k=>by simp only[iN,Nn,Np l]
theorem No:∀(l:ab)(k:Nat),fe (fC a) x k l=fe a x k l
 |[],_=>rfl
 |r::l,k=>by simp only[fe,Nn,No l]
def Qy:bY (fC a) x=bY a x:=by grind [bY,Np]
theorem UP(g d:Int)(b:ab):cq (fC a) g d b=cq a g d b:=by unfold cq;rw[Gd];rfl
def UO:cJ (fC a)=cJ a:=rfl
def KV:dI (fC a) s b f x bF=dI a s b f x bF:=by
 unfold dI;simp only[UP,UO];rfl
def Qx{w:Int}:tz (fC a) h w<->tz a h w:=by
 unfold tz;rw[Gd,UO];have:(fC a).cO.length=a.cO.length:=by simp[fC]
 rw[this];rfl
def va:tx (fC a) h f x<->tx a h f x:=by grind [tx,No]
def UQ:iR (fC a) s f x bF<->iR a s f x bF:=
 ⟨λh=>⟨h.nn,h.br,h.nL,h.jB,λe=>va.1 (h.cR e),h.mF,h.pU,λe=>Qx.1 (h.apply e),h.WU,h.uD,h.Em,h.pL,h.sM⟩,
  λh=>⟨h.nn,h.br,h.nL,h.jB,λe=>va.2 (h.cR e),h.mF,h.pU,λe=>Qx.2 (h.apply e),h.WU,h.uD,h.Em,h.pL,h.sM⟩⟩
theorem Jy{p:dP}{k:Nat}(h:p.cF[k]? =some x):(ry p).cF[k]? =some (rW p.cF k x):=by
 grind [ry]
def aaQ(h:gC a):gC (fC a):=by
 have t:(fC a).cO.length=a.cO.length:=by simp[fC]
 have f:∀(n:Nat)(p:dP),(fC a).cO[n]? =some p->∃q,a.cO[n]? =some q/\p=ry q:=λn p e=>by
  unfold fC at e;simp only[eu]at e;cases k:a.cO[n]? with
  |none=>rw[k]at e;simp at e
  |some q=>rw[k]at e;simp at e;exact⟨q,rfl,e.symm⟩
 have l:∀p∈(fC a).cO,∃q∈a.cO,p=ry q:=λp f=>by
  unfold fC at f;simp only[fu]at f;obtain⟨q,c,e⟩:=f;exact⟨q,c,e.symm⟩
 have u:∀(n:Int)(m:Nat),pt a n m->pt (fC a) n m:=λn m⟨q,r,s,i⟩=>⟨ry q,r,by unfold fC;simp[s],i⟩;refine⟨⟨h.kQ.dh,by rw[t];exact h.kQ.aS,λp e=>?_,λp e=>?_⟩,λp e=>?_⟩
 .obtain⟨q,c,rfl⟩:=l p e;exact h.kQ.eN q c
 .obtain⟨q,c,rfl⟩:=f 0 p e;exact h.kQ.first q c
 .obtain⟨q,c,rfl⟩:=l p e;have P:=h.eN q c;have j:(ry q).cF.length=q.cF.length:=by simp[ry]
  refine⟨P.cR,P.aT,by rw[j];exact P.aS,λo v b=>?_,λv b=>?_⟩
  .let⟨y,g⟩:=dY q.cF o (by have:=bA b;omega);rw[Jy g]at b;cases b;have I:=P.eN o y g;unfold rW;split
   .rename_i i;have d:=I.op;unfold kL at d;rw[aU V,aU V,aU V,aU V,ba V]at d;refine⟨I.aN,by have:=I.br;show(0:Int)<=0/\(0:Int)<=q.aT -1;omega,bu rfl,bu (show y.cY=0 by have:=I.cY;omega),bG (show y.fQ.length=0 by have:=I.fQ;omega),?_⟩;unfold kL;simp only;rw[aU cH,aU cH,aU cH,aU cH,ba cH];exact u _ _ d
   .refine⟨I.aN,I.br,I.adu,I.cY,I.fQ,?_⟩;have d:=I.op;have w:∀p,(ry p).cR=p.cR:=λ_=>rfl;have x:(fC a).bQ=a.bQ/\(ry q).aT=q.aT:=⟨rfl,rfl⟩;unfold kL at d⊢;grind (splits:=20)
  .rw[j]at b;let⟨y,g⟩:=dY q.cF (q.cF.length -1) (by have:=P.aS;omega);rw[Jy g]at b;cases b;unfold rW;split
   .exact bG rfl
   .exact P.C2 y g
end
section
variable{S L X:ad}{m b M:E}{d p c q g:N}{n:cV}{cF e:List Instr}{k f:Nat}{r:Int}{x y:Instr}{a:aA}{h:af}
theorem BB.adi(h:BB cF k r)(g:∀(i:Nat)(x:Instr),cF[i]? =some x->x.op=22->(i:Int)<x.cE)(f:∀i:Nat,k<=i->e[i]? =cF[i]?):BB e k r:=by
 induction h with
 |ym a b _ d=>have:=g _ _ a b;exact .ym cG b (d λi j=>f i V)
 |move a b c _ d=>exact .move cG b c (d λi j=>f i V)
 |ret a b c=>exact .ret cG b c
def BB.inv(d:cF[k]? =some x):BB cF k r<->if x.op=22 then BB cF x.cE.toNat r else if x.op=18/\D x.aN 0=r then BB cF (k+1) x.br else x.op=23/\D x.aN 0=r:=by
 constructor
 .intro h;cases h with
  |ym a b h=>rw[d]at a;cases a;rw[ba b];exact h
  |move a b c h=>rw[d]at a;cases a;rw[aU V,ba ⟨b,c⟩];exact h
  |ret a b c=>rw[d]at a;cases a;rw[aU V,aU V];exact⟨b,c⟩
 .grind [BB.ym,BB.move,BB.ret]
@[grind cases] structure Fw (cF:List Instr):Prop where
 ym:∀(i:Nat)(x:Instr),cF[i]? =some x->x.op=22->(i:Int)<x.cE/\x.cE<cF.length
 lW:∀(i:Nat)(x:Instr),cF[i]? =some x->x.op=18\/x.op=23->1<=x.aN.length
 C2:∀(i:Nat)(x:Instr),cF[i]? =some x->x.op=18->i+1<cF.length
 aS:cF.length<=1000000
def Ip(t:gR m c cF)(p:Fw cF)(E:k<cF.length):gK dN 35 [c.v,vi k,vi r] m (BB cF k r):=by
 apply CP;simp -zeta only[dU];have G:=t.aS;have K:=p.aS;refine⟨λn d M=>J m M/\∃j:Nat,n=j/\j<cF.length/\(BB cF j d<->BB cF k r),λn _ _=>cF.length -n.toNat,⟨di,k,rfl,E,MK⟩,?_⟩;rintro _ d M ⟨w,j,rfl,H,u⟩;let⟨y,f⟩:=dY cF j;let⟨pa,Q,s,I,x,g1,g2,z,A,B⟩:=(gR.ext w t).D f;have F:=s.aS;rw[BB.inv f]at u;refine⟨V,V,_,x,_,g1,_,g2,_,z,_,A,_,B,?_⟩;intro P b;have g:J M b:=by grind [J.push,J.aV]
 have X:=w.O g;clear_value b;have rd:g=g->y.op=18\/y.op=23->(0:Int)<pa.len/\aR b pa.bq (pa.off+Int.toNat 0*1)=some (vi (D y.aN 0)):=λ_ h=>by
  have:=p.lW j y f h;exact⟨V,by simpa using(s.ext g).D (jG (l:=y.aN) (i:=0) V V)⟩
 refine⟨λo=>?_,λo=>?_⟩
 .grind
 have o:y.op≠22:=cG;rw[aU o]at u;have q:¬(y.op=18/\D y.aN 0=d)->((y.op==23)=true->(0:Int)<=0/\(0:Int)<pa.len/\∃v:Int,aR b pa.bq (pa.off+Int.toNat 0*1)=some (vi v)/\∃a,vb (v==d)=.bool a/\(a=true<->BB cF k r)/\J m b)/\
  ((y.op==23)=false->∃a,vb false=.bool a/\(a=true<->BB cF k r)/\J m b):=λN=>by
  grind
 refine⟨λa=>?_,λa=>q λh=>by simp at a;exact a h.1⟩;have a:y.op=18:=cG;let⟨v,C⟩:=rd rfl (bu a);refine⟨dR _,v,_,C,λe=>?_,λe=>q λh=>by simp at e;exact e h.2⟩;have e:D y.aN 0=d:=cG;have L:=p.C2 j y f a;have O:eR ((j:Int)+1)=((j+1:Nat):Int):=by grind [dt]
 grind
noncomputable def nZ (cF:List Instr) (j:Nat):List Instr:=cF.mapIdx λi x=>if i<j then rW cF i x else x
theorem sN{i j:Nat}:(nZ cF j)[i]? =(cF[i]?).map λx=>if i<j then rW cF i x else x:=by simp[nZ,aeC]
theorem qJ{j:Nat}:(nZ cF j).length=cF.length:=by simp[nZ]
def Nm:nZ cF 0=cF:=by
 apply ee;grind [sN]
def Ws:nZ cF cF.length=cF.mapIdx (rW cF):=by
 apply ee;grind [sN,bA]
theorem UM{j:Nat}(h:cF[j]? =some x):nZ cF (j+1)=(nZ cF j).set j (rW cF j x):=by
 apply ee;grind [bA,List.getElem?_set_self,qJ,sN,List.getElem?_set_ne]
theorem ZV{i:Nat}:rW cF i x=x\/(rW cF i x).op=24:=by
 grind [rW]
theorem Fw.to{j:Nat}(h:Fw cF):Fw (nZ cF j):=by
 constructor<;>grind [Instr,nZ,sN,ZV,Fw.lW,qJ,Fw.aS,Fw.ym,Fw.C2]
def BB.to{j:Nat}(a:Fw cF):BB (nZ cF j) (j+1) r<->BB cF (j+1) r:=by
 grind [nZ,sN,BB.adi,Fw.to,Fw.ym]
noncomputable def ud (a:av) (k j:Nat):av:=a.mapIdx λi p=>if i<k then ry p else if i=k then{p with cF:=nZ p.cF j}else p
section
variable{l:av}{o:dP}{i j:Nat}
theorem qI:(ud l k j)[i]? =(l[i]?).map λp=>if i<k then ry p else if i=k then{p with cF:=nZ p.cF j}else p:=by simp[ud,aeC]
theorem Qv:(ud l k j).length=l.length:=by simp[ud]
def UL:ud l 0 0=l:=by
 apply ee;intro i;rw[qI];cases l[i]? with
 |none=>rfl
 |some p=>simp[Nm]
def UJ(h:l[k]? =some o):ud l k o.cF.length=ud l (k+1) 0:=by
 apply ee;intro i;rw[qI,qI];cases e:l[i]? with
 |none=>rfl
 |some p=>
  simp only[rZ,Nm];by_cases a:i<k
  .grind
  .by_cases b:i=k
   .subst b;rw[h]at e;cases e;rw[aU a,ba rfl,ba V,Ws];rfl
   .rw[aU a,aU b,aU V];split<;>rfl
def Wr(h:l.length<=k):ud l k 0=l.map ry:=by
 apply ee;grind [qI,bA]
def Qw(h:l[k]? =some o)(a:o.cF[j]? =some x):ud l k (j+1)=(ud l k j).set k {o with cF:=(nZ o.cF j).set j (rW o.cF j x)}:=by
 apply ee;grind [List.getElem?_set_self,Qv,bA,qI,UM,List.getElem?_set_ne]
def UK(h:l[k]? =some o)(b:o.cF[j]? =some x)(a:rW o.cF j x=x):ud l k (j+1)=ud l k j:=by
 rw[Qw h b,a];have c:(nZ o.cF j).set j x=nZ o.cF j:=by grind [Ko,sN]
 grind [Ko,qI]
end
def rG.wrP{z:dP×N}{o:Nat}{d:ae}(e:rG S b M g q h a)(p:Fz X b M)(j:a[f]? =some z)(i:z.1.cF[k]? =some x)(r:o+d.length<=6)(s:∀c,eS (dg (q.bq::(Ks a++S)) M) c x->eS (dg (q.bq::(Ks a++S)) M) (jh c o d) y):
 iQ M z.2.bq (z.2.off+k*6+o) d.length/\rG S b (aV M z.2.bq (z.2.off+k*6+o) d) g q h (a.set f ({z.1 with cF:=z.1.cF.set k y},z.2)):=by
 obtain⟨c,_,m,l,w,_⟩:=(e.c z (aZ j)).PL i r
 rw[l]
 exact⟨w,(e.wr p j (bA i) (s c (eS.le (kO M λt n=>aW _ n) m))).2⟩
end
section
variable{l:afr}{r:tj}{o e:Nat}{new:ae}{g:tj->tj}
def Ao(r:tj):ae:=[.i r.lD,.i r.bF,.t r.cR,.i r.lx,.i r.fr,.i r.DS]
def Nk(l:afr):ae:=(l.map Ao).flatten
def Kh(l:afr):∀a∈l.map Ao,a.length=6:=λa h=>by obtain⟨r,_,rfl⟩:=fu.1 h;rfl
theorem uJ(l:afr):(Nk l).length=l.length*6:=by unfold Nk;rw[eE (Kh l),jq]
def Ym{i:Nat}(h:l[i]? =some r){j:Nat}{c:Ce}(a:(Ao r)[j]? =some c):(Nk l)[i*6+j]? =some c:=
 jY (Kh l) cG a
def Yn{i:Nat}{a:tj}(h:l[i]? =some r)(b:o+new.length<=6)(c:jh (Ao r) o new=Ao a):jh (Nk l) (i*6+o) new=Nk (l.set i a):=by
 unfold Nk;rw[wT _ i (Ao r) o new (Kh l) cG b,c,xZ]
theorem Iw{k:Kn}{i:Int}(a:0<=i)(b:i<k.aT.length):k.aT[i.toNat]? =some (k.r i):=by
 grind [dY,Kn.r]
def Xj{k:Kn}{i:Int}(a:0<=i)(b:i<k.aT.length):(k.tn i g).aT=k.aT.set i.toNat (g (k.r i)):=by
 have h:=Iw a b;unfold Kn.tn;apply ee;grind [List.getElem?_set_self,List.getElem?_set_ne]
@[grind cases] structure lX (ro:ag) (m:E) (k b:Nat) (rs ks:N) (kn:Kn):Prop where
 bT:dJ m b zK [.s rs,.s ks]
 j8:ro b=k
 aT:iJ ro m qY 6 k rs (Nk kn.aT)
 eG:iJ ro m bE 1 k ks (kn.eG.map Ce.i)
 iT:1<=kn.aT.length/\kn.aT.length<=2000
 yo:kn.eG.length=kn.aT.length
section
variable{c f:ag}{m d:E}{k b:Nat}{a ks:N}{kn:Kn}{i:Int}{p:Nat->Prop}
theorem lX.IC(h:lX c m k b a ks kn):a.len=kn.aT.length:=by grind [lX.aT,iJ.aS,uJ]
theorem lX.Xd(h:lX c m k b a ks kn):ks.len=kn.aT.length:=by grind [lX.eG,iJ.aS,lX.yo]
def lX.acW(h:lX c m k b a ks kn):a.cap≠0:=by grind [lX.aT,iJ.le,lX.IC,lX.iT]
def lX.adL(h:lX c m k b a ks kn):ks.cap≠0:=by grind [lX.eG,iJ.le,lX.Xd,lX.iT]
def iJ.adp{d k:Nat}{s:N}{l:ae}(h:iJ c m e d k s l)(f:s.cap≠0):∃b a tail,s=.mk b 0 s.len a/\c b=k/\dJ m b e (l++tail):=by
 grind [iJ.D]
def dJ.ZG{b a c:Nat}{l g:ae}(h:dJ m b e l)(d:dJ m a c g)(i:e≠c):b≠a:=λf=>by
 subst f;have:=h.symm.trans d;grind
def lX.nes(h:lX c m k b a ks kn):b≠a.bq/\b≠ks.bq/\a.bq≠ks.bq:=by
 obtain⟨b1,i,t1,f,_,d⟩:=iJ.adp h.aT h.acW;obtain⟨b2,j,t2,g,_,e⟩:=iJ.adp h.eG h.adL;rw[f,g];exact⟨dJ.ZG h.bT d cH,dJ.ZG h.bT e cH,dJ.ZG d e cH⟩
def lX.gX(h:lX c m k b a ks kn)(e:dZ p c m f d)(g:¬p k):lX f d k b a ks kn:=
 by constructor<;>grind [lX.bT,dJ.congr,dZ.fL,dJ.lt,lX.j8,dZ.j8,lX.aT,iJ.gX,lX.eG,lX.iT,lX.yo]
def lX.ext(h:lX c m k b a ks kn)(x:J m d):lX c d k b a ks kn:=
 by constructor<;>grind [lX.bT,dJ.ext,lX.j8,lX.aT,iJ.fL,J.bC,iJ.bq,lX.eG,lX.iT,lX.yo]
def lX.dz(h:lX c m k b a ks kn)(l:0<=i)(n:i<kn.aT.length):aR m a.bq (a.off+i.toNat*6)=some (vi (kn.r i).lD)/\aR m a.bq (a.off+i.toNat*6+1)=some (vi (kn.r i).bF)/\aR m a.bq (a.off+i.toNat*6+2)=some (vb (kn.r i).cR)/\
 aR m a.bq (a.off+i.toNat*6+3)=some (vi (kn.r i).lx)/\aR m a.bq (a.off+i.toNat*6+4)=some (vi (kn.r i).fr)/\aR m a.bq (a.off+i.toNat*6+5)=some (vi (kn.r i).DS):=by
 have o:=h.aT.kV
 have g:=λ{d:Nat}{f:Ce}(hj:(Ao (kn.r i))[d]? =some f)=>o _ _ (Ym (Iw l n) hj)
 have e:∀d,a.off+i.toNat*6+d=a.off+(i.toNat*6+d):=cG
 rw[e 1,e 2,e 3,e 4,e 5]
 exact⟨g (d:=0) rfl,g (d:=1) rfl,g (d:=2) rfl,g (d:=3) rfl,g (d:=4) rfl,g (d:=5) rfl⟩
def lX.wr(h:lX c m k b a ks kn)(d:0<=i)(e:i<kn.aT.length){o n:Nat}(f:o+n<=6):iQ m a.bq (a.off+i.toNat*6+o) n:=by
 have:=h.aT.wr (o:=i.toNat*6+o) (n:=n) (by rw[uJ];omega);grind [Nat.add_assoc]
def lX.cB(h:lX c m k b a ks kn)(d:0<=i)(e:i<kn.aT.length)(j:o+new.length<=6)(f:jh (Ao (kn.r i)) o new=Ao (g (kn.r i))):lX c (aV m a.bq (a.off+i.toNat*6+o) new) k b a ks (kn.tn i g):=by
 have⟨l,p,n⟩:=h.nes;refine⟨h.bT.congr (cg _ _ _ _ l),h.j8,?_,h.eG.fL (λ_=>cg _ _ _ _ n.symm) (λ_=>rfl),by rw[lF];exact h.iT,by rw[lF];exact h.yo⟩;rw[Xj d e,<-Yn (Iw d e) j f,jP];exact h.aT.eB (by rw[uJ];omega)
def lX.ql(h:lX c m k b a ks kn)(d:∀b,m.size<=b->c b=0)(new:ae):dZ (·=k) c m c (aV m a.bq o new):=dZ.aV d (h.aT.bq h.acW).2 _ _
def lX.adH(h:lX c m k b a ks kn)(d:0<=i)(e:i<kn.aT.length):aR m ks.bq (ks.off+i.toNat*1)=some (vi (D kn.eG i)):=by
 have:=h.eG.kV i.toNat (.i (D kn.eG i)) (by rw[eu,jG d cG];rfl);rw[H4];exact this
def lX.wrK(h:lX c m k b a ks kn)(d:0<=i)(e:i<kn.aT.length):iQ m ks.bq (ks.off+i.toNat*1) 1:=by grind [lX.eG,iJ.Tp,lX.yo]
theorem lX.acV(h:lX c m k b a ks kn)(d:0<=i)(g:i<kn.aT.length)(v:Int):lX c (aV m ks.bq (ks.off+i.toNat*1) [.i v]) k b a ks {kn with eG:=gT kn.eG i v}:=by
 have⟨j,e,f⟩:=h.nes;exact⟨h.bT.congr (cg _ _ _ _ e),h.j8,h.aT.fL (λ_=>cg _ _ _ _ f) (λ_=>rfl),h.eG.gT d cG v,h.iT,by rw[jC];exact h.yo⟩
def lX.Se(h:lX c m k b a ks kn)(d:∀b,m.size<=b->c b=0)(o:Nat)(new:ae):dZ (·=k) c m c (aV m ks.bq o new):=dZ.aV d (h.eG.bq h.adL).2 _ _
end
@[grind cases] structure nT (kn:Kn) (n:Nat) (B:Int):Prop where
 aS:kn.aT.length=n
 bF:∀i,0<=i->0<=(kn.r i).bF/\(kn.r i).bF<=B
 fr:∀i,0<=i->(kn.r i).fr<n
 lx:∀i,0<=i->-1<=(kn.r i).lx/\(kn.r i).lx<=1000
 Ib:∃rank:Int->Nat,∀i,0<=i->0<=(kn.r i).fr->rank (kn.r i).fr<rank i
end
section
variable{f:tj->tj}
variable{j r:ag}{m p:E}{k b n:Nat}{h ks:N}{kn q:Kn}{i d t o B:Int}{l:tj->tj}
def lX.jy(a:lX j m k b h ks kn):aR m b 0=some h.v/\aR m b 1=some ks.v:=⟨a.bT.dz 0,a.bT.dz 1⟩
def PA(a:0<=i)(b:i<kn.aT.length)(c:l (kn.r i)=kn.r i):kn.tn i l=kn:=by
 have e:(kn.tn i l).aT=kn.aT:=by
  rw[Xj a b,c];apply ee;grind [List.getElem?_set_self,Iw,List.getElem?_set_ne]
 cases kn;simp only[Kn.tn]at e⊢;rw[e]
theorem Bm:(kn.tn i f).tn i l=kn.tn i λr=>l (f r):=by
 grind [Kn.tn,Function.comp_def]
def Ou(a:0<=i)(b:i<kn.aT.length)(c:f (kn.r i)=l (kn.r i)):kn.tn i f=kn.tn i l:=by
 unfold Kn.tn;congr 1;apply ee;grind [Iw]
def vG.ok(h:nT kn n B)(w:vG kn q):nT q n B:=by
 let⟨b,c⟩:=h.Ib;refine⟨w.aS.trans h.aS,λi a=>by rw[w.bF i a];exact h.bF i a,λi a=>?_,λi a=>?_,b,λi a e=>?_⟩
 .grind [nT.fr,vG.fr]
 .grind [nT.lx,vG.lx]
 .grind [vG.fr]
theorem nT.aO(h:nT kn n B){a:Int}(c:B<=a):nT kn n a:=⟨h.aS,λi b=>⟨(h.bF i b).1,Int.le_trans (h.bF i b).2 c⟩,h.fr,h.lx,h.Ib⟩
theorem nT.gZ(h:nT kn n B)(b:0<=i/\i<n){e B':Int}(g:B<=B')(k:0<=(kn.r i).bF+e/\(kn.r i).bF+e<=B'):nT (kn.gZ i e) n B':=by
 let⟨f,d⟩:=h.Ib;have c:=h.aS;have R:∀{j:Int},0<=j->(kn.gZ i e).r j={kn.r j with bF:=(kn.r j).bF+if j=i then e else 0}:=λa=>yG ⟨b.1,V⟩ a;refine⟨by rw[qT,c],λj a=>?_,λj a=>by rw[R a];exact h.fr j a,λj a=>by rw[R a];exact h.lx j a,f,λj a q=>by rw[R a]at q⊢;exact d j a q⟩;have:=h.bF j a;grind
def nT.eB(h:nT kn n B)(hd:0<=d/\d<n){B':Int}(g:B<=B')(c:0<=o/\o<=B'):nT (kn.eB d t o) n B':=by
 let⟨f,i⟩:=h.Ib;have b:=h.aS;have R:∀{j:Int},0<=j->(kn.eB d t o).r j=if j=d then⟨t,o,false,-1,-1,-1⟩else tm d (kn.r j):=by grind [P7]
 have C:∀r:tj,(tm d r).bF=r.bF/\(tm d r).lx=r.lx/\((tm d r).fr=r.fr\/(tm d r).fr= -1):=λr=>by
  grind [tm]
 refine⟨by rw[Bw,b],λj a=>?_,λj a=>?_,λj a=>?_,f,λj a q=>?_⟩
 .rw[R a];split
  .exact c
  .rw[(C _).1];have:=h.bF j a;omega
 .rw[R a];split
  .grind
  .have:=h.fr j a;rcases(C (kn.r j)).2.2 with e|e<;>omega
 .rw[R a];split
  .grind
  .rw[(C _).2.1];exact h.lx j a
 .rw[R a]at q⊢;split at q
  .simp at q
  grind [Kn.r]
def ZP(hd:0<=d/\d<kn.aT.length){j:Int}(a:0<=j):((kn.eB d t o).r j).fr≠d:=by
 grind [P7,tm]
def nT.Gt(h:nT kn n B)(hd:0<=d/\d<n){a f:Int}(i:0<=a/\a<n/\a≠d)(k:∀j,0<=j->(kn.r j).fr≠d):nT (kn.Gt d a f) n B:=by
 let⟨c,l⟩:=h.Ib;have e:=h.aS;have R:∀{j:Int},0<=j->(kn.Gt d a f).r j=if j=d/\j<kn.aT.length then{kn.r j with fr:=a,DS:=f}else kn.r j:=λb=>HM hd.1 b
 refine⟨by unfold Kn.Gt;rw[lF,e],λj b=>?_,λj b=>?_,λj b=>?_,λj=>if j=d then c a+1 else c j,λj b q=>?_⟩
 .grind [nT.bF]
 .grind [nT.fr]
 .rw[R b];split<;>exact h.lx j b
 .rw[R b]at q⊢;by_cases g:j=d
  .grind
  grind [Kn.r]
def nT.jJ(h:nT kn n B){c:Int}(b:0<=i)(e: -1<=c/\c<=1000):nT (kn.jJ i c) n B:=by
 let⟨d,f⟩:=h.Ib;have R:∀{j:Int},0<=j->(kn.jJ i c).r j=if j=i/\j<kn.aT.length then{kn.r j with lx:=c}else kn.r j:=λa=>HM b a
 refine⟨by unfold Kn.jJ;rw[lF,h.aS],λj a=>?_,λj a=>?_,λj a=>?_,d,λj a q=>?_⟩
 .grind [nT.bF]
 .grind [nT.fr]
 .grind [nT.lx]
 .grind
def nT.eG(h:nT kn n B){l:ab}:nT {kn with eG:=l} n B:=⟨h.aS,h.bF,h.fr,h.lx,h.Ib⟩
def ou(c:lX j m k b h ks kn)(g:nT kn n B)(t:i<n):bJ dN 155 [vp b 0,vi i] m λx p=>∃r:Bool,x=vb r/\p=m/\(r=true<->0<=i/\qZ kn i):=by
 let⟨w,u⟩:=g.Ib;apply Bf (b,0);simp -zeta only;refine⟨λa M=>M=m/\a<n/\(0<=a/\qZ kn a<->0<=i/\qZ kn i),λa _=>if 0<=a then w a+1 else 0,⟨rfl,t,MK⟩,?_⟩;rintro a M ⟨rfl,C,f⟩;have D:=g.aS;have E:=c.IC;refine⟨λhd=>?_,λhd=>⟨false,rfl,rfl,λe=>(by cases e),λc=>by have:=f.2 c;simp at hd;omega⟩⟩;simp only[bh]at hd;let⟨y,g1,g2,z,s,A⟩:=c.dz hd V;refine⟨h,c.jy.1,hd,V,_,g1,λe=>?_,λe=>?_⟩
 .simp only[bh]at e;exact⟨true,rfl,rfl,λ_=>f.1 ⟨hd,.wF (bu e)⟩,λ_=>rfl⟩
 have q:¬0<(kn.r a).bF:=sp e;refine⟨h,c.jy.1,hd,V,_,g2,λe=>⟨true,rfl,rfl,λ_=>f.1 ⟨hd,.wF (bG e)⟩,λ_=>rfl⟩,λe=>?_⟩;have v:0<=(kn.r a).fr/\qZ kn (kn.r a).fr<->0<=a/\qZ kn a:=⟨λc=>⟨hd,.qd c.1 c.2⟩,λc=>by
  rcases c.2 with d|⟨l,o⟩
  .rcases d with d|d
   .exact absurd d q
   .rw[d]at e;cases e
  .exact⟨l,o⟩⟩
 refine⟨h,c.jy.1,hd,V,_,s,⟨rfl,g.fr a hd,v.trans f⟩,?_⟩;simp only[hd,vE];split
 .rename_i d;have:=u a hd d;omega
 .omega
def sE(q:∀b,m.size<=b->j b=0)(c:lX j m k b h ks kn)(f:nT kn n B)(y:B<=1000000000)(a:0<=i)(z:i<n):
 bJ dN 156 [vp b 0,vi i] m λv p=>∃r:Bool,v=vb r/\lX j p k b h ks (kn.gZ i (-1))/\dZ (·=k) j m j p/\(r=true<->0<=((kn.gZ i (-1)).r i).bF):=by
 have A:=f.aS
 have D:=c.IC
 have C:=f.bF i a
 let⟨t,g1,g2,u,w,x⟩:=c.dz a V
 apply CT (b,0)
 simp -zeta only
 have s:eR ((kn.r i).bF -1)=(kn.r i).bF+ -1:=iC
 refine⟨h,c.jy.1,a,V,_,g1,a,V,c.wr a V V,?_⟩
 intro e
 have d:lX j e k b h ks (kn.gZ i (-1)):=c.cB (g:=λr=>{r with bF:=r.bF+ -1}) a V bO (by rw[s];rfl)
 have l:dZ (·=k) j m j e:=c.ql q _
 clear_value e
 obtain⟨_,o,_⟩:=d.dz a (by rw[qT];omega)
 refine⟨h,d.jy.1,a,V,_,o,_,rfl,d,l,?_⟩
 simp
def wg(d:Int):Nat->Kn->Kn
 |0,k=>k
 |j+1,k=>(wg d j k).tn j (tm d)
def RC:∀j,(wg d j kn).aT.length=kn.aT.length
 |0=>rfl
 |j+1=>by rw[wg,lF,RC j]
def O4:∀j,(wg d j kn).eG=kn.eG
 |0=>rfl
 |j+1=>by rw[wg,Kn.tn];exact O4 j
theorem RB:∀(j q:Nat),(wg d j kn).aT[q]? =if q<j then(kn.aT[q]?).map (tm d)else kn.aT[q]?
 |0,q=>by simp[wg]
 |j+1,q=>by
  rw[wg,Kn.tn];simp only[aeD,RB j q];grind [False]
def XW{a:Nat}(b:a=kn.aT.length):(wg d a kn).aT=kn.aT.map (tm d):=by
 apply ee;grind [RB,List.getElem?_eq_none]
end
section
variable{c r:ag}{e p:E}{h b q:Nat}{f ks:N}{kn v:Kn}{u a t l B:Int}{s:tj->tj}
def xu:bJ dN 58 [] e λv p=>v=.agg #[vi (-1),vi 0,vb false,vi (-1),vi (-1),vi (-1)]/\J e p:=by
 apply CY;unfold xw;simp -zeta only[dU];intro a c;have f:=pz a;have d:=px a;refine⟨trivial,by simp only[c,bD];omega,λj b=>?_⟩;rw[cg _ _ _ _ V];exact d.bC j b
def pR(Q:∀b,e.size<=b->c b=0)(s:lX c e h b f ks kn)(hd:0<=a/\a<kn.aT.length):
 bJ dN 158 [vp b 0,vi a,vi t,vi l] e λZ p=>∃r:Bool,Z=vb r/\dZ (·=h) c e c p/\(r=true->(kn.r a).bF<=0/\lX c p h b f ks (kn.eB a t l))/\((kn.r a).bF<=0->r=true):=by
 have ab:=s.IC
 have hs:=s.iT
 obtain⟨g0,g1,g2,g3,g4,g5⟩:=s.dz hd.1 hd.2
 apply Ec (b,0)
 simp -zeta only
 refine⟨f,s.jy.1,hd.1,V,_,g1,λw=>⟨false,rfl,dZ.cZ _ Q,λw=>(by cases w),λs=>by simp at w;omega⟩,λw=>?_⟩
 have w:(kn.r a).bF<=0:=cG
 refine⟨f,s.jy.1,(xu (e:=e)).aO ?_⟩
 rintro _ R ⟨rfl,J⟩
 have K:dZ (·=h) c e c R:=dZ.fV J Q
 have A:lX c R h b f ks kn:=s.ext J
 refine⟨-1,0,false,-1,-1,-1,rfl,J.db s.jy.1,hd.1,V,by have:=A.wr (o:=0) (n:=6) hd.1 hd.2 V;simpa using this,?_⟩
 intro E
 have x:lX c E h b f ks (kn.tn a λ_=>⟨-1,0,false,-1,-1,-1⟩):=A.cB (o:=0) (g:=λ_=>⟨-1,0,false,-1,-1,-1⟩) hd.1 hd.2 bO rfl
 have L:dZ (·=h) c e c E:=K.O (A.ql K.bI _)
 clear_value E
 have l2:(kn.tn a λ_=>⟨-1,0,false,-1,-1,-1⟩).aT.length=kn.aT.length:=lF
 refine⟨f,x.jy.1,f,x.jy.1,hd.1,V,by have:=x.wr (o:=0) (n:=1) hd.1 V V;simpa using this,?_⟩
 intro F
 have B:lX c F h b f ks ((kn.tn a λ_=>⟨-1,0,false,-1,-1,-1⟩).tn a λr=>{r with lD:=t}):=x.cB (o:=0) (g:=λr=>{r with lD:=t}) hd.1 V bO rfl
 have N:dZ (·=h) c e c F:=L.O (x.ql L.bI _)
 clear_value F
 have l3:=lF (k:=kn.tn a λ_=>⟨-1,0,false,-1,-1,-1⟩) (j:=a) (g:=λr=>{r with lD:=t})
 refine⟨hd.1,V,B.wr (o:=1) hd.1 V V,?_⟩
 intro G
 have z:=B.cB (o:=1) (new:=[.i l]) (g:=λr=>{r with bF:=l}) hd.1 V bO rfl
 have U:dZ (·=h) c e c G:=N.O (B.ql N.bI _)
 have X:(((kn.tn a λ_=>⟨-1,0,false,-1,-1,-1⟩).tn a λr=>{r with lD:=t}).tn a λr=>{r with bF:=l})={kn with aT:=kn.aT.set a.toNat ⟨t,l,false,-1,-1,-1⟩}:=by
  simp only[Kn.tn];congr 1;apply ee;intro v;simp only[aeD];by_cases P:a.toNat=v
  .grind [List.getElem?_set_self,Iw]
  .rw[iY P];simp[P]
 rw[X]at z
 change lX c G h b f ks _ at z
 clear_value G
 refine⟨f,z.jy.1,ik (n:=kn.aT.length) V (λq M=>lX c M h b f ks (wg a q {kn with aT:=kn.aT.set a.toNat ⟨t,l,false,-1,-1,-1⟩})/\dZ (·=h) c e c M) ⟨z,U⟩ ?_⟩
 rintro q M aa μ hj ⟨u,y⟩ S
 have lj:(wg a q {kn with aT:=kn.aT.set a.toNat ⟨t,l,false,-1,-1,-1⟩}).aT.length=kn.aT.length:=by rw[RC];simp
 refine dit (λT=>?_) λT=>?_
 .obtain⟨_,_,_,_,Y,_⟩:=u.dz (i:=q) V V
  refine⟨f,u.jy.1,V,V,_,Y,λv=>?_,λv=>?_⟩
  .simp only[bP]at v
   refine⟨f,u.jy.1,f,u.jy.1,V,V,u.wr V V V,?_⟩
   intro H
   have C:lX c H h b f ks _:=u.cB (i:=q) (o:=4) (new:=[.i (-1)]) (g:=λr=>{r with fr:=-1}) V V bO rfl
   have O:dZ (·=h) c e c H:=y.O (u.ql y.bI _)
   clear_value H
   have l5:=lF (k:=wg a q {kn with aT:=kn.aT.set a.toNat ⟨t,l,false,-1,-1,-1⟩}) (j:=q) (g:=λr=>{r with fr:=-1})
   refine⟨V,V,C.wr V V V,?_⟩
   intro I
   have D:=C.cB (i:=q) (o:=5) (new:=[.i (-1)]) (g:=λr=>{r with DS:=-1}) V V bO rfl
   have W:dZ (·=h) c e c I:=O.O (C.ql O.bI _)
   change lX c I h b f ks _ at D
   clear_value I
   refine S V _ ⟨?_,W⟩
   rw[wg]
   rw[Bm]at D
   rw[Ou (l:=λr=>{r with fr:=-1,DS:=-1}) V V (by unfold tm;rw[ba v])]
   exact D
  .simp only[a8,ne_eq]at v
   refine S V _ ⟨?_,y⟩
   rw[wg,PA V V (by unfold tm;rw[aU v])];exact u
 .have:q=kn.aT.length:=V
  refine⟨true,rfl,y,λ_=>⟨w,?_⟩,λ_=>rfl⟩
  have H:wg a q {kn with aT:=kn.aT.set a.toNat ⟨t,l,false,-1,-1,-1⟩}=kn.eB a t l:=by
   have C:=XW (kn:={kn with aT:=kn.aT.set a.toNat ⟨t,l,false,-1,-1,-1⟩}) (d:=a) (a:=q) cG;have D:=O4 (kn:={kn with aT:=kn.aT.set a.toNat ⟨t,l,false,-1,-1,-1⟩}) (d:=a) q;unfold Kn.eB;revert C D;generalize wg a q _=kj;intro C D;cases kj;grind
  grind
def zA{s:N}{a:List ae}(d:s.len=q)(c:a.length=q)(f:∀b∈a,b.length=6)(b:jt e s.bq s.off a.flatten)(g:q<=1000000000):
 bJ dN 154 [s.v] e λv p=>∃r,v=r.v/\jo e p qY 6 r a.flatten/\J e p:=by
 apply nW
 exact Sf (b:=[.i 0,.i 0,.t false,.i 0,.i 0,.i 0]) d c f b V
def rp(v:∀b,e.size<=b->c b=0)(a:lX c e h b f ks kn)(q:Nat):
 bJ dN 108 [vp b 0] e λB p=>∃r l A z,B=vp l 0/\lX r p q l A z kn/\dZ (λ_=>False) c e r p:=by
 have w:=a.IC
 have x:=a.iT
 have u:=a.yo
 apply Bg (b,0)
 simp -zeta only
 refine⟨f,a.jy.1,ks,a.jy.2,(zA (a:=kn.aT.map Ao) w bO (Kh _) a.aT.kV V).aO ?_⟩
 rintro _ E ⟨o,rfl,o1,k⟩
 obtain⟨F,m,t,_⟩:=jo.ZM o1 k v q
 have y:=(a.ext k).eG.nL V
 refine⟨o,rfl,k.db a.jy.2,(ly y V).aO ?_⟩
 rintro _ d ⟨s,rfl,o2,C⟩
 obtain⟨j,g,a2,_⟩:=jo.ZM o2 C m.bI q
 refine⟨s,rfl,?_⟩
 intro n
 obtain⟨D,G⟩:=pu n
 have i:dZ (λ_=>False) j d (p7 j d.size q) n:=dZ.p7 D g.bI bW V q
 refine⟨p7 j d.size q,d.size,o,s,rfl,⟨dJ.push d _ _,iP,(t.gX g id).gX i id,a2.gX i id,x,u⟩,(m.O g).O i⟩
end
section
def Zo(b r:tj):tj:=if r.lD≠b.lD then{r with lD:=-1}else r
def Zp(b r:tj):tj:=if r.lx≠b.lx\/r.lD<0 then{r with lx:=-1}else r
def Zq(b r:tj):tj:=if r.fr≠b.fr\/r.DS≠b.DS\/r.lD<0 then{r with fr:=-1,DS:=-1}else r
def jn4(b r:tj):tj:={r with cR:=r.cR&&b.cR}
def jn(b r:tj):tj:=jn4 b (Zq b (Zp b (Zo b r)))
def mB(a:Kn):Nat->Kn->Kn
 |0,k=>k
 |j+1,k=>(mB a j k).tn j (jn (a.r j))
variable{f h:ag}{m e:E}{k b n:Nat}{j ks:N}{kn c a:Kn}{i d t o B:Int}{g:tj->tj}
theorem SG(a:0<=i)(b:i<kn.aT.length):(kn.tn i g).r i=g (kn.r i):=by grind [HM]
def xA:∀j,(mB a j kn).aT.length=kn.aT.length
 |0=>rfl
 |j+1=>by rw[mB,lF,xA j]
def Eg:∀j,(mB a j kn).eG=kn.eG
 |0=>rfl
 |j+1=>by rw[mB,Kn.tn];exact Eg j
theorem Pp:∀(j:Nat){i:Int},0<=i->(mB a j kn).r i=if i<j/\i<kn.aT.length then jn (a.r i) (kn.r i)else kn.r i
 |0,i,b=>by rw[aU V];rfl
 |j+1,i,b=>by
  rw[mB,HM V b,Pp j b,xA];grind [List.length]
theorem PO(h:¬i<kn.aT.length):kn.r i=yr:=by
 grind [Kn.r,List.getElem?_eq_none]
theorem Zs(b r:tj):(jn b r).bF=r.bF:=by grind [jn,jn4,Zq,Zp,Zo]
theorem Zt(b r:tj):((jn b r).lD=r.lD/\r.lD=b.lD)\/(jn b r).lD= -1:=by
 grind [jn,jn4,Zq,Zp,Zo]
theorem Zr(b r:tj):((jn b r).lx=r.lx/\r.lx=b.lx)\/(jn b r).lx= -1:=by
 grind [Zq,Zo,jn,jn4,Zp]
theorem aby(b r:tj):((jn b r).fr=r.fr/\(jn b r).DS=r.DS/\r.fr=b.fr/\r.DS=b.DS)\/(jn b r).fr= -1:=by
 grind [Zp,Zo,jn,jn4,Zq]
theorem Xa(b r:tj):(jn b r).cR=(r.cR&&b.cR):=by
 grind [Zq,Zp,Zo,jn,jn4]
def Yd(d:kn.aT.length=a.aT.length)(c:kn.eG=a.eG)(e:∀j:Nat,j<kn.aT.length->(kn.r j).bF=(a.r j).bF):vG kn (mB a kn.aT.length kn)/\vG a (mB a kn.aT.length kn):=by
 have R:∀{i:Int},0<=i->(mB a kn.aT.length kn).r i=if i<kn.aT.length then jn (a.r i) (kn.r i)else kn.r i:=λ{i} b=>by
  grind [Pp]
 have E:∀{i:Int},0<=i->(kn.r i).bF=(a.r i).bF:=λ{i} b=>by
  by_cases h:i<kn.aT.length
  .have:=e i.toNat V;grind
  .grind [PO]
 have N:∀{i:Int},0<=i->¬i<kn.aT.length->kn.r i=a.r i:=by grind [PO]
 refine⟨⟨xA _,λi b=>?_,λi b=>?_,λi b=>?_,λi b=>?_,λi b=>?_,Eg _⟩,⟨(xA _).trans d,λi b=>?_,λi b=>?_,λi b=>?_,λi b=>?_,λi b=>?_,(Eg _).trans c⟩⟩
 .grind [Zs]
 .grind [Zt]
 .grind [Zr]
 .grind [aby]
 .grind [Xa]
 .grind [Zs]
 .grind [Zt]
 .grind [Zr]
 .grind [aby]
 .grind [Xa]
end
section
variable{j:E}{f:tj->tj}{c:Nat}{K:E->Prop}
variable{e u:ag}{m l:E}{k q b p n:Nat}{a ks s r:N}{kn h:Kn}{i d t o B:Int}{g:tj->tj}
def nt(e:ag)(m:E)(k b:Nat)(a ks:N)(kn:Kn)(i:Int)(j:E)(g:tj->tj):Prop:=lX e m k b a ks (kn.tn i g)/\dZ (·=k) e j e m
def nt.cB{j:E}(h:nt e m k b a ks kn i j g)(c:0<=i)(d:i<kn.aT.length){o:Nat}{new:ae}{f:tj->tj}(n:o+new.length<=6)(l:jh (Ao (g (kn.r i))) o new=Ao (f (g (kn.r i)))):
 nt e (aV m a.bq (a.off+i.toNat*6+o) new) k b a ks kn i j λr=>f (g r):=by
 refine⟨?_,h.2.O (h.1.ql h.2.bI _)⟩
 have:=h.1.cB (i:=i) (o:=o) (new:=new) (g:=f) c (by rw[lF];exact d) n (by rw[SG c d];exact l)
 rwa[Bm]at this
def nt.bC(h:nt e m k b a ks kn i j g)(c:0<=i)(d:i<kn.aT.length)(n:f (g (kn.r i))=g (kn.r i)):nt e m k b a ks kn i j λr=>f (g r):=by
 refine⟨?_,h.2⟩;have l:kn.tn i (λr=>f (g r))=kn.tn i g:=by
  rw[<-Bm,PA c (by rw[lF];exact d) (by rw[SG c d];exact n)]
 rw[l];exact h.1
def nt.eqv(h:nt e m k b a ks kn i j g)(c:0<=i)(d:i<kn.aT.length)(l:f (kn.r i)=g (kn.r i)):nt e m k b a ks kn i j f:=by
 refine⟨?_,h.2⟩;rw[Ou c d l];exact h.1
def nt.dz{j:E}(h:nt e m k b a ks kn i j g)(c:0<=i)(d:i<kn.aT.length):aR m a.bq (a.off+i.toNat*6)=some (vi (g (kn.r i)).lD)/\aR m a.bq (a.off+i.toNat*6+1)=some (vi (g (kn.r i)).bF)/\aR m a.bq (a.off+i.toNat*6+2)=some (vb (g (kn.r i)).cR)/\
 aR m a.bq (a.off+i.toNat*6+3)=some (vi (g (kn.r i)).lx)/\aR m a.bq (a.off+i.toNat*6+4)=some (vi (g (kn.r i)).fr)/\aR m a.bq (a.off+i.toNat*6+5)=some (vi (g (kn.r i)).DS):=by
 have:=h.1.dz (i:=i) c (by rw[lF];exact d)
 grind [SG]
theorem nt.wr{j:E}(h:nt e m k b a ks kn i j g)(c:0<=i)(d:i<kn.aT.length){o n:Nat}(f:o+n<=6):iQ m a.bq (a.off+i.toNat*6+o) n:=h.1.wr c (by rw[lF];exact d) f
theorem nt.fq(n:nt e m k b a ks kn i j g){l:E}{h:tj->tj}(o:nt e l k b a ks kn i j h)(d:c<j.size)(f:e c≠k):gL [c] m l:=λx p=>by
 have:x=c:=sp p;subst this;rw[n.2.fL x d f,o.2.fL x d f]
def nt.lW{o:Nat}{x:Ce}(n:nt e m k b a ks kn i j g)(d:0<=i)(h:i<kn.aT.length)(t:c<j.size)(u:e c≠k)(q:o+1<=6)(p:jh (Ao (g (kn.r i))) o [x]=Ao (f (kn.r i)))
 (s:∀M,nt e M k b a ks kn i j f->K M):iQ m a.bq (a.off+i.toNat*6+o) 1/\let l:=aV m a.bq (a.off+i.toNat*6+o) [x];gL [c] m l/\K l:=by
 have T:=n.cB d h (o:=o) (new:=[x]) (f:=λ_=>f (kn.r i)) q p
 have r:=T.eqv d h (f:=f) rfl
 grind [nt.wr,nt.fq]
def nt.rc(t:nt e m k b a ks kn i j g)(h:0<=i)(l:i<kn.aT.length)(n:c<j.size)(p:e c≠k)(v:f (kn.r i)={g (kn.r i)with fr:=-1,DS:=-1})
 (u:∀M,nt e M k b a ks kn i j f->K M):iQ m a.bq (a.off+i.toNat*6+4) 1/\let d:=aV m a.bq (a.off+i.toNat*6+4) [.i (-1)];gL [c] m d/\iQ d a.bq (a.off+i.toNat*6+5) 1/\let q:=aV d a.bq (a.off+i.toNat*6+5) [.i (-1)];gL [c] d q/\K q:=by
 obtain⟨s,a2,T⟩:=t.lW (o:=4) (x:=.i (-1)) (f:=λr=>{g r with fr:=-1}) (K:=λM=>nt e M k b a ks kn i j λr=>{g r with fr:=-1}) h l n p V rfl (λ_=>id)
 refine⟨s,a2,?_⟩
 exact T.lW (o:=5) (x:=.i (-1)) (f:=f) h l n p V (by rw[v];rfl) u
def YM(kn h:Kn):Prop:=kn.eG=h.eG/\∀j:Nat,j<kn.aT.length->(kn.r j).bF=(h.r j).bF
def It(hn:∀b,m.size<=b->e b=0)(d:lX e m k b a ks kn)(G:lX e m q p s r h)(hl:kn.aT.length=h.aT.length)(hk:k≠0)(ad:q≠k):
 bJ dN 161 [vp b 0,vp p 0] m λaf l=>∃z:Bool,af=vb z/\dZ (·=k) e m e l/\(z=true->lX e l k b a ks (mB h kn.aT.length kn)/\vG kn (mB h kn.aT.length kn)/\vG h (mB h kn.aT.length kn))/\(z=true<->YM kn h):=by
 have ai:=d.IC
 have aj:=G.IC
 have hs:=d.iT
 have s1:=d.yo
 have s2:=G.yo
 apply CS (b,0) (p,0)
 simp -zeta only[dU]
 refine⟨ks,d.jy.2,r,G.jy.2,(jX (d.eG.nL V) (G.eG.nL V)).aO ?_⟩
 rintro _ m1 ⟨z,rfl,y,T⟩
 have X:dZ (·=k) e m e m1:=dZ.fV T hn
 refine⟨z,rfl,λu=>⟨false,rfl,X,λu=>(by cases u),λu=>(by cases u),λd=>absurd d.1 (nb y u)⟩,λu=>?_⟩
 have Z:=yb y u
 refine⟨a,(d.ext T).jy.1,ik (n:=kn.aT.length) V (λj M=>lX e M k b a ks (mB h j kn)/\dZ (·=k) e m e M/\∀B:Nat,B<j->(kn.r B).bF=(h.r B).bF) ⟨d.ext T,X,V⟩ ?_⟩
 rintro j M aa μ hj ⟨H,F,S⟩ ae
 have I:lX e M q p s r h:=G.gX F ad
 refine dit (λab=>?_) λab=>?_
 .have ah:(j:Int)<kn.aT.length:=V
  have lj:(mB h j kn).aT.length=kn.aT.length:=xA j
  have Y:(mB h j kn).r j=kn.r j:=by rw[Pp j V,aU V]
  obtain⟨f0,f1,f2,f3,f4,f5⟩:=I.dz (i:=j) V V
  refine⟨a,H.jy.1,V,V,s,I.jy.1,V,V,_,f0,_,f1,_,f2,_,f3,_,f4,_,f5,?_⟩
  intro O
  have z2:=pz O
  have U:=px O
  have L1:=H.bT.lt
  have L2:=I.bT.lt
  have D:=(I.aT.bq I.acW).1
  have A:∀{c:Nat},c<M.size->∀o,aR O c o=aR M c o:=λw o=>bB (U.bC _ w) o
  have ag:=H.ext U
  have r0:e M.size=0:=F.bI _ bW
  clear_value O
  refine⟨A D _,A D _,A D _,A D _,A D _,A D _,A L2 _,A L1 _,?_⟩
  intro v
  have z3:v.size=M.size+1:=by simp only[v,bD];omega
  have x3:J M v:=⟨V,λc w=>by simp only[v];rw[cg _ _ _ _ V];exact U.bC c w⟩
  clear_value v
  have ac:=H.ext x3
  have R:dZ (·=k) e m e v:=F.O (dZ.fV x3 F.bI)
  have P:nt e v k b a ks (mB h j kn) j v id:=⟨by rw[PA V V rfl];exact ac,dZ.cZ _ R.bI⟩
  have f:(0:Int)<=j:=V
  have g:(j:Int)<(mB h j kn).aT.length:=V
  have w:M.size<v.size:=V
  have y:e M.size≠k:=by rw[r0];exact hk.symm
  obtain⟨t0,t1,_⟩:=P.dz f g
  refine⟨_,t1,λB=>⟨false,rfl,R,λu=>(by cases u),λu=>(by cases u),λd=>by
   have t:=d.2 j V;rw[<-Y]at t;simp only[id,Tt,ne_eq]at B;exact absurd t B⟩,λB=>⟨λN=>nt e N k b a ks (mB h j kn) j v (Zo (h.r j)),⟨_,t0,λt=>?_,λt=>?_⟩,?_⟩⟩
  .exact P.lW (o:=0) (x:=.i (-1)) f g w y V (by unfold Zo;rw[ba (sp t)];rfl) λ_=>id
  .exact P.eqv f g (by unfold Zo;rw[aU (sp t)];rfl)
  intro N1 L
  obtain⟨u0,_,_,u3,_,_⟩:=L.dz f g
  refine⟨λN=>nt e N k b a ks (mB h j kn) j v λz=>Zp (h.r j) (Zo (h.r j) z),⟨_,u3,λt=>?_,λt=>⟨_,u0,λC=>?_,λC=>?_⟩⟩,?_⟩
  .exact L.lW (o:=3) (x:=.i (-1)) f g w y V (by unfold Zp;rw[ba (bu (sp t))];rfl) λ_=>id
  .exact L.lW (o:=3) (x:=.i (-1)) f g w y V (by unfold Zp;rw[ba (bG (sp C))];rfl) λ_=>id
  .exact L.eqv f g (by unfold Zp;rw[aU (λd=>d.elim (sp t) (sp C))])
  intro N2 E
  obtain⟨w0,_,_,_,w4,w5⟩:=E.dz f g
  refine⟨λN=>nt e N k b a ks (mB h j kn) j v λz=>Zq (h.r j) (Zp (h.r j) (Zo (h.r j) z)),⟨_,w4,λt=>?_,λt=>⟨_,w5,λC=>?_,λC=>⟨_,w0,λp2=>?_,λp2=>?_⟩⟩⟩,?_⟩
  .exact E.rc f g w y (by unfold Zq;rw[ba (bu (sp t))]) λ_=>id
  .exact E.rc f g w y (by unfold Zq;rw[ba (bG (bu (sp C)))]) λ_=>id
  .exact E.rc f g w y (by unfold Zq;rw[ba (bG (bG (sp p2)))]) λ_=>id
  .exact E.eqv f g (by unfold Zq;rw[aU (λd=>d.elim (sp t) λd=>d.elim (sp C) (sp p2))])
  intro N3 Q
  obtain⟨_,_,v2,_⟩:=Q.dz f g
  have j7:∀N,nt e N k b a ks (mB h j kn) j v (jn (h.r j))->aa (eR ((j:Int)+1)) N/\μ (eR ((j:Int)+1)) N<μ j M:=λN W=>
   ae V N ⟨W.1,R.O W.2,λK hq=>by
    by_cases u:K=j
    .subst u;have:(id ((mB h K kn).r K)).bF=(h.r K).bF:=sp B;rw[id,Y]at this;exact this
    .exact S K V⟩
  refine⟨_,v2,λt=>?_,λt=>?_⟩
  .exact Q.lW (o:=2) f g w y V (by show jh (Ao _) 2 [.t _]=Ao (jn4 _ _);unfold jn4;rw[t];simp[Ao,jh]) j7
  .exact Q.lW (o:=2) f g w y V (by show jh (Ao _) 2 [.t _]=Ao (jn4 _ _);unfold jn4;rw[t];simp[Ao,jh]) j7
 .have f:j=kn.aT.length:=V
  subst f
  obtain⟨g,t⟩:=Yd hl Z S
  exact⟨true,rfl,F,λ_=>⟨H,g,t⟩,λ_=>⟨Z,S⟩,λ_=>rfl⟩
end
section
def Hx(e:ag)(m:E)(w:Nat)(B:Int)(i:Nat):Option (Nat×Nat)->Option Kn->Prop
 |none,none=>True
 |some q,some kn=>q.2=0/\∃u ks,lX e m (10+i) q.1 u ks kn/\nT kn w B
 |_,_=>False
@[grind cases] structure qS (m0:E) (ro:ag) (m:E) (v:Nat) (d f a l c bs:N) (p:dP) (L:aq) (B:Int):Prop where
 da:Bs m0 ro m
 bT:dJ m v iX [.s d,.s f,.s a,.s l,.i p.bL,.i p.aT,.s c,.s bs]
 j8:ro v=4
 kG:∃Q:List (Option (Nat×Nat)),Q.length=L.length/\iJ ro m nF 1 3 bs (Q.map Ce.pp)/\∀(i:Nat) q o,Q[i]? =some q->L[i]? =some o->Hx ro m p.aT.toNat B i q o
 aS:1<=L.length/\L.length<=1000000
open Classical in
noncomputable def xc (L:aq) (kn:Kn) (i:Nat):Option aq:=
 match L[i]? with
 |some none=>some (L.set i (some kn))
 |some (some old)=>if YM old kn then some (L.set i (some (mB kn old.aT.length old)))else none
 |none=>none
variable{k m r:E}{e s:ag}{v b w:Nat}{d f a l c h u ks:N}{p:dP}{L:aq}{B:Int}{kn t:Kn}{g:Int}{q:Option (Nat×Nat)}{j:Option Kn}{i:Nat}
theorem Hx.gX{P:Nat->Prop}(h:Hx e m w B i q j)(d:dZ P e m s r)(f:¬P (10+i)):Hx s r w B i q j:=by
 cases q<;>cases j<;>first|exact h|skip
 let⟨a,u,ks,b,c⟩:=h;exact⟨a,u,ks,b.gX d f,c⟩
theorem Hx.aO{a:Int}(h:Hx e m w B i q j)(f:B<=a):Hx e m w a i q j:=by
 cases q<;>cases j<;>first|exact h|skip
 let⟨b,u,ks,c,d⟩:=h;exact⟨b,u,ks,c,d.aO f⟩
theorem qS.aO{b:Int}(g:qS k e m v d f a l c h p L B)(i:B<=b):qS k e m v d f a l c h p L b:=by
 constructor<;>grind [qS.kG,qS.da,qS.bT,qS.j8,Hx.aO,qS.aS]
theorem Bs.Sd{P:Nat->Prop}(B:Bs k e m)(h:dZ P e m s r)(c:¬P 0):Bs k s r:=
 ⟨⟨fA B.da.aP h.aP,λb a=>(h.fL b (B.da.lt a) cG).trans (B.da.bC b a)⟩,λb a=>by rw[h.j8 b (B.da.lt a)];exact B.ni b a,h.bI⟩
def qS.gX{P:Nat->Prop}(g:qS k e m v d f a l c h p L B)(i:dZ P e m s r)(j:∀b,P b->b=5\/b=7):qS k s r v d f a l c h p L B:=by
 constructor<;>grind [qS.kG,qS.da,Bs.Sd,qS.bT,dJ.congr,dZ.fL,dJ.lt,qS.j8,dZ.j8,iJ.gX,Hx.gX,qS.aS]
def tP(w:qS k e m v d f a l c h p L B)(W:lX e m 5 b u ks kn)(ok:nT kn p.aT.toNat B)(P:0<=g/\g<L.length):
 bJ dN 112 [vp v 0,vp b 0,vi g] m λaf r=>∃D s,af=vb D/\dZ (λz=>z=3\/10<=z) e m s r/\(D=true->∃t,qS k s r v d f a l c h p (L.set g.toNat (some t)) B/\vG kn t/\(∀old,L[g.toNat]? =some (some old)->vG old t)/\xc L kn g.toNat=some (L.set g.toNat (some t)))/\(D=false->xc L kn g.toNat=none):=by
 let⟨Q,T,E,S⟩:=w.kG
 have X:=w.aS
 have ah:h.len=Q.length:=by have:=E.aS;simp at this;omega
 have aa:h.cap≠0:=by have:=E.le;omega
 let⟨j,O⟩:=dY L g.toNat
 let⟨q,Y⟩:=dY Q g.toNat
 have U:aR m h.bq (h.off+g.toNat*1)=some (Ce.v (.pp q)):=by
  have:=E.kV g.toNat (.pp q) cG;grind
 have M:aR m v 7=some h.v:=w.bT.dz 7
 apply yi (v,0) (b,0)
 simp -zeta only
 have N:=S _ q j Y O
 refine⟨h,M,P.1,V,q,U,λx=>?_,λx=>?_⟩
 .have:q=none:=sp x
  subst this
  cases j with
  |some z=>exact N.elim
  |none=>
   refine⟨h,M,(rp w.da.bI W (10+g.toNat)).aO ?_⟩
   rintro _ R ⟨F,b1,ac,ab,rfl,K1,y⟩
   have h1:=w.gX y (λ_=>False.elim)
   let⟨Q1,ag,H,ae⟩:=w.kG
   have H:=E.gX y id
   refine⟨some (b1,0),rfl,bB (y.fL v w.bT.lt id) _,P.1,V,?_,?_⟩
   .have:=H.wr (o:=g.toNat) (n:=1) cG
    grind
   intro I
   have K:dZ (·=3) F R F I:=dZ.aV y.bI (H.bq aa).2 _ _
   have A:h.off+g.toNat*1=h.off+g.toNat:=V
   have ad:iJ F I nF 1 3 h (jh (Q.map Ce.pp) g.toNat [.pp (some (b1,0))]):=by
    have:=H.eB (o:=g.toNat) (new:=[.pp (some (b1,0))]) cG;grind
   clear_value I
   have J:dZ (λz=>z=3\/10<=z) e m F I:=(y.aO λ_=>False.elim).O (K.aO λ_ x=>bu x)
   refine⟨true,F,rfl,J,λ_=>⟨kn,⟨w.da.Sd J V,?_,(J.j8 v w.bT.lt).trans w.j8,⟨Q.set g.toNat (some (b1,0)),by simp[T],?_,?_⟩,sp X⟩,vG.cZ _,λold x=>cG,by unfold xc;rw[O]⟩,λx=>by cases x⟩
   .grind [dJ.congr]
   .grind [jh,List.map,List.map_set]
   .intro i q' Z C A
    by_cases G:g.toNat=i
    .subst G
     rw[ft V]at C A
     cases C;cases A
     exact⟨rfl,ac,ab,K1.gX K V,ok⟩
    .rw[iY G]at C A
     exact((S i q' Z C A).gX y id).gX K V
 .cases q with
  |none=>cases x
  |some q=>
   cases j with
   |none=>exact N.elim
   |some old=>
    let⟨F,ae,ac,K,ad⟩:=N
    let⟨qb,qo⟩:=q
    simp only at F K
    subst F
    refine⟨h,M,P.1,V,some (qb,0),U,(It w.da.bI K W cG V V).aO ?_⟩
    rintro _ R ⟨D,rfl,y,hr,J⟩
    refine⟨D,rfl,D,e,rfl,y.aO λz x=>V,λx=>?_,λx=>?_⟩
    rotate_left
    .grind [xc]
    let⟨H,w1,w2⟩:=hr x
    generalize ab:mB kn old.aT.length old=t at*
    have I:dZ (λz=>z=3\/10<=z) e m e R:=by grind [dZ.aO]
    refine⟨t,⟨w.da.Sd I V,w.bT.congr (y.fL v w.bT.lt cG),w.j8,⟨Q,by simp[T],E.gX y V,?_⟩,sp X⟩,w2,λag e'=>cG,by unfold xc;rw[O];simp only[];rw[ba (J.1 x),ab]⟩
    intro i q' Z C A
    by_cases G:g.toNat=i
    .subst G
     rw[ft V]at A
     rw[Y]at C
     cases C;cases A
     exact⟨rfl,ae,ac,H,vG.ok ad w1⟩
    .grind [Hx.gX]
end
section
@[grind cases] structure Vx (m0:E) (d f a l c:N) (im:cV) (p:dP):Prop where
 ok:gC im
 pT:p∈im.cO
 bQ:dq m0 d im.bQ
 kQ:oP m0 f im.cO
 aX:bd m0 a p.aX
 cR:bd m0 l p.cR
 cF:gR m0 c p.cF
@[grind cases] structure Wk (m0:E) (ro:ag) (m:E) (b:Nat) (rs ks:N) (kn:Kn) (n:Nat) (B:Int):Prop where
 bs:Bs m0 ro m
 pT:lX ro m 5 b rs ks kn
 ok:nT kn n B
def nv(u:Nat)(d:ap)(j:E)(e:ag)(m:E)(b:Nat)(k ks:N)(n:Nat)(B:Int)(Q:Kn->Prop)(F:Option Kn):Prop:=
 bJ dN u d m λw q=>∃c r,w=vb c/\dZ (·=5) e m r q/\(c=true->∃a,Wk j r q b k ks a n B/\Q a/\F=some a)/\(c=false->F=none)
open Classical in
noncomputable def Px (h:cV) (x:Instr) (kn:Kn):Option Kn:=
 if qZ kn (D x.aN 0)/\0<=(kn.r (D x.aN 0)).lx/\x.cE<(cW h.bQ (kn.r (D x.aN 0)).lx).length/\(kn.r x.br).bF<=0 then
  some (if x.br=D x.aN 0 then kn.eB x.br (((cW h.bQ (kn.r (D x.aN 0)).lx)[x.cE.toNat]?).getD 0) 0 else(kn.eB x.br (((cW h.bQ (kn.r (D x.aN 0)).lx)[x.cE.toNat]?).getD 0) 0).Gt x.br (D x.aN 0) x.cE)
 else none
variable{j m q:E}{e r:ag}{v b n H:Nat}{w u y z c G k ks A I:N}{h:cV}{p:dP}{L:aq}{B F:Int}{kn C:Kn}{x:Instr}{s:Int}
def Wk.ext(h:Wk j e m b k ks kn n B)(a:J m q):Wk j e q b k ks kn n B:=⟨⟨h.bs.da.O a,h.bs.ni,λc d=>h.bs.bI c (fA a.aP d)⟩,h.pT.ext a,h.ok⟩
theorem Wk.of(h:Wk j e m b k ks kn n B)(a:dZ (·=5) e m r q)(c:lX r q 5 b k ks C)(d:nT C n F):Wk j r q b k ks C n F:=⟨h.bs.Sd a cH,c,d⟩
def nv.no{K:Kn->Prop}{F:Option Kn}(f:dZ (·=5) e m r q)(d:F=none):∃c r,vb false=vb c/\dZ (·=5) e m r q/\(c=true->∃a,Wk j r q b k ks a n B/\K a/\F=some a)/\(c=false->F=none):=⟨false,r,rfl,f,λa=>(by cases a),λ_=>d⟩
def Vx.dh(C:Vx j w u y z c h p):eP h.bQ:=C.ok.kQ.dh
theorem vF.pL(b:x.op=19){k a:Kn}(c:qZ k (D x.aN 0))(d:0<=(k.r (D x.aN 0)).lx)(g:(cW h.bQ (k.r (D x.aN 0)).lx)[x.cE.toNat]? =some s)(e:(k.r x.br).bF<=0)
 (f:a=(if x.br=D x.aN 0 then k.eB x.br s 0 else(k.eB x.br s 0).Gt x.br (D x.aN 0) x.cE)):vF h p k x a:=by
 grind [vF]
def CZ(N:Vx j w u y z c h p)(hb:dJ m v iX [.s w,.s u,.s y,.s z,.i p.bL,.i p.aT,.s c,.s G])(W:Wk j e m b k ks kn p.aT.toNat B)(hB:0<=B)(hx:iB h p H x)(ag:x.op=19)(ha:bd j A x.aN):
 nv 159 [vp v 0,vp b 0,.agg #[vi x.op,vi x.br,vi x.cE,vi x.cY,A.v,I.v]] j e m b k ks p.aT.toNat B (vF h p kn x) (Px h x kn):=by
 have R:=hx.op
 unfold kL at R
 simp only[ag]at R
 simp+decide only[mN,vE]at R
 let⟨aq,aj,av⟩:=R
 have aw:=(N.ok.eN p N.pT).aT
 have az:=ha.aS
 have ai:=aZ (jG (l:=x.aN) (i:=0) V V)
 have L:=hx.aN _ ai
 have F:=hx.br
 have au:=W.ok.aS
 have ax:=W.pT.IC
 generalize hA:D x.aN 0=r0 at*
 have P:¬(qZ kn r0/\0<=(kn.r r0).lx/\x.cE<(cW h.bQ (kn.r r0).lx).length/\(kn.r x.br).bF<=0)->Px h x kn=none:=by grind [Px]
 unfold nv
 apply zo (v,0) (b,0)
 simp -zeta only[dU]
 intro q
 obtain⟨x1,z1⟩:=pu q
 clear_value q
 have Y:=W.ext x1
 have g0:aR q A.bq (A.off+Int.toNat 0*1)=some (vi r0):=by
  have:=ha.D (jG (l:=x.aN) (i:=0) V V);rw[hA]at this;exact Y.bs.da.aR cG
 let⟨q0,q1,q2,q3,q4,q5⟩:=Y.pT.dz (i:=r0) L.1 V
 refine⟨V,V,r0,g0,k,Y.pT.jy.1,L.1,V,_,q0,_,q1,_,q2,_,q3,_,q4,_,q5,?_⟩
 intro m2 T
 have z2:m2.size=m.size+2:=cG
 have x2:J q T:=by grind [J.cZ,J.cw,J.aV]
 have U:=x1.O x2
 have Q:∀c∈[q.size,m.size],c<T.size:=by grind [bD]
 have O:=W.ext U
 have n0:∀c∈[q.size,m.size],e c≠5:=λc E=>by
  have:m.size<=c:=by simp at E;omega
  rw[W.bs.bI c this];decide
 have c3:dZ (·=5) e m e T:=dZ.fV U W.bs.bI
 clear_value T
 refine(ou O.pT O.ok V).aO ?_
 rintro _ _ ⟨r,rfl,rfl,S⟩
 refine⟨di.fq Q,r,rfl,λn=>nv.no c3 (P λC=>nb S n ⟨L.1,C.1⟩),λn=>?_⟩
 have n:r=true:=cG
 have af:=(S.1 n).2
 refine⟨λn=>nv.no c3 (P λC=>by have:=C.2.1;simp at n;omega),λn=>?_⟩
 have ah:0<=(kn.r r0).lx:=cG
 have ar:=W.ok.lx r0 L.1
 refine⟨w,U.aR (hb.dz 0),(uH (dq.ext O.bs.da N.bQ) N.dh V).aO ?_⟩
 rintro _ m4 ⟨ab,rfl,hs,M⟩
 have ay:=hs.aS
 have Z:=O.ext M
 have ao:=U.O M
 have c4:dZ (·=5) e m e m4:=dZ.fV ao W.bs.bI
 refine⟨M.fq Q,ab,rfl,λn=>nv.no c4 (P λC=>by have:=C.2.2.1;simp at n;omega),λn=>?_⟩
 have al:x.cE<(cW h.bQ (kn.r r0).lx).length:=cG
 let⟨s,ht⟩:=dY (cW h.bQ (kn.r r0).lx) x.cE.toNat
 have gt:aR m4 ab.bq (ab.off+x.cE.toNat*1)=some (vi s):=hs.D ht
 refine⟨aj,V,s,gt,(pR (t:=s) (l:=0) Z.bs.bI Z.pT (a:=x.br) V).aO ?_⟩
 rintro _ m5 ⟨r,rfl,c5,S,am⟩
 have aa:=c4.O c5
 have an:gL [q.size,m.size] m4 m5:=by grind [dZ.C3]
 refine⟨an,r,rfl,λn=>nv.no aa (P λC=>by rw[am C.2.2.2]at n;cases n),λn=>?_⟩
 let⟨ho,C⟩:=S cG
 have hY:Px h x kn=some (if x.br=r0 then kn.eB x.br s 0 else(kn.eB x.br s 0).Gt x.br r0 x.cE):=by
  unfold Px;rw[hA,ba ⟨af,ah,al,ho⟩,ht];rfl
 have ae:=W.ok.eB (d:=x.br) (t:=s) (o:=0) V (dR B) ⟨dR 0,hB⟩
 have W5:=Z.of c5 C ae
 refine⟨λn=>?_,λn=>?_⟩
 .have ak:x.br≠r0:=cG
  refine⟨k,C.jy.1,k,C.jy.1,F.1,V,C.wr (o:=4) F.1 cG V,?_⟩
  intro K
  have X:lX e K 5 b k ks _:=C.cB (i:=x.br) (o:=4) (new:=[.i r0]) (g:=λr=>{r with fr:=r0}) F.1 cG bO rfl
  have c6:dZ (·=5) _ m5 _ K:=C.ql aa.bI (o:=k.off+x.br.toNat*6+4) [.i r0]
  have z5:=c5.aP
  have ac:gL [q.size,m.size] m5 K:=c6.C3 λc E=>⟨by have:=Q c E;have:=M.aP;omega,n0 c E⟩
  have ad:dZ (·=5) e m e K:=aa.O c6
  have z6:=c6.aP
  clear_value K
  refine⟨ac,bB (ac _ bO) _,bB (ac _ bO) _,F.1,V,X.wr (o:=5) F.1 (by rw[lF,Bw];omega) V,?_⟩
  intro m7
  have K7:=X.cB (i:=x.br) (o:=5) (new:=[.i x.cE]) (g:=λr=>{r with DS:=x.cE}) F.1 (by rw[lF,Bw];omega) bO rfl
  have c7:=X.ql ad.bI (o:=k.off+x.br.toNat*6+5) [.i x.cE]
  rw[Bm]at K7
  change lX e m7 5 b k ks ((kn.eB x.br s 0).Gt x.br r0 x.cE)at K7
  have aC:gL [q.size,m.size] K m7:=c7.C3 λc E=>⟨by have:=Q c E;have:=M.aP;omega,n0 c E⟩
  have aB:=ae.Gt (d:=x.br) (a:=r0) (f:=x.cE) V ⟨L.1,V,ak.symm⟩ λaA hj=>ZP V hj
  have ap:dZ (·=5) e m e m7:=ad.O c7
  grind [Wk.of,vF.pL]
 .grind [vF.pL]
end
section
variable{r m j:E}{e F:ag}{v b q u k:Nat}{A f a l c z h ks s y:N}{w:cV}{p:dP}{B:Int}{kn C:Kn}{x:Instr}{g:Int}
def XQ(f:lX e m k b h ks kn):bJ dN 237 [h.v,.func (.func 238) #[] #[]] m λw j=>∃r,w=vb r/\J m j/\(r=false<->∀d,0<=d->(kn.r d).bF<=0):=by
 have E:=f.IC;have F:=f.iT;apply mK h (.func 238,#[],#[]);have:bJ dN 255 [h.v,.func (.func 238) #[] #[]] m λw j=>∃r:Int,w=vi r/\J m j/\(r<0->∀a:Nat,a<kn.aT.length->(kn.r a).bF<=0)/\(0<=r->∃a:Nat,0<(kn.r a).bF):=by
  apply nk h (.func 238,#[],#[]);refine ik (n:=kn.aT.length) V (λq M=>J m M/\∀a:Nat,a<q->(kn.r a).bF<=0) ⟨di,V⟩ ?_;rintro q M I μ D ⟨c,C⟩ s
  refine⟨λg=>?_,λg=>?_⟩
  .simp only[bh]at g;let⟨t,u,v,x,y,z⟩:=(f.ext c).dz (i:=q) V V;refine⟨V,V,_,t,_,u,_,v,_,x,_,y,_,z,238,rfl,cH,?_⟩;simp only[gY,fH];apply vO;simp -zeta only[dU];intro o;have l:=px o;refine⟨_,rfl,λp=>⟨_,rfl,c.O l,λA=>V,λ_=>⟨q,sp p⟩⟩,λA=>s V _ ⟨c.O l,λa B=>?_⟩⟩;grind
  .grind [decide_eq_false_iff_not]
 refine this.aO ?_;rintro _ t ⟨r,rfl,c,l,p⟩;refine⟨_,rfl,_,rfl,c,λg d o=>?_,λf=>?_⟩;rotate_left
 .grind
 by_cases a:d<kn.aT.length
 .have:=l cG d.toNat V;grind
 .rw[PO a];exact dR _
def Vu{s:N}{q:ab}(h:bd m s q):gK dN 81 [s.v,.func (.func 239) #[] #[]] m (∃y∈q,0<=y):=by
 refine ln h 239 #[] #[] cH (λy=>0<=y) λy _ j a=>?_;simp only[gY,fH];apply vP;grind [J.cZ]
open Classical in
def Vl(x:Instr)(g:Int)(a b:Kn):Prop:=
 if x.op=23\/x.op=24 then(∀i,0<=i->(a.r i).bF<=0)/\(∀q∈a.eG,q<0)/\b=a
 else
  let c:Kn:=if x.cY=0 then a else{a with eG:=gT a.eG (x.cY -1) (-1)}
  if kM x.op then(a.r x.br).bF<=0/\b=c.eB x.br g (Kb g)else b=c
open Classical in
noncomputable def JV (x:Instr) (g:Int) (a:Kn):Option Kn:=
 if x.op=23\/x.op=24 then if(∀i,0<=i->(a.r i).bF<=0)/\(∀q∈a.eG,q<0)then some a else none
 else if x.cY≠0/\D a.eG (x.cY -1)≠x.aN.length then none
 else if kM x.op then if(a.r x.br).bF<=0 then some ((if x.cY=0 then a else{a with eG:=gT a.eG (x.cY -1) (-1)}).eB x.br g (Kb g))else none
 else some (if x.cY=0 then a else{a with eG:=gT a.eG (x.cY -1) (-1)})
def Ah(W:Wk r e m b h ks kn p.aT.toNat B)(hB:1<=B)(hx:iB w p u x)(aa:x.op≠7/\x.op≠8)(ha:bd r s x.aN)(ht:0<=g)(hr:1<=p.aT)(af:x.cY=0\/1<=x.cY/\x.cY<=p.aT):
 nv 207 [vp v 0,vp b 0,.agg #[vi x.op,vi x.br,vi x.cE,vi x.cY,s.v,y.v],vi g] r e m b h ks p.aT.toNat B (Vl x g kn) (JV x g kn):=by
 have ae:=hx.br
 have ac:=ha.aS
 have ai:=W.ok.aS
 have al:=W.pT.IC
 have ah:=W.pT.yo
 have aj:=W.pT.Xd
 have an:=W.pT.iT
 unfold nv
 apply xy (v,0) (b,0)
 simp -zeta only[dU]
 intro l
 obtain⟨I,z1⟩:=pu l
 clear_value l
 have a:=W.ext I
 have O:dZ (·=5) e m e l:=dZ.fV I W.bs.bI
 have E:∀c∈[m.size],c<l.size:=cG
 have n0:∀c∈[m.size],e c≠5:=λc T=>by
  rw[W.bs.bI c cG];decide
 refine⟨λY M=>M=l/\(Y=true<->x.op=23\/x.op=24),⟨λf=>⟨rfl,by simp at f;simp[f]⟩,λf=>⟨rfl,by simp at f;simp[f]⟩⟩,?_⟩
 rintro Y M ⟨hM,ab⟩
 obtain rfl:l=M:=hM.symm
 refine⟨λf=>?_,λf=>?_⟩
 .have A:=ab.1 f
  refine⟨h,a.pT.jy.1,(XQ a.pT).aO ?_⟩
  rintro _ F ⟨Q,rfl,C,J⟩
  have G:=a.ext C
  have n:dZ (·=5) e m e F:=dZ.fV (I.O C) W.bs.bI
  refine⟨C.fq E,Q,rfl,λq=>?_,λq=>nv.no n (by
   unfold JV;rw[ba A,aU];intro z;have:=J.2 z.1;simp at q;rw[q]at this;cases this)⟩
  have J:=J.1 cG
  refine⟨ks,G.pT.jy.2,(Vu (G.pT.eG.nL V)).aO ?_⟩
  rintro _ K ⟨H,rfl,S,j⟩
  have L:=G.ext j
  have N:dZ (·=5) e m e K:=dZ.fV ((I.O C).O j) W.bs.bI
  refine⟨j.fq λc T=>cp (E c T) C.aP,H,rfl,!H,e,rfl,N,λk=>⟨kn,L,?_,?_⟩,λk=>?_⟩
  .grind [Vl]
  .unfold JV
   rw[ba A,ba]
   constructor<;>grind
  .unfold JV
   rw[ba A,aU]
   intro z
   let⟨R,P,U⟩:=yb S k
   have:=z.2 R P
   omega
 .have A:¬(x.op=23\/x.op=24):=cG
  refine⟨λM=>dZ (·=5) e l e M/\lX e M 5 b h ks (if x.cY=0 then kn else{kn with eG:=gT kn.eG (x.cY -1) (-1)})/\¬(x.cY≠0/\D kn.eG (x.cY -1)≠x.aN.length),⟨λq=>?_,λq=>?_⟩,?_⟩
  .have G:x.cY≠0:=cG
   have C:eR (x.cY -1)=x.cY -1:=by grind [dt]
   rw[C]
   refine⟨ks,a.pT.jy.2,V,V,_,a.pT.adH (i:=x.cY -1) V V,λk=>nv.no O (by
    unfold JV;rw[aU A,ba ⟨G,by rw[<-ac];simpa using k⟩]),λk=>⟨ks,a.pT.jy.2,V,V,a.pT.wrK V V,?_⟩⟩
   intro F
   have n:=a.pT.Se a.bs.bI (ks.off+(x.cY -1).toNat*1) [.i (-1)]
   constructor<;>grind [dZ.C3,Wk.pT,lX.acV]
  .have C:x.cY=0:=cG
   refine⟨dZ.cZ _ a.bs.bI,?_,λz=>z.1 C⟩
   grind [Wk.pT]
  rintro F ⟨n,L,ag⟩
  have z2:=n.aP
  generalize U:(if x.cY=0 then kn else{kn with eG:=gT kn.eG (x.cY -1) (-1)})=k2 at L
  have am:∀J,k2.r J=kn.r J:=λJ=>by rw[<-U];split<;>rfl
  have ak:k2.aT.length=kn.aT.length:=cG
  have X:nT k2 p.aT.toNat B:=by
   rw[<-U];split
   .exact W.ok
   .exact W.ok.eG
  refine(qA x.op F aa).aO ?_
  rintro _ K ⟨H,rfl,S,j⟩
  have N:=L.ext j
  have z:dZ (·=5) e m e K:=(O.O n).O (dZ.fV j n.bI)
  refine⟨j.fq λG C=>cp (E G C) z2,H,rfl,λk=>⟨true,e,rfl,z,λ_=>⟨k2,W.of z N X,?_,?_⟩,λf=>by cases f⟩,λk=>?_⟩
  .grind [Vl]
  .grind [JV]
  .have e1:(if(1:Int)<g then 1 else g)=Kb g:=by unfold Kb;split<;>split<;>omega
   rw[e1]
   refine(pR (t:=g) (l:=Kb g) z.bI N (a:=x.br) V).aO ?_
   rintro _ m4 ⟨Z,rfl,Q,h4,ad⟩
   have P:=z.O Q
   refine⟨Q.C3 λG C=>⟨cp (cp (E G C) z2) j.aP,n0 G C⟩,Z,rfl,Z,e,rfl,P,λR=>?_,λR=>?_⟩
   rotate_left
   .grind [JV]
   let⟨ho,K4⟩:=h4 R
   refine⟨_,W.of P K4 (X.eB V (dR B) (by unfold Kb;split<;>omega)),?_,?_⟩
   .grind [Vl]
   grind [JV]
end
section
variable{h:Int}
def _root_.Go.Vc.fU.acL{α:Type}{m:E}{d:Nat}{R:ae->α->Prop}{s:N}{y:List α}(e:fU m d R s y){i h:Nat}(q:i<=h)(r:h<=y.length):fU m d R (s.cut i h d) ((y.take h).drop i):=by
 have a:=e.aS;have l:=e.lZ;have u:=e.kA;have j:(s.cut i h d).len=h -i/\(s.cut i h d).len<=(s.cut i h d).cap:=by
  cases s with
  |nil=>simp at a;simp[N.cut];omega
  |Dx b o sp=>simp at a;simp[N.cut];omega
  |mk b o A c=>simp at a l;simp[N.cut];omega
 refine⟨by simp[j.1];omega,j.2,V,λk x f=>?_⟩;rw[rC,lE]at f;split at f
 .rename_i t;let⟨n,p,g⟩:=e.kV _ x f;refine⟨n,p,?_⟩;cases s with
  |nil=>simp at a;omega
  |Dx b o sp=>simp at a;omega
  |mk b o A c=>
   simp at a l;have:¬c=i:=V;simp only[N.cut,this,mN,N.mP,N.Bo]at g⊢;rw[nl,<-jP]at g;exact g
 .simp at f
variable{C m K:E}{r L:ag}{v b A F k:Nat}{d f a y c G w ks z H:N}{s:cV}{p:dP}{B:Int}{kn I:Kn}{x:Instr}{t:Int}
def ZE{i:Int}{g a:tj->tj}(b:∀r,g (a r)=a (g r)):(kn.tn i g).tn h a=(kn.tn h a).tn i g:=by
 simp only[Kn.tn];congr 1;apply ee;grind [Function.comp_def]
def XN{i e g:Int}:(kn.gZ i e).gZ h g=(kn.gZ h g).gZ i e:=ZE λr=>by
 grind
def wY{i e:Int}:∀(q:ab)(kn:Kn),jA (kn.gZ i e) q=(jA kn q).gZ i e
 |[],_=>rfl
 |r::q,kn=>by rw[jA,XN,wY q];rfl
def OK:∀(q:ab)(r:Int)(kn:Kn),jA kn (q++[r])=(jA kn q).gZ r 1
 |[],r,kn=>rfl
 |y::q,r,kn=>by rw[eT,jA,OK q r];rfl
def Ro:∀(q:ab){kn:Kn}{B:Int},nT kn A B->(∀r∈q,0<=r/\r<A)->nT (jA kn q) A (B+q.length)
 |[],kn,B,h,_=>by simpa[jA]using h
 |r::q,kn,B,h,a=>by
  have b:=a r cK;have d:=h.bF r b.1;have:=Ro q (h.gZ (e:=1) (B':=B+1) b V V) λy c=>a y (aW _ c);grind [jA,nT.aO]
def ON:∀(q:ab){kn:Kn}{a:Int},(∀r∈q,0<=r/\r<kn.aT.length)->0<=a->(kn.r a).bF<=((jA kn q).r a).bF
 |[],kn,a,_,_=>dR _
 |r::q,kn,a,b,c=>by
  have e:=b r cK;rw[jA];have:=ON q (kn:=kn.gZ r 1) (a:=a) (λy d=>by rw[qT];exact b y (aW _ d)) c;grind [Int.le_trans,yG]
def vF.ZI(h:x.op=16\/x.op=17){k a:Kn}(b:0<(k.r (D x.aN 0)).bF)(c:∀r∈x.aN.drop 1,(k.r r).fr=D x.aN 0){q:Int}(e:0<=q)
 (d:a={jA (k.gZ (D x.aN 0) (-1)) (x.aN.drop 1)with eG:=if x.op=17 then gT k.eG (D x.aN 0) q else k.eG}):vF s p k x a:=by
 unfold vF
 grind
def sJ(kn:Kn)(a:Int):Nat->ab->ab->Prop
 |_,[],b=>b=[]
 |i,t::c,b=>if t=0 then sJ kn a (i+1) c b else match b with
  |[]=>False
  |f::b=>(kn.r f).fr=a/\(kn.r f).DS=i/\sJ kn a (i+1) c b
section
variable{kn:Kn}{a t u:Int}{i:Nat}{g e:ab}
def Up(h:t=0):sJ kn a i (t::g) e=sJ kn a (i+1) g e:=by cases e<;>simp[sJ,h]
def V8(h:t≠0):sJ kn a i (t::g) []=False:=by simp[sJ,h]
def Uo(h:t≠0):sJ kn a i (t::g) (u::e)=((kn.r u).fr=a/\(kn.r u).DS=i/\sJ kn a (i+1) g e):=by simp[sJ,h]
end
open Classical in
noncomputable def PI (s:cV) (x:Instr) (kn:Kn):Option Kn:=
 if 0<(kn.r (D x.aN 0)).bF/\0<=(kn.r (D x.aN 0)).lx/\¬(x.op=17/\0<=D kn.eG (D x.aN 0))/\sJ kn (D x.aN 0) 0 (cW s.bQ (kn.r (D x.aN 0)).lx) (x.aN.drop 1)then
  some {jA (kn.gZ (D x.aN 0) (-1)) (x.aN.drop 1)with eG:=if x.op=17 then gT kn.eG (D x.aN 0) (cW s.bQ (kn.r (D x.aN 0)).lx).length else kn.eG}
 else none
def RD{y:ab}{i:Nat}{a:Int}(h:y[i]? =some a):y.drop i=a::y.drop (i+1):=by
 grind [bA,List.drop_eq_getElem_cons,List.getElem?_eq_getElem,Option.some.inj]
def C0(ac:Vx C d f a y c s p)(hb:dJ m v iX [.s d,.s f,.s a,.s y,.i p.bL,.i p.aT,.s c,.s G])(W:Wk C r m b w ks kn p.aT.toNat B)(hB:0<=B/\B<=1000000)(hx:iB s p F x)(ai:x.op=16\/x.op=17)(ha:bd C z x.aN):
 nv 157 [vp v 0,vp b 0,.agg #[vi x.op,vi x.br,vi x.cE,vi x.cY,z.v,H.v]] C r m b w ks p.aT.toNat (B+3) (vF s p kn x) (PI s x kn):=by
 have aG:1<=x.aN.length/\x.aN.length<=4:=by
  have e:=hx.op;unfold kL at e;rcases ai with u|u;all_goals
   simp only[u]at e
   simp+decide only[mN,vE]at e
   exact e.1
 have aO:=(ac.ok.eN p ac.pT).aT
 have aq:=ha.aS
 have am:=jG (l:=x.aN) (i:=0) V V
 have E:=hx.aN _ (aZ am)
 have aM:=W.ok.aS
 have aP:=W.pT.IC
 have aL:=W.pT.yo
 have aN:=W.pT.Xd
 have ad:∀k∈x.aN.drop 1,0<=k/\k<p.aT.toNat:=λk I=>by
  have:=hx.aN k (uj I);omega
 generalize S:D x.aN 0=r0 at*
 have Z:¬(0<(kn.r r0).bF/\0<=(kn.r r0).lx/\¬(x.op=17/\0<=D kn.eG r0)/\sJ kn r0 0 (cW s.bQ (kn.r r0).lx) (x.aN.drop 1))->PI s x kn=none:=λe=>by unfold PI;rw[S,aU e]
 unfold nv
 apply zp (v,0) (b,0)
 simp -zeta only[dU]
 intro P
 obtain⟨x1,z1⟩:=pu P
 clear_value P
 have W1:=W.ext x1
 have g0:aR P z.bq (z.off+Int.toNat 0*1)=some (vi r0):=W1.bs.da.aR (by simpa using ha.D am)
 let⟨q0,q1,q2,q3,q4,q5⟩:=W1.pT.dz (i:=r0) E.1 V
 refine⟨V,V,r0,g0,w,W1.pT.jy.1,E.1,V,_,q0,_,q1,_,q2,_,q3,_,q4,_,q5,?_⟩
 intro m2 m3
 have z2:m2.size=m.size+2:=by simp[m2];omega
 have x2:J P m3:=((J.cZ P).cw _).aV V _ _
 have x3:=x1.O x2
 have ag:∀c∈[P.size,m.size],c<m3.size:=by simp[m3,bD];omega
 have W3:=W.ext x3
 have n0:∀c∈[P.size,m.size],r c≠5:=λc hc=>by
  have:m.size<=c:=by simp at hc;omega
  rw[W.bs.bI c this];decide
 have c3:dZ (·=5) r m r m3:=dZ.fV x3 W.bs.bI
 clear_value m3
 refine⟨λM=>M=m3/\0<(kn.r r0).bF/\0<=(kn.r r0).lx/\¬(x.op=17/\0<=D kn.eG r0),⟨λu=>nv.no c3 (Z λe=>by have:=e.1;simp at u;omega),λu=>⟨λL=>nv.no c3 (Z λe=>by have:=e.2.1;simp at L;omega),λL=>⟨λR=>?_,λR=>?_⟩⟩⟩,?_⟩
 .refine⟨ks,W3.pT.jy.2,E.1,V,_,W3.pT.adH E.1 V,λK=>nv.no c3 (Z λe=>e.2.2.1 ⟨sp R,sp K⟩),λK=>⟨rfl,?_,?_,?_⟩⟩
  .simp at u;omega
  .simpa using L
  .simp at K;omega
 .refine⟨rfl,?_,?_,?_⟩
  .simp at u;omega
  .simpa using L
  .simp at R;omega
 rintro au ⟨A,aj,ay,aw⟩
 obtain rfl:m3=au:=A.symm
 have aH:=W.ok.lx r0 E.1
 refine⟨d,x3.aR (hb.dz 0),V,V,oh ha.lZ,(uH (dq.ext W3.bs.da ac.bQ) ac.dh V).aO ?_⟩
 rintro _ U ⟨ae,rfl,hs,x4⟩
 have aC:=hs.aS
 have Y:=W3.ext x4
 have aE:=x3.O x4
 have aB:∀c∈[P.size,m.size],c<U.size:=λc hc=>cp (ag c hc) x4.aP
 have c4:dZ (·=5) r m r U:=dZ.fV aE W.bs.bI
 have ao:bd U (z.cut 1 z.len 1) (x.aN.drop 1):=by
  have:=fU.acL (ha.ext Y.bs.da) (i:=1) (h:=x.aN.length) V bW;rw[fx]at this;rw[aq];exact this
 have an:=ao.aS
 refine⟨x4.fq ag,ae,rfl,bB (x4.bC _ (ag m.size bO)) _,?_⟩
 refine gP (n:=(cW s.bQ (kn.r r0).lx).length) (oh hs.kA) (λh ab M=>M=U/\∃t,t<=(x.aN.drop 1).length/\bd U ab ((x.aN.drop 1).drop t)/\(∀k∈(x.aN.drop 1).take t,(kn.r k).fr=r0)/\(sJ kn r0 h ((cW s.bQ (kn.r r0).lx).drop h) ((x.aN.drop 1).drop t)<->sJ kn r0 0 (cW s.bQ (kn.r r0).lx) (x.aN.drop 1))) ⟨rfl,0,jb _,sp ao,bO,MK⟩ ?_
 rintro h ab av aF μ hj ⟨A,t,hi,hu,hd,N⟩ ar
 obtain rfl:U=av:=A.symm
 have ak:=hu.aS
 have aI:((x.aN.drop 1).drop t).length=(x.aN.drop 1).length -t:=fj
 refine dit (λu=>?_) λu=>?_
 .let⟨aa,hy⟩:=dY (cW s.bQ (kn.r r0).lx) h
  rw[RD hy]at N
  refine⟨V,V,aa,by simpa using hs.D hy,λT=>ar V _ _ ⟨rfl,t,hi,hu,hd,by rw[<-N,Up (sp T)]⟩,λT=>⟨λQ=>nv.no c4 (Z λe=>?_),λQ=>?_⟩⟩
  .have e:=N.2 e.2.2.2
   have:(x.aN.drop 1).drop t=[]:=cr.1 (by simp at Q;omega)
   rw[this,V8 (sp T)]at e
   exact e
  have ah:0<ab.len:=by simp at Q;omega
  let⟨k,I⟩:=dY ((x.aN.drop 1).drop t) 0
  have X:(x.aN.drop 1)[t]? =some k:=by rw[rC]at I;simpa using I
  have O:=ad k (aZ X)
  rw[RD X,Uo (sp T)]at N
  obtain⟨_,_,_,_,w4,w5⟩:=Y.pT.dz (i:=k) O.1 V
  have gr:aR U ab.bq (ab.off+Int.toNat 0*1)=some (vi k):=by simpa using hu.D I
  refine⟨w,Y.pT.jy.1,V,V,k,gr,O.1,V,_,w4,λL=>nv.no c4 (Z λe=>by have:=(N.2 e.2.2.2).1;simp at L;exact L this),λL=>⟨w,Y.pT.jy.1,V,V,k,gr,O.1,V,_,w5,λR=>nv.no c4 (Z λe=>by have:=(N.2 e.2.2.2).2.1;simp at R;exact R this),λR=>⟨V,V,oh hu.lZ,ar V _ _ ⟨rfl,t+1,V,?_,?_,?_⟩⟩⟩⟩
  rotate_right
  .rw[<-N]
   exact⟨λe=>⟨sp L,sp R,e⟩,λe=>e.2.2⟩
  .have:=fU.acL hu (i:=1) (h:=((x.aN.drop 1).drop t).length) V bW
   rw[fx,<-ak]at this
   have K:((x.aN.drop 1).drop t).drop 1=(x.aN.drop 1).drop (t+1):=List.drop_drop
   rw[<-K];exact this
  .have L:(kn.r k).fr=r0:=sp L
   intro af K
   rw[bX X]at K
   rcases bR.1 K with e|e
   .exact hd af e
   .simp at e;subst e;exact L
 .have aA:h=(cW s.bQ (kn.r r0).lx).length:=V
  rw[aA,List.drop_length,sJ]at N
  refine⟨λQ=>nv.no c4 (Z λe=>by
   have:=N.2 e.2.2.2;rw[this]at ak;simp at Q ak;omega),λQ=>?_⟩
  have ax:=N.1 (cr.1 (by simp at Q;omega))
  have hY:PI s x kn=some {jA (kn.gZ r0 (-1)) (x.aN.drop 1)with eG:=if x.op=17 then gT kn.eG r0 (cW s.bQ (kn.r r0).lx).length else kn.eG}:=by
   unfold PI;rw[S,ba ⟨aj,ay,aw,ax⟩]
  have az:t=(x.aN.drop 1).length:=by simp at Q;omega
  have ap:∀k∈x.aN.drop 1,(kn.r k).fr=r0:=λk I=>hd k (by rw[az,fx];exact I)
  refine⟨V,V,oh ha.lZ,ik (n:=(x.aN.drop 1).length) fj (λt M=>lX r M 5 b w ks (jA kn ((x.aN.drop 1).take t))/\dZ (·=5) r U r M) ⟨by simpa[jA]using Y.pT,dZ.cZ _ Y.bs.bI⟩ ?_⟩
  rintro t M I2 μ2 aK ⟨A,cM⟩ aD
  have aa:=Ro ((x.aN.drop 1).take t) W.ok λk I=>ad k (jE I)
  have lM:=aa.aS
  have tl:((x.aN.drop 1).take t).length<=3:=fj
  have zM:=cM.aP
  have ah:∀c∈[P.size,m.size],c<M.size:=λc hc=>cp (aB c hc) zM
  refine dit (λu=>?_) λu=>?_
  .have e':t<(x.aN.drop 1).length:=by rw[<-an];simpa using u
   let⟨k,I⟩:=dY (x.aN.drop 1) t
   have O:=ad k (aZ I)
   have af:bd M (z.cut 1 z.len 1) (x.aN.drop 1):=by
    have:=fU.acL (ha.ext (Y.bs.Sd cM cH).da) (i:=1) (h:=x.aN.length) V bW;rw[fx]at this;rw[aq];exact this
   obtain⟨_,w1,_⟩:=A.dz (i:=k) O.1 V
   have ho:=aa.bF k O.1
   refine⟨V,sp u,k,by simpa using af.D I,w,A.jy.1,O.1,V,_,w1,O.1,V,A.wr O.1 V V,?_⟩
   intro M2
   have hw:eR (((jA kn ((x.aN.drop 1).take t)).r k).bF+1)=((jA kn ((x.aN.drop 1).take t)).r k).bF+1:=iC
   have X:lX r M2 5 b w ks ((jA kn ((x.aN.drop 1).take t)).gZ k 1):=A.cB (g:=λK=>{K with bF:=K.bF+1}) O.1 V bO (by rw[hw];rfl)
   have cc:=A.ql cM.bI (o:=w.off+k.toNat*6+1) [.i (eR (((jA kn ((x.aN.drop 1).take t)).r k).bF+1))]
   refine⟨cc.C3 λK T=>⟨ah K T,n0 K T⟩,aD V _ ⟨?_,cM.O cc⟩⟩
   rw[bX I,OK];exact X
  .have ei:t=(x.aN.drop 1).length:=by
    have:¬t<(x.aN.drop 1).length:=by rw[<-an];simpa using u
    omega
   subst ei
   rw[fx]at A aa tl
   have lM:=aa.aS
   obtain⟨_,w1,_⟩:=A.dz (i:=r0) E.1 V
   have ho:=aa.bF r0 E.1
   have aJ:=ON (x.aN.drop 1) (kn:=kn) (a:=r0) (λk I=>oh (ad k I)) E.1
   refine⟨w,A.jy.1,E.1,V,_,w1,E.1,V,A.wr E.1 V V,?_⟩
   intro M2
   have hw:eR (((jA kn (x.aN.drop 1)).r r0).bF -1)=((jA kn (x.aN.drop 1)).r r0).bF+ -1:=iC
   have X:lX r M2 5 b w ks ((jA kn (x.aN.drop 1)).gZ r0 (-1)):=A.cB (g:=λK=>{K with bF:=K.bF+ -1}) E.1 V bO (by rw[hw];rfl)
   have cc:dZ (·=5) r M r M2:=A.ql cM.bI (o:=w.off+r0.toNat*6+1) [.i (eR (((jA kn (x.aN.drop 1)).r r0).bF -1))]
   have al:nT ((jA kn (x.aN.drop 1)).gZ r0 (-1)) p.aT.toNat (B+3):=aa.gZ V V V
   have l2:=al.aS
   have kk:(jA kn (x.aN.drop 1)).eG=kn.eG:=ve _ _
   have c2:=c4.O (cM.O cc)
   have z2:=cc.aP
   clear_value M2
   refine⟨cc.C3 λK T=>⟨ah K T,n0 K T⟩,λO=>?_,λO=>?_⟩
   .have O:x.op=17:=sp O
    refine⟨ks,X.jy.2,E.1,V,X.wrK E.1 V,?_⟩
    intro M3
    have K3:=X.acV E.1 V (ae.len:Int)
    have af:dZ (·=5) r M2 r M3:=X.Se c2.bI (ks.off+r0.toNat*1) [.i (ae.len:Int)]
    refine⟨af.C3 λK T=>⟨cp (ah K T) z2,n0 K T⟩,true,r,rfl,c2.O af,λ_=>⟨_,W.of (c2.O af) K3 al.eG,vF.ZI ai (S▸aj) (S▸ap) (q:=(ae.len:Int)) V ?_,?_⟩,λu=>by cases u⟩
    .rw[S,ba O,wY]
     simp only[Kn.gZ,Kn.tn,kk]
    .rw[hY,ba O,wY,<-aC]
     simp only[Kn.gZ,Kn.tn,kk]
   .have O:x.op≠17:=sp O
    refine⟨true,r,rfl,c2,λ_=>⟨_,W.of c2 X al,vF.ZI ai (S▸aj) (S▸ap) (q:=0) V ?_,?_⟩,λu=>by cases u⟩
    .rw[S,aU O,wY,<-kk]
     rfl
    .rw[hY,aU O,wY,<-kk]
     rfl
end
section
variable{a r:Int}
variable{m:E}{d f s bQ:N}{b:af}{e:cV}{h:ab}{g cE t c:Int}
theorem rH.aaT{b:af}(g:eP b){t c:Int}(h:rH b t a r)(d:rH b c a r):t=c:=by
 have e:∀{t c:Int},rH b t a r->rH b c a r->¬t<c:=λ{t c} h d hlt=>by
  let⟨x,m,f,n,o,p⟩:=h;let⟨y,g1,g2,j,k,l⟩:=d;have:=((g.eN _ y g2).PF cG).1 x (by
   refine kv (i:=t.toNat -1) ?_;rw[lE,ba V];exact f)
  grind
 have:=e h d;have:=e d h;omega
theorem rH.ae5{b:af}{t c:Int}(h:rH b t a r)(d:rH b t a c):r=c:=by
 obtain⟨x,_,f,_,_,g⟩:=h;obtain⟨y,_,g2,_,_,e⟩:=d;grind
def Cn(hd:dq m d b):bJ dN 235 [N.v d,vi t] m λz y=>∃a r u i,z=.tuple #[.agg #[vi a,vi r,N.v u],vb i]/\J m y/\(i=true->rH b t a r)/\(∀e g,rH b t e g->i=true):=by
 apply Im;simp -zeta only[kd];intro q;have c:=px q;clear_value q;have B:=hd.aS;have C:=hd.kA;refine⟨λf=>?_,λf=>⟨λj=>?_,λj=>?_⟩⟩
 .intro k;exact⟨_,_,_,_,rfl,c.aV bW _ _,λh=>(by cases h),λe g⟨x,n,_⟩=>by simp at f;omega⟩
 .intro k;exact⟨_,_,_,_,rfl,c.aV bW _ _,λh=>(by cases h),λe g⟨x,n,o,_⟩=>by have:=bA o;simp at j;omega⟩
 .have f:1<=t:=cG;have j:t<=d.len:=cG;have w:eR (t -1)=((t.toNat -1:Nat):Int):=by grind [dt]
  let⟨x,p⟩:=dY b (t.toNat -1);obtain⟨u,v,s,g1,g2⟩:=(dq.ext c hd).D p;have D:=v.aS;rw[w];refine⟨V,V,u,g2,λl=>?_,λl=>⟨V,V,_,s,_,g1,u,g2,?_⟩⟩
  .intro k;refine⟨_,_,_,_,rfl,c.aV bW _ _,λh=>(by cases h),λe g⟨E,n,o,A,_⟩=>?_⟩;grind
  .intro k;refine⟨_,_,_,_,rfl,c.aV bW _ _,λ_=>⟨x,f,p,cr.1 ?_,rfl,rfl⟩,λ_ _ _=>rfl⟩;simp at l;omega
def NA(hd:dq m d b):bJ dN 236 [d.v,vi a,vi r] m λF C=>∃t,F=vi t/\J m C/\(0<=t->rH b t a r)/\(∀s,rH b s a r->0<=t):=by
 apply Io;simp -zeta only[dU];have K:=hd.aS;have O:=hd.kA;refine ik (n:=b.length) V (λj M=>J m M/\∀i:Nat,i<j->¬rH b ((i+1:Nat):Int) a r) ⟨J.cZ m,V⟩ ?_;rintro j M I μ N ⟨g,Q⟩ l
 refine⟨λo=>?_,λo=>⟨_,rfl,g,λh=>absurd h cH,λs⟨G,H,w,y⟩=>?_⟩⟩;rotate_left
 .grind
 simp only[bh]at o;let⟨x,B⟩:=dY b j;let⟨E,A,v,g1,g2⟩:=(dq.ext g hd).D B;have q:=A.aS;refine⟨V,V,_,v,_,g1,E,g2,?_⟩;intro R D;have f:J m D:=(g.cw _).aV cG _ _;have k:¬(x.dS=[]/\x.qd=a/\x.to=r)->∀i:Nat,i<j+1->¬rH b ((i+1:Nat):Int) a r:=λP i L z=>by
  by_cases u:i=j
  .subst u;obtain⟨G,_,w,y⟩:=z;grind
  .grind
 refine⟨λp=>⟨λc=>⟨λe=>?_,λe=>l V _ ⟨f,k λh=>by simp at e;exact e h.2.2⟩⟩,λc=>l V _ ⟨f,k λh=>by simp at c;exact c h.2.1⟩⟩,λp=>l V _ ⟨f,k λh=>by rw[h.1]at q;simp at p q;omega⟩⟩;refine⟨_,rfl,f,λ_=>?_,λ_ _=>by rw[OB V];omega⟩;rw[OB V];refine⟨x,V,?_,cr.1 cG,sp c,sp e⟩;grind
end
section
variable{q:dP}{a u:Int}
variable{m:E}{d f s bQ:N}{h:af}{e:cV}{g:ab}{b cE t c:Int}
theorem fZ.mF(h:b=0):fZ e b cE [] 0:=by grind [fZ]
theorem fZ.MG(h:b=1\/b=2\/b=3\/b=4):fZ e b cE [0,0] 0:=by grind [fZ]
theorem fZ.lW(h:b=5):fZ e b cE [0] 0:=by grind [fZ]
theorem fZ.lx(h:b=6)(a:cE∈cT e.bQ t):fZ e b cE (cW e.bQ cE) t:=by
 grind [fZ]
theorem fZ.jr(h:b=9)(a:e.cO[cE.toNat]? =some q):fZ e b cE q.aX q.bL:=by
 grind [fZ]
def fZ.ae2(h:b=10)(c:e.cO[cE.toNat]? =some q)(d:q.aX=g++[a])(f:rH e.bQ t a q.bL):fZ e b cE g t:=by
 grind [fZ]
def fZ.nA(h:b=11)(c:rH e.bQ u a t):fZ e b cE [u,a] t:=by
 grind [fZ]
def sT0(h:b=0)(a:fZ e b cE g t):g=[]:=by grind [fZ]
theorem sT2(h:b=1\/b=2\/b=3\/b=4)(a:fZ e b cE g t):g=[0,0]:=by grind [fZ]
theorem sT5(h:b=5)(a:fZ e b cE g t):g=[0]:=by grind [fZ]
def sT6(h:b=6)(a:fZ e b cE g t):cE∈cT e.bQ t/\g=cW e.bQ cE:=by grind [fZ]
theorem sT9(h:b=9)(a:fZ e b cE g t):∃q,e.cO[cE.toNat]? =some q/\g=q.aX/\t=q.bL:=by grind [fZ]
theorem adX(h:b=10)(c:fZ e b cE g t):∃q a,e.cO[cE.toNat]? =some q/\q.aX=g++[a]/\rH e.bQ t a q.bL:=by grind [fZ]
def adY(h:b=11)(c:fZ e b cE g t):∃u a,g=[u,a]/\rH e.bQ u a t:=by unfold fZ at c;rw[aU V,aU V,aU V,aU V,aU V,aU V,ba h]at c;exact c
def sTx(h:¬(b=0\/b=1\/b=2\/b=3\/b=4\/b=5\/b=6\/b=9\/b=10\/b=11))(a:fZ e b cE g t):False:=by
 grind [fZ]
def rH.nn{r:Int}(e:eP h)(b:rH h u a r):0<=r:=by
 let⟨x,f,c,g,i,d⟩:=b;have:=((e.eN _ x c).PF cG).2.2;rw[<-d];exact this.1
theorem nh.bL{p:dP}(h:nh e.bQ e.cO)(a:p∈e.cO):0<=p.bL:=(h.eN p a).2.2.1
def xt(so:nh e.bQ e.cO)(hd:dq m d e.bQ)(hf:oP m f e.cO)(A:bd m s g)(al:g.length<=1000000)(hn:b=6->-1000000<=cE/\cE<=1000000)(I:(b=0->-999<=cE/\cE<=999)/\(b=1\/b=2\/b=3\/b=4\/b=5\/b=11->cE=0)/\(b=9\/b=10->0<=cE/\cE<e.cO.length)):
 bJ dN 206 [.agg #[d.v,f.v],vi b,vi cE,s.v] m λag m'=>∃t o,ag=.tuple #[vi t,vb o]/\J m m'/\(o=true->0<=t/\fZ e b cE g t)/\((∃h,fZ e b cE g h)->o=true):=by
 have ht:=so.dh
 apply tO
 simp -zeta only[dU]
 intro x
 obtain⟨n,z1⟩:=pu x
 have Z:∀c∈[m.size],c<x.size:=fj
 clear_value x
 have Y:=A.aS
 have N:∀{t:Int}{M:E},J m M->(¬∃h,fZ e b cE g h)->∃h o,(.tuple #[vi t,vb false]:Value)=.tuple #[vi h,vb o]/\J m M/\(o=true->0<=h/\fZ e b cE g h)/\((∃h,fZ e b cE g h)->o=true):=λU hn=>⟨_,false,rfl,U,λi=>(by cases i),λi=>absurd i hn⟩
 refine⟨λP=>⟨λ_=>⟨λ_=>?_,λl=>absurd (I.1 (sp P)).2 (sp l)⟩,λl=>absurd (I.1 (sp P)).1 (sp l)⟩,λP=>⟨λz=>?_,λz=>⟨λh5=>?_,λh5=>⟨λG=>?_,λG=>⟨λH=>?_,λH=>⟨λQ=>?_,λQ=>N n λ⟨h,i⟩=>sTx (by simp at P z h5 G H Q;omega) i⟩⟩⟩⟩⟩⟩
 .refine⟨0,_,rfl,n,λl=>?_,λ⟨h,i⟩=>by have:=sT0 (sp P) i;subst this;simp at Y;simp[Y]⟩
  have:g=[]:=cr.1 (by simp at l;omega)
  grind [fZ.mF]
 .intro k
  have j:J m k:=n.cw _
  have p:bd k (.mk x.size 0 2 2) [0,0]:=bd.jM (jo.bI (J.cZ x) bE 1 ([0,0].map Ce.i) 2 bO) bO
  have z2:x.size<=k.size:=by simp[k]
  clear_value k
  refine⟨λ_=>(jX (A.ext j) p).aO ?_,λl=>absurd (I.2.1 (by simp at z;omega)) (sp l)⟩
  grind [J.fq,J.O,sT2,fZ.MG]
 .intro k
  have j:J m k:=n.cw _
  have p:bd k (.mk x.size 0 1 1) [0]:=bd.jM (jo.bI (J.cZ x) bE 1 ([0].map Ce.i) 1 bO) bO
  have z2:x.size<=k.size:=by simp[k]
  clear_value k
  refine⟨λ_=>(jX (A.ext j) p).aO ?_,λl=>absurd (I.2.1 (by simp at h5;omega)) (sp l)⟩
  grind [J.fq,J.O,sT5,fZ.lW]
 .have G:b=11:=sp G
  refine⟨λl=>N n λ⟨h,i⟩=>(by obtain⟨u,a,z,_⟩:=adY G i;rw[z]at Y;simp at l Y;omega),λl=>?_⟩
  have l:s.len=2:=by simp at l;omega
  let⟨u,S⟩:=dY g 0
  let⟨a,K⟩:=dY g 1
  have aa:g=[u,a]:=by
   match g,S,K,(by omega:g.length=2)with
   |[_,_],S,K,_=>simp at S K;rw[S,K]
  have O:aR x s.bq (s.off+Int.toNat 0*1)=some (vi u):=by simpa using(A.ext n).D S
  have j7:∀{M:E}{B F:Int}{o:Bool},J m M->(o=true->rH e.bQ u B F)->o=true->a=B->∃h D,(.tuple #[vi F,vb (cE==0)]:Value)=.tuple #[vi h,vb D]/\J m M/\(D=true->0<=h/\fZ e b cE g h)/\((∃h,fZ e b cE g h)->D=true):=λU p v r=>
   ⟨_,_,rfl,U,λ_=>(by
    have p:=p v;rw[aa];exact⟨p.nn ht,fZ.nA G (r▸p)⟩),λ_=>by rw[I.2.1 V];rfl⟩
  have X:∀{M:E}{B F T:Int}{o:Bool},J m M->(o=true->rH e.bQ u B F)->(∀a' w,rH e.bQ u a' w->o=true)->¬(o=true/\a=B)->∃h D,(.tuple #[vi T,vb false]:Value)=.tuple #[vi h,vb D]/\J m M/\(D=true->0<=h/\fZ e b cE g h)/\((∃h,fZ e b cE g h)->D=true):=λU p hB hn=>N U λ⟨h,i⟩=>by
   let⟨u',a',z,h2⟩:=adY G i;rw[aa]at z;simp at z;obtain⟨rfl,rfl⟩:=z;have v:=hB _ _ h2;obtain⟨W,_,g2,_,g4,_⟩:=p v;obtain⟨ac,_,k2,_,k4,_⟩:=h2;grind
  refine⟨V,V,u,O,(Cn (dq.ext n hd)).aO ?_,?_⟩
  .rintro _ k ⟨B,F,T,o,rfl,j,p,R⟩
   refine⟨j.fq Z,B,F,T,o,rfl,?_⟩
   intro L
   have C:=px L
   have b0:m.size<k.size:=cp V j.aP
   clear_value L
   refine⟨C.db (j.aR O),bB (C.bC _ b0) _,?_⟩
   intro y
   have w:J m y:=((n.O j).O C).aV (Xm n.aP j.aP) _ _
   clear_value y
   refine⟨λv=>⟨V,V,a,by simpa using(A.ext w).D K,λr=>j7 w p v (sp r),λr=>X w p R λi=>by simp at r;exact r i.2⟩,λv=>X w p R λi=>by rw[i.1]at v;cases v⟩
  .intro k
   have j:=px k
   have z2:k.size=m.size+2:=by simp[k];omega
   have ab:∀c∈[x.size,m.size],c<k.size:=fj
   clear_value k
   refine⟨j.db O,bB (j.bC _ V) _,(Cn (dq.ext (n.O j) hd)).aO ?_⟩
   rintro _ L ⟨B,F,T,o,rfl,C,p,R⟩
   refine⟨C.fq ab,B,F,T,o,rfl,?_⟩
   intro y
   have w:J m y:=((n.O j).O C).aV V _ _
   clear_value y
   refine⟨λv=>⟨V,V,a,by simpa using(A.ext w).D K,λr=>j7 w p v (sp r),λr=>X w p R λi=>by simp at r;exact r i.2⟩,λv=>X w p R λi=>by rw[i.1]at v;cases v⟩
 .have H:b=6:=sp H
  refine(HJ (dq.ext n hd) ht cE (hn H)).aO ?_
  rintro _ k ⟨t,q,rfl,v,j,X,S⟩
  refine⟨j.fq Z,t,q,rfl,?_⟩
  intro L y
  have w:=py y
  have aa:∀c∈[k.size,m.size],c<y.size:=by have:=n.aP;have:=j.aP;simp[y,L,bD];omega
  have F:=(n.O j).O w
  clear_value y
  refine⟨λl=>(jX (A.ext F) (v.ext w)).aO ?_,λl=>N F λ⟨h,i⟩=>by have:=S h (sT6 H i).1;simp at l;omega⟩
  rintro _ m5 ⟨B,rfl,K,R⟩
  have l:0<=t:=cG
  refine⟨R.fq aa,B,rfl,t,B,rfl,F.O R,λT=>⟨l,?_⟩,λ⟨h,i⟩=>K.2 (sT6 H i).2⟩
  grind [fZ.lx]
 .have Q:b=9\/b=10:=cG
  have ah:=hf.aS
  refine⟨λl=>absurd (I.2.2 Q).1 cG,λR=>⟨λl=>absurd (I.2.2 Q).2 cG,λr=>?_⟩⟩
  have R:0<=cE:=cG
  have r:cE<e.cO.length:=cG
  let⟨q,v⟩:=dY e.cO cE.toNat
  let⟨a,D,F,aj,O,g1,g2⟩:=(oP.ext n hf).D v
  have aa:=F.aS
  have af:=aZ v
  have ak:=(so.eN q af).1
  have ai:=F.lZ
  refine⟨R,V,a,O,R,V,q.bL,g2,λe9=>(jX (A.ext n) F).aO ?_,λe9=>⟨λw=>N n λ⟨h,i⟩=>(by
   obtain⟨q',W,y,k2,_⟩:=adX cG i;rw[v]at y;cases y;have S:eR ((a.len:Int) -1)=(a.len:Int) -1:=by grind [dt]
   rw[S]at w;rw[k2]at aa;simp at w aa;omega),λw=>?_⟩⟩
  .grind [J.fq,J.O,nh.bL,sT9,fZ.jr]
  .have ac:b=10:=cG
   have S:eR ((a.len:Int) -1)=(a.len:Int) -1:=by grind [dt]
   rw[S]at w⊢
   have w:1<=a.len:=cG
   have et:((a.len:Int) -1).toNat=q.aX.length -1:=V
   let⟨W,hy⟩:=dY q.aX (q.aX.length -1)
   refine⟨V,V,W,by rw[et];exact F.D hy,(NA (dq.ext n hd)).aO ?_⟩
   rintro _ k ⟨t,rfl,j,p,ad⟩
   have ab:∀{h},fZ e b cE g h->q.aX=g++[W]/\rH e.bQ h W q.bL:=λ{h} i=>by
    grind [adX]
   refine⟨j.fq Z,t,rfl,λy=>⟨V,V,V,?_⟩,λy=>N (n.O j) λ⟨h,i⟩=>by have:=ad h (ab i).2;simp at y;omega⟩
   have ae:bd k (a.cut (Int.toNat 0) ((a.len:Int) -1).toNat 1) (q.aX.take (q.aX.length -1)):=by
    grind [fU.Sj,bd.ext]
   refine(jX (A.ext (n.O j)) ae).aO ?_
   rintro _ L ⟨B,rfl,K,C⟩
   have y:0<=t:=cG
   refine⟨C.fq λc X=>cp (Z c X) j.aP,B,rfl,t,B,rfl,(n.O j).O C,λT=>⟨y,fZ.ae2 ac v ?_ (p y)⟩,λ⟨h,i⟩=>K.2 (by rw[(ab i).1];simp)⟩
   rw[K.1 T]
   have:=bX hy
   grind
end
section
variable{r:Int}{l:ab}
variable{a:cV}{p:dP}{x:Instr}{kn b:Kn}{t:Int}{d n:Nat}{B:Int}{c:ab}
theorem fZ.aaT(f:eP a.bQ){b cE d:Int}(h:fZ a b cE c t)(e:fZ a b cE c d):t=d:=by
 unfold fZ at h e;grind [TQ,rH.aaT,rH.ae5,List.append_cancel_left]
def CD(a:cV)(x:Instr)(l:ab):ab:=if x.op=9\/x.op=24 then iN a x 0 l else l
def MD:∀(l:ab)(r:Int)(k:Kn),fJ k (l++[r])=if((fJ k l).r r).lD=0 then fJ k l else(fJ k l).gZ r (-1)
 |[],r,k=>rfl
 |y::l,r,k=>by rw[eT,fJ,MD l];rfl
def Ge:∀(l:ab)(k:Kn)(i:Int),(∀r∈l,0<=r/\r<k.aT.length)->0<=i->((fJ k l).r i).lD=(k.r i).lD
 |[],k,i,_,_=>rfl
 |r::l,k,i,b,a=>by
  have d:=b r cK;rw[fJ];split
  .exact Ge l k i (λy c=>b y (aW _ c)) a
  .rw[Ge l _ i (λy c=>by rw[qT];exact b y (aW _ c)) a,yG d a]
def Qz:∀(l:ab)(k:Kn)(i:Int),(∀r∈l,0<=r/\r<k.aT.length)->0<=i->((fJ k l).r i).bF<=(k.r i).bF
 |[],k,i,_,_=>dR _
 |r::l,k,i,a,c=>by
  have d:=a r cK;rw[fJ];split
  .exact Qz l k i (λy b=>a y (aW _ b)) c
  .refine Int.le_trans (Qz l _ i (λy b=>by rw[qT];exact a y (aW _ b)) c) ?_;grind [yG]
def KW:∀(l a:ab)(k:Kn),fJ k (l++a)=fJ (fJ k l) a
 |[],_,_=>rfl
 |r::l,a,k=>by rw[eT,fJ,KW l];rfl
def US:∀(l:ab)(k:Kn),(∀r∈l,(k.r r).lD=0)->fJ k l=k
 |[],_,_=>rfl
 |r::l,k,h=>by rw[fJ,ba (h r cK)];exact US l k λy a=>h y (aW _ a)
def TN(h:kL a p d x)(b:eP a.bQ)(c:nh a.bQ a.cO):x.aN.length<=4:=by
 have f:∀{q:dP}{i:Nat},a.cO[i]? =some q->q.aX.length<=3:=λe=>(c.eN _ (aZ e)).1;have:=DP b x.cE;unfold kL pt at h;grind (splits:=20)
theorem QF{i:Nat}(h:x.aN[i]? =some r):(pZ kn x.aN)[i]? =some (kn.r r).lD:=by simp[pZ,h]
def Yw(d:ux a p x (pZ kn x.aN) t)(f:x.op≠15/\x.op≠16/\x.op≠17/\x.op≠18):fJ kn (bY a x)=fJ kn (CD a x x.aN):=by
 have z:∀{l:ab},pZ kn x.aN=l->(∀y∈l,y=0)->∀r∈x.aN,(kn.r r).lD=0:=λe b r c=>b _ (e▸fu.2 ⟨r,c,rfl⟩);have g:=US x.aN kn;unfold ux fZ at d;unfold bY CD;grind [fJ]
def Oy:CD a x (l++[r])=CD a x l++(if(x.op=9\/x.op=24)/\js a x l.length=true then[]else[r]):=by
 grind [CD,rX,iN,js,List.length]
def Oz(h:r∈CD a x l):r∈l:=by
 grind [CD,uQ]
open Classical in
def XK.of(d:x.op≠15/\x.op≠16/\x.op≠17/\x.op≠18)(g:ux a p x (pZ kn x.aN) t)(h:nT (fJ kn (CD a x x.aN)) n B)(e:∀r∈x.aN,0<=r)(f:(x.op=9\/x.op=24)->∀r∈fe a x 0 x.aN,qZ (fJ kn (CD a x x.aN)) r)
 (i:Vl x t (fJ kn (CD a x x.aN)) b):XK p a kn x t b:=by
 unfold XK
 rw[Yw g d]
 refine⟨λr c=>(h.bF r ?_).1,f,?_⟩
 .refine e r ?_
  unfold bY at c
  repeat' (split at c)
  .exact c
  .exact jE c
  .exact uQ c
  .simp at c
 .grind [Vl]
def vF.use(h:x.op≠22/\x.op≠14/\x.op≠15/\x.op≠16/\x.op≠17/\x.op≠18/\x.op≠19)(d:ux a p x (pZ kn x.aN) t)(c:XK p a kn x t b):vF a p kn x b:=by
 grind [vF]
end
section
variable{S L j:ad}{m u g:E}{d p c q h:N}{a:cV}{cF s:List Instr}{e f:Nat}{v:Int}{x i:Instr}{l:aA}{t:af}{b:dP}
def Fw.of(h:ny a b):Fw b.cF:=by
 have o:∀{i:Nat}{x:Instr},b.cF[i]? =some x->kL a b i x:=λc=>(h.eN _ _ c).op;have f:=h.aS;refine⟨λi x c e=>?_,λi x c e=>?_,λi x c e=>?_,V⟩
 .have d:=o c;unfold kL at d;simp only[e]at d;grind
 .grind [kL]
 .grind [bA,Nat.lt_or_ge,List.length,ny.C2]
def Zx{c cR:ab}(h:DE c cR):cR.length<=c.length:=by
 have K:∀(e:Nat)(v:Int),cR[e]? =some v->(e:Int)<=v:=λe=>by
  induction e with
  |zero=>intro v a;obtain⟨⟨_,b,_⟩,_⟩:=h 0 v a;exact b
  |succ e f=>
   intro v a;let⟨u,d⟩:=dY cR e cG;have:=(h (e+1) v a).2 u V cG;have:=f u d;omega
 rcases FK cR.length with b|b
 .omega
 .let⟨v,a⟩:=dY cR (cR.length -1);obtain⟨⟨_,f,d,_⟩,_⟩:=h _ v a;have:=bA d;have:=K _ v a;omega
def aaf.of(b:gC a):aaf a.cO:=by
 have d:=b.kQ.aS;refine⟨λe=>by rw[e]at d;simp at d,V,λq f=>?_⟩;have P:=b.eN q f;have j:=(b.kQ.eN q f).1;have o:=Zx P.cR;have m:=P.aS;refine⟨V,V,V,V,λx h=>?_⟩;let⟨i,g⟩:=cX.1 h;have I:=P.eN i x g;have l:=TN I.op b.kQ.dh b.kQ;refine⟨V,?_⟩;rcases I.fQ with e|e
 .have c:=I.op;unfold kL at c;simp only[e]at c;simp+decide only[mN,vE]at c;obtain⟨_,_,n,_⟩:=c;have k:(cT a.bQ x.cE).length<=3:=by
   grind [cT,mH,gC.kQ,nh.dh]
  omega
 .omega
def JY(G:iF m d p a)(Q:gC a):bJ dN 12 [.agg #[d.v,p.v]] m λar m'=>∃d' p',ar=.tuple #[.agg #[d'.v,p'.v],vb true]/\iF m' d' p' (fC a)/\J m m':=by
 apply DY;simp -zeta only[dU];intro u a2;let⟨x2,hl⟩:=fN (a:=u) (c:=a2) rfl rfl;have s1:=pz u;clear_value a2;have K:=hl u.size bO;refine(sD (G.ext x2)).aO ?_;rintro _ w ⟨v,rfl,C,x3⟩;refine⟨x3.fq hl,v,rfl,λt=>absurd Q (nb C t),λ_=>?_⟩;have u2:=x2.O x3;have z3:=x3.aP;have hS:∀c∈[u.size,m.size],c<w.size:=λc B=>by have:=hl c B;omega
 have an:Le m (dg [u.size,m.size] w):=λv aS ar hv=>gV.2 ⟨λB=>by have:=qv hv;simp at B;omega,u2.aR hv⟩;refine(Ij hS (G.bQ.le an) Q.kQ.dh (kY.le an G.cO) (aaf.of Q)).aO ?_;rintro _ Y ⟨h,q,l,rfl,A,s,x4⟩;refine⟨x4.fq hS,h,q,rfl,?_⟩;intro m5 m6;obtain⟨x6,-,s6⟩:=kT (M:=Y) (c:=m5) (a:=m6) rfl rfl rfl;clear_value m6;have aP:=Q.kQ.aS;have up:∀{g I:E}{l:aA},rG [u.size,m.size] w g h q a.bQ l->J g I->rG [u.size,m.size] w I h q a.bQ l:=λA x=>A.re (x.fz []) bO (λv C=>⟨bu C,cp (A.lt v C) x.aP⟩) bW;have aQ:q.len=a.cO.length:=by rw[A.aS,<-s,jq]
 refine ik (n:=a.cO.length) V (λe g=>J w g/\m6.size<=g.size/\∃l,rG [u.size,m.size] w g h q a.bQ l/\l.map (·.1)=ud a.cO e 0/\∀z∈l,z.2.bq<Y.size) ⟨x4.O x6,bW,l,up A x6,by rw[UL];exact s,λz D=>(A.c z D).cD.2⟩ ?_;clear s A l;rintro e g aL μ hk ⟨xM,zM,l,A,s,L⟩ aJ
 refine dit (λt=>?_) λt=>?_
 .let⟨b,P⟩:=dY a.cO e;have ad:=Q.eN b (aZ P);have fw:=Fw.of ad;have aN:=ad.aS;have ll:l.length=a.cO.length:=by have:=jO List.length s;simpa[Qv]using this
  let⟨z,D⟩:=dY l e;have ez:z.1={b with cF:=nZ b.cF 0}:=by
   have:=jO (λl=>l[e]?) s;simp only[eu,D,qI,P]at this;simpa using this
  obtain⟨aM,v,g0,g1,g2,g3,g4,_,_⟩:=A.kV D;refine⟨V,V,_,g0,_,g1,_,g2,_,g3,_,g4,?_⟩;intro m8 Z;obtain⟨x9,-,s9⟩:=kT (M:=g) (c:=m8) (a:=Z) rfl rfl rfl;clear_value Z;have cF:∀{F:E}{l:aA}{i:dP×N},rG [u.size,m.size] w F h q a.bQ l->i∈l->i.1.cF.length<=1000000->gR F i.2 i.1.cF:=λA H G=>gR.le fG (A.cF H V);have aG:=(cF A (aZ D) (by rw[ez];simp[qJ];omega)).aS;have aR:z.2.len=b.cF.length:=by rw[aG,ez];exact qJ
  have aK:=L z (aZ D);have av:=(A.c z (aZ D)).cD;refine ik (n:=b.cF.length) V (λj F=>J w F/\Z.size<=F.size/\∃l,rG [u.size,m.size] w F h q a.bQ l/\l.map (·.1)=ud a.cO e j/\(∀z∈l,z.2.bq<Y.size)/\∃i,l[e]? =some (i,z.2)) ⟨xM.O x9,bW,l,up A x9,s,L,z.1,D⟩ ?_;clear s A L;rintro j F I2 μ2 hj ⟨xN,zN,l,A,s,L,i,H⟩ ap;have ey:i={b with cF:=nZ b.cF j}:=by
   have:=jO (λl=>l[e]?) s;simp only[eu,H,qI,P]at this;simpa using this
  subst ey;refine dit (λe2=>?_) λe2=>?_
  .let⟨x,T⟩:=dY b.cF j;have am:(nZ b.cF j)[j]? =some x:=by rw[sN,T];simp
   let⟨pa,pj,ha,aO,aw,ax,ay,az,aB,aC⟩:=(cF A (aZ H) (by simp[qJ];omega)).D am;refine⟨V,V,_,aw,_,ax,_,ay,_,az,_,aB,_,aC,?_⟩;intro aH ae;obtain⟨ag,-,aT⟩:=kT (M:=F) (c:=aH) (a:=ae) rfl rfl rfl;clear_value ae;have ab:=up A ag;have zl:∀{N':E},ae.size<=N'.size->∀c∈[F.size,g.size,Y.size,u.size,m.size],c<N'.size/\c≠z.2.bq:=λG c B=>by
    simp at B;have:=xN.aP;omega
   have R:=λ{I:E}(t:rW b.cF j x=x)(A':rG [u.size,m.size] w I h q a.bQ l)(x':J w I)(z':Z.size<=I.size)=>ap V I ⟨x',z',l,A',by rw[UK P T t];exact s,L,_,H⟩;refine⟨λO=>?_,λO=>R (by unfold rW;rw[aU];intro G;simp at O;exact O G.1) ab (xN.O ag) V⟩;have O:x.op=9:=sp O;have aE:j+1<b.cF.length:=by
    rcases eJ (j+1) b.cF.length with K|K
    .exact K
    .have S:j=b.cF.length -1:=V;subst S;have:=ad.C2 x T;omega
   have S:eR ((j:Int)+1)=((j+1:Nat):Int):=by rw[iC];rfl
   have ak:=Ip (cF ab (aZ H) (by simp[qJ];omega)) fw.to (k:=j+1) (r:=x.br) (by rw[qJ];exact aE);rw[<-S]at ak;refine ak.aO ?_;rintro _ ao ⟨v,rfl,C,aa⟩;have aV:=aa.aP;rw[BB.to fw]at C;have ai:=up ab aa;have ah:=xN.O (ag.O aa);refine⟨aa.fq λc B=>(zl bW c B).1,v,rfl,λW=>?_,λW=>R (by unfold rW;rw[aU];intro G;rw[C.2 G.2]at W;cases W) ai ah V⟩;have aD:=C.1 W;let⟨w1,aj⟩:=ai.wrP (X:=[]) (ah.fz []) H am (o:=0) (d:=[.i 24]) cH (y:={x with op:=24}) λcs⟨a0,j0,t,K,h2⟩=>⟨a0,j0,by rw[t];rfl,K,h2⟩;refine⟨V,V,w1,?_⟩;intro U;change rG _ _ U _ _ _ _ at aj;have aq:∀v,v≠z.2.bq->U[v]? =ao[v]? :=λv C=>cg _ _ _ _ C;have aW:U.size=ao.size:=bD _ _ _ _;have au:J w U:=ah.aV av.1 _ _;have al:e<l.length:=bA H;clear_value U;have aF:((nZ b.cF j).set j {x with op:=24})[j]? =some {x with op:=24}:=ft (by rw[qJ];exact bA T);let⟨w2,ac⟩:=aj.wrP (X:=[]) (au.fz []) (ft al) aF (o:=1) (d:=[.i 0]) cH (y:={x with op:=24,br:=0}) λcs⟨a0,j0,t,K,h2⟩=>⟨a0,j0,by rw[t];rfl,K,h2⟩;refine⟨λc B=>aq c (zl V c B).2,bB (aq _ (zl V _ bO).2) _,V,V,w2,?_⟩;intro aI;change rG _ _ aI _ _ _ _ at ac;simp only[Vd]at ac;have et:rW b.cF j x={x with op:=24,br:=0}:=by unfold rW;rw[ba ⟨O,aD⟩]
   refine⟨λc B=>cg _ _ _ _ (zl V c B).2,ap V _ ⟨au.aV av.1 _ _,by rw[bD];omega,_,ac,?_,λaf S=>?_,_,ft (by exact al)⟩⟩
   .rw[xZ,s,Qw P T,et]
   .rcases iS S with t|t
    .exact L af t
    .rw[t];exact aK
  .have O:j=b.cF.length:=V;subst O;exact aJ V _ ⟨xN,V,l,A,by rw[<-UJ P];exact s,L⟩
 .intro j;have F:J m j:=(u2.O xM).aV V _ _;have f:Fz [u.size] g j:=(Fz.cZ _ g).aV (bu bO) _ _;have A':=A.re (S':=[]) f bO bO bW;rw[Wr V]at s;have ll:l.length=a.cO.length:=by have:=jO List.length s;simpa using this
  have R:=A'.it V λz D=>by
   have:z.1∈a.cO.map ry:=by rw[<-s];exact fu.2 ⟨z,D,rfl⟩
   let⟨af,S,t⟩:=fu.1 this;have:=(Q.eN af S).aS;rw[<-t];simp[ry];omega
  refine⟨h,q,rfl,⟨dq.le fG R.1,?_⟩,F⟩;have:=kY.le fG R.2;rw[s]at this;exact this
end
section
abbrev Vh:=dZ (λk=>k=5\/k=7)
def om(f:Nat)(c:ap)(s:E)(k:ag)(m:E)(b:Nat)(u ks:N)(n:Nat)(B:Int)(Q:Kn->Prop)(F:Option Kn):Prop:=
 bJ dN f c m λw y=>∃g z,w=vb g/\Vh k m z y/\(g=true->∃a,Wk s z y b u ks a n B/\Q a/\F=some a)/\(g=false->F=none)
open Classical in
noncomputable def Tl (h:cV) (p:dP) (e:Instr) (kn:Kn):Option Kn:=
 if a:∃t,ux h p e (pZ kn e.aN) t then
  if(∀g∈CD h e e.aN,0<=((fJ kn (CD h e e.aN)).r g).bF)/\((e.op=9\/e.op=24)->∀g∈fe h e 0 e.aN,qZ (fJ kn (CD h e e.aN)) g)then JV e a.choose (fJ kn (CD h e e.aN))else none
 else none
@[grind cases] structure CK (m0 m M:E) (ro ro2:ag) (im:cV) (x:Instr) (kn:Kn) (b:Nat) (rs ks:N) (n:Nat) (B:Int) (T:N) (ts ll:ab) (cR:N) (i:Nat):Prop where
 wk:Wk m0 ro2 M b rs ks (fJ kn (CD im x (x.aN.take i))) n B
 gX:Vh ro m ro2 M
 ty:iJ ro2 M bE 1 0 T (ts.map Ce.i)
 rE:iJ ro2 M bE 1 7 cR (ll.map Ce.i)
 pF:ll.length<=i/\∀r∈ll,r∈x.aN/\(x.op=9\/x.op=24)/\r∈fe im x 0 (x.aN.take i)
 Ul:(x.op=9\/x.op=24)->∀r∈fe im x 0 (x.aN.take i),r∈ll
variable{s m y M o:E}{k z j:ag}{v b n C i:Nat}{d f a l c D u ks H I T cR:N}{h:cV}{p:dP}{B A:Int}{kn F:Kn}{e:Instr}{t g:Int}{w q:ab}{K:Kn->Prop}
def om.no{F:Option Kn}(d:Vh k m z y)(c:F=none):∃g z,vb false=vb g/\Vh k m z y/\(g=true->∃a,Wk s z y b u ks a n B/\K a/\F=some a)/\(g=false->F=none):=⟨false,z,rfl,d,λe=>(by cases e),λ_=>c⟩
theorem Zk{a:Int}{k:Kn}(h:e.op=20\/e.op=23):JV e t k=JV e a k:=by
 grind [JV,kM]
open Classical in
def Xy(d:eP h.bQ)(a:ux h p e (pZ kn e.aN) t)(c:e.op≠23->t=g):Tl h p e kn=
 if(∀g∈CD h e e.aN,0<=((fJ kn (CD h e e.aN)).r g).bF)/\((e.op=9\/e.op=24)->∀g∈fe h e 0 e.aN,qZ (fJ kn (CD h e e.aN)) g)then JV e g (fJ kn (CD h e e.aN))else none:=by
 unfold Tl
 have b:∃t,ux h p e (pZ kn e.aN) t:=⟨t,a⟩
 grind [JV,fJ,CD,Zk,ux,fZ.aaT]
def aaU(i:Nat):∃a,CD h e e.aN=CD h e (e.aN.take i)++a/\∀g∈a,g∈e.aN:=by
 have b:=jT i e.aN;unfold CD;split
 .have c:=rX h e (e.aN.take i) (e.aN.drop i) 0;grind [List.mem_of_mem_drop,uQ]
 .grind [List.drop,List.mem_of_mem_drop]
def aaV(o:eP h.bQ)(c:ux h p e (pZ kn e.aN) t)(a:∀g∈e.aN,0<=g/\g<kn.aT.length)(k:g∈CD h e (e.aN.take i))(q:((fJ kn (CD h e (e.aN.take i))).r g).bF<0):Tl h p e kn=none:=by
 rw[Xy (g:=t) o c λ_=>rfl,aU];intro f;let⟨n,b,j⟩:=aaU (h:=h) (e:=e) i;have l:=a g (jE (Oz k));have d:=f.1 g cG;rw[b,KW]at d;have:=Qz n (fJ kn (CD h e (e.aN.take i))) g (λy m=>by rw[wV];exact a y (j y m)) l.1;omega
def iJ.Lk{a c b:Nat}{s:N}{l:ae}(h:iJ k m a c b s l)(e:J m y):iJ k y a c b s l:=by grind [iJ.fL,J.bC,iJ.bq]
def CK.ext(a:CK s m M k j h e kn b u ks n B T w q cR i)(c:J M o):CK s m o k j h e kn b u ks n B T w q cR i:=
 ⟨a.wk.ext c,a.gX.O (dZ.fV c a.gX.bI),a.ty.Lk c,a.rE.Lk c,a.pF,a.Ul⟩
def CK.ac0(a:CK s m M k j h e kn b u ks n B T w q cR i)(f:e.aN[i]? =some g)(o:∀g∈e.aN,0<=g/\g<kn.aT.length)(p:(kn.r g).lD=0)(r:(e.op=9\/e.op=24)->¬js h e i=true):
 CK s m M k j h e kn b u ks n B T w q cR (i+1):=by
 have l:(e.aN.take i).length=i:=by have:=bA f;simp;omega
 have t:=o g (aZ f)
 refine⟨?_,a.gX,a.ty,a.rE,⟨by have:=a.pF.1;omega,λy d=>⟨(a.pF.2 y d).1,(a.pF.2 y d).2.1,by rw[bX f,kW];exact dK _ (a.pF.2 y d).2.2⟩⟩,λv y d=>?_⟩
 .rw[bX f,Oy,l,aU (λc=>r c.1 c.2),MD,ba (by rw[Ge _ _ _ (λy d=>o y (jE (Oz d))) t.1];exact p)]
  exact a.wk
 .rw[bX f,kW,fB,l]at d
  grind [CK.Ul,fe]
def CK.ME(a:CK s m M k j h e kn b u ks n B T w q cR i)(f:e.aN[i]? =some g)(A:∀g∈e.aN,0<=g/\g<kn.aT.length)(G:(kn.r g).lD≠0)(t:¬((e.op=9\/e.op=24)/\js h e i=true))(H:B<=1000000):
 bJ dN 156 [vp b 0,vi g] M λv o=>∃l:Bool,v=vb l/\dZ (·=5) j M j o/\Vh k m j o/\(l=true->CK s m o k j h e kn b u ks n B T w q cR (i+1))/\(l=false->g∈CD h e (e.aN.take (i+1))/\((fJ kn (CD h e (e.aN.take (i+1)))).r g).bF<0):=by
 have r:(e.aN.take i).length=i:=by have:=bA f;simp;omega
 have C:=A g (aZ f)
 have I:=a.wk.ok.aS
 have J:=wV (CD h e (e.aN.take i)) kn
 have L:((fJ kn (CD h e (e.aN.take i))).r g).lD=(kn.r g).lD:=Ge _ _ _ (λy d=>A y (jE (Oz d))) C.1
 refine(sE a.gX.bI a.wk.pT a.wk.ok V C.1 V).aO ?_
 rintro _ o ⟨l,rfl,E,p,K⟩
 have x:Vh j M j o:=by grind [dZ.aO]
 have F:fJ kn (CD h e (e.aN.take (i+1)))=(fJ kn (CD h e (e.aN.take i))).gZ g (-1):=by
  rw[bX f,Oy,r,aU t,MD,aU cG]
 refine⟨l,rfl,p,a.gX.O x,λD=>⟨?_,a.gX.O x,a.ty.gX p cH,a.rE.gX p cH,⟨by have:=a.pF.1;omega,λy d=>⟨(a.pF.2 y d).1,(a.pF.2 y d).2.1,by rw[bX f,kW];exact dK _ (a.pF.2 y d).2.2⟩⟩,λz y d=>?_⟩,λD=>⟨?_,?_⟩⟩
 rotate_right
 .grind
 rotate_right
 .rw[bX f,Oy,r,aU t];simp
 .grind [CK.wk,Wk.ok,yG,Wk.of,nT.gZ]
 .rw[bX f,kW,fB,r]at d
  rcases bR.1 d with d|d
  .exact a.Ul z y d
  .rw[fe,aU (λc=>t ⟨z,c⟩)]at d;simp[fe]at d
def CK.ae7{G:N->E->Prop}(p:CK s m M k j h e kn b u ks n B T w q cR i)(r:e.aN[i]? =some g)(A:(e.op=9\/e.op=24)/\js h e i=true)(Q:e.aN.length<=4)
 {d:Nat}(y:∀l o f a,gL [d] (M.push (.cells (de [.i g]) bE)) o->CK s m o k f h e kn b u ks n B T w a l (i+1)->G l o)(O:d<M.size)(H:j d=0):lS (M.push (.cells (de [.i g]) bE)) bE [.i 0] 8 cR (.mk M.size 0 1 1) G:=by
 have x:(e.aN.take i).length=i:=by have:=bA r;simp;omega
 have L:=bA r
 have a:=p.ext (J.push M (.cells (de [.i g]) bE))
 have z:=p.rE.aS
 have K:=p.pF.1
 simp at z
 refine iJ.fy (f:=[.i 0]) (new:=[.i g]) a.rE a.gX.bI bO (dJ.push M [.i g] bE).kV (by simp only[N.lJ];omega) λf l o D t=>?_
 have v:Vh j (M.push (.cells (de [.i g]) bE)) f o:=by grind [dZ.aO]
 have fq:gL [d] (M.push (.cells (de [.i g]) bE)) o:=λc I=>by
  grind
 refine y l o f (q++[g]) fq ⟨?_,a.gX.O v,a.ty.gX t cH,sp D,⟨fj,λF C=>?_⟩,λP F C=>?_⟩
 .rw[bX r,Oy,x,ba A,fH]
  exact⟨a.wk.bs.Sd t cH,a.wk.pT.gX t cH,a.wk.ok⟩
 .grind [bX,kW,CK.pF,aZ,List.mem_append_right,fe]
 .grind [bX,kW,CK.Ul,fe]
end
section
variable{s m I M G:E}{j y o:ag}{u b L A h:Nat}{d f a l c C w ks k D T cR:N}{e:cV}{g:dP}{B F:Int}{kn H:Kn}{x:Instr}{t r:Int}{z q:ab}{K:Kn->Prop}
theorem aaM{l:ab}{h:Nat}{w:Int}{j:Nat}(a:h<l.length):(gT l h w)[j]? =if j=h then some w else l[j]? :=by
 grind [gT,Int.toNat_natCast,List.getElem?_set_self,List.getElem?_set_ne]
def aaD(i:gC e)(j:x.op=9\/x.op=24)(o:ux e g x z t){h:Nat}{y:Int}(a:js e x h=true)(p:z[h]? =some y):y≠0:=by
 have b:fZ e 9 x.cE z t:=by
  grind [ux]
 unfold fZ at b;rw[aU cH,aU cH,aU cH,aU cH,ba rfl]at b;obtain⟨q,c,l,_⟩:=b;unfold js dy at a;rw[c]at a;simp only[uv,Wy,bP]at a;obtain⟨r,f,rfl⟩:=a;let⟨k,d⟩:=cX.1 f;obtain⟨⟨u,_,m,n⟩,_⟩:=(i.eN q (aZ c)).cR k _ d;grind [Int.toNat_natCast]
def Pt{q:dP}{h:Nat}(a:e.cO[x.cE.toNat]? =some q):js e x h=true<->(h:Int)∈q.cR:=by
 grind [js,dy]
def SH(h:kL e g A x):(x.op=0->-999<=x.cE/\x.cE<=999)/\(x.op=1\/x.op=2\/x.op=3\/x.op=4\/x.op=5\/x.op=11->x.cE=0)/\(x.op=9\/x.op=10\/x.op=24->0<=x.cE/\x.cE<e.cO.length):=by
 unfold kL pt at h;have:=λq(h:e.cO[x.cE.toNat]? =some q)=>bA h;grind (splits:=20)
def Ee(W:Vx s d f a l c e g)(hb:dJ m u iX [.s d,.s f,.s a,.s l,.i g.bL,.i g.aT,.s c,.s C])(hv:j u=4)(Z:Wk s j m b w ks kn g.aT.toNat B)(hB:1<=B/\B<=1000000)(Q:iB e g A x)(ha:bd s k x.aN)
 (aE:x.op≠22/\x.op≠14/\x.op≠15/\x.op≠16/\x.op≠17/\x.op≠18/\x.op≠19)(av:x.op≠7/\x.op≠8):
 om 160 [vp u 0,vp b 0,.agg #[vi x.op,vi x.br,vi x.cE,vi x.cY,k.v,D.v]] s j m b w ks g.aT.toNat B (vF e g kn x) (Tl e g x kn):=by
 have so:=W.ok.kQ
 have ay:=TN Q.op so.dh so
 have aI:=(W.ok.eN g W.pT).aT
 have au:=ha.aS
 have aO:=Z.ok.aS
 have aQ:=Z.pT.IC
 have ad:∀r∈x.aN,0<=r/\r<kn.aT.length:=λr G=>by have:=Q.aN r G;omega
 have aT:(pZ kn x.aN).length=x.aN.length:=by simp[pZ]
 unfold om
 apply Ai (u,0) (b,0)
 simp -zeta only[dU,iD]
 intro U
 obtain⟨x1,z1⟩:=pu U
 clear_value U
 refine⟨V,V,V,V,?_⟩
 intro m2
 have x2:J m m2:=x1.cw _
 have z2:m2.size=m.size+2:=by simp[m2];omega
 have a2:iJ j m2 bE 1 0 (.mk U.size 0 k.len k.len) ((eQ k.len).map Ce.i):=by
  have:=jo.bI (J.cZ U) bE 1 ((eQ k.len).map Ce.i) k.len (by simp[lO]);rw[<-sP]at this⊢;exact iJ.jM this λ_=>Z.bs.bI _ (by show m.size<=U.size;omega)
 clear_value m2
 refine ik (n:=x.aN.length) V (λh M=>J m M/\m2.size<=M.size/\∃I:ab,I.length=x.aN.length/\iJ j M bE 1 0 (.mk U.size 0 k.len k.len) (I.map Ce.i)/\∀Y,Y<h->I[Y]? =(pZ kn x.aN)[Y]?) ⟨x2,bW,_,by rw[lO,au],a2,V⟩ ?_
 rintro h M aL μ hi ⟨xM,zM,I,P,aM,aG⟩ aa
 have WM:=Z.ext xM
 refine dit (λF=>?_) λF=>?_
 .let⟨r,G⟩:=dY x.aN h
  have rr:=ad r (aZ G)
  obtain⟨w0,_⟩:=WM.pT.dz (i:=r) rr.1 V
  have gr:aR M k.bq (k.off+h*1)=some (vi r):=WM.bs.da.aR (ha.D G)
  refine⟨V,V,r,gr,w,WM.pT.jy.1,rr.1,V,_,w0,V,by simp only[N.lJ];omega,?_,?_⟩
  .grind [iJ.Tp]
  intro H
  have a3:iJ j H bE 1 0 (.mk U.size 0 k.len k.len) ((gT I h (kn.r r).lD).map Ce.i):=by
   grind [iJ.gT]
  have L:J m H:=xM.aV (by show m.size<=U.size;omega) _ _
  have z:H.size=M.size:=bD _ _ _ _
  have fq:gL [m.size] M H:=λc hc=>by
   have:c=m.size:=sp hc;subst this;exact cg _ _ _ _ (by show m.size≠U.size;omega)
  clear_value H
  refine⟨fq,aa V _ ⟨L,V,_,by rw[jC,P],a3,λY hj=>?_⟩⟩
  grind [aaM,QF]
 have aH:I=pZ kn x.aN:=by
  apply ee;grind
 subst aH
 clear aa F aG
 generalize hT:N.mk U.size 0 k.len k.len=T at*
 have aN:T.len=x.aN.length:=by rw[<-hT];exact au
 have cM:Vh j m j M:=dZ.fV xM Z.bs.bI
 have af:=hb.ext xM
 have lW:(x.op=23\/x.op=20)->x.aN.length=1:=λz=>by
  have:=Q.op;unfold kL at this;rcases z with z|z<;>simp only[z]at this<;>simp+decide only[mN,vE]at this<;>exact this.1
 have g1:x.aN.length=1->∃O,pZ kn x.aN=[O]/\aR M T.bq (T.off+Int.toNat 0*1)=some (vi O):=λh1=>by
  let⟨O,R⟩:=dY (pZ kn x.aN) 0;refine⟨O,?_,?_⟩
  .have K:(pZ kn x.aN).length=1:=V;match pZ kn x.aN,R,K with
   |[_],R,_=>simp at R;rw[R]
  .have:=aM.kV 0 (.i O) (by rw[eu,R];rfl);exact this
 have an:∀{H:E},J M H->bd H T (pZ kn x.aN):=λxx=>(aM.Lk xx).nL V
 have aq:∀c∈[m.size],c<M.size:=fj
 refine⟨λbL ok H=>J M H/\(ok=true->0<=bL/\∃t,ux e g x (pZ kn x.aN) t/\(x.op≠23->t=bL))/\(ok=false->¬∃t,ux e g x (pZ kn x.aN) t),⟨λac=>?_,λac=>⟨λae=>?_,λae=>⟨λai=>?_,λai=>?_⟩⟩⟩,?_⟩
 .have ac:x.op=23:=sp ac
  let⟨O,R,gy⟩:=g1 (lW (bu ac))
  refine⟨V,V,O,gy,g.bL,af.dz 4,di,λF=>⟨dR 0,g.bL,?_,λc=>absurd ac c⟩,λF⟨t,z⟩=>?_⟩
  .have F:O=g.bL:=sp F
   unfold ux
   grind
  .unfold ux at z
   grind
 .have ae:x.op=20:=sp ae
  let⟨O,R,gy⟩:=g1 (lW (bG ae))
  refine⟨V,V,O,gy,di,λF=>⟨dR 0,0,?_,λ_=>rfl⟩,λF⟨t,z⟩=>?_⟩
  .grind [ux]
  grind [ux]
 .have ai:x.op=24:=sp ai
  refine⟨d,af.dz 0,f,af.dz 1,(xt so (dq.ext WM.bs.da W.bQ) (oP.ext WM.bs.da W.kQ) (an di) V (λz=>absurd z cH) ⟨λz=>absurd z cH,λz=>absurd z cH,λ_=>(SH Q.op).2.2 V⟩).aO ?_⟩
  rintro _ H ⟨t,S,rfl,L,ht,ag⟩
  have hU:∀K,ux e g x (pZ kn x.aN) K<->fZ e 9 x.cE (pZ kn x.aN) K/\K=g.bL:=λK=>by
   grind [ux]
  refine⟨L.fq aq,t,S,rfl,λF=>⟨g.bL,(af.ext L).dz 4,L,λX=>?_,λX⟨K,z⟩=>?_⟩,λF=>⟨L,λX=>(by cases X),λ_⟨K,z⟩=>?_⟩⟩
  .grind
  .grind [fZ.aaT]
  grind
 .have ac:x.op≠23:=sp ac
  have ae:x.op≠20:=sp ae
  have ai:x.op≠24:=sp ai
  refine⟨d,af.dz 0,f,af.dz 1,(xt so (dq.ext WM.bs.da W.bQ) (oP.ext WM.bs.da W.kQ) (an di) V (λz=>?_) ⟨(SH Q.op).1,(SH Q.op).2.1,λz=>(SH Q.op).2.2 V⟩).aO ?_⟩
  .have:=Q.op
   unfold kL at this
   simp only[z]at this
   simp+decide only[mN,vE]at this
   have:=this.1
   have X:=tI so.dh e.bQ.length
   grind [qu]
  rintro _ H ⟨t,S,rfl,L,ht,ag⟩
  have hU:∀K,ux e g x (pZ kn x.aN) K<->fZ e x.op x.cE (pZ kn x.aN) K:=λK=>by
   grind [ux]
  refine⟨L.fq aq,t,S,rfl,L,λF=>?_,λF⟨K,z⟩=>?_⟩
  .grind
  grind
 rintro bL ok H ⟨L,aD,aC⟩
 have am:=xM.O L
 have ah:Vh j m j H:=dZ.fV am Z.bs.bI
 refine⟨λF=>om.no ah (by unfold Tl;rw[dif_neg (aC (sp F))]),λF=>?_⟩
 let⟨aK,t,hU,aJ⟩:=aD (sp F)
 have r0:j m.size=0:=Z.bs.bI _ bW
 have aW:=L.aP
 have ao:=hb.ext am
 have az:x.cY=0\/1<=x.cY/\x.cY<=g.aT:=by
  rcases Q.cY with z|z
  .exact bu z
  .have:=Q.op;unfold kL at this;simp only[z]at this;grind
 refine⟨λcR K=>∃o q,CK s H K j o e x kn b w ks g.aT.toNat B T (pZ kn x.aN) q cR x.aN.length,?_,?_⟩
 .refine gP (n:=x.aN.length) V (λh cR K=>∃o q,CK s H K j o e x kn b w ks g.aT.toNat B T (pZ kn x.aN) q cR h) ⟨j,[],⟨?_,dZ.cZ _ ah.bI,aM.Lk L,⟨rfl,bW,bu rfl⟩,⟨bW,bO⟩,by simp[fe]⟩⟩ ?_
  .have:CD e x (x.aN.take 0)=[]:=by unfold CD;split<;>simp[iN]
   rw[this];exact Z.ext am
  rintro h cR K I2 μ2 hi ⟨o,q,S⟩ aa
  have zN:=S.gX.aP
  have ak:m.size<H.size:=V
  have bN:m.size<K.size/\o m.size=0:=⟨V,(S.gX.j8 _ ak).trans r0⟩
  have cN:Vh j m o K:=ah.O S.gX
  have aw:dJ K u iX [.s d,.s f,.s a,.s l,.i g.bL,.i g.aT,.s c,.s C]:=ao.congr (S.gX.fL u ao.lt (by rw[hv];decide))
  refine⟨λF=>?_,λF=>?_⟩
  .simp only[bh]at F
   have F:h<x.aN.length:=V
   let⟨r,G⟩:=dY x.aN h
   have gr:aR K k.bq (k.off+h*1)=some (vi r):=S.wk.bs.da.aR (ha.D G)
   have gy:aR K T.bq (T.off+h*1)=some (vi (kn.r r).lD):=by
    have:=S.ty.kV h (.i (kn.r r).lD) (by rw[eu,QF G];rfl);rw[H4];exact this
   refine⟨V,V,r,gr,V,V,_,gy,λe0=>aa V _ _ ⟨o,q,S.ac0 G ad (sp e0) λho X=>aaD W.ok ho hU X (QF G) (sp e0)⟩,λe0=>?_⟩
   have y0:(kn.r r).lD≠0:=sp e0
   have tk:∀{N2:E},J K N2->¬((x.op=9\/x.op=24)/\js e x h=true)->bJ dN 156 [vp b 0,vi r] N2 λaB N3=>gL [m.size] N2 N3/\∃I:Bool,aB=vb I/\
    ((!I)=true->∃r y,vb false=vb r/\Vh j m y N3/\(r=true->∃X,Wk s y N3 b w ks X g.aT.toNat B/\vF e g kn x X/\Tl e g x kn=some X)/\(r=false->Tl e g x kn=none))/\
    ((!I)=false->I2 cR (eR ((h:Int)+1)) N3/\μ2 cR (eR ((h:Int)+1)) N3<μ2 cR h K):=λ{N2} xN hn=>by
    refine((S.ext xN).ME G ad y0 hn hB.2).aO ?_
    rintro _ N3 ⟨I,rfl,c5,c7,P,ax⟩
    refine⟨c5.C3 λO R=>?_,I,rfl,λX=>om.no (ah.O c7) (have z:=ax (sp X);aaV so.dh hU ad z.1 z.2),λX=>aa V _ _ ⟨o,q,P (sp X)⟩⟩
    have:O=m.size:=sp R
    grind
   refine⟨λe9=>?_,λe9=>⟨λag=>?_,λag=>tk di (by simp at e9 ag;omega)⟩⟩
   all_goals
    have h9:x.op=9\/x.op=24:=by first|exact bu (sp e9)|exact bG (sp ag)
    have al:=Q.op
    unfold kL at al
    rw[aU V,aU V,aU V,aU V,ba h9]at al
    let⟨I,n0,P,aF⟩:=al
    have ar:=oP.ext S.wk.bs.da W.kQ
    have aS:=ar.aS
    let⟨a1,b1,ia,ib,w0,w1,w2⟩:=ar.D P
    have aP:=bA P
    refine⟨f,aw.dz 1,n0,V,b1,w1,(lp ib h).aO ?_⟩
    rintro _ N2 ⟨r2,rfl,ap,xN⟩
    refine⟨xN.fq (sp bN.1),r2,rfl,λet=>?_,λef=>tk xN λhc=>fb ap ef ((Pt P).1 hc.2)⟩
    exact(S.ext xN).ae7 G ⟨h9,(Pt P).2 (ap.1 et)⟩ ay (λaV N3 aj aA fq S'=>⟨fq,aa V _ _ ⟨aj,aA,S'⟩⟩) (cp bN.1 xN.aP) bN.2
  grind
 .rintro cR K ⟨o,q,S⟩
  have zN:=S.gX.aP
  have ak:m.size<H.size:=V
  have bN:m.size<K.size/\o m.size=0:=⟨V,(S.gX.j8 _ ak).trans r0⟩
  have cN:Vh j m o K:=ah.O S.gX
  have aB:=S.rE.aS
  simp at aB
  have ap:=S.pF
  have ag:=S.wk
  have ar:=S.Ul
  rw[fx]at ag ar
  have aA:=S.rE.nL V
  have hF:=Xy (p:=g) so.dh hU aJ
  refine ik (n:=q.length) V (λY N'=>N'=K/\∀r∈q.take Y,qZ (fJ kn (CD e x x.aN)) r) ⟨rfl,bO⟩ ?_
  rintro Y N' I3 μ3 hj ⟨ax,al⟩ aa
  obtain rfl:K=N':=ax.symm
  refine dit (λF=>?_) λF=>?_
  .let⟨r,G⟩:=dY q Y
   have rr:=ad r (ap.2 r (aZ G)).1
   refine⟨V,V,r,aA.D G,(ou ag.pT ag.ok V).aO ?_⟩
   rintro _ _ ⟨I,rfl,rfl,P⟩
   refine⟨di.fq (sp bN.1),I,rfl,λX=>om.no cN (by
    rw[hF,aU];intro hc;have hm:=ap.2 r (aZ G);rw[fx]at hm;rw[P.2 ⟨rr.1,hc.2 hm.2.1 r hm.2.2⟩]at X;cases X),λX=>aa V _ ⟨rfl,λaw hz=>?_⟩⟩
   rw[bX G]at hz
   grind
  .have:Y=q.length:=V
   subst this
   rw[fx]at al
   refine(Ah (v:=u) (y:=D) ag hB.1 Q av (S.wk.bs.da|>λ_=>ha) aK aI.2.1 az).aO ?_
   rintro _ N2 ⟨I,aj,rfl,c5,P,aF⟩
   have hc:(∀r∈CD e x x.aN,0<=((fJ kn (CD e x x.aN)).r r).bF)/\((x.op=9\/x.op=24)->∀r∈fe e x 0 x.aN,qZ (fJ kn (CD e x x.aN)) r):=⟨λr G=>(ag.ok.bF r (ad r (Oz G)).1).1,λho r G=>al r (ar ho r G)⟩
   rw[hF,ba hc]
   have c7:Vh o K aj N2:=c5.aO λ_ F=>bu F
   refine⟨c5.C3 λO R=>?_,I,rfl,I,aj,rfl,cN.O c7,λX=>?_,aF⟩
   .grind
   .let⟨k',W',hf,aw⟩:=P X
    refine⟨k',W',vF.use aE hU (XK.of V hU ag.ok (λr G=>(ad r G).1) hc.2 ?_),aw⟩
    grind [Vl]
end
section
variable{w m q W M P:E}{k u X:ag}{v b n K R C:Nat}{A:ap}{H f a I c L s ks G O T cR:N}{j:cV}{h:dP}{B z:Int}{kn S:Kn}{x:Instr}{y r:Int}{Y U:ab}{Q:Kn->Prop}{F:Option Kn}
theorem om.up(h:om C A w k q b s ks n B Q F)(p:J m q)(x:m.size<q.size)(j:∀b,m.size<=b->k b=0)(i:B<=z):
 bJ dN C A q λv c=>gL [m.size] q c/\∃a:Bool,v=vb a/\∃r u,vb a=vb r/\Vh k m u c/\(r=true->∃d,Wk w u c b s ks d n z/\Q d/\F=some d)/\(r=false->F=none):=by
 refine bJ.aO h ?_
 rintro _ c ⟨a,u,rfl,e,l,o⟩
 refine⟨e.C3 λD y=>?_,a,rfl,a,u,rfl,(dZ.fV p j).O e,λf=>?_,o⟩
 .grind
 .let⟨t,d,g⟩:=l f
  exact⟨t,⟨d.bs,d.pT,d.ok.aO i⟩,g⟩
theorem nv.up(h:nv C A w k q b s ks n B Q F)(o:J m q)(j:m.size<q.size)(l:∀b,m.size<=b->k b=0)(i:B<=z):
 bJ dN C A q λp d=>gL [m.size] q d/\∃a:Bool,p=vb a/\∃r u,vb a=vb r/\Vh k m u d/\(r=true->∃c,Wk w u d b s ks c n z/\Q c/\F=some c)/\(r=false->F=none):=
 om.up (bJ.aO h λ_ _⟨a,u,c,f,g⟩=>⟨a,u,c,f.aO λ_ e=>bu e,g⟩) o j l i
open Classical in
noncomputable def sA (j:cV) (h:dP) (x:Instr) (kn:Kn):Option Kn:=
 let a:=D x.aN 0
 if x.op=22 then some kn
 else if x.op=14 then if 0<(kn.r a).lD/\qZ kn a then some (kn.gZ a 1)else none
 else if x.op=15 then if 0<(kn.r a).lD/\0<=((kn.gZ a (-1)).r a).bF then some (kn.gZ a (-1))else none
 else if x.op=16\/x.op=17 then PI j x kn
 else if x.op=18 then if 0<=(kn.r a).lD/\0<=((fJ kn [a]).r a).bF/\((fJ kn [a]).r x.br).bF<=0 then some ((fJ kn [a]).eB x.br (kn.r a).lD (Kb (kn.r a).lD))else none
 else if x.op=19 then Px j x kn
 else Tl j h x kn
def vF.ym(a:x.op=22):vF j h kn x kn:=by grind [vF]
theorem vF.WU(a:x.op=14)(b:0<(kn.r (D x.aN 0)).lD)(c:qZ kn (D x.aN 0)):vF j h kn x (kn.gZ (D x.aN 0) 1):=by
 grind [vF]
theorem vF.uD(a:x.op=15)(b:0<(kn.r (D x.aN 0)).lD):vF j h kn x (kn.gZ (D x.aN 0) (-1)):=by
 grind [vF]
def vF.pM(b:x.op=18)(c:0<=(kn.r (D x.aN 0)).lD){a:Kn}(f:fJ kn [D x.aN 0]=a)(d:0<=(a.r (D x.aN 0)).bF)(e:(a.r x.br).bF<=0):
 vF j h kn x (a.eB x.br (kn.r (D x.aN 0)).lD (Kb (kn.r (D x.aN 0)).lD)):=by
 grind [vF]
def ZD(y:Int):0<=Kb y/\Kb y<=1:=by grind [Kb]
def Xi{y:Int}(h:0<=y):(if(1:Int)<y then 1 else y)=Kb y:=by
 grind [Kb]
open Classical in
def Bi(P:Vx w H f a I c j h)(hb:dJ m v iX [.s H,.s f,.s a,.s I,.i h.bL,.i h.aT,.s c,.s L])(hv:k v=4)(aa:Wk w k m b s ks kn h.aT.toNat B)(hB:1<=B/\B<=1000000)(Q:iB j h K x)(Y:bd w G x.aN):
 om 110 [vp v 0,vp b 0,.agg #[vi x.op,vi x.br,vi x.cE,vi x.cY,G.v,O.v]] w k m b s ks h.aT.toNat (B+3) (vF j h kn x) (sA j h x kn):=by
 have av:=Y.aS
 have aq:=aa.ok.aS
 have au:=aa.pT.IC
 have ai:=Q.br
 have ao:x.br<kn.aT.length:=by have:=(P.ok.eN h P.pT).aT;omega
 have ar:=(P.ok.eN h P.pT).aT
 have an:x.op≠7/\x.op≠8:=by
  have F:=Q.op;unfold kL at F;constructor<;>intro y<;>simp only[y]at F<;>simp+decide only[mN]at F
 unfold om
 apply yl (v,0) (b,0)
 simp -zeta only[dU]
 intro q
 have T:=px q
 have z1:m.size<q.size:=by simp[q]
 clear_value q
 have n:=aa.ext T
 have hn:=aa.bs.bI
 have J:Vh k m k q:=dZ.fV T hn
 have ah:=hb.ext T
 have S:∀u∈[m.size],u<q.size:=cG
 have n0:∀u∈[m.size],k u≠5:=cG
 have lW:(x.op=14\/x.op=15\/x.op=18)->∃r,D x.aN 0=r/\x.aN.length=1/\(0<=r/\r<kn.aT.length)/\aR q G.bq (G.off+Int.toNat 0*1)=some (vi r):=λF=>by
  have h1:x.aN.length=1:=by
   have:=Q.op;unfold kL at this;rcases F with F|F|F<;>simp only[F]at this<;>simp+decide only[mN,vE]at this<;>exact this.1
  have ak:=jG (l:=x.aN) (i:=0) V V;have:=Q.aN _ (aZ ak);exact⟨_,rfl,h1,V,n.bs.da.aR (by simpa using Y.D ak)⟩
 refine⟨λam=>⟨true,k,rfl,J,λ_=>⟨kn,⟨n.bs,n.pT,n.ok.aO V⟩,vF.ym cG,by unfold sA;simp only[];rw[ba cG]⟩,λy=>by cases y⟩,λam=>⟨λab=>?_,λab=>⟨λac=>?_,λac=>⟨λad=>?_,λad=>⟨λW=>?_,λW=>⟨λae=>?_,λae=>?_⟩⟩⟩⟩⟩⟩
 .have ab:x.op=14:=cG
  let⟨r,hA,hl,A,N⟩:=lW (bu ab)
  have C:sA j h x kn=if 0<(kn.r r).lD/\qZ kn r then some (kn.gZ r 1)else none:=by grind [sA]
  obtain⟨w0,w1,_⟩:=n.pT.dz (i:=r) A.1 V
  refine⟨s,n.pT.jy.1,V,V,r,N,A.1,V,_,w0,λy=>om.no J cG,λy=>⟨V,V,r,N,(ou n.pT n.ok V).aO ?_⟩⟩
  rintro _ _ ⟨u,rfl,rfl,z⟩
  have ho:=n.ok.bF r A.1
  refine⟨di.fq S,u,rfl,λX=>om.no J cG,λX=>⟨s,n.pT.jy.1,V,V,r,N,A.1,V,_,w1,A.1,V,n.pT.wr A.1 V V,?_⟩⟩
  intro m2
  have M:eR ((kn.r r).bF+1)=(kn.r r).bF+1:=by grind [dt]
  have U:lX k m2 5 b s ks (kn.gZ r 1):=n.pT.cB (g:=λu=>{u with bF:=u.bF+1}) A.1 V bO (by rw[M];rfl)
  have E:dZ (·=5) k _ k m2:=n.pT.ql n.bs.bI (o:=s.off+r.toNat*6+1) [.i (eR ((kn.r r).bF+1))]
  refine⟨E.C3 λu z=>⟨S u z,n0 u z⟩,true,k,rfl,J.O (E.aO λ_ y=>bu y),λ_=>⟨_,n.of E U (n.ok.gZ V V V),?_,?_⟩,λy=>by cases y⟩
  .grind [vF.WU]
  grind
 .have ac:x.op=15:=cG
  let⟨r,hA,hl,A,N⟩:=lW (bG (bu ac))
  have C:sA j h x kn=if 0<(kn.r r).lD/\0<=((kn.gZ r (-1)).r r).bF then some (kn.gZ r (-1))else none:=by grind [sA]
  obtain⟨w0,w1,_⟩:=n.pT.dz (i:=r) A.1 V
  refine⟨s,n.pT.jy.1,V,V,r,N,A.1,V,_,w0,λy=>⟨V,V,r,N,(sE n.bs.bI n.pT n.ok V A.1 V).aO ?_⟩,λy=>om.no J cG⟩
  rintro _ m2 ⟨u,rfl,U,E,z⟩
  have ho:=n.ok.bF r A.1
  refine⟨E.C3 λu z=>⟨S u z,n0 u z⟩,u,rfl,u,k,rfl,J.O (E.aO λ_ y=>bu y),λX=>⟨_,n.of E U (n.ok.gZ V V ?_),?_,?_⟩,λX=>?_⟩
  rotate_right
  .grind
  rotate_right
  .grind
  .grind [yG]
  grind [vF.uD]
 .have ad:x.op=16\/x.op=17:=cG
  have C:sA j h x kn=PI j x kn:=by grind [sA]
  rw[C]
  exact(C0 P ah n V Q ad Y).up T z1 hn (dR _)
 .have W:x.op=18:=cG
  let⟨r,hA,hl,A,N⟩:=lW (bG (bG W))
  have C:sA j h x kn=if 0<=(kn.r r).lD/\0<=((fJ kn [r]).r r).bF/\((fJ kn [r]).r x.br).bF<=0 then some ((fJ kn [r]).eB x.br (kn.r r).lD (Kb (kn.r r).lD))else none:=by grind [sA]
  obtain⟨w0,w1,_⟩:=n.pT.dz (i:=r) A.1 V
  have ho:=n.ok.bF r A.1
  refine⟨s,n.pT.jy.1,V,V,r,N,A.1,V,_,w0,λy=>om.no J cG,λy=>⟨λe2=>⟨V,V,r,N,(sE n.bs.bI n.pT n.ok V A.1 V).aO ?_⟩,λe2=>?_⟩⟩
  .rintro _ m2 ⟨u,rfl,U,E,z⟩
   have e2:0<(kn.r r).lD:=cG
   have ek:fJ kn [r]=kn.gZ r (-1):=by rw[fJ,aU (Int.ne_of_gt e2)];rfl
   rw[ek]at C
   refine⟨E.C3 λu z=>⟨S u z,n0 u z⟩,u,rfl,λX=>om.no (J.O (E.aO λ_ y=>bu y)) cG,λX=>?_⟩
   have z:=z.1 cG
   have al:=z
   rw[yG V A.1]at al
   simp only[vE]at al
   have ap:=n.ok.gZ (i:=r) (e:=-1) (B':=B+3) V V V
   have hm:=Xi (y:=(kn.r r).lD) V
   have af:=ZD (kn.r r).lD
   rw[hm]
   refine(pR (t:=(kn.r r).lD) (l:=Kb (kn.r r).lD) E.bI U (a:=x.br) ⟨ai.1,by rw[qT];exact ao⟩).aO ?_
   rintro _ m3 ⟨q3,rfl,R,h3,ag⟩
   have aj:=E.O R
   refine⟨R.C3 λu z=>⟨cp (S u z) E.aP,n0 u z⟩,q3,rfl,q3,k,rfl,J.O (aj.aO λ_ y=>bu y),λM=>?_,λM=>by rw[C,aU];intro F;rw[ag F.2.2]at M;cases M⟩
   let⟨Z,K3⟩:=h3 M
   refine⟨_,n.of aj K3 (ap.eB (B':=B+3) ⟨ai.1,V⟩ (dR _) ⟨af.1,V⟩),?_,by rw[C,ba ⟨Int.le_of_lt e2,z,Z⟩]⟩
   have:=vF.pM (j:=j) (h:=h) (kn:=kn) (a:=kn.gZ r (-1)) W cG cG cG Z
   rwa[hA]at this
  .have E:(kn.r r).lD=0:=cG
   have hm:=Xi (y:=(kn.r r).lD) V
   have af:=ZD (kn.r r).lD
   rw[hm]
   refine(pR (t:=(kn.r r).lD) (l:=Kb (kn.r r).lD) n.bs.bI n.pT (a:=x.br) V).aO ?_
   rintro _ m3 ⟨q3,rfl,R,h3,ag⟩
   have ek:fJ kn [r]=kn:=by grind [fJ]
   rw[ek]at C
   refine⟨R.C3 λu z=>⟨S u z,n0 u z⟩,q3,rfl,q3,k,rfl,J.O (R.aO λ_ y=>bu y),λM=>?_,λM=>by rw[C,aU];intro F;rw[ag F.2.2]at M;cases M⟩
   let⟨Z,K3⟩:=h3 M
   refine⟨_,n.of R K3 (n.ok.eB (B':=B+3) ⟨ai.1,V⟩ V ⟨af.1,V⟩),?_,by rw[C,ba ⟨V,ho.1,Z⟩]⟩
   have:=vF.pM (j:=j) (h:=h) (kn:=kn) (a:=kn) W cG cG cG Z
   rwa[hA]at this
 .have ae:x.op=19:=cG
  have C:sA j h x kn=Px j x kn:=by grind [sA]
  rw[C]
  exact(CZ P ah n V Q ae Y).up T z1 hn V
 .have z:x.op≠22/\x.op≠14/\x.op≠15/\x.op≠16/\x.op≠17/\x.op≠18/\x.op≠19:=cG
  have C:sA j h x kn=Tl j h x kn:=by grind [sA]
  rw[C]
  exact(Ee P ah hv n hB Q Y z an).up T z1 hn V
end
section
abbrev CV:=dZ (λk=>k=3\/k=5\/k=7\/10<=k)
@[grind cases] structure OH (q:Nat) (L L':aq):Prop where
 aS:L'.length=L.length
 iG:∀(i:Nat) old,L[i]? =some (some old)->∃k',L'[i]? =some (some k')/\vG old k'
 bC:∀i,i<q->L'[i]? =L[i]?
def WC(L:aq)(h:Int)(k:Kn):Prop:=0<=h/\∃H,L[h.toNat]? =some (some H)/\vG k H
def Hy(e:cV)(p:dP)(L:aq)(h:Nat)(x:Instr)(kn:Kn):Prop:=
 (x.op≠21->∃a,vF e p kn x a/\∀s∈tp x h,WC L s a)/\
 (x.op=21->(kn.r (D x.aN 0)).lD=x.cE/\qZ kn (D x.aN 0)/\∀(h:Nat)(j:Int),(cT e.bQ x.cE)[h]? =some j->(kn.r (D x.aN 0)).lx<0\/(kn.r (D x.aN 0)).lx=j->WC L (D x.fQ h) (kn.jJ (D x.aN 0) j))
def VW{α:Type}(f:Nat->α->Option α)(a:α):Nat->Option α
 |0=>some a
 |s+1=>(VW f a s).bind (f s)
def Po{α:Type}{f:Nat->α->Option α}{a:α}{s k:Nat}(h:VW f a s=none)(b:s<=k):VW f a k=none:=by
 induction k with
 |zero=>rw[show 0=s by omega];exact h
 |succ k c=>
  by_cases e:s=k+1
  .rw[<-e];exact h
  .grind [VW]
def vk{α:Type}{f:Nat->α->Option α}{a b:α}{s:Nat}(h:VW f a s=some b):VW f a (s+1)=f s b:=by rw[VW,h];rfl
noncomputable def XS (e:cV) (x:Instr) (kn:Kn) (j:Nat) (L:aq):Option aq:=
 if 0<=(kn.r (D x.aN 0)).lx/\(kn.r (D x.aN 0)).lx≠D (cT e.bQ x.cE) j then some L else xc L (kn.jJ (D x.aN 0) (D (cT e.bQ x.cE) j)) (D x.fQ j).toNat
open Classical in
noncomputable def uc (e:cV) (x:Instr) (kn:Kn) (L:aq):Option aq:=
 if(kn.r (D x.aN 0)).lD=x.cE/\qZ kn (D x.aN 0)then VW (XS e x kn) L (cT e.bQ x.cE).length else none
variable{y m F G M T:E}{t z u:ag}{v b s A q:Nat}{d f a C j J w ks R I:N}{e:cV}{p:dP}{L k r:aq}{B B' Q:Int}{kn K H S:Kn}{x:Instr}{h:Int}
def OH.cZ:OH q L L:=by constructor<;>grind [vG.cZ]
def OH.O(a:OH q L k)(g:OH q k r):OH q L r:=⟨g.aS.trans a.aS,λh old e=>by
 let⟨H,c,f⟩:=a.iG h old e;let⟨S,d,i⟩:=g.iG h H c;exact⟨S,d,f.O i⟩,λh b=>(g.bC h b).trans (a.bC h b)⟩
def OH.eB(b:0<=Q/\Q<L.length)(a:(q:Int)<=Q)(h:∀old,L[Q.toNat]? =some (some old)->vG old K):OH q L (L.set Q.toNat (some K)):=by
 constructor<;>grind [List.getElem?_set_ne,List.getElem?_set_self,vG.cZ]
theorem WC.aO(b:WC L h H)(w:OH q L k):WC k h H:=by
 let⟨c,S,e,f⟩:=b;let⟨d,a,g⟩:=w.iG _ _ e;exact⟨c,d,a,f.O g⟩
def Hy.aO{f:Nat}(d:Hy e p L f x kn)(w:OH q L k):Hy e p k f x kn:=
 ⟨λc=>by obtain⟨m,a,b⟩:=d.1 c;exact⟨m,a,λs g=>(b s g).aO w⟩,λc=>by obtain⟨a,b,l⟩:=d.2 c;exact⟨a,b,λh j g i=>(l h j g i).aO w⟩⟩
def aaP{a j e:Int}:(kn.jJ a j).jJ a e=kn.jJ a e:=Bm
def XV{a:af}(h:eP a){t j:Int}(b:j∈cT a t):0<=j/\j<=1000:=by
 grind [cT,tI,mH]
def iJ.abw{e c:Nat}{s:N}{C:ae}(h:jo m G e c s C)(d:∀b,m.size<=b->t b=0):iJ t G e c 0 s C:=
 iJ.jM h λf=>by
  rcases h.D with a|⟨b,j,tail,a,h2,_⟩
  .exact absurd a f
  .rw[a];exact d b h2
def Wk.cv(h:Wk y t m b w ks kn s B)(c:Bs y z G){P:Nat->Prop}(d:dZ P t m z G)(a:¬P 5):Wk y z G b w ks kn s B:=⟨c,h.pT.gX d a,h.ok⟩
open Classical in
def xz(Y:Vx y d f a C j e p)(aC:qS y t m v d f a C j J p L B)(ab:Wk y t m b w ks kn p.aT.toNat B)(hL:L.length=p.cF.length)(hx:iB e p A x)(an:x.op=21)(ha:bd y R x.aN)(hj:bd y I x.fQ):
 bJ dN 109 [vp v 0,vp b 0,.agg #[vi x.op,vi x.br,vi x.cE,vi x.cY,R.v,I.v]] m λaj G=>∃O z,aj=vb O/\CV t m z G/\(O=true->∃k,qS y z G v d f a C j J p k B/\OH (A+1) L k/\Hy e p k A x kn/\uc e x kn L=some k)/\(O=false->uc e x kn L=none):=by
 have aX:=ha.aS
 have aS:=ab.ok.aS
 have aW:=ab.pT.IC
 have aT:=(Y.ok.eN p Y.pT).aT
 have ae:=hx.op
 unfold kL at ae
 simp only[an]at ae
 simp+decide only[mN,vE]at ae
 obtain⟨h1,_,aM,aF⟩:=ae
 have ao:=jG (l:=x.aN) (i:=0) V V
 have aa:=hx.aN _ (aZ ao)
 generalize hA:D x.aN 0=r0 at*
 apply vj (v,0) (b,0)
 simp -zeta only[dU]
 intro F
 have x1:=px F
 have z1:m.size<F.size:=by simp[F]
 clear_value F
 have S:=ab.ext x1
 have hn:=ab.bs.bI
 have c1:CV t m t F:=dZ.fV x1 hn
 have V1:=aC.gX (P:=λ_=>False) (dZ.fV x1 hn) (λ_=>False.elim)
 have ar:∀q∈[m.size],q<F.size:=cG
 have aJ:t m.size=0:=cG
 have no:∀{M:E}{u:ag},CV t m u M->uc e x kn L=none->∃O z,vb false=vb O/\CV t m z M/\(O=true->∃k,qS y z M v d f a C j J p k B/\OH (A+1) L k/\Hy e p k A x kn/\uc e x kn L=some k)/\(O=false->uc e x kn L=none):=cG
 have hF:uc e x kn L=if(kn.r r0).lD=x.cE/\qZ kn r0 then VW (XS e x kn) L (cT e.bQ x.cE).length else none:=by grind [uc]
 have hG:∀{s:Nat}{H:Int}{r:aq},(cT e.bQ x.cE)[s]? =some H->XS e x kn s r=if 0<=(kn.r r0).lx/\(kn.r r0).lx≠H then some r else xc r (kn.jJ r0 H) (D x.fQ s).toNat:=λ{s H r} T=>by
  grind [jG,cT,bA,Int.toNat_natCast,XS]
 have gr:aR F R.bq (R.off+Int.toNat 0*1)=some (vi r0):=S.bs.da.aR (by simpa using ha.D ao)
 obtain⟨w0,_,_,w3,_⟩:=S.pT.dz (i:=r0) aa.1 V
 refine⟨w,S.pT.jy.1,V,V,r0,gr,aa.1,V,_,w0,λN=>no c1 cG,λN=>⟨V,V,r0,gr,(ou S.pT S.ok V).aO ?_⟩⟩
 rintro _ M ⟨q,rfl,hM,hq⟩
 obtain rfl:F=M:=hM.symm
 refine⟨di.fq ar,q,rfl,λeq=>no c1 cG,λeq=>⟨_,w3,d,V1.bT.dz 0,(Co (dq.ext S.bs.da Y.bQ) Y.dh x.cE).aO ?_⟩⟩
 rintro _ m2 ⟨ay,rfl,hs,h3,x2⟩
 have av:=iJ.abw hs S.bs.bI
 have aI:=av.aS
 simp at aI
 have lD:(kn.r r0).lD=x.cE:=cG
 have aD:=(hq.1 cG).2
 rw[ba ⟨lD,aD⟩]at hF
 have c2:CV t m t m2:=c1.O (dZ.fV x2 S.bs.bI)
 have W2:=S.ext x2
 have V2:=V1.gX (P:=λ_=>False) (dZ.fV x2 S.bs.bI) (λ_=>False.elim)
 have zm:=x2.aP
 refine⟨x2.fq ar,ay,rfl,ik (n:=(cT e.bQ x.cE).length) V (λs M=>∃u r kc,CV t m2 u M/\qS y u M v d f a C j J p r B/\Wk y u M b w ks kc p.aT.toNat B/\(∀N,kc.jJ r0 N=kn.jJ r0 N)/\OH (A+1) L r/\iJ u M bE 1 0 ay ((cT e.bQ x.cE).map Ce.i)/\VW (XS e x kn) L s=some r/\
  ∀(h:Nat)(j:Int),h<s->(cT e.bQ x.cE)[h]? =some j->(kn.r r0).lx<0\/(kn.r r0).lx=j->WC r (D x.fQ h) (kn.jJ r0 j)) ⟨t,L,kn,dZ.cZ _ c2.bI,V2,W2,λ_=>rfl,OH.cZ,av,rfl,V⟩ ?_⟩
 rintro s M aA μ aN ⟨u,r,kc,X,VM,W,ad,lw,ah,ac,hh⟩ ax
 have zM:=X.aP
 have bM:m.size<M.size/\u m.size=0:=⟨V,(X.j8 _ V).trans aJ⟩
 have cA:=c2.O X
 refine dit (λN=>?_) λN=>?_
 .let⟨H,T⟩:=dY (cT e.bQ x.cE) s
  have aY:=XV Y.dh (aZ T)
  have aQ:=W.ok.aS
  have aL:s<x.fQ.length:=V
  have af:=jG (l:=x.fQ) (i:=s) V V
  rw[iD]at af
  have aO:=aF _ (aZ af)
  have go:((kn.r r0).lx<0\/(kn.r r0).lx=H)->∃ak:E->Prop,(iQ M w.bq (w.off+r0.toNat*6+3) 1/\let Q:E:=aV M w.bq (w.off+r0.toNat*6+3) [.i H];gL [m.size] M Q/\ak Q)/\∀Q,ak Q->(0:Int)<=s/\(s:Int)<I.len/\
   ∃az:Int,aR Q I.bq (I.off+(s:Int).toNat*1)=some (vi az)/\bJ dN 112 [vp v 0,vp b 0,vi az] Q λaj U=>gL [m.size] Q U/\∃q:Bool,aj=vb q/\
    ((!q)=true->∃O z,vb false=vb O/\CV t m z U/\(O=true->∃k,qS y z U v d f a C j J p k B/\OH (A+1) L k/\Hy e p k A x kn/\uc e x kn L=some k)/\(O=false->uc e x kn L=none))/\
    ((!q)=false->aA (eR ((s:Int)+1)) U/\μ (eR ((s:Int)+1)) U<μ s M):=λaK=>by
   have al:dZ (·=5) u M u (aV M w.bq (w.off+r0.toNat*6+3) [.i H]):=W.pT.ql X.bI _
   refine⟨λaB=>aB=aV M w.bq (w.off+r0.toNat*6+3) [.i H],⟨W.pT.wr aa.1 V V,al.C3 λH T=>?_,rfl⟩,?_⟩
   .grind
   intro Q au
   have K4:lX u Q 5 b w ks (kc.jJ r0 H):=by rw[au];exact W.pT.cB (i:=r0) (o:=3) (new:=[.i H]) (g:=λO=>{O with lx:=H}) aa.1 V bO rfl
   have Z:dZ (·=5) u M u Q:=cG
   clear au al
   have W4:=W.of Z K4 (W.ok.jJ aa.1 (c:=H) V)
   have V4:=VM.gX Z (λ_ N=>bu N)
   have z4:=Z.aP
   have aG:aR Q I.bq (I.off+(s:Int).toNat*1)=some (vi (D x.fQ s)):=by
    have:=W4.bs.da.aR (hj.D af);rwa[iD]
   have aP:=hj.aS
   refine⟨V,V,_,aG,(tP V4 W4.pT W4.ok (g:=D x.fQ s) cG).aO ?_⟩
   rintro _ U ⟨q,ai,rfl,c5,hq,aH⟩
   have hb:XS e x kn s r=xc r (kc.jJ r0 H) (D x.fQ s).toNat:=by rw[hG T,aU V,ad]
   have aE:CV u Q ai U:=by grind [dZ.aO]
   have am:CV t m2 ai U:=(X.O (Z.aO λ_ N=>bG (bu N))).O aE
   refine⟨c5.C3 λH T=>?_,q,rfl,λeq=>no (c2.O am) (by rw[hF];exact Po (s:=s+1) (by rw[vk ac,hb];exact aH cG) V),λeq=>?_⟩
   .grind
   let⟨K,V5,w1,w2,w3⟩:=hq cG
   have aw:OH (A+1) r (r.set (D x.fQ s).toNat (some K)):=OH.eB cG V w2
   refine ax V _ ⟨ai,_,kc.jJ r0 H,am,V5,W4.cv V5.da c5 cH,λN=>by rw[aaP,ad],lw.O aw,(ah.gX Z cH).gX c5 cH,by rw[vk ac,hb,w3],λh j hi hc ap=>?_⟩
   .by_cases ei:h=s
    .subst ei
     rw[T]at hc;cases hc
     rw[ad]at w1
     exact⟨V,K,ft (by rw[lw.aS,hL];omega),w1⟩
    .exact(hh h j V hc ap).aO aw
  refine⟨V,V,H,(ah.nL V).D T,λe1=>⟨λe2=>ax V _ ⟨u,r,kc,X,VM,W,ad,lw,ah,by rw[vk ac,hG T,ba ⟨sp e1,sp e2⟩],λh j hi hc ap=>?_⟩,λe2=>go (bG cG)⟩,λe1=>go (bu cG)⟩
  grind
 .have Q:s=(cT e.bQ x.cE).length:=V
  refine⟨true,u,rfl,cA,λ_=>⟨r,VM,lw,⟨λT=>absurd an T,λ_=>?_⟩,by rw[hF,<-Q];exact ac⟩,λN=>by cases N⟩
  grind
end
section
noncomputable def vR (j:cV) (p:dP) (e:Nat) (x:Instr) (kn:Kn) (L:aq):Option aq:=
 if x.op=21 then uc j x kn L else(sA j p x kn).bind λb=>VW (λa L=>xc L b (D (tp x e) a).toNat) L (tp x e).length
variable{w g h F M S:E}{t H y:ag}{v b I e q:Nat}{d f a C c s K ks z A:N}{j:cV}{p:dP}{L k u:aq}{B R U:Int}{kn O P Q:Kn}{x:Instr}{T:Int}
def Yi(g:iB j p e x)(f:p.cF[e]? =some x)(k:ny j p)(h:x.op≠21):∀I∈tp x e,(e:Int)+1<=I/\I<=(p.cF.length:Int) -1:=by
 have i:=bA f;have b:=g.op;unfold kL at b;intro I a;unfold tp at a;by_cases d:x.op=22
 .simp only[d]at b a;grind
 by_cases c:x.op=20
 .simp only[c]at b a;grind
 grind [List.length,ny.C2]
def aaG(a:x.op≠21):(tp x e).length<=2:=by
 grind [tp]
def Yh(j:x.op≠21)(l:e<=1000000):bJ dN 111 [.agg #[vi x.op,vi x.br,vi x.cE,vi x.cY,z.v,A.v],vi e] g λw F=>∃s,w=s.v/\jo g F bE 1 s ((tp x e).map Ce.i)/\J g F:=by
 apply Be;simp -zeta only[dU];intro h;have b:=px h;clear_value h;have k:eR ((e:Int)+1)=(e:Int)+1:=by grind [dt]
 rw[k];have mk:∀(y:ab),∃s,(N.v (.mk h.size 0 y.length y.length))=s.v/\jo g (h.push (.cells (de (y.map Ce.i)) bE)) bE 1 s (y.map Ce.i)/\J g (h.push (.cells (de (y.map Ce.i)) bE)):=λy=>
  ⟨_,rfl,(jo.bI (J.cZ h) bE 1 (y.map Ce.i) y.length bO).da b.aP,b.cw _⟩
 unfold tp;refine⟨λc=>?_,λc=>⟨λd=>?_,λd=>⟨λf=>absurd cG j,λf=>⟨λi=>?_,λi=>?_⟩⟩⟩⟩
 .intro a;rw[ba cG];exact mk [x.cE]
 .intro a;rw[aU cG,ba cG];exact mk [(e:Int)+1,x.cE]
 .grind [jo.gD]
 .intro a;rw[aU cG,aU cG,aU cG,aU cG];exact mk [(e:Int)+1]
def vQ(aa:Vx w d f a C c j p)(W:qS w t g v d f a C c s p L B)(hB:1<=B/\B<=1000000)(hL:L.length=p.cF.length)(ap:L[e]? =some (some kn))(aj:p.cF[e]? =some x):
 bJ dN 60 [vp v 0,vi e] g λah F=>∃S H,ah=vb S/\CV t g H F/\(S=true->∃k,qS w H F v d f a C c s p k (B+3)/\OH (e+1) L k/\Hy j p k e x kn/\vR j p e x kn L=some k)/\(S=false->vR j p e x kn L=none):=by
 let⟨am,hQ,hA,hC⟩:=W.kG
 have aM:=bA ap
 have ar:=aa.ok.eN p aa.pT
 have hx:=ar.eN e x aj
 let⟨qc,hq⟩:=dY am e
 have aq:=hC e qc (some kn) hq ap
 obtain⟨kb,af,ae,rfl,K0,az⟩:∃kb af ae,qc=some (kb,0)/\lX t g (10+e) kb af ae kn/\nT kn p.aT.toNat B:=by
  cases qc with
  |none=>exact aq.elim
  |some qc=>
   let⟨I,af,ae,N,R⟩:=aq;let⟨kb,T⟩:=qc;simp only at I N;subst I;exact⟨kb,af,ae,rfl,N,R⟩
 let⟨z,A,ia,ij,g0,g1,g2,g3,g4,g5⟩:=aa.cF.D aj
 have aK:=aa.cF.aS
 have aI:s.len=am.length:=by have:=hA.aS;simp at this;omega
 have gQ:aR g s.bq (s.off+e*1)=some (Ce.v (.pp (some (kb,0)))):=by
  have:=hA.kV e (.pp (some (kb,0))) cG;grind
 have G:∀{ay:Nat}{ah:Value},aR w c.bq ay=some ah->aR g c.bq ay=some ah:=λai=>W.da.da.aR ai
 have b7:aR g v 7=some s.v:=W.bT.dz 7
 have b6:aR g v 6=some c.v:=W.bT.dz 6
 apply uo (v,0)
 simp -zeta only[dU,iD]
 refine⟨λax xp M=>∃y b K ks,ax=some (b,0)/\CV t g y M/\qS w y M v d f a C c s p L B/\Wk w y M b K ks kn p.aT.toNat B/\xp.2=0/\dJ M xp.1 dV [.i x.op,.i x.br,.i x.cE,.i x.cY,.s z,.s A]/\y xp.1=0,⟨s,b7,V,V,_,gQ,c,b6,V,V,_,G g0,_,G g1,_,G g2,_,G g3,_,G g4,_,G g5,?_,?_⟩,?_⟩
 .refine(rp W.da.bI K0 5).aO ?_
  rintro _ h ⟨X,b1,ac,ab,rfl,K1,T⟩
  have I:=T.Xw
  have V1:=W.gX T (λ_=>False.elim)
  refine⟨some (b1,0),rfl,I.db (G g0),I.db (G g1),I.db (G g2),I.db (G g3),I.db (G g4),I.db (G g5),I.db b6,?_⟩
  intro m2
  have N:=px m2
  have Q:dJ m2 h.size dV [.i 0,.i 0,.i 0,.i 0,.s .nil,.s .nil]:=dJ.push h _ _
  clear_value m2
  refine⟨N.db (I.aR (G g0)),N.db (I.aR (G g1)),N.db (I.aR (G g2)),N.db (I.aR (G g3)),N.db (I.aR (G g4)),N.db (I.aR (G g5)),N.db (I.aR b6),N.db (I.aR gQ),N.db (I.aR b7),?_⟩
  intro U
  have Z:J h U:=by grind [J.aV]
  have k3:dJ U h.size dV [.i x.op,.i x.br,.i x.cE,.i x.cY,.s z,.s A]:=dJ.aV (m:=g) (o:=0) (r:=[.i x.op,.i x.br,.i x.cE,.i x.cY,.s z,.s A]) Q
  clear_value U
  have R:dZ (λ_=>False) X h X U:=dZ.fV Z T.bI
  have Y:=V1.gX R (λ_=>False.elim)
  exact⟨X,b1,ac,ab,rfl,(T.O R).aO λ_=>False.elim,Y,⟨Y.da,K1.gX R id,az⟩,rfl,k3,T.bI _ bW⟩
 .intro h
  obtain⟨I,z1⟩:=pu h
  have P:dJ h g.size dV [.i 0,.i 0,.i 0,.i 0,.s .nil,.s .nil]:=dJ.push g _ _
  clear_value h
  have cc:dZ (λ_=>False) t g t h:=dZ.fV I W.da.bI
  refine⟨I.db (G g0),I.db (G g1),I.db (G g2),I.db (G g3),I.db (G g4),I.db (G g5),I.db b6,I.db gQ,I.db b7,(rp cc.bI (K0.gX cc id) 5).aO ?_⟩
  rintro _ m2 ⟨X,b1,ac,ab,rfl,K1,T⟩
  have N:=T.Xw
  have ak:=I.O N
  refine⟨N.fq cG,some (b1,0),rfl,N.db (I.aR (G g0)),N.db (I.aR (G g1)),N.db (I.aR (G g2)),N.db (I.aR (G g3)),N.db (I.aR (G g4)),N.db (I.aR (G g5)),N.db (I.aR b6),?_⟩
  intro U
  have k3:dJ U g.size dV [.i x.op,.i x.br,.i x.cE,.i x.cY,.s z,.s A]:=dJ.aV (m:=g) (o:=0) (r:=[.i x.op,.i x.br,.i x.cE,.i x.cY,.s z,.s A]) (P.ext N)
  have Z:J g U:=by grind [J.aV]
  have r0:X g.size=0:=(T.j8 _ V).trans (W.da.bI _ bW)
  have R:dZ (·=0) X m2 X U:=dZ.aV T.bI r0 _ _
  clear_value U
  have ad:dZ (λ_=>False) t g X U:=⟨Z.aP,λb hb=>(T.j8 b V),R.bI,λb hb _=>Z.bC b hb⟩
  have Y:=W.gX ad (λ_=>False.elim)
  exact⟨X,b1,ac,ab,rfl,ad.aO λ_=>False.elim,Y,⟨Y.da,K1.gX R cH,az⟩,rfl,k3,r0⟩
 rintro ax ⟨xb,xo⟩ M ⟨y,b,K,ks,rfl,cM,VM,WM,aw,kx,rx⟩
 simp only at aw kx rx
 subst aw
 have no:∀{M:E}{y:ag},CV t g y M->vR j p e x kn L=none->∃S H,vb false=vb S/\CV t g H M/\(S=true->∃k,qS w H M v d f a C c s p k (B+3)/\OH (e+1) L k/\Hy j p k e x kn/\vR j p e x kn L=some k)/\(S=false->vR j p e x kn L=none):=cG
 refine⟨_,kx.dz 0,λT=>⟨_,kx.dz 0,_,kx.dz 1,_,kx.dz 2,_,kx.dz 3,_,kx.dz 4,_,kx.dz 5,?_⟩,λT=>⟨_,kx.dz 0,_,kx.dz 1,_,kx.dz 2,_,kx.dz 3,_,kx.dz 4,_,kx.dz 5,?_⟩⟩
 .refine(xz aa VM WM hL hx cG ia ij).aO ?_
  rintro _ M2 ⟨S,N,rfl,R,hr,al⟩
  have hF:vR j p e x kn L=uc j x kn L:=by grind [vR]
  rw[hF]
  refine⟨S,rfl,S,N,rfl,cM.O R,λe2=>?_,al⟩
  grind [qS.aO]
 .have ad:x.op≠21:=cG
  refine(Bi aa VM.bT VM.j8 WM hB hx ia).aO ?_
  rintro _ M2 ⟨S,N,rfl,R,hr,al⟩
  have an:CV y M N M2:=by grind [dZ.aO]
  have ac:dJ M2 xb dV [.i x.op,.i x.br,.i x.cE,.i x.cY,.s z,.s A]:=kx.congr (R.fL xb kx.lt cG)
  refine⟨S,rfl,λe2=>no (cM.O an) (by unfold vR;rw[aU ad,al cG];rfl),λe2=>⟨_,ac.dz 0,_,ac.dz 1,_,ac.dz 2,_,ac.dz 3,_,ac.dz 4,_,ac.dz 5,(Yh ad cG).aO ?_⟩⟩
  let⟨k',W2,aC,aJ⟩:=hr cG
  have hF:vR j p e x kn L=VW (λI L=>xc L k' (D (tp x e) I).toNat) L (tp x e).length:=by grind [vR]
  have V2:=(VM.gX R (λ_ T=>T)).aO (show B<=B+3 by omega)
  rintro _ M3 ⟨aB,rfl,hs,Z⟩
  have av:=iJ.abw hs R.bI
  have aE:=av.aS
  simp at aE
  have aL:=aaG (e:=e) ad
  have cx:dZ (λ_=>False) N M2 N M3:=dZ.fV Z R.bI
  have Y:=V2.gX cx (λ_=>False.elim)
  have W3:=W2.ext Z
  have cA:CV t g N M3:=(cM.O an).O (cx.aO λ_=>False.elim)
  refine⟨aB,rfl,ik (n:=(tp x e).length) V (λI ab=>∃U u,CV N M3 U ab/\qS w U ab v d f a C c s p u (B+3)/\Wk w U ab b K ks k' p.aT.toNat (B+3)/\OH (e+1) L u/\iJ U ab bE 1 0 aB ((tp x e).map Ce.i)/\VW (λI L=>xc L k' (D (tp x e) I).toNat) L I=some u/\∀X∈(tp x e).take I,WC u X k')
   ⟨N,L,dZ.cZ _ cA.bI,Y,W3,OH.cZ,av,rfl,bO⟩ ?_⟩
  rintro I ab aH μ hj ⟨U,u,cN,VN,WN,lw,au,ak,hh⟩ aG
  refine dit (λT=>?_) λT=>?_
  .let⟨X,hy⟩:=dY (tp x e) I
   have aN:=Yi hx aj ar ad X (aZ hy)
   refine⟨V,V,X,(au.nL V).D hy,(tP VN WN.pT WN.ok (g:=X) cG).aO ?_⟩
   rintro _ N2 ⟨q,aA,rfl,c5,hq,aD⟩
   have ey:D (tp x e) I=X:=by
    have:=jG (l:=tp x e) (i:=(I:Int)) V V;grind [Int.toNat_natCast]
   have ao:CV U ab aA N2:=by grind [dZ.aO]
   refine⟨q,rfl,λeq=>no (cA.O (cN.O ao)) (by rw[hF];exact Po (s:=I+1) (by rw[vk ak,ey];exact aD cG) V),λeq=>?_⟩
   let⟨O,V5,w1,w2,w3⟩:=hq cG
   have aF:OH (e+1) u (u.set X.toNat (some O)):=OH.eB cG V w2
   refine aG V _ ⟨aA,_,cN.O ao,V5,WN.cv V5.da c5 cH,lw.O aF,au.gX c5 cH,by rw[vk ak,ey,w3],λaO hz=>?_⟩
   rw[bX hy]at hz
   rcases bR.1 hz with hz|hz
   .grind [WC.aO]
   .simp at hz;subst hz
    exact⟨V,O,ft cG,w1⟩
  .have:I=(tp x e).length:=V
   subst this
   rw[fx]at hh
   exact⟨true,U,rfl,cA.O cN,λ_=>⟨u,VN,lw,⟨λ_=>⟨k',aC,hh⟩,λai=>absurd ai ad⟩,by rw[hF];exact ak⟩,λT=>by cases T⟩
end
section
variable{g:Kn}
def MO(L:aq)(e:Nat):Option Kn:=(L[e]?).join
def PW(p:dP)(e:Nat):tj:=⟨D p.aX e,if D p.aX e≠0/\(e:Int)∉p.cR then 1 else 0,decide ((e:Int)∈p.cR),-1,-1,-1⟩
@[grind cases] structure MN (p:dP) (n j q:Nat) (kn:Kn):Prop where
 aS:kn.aT.length=n
 YE:∀i:Nat,i<j->i<n->kn.r i=PW p i
 unk:∀i:Nat,j<=i->i<q->i<n->kn.r i=yr
 eG:∀i:Nat,i<q->i<n->D kn.eG i= -1
variable{s m I H M A:E}{t J K:ag}{v b n C q j:Nat}{d f a l c r u ks P Q:N}{o:cV}{p:dP}{L y z:aq}{B w O:Int}{kn G h F:Kn}{x:Instr}{e:Int}
theorem JK{e:Nat}:MO L e=some g<->L[e]? =some (some g):=by
 grind [MO]
theorem WC.rL(a:WC L e g):∃h,MO L e.toNat=some h/\vG g h:=by
 obtain⟨_,h,b,w⟩:=a;grind [JK]
def MN.cz(h:MN p n p.aX.length n kn)(d:p.aT.toNat=n)(g:kn.eG.length=n)(i:p.aX.length<=n):vG (Ot p) kn:=by
 have c:(Ot p).aT.length=n:=by grind [Ot]
 have R:∀{e:Int},0<=e->kn.r e=(Ot p).r e:=λ{e} a=>by
  by_cases f:e<n
  .have b:(Ot p).r e=if e.toNat<p.aX.length then PW p e.toNat else yr:=by
    unfold Kn.r Ot;simp only[eu];rw[aeG V];rfl
   grind [MN.YE,MN.unk]
  .grind [PO,MN.aS]
 refine⟨by rw[h.aS,c],λe a=>by rw[R a],λe a=>bu (by rw[R a]),λe a=>bu (by rw[R a]),λe a=>bu ⟨by rw[R a],by rw[R a]⟩,λe a b=>by rw[<-R a];exact b,?_⟩;unfold Ot;simp only[d];apply ee;grind [jG,Int.toNat_natCast,MN.eG,List.getElem?_eq_none]
def MN.eq(h:MN p n p.aX.length n kn)(d:p.aT.toNat=n)(c:kn.eG.length=n)(f:p.aX.length<=n):kn=Ot p:=by
 have w:=h.cz d c f;have a:kn.aT=(Ot p).aT:=by
  apply ee;intro e;by_cases j:e<n
  .have b:=Iw (k:=kn) (i:=(e:Int)) V cG;have g:(Ot p).aT[e]? =some (if e<p.aX.length then PW p e else yr):=by
    unfold Ot;simp only[eu];rw[aeG V];rfl
   grind [Int.toNat_natCast,MN.YE,MN.unk]
  .grind [Ot,List.length,List.getElem?_eq_none,MN.aS]
 have b:=w.eG;cases kn;simp only at a b;rw[a,b]
def MN.ok(h:MN p n p.aX.length n kn):nT kn n 1:=by
 have R:∀{e:Int},0<=e->((kn.r e).bF=0\/(kn.r e).bF=1)/\(kn.r e).fr= -1/\(kn.r e).lx= -1:=λ{e} a=>by
  by_cases c:e<n
  .have b:((e.toNat:Nat):Int)=e:=V;by_cases d:e.toNat<p.aX.length
   .grind [MN.YE,PW]
   .have:=h.unk e.toNat V V V;rw[b]at this;rw[this];exact⟨bu rfl,rfl,rfl⟩
  .rw[PO cG];exact⟨bu rfl,rfl,rfl⟩
 refine⟨h.aS,λe a=>oh ((R a).1),λe a=>oh ((R a).2.1),λe a=>oh ((R a).2.2),λ_=>0,λe a b=>oh ((R a).2.1)⟩
def aaz(V:qS s t m v d f a l c r p L B)(n:WC L 0 (Ot p))(D:1<=p.aT)(k:∀(e:Nat) kn x,L[e]? =some (some kn)->p.cF[e]? =some x->Hy o p L e x kn):rj o p (MO L):=by
 let⟨Q,A,z,w⟩:=V.kG;refine⟨λe g b=>?_,n.rL,λe x g i b h=>?_,λe x g i b h=>?_⟩
 .have b:=JK.1 b;have C:=bA b;let⟨j,q⟩:=dY Q e;have:=w e j _ q b;cases j with
  |none=>exact this.elim
  |some j=>
   obtain⟨_,u,ks,_,y⟩:=this;have:=y.aS;omega
 .let⟨y,j,q⟩:=(k e g x (JK.1 b) i).1 h;grind [WC.rL]
 .let⟨j,q,y⟩:=(k e g x (JK.1 b) i).2 h;grind [WC.rL]
end
section
@[grind cases] structure Ld (m0:E) (ro:ag) (m:E) (v:Nat) (d f a l c bs:N) (p:dP) (N:Nat):Prop where
 da:Bs m0 ro m
 bT:dJ m v iX [.s d,.s f,.s a,.s l,.i p.bL,.i p.aT,.s c,.s bs]
 j8:ro v=4
 rE:iJ ro m nF 1 3 bs ((List.replicate N none).map Ce.pp)
variable{r m J s M A:E}{h t O:ag}{v b n C q j g k:Nat}{d f a l c e u ks R S K:N}{F:cV}{p:dP}{L y z:aq}{B w Q:Int}{kn I G H:Kn}{x:Instr}{i:Int}
def Ld.gX{P:Nat->Prop}(b:Ld r h m v d f a l c e p g)(i:dZ P h m t s)(j:¬P 0/\¬P 3/\¬P 4):Ld r t s v d f a l c e p g:=
 by constructor<;>grind [Ld.da,Bs.Sd,Ld.bT,dJ.congr,dZ.fL,dJ.lt,Ld.j8,dZ.j8,Ld.rE,iJ.gX]
def MN.s1(h:MN p n 0 j kn)(e:j<n)(f:kn.eG.length=n):MN p n 0 (j+1) {(kn.tn j λ_=>yr)with eG:=gT kn.eG j (-1)}:=by
 have b:=h.aS;have R:∀i:Nat,i<n->(Kn.mk (kn.tn j λ_=>yr).aT (gT kn.eG j (-1))).r i=if(i:Int)=j then yr else kn.r i:=λi a=>by
  show(kn.tn j λ_=>yr).r i=_;grind [HM]
 refine⟨by show(kn.tn j λ_=>yr).aT.length=n;rw[lF,b],λi d _=>V,λi _ a c=>?_,λi a c=>?_⟩
 .grind [MN.unk]
 .show D (gT kn.eG j (-1)) i= -1;grind [mO,MN.eG]
def MN.s2(h:MN p n j n kn):MN p n (j+1) n (kn.tn j λ_=>PW p j):=by
 have b:=h.aS;have R:∀i:Nat,i<n->(kn.tn j λ_=>PW p j).r i=if(i:Int)=j then PW p j else kn.r i:=λi a=>by
  grind [HM]
 refine⟨by rw[lF,b],λi a c=>?_,λi a _ c=>?_,h.eG⟩
 .grind [MN.YE]
 .grind [MN.unk]
theorem XC(n:Nat):ng [.pp none] n=(List.replicate n none).map Ce.pp:=by
 induction n with
 |zero=>rfl
 |succ n a=>
  have e:ng [.pp none] (n+1)=[.pp none]++ng [.pp none] n:=by simp[ng,mq]
  rw[e,a];rfl
theorem U8(n:Nat):ng [.i 0,.i 0,.t false,.i 0,.i 0,.i 0] n=Nk (List.replicate n ⟨0,0,false,0,0,0⟩):=by
 induction n with
 |zero=>rfl
 |succ n a=>
  have e:ng [.i 0,.i 0,.t false,.i 0,.i 0,.i 0] (n+1)=[.i 0,.i 0,.t false,.i 0,.i 0,.i 0]++ng [.i 0,.i 0,.t false,.i 0,.i 0,.i 0] n:=by simp[ng,mq]
  rw[e,a];rfl
theorem Ld.iI(j:Ld r h m v d f a l c e p g)(A:1<=g/\g<=1000000)(x:lX h m 10 b u ks kn)(y:nT kn p.aT.toNat B)(D:e.len=g):
 qS r h (aV m e.bq (e.off+0*1) [.pp (some (b,0))]) v d f a l c e p ((some kn)::List.replicate (g -1) none) B:=by
 have C:=j.rE.aS
 have t:e.cap≠0:=by have:=j.rE.le;omega
 have s:dZ (·=3) h m h (aV m e.bq (e.off+0*1) [.pp (some (b,0))]):=dZ.aV j.da.bI (j.rE.bq t).2 _ _
 have E:List.replicate g (none:Option (Nat×Nat))=none::List.replicate (g -1) none:=by
  rw[<-mq];congr 1;omega
 have z:=j.rE.eB (o:=0) (new:=[.pp (some (b,0))]) cG
 refine⟨j.da.Sd s cH,j.bT.congr (s.fL v j.bT.lt cG),j.j8,⟨some (b,0)::List.replicate (g -1) none,bO,?_,?_⟩,fj⟩
 .grind [jh]
 .intro i q F k n
  cases i with
  |zero=>
   simp at k n
   subst k;subst n
   exact⟨rfl,u,ks,x.gX s cH,y⟩
  |succ i=>
   simp only[jZ,List.getElem?_replicate]at k n
   split at k
   .rename_i w
    rw[ba w]at n
    simp at k n;subst k;subst n;trivial
   .cases k
end
section
noncomputable def UF (w:cV) (e:dP) (z:Nat) (L:aq):Option aq:=
 match e.cF[z]?,L[z]? with
 |some x,some (some kn)=>vR w e z x kn L
 |_,_=>some L
noncomputable def Yy (w:cV) (e:dP):Option aq:=VW (UF w e) (some (Ot e)::List.replicate (e.cF.length -1) none) e.cF.length
def acF(w:cV)(e:dP)(F:E)(s:N)(L:aq):Prop:=
 ∃K t v d f a l c B,qS K t F v d f a l c s e L B/\L.length=e.cF.length/\rj w e (MO L)/\Yy w e=some L
variable{K C H F M R:E}{t W h:ag}{v b s S q j u k:Nat}{d f a l c y A ks Y Z O:N}{w:cV}{e:dP}{L Q I:aq}{B P X:Int}{kn U T G:Kn}{x:Instr}{z:Int}
def Pm(ad:iF C d O w)(ok:gC w)(hp:w.cO[k]? =some e):
 bJ dN 33 [.agg #[d.v,O.v],vi k] C λaD F=>∃aq R,aD=.tuple #[aq.v,vb R]/\J C F/\(R=true->∃L,acF w e F aq L)/\(R=false->Yy w e=none):=by
 have ao:=ok.eN e (aZ hp)
 have aA:=ao.aT
 have aK:=ao.aS
 have aI:=bA hp
 have aL:=ad.cO.aS
 apply J9
 simp -zeta only[dU,iD]
 intro H
 obtain⟨x1,z1⟩:=pu H
 clear_value H
 refine(yN (ad.ext x1)).aO ?_
 rintro _ m2 ⟨W,f,sb,rfl,aj,aB,x2⟩
 have aj:=aj.2 ⟨ok.kQ,λq hq=>(ok.eN q hq).cR⟩
 obtain⟨rfl,hf⟩:=aB aj
 have z2:=x2.aP
 refine⟨x2.fq cG,W,f,sb,rfl,?_⟩
 intro m3 P
 have x4:J m2 P:=by grind [J.cZ,J.cw,J.aV]
 have z4:P.size=m2.size+1:=by grind [bD]
 clear_value P
 have ak:=(x1.O x2).O x4
 have h4:=ad.ext ak
 let⟨a,l,c,ia,il,ic,g0,g1,g2,g3,g4⟩:=h4.cO.D hp
 have ar:Vx P W f a l c w e:=⟨ok,aZ hp,h4.bQ,oP.ext x4 hf,ia,il,ic⟩
 have aF:=ia.aS
 have ac:=ic.aS
 have aG:Bs P (λ_=>0) P:=⟨di,λ_ _=>rfl,λ_ _=>rfl⟩
 refine⟨λxp M=>xp.2=0/\∃t y,Ld P t M xp.1 W f a l c y e e.cF.length/\y.len=e.cF.length,⟨V,V,a,g0,l,g1,_,g2,_,g3,c,g4,V,V,c,g4,⟨V,V,V,V,?_⟩,?_⟩,?_⟩
 .intro B
  obtain⟨K,z5⟩:=pu B
  have Y:dJ B P.size nF (ng [.pp none] c.len):=dJ.push P _ _
  clear_value B
  refine⟨K.db g0,K.db g1,K.db g2,K.db g3,K.db g4,bB (K.bC _ V) _,bB (K.bC _ V) _,bB (K.bC _ V) _,?_⟩
  intro N
  obtain⟨Q,z6⟩:=pu N
  have Z:dJ N B.size iX [.s .nil,.s .nil,.s .nil,.s .nil,.i 0,.i 0,.s .nil,.s .nil]:=dJ.push B _ _
  clear_value N
  refine⟨Q.db (K.aR g4),bB (Q.bC _ V) _,Q.db (K.aR g0),Q.db (K.aR g1),Q.db (K.aR g2),Q.db (K.aR g3),Q.db (K.aR g4),bB (Q.bC _ V) _,bB (Q.bC _ V) _,bB (Q.bC _ V) _,?_⟩
  intro S
  have X:J B S:=by grind [J.aV]
  have z7:S.size=N.size:=bD _ _ _ _
  have U:dJ S B.size iX [.s W,.s f,.s a,.s l,.i e.bL,.i e.aT,.s c,.s (.mk P.size 0 c.len c.len)]:=dJ.aV (m:=C) (o:=0) (r:=[.s W,.s f,.s a,.s l,.i e.bL,.i e.aT,.s c,.s (.mk P.size 0 c.len c.len)]) Z
  clear_value S
  refine⟨rfl,p7 (p7 (λ_=>0) P.size 3) B.size 4,.mk P.size 0 c.len c.len,⟨⟨K.O X,λb T=>by rw[fO V,fO V],λb T=>by rw[fO V,fO V]⟩,U,iP,⟨by simp[ac],bW,bG ⟨P.size,c.len,[],rfl,by rw[fO V,iP],?_,by simp[ac]⟩⟩⟩,by simp[ac]⟩
  grind [XC,dJ.ext]
 .intro B
  obtain⟨K,z5⟩:=pu B
  have Y:dJ B P.size iX [.s .nil,.s .nil,.s .nil,.s .nil,.i 0,.i 0,.s .nil,.s .nil]:=dJ.push P _ _
  clear_value B
  refine⟨K.db g4,bB (K.bC _ V) _,K.db g0,K.db g1,K.db g2,K.db g3,K.db g4,bB (K.bC _ V) _,bB (K.bC _ V) _,bB (K.bC _ V) _,V,V,V,V,?_⟩
  intro N
  obtain⟨Q,z6⟩:=pu N
  have Z:dJ N B.size nF (ng [.pp none] c.len):=dJ.push B _ _
  clear_value N
  refine⟨Q.db (K.aR g0),Q.db (K.aR g1),Q.db (K.aR g2),Q.db (K.aR g3),Q.db (K.aR g4),bB (Q.bC _ V) _,bB (Q.bC _ V) _,bB (Q.bC _ V) _,?_⟩
  intro S
  have X:J P S:=by grind [J.O,J.aV]
  have z7:S.size=N.size:=bD _ _ _ _
  have U:dJ S P.size iX [.s W,.s f,.s a,.s l,.i e.bL,.i e.aT,.s c,.s (.mk B.size 0 c.len c.len)]:=dJ.aV (m:=C) (o:=0) (r:=[.s W,.s f,.s a,.s l,.i e.bL,.i e.aT,.s c,.s (.mk B.size 0 c.len c.len)]) (Y.ext Q)
  have aa:dJ S B.size nF (ng [.pp none] c.len):=by grind [dJ.congr,cg]
  clear_value S
  refine⟨rfl,p7 (p7 (λ_=>0) P.size 4) B.size 3,.mk B.size 0 c.len c.len,⟨⟨X,λb T=>by rw[fO V,fO V],λb T=>by rw[fO V,fO V]⟩,U,by rw[fO V,iP],⟨by simp[ac],bW,bG ⟨B.size,c.len,[],rfl,iP,?_,by simp[ac]⟩⟩⟩,by simp[ac]⟩
  grind [XC]
 rintro⟨v,vo⟩ M ⟨ap,t,y,T,av⟩
 simp only at ap T
 subst ap
 have SM:∀{u N':E}{r1 r2:ag},Bs P r1 u->Bs P r2 N'->gL [m2.size,C.size] u N':=λb1 b2=>J.wL b1.da b2.da cG
 obtain⟨s,hn⟩:∃s,s=e.aT.toNat:=⟨_,rfl⟩
 refine⟨λfirst u=>∃t fb A ks kn,first=(fb,0)/\Ld P t u v W f a l c y e e.cF.length/\lX t u 10 fb A ks kn/\kn.aT.length=s,⟨_,T.bT.dz 5,_,T.bT.dz 5,⟨V,V,V,V,?_⟩,⟨V,V,V,V,?_⟩⟩,?_⟩
 .rw[<-hn]
  intro B
  obtain⟨K,z5⟩:=pu B
  have Y:dJ B M.size qY (ng [.i 0,.i 0,.t false,.i 0,.i 0,.i 0] s):=dJ.push M _ _
  clear_value B
  refine⟨K.db (T.bT.dz 5),V,V,V,V,?_⟩
  intro N
  obtain⟨Q,z6⟩:=pu N
  have Z:dJ N B.size bE (ng [.i 0] s):=dJ.push B _ _
  clear_value N
  refine⟨Q.db (K.aR (T.bT.dz 5)),?_⟩
  intro S
  obtain⟨X,z7⟩:=pu S
  have U:dJ S N.size zK [.s (.mk M.size 0 s s),.s (.mk B.size 0 s s)]:=dJ.push N _ _
  clear_value S
  have c5:dZ (λ_=>False) t M (p7 t M.size 10) B:=dZ.p7 K T.da.bI bW V 10
  have c6:dZ (λ_=>False) (p7 t M.size 10) B (p7 (p7 t M.size 10) B.size 10) N:=dZ.p7 Q c5.bI bW V 10
  have c7:=dZ.p7 (p:=λ_=>False) X c6.bI (AT N.size) V 10
  refine⟨p7 (p7 (p7 t M.size 10) B.size 10) N.size 10,N.size,.mk M.size 0 s s,.mk B.size 0 s s,⟨List.replicate s ⟨0,0,false,0,0,0⟩,List.replicate s 0⟩,rfl,T.gX ((c5.O c6).O c7) ⟨id,id,id⟩,⟨U,iP,⟨by simp[uJ],bW,bG ⟨M.size,s,[],rfl,by rw[fO V,fO V,iP],?_,by simp[uJ]⟩⟩,⟨bO,bW,bG ⟨B.size,s,[],rfl,by rw[fO V,iP],?_,bO⟩⟩,fj,bO⟩,bO⟩
  .grind [U8,dJ.ext,J.O]
  grind [sP,eQ,dJ.ext]
 .rw[<-hn]
  intro B
  obtain⟨K,z5⟩:=pu B
  have Y:dJ B M.size bE (ng [.i 0] s):=dJ.push M _ _
  clear_value B
  refine⟨K.db (T.bT.dz 5),V,V,V,V,?_⟩
  intro N
  obtain⟨Q,z6⟩:=pu N
  have Z:dJ N B.size qY (ng [.i 0,.i 0,.t false,.i 0,.i 0,.i 0] s):=dJ.push B _ _
  clear_value N
  refine⟨Q.db (K.aR (T.bT.dz 5)),?_⟩
  intro S
  obtain⟨X,z7⟩:=pu S
  have U:dJ S N.size zK [.s (.mk B.size 0 s s),.s (.mk M.size 0 s s)]:=dJ.push N _ _
  clear_value S
  have c5:dZ (λ_=>False) t M (p7 t M.size 10) B:=dZ.p7 K T.da.bI bW V 10
  have c6:dZ (λ_=>False) (p7 t M.size 10) B (p7 (p7 t M.size 10) B.size 10) N:=dZ.p7 Q c5.bI bW V 10
  have c7:=dZ.p7 (p:=λ_=>False) X c6.bI (AT N.size) V 10
  refine⟨p7 (p7 (p7 t M.size 10) B.size 10) N.size 10,N.size,.mk B.size 0 s s,.mk M.size 0 s s,⟨List.replicate s ⟨0,0,false,0,0,0⟩,List.replicate s 0⟩,rfl,T.gX ((c5.O c6).O c7) ⟨id,id,id⟩,⟨U,iP,⟨by simp[uJ],bW,bG ⟨B.size,s,[],rfl,by rw[fO V,iP],?_,by simp[uJ]⟩⟩,⟨bO,bW,bG ⟨M.size,s,[],rfl,by rw[fO V,fO V,iP],?_,bO⟩⟩,fj,bO⟩,bO⟩
  .grind [U8,dJ.ext]
  grind [sP,eQ,dJ.ext,J.O]
 clear T t M
 rintro _ M ⟨t,fb,A,ks,kn,rfl,T,af,ax⟩
 have aM:=af.IC
 have aJ:=af.Xd
 refine⟨A,af.jy.1,ik (n:=s) V (λj u=>∃h K,Ld P h u v W f a l c y e e.cF.length/\lX h u 10 fb A ks K/\MN e s 0 j K) ⟨t,kn,T,af,⟨ax,V,V,V⟩⟩ ?_⟩
 rintro j u al μ hj ⟨h,K,N,S,X⟩ aa
 have an:=X.aS
 have aw:=S.yo
 refine⟨λB=>?_,λB=>?_⟩
 .have B:j<s:=cG
  refine⟨A,S.jy.1,ks,S.jy.2,(xu (e:=u)).aO ?_⟩
  rintro _ N2 ⟨rfl,x3⟩
  have c3:dZ (λ_=>False) h u h N2:=dZ.fV x3 N.da.bI
  have Y:=N.gX c3 ⟨id,id,id⟩
  have K3:=S.ext x3
  refine⟨SM N.da Y.da,-1,0,false,-1,-1,-1,rfl,by first|exact x3.db S.jy.1|exact x3.db S.jy.2,by first|exact x3.db S.jy.2|exact x3.db S.jy.1,V,V,by have:=K3.wr (i:=j) (o:=0) (n:=6) V V V;simpa using this,?_⟩
  intro Z
  have K4:lX h Z 10 fb A ks (K.tn j λ_=>yr):=by
   have:=K3.cB (i:=(j:Int)) (o:=0) (new:=[.i (-1),.i 0,.t false,.i (-1),.i (-1),.i (-1)]) (g:=λ_=>yr) V V bO rfl;grind
  have c4:dZ (·=10) h N2 h Z:=K3.ql c3.bI _
  have Q:=Y.gX c4 cH
  clear_value Z
  refine⟨SM Y.da Q.da,V,V,by have:=K4.wrK (i:=j) V cG;rwa[iD]at this,?_⟩
  intro N4
  have K5:lX h N4 10 fb A ks {(K.tn j λ_=>yr)with eG:=gT (K.tn j λ_=>yr).eG j (-1)}:=by
   grind [lX.acV]
  have c5:dZ (·=10) h Z h N4:=K4.Se c4.bI _ _
  have V5:=Q.gX c5 cH
  exact⟨SM Q.da V5.da,aa B _ ⟨h,_,V5,K5,X.s1 B V⟩⟩
 have ej:j=s:=cG
 subst ej
 clear aa B
 refine⟨a,N.bT.dz 2,ik (n:=e.aX.length) V (λq u=>∃h K,Ld P h u v W f a l c y e e.cF.length/\lX h u 10 fb A ks K/\MN e j q j K) ⟨h,K,N,S,X⟩ ?_⟩
 clear N S X an aw h K u
 rintro q u al μ hq ⟨h,K,N,S,X⟩ aa
 have an:=X.aS
 refine⟨λB=>?_,λB=>?_⟩
 .have B:q<e.aX.length:=cG
  let⟨ab,ht⟩:=dY e.aX q
  have ae:D e.aX q=ab:=by
   grind [jG,Int.toNat_natCast,Option.some.inj]
  have e0:K.r q=yr:=cG
  refine⟨V,V,ab,N.da.da.aR (ia.D ht),A,S.jy.1,V,V,l,N.bT.dz 3,(lp (il.ext N.da.da) q).aO ?_⟩
  rintro _ N2 ⟨R,rfl,hr,x3⟩
  have c3:dZ (λ_=>False) h u h N2:=dZ.fV x3 N.da.bI
  have Y:=N.gX c3 ⟨id,id,id⟩
  have K3:=S.ext x3
  have ai:R=decide ((q:Int)∈e.cR):=by cases R<;>simp_all
  refine⟨SM N.da Y.da,R,rfl,by have:=K3.wr (i:=q) (o:=0) (n:=1) V V V;simpa using this,?_⟩
  intro Z
  have K4:lX h Z 10 fb A ks (K.tn q λR=>{R with lD:=ab}):=by
   have:=K3.cB (i:=(q:Int)) (o:=0) (new:=[.i ab]) (g:=λR=>{R with lD:=ab}) V V bO rfl;grind
  have c4:dZ (·=10) h N2 h Z:=K3.ql c3.bI _
  have Q:=Y.gX c4 cH
  clear_value Z
  refine⟨SM Y.da Q.da,by have:=K4.wr (i:=q) (o:=2) (n:=1) V cG V;rwa[iD]at this,?_⟩
  intro N4
  have K5:lX h N4 10 fb A ks (K.tn q λU=>{U with lD:=ab,cR:=R}):=by
   have:=K4.cB (i:=(q:Int)) (o:=2) (new:=[.t R]) (g:=λU=>{U with cR:=R}) V cG bO rfl;grind [Bm]
  have c5:dZ (·=10) h Z h N4:=K4.ql c4.bI _
  have V5:=Q.gX c5 cH
  clear_value N4
  have j7:¬(ab≠0/\R=false)->lX h N4 10 fb A ks (K.tn q λ_=>PW e q):=λah=>by
   rw[Ou (l:=λU=>{U with lD:=ab,cR:=R}) V V ?_]
   .exact K5
   .rw[e0];unfold PW yr;grind
  refine⟨SM Q.da V5.da,λe1=>⟨R,?_,λe2=>?_,λe2=>aa B _ ⟨h,_,V5,j7 (λhc=>by rw[hc.2]at e2;cases e2),X.s2⟩⟩,λe1=>aa B _ ⟨h,_,V5,j7 (λhc=>hc.1 cG),X.s2⟩⟩
  .obtain⟨_,_,w2,_⟩:=K5.dz (i:=q) V cG
   grind [SG,Int.toNat_natCast]
  .refine⟨by have:=K5.wr (i:=q) (o:=1) (n:=1) V cG V;rwa[iD]at this,?_⟩
   intro N5
   have K6:lX h N5 10 fb A ks (K.tn q λU=>{U with lD:=ab,cR:=R,bF:=1}):=by
    have:=K5.cB (i:=(q:Int)) (o:=1) (new:=[.i 1]) (g:=λU=>{U with bF:=1}) V cG bO rfl;grind [Bm]
   have c6:dZ (·=10) h N4 h N5:=K5.ql c5.bI _
   have V6:=V5.gX c6 cH
   have K7:lX h N5 10 fb A ks (K.tn q λ_=>PW e q):=by
    rw[Ou (l:=λU=>{U with lD:=ab,cR:=R,bF:=1}) V V ?_]
    .exact K6
    .grind [PW,yr]
   exact⟨SM V5.da V6.da,aa B _ ⟨h,_,V6,K7,X.s2⟩⟩
 have eq:q=e.aX.length:=cG
 subst eq
 clear aa B
 have aH:y.cap≠0:=by have:=N.rE.le;omega
 have Y:=N.iI V S (hn▸X.ok) av
 have w0:=X.cz hn.symm cG V
 have ek:=X.eq hn.symm cG V
 refine⟨y,N.bT.dz 7,V,V,by have:=N.rE.wr (o:=0) (n:=1) cG;simpa using this,?_⟩
 intro N2
 change qS P h N2 v W f a l c y e _ 1 at Y
 clear_value N2
 refine⟨SM N.da Y.da,c,Y.bT.dz 6,ik (n:=e.cF.length) V (λq u=>∃ai L,qS P ai u v W f a l c y e L (1+3*(q:Int))/\L.length=e.cF.length/\WC L 0 (Ot e)/\VW (UF w e) (some (Ot e)::List.replicate (e.cF.length -1) none) q=some L/\∀(z:Nat) kn x,z<q->L[z]? =some (some kn)->e.cF[z]? =some x->Hy w e L z x kn)
  ⟨h,_,Y.aO V,fj,⟨dR 0,K,rfl,w0⟩,by rw[ek];rfl,V⟩ ?_⟩
 rintro q Z al μ hq ⟨ai,L,Q,hL,h0,ah,hs⟩ aa
 refine⟨λB=>?_,λB=>?_⟩
 .have B:q<e.cF.length:=cG
  let⟨au,hQ,hA,hC⟩:=Q.kG
  let⟨qc,az⟩:=dY au q
  let⟨ae,ho⟩:=dY L q
  have am:=hC q qc ae az ho
  have gq:aR Z y.bq (y.off+q*1)=some (Ce.v (.pp qc)):=by
   have:=hA.kV q (.pp qc) cG;grind
  refine⟨y,Q.bT.dz 7,V,V,qc,gq,λe1=>?_,λe1=>?_⟩
  .obtain⟨ab,rfl⟩:∃ab,ae=some ab:=by
    cases qc with
    |none=>simp at e1
    |some aE=>cases ae with
     |none=>exact am.elim
     |some ab=>exact⟨ab,rfl⟩
   let⟨x,hx⟩:=dY e.cF q
   refine(vQ ar Q V hL ho hx).aO ?_
   rintro _ N4 ⟨R,aC,rfl,c4,hr,ay⟩
   have eF:UF w e q L=vR w e q x ab L:=by grind [UF]
   have b4:=Q.da.Sd c4 V
   refine⟨SM Q.da b4,R,rfl,λe2=>⟨_,false,rfl,ak.O b4.da,λad=>(by cases ad),λ_=>Po (s:=q+1) (by rw[vk ah,eF];exact ay cG) V⟩,λe2=>?_⟩
   let⟨I,V5,lw,st,w3⟩:=hr cG
   refine aa B _ ⟨aC,I,V5.aO V,lw.aS.trans hL,h0.aO lw,by rw[vk ah,eF,w3],λz G U hi h1 h2=>?_⟩
   by_cases ei:z=q
   .grind
   .rw[lw.bC z V]at h1
    exact(hs z G U V h1 h2).aO lw
  .have ay:ae=none:=by
    cases qc with
    |some aE=>simp at e1
    |none=>cases ae with
     |none=>rfl
     |some ab=>exact am.elim
   refine aa B _ ⟨ai,L,Q.aO V,hL,h0,by
    rw[vk ah];unfold UF;rw[ho,ay];cases e.cF[q]? <;>rfl,λz G U hi h1 h2=>?_⟩
   grind
 .have eq:q=e.cF.length:=cG
  exact⟨y,Q.bT.dz 7,y,true,rfl,ak.O Q.da.da,λ_=>⟨L,P,ai,v,W,f,a,l,c,_,Q,hL,aaz Q h0 aA.2.1 λz kn x h1 h2=>hs z kn x cG h1 h2,by unfold Yy;have U:=ah;rw[eq]at U;exact U⟩,λB=>by cases B⟩
end
section
variable{m:E}{d p:N}{a:cV}
def R8(a:cV):Prop:=∀p∈a.cO,∃L,Yy a p=some L/\rj a p (MO L)
noncomputable def ado (a:cV) (n:Nat):Nat->Option Kn:=MO ((Yy a (dy a n)).getD [])
def R8.Ss(h:R8 a)(n:Nat)(p:dP)(b:a.cO[n]? =some p):rj a p (ado a n):=by
 let⟨L,e,f⟩:=h p (aZ b);have:dy a n=p:=by simp[dy,b]
 grind [ado]
def Ln(h:iF m d p a):bJ dN 11 [.agg #[d.v,p.v]] m λK D=>∃b,K=vb b/\J m D/\(b=true->gC a/\R8 a)/\(b=false->¬(gC a/\R8 a)):=by
 apply Gm;simp -zeta only[dU];intro x;obtain⟨y,z1⟩:=pu x;clear_value x;refine(sD (h.ext y)).aO ?_;rintro _ E ⟨b,rfl,w,q⟩;have t:=y.O q;have S:=q.aP;refine⟨q.fq fj,b,rfl,λe=>⟨false,rfl,t,λh=>(by cases h),λ_ g=>nb w e g.1⟩,λe=>?_⟩;have o:=yb w e;have Q:=h.cO.aS;have O:=o.kQ.aS;refine ik (n:=a.cO.length) V (λk M=>J E M/\∀i p,i<k->a.cO[i]? =some p->∃L,Yy a p=some L/\rj a p (MO L)) ⟨di,V⟩ ?_;rintro k M N μ P ⟨s,v⟩ F
 have X:=t.O s;refine dit (λe=>?_) λe=>?_
 .let⟨G,l⟩:=dY a.cO k;refine(Pm (h.ext X) o l).aO ?_;rintro _ R ⟨I,H,rfl,r,B,C⟩;refine⟨r.fq (by have:=s.aP;simp;omega),I,H,rfl,λf=>⟨false,rfl,X.O r,λh=>(by cases h),λ_ g=>?_⟩,λf=>F V _ ⟨s.O r,λi p j c=>?_⟩⟩
  .obtain⟨L,u,_⟩:=g.2 G (aZ l);rw[C (sp f)]at u;cases u
  .by_cases z:i=k
   .subst z;rw[l]at c;cases c;obtain⟨L,_,_,_,_,_,_,_,_,_,_,_,A,u⟩:=B (sp f);exact⟨L,u,A⟩
   .exact v i p V c
 .exact⟨true,rfl,X,λ_=>⟨o,λp c=>by
   let⟨i,j⟩:=cX.1 c;exact v i p (oh (bA j)) j⟩,λh=>by cases h⟩
end
section
variable{k:Kn}{b j r:Int}{m:ab}{h:ah}
inductive Out(a:cV):ak->ak->Int->Int->Prop
 |nil (d:Int):Out a [] [] d d
 |fL {c n:ak} {q:bS} {e:Int} (d:Int):Out a c n q.br e->Out a (c++[q]) (n++[{q with br:=e}]) d d
 |drop {c n:ak} {q:bS} {d e:Int}:BB (dy a q.fY).cF q.pc.toNat d->Out a c n q.br e->Out a (c++[q]) n d e
inductive AU(a:cV):St->St->Prop
 |MC {s:St} {c n:ak} {f:bS} {e:Int}:s.bn=c++[f]->Out a c n f.br e->AU a s {s with bn:=n++[{f with br:=e}]}
 |done {s:St}:s.bn=[]->AU a s s
 |ret {s:St} {c n:ak} {p g:bS} {r:Int}:s.dT=3->s.bn=c++[p]->Out a c n p.br g.br->BB (dy a p.fY).cF p.pc.toNat r->(bH (fC a) g).op=23->D g.aT (D (bH (fC a) g).aN 0)=D p.aT r->
  DG (bV g.aT g.bF (bY (fC a) (bH (fC a) g)))->DG g.cQ->AU a s {s with bn:=n++[g]}
variable{a:cV}{s u:St}{rL:Nat->Nat->Option Kn}{c n:ak}{f:bS}{p:dP}{x:Instr}{bF:ab}{e:Int}
def Out.aS{d e:Int}(h:Out a c n d e):n.length<=c.length:=by
 induction h with
 |nil=>exact bW
 |fL _ _ b=>simp;omega
 |drop _ _ b=>simp;omega
def AU.aS(h:AU a s u):u.bn.length<=s.bn.length:=by
 cases h with
 |MC b o=>have:=o.aS;simp[b];omega
 |done b=>exact bW
 |ret _ b o=>have:=o.aS;simp[b];omega
def AU.eqs(h:AU a s u):u={s with bn:=u.bn}:=by cases h<;>rfl
open Classical in
def y9(g:s.dT=3)(b:s.bn=c++[f]):ns a s=if me (bH a f).op/\s.df=s.dG then{s with dT:=1}else
 if iR a s f (bH a f) (bV f.aT f.bF (bY a (bH a f)))then dI a s c f (bH a f) (bV f.aT f.bF (bY a (bH a f)))else{s with dT:=2}:=by
 have d:s.bn.getLast?=some f:=by rw[b];simp
 have e:s.bn.dropLast=c:=by rw[b];simp
 unfold ns
 rw[aU V,d,e]
def Ur{k:Nat}(i:kL a p k x)(h:x.op≠23):∃(r:St)(g:bS)(m:ak),dI a s c f x bF={r with bn:=c++g::m}/\g.br=f.br/\(m=[]\/∃b,m=[b])/\∀(G n:ak)(e:Int),dI a {s with bn:=G} n {f with br:=e} x bF={r with bn:=n++{g with br:=e}::m}:=by
 have j:x.op=0\/(x.op=1\/x.op=2\/x.op=3\/x.op=4)\/x.op=5\/x.op=6\/x.op=10\/x.op=14\/x.op=15\/(x.op=16\/x.op=17)\/x.op=18\/x.op=19\/x.op=20\/x.op=21\/x.op=22\/x.op=9\/x.op=24\/x.op=11:=gA λ_=>by
  simp(disch:=omega) only[kL,aU]at i
 refine⟨dI a s c f x bF,?_⟩;rcases fP (x.cY≠0/\D f.cQ (x.cY -1)≠0)with b|b<;>rcases fP ((bt s.aQ (D f.aT (D x.aN 0))).ct=1/\x.op=17)with d|d<;>rcases j with e|e|e|e|e|e|e|e|e|e|e|e|e|e|e|e<;>first
  |(exfalso;omega)
  |(simp(disch:=omega) only[dI,aU,ba];first
   |exact⟨_,[],rfl,rfl,bu rfl,λ_ _ _=>rfl⟩
   |exact⟨_,_,rfl,rfl,bG ⟨_,rfl⟩,λ_ _ _=>rfl⟩)
def Nj(h:x.op=23):dI a s c f x bF=match c.getLast? with
 |none=>{s with dT:=0,je:=D f.aT (D x.aN 0),bn:=[]}
 |some q=>{s with bn:=c.dropLast++[q.cB f.br (D f.aT (D x.aN 0)) (gE (D f.aT (D x.aN 0)))]}:=by
 simp(disch:=omega) only[dI,aU]
 cases c.getLast?<;>rfl
def acG{n:Int}(d:0<=j)(a:0<=b)(h:b≠j):(k.gZ j n).r b=k.r b:=by unfold Kn.gZ;rw[HM d a,aU λc=>h c.1]
def FG(c:0<=j)(a:0<=b)(h:b≠j):(fJ k [j]).r b=k.r b:=by
 simp only[fJ];split
 .rfl
 .exact acG c a h
theorem WO(d:Int)(r:tj):(tm d r).bF=r.bF:=by unfold tm;split<;>rfl
theorem SJ(h:m.length=1):m=[D m 0]:=by
 let⟨v,a⟩:=xY.1 h;rw[a];rfl
def aan{rL:Nat->Option Kn}(z:ny a p)(s:rj a p rL){k:Nat}(t:BB p.cF k r):∀kn,rL k=some kn->(∀b,0<=b->b≠r->(kn.r b).bF<=0)/\∀C∈kn.eG,C<0:=by
 induction t with
 | @ym k r x g e t w=>
  intro kn n;let⟨A,c,v⟩:=s.ns k x kn g n V;unfold vF at c;rw[ba e]at c;let⟨y,b1,b2⟩:=v x.cE (by unfold tp;rw[ba e];simp);let⟨h,f⟩:=w y b1;subst c;exact⟨λb d m=>by rw[<-b2.bF b d];exact h b d m,by rw[<-b2.eG];exact f⟩
 | @move k r x g e q t w=>
  intro kn n;let⟨A,c,v⟩:=s.ns k x kn g n V;unfold vF at c;simp only[]at c;simp(disch:=omega) only[aU,ba]at c;obtain⟨-,-,hd,rfl⟩:=c;let⟨y,b1,b2⟩:=v (k+1) (by unfold tp;rw[aU V,aU V,aU V,aU V];simp);let⟨h,f⟩:=w y b1;have I:=z.eN k x g;have o:=I.op;unfold kL at o;rw[aU V,aU V,ba V]at o;have j:=I.aN _ (gS (l:=x.aN) (i:=0) V V);rw[q]at hd b2 j;have D:=s.aS k kn n;have B:0<=x.br/\x.br<(fJ kn [r]).aT.length:=by rw[wV];have:=I.br;omega
  refine⟨λb d m=>?_,?_⟩
  .by_cases u:b=x.br
   .rw[<-FG (k:=kn) j.1 d m,u];exact hd
   .have:=h b d u;rw[b2.bF b d,P7 B d,aU u,WO,FG j.1 d m]at this;exact this
  .rw[b2.eG]at f;have:(fJ kn [r]).eG=kn.eG:=pb _ _;rw[<-this];exact f
 | @ret k r x g e q=>
  intro kn n;obtain⟨A,c,-⟩:=s.ns k x kn g n V;unfold vF at c;simp only[]at c;simp(disch:=omega) only[aU]at c;obtain⟨v,-,-,-,c⟩:=c;rw[ba (bu e)]at c;obtain⟨h,f,-⟩:=c;have I:=z.eN k x g;have o:=I.op;unfold kL at o;rw[aU V,aU V,ba V]at o;have u:bY a x=[r]:=by rw[<-q,<-SJ o.1];unfold bY;rw[ba V]
  have j:=I.aN _ (gS (l:=x.aN) (i:=0) V V);rw[q]at j;rw[u]at h f;exact⟨λb d m=>by rw[<-FG (k:=kn) j.1 d m];exact h b d,by rw[pb]at f;exact f⟩
def XB(h:∀b,0<=b->D m b<=0)(d:∀o∈m,0<=o):DG m:=λo a=>by
 let⟨b,c⟩:=cX.1 a;have:=h b V;rw[WH c]at this;have:=d o a;omega
def RU(F:FW a h c f k)(g:f.cQ.length=f.aT.length)(e:∀n∈k.eG,n<0):DG f.cQ:=λo i=>by
 let⟨b,d⟩:=cX.1 i;have j:=bA d;have:=F.kp b V (e _ (gS V (by rw[F.yo,F.aS,<-g];omega)));rw[WH d]at this;exact this
def FW.UR(F:FW a h c f k){d:Int}(i:0<=d/\d<f.aT.length/\d<f.bF.length)(j:0<=(k.r d).lD):∀b,0<=b->(fJ k [d]).r b={k.r b with bF:=D (bV f.aT f.bF [d]) b}:=
 KX [d] k f.bF F.bF (λr g=>by simp at g;subst g;rw[F.aS];exact i) λr g=>by
  simp at g;subst g;rcases Dv 0 (k.r r).lD with e|e
  .exact bG ⟨V,F.SU r i.1 e⟩
  .exact bu ⟨V,F.pS r i.1 V⟩
def acJ(Q:∀(y:Nat)(p:dP),a.cO[y]? =some p->rj a p (rL y))(O:eM a s)(G:VS a rL s)(J:s.bn=c++[f])(H:BB (dy a f.fY).cF f.pc.toNat r):
 iR a s f (bH a f) (bV f.aT f.bF (bY a (bH a f)))/\((bH a f).op=22/\bY a (bH a f)=[]/\BB (dy a f.fY).cF (bH a f).cE.toNat r\/(bH a f).op=18/\D (bH a f).aN 0=r/\BB (dy a f.fY).cF (f.pc.toNat+1) (bH a f).br\/(bH a f).op=23/\D (bH a f).aN 0=r):=by
 have j:fX a f:=by grind [eM.bn]
 let⟨p,L,w,X,u,t⟩:=j.Aj O.gW
 let⟨k,S,F⟩:=G.jz c f J
 have Ss:=Q _ p L
 rw[w]at H⊢
 generalize bH a f=x at*
 have W:=j.lr;have U:=j.lo
 rw[w]at W U
 have E:=t.op
 unfold kL at E
 have Eh:x.op=22/\BB p.cF x.cE.toNat r\/x.op=18/\D x.aN 0=r/\BB p.cF (f.pc.toNat+1) x.br\/x.op=23/\D x.aN 0=r:=by
  cases H with
  |ym d n g=>rw[u]at d;cases d;exact bu ⟨n,g⟩
  |move d n g o=>rw[u]at d;cases d;exact bG (bu ⟨n,g,o⟩)
  |ret d n g=>rw[u]at d;cases d;exact bG (bG ⟨n,g⟩)
 have N:∀{m:ab},(∀b:Nat,b<m.length->0<=D m b)->∀z∈m,0<=z:=λh z T=>by
  let⟨b,v⟩:=cX.1 T;have:=h b (bA v);rw[WH v]at this;exact this
 let⟨Y,g,K⟩:=Ss.ns _ x k u S V
 unfold vF at g;simp only[]at g
 rcases Eh with⟨e,b1⟩|⟨e,C,b1⟩|⟨e,C⟩
 .have q:bY a x=[]:=by unfold bY;rw[aU V,aU V,aU V]
  rw[q]
  exact⟨⟨j.Nd,λh=>by unfold kM at h;omega,λh=>V,λh=>V,λh=>V,λh=>V,λh=>V,λh=>V,λh=>V,λh=>V,λh=>V,λh=>V,λh=>V⟩,bu ⟨e,rfl,b1⟩⟩
 .simp(disch:=omega) only[aU,ba]at g
  obtain⟨I,d,n,-⟩:=g
  rw[aU V,aU V,ba V]at E
  have o:=t.aN _ (gS (l:=x.aN) (i:=0) V V)
  have q:bY a x=[D x.aN 0]:=by grind [SJ,bY]
  have R:=F.UR ⟨o.1,V,V⟩ I
  rw[q]
  have hd:=t.br
  refine⟨⟨N λb v=>?_,λ_=>?_,λh=>V,λh=>V,λh=>V,λh=>V,λh=>V,λh=>V,λh=>V,λh=>V,λh=>V,λh=>V,λh=>V⟩,bG (bu ⟨e,C,b1⟩)⟩
  .by_cases A:(b:Int)=D x.aN 0
   .grind
   .have:=R b V
    rw[FG o.1 V A]at this
    have B:(k.r b).bF=D (bV f.aT f.bF [D x.aN 0]) b:=by rw[this]
    rw[<-B,F.bF b V];exact TO j.Nd b
  grind
 .simp(disch:=omega) only[aU]at g
  obtain⟨aa,n,d,-,g⟩:=g
  rw[ba (bu e)]at g
  unfold ux at n
  rw[aU V,ba e]at n
  rw[aU V,aU V,ba V]at E
  have P:=gS (l:=x.aN) (i:=0) V V
  have o:=t.aN _ P
  have q:bY a x=[D x.aN 0]:=by grind [SJ,bY]
  have ac:(k.r (D x.aN 0)).lD=p.bL:=by
   have:=Ci (k:=k) (jG (l:=x.aN) (i:=0) V V);grind
  have r0:=(O.gW.kQ.eN p (aZ L)).2.2.1
  have R:=F.UR ⟨o.1,V,V⟩ V
  rw[q]at g d⊢
  have M:∀z∈bV f.aT f.bF [D x.aN 0],0<=z:=N λb v=>by
   by_cases A:(b:Int)=D x.aN 0
   .grind [List.mem_singleton]
   .have:=R b V;rw[FG o.1 V A]at this;have B:(k.r b).bF=D (bV f.aT f.bF [D x.aN 0]) b:=by rw[this]
    rw[<-B,F.bF b V];exact TO j.Nd b
  have B:=j.lh
  rw[w]at B
  refine⟨⟨M,λh=>by unfold kM at h;omega,λh=>V,λh=>V,λh=>V,λ_=>⟨XB (λb I=>?_) M,RU F V λy K=>g.2.1 y (by rw[pb];exact K)⟩,λ_=>?_,λh=>V,λh=>V,λh=>V,λh=>V,λh=>V,λh=>V⟩,bG (bG ⟨e,C⟩)⟩
  .grind
  .cases c with
   |cons Z m=>left;rw[J];simp
   |nil=>
    right
    have:=G.first f cG
    rw[w]at this
    exact F.pS _ o.1 V
def ZW(b:fX a f){e:Int}:bH (fC a) {f with br:=e}=rW (dy a f.fY).cF f.pc.toNat (bH a f):=by
 grind [dY,dy,fX.pc,bH,Gd,Jy]
def Xq{G:ak}(h:x.op≠23):iR a {s with bn:=G} {f with br:=e} x bF<->iR a s f x bF:=
 ⟨λb=>⟨b.nn,b.br,b.nL,b.jB,b.cR,b.mF,λc=>absurd c h,b.apply,b.WU,b.uD,b.Em,b.pL,b.sM⟩,
  λb=>⟨b.nn,b.br,b.nL,b.jB,b.cR,b.mF,λc=>absurd c h,b.apply,b.WU,b.uD,b.Em,b.pL,b.sM⟩⟩
theorem QG{y:Instr}(h:y.cE=x.cE):∀(m:ab)(k:Nat),iN a y k m=iN a x k m
 |[],_=>rfl
 |r::m,k=>by
  have e:js a y k=js a x k:=by grind [js]
  simp only[iN,e,QG h m]
def Pu{y:Instr}(h:y.cE=x.cE):∀(m:ab)(k:Nat),fe a y k m=fe a x k m
 |[],_=>rfl
 |r::m,k=>by
  have e:js a y k=js a x k:=by grind [js]
  simp only[fe,e,Pu h m]
end
section
variable{l:ab}
def YS(b d:cV)(c u:St):Prop:=∀a,UT a (Y4 d u).op (OO d u)=UT a (Y4 b c).op (OO b c)
def aa8(b:cV)(c t:St):Prop:=c.dT=3/\t.dT=3/\t.aQ=c.aQ/\∀a,UT a (Y4 b c).op (OO b c)=a
variable{b:cV}{c u:St}{rL:Nat->Nat->Option Kn}{i h:ak}{a:bS}{p:dP}{j:Instr}{bF:ab}{d:Int}
theorem Lj(d:c.bn=i++[a]):Y4 b c=bH b a:=by grind [Y4]
theorem zT(d:c.bn=i++[a]):OO b c=decide ((bH b a).op=6/\(bH b a).cY≠0/\D a.cQ ((bH b a).cY -1)≠0):=by grind [OO]
def Kf(g:c.dT=3)(f:c.bn=i++[a])(h:(bH b a).op=22\/(bH b a).op=18\/(bH b a).op=23){t:St}(d:t.dT=3)(e:t.aQ=c.aQ):aa8 b c t:=by
 constructor<;>grind [Lj,zT,UT]
def acI{i:Int}(h:D l i≠0):D l i∈l:=by
 grind [D]
theorem aa0(h:DG l)(i:Int):D l i=0:=gA λc=>c (h _ (acI c))
def aam(w:∀(n:Nat)(p:dP),b.cO[n]? =some p->rj b p (rL n))(s:eM b c)(t:VS b rL c)(B:c.bn=i++[a])(Q:(bH b a).op=9)(l:BB (dy b a.fY).cF (a.pc.toNat+1) (bH b a).br)
 (N:∀o∈bV a.aT a.bF (bY b (bH b a)),0<=o):DG (bV a.aT a.bF (bY b (bH b a)))/\DG a.cQ:=by
 have f:fX b a:=cG
 let⟨p,o,q,y,A,g⟩:=f.Aj s.gW
 let⟨k,z,F⟩:=t.jz i a B
 have Ss:=w _ p o
 rw[q]at l
 generalize bH b a=j at*
 have M:=f.lr;have L:=f.lo;have K:=f.lh
 rw[q]at M L K
 let⟨T,d,E⟩:=Ss.ns _ j k A z V
 unfold vF at d;simp only[]at d
 simp(disch:=omega) only[aU]at d
 obtain⟨U,I,-,-,d⟩:=d
 have H:kM j.op:=by grind [kM]
 have C:j.cY=0:=by have:=g.cY;omega
 rw[aU V]at d
 simp only[]at d
 rw[ba C,ba H]at d
 obtain⟨hd,rfl⟩:=d
 let⟨J,b1,b2⟩:=E (a.pc.toNat+1) (by unfold tp;rw[aU V,aU V,aU V,aU V];simp)
 let⟨z1,O⟩:=aan y Ss l J b1
 have m:∀r∈j.aN,0<=r/\r<k.aT.length/\r<a.bF.length:=λr e=>by have:=g.aN r e;rw[F.aS];omega
 have R:=KX (aT:=a.aT) (bY b j) k a.bF F.bF (λr e=>m r (qW e)) λr e=>by
  have x:=(m r (qW e)).1;have P:=Xz s.gW.kQ (aZ o) I _ (fu.2 ⟨r,qW e,rfl⟩);grind [Kn.r,FW.SU,FW.pS]
 have S:0<=j.br/\j.br<(fJ k (bY b j)).aT.length:=by rw[wV,F.aS];have:=g.br;omega
 refine⟨XB (λh x=>?_) N,RU F V λn G=>O n (by rw[b2.eG];show n∈(fJ k (bY b j)).eG;rw[pb];exact G)⟩
 have u:((fJ k (bY b j)).r h).bF=D (bV a.aT a.bF (bY b j)) h:=cG
 rw[<-u]
 by_cases v:h=j.br
 .rw[v];exact hd
 .grind [P7,WO]
def PZ(g:(bH b a).op=23)(f:c.dT=3)(e:c.bn=i++[a])(d:iR b c a (bH b a) (bV a.aT a.bF (bY b (bH b a)))):ns b c=match i.getLast? with
 |none=>{c with dT:=0,je:=D a.aT (D (bH b a).aN 0),bn:=[]}
 |some q=>{c with bn:=i.dropLast++[q.cB a.br (D a.aT (D (bH b a).aN 0)) (gE (D a.aT (D (bH b a).aN 0)))]}:=by
 rw[y9 f e,aU (by unfold me;omega),ba d,Nj g]
 all_goals cases i.getLast?<;>rfl
def SW(f:j.op=23)(z:DG bF)(e:DG a.cQ)(h:1<c.bn.length\/D a.aT (D j.aN 0)<1000):iR b c a j bF:=
 ⟨λo d=>by rw[z o d];exact dR _,λh=>by unfold kM at h;omega,λh=>V,λh=>V,λh=>V,λ_=>⟨z,e⟩,λ_=>h,λh=>V,λh=>V,λh=>V,λh=>V,λh=>V,λh=>V⟩
def adW(e:j.op=24)(f:∀o∈bF,0<=o)(d:tx b c.aQ a j)(z:DG bF/\DG a.cQ):iR b c a j bF:=
 by constructor<;>grind [kM]
theorem Wc{q:bS}{d w o:Int}(h:0<=d/\d<q.aT.length):D (q.cB d w o).aT d=w:=by
 show D (gT q.aT d w) d=w;grind [mO]
def ZR(fl:∀(L:Nat)(p:dP),b.cO[L]? =some p->rj b p (rL L))(H:eM b c)(Z:VS b rL c)(m:AU b c u):
 (AU b (ns b c) u/\aa8 b c (ns b c))\/(AU b (ns b c) (ns (fC b) u)/\(c.dT=3->YS b (fC b) c u)):=by
 by_cases j:c.dT=3
 case neg=>
  have hu:u.dT≠3:=by rw[m.eqs];exact j
  rw[o8 j,o8 hu]
  exact bG ⟨m,λm=>absurd m j⟩
 cases m with
 |done k=>exact absurd (H.cz.2 k) V
 | @MC i h a d k o=>
  have J:fX b a:=cG
  obtain⟨p,hp,ad,hP,ab,W⟩:=J.Aj H.gW
  have w:=ZW J (e:=d)
  have B:({c with bn:=h++[{a with br:=d}]}:St).bn=h++[{a with br:=d}]:=rfl
  by_cases Y:(bH b a).op=9/\BB (dy b a.fY).cF (a.pc.toNat+1) (bH b a).br
  · -- a call that is made a tail call
   obtain⟨n,E⟩:=Y
   unfold rW at w
   rw[ba ⟨n,E⟩]at w
   have N:bY (fC b) (bH (fC b) {a with br:=d})=bY b (bH b a):=by
    rw[w,Qy];unfold bY;simp only;simp(disch:=omega) only[aU,ba];grind [QG]
   refine bG ⟨?_,λ_ A=>?_⟩
   .rw[y9 j k,y9 (s:={c with bn:=h++[{a with br:=d}]}) j B,N,w]
    have G:me (bH b a).op:=bu n
    have I:me (24:Int):=bG (bG rfl)
    by_cases F:c.df=c.dG
    .rw[ba ⟨G,F⟩]
     refine Eq.mpr (jO (AU b _) (ba ⟨I,F⟩)) ?_
     exact AU.MC (s:={c with dT:=1}) k o
    rw[aU λA=>F A.2]
    refine Eq.mpr (jO (AU b _) (aU λA=>F A.2)) ?_
    have v:=Pu (a:=b) (y:={bH b a with op:=24,br:=0}) (x:=bH b a) rfl (bH b a).aN 0
    have z:tx b c.aQ a {bH b a with op:=24,br:=0}<->tx b c.aQ a (bH b a):=
     ⟨λm t j=>m t (show t∈fe b {bH b a with op:=24,br:=0} 0 (bH b a).aN by rw[v];exact j),λm t j=>m t (by
      have C:t∈fe b {bH b a with op:=24,br:=0} 0 (bH b a).aN:=j;rw[v]at C;exact C)⟩
    have C:iR (fC b) {c with bn:=h++[{a with br:=d}]} {a with br:=d} {bH b a with op:=24,br:=0} (bV a.aT a.bF (bY b (bH b a)))<->iR b c a (bH b a) (bV a.aT a.bF (bY b (bH b a))):=by
     constructor
     .intro M;refine⟨M.nn,λ_=>?_,λm=>V,λm=>V,λ_=>z.1 (va.1 (M.cR (bG rfl))),λm=>V,λm=>V,λm=>V,λm=>V,λm=>V,λm=>V,λm=>V,λm=>V⟩;grind [aa0]
     .intro M;have K:=aam fl H Z k n E M.nn;exact adW rfl M.nn (va.2 (z.2 (M.cR (bu n)))) K
    by_cases M:iR b c a (bH b a) (bV a.aT a.bF (bY b (bH b a)))
    .rw[ba M]
     refine Eq.mpr (jO (AU b _) (ba (C.2 M))) ?_
     have Q:dI b c i a (bH b a) (bV a.aT a.bF (bY b (bH b a)))={c with df:=c.df+1,bn:=(i++[{a with bF:=bV a.aT a.bF (bY b (bH b a)),pc:=a.pc+1}])++[cq b (bH b a).cE (bH b a).br (dO a (bH b a).aN)]}:=by
      simp(disch:=omega) only[dI,aU,ba];simp
     have p2:dI (fC b) {c with bn:=h++[{a with br:=d}]} h {a with br:=d} {bH b a with op:=24,br:=0} (bV a.aT a.bF (bY b (bH b a)))={c with df:=c.df+1,bn:=h++[cq b (bH b a).cE d (dO a (bH b a).aN)]}:=by
      rw[KV];simp(disch:=omega) only[dI,aU];rfl
     rw[Q,p2]
     have ac:=J.pc
     exact AU.MC (s:={c with df:=c.df+1,bn:=(i++[{a with bF:=bV a.aT a.bF (bY b (bH b a)),pc:=a.pc+1}])++[cq b (bH b a).cE (bH b a).br (dO a (bH b a).aN)]}) rfl (.drop (q:={a with bF:=bV a.aT a.bF (bY b (bH b a)),pc:=a.pc+1}) (by show BB (dy b a.fY).cF (a.pc+1).toNat (bH b a).br;rw[show(a.pc+1).toNat=a.pc.toNat+1 by omega];exact E) o)
    .rw[aU M]
     refine Eq.mpr (jO (AU b _) (aU λA=>M (C.1 A))) ?_
     exact AU.MC (s:={c with dT:=2}) k o
   .rw[Lj k,Lj B,zT k,zT B,w,n];simp[UT]
  unfold rW at w
  rw[aU Y]at w
  have N:bY (fC b) (bH (fC b) {a with br:=d})=bY b (bH b a):=by rw[w,Qy]
  have R:YS b (fC b) c {c with bn:=h++[{a with br:=d}]}:=λA=>by rw[Lj k,Lj B,zT k,zT B,w]
  by_cases v:(bH b a).op=23
  .have C:(1<c.bn.length\/D a.aT (D (bH b a).aN 0)<1000->1<(h++[{a with br:=d}]).length\/D a.aT (D (bH b a).aN 0)<1000)->iR b c a (bH b a) (bV a.aT a.bF (bY b (bH b a)))->
    iR (fC b) {c with bn:=h++[{a with br:=d}]} {a with br:=d} (bH b a) (bV a.aT a.bF (bY b (bH b a))):=λO M=>SW v (M.mF (bG v)).1 (M.mF (bG v)).2 (O (M.pU v))
   have ae:(1<(h++[{a with br:=d}]).length\/D a.aT (D (bH b a).aN 0)<1000->1<c.bn.length\/D a.aT (D (bH b a).aN 0)<1000)->iR (fC b) {c with bn:=h++[{a with br:=d}]} {a with br:=d} (bH b a) (bV a.aT a.bF (bY b (bH b a)))->
    iR b c a (bH b a) (bV a.aT a.bF (bY b (bH b a))):=λO M=>SW v (M.mF (bG v)).1 (M.mF (bG v)).2 (O (M.pU v))
   have nc:¬(me (bH b a).op/\c.df=c.dG):=by grind [me]
   have aa:¬iR b c a (bH b a) (bV a.aT a.bF (bY b (bH b a)))->¬iR (fC b) {c with bn:=h++[{a with br:=d}]} {a with br:=d} (bH b a) (bV a.aT a.bF (bY b (bH b a)))->AU b (ns b c) (ns (fC b) {c with bn:=h++[{a with br:=d}]}):=λn1 n2=>by
    rw[y9 j k,y9 (s:={c with bn:=h++[{a with br:=d}]}) j B,N,w,aU nc,aU n1];refine Eq.mpr (jO (AU b _) ((aU nc).trans (aU n2))) ?_;exact AU.MC (s:={c with dT:=2}) k o
   have S:=λM=>PZ (b:=b) (a:=a) v j k M
   have K:iR (fC b) {c with bn:=h++[{a with br:=d}]} {a with br:=d} (bH b a) (bV a.aT a.bF (bY b (bH b a)))->_:=λM=>PZ (b:=fC b) (a:={a with br:=d}) (c:={c with bn:=h++[{a with br:=d}]}) cG j B cG
   rw[w]at K
   generalize hd:a.br=I at o
   cases o with
   |nil I=>
    by_cases M:iR b c a (bH b a) (bV a.aT a.bF (bY b (bH b a)))
    .grind [AU.done]
    .grind
   | @fL G T z e0 I o=>
    by_cases M:iR b c a (bH b a) (bV a.aT a.bF (bY b (bH b a)))
    .refine bG ⟨?_,λ_=>R⟩
     rw[S M,K (C (λ_=>bu bO) M)]
     simp only[ui,qN,FL,uh]
     rw[<-hd]
     exact AU.MC (s:={c with bn:=G++[z.cB a.br (D a.aT (D (bH b a).aN 0)) (gE (D a.aT (D (bH b a).aN 0)))]}) rfl o
    .grind
   | @drop G T z I d E o=>
    by_cases M:iR b c a (bH b a) (bV a.aT a.bF (bY b (bH b a)))
    .left
     have n:=S M
     simp only[ui,qN,FL,uh]at n
     rw[n]
     have X:=H.tG G.length z a cG (by rw[k];simp)
     have P:=H.bn z cG
     have U:=P.lr;have h2:=P.lo
     refine⟨?_,Kf j k (bG (bG v)) j rfl⟩
     exact AU.ret (s:={c with bn:=G++[z.cB a.br (D a.aT (D (bH b a).aN 0)) (gE (D a.aT (D (bH b a).aN 0)))]}) (g:={a with br:=d}) (r:=a.br) j rfl o (hd▸E) cG (by rw[w,Wc ⟨X.1,V⟩]) cG (M.mF (bG v)).2
    .grind
  .refine bG ⟨?_,λ_=>R⟩
   rw[y9 j k,y9 (s:={c with bn:=h++[{a with br:=d}]}) j B,N,w]
   by_cases F:me (bH b a).op/\c.df=c.dG
   .rw[ba F]
    refine Eq.mpr (jO (AU b _) (ba F)) ?_
    exact AU.MC (s:={c with dT:=1}) k o
   rw[aU F]
   refine Eq.mpr (jO (AU b _) (aU F)) ?_
   by_cases M:iR b c a (bH b a) (bV a.aT a.bF (bY b (bH b a)))
   .rw[ba M]
    refine Eq.mpr (jO (AU b _) (ba (UQ.2 ((Xq v).2 M)))) ?_
    obtain⟨t,n,l,e1,S,e3,e4⟩:=Ur (s:=c) (c:=i) (bF:=bV a.aT a.bF (bY b (bH b a))) W.op v
    have e5:=e4 (h++[{a with br:=d}]) h d
    rw[e1]
    refine Eq.mpr (jO (AU b _) (KV.trans e5)) ?_
    rcases e3 with rfl|⟨L,rfl⟩
    .exact AU.MC (s:={t with bn:=i++[n]}) rfl (S▸o)
    .have C:=AU.MC (a:=b) (s:={t with bn:=(i++[n])++[L]}) (f:=L) rfl (Out.fL (q:=n) L.br (S▸o))
     simpa using C
   .rw[aU M]
    refine Eq.mpr (jO (AU b _) (aU λA=>M ((Xq v).1 (UQ.1 A)))) ?_
    exact AU.MC (s:={c with dT:=2}) k o
 | @ret i h p n t h3 k o E v Y S F=>
  have J:fX b p:=by grind [eM.bn]
  obtain⟨M,Eh⟩:=acJ fl H Z k E
  have ac:=J.pc
  have nc:¬(me (bH b p).op/\c.df=c.dG):=by unfold me;omega
  have C:=y9 (a:=b) j k
  rw[aU nc,ba M]at C
  obtain⟨q0,ae,ad,hP,ab,W⟩:=J.Aj H.gW
  rcases Eh with⟨d,N,b1⟩|⟨d,w,b1⟩|⟨d,w⟩
  .left
   have Q:ns b c={c with bn:=i++[{p with bF:=bV p.aT p.bF (bY b (bH b p)),pc:=(bH b p).cE}]}:=by
    rw[C];simp(disch:=omega) only[dI,aU,ba]
   rw[Q]
   exact⟨AU.ret (s:={c with bn:=i++[{p with bF:=bV p.aT p.bF (bY b (bH b p)),pc:=(bH b p).cE}]}) j rfl o b1 v Y S F,Kf j k (bu d) j rfl⟩
  .left
   have Q:ns b c={c with bn:=i++[bS.cB {p with bF:=bV p.aT p.bF (bY b (bH b p)),pc:=p.pc+1} (bH b p).br (D p.aT t) (gE (D p.aT t))]}:=by
    rw[C];unfold dI;simp only[];rw[aU V,aU V,aU V,aU V,aU V,aU V,aU V,aU V,ba d,w]
   rw[Q]
   have hd:=W.br
   have U:=J.lr
   rw[ad]at U
   refine⟨AU.ret (s:={c with bn:=i++[bS.cB {p with bF:=bV p.aT p.bF (bY b (bH b p)),pc:=p.pc+1} (bH b p).br (D p.aT t) (gE (D p.aT t))]}) (r:=(bH b p).br) j rfl o ?_ v ?_ S F,Kf j k (bG (bu d)) j rfl⟩
   .show BB (dy b p.fY).cF (p.pc+1).toNat (bH b p).br
    rw[show(p.pc+1).toNat=p.pc.toNat+1 by omega];exact b1
   grind [Wc]
  .rw[Nj d,w]at C
   have B:({c with bn:=h++[n]}:St).bn=h++[n]:=rfl
   have K:(1<(h++[n]).length\/D n.aT (D (bH (fC b) n).aN 0)<1000)->_:=λO=>PZ (b:=fC b) (a:=n) (c:={c with bn:=h++[n]}) v j B (SW v S F O)
   rw[Y]at K
   have R:YS b (fC b) c {c with bn:=h++[n]}:=λA=>by
    grind [Lj,zT]
   generalize hd:p.br=I at o
   generalize Q:n.br=d2 at o
   cases o with
   |nil I=>
    refine bG ⟨?_,λ_=>R⟩
    have aa:=M.pU d
    rw[w,k]at aa
    rw[C,K (aa.imp (λm=>by simp at m) id)]
    exact AU.done rfl
   | @fL G T z e0 I o=>
    refine bG ⟨?_,λ_=>R⟩
    rw[C,K (bu bO)]
    simp only[ui,qN,FL,uh]
    rw[hd,Q]
    exact AU.MC (s:={c with bn:=G++[z.cB I (D p.aT t) (gE (D p.aT t))]}) rfl o
   | @drop G T z I e1 E o=>
    left
    simp only[ui,qN,FL,uh]at C
    have X:=H.tG G.length z p cG (by rw[k];simp)
    have P:=H.bn z cG
    have U:=P.lr;have h2:=P.lo
    rw[C]
    refine⟨?_,Kf j k (bG (bG d)) j rfl⟩
    exact AU.ret (s:={c with bn:=G++[z.cB p.br (D p.aT t) (gE (D p.aT t))]}) (g:=n) (r:=p.br) j rfl (Q▸o) (hd▸E) v (by rw[Wc ⟨X.1,V⟩];exact Y) S F
end
section
variable{a:cV}{b u:St}{rL:Nat->Nat->Option Kn}{dG:Int}
def Qt(a:cV):∀(n k:Nat)(b:St),bz a (n+k) b=bz a n (bz a k b)
 |n,0,b=>rfl
 |n,k+1,b=>by rw[<-jP,bz,Qt a n k,bz]
def Wt:iI (fC a) dG=iI a dG:=by grind [iI,UP]
def Ys:AU a (iI a dG) (iI (fC a) dG):=by
 rw[Wt];exact AU.MC (s:=iI a dG) (c:=[]) (n:=[]) (f:=cq a 0 0 []) (e:=0) rfl (.nil 0)
def Xr(b:∀(n:Nat)(p:dP),a.cO[n]? =some p->rj a p (rL n))(c:gC a)(d:0<=dG/\dG<=40):∀n,∃k,k<=n/\AU a (bz a n (iI a dG)) (bz (fC a) k (iI (fC a) dG))
 |0=>⟨0,bW,Ys⟩
 |n+1=>by
  let⟨k,e,h⟩:=Xr b c d n;rw[uP];rcases ZR b (AP n (FE c d)) (VS.bz b c d n) h with⟨g,_⟩|⟨g,_⟩
  .exact⟨k,V,g⟩
  .exact⟨k+1,V,by rw[uP];exact g⟩
def aaN(c:∀(n:Nat)(p:dP),a.cO[n]? =some p->rj a p (rL n))(e:gC a)(f:0<=dG/\dG<=40){N:Nat}(g:(bz a N (iI a dG)).dT≠3):
 bz (fC a) N (iI (fC a) dG)={bz a N (iI a dG)with bn:=(bz (fC a) N (iI (fC a) dG)).bn}:=by
 let⟨k,i,h⟩:=Xr c e f N
 have b:=h.eqs
 have d:bz (fC a) N (iI (fC a) dG)=bz (fC a) k (iI (fC a) dG):=by
  obtain⟨j,rfl⟩:∃j,N=j+k:=⟨N -k,V⟩;rw[Qt,pK];rw[b];exact g
 rw[d];exact b
def ZX(f:∀(n:Nat)(p:dP),a.cO[n]? =some p->rj a p (rL n))(b:gC a)(c:0<=dG/\dG<=40):oR (fC a) dG=oR a dG:=by
 have d:=(KU b c).2.2;have e:nD (fC a) dG={nD a dG with bn:=(nD (fC a) dG).bn}:=by
  rw[wU]at d⊢;rw[wU];exact aaN f b c d
 unfold oR;rw[ba ⟨aaQ b,c⟩,ba ⟨b,c⟩,e]
end
section
section
open Tryz
variable{a:E}{R:ai}
def vm(b:N):=eO a R A0 [b] func3
end
variable{a:E}
def xB{cF:N}(h:JC a cF):bJ dN 3 [cF.v] a (LwR a):=by
 apply vm;simp(config:={maxSteps:=1000000}) -zeta only[dU];refine⟨λ_=>⟨rfl,di⟩,λ_=>?_⟩;refine(IF h).aO λ_ u⟨F,S,c,k,e,G,y⟩=>⟨F,S,k,e,?_⟩;have p:iF u F S c:=⟨G.bQ.le fG,kY.le fG G.cO⟩;intro m2 L;obtain⟨W,z3⟩:=pv L;clear_value L;refine(Ck (p.ext W) k).aO λ_ O⟨ae,e,H,A⟩=>⟨A.fq fj,_,_,_,ae,_,e,?_⟩;intro m5 P;obtain⟨Y,z6⟩:=pv P;clear_value P;have z4:=A.aP;have D:=(W.O A).O Y;refine(LO (p.ext D) k).aO λ_ Q⟨af,e,hw,r⟩=>⟨r.fq fj,_,_,_,af,_,e,?_⟩;intro m8 q;obtain⟨B,z9⟩:=pv q;clear_value q;have z7:=r.aP;have g:∀b∈[Q.size,O.size,u.size],b<q.size:=fj;have X:=(Y.O r).O B;have s:∀{M:E},J q M->_:=λ{M} x=>vn (m:=M) (H.2.1.ext (X.O x)) (hw.2.1.ext (B.O x)) (oR c k).dT (oR c k).je (oR c k).df (oR c k).dT (oR c k).je (oR c k).df;refine(s di).bK di g λb ah f i _=>⟨b,rfl,?_⟩;obtain rfl:=f.2 ⟨rfl,rfl,rfl,rfl⟩;have o:=((D.O r).O B).O i;have CE:=i.aP;refine⟨sx,λ_=>⟨sx,λ_=>⟨λhn=>?_,λhy=>?_⟩⟩⟩
 .refine(s i).bK i g λb ac f d _=>⟨b,rfl,λ_=>⟨bO,(y.O o).O d⟩,λh=>?_⟩;rw[f.2 ⟨rfl,rfl,rfl,rfl⟩]at h;simp at h
 let⟨w,Z⟩:=acN (a:=c) (dG:=k) (sp hy);refine(Ln (p.ext o)).aO λ_ ac⟨b,e,d,t,_⟩=>⟨d.fq λl n=>oh (g l n),b,e,λe=>?_,λe=>?_⟩
 .have v:=i.O d;refine(s v).bK v g λb I f j _=>⟨b,rfl,λ_=>⟨bO,(y.O (o.O d)).O j⟩,λh=>?_⟩;rw[f.2 ⟨rfl,rfl,rfl,rfl⟩]at h;simp at h
 obtain⟨_,t⟩:=t (sp e);have al:=d.aP;have C:=o.O d;refine(JY (p.ext C) w.1).aO λ_ I⟨d',p',e,hI,j⟩=>⟨j.fq λl n=>oh (g l n),d',p',true,e,?_⟩;intro ai K;obtain⟨U,an⟩:=pv K;clear_value K;have am:=j.aP;have R:=Ck (hI.ext U) k;rw[ZX t.Ss w.1 w.2]at R;refine R.aO λ_ ad⟨o',e,ab,z⟩=>⟨z.fq λl n=>by
  rcases aY.1 n with e|e
  .omega
  .have:=g l e;omega,_,_,_,o',_,e,?_⟩
 intro aj v;obtain⟨V,ap⟩:=pv v;clear_value v;have ao:=z.aP;have aa:∀b∈[ad.size,I.size,Q.size,O.size,u.size],b<v.size:=fj;have T:=(U.O z).O V;refine⟨λ_=>⟨λ_=>?_,λh=>by simp[Z]at h⟩,sx⟩;exact(vn (ab.2.1.ext V) (H.2.1.ext (((X.O i).O d).O (j.O T))) _ _ _ _ _ _).bK di aa λb ak f ag _=>⟨b,rfl,by rw[f.2 ⟨rfl,rfl,rfl,rfl⟩],(y.O (C.O (j.O T))).O ag⟩
end
end Go.Proofs.YtbbbdejieenniaaGreat
section
namespace Go.Vc
variable{t:TypeId}{a:Addr}
open Go.ChangeShapes Go.WideShapes Go.RowKit
section
variable{H:Type}{b:TypeId×Value->H}{P:Program}{w:World}
def YR(b:TypeId×Value->H)(P:Program)(w:World)(t:TypeId)(Q:ae->Prop):Prop:=
 ∀(n:Nat)(a:ap)(x:DataW H×aI),DataW.trod b P w 0 (λ_=>true) true n t a=some x->∃c,a=c.map Ce.v/\Q c
theorem YR.aO{Q Q':ae->Prop}(h:YR b P w t Q)(f:∀a,Q a->Q' a):YR b P w t Q':=λn a x g=>
 let⟨c,d,e⟩:=h n a x g
 ⟨c,d,f _ e⟩
theorem XT{v:Value}(h:w.cell? a=some v):a.spot=none:=by
 unfold World.cell? at h;split at h
 .split at h
  .cases h
  .rename_i b;simpa using b
 .cases h
theorem XO(h:a.spot=none)(i:Nat):a.add i=⟨a.block,a.off+i,none⟩:=by
 obtain⟨b,o,s⟩:=a;grind [Go.Addr.add]
end
section
variable{H:Type}{b:TypeId×Value->H}{P:Program}
theorem HV(k:laidOutB P=true){W i:World}(j:Below W.heap.size W i):∀{d:List TypeId}{g:ap}{e:List (DataW H)}{c:aI},
 (d.all λt=>P.readableRec t&&decide (t<P.types.size))=true->DataW.TrodAll b P W 0 (λ_=>true) true d g e c->(∀x∈c,x.block<W.heap.size)->∀sp:Nat->Bool,(∀p∈c,sp p.block=true)->
 DataW.TrodAll b P i 0 sp true d g e c
 |[],_,_,_,_,h,_,_,_=>by
  obtain⟨rfl,rfl,rfl⟩:=trodAll_nil h;exact trodAll_mk0
 |t::d,_,_,_,f,h,l,sp,m=>by
  obtain⟨v,g,r,e,p,q,rfl,rfl,rfl,n,o⟩:=trodAll_cons h;simp only[RX,eX,bh]at f;exact⟨p,q,WideElems.Trod_stays k f.1.1 f.1.2 n (λx a=>j.same (l x (by simp[a]))) (λx a=>m x (by simp[a])),HV k j cG o (λx a=>l x (by simp[a])) sp (λx a=>m x (by simp[a])),rfl⟩
def Q4{f:Func}{s:ChangeSpec}{W c:World}{d:Array Value}{a:List (DataW H)}{h:aI}
 (D:laidOutB P=true)(G:(f.params.toList.all λt=>P.readableRec t&&decide (t<P.types.size))=true)(w:f.resultTypes=#[t])(o:P.underlying t=some .bool)(l:s.vars=[])
 (e:DataW.Whole b P f.params.toList s.vars false W d.toList a [] h)(C:(s.fn H (a++[])).args=a)(q:(s.fn H (a++[])).results=[.lit (.bool true)])(r:(s.fn H (a++[])).vars=[])
 (n:Below W.heap.size W c):s.post b P f false true false false W d (.bool true) c:=by
 have k:∀p∈h,p.block<W.heap.size:=λp u=>by simpa using e.lt p u
 have j:=e
 obtain⟨p,I,B,i,rfl,A,E⟩:=e
 rw[l]at i
 obtain⟨_,rfl⟩:=trodVars_none i
 simp only[fH]at k A j
 have m:∀sp:Nat->Bool,(∀x∈p,sp x.block=true)->DataW.TrodAll b P c 0 sp true f.params.toList d.toList (s.fn H (a++[])).args p:=λsp F=>by
  grind [HV]
 have y:∀sp:Nat->Bool,DataW.TrodVars b P c sp s.vars (s.fn H (a++[])).vars []:=λsp=>by rw[l,r];rfl
 have v:∀(g:Nat)(sp:Nat->Bool)(hd:Bool),DataW.TrodAll b P c g sp hd f.resultTypes.toList ((Value.bool true).resultList f.resultTypes.size) (s.fn H (a++[])).results []:=λg sp hd=>by
  rw[q,w];exact trodAll_cons_mk (shut_bool o _) trodAll_mk0
 refine⟨a,[],p,[],p,[],j,v _ _ _,m _ (λx z=>by simpa using k x z),y _,n.frame _,λ_=>?_⟩
 constructor<;>grind [Go.RowKit.ok_one,Go.RowKit.okWide_bool_mk,Go.ChangeShapes.trodAll_append,Go.RowKit.Below.frozen]
end
end Go.Vc
end
section
namespace Go.Proofs.YtbbbdejieenniaaGreat
open Go.Vc Go.ChangeShapes
def Yk{H:Type}{x:TypeId×Value->H}{P:Program}{w:World}{t e r:Nat}{v:Value}{u:DataW H}{I:aI}(p:P.underlying t=some (.slice e))(B:P.underlying e=some (.int .u8))(A:P.cellsOf e=1)
 (E:Value.okWide P w .any r t v)(y:DataW.Trod x P w 0 (λ_=>true) true t v u I):∃s,v=s.v/\JC w.heap s:=by
 obtain⟨J,q,h,rfl⟩:=Go.WideShapes.okWide_slice p E
 obtain⟨L,C⟩:=y
 rcases open_ints p B A C with⟨b,_⟩|⟨d,O,K,g,b,_,D,M,G,_,l,F⟩
 .simp[Value.cells]at b
  obtain⟨rfl,rfl,rfl⟩:=b
  exact⟨.nil,rfl,bW,λk a=>by simp at a⟩
 .simp[Value.cells]at b
  obtain⟨rfl,rfl,rfl⟩:=b
  simp only[vE]at G
  rcases FK h with i|i
  .subst i
   have:q=0:=V
   subst this
   obtain⟨c,o,s⟩:=d
   cases s with
   |none=>exact⟨.mk c o 0 0,rfl,bW,λk a=>by simp at a⟩
   |some sp=>exact⟨.Dx c o sp,rfl,bW,λk a=>by simp at a⟩
  .have z:=l 0 V
   have n:d.spot=none:=by
    have:=XT z;simpa[Addr.add]using this
   obtain⟨c,o,s⟩:=d
   simp only at n
   subst n
   refine⟨.mk c o q h,rfl,D,λk a=>?_⟩
   simp only[N.lJ]at a
   have m:k<g.length:=V
   have j:=l k m
   have f:=F (g.getD k 0) (by rw[fE,aa6 m];simp)
   rw[Lit.wf,eX,bh,bh]at f
   refine⟨g.getD k 0,f.1,f.2,?_⟩
   .rw[XO rfl,DN]at j
    simpa using j
end Go.Proofs.YtbbbdejieenniaaGreat
end
