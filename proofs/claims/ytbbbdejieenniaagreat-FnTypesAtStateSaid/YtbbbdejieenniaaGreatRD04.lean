/- Part of a proof. -/
import Derived.Test.YtbbbdejieenniaaGreatRD01
import Derived.Test.YtbbbdejieenniaaGreatRD02
import Derived.Test.YtbbbdejieenniaaGreatRD03
set_option linter.all false
set_option maxHeartbeats 8000000
set_option maxRecDepth 100000
namespace Go.Proofs.YtbbbdejieenniaaGreat
open Go.Vc
section
variable{c:cZ}
noncomputable def uN (c:cZ) (s:St) (b:an) (a:bW) (x:Instr):St:=
 if x.op=9 then{s with dg:=s.dg+1,bq:=b++[{a with pc:=a.pc+1},cz c x.cE x.bH (dQ a x.aO)]}
 else if x.op=24 then{s with dg:=s.dg+1,bq:=b++[cz c x.cE a.bH (dQ a x.aO)]}
 else{s with dg:=s.dg+1,aR:=iZ s.aR (bt a.aU (bt x.aO 0)),bq:=b++[{a with pc:=a.pc+1},cz c ((bu s.aR (bt a.aU (bt x.aO 0))).js -cF c) x.bH ((bu s.aR (bt a.aU (bt x.aO 0))).bJ++[bt a.aU (bt x.aO 1)])]}
variable{t:bg}{j:ag}{m:bg}{n:Nat}{d p cy q e:E}{s:St}{b:an}{a:bW}{r u h:E}{y:List ae}
def ST.rv(S:ST t j m n dD (SB d p s cy q e) cy q e s.cy s.aR b a r u h y)(g:gY t d p c)(k:s.cy.length<=2000000000)(i:s.aR.length<=2000000000)(f:oZ m e (b++[a])):
 RV m n 2 d p cy q e c {s with bq:=b++[a]}:=
 ⟨g.ext S.eI.cW,S.eI.bV.dx 0,S.eI.bV.dx 1,S.eI.bV.dx 2,S.eI.bV.dx 3,S.eI.bV.dx 4,S.eI.bV.dx 5,S.eI.bV.dx 6,S.eI.bV.dx 7,S.eI.bV.dx 8,S.eI.cy.oN V,S.eI.aR.jI V,f⟩
def rR.Mp{b:an}(d:rR j m e b)(A:b.length<=2000000000)(q:∀a∈b,a.aU.length<=1000000/\a.bI.length<=1000000/\a.cC.length<=1000000):oZ m e b:=by
 let⟨y,c,o,f,p⟩:=d;have t:e.len=b.length:=by have:=c.aT;rw[dS f,o]at this;omega
 refine⟨t,c.le,V,λk x i=>?_⟩;let⟨n,g⟩:=dV y k cB;obtain⟨r,u,h,rfl,w,v,d⟩:=p k n x g i;let⟨B,C,D⟩:=q x (aZ i);refine⟨_,⟨r,u,h,O,w.oN V,v.oN V,d.oN V⟩,λz l s=>?_⟩;have:=c.kZ (k*6+z) l (jt f g s);grind [Nat.add_assoc]
def RG(ai:ST t j m n dD (SB d p s cy q e) cy q e s.cy s.aR b a r u h y)(aB:gY t d p c)(av:iB c){z:Instr}{aa ac:E}(ha:ba t aa z.aO)(bc:∀F∈z.aO,0<=F/\F<a.aU.length)(bJ:z.aO.length<=4)
 (bW:z.op=9\/z.op=24\/z.op=11)(aP:(z.op=9\/z.op=24)->rS c z.cE z.aO.length)(bb:z.op=11->z.aO.length=2/\zS c s.aR (bt a.aU (bt z.aO 0)))
 (bT:a.aU.length=a.bI.length/\a.cC.length=a.bI.length/\a.bI.length<=2000)(a_:∀H∈b,H.aU.length<=1000000/\H.bI.length<=1000000/\H.cC.length<=1000000)(bs:0<=a.pc/\a.pc<=100000)(bQ:b.length<=10000)(bR:s.aR.length<=1000000000)(bX:s.cy.length<=1000000000)(bL:0<=s.dg/\s.dg<=100000)
 {C:Nat->Int}(hI:jd s.aR C):
 bK dO 179 [vp n 0,fv a r u h,xv z aa ac] m λ_ L=>CK t j m n d p (uN c s b a z) L:=by
 apply zI (n,0)
 simp -zeta only[kL,nO]
 intro I m2
 have bz:D m m2:=((D.cU m).bZ _).bZ _
 have s1:=pz I
 have s2:m2.size=m.size+2:=by simp[m2,s1]
 have B2:=A2.Nk ai.eI.bF s1 s2
 have kB:dF m2 I.size fA [.i z.op,.i z.bH,.i z.cE,.i z.dh,.s aa,.s ac]:=dF.push I _ _
 let⟨S2,t2⟩:=ai.ext bz
 have bh:DL c z:=λC=>let⟨A,Y,G,_⟩:=aP C;⟨Y,A,G⟩
 have bI:(gR c.bS).length<=12:=by
  have:=tF av.mN.dk c.bS.length;rw[qI _ _ bY]at this;exact this
 have bk:∀{j m q lh bx},ST t j m n dD bx cy q e s.cy lh b a r u h y->oZ m e (b++[a]):=λai=>ai.eI.bq.Mp eX (λH B=>by
  rcases bU.1 B with B|B
  .exact a_ H B
  .simp at B;subst B;omega)
 refine(vU (f:=a) (S2.EI V) (ha.ext S2.eI.cW) bc V).aP ?_
 rintro _ m3 ⟨T,rfl,ow,au⟩
 let⟨S3,t3⟩:=S2.ext au
 have B3:=B2.to t3
 have bw:(dQ a z.aO).length=z.aO.length:=by simp[dQ]
 have ak:ba m3 T (dQ a z.aO):=ba.ju ow V
 have bG:∀{L:bg}{T:E}{ao:ae},jy L m3 bB 1 T ao->m.size<=L.size->T≠.nil->j T.bz=0:=λho hs Z=>by
  rcases ho.bz with C|C
  .exact absurd C Z
  .exact ai.eI.bF _ V
 refine⟨t3.fS B2,T,O,λH wv L=>∃(ax:ag)(aV:E)(af:ah)(B:ab)(A:eG),ST t ax L n dD (SB d p s cy aV e) cy aV e s.cy af b a r u h y/\To j m ax L/\A2 ax L [I.size,m.size]/\dF L I.size fA [.i z.op,.i z.bH,.i z.cE,.i z.dh,.s aa,.s ac]/\ba L wv B/\(B≠[]->ax wv.bz=0)/\
  0<=H/\c.di[H.toNat]? =some A/\B.length=A.aY.length/\k8 c z 0 B=fJ A.df 0 B/\
  (z.op=24->uN c s b a z={s with dg:=s.dg+1,aR:=af,bq:=b++[cz c H a.bH B]})/\(z.op≠24->uN c s b a z={s with dg:=s.dg+1,aR:=af,bq:=b++[{a with pc:=a.pc+1},cz c H z.bH B]}),?_,?_⟩
 .refine⟨λal=>?_,λal=>?_⟩
  .simp at al
   let⟨G,U,aX,bZ,bp,aT,bN⟩:=bb al
   let⟨ap,bv⟩:=dy U
   have aL:=hI.gZ _ (aZ ap)
   have b0:=(aL.wZ bv).2
   have aU:=br ap
   have bd:z.aO=[bt z.aO 0,bt z.aO 1]:=by
    cases Q:z.aO with
    |nil=>rw[Q]at G;simp at G
    |cons F ao=>cases ao with
     |nil=>rw[Q]at G;simp at G
     |cons J ao=>cases ao with
      |nil=>rfl
      |cons _ _=>rw[Q]at G;simp at G
   have aY:dQ a z.aO=[bt a.aU (bt z.aO 0),bt a.aU (bt z.aO 1)]:=by rw[bd];rfl
   have b5:=ak.aT
   have b4:=ak.ms
   have gw:aS m3 T.bz (T.off+Int.toNat (0:Int)*1)=some (vi (bt a.aU (bt z.aO 0))):=ak.bt (k:=0) (by rw[aY];rfl)
   have an:=S3.rv aB V V (bk S3)
   generalize hw:bt a.aU (bt z.aO 0)=w at*
   generalize hv:bt a.aU (bt z.aO 1)=v at*
   let⟨A,hq⟩:=dV c.di (((bu s.aR w).js -cF c).toNat)
   have ad:dG c ((bu s.aR w).js -cF c)=A:=by simp[dG,hq]
   rw[ad]at bp aT
   refine⟨V,V,w,gw,d,an.bS,(jH an U.1 ap).aP ?_⟩
   rintro _ m4 ⟨f4,rfl,bM,W⟩
   let⟨S4,t4⟩:=S3.ext W
   have B4:=B3.to t4
   have aM:=an.ext W
   refine⟨t4.fS B3,_,_,_,O,W.da an.bS,(uD aM.iG.bS av.mN.dk).aP ?_⟩
   rintro _ J ⟨rfl,az⟩
   let⟨M,t5⟩:=S4.ext az
   have B5:=B4.to t5
   have a9:=aM.ext az
   refine⟨t5.fS B4,_,O,V,V,V,(jH a9 U.1 ap).aP ?_⟩
   rintro _ m6 ⟨f6,rfl,bj,aJ⟩
   let⟨S6,t6⟩:=M.ext aJ
   have B6:=B5.to t6
   have ay:=(W.J az).J aJ
   have e1:(Int.toNat (1:Int))=1:=rfl
   have e2:(Int.toNat (T.len:Int))=T.len:=V
   rw[e1,e2]
   have bA:ba m6 (E.cut T 1 T.len 1) [v]:=by
    have:=aaK (ak.ext ay) (by rw[bw];omega);rw[aY]at this;exact this
   have bP:=aL.fl
   refine⟨t6.fS B5,_,_,_,O,(QO bj bA eX).aP ?_⟩
   rintro _ m7 ⟨K,rfl,oe,aK⟩
   let⟨S7,t7⟩:=S6.ext aK
   have B7:=B6.to t7
   have ie:ba m7 K ((bu s.aR w).bJ++[v]):=ba.ju oe eX
   have aq:j K.bz=0:=by
    rcases oe.bz with C|C
    .subst C;have:=ie.aT;simp at this
    .exact ai.eI.bF _ (VI ay.aQ au.aQ)
   have bi:K.bz<m7.size:=ly ie bO
   refine⟨t7.fS B6,K,O,(FJ S7.eI U hI V).aP ?_⟩
   rintro _ P ⟨am,rfl,hb,F,bf,be⟩
   have t8:To j m7 j P:=F.aP λR N=>V
   have B8:=B7.to t8
   have a0:ba P K ((bu s.aR w).bJ++[v]):=ku ie λ_=>F.fR _ bi (by rw[aq];decide)
   have a2:To j m j P:=(((((t2.J t3).J t4).J t5).J t6).J t7).J t8
   have a1:dF P I.size fA [.i z.op,.i z.bH,.i z.cE,.i z.dh,.s aa,.s ac]:=(kB.ext (au.J (ay.J aK))).congr (F.fR _ (B7 I.size bO).1 (by rw[(B7 I.size bO).2];decide))
   have e3:eJ ((bu s.aR w).js -((gR c.bS).length:Int))=(bu s.aR w).js -cF c:=de V V
   rw[e3]
   have aw:k8 c z 0 ((bu s.aR w).bJ++[v])=fJ A.df 0 ((bu s.aR w).bJ++[v]):=by
    rw[KE V,cp.1 aT]
   have aQ:∀af,af=iZ s.aR w->uN c s b a z={s with dg:=s.dg+1,aR:=af,bq:=b++[{a with pc:=a.pc+1},cz c ((bu s.aR w).js -cF c) z.bH ((bu s.aR w).bJ++[v])]}:=λaf C=>by
    rw[uN,aW V,aW V,hw,hv,C]
   refine⟨t8.fS B7,am,O,λaO=>?_,λaN=>?_⟩
   .have aA:=hb.1 aO
    let⟨S,bH⟩:=S7.jU (F.aP λR N=>bC N) (bf aO)
    have bV:=S.eI.aR.aT
    refine⟨q,S.eI.bV.dx 7,?_⟩
    intro m9
    have a8:=px m9
    let⟨S9,X⟩:=S.ext a8
    have B9:=B8.to X
    have bS:=U.1
    have bm:ix w=(w -1000).toNat:=rfl
    have e5:eJ (w -1000)=w -1000:=de V V
    rw[e5,<-bm]
    refine⟨V,V,S9.eI.aR.wr (o:=0) aU cD,?_⟩
    intro b6
    let⟨bl,a6⟩:=S9.eI.aR.pT S9.eI.bF aU 0 0 (f:=.mk P.size 0 0 0) (l:=[]) ⟨O,bO,bO,bO⟩ (λZ=>absurd O Z)
    let⟨ar,aD⟩:=S9.jU (a6.aP λR N=>bC N) bl
    have aH:=B9.to aD
    refine⟨aD.fS B9,q,ar.eI.bV.dx 7,(Ch (ar.eI.aR.jI eX)).aP ?_⟩
    rintro _ b7 ⟨rfl,a7⟩
    let⟨aj,aE⟩:=ar.ext a7
    have aI:=aH.to aE
    refine⟨aE.fS aH,_,O,aj.eI.pQ (i:=7) bO,?_⟩
    intro aC
    obtain⟨a4,b8⟩:=aj.jU (dI.cU _ aj.eI.bF) (aj.eI.aR.ry (yd _ _))
    obtain⟨a5,aF⟩:=a4.lW 7 [.s (q.cut 0 (lL (s.aR.set (ix w) kX) (s.aR.set (ix w) kX).length) 3)]
    have a3:=aI.to aF
    have aG:To j P j aC:=((X.J aD).J aE).J aF
    have bE:ba aC K ((bu s.aR w).bJ++[v]):=ku a0 λ_=>aG.fR _ (oh F.aQ) (by rw[aq];simp)
    have bF:dF aC I.size fA [.i z.op,.i z.bH,.i z.cE,.i z.dh,.s aa,.s ac]:=a1.congr (aG.fR _ (B8 I.size bO).1 (by rw[(B8 I.size bO).2];simp))
    refine⟨aF.fS aI,j,_,_,_,A,a5,a2.J aG,a3,bF,bE,λ_=>aq,aX,hq,eX,aw,λC=>V,λ_=>aQ _ ?_⟩
    rw[iZ,bn aA];rfl
   .have aA:(bu s.aR w).bT≠1:=λC=>by have:=hb.2 C;rw[aN]at this;simp at this
    let⟨S,bH⟩:=S7.jU (F.aP λR N=>bC N) (be aN)
    refine⟨j,q,_,_,A,S,a2,B8,a1,a0,λ_=>aq,aX,hq,eX,aw,λC=>V,λ_=>aQ _ ?_⟩
    rw[iZ,aW aA]
  .simp at al
   have F:z.op=9\/z.op=24:=V
   let⟨A,N,K,P⟩:=aP F
   have ad:dG c z.cE=A:=by simp[dG,K]
   refine⟨j,q,s.aR,dQ a z.aO,A,S3,t2.J t3,B3,kB.ext au,ak,λZ=>bG ow V (λC=>by subst C;have:=ak.aT;simp at this;exact Z (cp.1 this.symm)),N,K,V,by rw[NG F,ad],λC=>?_,λC=>?_⟩
   .rw[uN,aW V,bn C]
   .rw[uN,bn V]
 .rintro H wv m4 ⟨al,aI,aD,B,A,S4,t4,B4,a2,aJ,a1,aT,hq,a5,aw,aO,aQ⟩
  have ad:dG c H=A:=by simp[dG,hq]
  have a4:=(av.eS A (aZ hq)).aU
  have h3:=(av.mN.eS A (aZ hq)).1
  refine⟨s.dg,S4.eI.bV.dx 4,S4.eI.pQ (i:=4) bO,?_⟩
  have e3:eJ (s.dg+1)=s.dg+1:=de V V
  rw[e3]
  intro J
  let⟨M,t5⟩:=S4.lW 4 [.i (s.dg+1)]
  have B5:A2 al J [I.size,m.size]:=B4.to t5
  replace t5:To al m4 al J:=t5
  have c5:dI (λR=>R=1) al m4 al J:=dI.aV S4.eI.bF S4.eI.YL _ _
  have aK:ba J wv B:=ku aJ λZ=>c5.fR _ (ly aJ Z) (by rw[a1 Z];decide)
  have a3:dF J I.size fA [.i z.op,.i z.bH,.i z.cE,.i z.dh,.s aa,.s ac]:=a2.congr (c5.fR _ (B4 I.size bO).1 (by rw[(B4 I.size bO).2];decide))
  replace M:ST t al J n dD (SB d p {s with dg:=s.dg+1,aR:=aD} cy aI e) cy aI e s.cy aD b a r u h y:=M
  refine⟨t5.fS B4,d,M.eI.bV.dx 0,p,M.eI.bV.dx 1,?_⟩
  have aM:=t4.J t5
  have a0:(k8 c z 0 B).length=B.length:=IP _ _ _ _
  have aY:(cz c H z.bH B).aU=B++eP (A.aU.toNat -B.length):=by simp[cz,ad]
  have aX:(cz c H z.bH B).bI=k8 c z 0 B++eP (A.aU.toNat -(k8 c z 0 B).length):=by simp[cz,ad,aw,mf]
  have aU:(cz c H z.bH B).cC=eP A.aU.toNat:=by simp[cz,ad]
  have kH:∀(U ar:bg)(nb b1 b2 b3:Nat),D J U->tw U ar b1 b2 b3 A.aU.toNat (B++eP (A.aU.toNat -B.length)) (k8 c z 0 B++eP (A.aU.toNat -(k8 c z 0 B).length)) (eP A.aU.toNat)->U.size<=nb/\nb<ar.size->nb≠b1/\nb≠b2/\nb≠b3->
   RU n nb [I.size,m.size] z.op a.pc a.bH H 0 z.bH (.mk b1 0 A.aU.toNat A.aU.toNat) (.mk b2 0 A.aU.toNat A.aU.toNat) (.mk b3 0 A.aU.toNat A.aU.toNat) ar (λ_ L=>CK t j m n d p (uN c s b a z) L):=λU ar nb b1 b2 b3 Q N aC Z=>by
   let⟨SM,tM⟩:=M.ext Q
   refine Tb (s:={s with dg:=s.dg+1,aR:=aD}) (j:=cz c H z.bH B) (e:=z) SM (B5.to tM) (by rw[aY,aX,aU];exact N) aC Z V bs (λC L hF=>?_) (λC L hF=>?_)
   .rw[aO C];exact CK.from hF (aM.J tM)
   .rw[aQ C];exact CK.from hF (aM.J tM)
  have ay:∀{U:bg}{os:E},D J U->ba U os (k8 c z 0 B)->bK dO 107 [.agg #[E.v d,E.v p],vi H,vi z.bH,E.v wv,E.v os] U _:=λQ ho=>CA (aB.ext (M.eI.cW.J Q)) aT hq V z.bH (aK.ext Q) ho V a0
  have aq:∀{K S:bg},D J K->D K S->∀an,an<6->aS S I.size an=aS K I.size an:=λY G an hi=>by
   have R:=a3.ext Y;match an,hi with
   |0,_=>exact G.da (R.dx 0)
   |1,_=>exact G.da (R.dx 1)
   |2,_=>exact G.da (R.dx 2)
   |3,_=>exact G.da (R.dx 3)
   |4,_=>exact G.da (R.dx 4)
   |5,_=>exact G.da (R.dx 5)
  have Nk:∀{K S:bg},D J K->D K S->aS S n 0=aS K n 0/\aS S n 1=aS K n 1:=λY G=>⟨G.da (Y.aS (M.eI.bV.dx 0)),G.da (Y.aS (M.eI.bV.dx 1))⟩
  have oY:∀{U:bg},D J U->sD 218 [vp n 0,xv z aa ac,E.v wv] U (k8 c z 0 B):=λQ=>Jx (aB.ext (M.eI.cW.J Q)) (Q.aS (M.eI.bV.dx 0)) (Q.aS (M.eI.bV.dx 1)) bh aa ac (aK.ext Q) V
  have sm:∀{K S:bg},D J K->D K S->gS [I.size,m.size] K S:=λY G=>G.eV λam hb=>Y.lt (B5 am hb).1
  have aF:∀{K S:bg}{nb:Nat},D J K->D K S->nb<K.size->gS [nb,I.size,m.size] K S:=λY G aC=>G.eV λam hb=>by
   rcases bo.1 hb with rfl|hb
   .exact aC
   .exact Y.lt (B5 am hb).1
  refine⟨(oY cY).aP ?_,?_⟩
  .rintro _ ap ⟨os,rfl,oo,P⟩
   have io:ba ap os (k8 c z 0 B):=ba.ju oo V
   refine⟨sm cY P,os,O,aq cY P 1 V,(Nk cY P).1,(Nk cY P).2,?_,?_⟩
   .refine(ay P io).aP ?_
    rintro _ aE ⟨b1,b2,b3,rfl,N⟩
    have az:=N.ext
    have aG:=P.J az
    refine⟨sm P az,_,_,_,_,_,_,O,?_⟩
    intro aL
    have aA:=px aL
    have F:=aq aG aA
    have X:=Nk aG aA
    refine⟨F 0 V,F 1 V,F 2 V,F 3 V,F 4 V,F 5 V,F 1 V,X.1,X.2,?_⟩
    intro aj
    have aN:D aE aj:=aA.aV bY _ _
    have a6:aj.size=aE.size+1:=by simp[aj,aL,bD]
    have aH:=N.lo
    exact kH ap aj aE.size b1 b2 b3 P (N.LQ aN) ⟨by have:=az.aQ;omega,V⟩ ⟨V,V,V⟩
   .intro aG
    obtain⟨aj,aN⟩:=pu aG
    have F:=aq P aj
    have X:=Nk P aj
    refine⟨F 0 V,F 1 V,F 2 V,F 3 V,F 4 V,F 5 V,F 1 V,X.1,X.2,?_⟩
    refine(ay (P.J aj) (io.ext aj)).aP ?_
    rintro _ aL ⟨b1,b2,b3,rfl,N⟩
    have az:=N.ext
    refine⟨aF (P.J aj) az V,_,_,_,_,_,_,O,?_⟩
    intro aA
    have aH:=N.lo
    have aE:=N.bV aj (nb:=ap.size) bY V 0 [.i H,.i 0,.i z.bH,.s (.mk b1 0 A.aU.toNat A.aU.toNat),.s (.mk b2 0 A.aU.toNat A.aU.toNat),.s (.mk b3 0 A.aU.toNat A.aU.toNat)]
    exact kH ap aA ap.size b1 b2 b3 P aE ⟨bY,by simp only[aA,bD];have:=az.aQ;omega⟩ ⟨V,V,V⟩
  .intro aE
   obtain⟨P,aN⟩:=pu aE
   have F:=aq cY P
   have X:=Nk cY P
   refine⟨F 0 V,F 1 V,F 2 V,F 3 V,F 4 V,F 5 V,F 1 V,X.1,X.2,?_⟩
   refine(oY P).aP ?_
   rintro _ aG ⟨os,rfl,oo,W⟩
   have io:ba aG os (k8 c z 0 B):=ba.ju oo V
   have aj:=P.J W
   have a6:=W.aQ
   refine⟨aF P W V,os,O,aq P W 1 V,(Nk P W).1,(Nk P W).2,?_⟩
   refine(ay aj io).aP ?_
   rintro _ aL ⟨b1,b2,b3,rfl,N⟩
   have ap:=N.ext
   refine⟨aF aj ap V,_,_,_,_,_,_,O,?_⟩
   intro az
   have aH:=N.lo
   have aA:=N.bV aj (nb:=J.size) bY V 0 [.i H,.i 0,.i z.bH,.s (.mk b1 0 A.aU.toNat A.aU.toNat),.s (.mk b2 0 A.aU.toNat A.aU.toNat),.s (.mk b3 0 A.aU.toNat A.aU.toNat)]
   exact kH J az J.size b1 b2 b3 cY aA ⟨bY,by simp only[az,bD];have:=ap.aQ;omega⟩ ⟨V,V,V⟩
def RK(S:ST t j m n dD (SB d p s cy q e) cy q e s.cy s.aR b a r u h y)(ac:b.length<=100000)(w:Int)(O:∀g,b.getLast?=some g->0<=a.bH/\a.bH<g.aU.length/\a.bH<g.bI.length):
 bK dO 180 [vp n 0,fv a r u h,vi w] m λ_ U=>CK t j m n d p (match b.getLast? with|none=>{s with eC:=0,iQ:=w,bq:=[]}|some g=>{s with bq:=b.dropLast++[g.cG a.bH w (iV w)]}) U:=by
 apply zJ (n,0)
 simp -zeta only[dR]
 intro D
 obtain⟨R,s1⟩:=pu D
 let⟨f,t1⟩:=S.ext R
 have K:j m.size=0:=S.eI.bF _ bY
 have o:A2 j D [m.size]:=λx A=>by simp at A;subst A;exact⟨V,K⟩
 have B:=f.jO.Eg
 have aa:=f.jO.qB.le
 have I:eJ ((e.len:Int) -1)=(b.length:Int):=by grind [de]
 have J:Int.toNat (b.length:Int)=b.length:=V
 have z:=f.eI.bV.dx 8
 refine⟨e,z,e,z,?_⟩
 rw[I,J]
 refine⟨V,V,V,f.eI.pQ bO,?_⟩
 intro W
 let⟨k,t2⟩:=f.eI.lW 8 [.s (e.cut 0 b.length 6)]
 obtain⟨c,_⟩:=k.mE (dI.cU _ k.bF) k.bq.pop
 have i:=o.to t2
 have ab:(e.cut 0 b.length 6).len=b.length:=by
  cases e with
  |nil=>simp at B
  |DK x F sp=>simp at B
  |mk x F v l=>simp[E.cut]
 refine⟨t2.fS o,e.cut 0 b.length 6,c.bV.dx 8,λl=>?_,λl=>?_⟩
 .simp at l
  have L:b=[]:=by grind [List.length_eq_zero_iff]
  subst L
  refine⟨c.pQ (by simp[nU]),?_⟩
  intro X
  let⟨v,t3⟩:=c.lW 2 [.i 0]
  have G:=i.to t3
  refine⟨t3.fS i,v.pQ (by simp[nU]),?_⟩
  intro M
  let⟨H,C⟩:=v.lW 3 [.i w]
  exact⟨C.fS G,j,cy,q,_,H,(((t1.J t2).J t3).J C)⟩
 .simp at l
  have ad:b.length≠0:=V
  have Q:b≠[]:=cB
  obtain⟨g,C⟩:∃g,b.getLast?=some g:=⟨_,rC Q⟩
  let⟨H,L,M⟩:=O g C
  rw[C]
  simp only[]
  have P:b=b.dropLast++[g]:=by
   grind [List.getLast?_eq_some_getLast,List.dropLast_concat_getLast]
  have v:wU t j W n dD (SB d p s cy q (e.cut 0 b.length 6)) cy q (e.cut 0 b.length 6) s.cy s.aR (b.dropLast++[g]):=
   ⟨c.cW,c.mq,c.bF,c.bV,c.YL,c.cy,c.aR,(P▸c.bq)⟩
  let⟨r',F,Z,Y,T⟩:=v.bq.jO
  have N:b.dropLast.length<=100000:=cB
  refine(xS ⟨v,T⟩ N H L M w).aP ?_
  rintro _ X ⟨G,t3⟩
  exact⟨t3.fS i,j,cy,q,_,G.eI,(t1.J t2).J t3⟩
end
section
variable{g:cZ}{a:Instr}
def wc.HE{b:St}{c:an}{f:bW}(C:wc g b c f a){bI:ab}(j:bI=cL f.aU f.bI (cO g a))(i:∀o∈bI,0<=o):
 jd b.aR (λd=>j8 c d+fB f.aU bI d+iW ((cO g a).map (bt f.aU)) d)/\∀d,0<=j8 c d+fB f.aU bI d:=by
 have e:=Cl (aU:=f.aU) (cO g a) f.bI C.Pb C.Tp.1
 rw[<-j]at e
 refine⟨C.ok.aR.congr λd=>?_,λd=>?_⟩
 .rw[C.fr,jM,nR,e];omega
 .have:=KH (b:=c) (λh k=>C.ok.bq h cB) d
  have:=ve (aU:=f.aU) i d
  omega
def It{a:af}{t js:Int}(h:js∈cT a t):1<=t/\t<=a.length/\(tH (cT a t) js:Int)=js -fc a (t.toNat -1)/\(fc a (t.toNat -1):Int)<=js:=by
 unfold cT at h⊢;by_cases d:1<=t/\t<=a.length
 .rw[bn d]at h⊢;let⟨b,hd⟩:=dV a (t.toNat -1);rw[hd]at h⊢;simp only[vy,uj]at h⊢;let⟨i,c,e⟩:=gK.1 h;rw[qY]at c;have f:tH ((List.range b.eB.length).map λi=>((fc a (t.toNat -1)+i:Nat):Int)) js=i:=by
   unfold tH;rw[List.findIdx_eq cB];constructor<;>grind
  grind
 .grind
def TL{d a b:Int}(i:ln a)(j:ln b)(m:bg):DO dO 176 [vi d,vi a,vi b] m (vi (TB d a b)):=by
 have k:∀n:Int,-2000000<=n/\n<=2000000->DO dO 212 [vi (eJ n)] m (vi (J6 n)):=λn o=>by
  apply MB;grind [de,D.cU,J6]
 unfold ln at i j;have l: -2000000<=a*b/\a*b<=2000000:=by
  have c:(a*b).natAbs<=999*999:=by rw[Int.natAbs_mul];exact Rb V V
  omega
 apply OM;unfold TB;refine⟨λc=>?_,λc=>⟨λe=>?_,λe=>⟨λf=>?_,λf=>⟨λg=>⟨λh=>?_,λh=>?_⟩,λg=>?_⟩⟩⟩⟩
 .grind [DO.cg]
 .grind [DO.cg]
 .grind [DO.cg]
 .grind [D.cU]
 .grind [D.cU]
 .grind [D.cU]
variable{q:bg}{j:ag}{m:bg}{t:Nat}{d p cy n k:E}{b:St}{c:an}{f:bW}{r o h:E}{u:List ae}
def OK(C:wc g b c f a){bI:ab}(ap:bI=cL f.aU f.bI (cO g a))(hM:pb g b f a bI)
 (ac:ST q j m t dD (SB d p b cy n k) cy n k b.cy b.aR c {f with bI:=bI} r o h u)(aE:gY q d p g){am aK:E}(ha:ba q am a.aO)(hj:ba q aK a.gE)(bb:b.aR.length<=900000000)(bl:b.cy.length<=900000000):
 bK dO 119 [vp t 0,fv f r o h,xv a am aK] m λ_ R=>CK q j m t d p (eD g b c f a bI) R:=by
 apply xR (t,0)
 simp -zeta only[dR]
 intro m1 A
 have a6:D m A:=((D.cU m).bZ _).bZ _
 have s1:=pz m1
 have s2:A.size=m.size+2:=by simp[A,s1]
 have B:=A2.Nk ac.eI.bF s1 s2
 have U:dF A m1.size fA [.i a.op,.i a.bH,.i a.cE,.i a.dh,.s am,.s aK]:=dF.push m1 _ _
 have kF:dF A m.size iu [.i f.fQ,.i f.pc,.i f.bH,.s r,.s o,.s h]:=(dF.push m _ _).ext (D.push m1 _)
 let⟨y,t2⟩:=ac.ext a6
 have bk:bI.length=f.bI.length:=by rw[ap];exact my _ _ _
 have bc:=C.Tp
 have F:=C.oK
 have hd:=C.bH
 have a3:=C.F.pc
 obtain⟨pq,_,a4,hP,a9,hI⟩:=C.I
 rw[a4]at a3
 have bm:=hP.aT
 have ak:0<=f.pc/\f.pc<=100000:=V
 have aO:=C.ok.kV
 have a8:=C.ok.dg
 have bf:=C.ok.dL
 rw[C.fr]at aO
 have a_:c.length<=1000:=by simp at aO;omega
 have aF:f.aU.length=bI.length/\f.cC.length=bI.length/\bI.length<=2000:=V
 have bp:r.len=f.aU.length:=by have:=ac.jO.aU.aT;simp at this;omega
 have bi:o.len=bI.length:=by have:=ac.jO.bI.aT;simp at this;omega
 have a7:=ha.aT
 have e4:eJ (f.pc+1)=f.pc+1:=iz
 have aa:1<=a.aO.length->0<=bt a.aO 0/\bt a.aO 0<f.aU.length:=λK=>C.arg _ (iS V V)
 have M:∀{R},D q R->1<=a.aO.length->aS R am.bz (am.off+Int.toNat (0:Int)*1)=some (vi (bt a.aO 0)):=λZ K=>(ha.ext Z).tC V V
 have T:∀{j m bx cy n k lo lh o h u own'},ST q j m t dD bx cy n k lo lh c {f with bI:=own'} r o h u->∀{ar:Int},0<=ar->ar<f.aU.length->aS m r.bz (r.off+ar.toNat*1)=some (vi (bt f.aU ar)):=λac ar h0 K=>(ac.EI (by simp only[];omega)).tC h0 K
 have aN:=C.HE ap hM.nn
 have a1:∀{j m n lh bx},ST q j m t dD bx cy n k b.cy lh c {f with bI:=bI} r o h u->oZ m k (c++[{f with bI:=bI}]):=λac=>ac.eI.bq.Mp eX (λaf G=>by
  rcases bU.1 G with G|G
  .have Y:=C.ok.bq af (by rw[C.fr];exact dN _ G);obtain⟨pg,_,av,an,_⟩:=Y.Ky C.ok.iG;have K:=Y.lr;have N:=Y.lo;have h3:=Y.lh;rw[av]at K N h3;have:=an.aU;omega
  .simp at G;subst G;simp only[];omega)
 have aQ:∀r',r'∈a.aO->bt f.aU r'<1000->ln (bt f.aU r'):=λr' a5 be=>by
  have ao:=C.arg r' a5;rcases C.F.XQ _ (iS ao.1 ao.2)with P|P
  .exact P
  .omega
 have aL:∀{ad:bg}(Z:D A ad)(X:Int)(s':St),s'={b with bq:=c++[bW.cG {f with bI:=bI,pc:=f.pc+1} a.bH X 0]}->
  bK dO 175 [vp t 0,vi a.bH,vi X] ad λ_ R=>gS [m1.size,m.size] ad R/\CK q j m t d p s' R:=λZ X s' v=>by
  let⟨SM,tM⟩:=y.ext Z
  refine(FF SM V hd.1 (by simp only[];omega) (by simp only[];omega) X ak).aP ?_
  rintro _ R ⟨S',t'⟩
  exact⟨t'.fS (B.to tM),j,cy,n,k,by rw[v];exact S'.eI,(t2.J tM).J t'⟩
 have aD:∀{ad:bg}(Z:D A ad)(aH:Int)(s':St),s'={b with bq:=c++[{f with bI:=bI,pc:=aH}]}->
  bK dO 182 [vp t 0,vi aH] ad λ_ R=>gS [m1.size,m.size] ad R/\CK q j m t d p s' R:=λZ aH s' v=>by
  let⟨SM,tM⟩:=y.ext Z
  refine(mX SM V aH).aP ?_
  rintro _ R ⟨S',t'⟩
  exact⟨t'.fS (B.to tM),j,cy,n,k,by rw[v];exact S'.eI,(t2.J tM).J t'⟩
 refine⟨λv=>?_,λe0=>?_⟩
 .simp at v
  exact aL cY _ _ (by unfold eD;simp only[];rw[bn v])
 simp only[bd]at e0
 refine⟨λv=>?_,λe1=>?_⟩
 .simp only[eH,bP]at v
  have N:=F.2.2.1 V
  have w:=aa V
  have I:0<=bt a.aO 1/\bt a.aO 1<f.aU.length:=C.arg _ (iS V V)
  have J:=hM.oN V
  refine⟨V,V,_,M y.eI.cW V,w.1,V,_,T y w.1 w.2,V,V,_,(ha.ext y.eI.cW).tC (i:=1) V V,I.1,V,_,T y I.1 I.2,?_⟩
  refine(TL (aQ _ (iS V V) (J _ (iS V V))) (aQ _ (iS V V) (J _ (iS V V))) A).aP ?_
  rintro _ H ⟨rfl,z⟩
  refine⟨z.eV (λS hb=>(B S hb).1),_,O,z.da (U.dx 1),aL z _ _ ?_⟩
  unfold eD;simp only[];rw[aW e0,bn v]
 simp only[cV,bd]at e1
 have aj:¬(a.op=1\/a.op=2\/a.op=3\/a.op=4):=V
 refine⟨λv=>?_,λe5=>?_⟩
 .simp only[bP]at v
  have N:=F.2.1 V
  have w:=aa V
  have ae:(E.len cy)=b.cy.length:=by have:=y.eI.cy.aT;simp at this;omega
  refine⟨cy,y.eI.bV.dx 6,V,V,_,M y.eI.cW V,w.1,V,_,T y w.1 w.2,?_⟩
  intro H
  have z:=px H
  have mu:jG H A.size 0 [.i (bt f.aU (bt a.aO 0))]:=(dF.push A _ _).kZ
  let⟨J,t3⟩:=y.ext z
  have B3:=B.to t3
  refine⟨z.da (y.eI.bV.dx 6),iE.fx (f:=[.i 0]) (x:=.mk A.size 0 1 1) (new:=[.i (bt f.aU (bt a.aO 0))]) J.eI.cy J.eI.bF O mu (by simp only[E.kv];omega) λal au m4 q1 q2=>?_⟩
  have Q:iE al m4 bB 1 2 au ((b.cy++[bt f.aU (bt a.aO 0)]).map Ce.i):=sp q1
  let⟨L,I⟩:=J.QE q2 Q
  have B4:=B3.to I
  refine⟨I.fS B3,L.eI.pQ (i:=6) bO,?_⟩
  intro m5
  let⟨S5,W⟩:=L.lW 6 [.s au]
  refine⟨W.fS B4,V,V,_,M S5.eI.cW V,w.1,V,_,T S5 w.1 w.2,?_⟩
  refine(FF (b:={b with cy:=b.cy++[bt f.aU (bt a.aO 0)]}) S5 V hd.1 (by simp only[];omega) (by simp only[];omega) _ ak).aP ?_
  rintro _ m6 ⟨S6,t6⟩
  refine⟨t6.fS (B4.to W),al,au,n,k,?_,(((t2.J t3).J I).J W).J t6⟩
  unfold eD;simp only[];rw[aW e0,aW aj,bn v];exact S6.eI
 simp only[bd]at e5
 have aT:∀X∈f.cC,X≠0->1000<=X/\ix X<b.aR.length:=λX hw aG=>by
  obtain⟨K,dd,a0,_⟩:=C.P6 X hw aG;exact⟨K,br a0⟩
 refine⟨λv=>?_,λe6=>?_⟩
 .simp only[bP]at v
  have h6:=F.2.2.2.2.1 v
  refine(yY y ha C.arg F.1 a.cE aF (by simp only[];omega) ⟨h6.1,h6.2.1⟩ ak V V aT).aP ?_
  rintro _ H ⟨ai,ah,ag,ae,L3,t3⟩
  refine⟨t3.fS B,ai,ah,ag,ae,?_,t2.J t3⟩
  have:eD g b c f a bI=rH b c {f with bI:=bI} a a.cE:=by
   unfold eD rH;simp only[];rw[aW e0,aW aj,aW e5,bn v];rfl
  rw[this];exact L3
 simp only[bd]at e6
 refine⟨λv=>?_,λaC=>?_⟩
 .simp only[bP]at v
  have ay:=F.2.2.2.2.2.1 v
  have ao:a.dh=0:=by rcases hI.dh with P|P;exact P;omega
  have az:(gR g.bS).length<=12:=by
   have:=tF C.ok.iG.mN.dk g.bS.length;rw[qI _ _ bY]at this;exact this
  refine⟨d,y.eI.bV.dx 0,(uD (aE.ext y.eI.cW).bS C.ok.iG.mN.dk).aP ?_⟩
  rintro _ H ⟨rfl,z⟩
  let⟨J,t3⟩:=y.ext z
  have e3:eJ (((gR g.bS).length:Int)+a.cE)=cF g+a.cE:=iz
  refine⟨t3.fS B,_,O,z.da (U.dx 2),z.da (U.dx 0),z.da (U.dx 1),z.da (U.dx 2),z.da (U.dx 3),z.da (U.dx 4),z.da (U.dx 5),z.da (kF.dx 0),z.da (kF.dx 1),z.da (kF.dx 2),z.da (kF.dx 3),z.da (kF.dx 4),z.da (kF.dx 5),?_⟩
  rw[e3]
  refine(yY J ha C.arg F.1 (cF g+a.cE) aF (by simp only[];omega) (by rw[ao];omega) ak V V aT).aP ?_
  rintro _ m4 ⟨al,ax,aq,aw,Q,I⟩
  refine⟨I.fS (B.to t3),al,ax,aq,aw,?_,(t2.J t3).J I⟩
  have:eD g b c f a bI=rH b c {f with bI:=bI} a (cF g+a.cE):=by
   unfold eD rH;simp only[];rw[aW e0,aW aj,aW e5,aW e6,bn v,aW (λhh=>hh.1 ao)];rfl
  rw[this];exact Q
 simp only[bd]at aC
 refine⟨λv=>?_,λe9=>?_⟩
 .simp only[eH,bP]at v
  have Q:=hI.op
  unfold mJ at Q
  refine(RG y aE C.ok.iG ha C.arg F.1 V (λe'=>?_) (λe'=>⟨F.2.2.1 V,hM.apply e'⟩) aF (λaf G=>?_) ak V V V V C.ok.aR).aP ?_
  .rw[aW V,aW V,aW V,aW V,bn e']at Q;exact Q
  .have Y:=C.ok.bq af (by rw[C.fr];exact dN _ G)
   obtain⟨pg,_,av,an,_⟩:=Y.Ky C.ok.iG
   have K:=Y.lr
   have N:=Y.lo
   have h3:=Y.lh
   rw[av]at K N h3
   have:=an.aU
   omega
  rintro _ H ⟨ai,ah,ag,ae,L3,t3⟩
  refine⟨t3.fS B,ai,ah,ag,ae,?_,t2.J t3⟩
  have:eD g b c f a bI=uN g b c {f with bI:=bI} a:=by
   unfold eD uN;simp only[];rw[aW e0,aW aj,aW e5,aW e6,aW aC,aW V,aW V,aW V,aW V,aW V,aW V,aW V,aW V];by_cases e9:a.op=9
   .rw[bn e9,bn e9];rfl
   .rw[aW e9,aW e9];by_cases Y:a.op=24
    .rw[bn Y,bn Y];rfl
    .rw[aW Y,aW Y,bn V]
  rw[this];exact L3
 simp only[cV,bd]at e9
 refine⟨λv=>?_,λaV=>?_⟩
 .simp only[bP]at v
  have N:=F.2.1 V
  have w:=aa V
  refine⟨V,V,_,M y.eI.cW V,w.1,V,_,T y w.1 w.2,(RK y V (bt f.aU (bt a.aO 0)) (λaf G=>?_)).aP ?_⟩
  .have aG:c≠[]:=λv=>by rw[v]at G;simp at G
   have Y:c=c.dropLast++[af]:=by
    rw[rC aG]at G;simp at G;rw[<-G];exact(nH aG).symm
   have av:c.length=c.dropLast.length+1:=by
    have:=vw List.length Y;simpa using this
   let⟨q1,q2,q3⟩:=C.ok.uK c.dropLast.length af f (by rw[C.fr,Y];simp) (by rw[C.fr,<-av];simp)
   have an:=C.ok.bq af (by rw[C.fr,Y];simp)
   have:=an.lr
   have:=an.lo
   exact⟨q1,by show f.bH<_;omega,by show f.bH<_;omega⟩
  rintro _ H ⟨ai,ah,ag,ae,L3,t3⟩
  refine⟨t3.fS B,ai,ah,ag,ae,?_,t2.J t3⟩
  unfold eD
  simp only[]
  rw[aW e0,aW aj,aW e5,aW e6,aW aC,aW V,aW V,aW V,aW V,aW V,aW V,aW V,aW V,aW V,aW V,aW V]
  exact L3
 simp only[bd]at aV
 have a2:∀(af:St),(if a.op=0 then af else af)=af:=λaf=>by split<;>rfl
 have Rc:eD g b c f a bI=(
  if a.op=14 then{b with aR:=qv b.aR (bt f.aU (bt a.aO 0)),bq:=c++[{f with bI:=gX bI (bt a.aO 0) (bt bI (bt a.aO 0)+1),pc:=f.pc+1}]}
  else if a.op=15 then{b with aR:=pG (jL b.aR [bt f.aU (bt a.aO 0)]),bq:=c++[{f with bI:=bI,pc:=f.pc+1}]}
  else if a.op=16\/a.op=17 then xF b c {f with bI:=bI} a
  else if a.op=18 then{b with bq:=c++[bW.cG {f with bI:=bI,pc:=f.pc+1} a.bH (bt f.aU (bt a.aO 0)) (iV (bt f.aU (bt a.aO 0)))]}
  else if a.op=19 then{b with bq:=c++[bW.cG {f with bI:=bI,pc:=f.pc+1} a.bH (bt (bu b.aR (bt f.aU (bt a.aO 0))).bJ a.cE) 0]}
  else if a.op=20 then{b with bq:=c++[{f with bI:=bI,pc:=if bt f.aU (bt a.aO 0)=0 then a.cE else f.pc+1}]}
  else if a.op=21 then{b with bq:=c++[{f with bI:=bI,pc:=bt a.gE (tH (cT g.bS a.cE) (bu b.aR (bt f.aU (bt a.aO 0))).js)}]}
  else{b with bq:=c++[{f with bI:=bI,pc:=a.cE}]}):=by
  unfold eD
  simp only[]
  rw[aW e0,aW aj,aW e5,aW e6,aW aC]
  by_cases av:a.op=14
  .rw[bn av,bn av]
  rw[aW av,aW av]
  by_cases aw:a.op=15
  .rw[bn aw,bn aw]
  rw[aW aw,aW aw]
  by_cases ax:a.op=16\/a.op=17
  .rw[bn ax,bn ax];rfl
  rw[aW ax,aW ax]
  by_cases ay:a.op=18
  .rw[bn ay,bn ay]
  rw[aW ay,aW ay]
  by_cases az:a.op=19
  .rw[bn az,bn az]
  rw[aW az,aW az]
  by_cases aA:a.op=20
  .rw[bn aA,bn aA]
  rw[aW aA,aW aA]
  by_cases aB:a.op=21
  .rw[bn aB,bn aB]
  rw[aW aB,aW aB]
  have:=C.opc
  rw[bn V]
 rw[Rc]
 clear Rc a2
 refine⟨λv=>?_,λaM=>?_⟩
 .simp only[bP]at v
  rw[bn v]
  have N:=F.2.1 V
  have w:=aa V
  let⟨Y,bh⟩:=hM.dup v
  let⟨aY,bo⟩:=dy Y
  refine⟨V,V,_,M y.eI.cW V,w.1,V,_,T y w.1 w.2,?_⟩
  intro H
  have z:=px H
  have ow:jy A H bB 1 (.mk A.size 0 1 1) ([bt f.aU (bt a.aO 0)].map Ce.i):=jy.bF (D.cU A) bB 1 _ 1 bO
  let⟨J,t3⟩:=y.ext z
  have B3:=B.to t3
  have hz:j A.size=0:=y.eI.bF _ bY
  refine(Ie J.eI (ba.ju ow bO) (λ_=>hz) (λX hw=>?_) (λaU hc=>?_) bO V).aP ?_
  .simp at hw;subst hw;exact⟨Y.1,br aY⟩
  .have:=C.ok.aR.gZ aU hc;have P:=this.lo;have h6:=this.hi;omega
  rintro _ m4 ⟨aI,c4⟩
  let⟨L,I⟩:=J.jU (c4.aP λaf hk=>bC hk) aI
  have B4:=B3.to I
  have an:bt a.aO 0<bI.length:=V
  have bj:0<=bt bI (bt a.aO 0)/\bt bI (bt a.aO 0)<=999999:=by
   refine⟨hM.nn _ (iS (l:=bI) w.1 an),?_⟩;have G:=jR (l:=bI) w.1 an;rw[ap]at G;let⟨qq,aJ,aP⟩:=ou _ _ _ _ G;have:=(C.Tz qq (aZ aJ)).2;rw[<-ap]at aP;omega
  have aX:eJ (bt bI (bt a.aO 0)+1)=bt bI (bt a.aO 0)+1:=iz
  refine⟨I.fS B3,V,V,_,M L.eI.cW V,V,V,_,M L.eI.cW V,w.1,V,bt bI (bt a.aO 0),(L.NH (by simp only[];omega)).tC w.1 an,w.1,V,L.jO.bI.SE w.1 an,?_⟩
  rw[aX,e4]
  intro m5
  let⟨S5,W⟩:=L.tW w.1 an (bt bI (bt a.aO 0)+1)
  refine⟨W.fS B4,(mX (b:={b with aR:=kW b.aR [bt f.aU (bt a.aO 0)]}) S5 V (f.pc+1)).aP ?_⟩
  rintro _ m6 ⟨S6,t6⟩
  exact⟨t6.fS (B4.to W),j,cy,n,k,S6.eI,(((t2.J t3).J I).J W).J t6⟩
 simp only[bd]at aM
 rw[aW aM]
 have aU:a.aO.length=1->a.aO=[bt a.aO 0]:=λK=>by
  cases Z:a.aO with
  |nil=>rw[Z]at K;simp at K
  |cons an G=>cases G with
   |nil=>rfl
   |cons aX G=>rw[Z]at K;simp at K
 refine⟨λv=>?_,λan=>?_⟩
 .simp only[bP]at v
  rw[bn v]
  have N:=F.2.1 V
  have w:=aa V
  have ht:cO g a=[bt a.aO 0]:=by unfold cO;rw[bn V];exact aU V
  have G:=aN.1
  rw[ht]at G
  refine⟨n,y.eI.bV.dx 7,V,V,_,M y.eI.cW V,w.1,V,_,T y w.1 w.2,?_⟩
  intro H
  have z:=px H
  have ow:jy A H bB 1 (.mk A.size 0 1 1) ([bt f.aU (bt a.aO 0)].map Ce.i):=jy.bF (D.cU A) bB 1 _ 1 bO
  let⟨J,t3⟩:=y.ext z
  have B3:=B.to t3
  refine⟨z.da (y.eI.bV.dx 7),(KV J.eI.aR J.eI.bF (ba.ju ow bO) (e:=λS=>j8 c S+fB f.aU bI S) (G.congr λS=>O) aN.2 V).aP ?_⟩
  rintro _ m4 ⟨al,aq,rfl,aI,c4⟩
  let⟨L,I⟩:=J.jU c4 aI
  have B4:=B3.to I
  refine⟨I.fS B3,aq,O,L.eI.pQ (i:=7) bO,?_⟩
  intro m5
  let⟨S5,W⟩:=L.lW 7 [.s aq]
  rw[e4]
  refine⟨W.fS B4,(mX (b:={b with aR:=pG (jL b.aR [bt f.aU (bt a.aO 0)])}) S5 V (f.pc+1)).aP ?_⟩
  rintro _ m6 ⟨S6,t6⟩
  exact⟨t6.fS (B4.to W),al,cy,aq,k,S6.eI,(((t2.J t3).J I).J W).J t6⟩
 simp only[bd]at an
 rw[aW an]
 refine⟨λv=>?_,λal=>?_⟩
 .simp only[eH,bP]at v
  rw[bn v]
  refine(MS y ha C.arg ⟨F.2.2.2.1 v,F.1⟩ aF ak V V (λau G=>?_) (hM.Ql v).1 C.ok.aR).aP ?_
  .refine⟨hM.nn au G,?_⟩
   let⟨af,hk⟩:=cH.1 G
   simp only[]at hk
   rw[ap]at hk
   let⟨qq,aJ,aP⟩:=ou _ _ _ _ hk
   have:=(C.Tz qq (aZ aJ)).2
   omega
  rintro _ H ⟨ai,ah,ag,ae,L3,t3⟩
  exact⟨t3.fS B,ai,ah,ag,ae,L3,t2.J t3⟩
 simp only[cV,bd]at al
 rw[aW V]
 refine⟨λv=>?_,λW=>?_⟩
 .simp only[bP]at v
  rw[bn v]
  have N:=F.2.1 V
  have w:=aa V
  refine⟨V,V,_,M y.eI.cW V,w.1,V,_,T y w.1 w.2,(xS y V hd.1 (by simp only[];omega) (by simp only[];omega) _).aP ?_⟩
  rintro _ H ⟨J,t3⟩
  rw[e4]
  refine⟨t3.fS B,(mX J V (f.pc+1)).aP ?_⟩
  rintro _ m4 ⟨L,I⟩
  exact⟨I.fS (B.to t3),j,cy,n,k,L.eI,(t2.J t3).J I⟩
 simp only[bd]at W
 rw[aW W]
 have ag:=y.rv aE V V (a1 y)
 refine⟨λv=>?_,λJ=>?_⟩
 .simp only[bP]at v
  rw[bn v]
  have N:=F.2.1 V
  have w:=aa V
  let⟨Y,G⟩:=hM.tO v
  have Q:=hI.op
  unfold mJ at Q
  simp(disch:=omega) only[aW,bn]at Q
  refine⟨V,V,_,M y.eI.cW V,w.1,V,_,T y w.1 w.2,(jH ag Y.1 (dy Y).1).aP ?_⟩
  rintro _ H ⟨fl,rfl,I,z⟩
  have L:=I.aT
  refine⟨z.eV (λS hb=>(B S hb).1),_,_,_,O,z.da (U.dx 2),z.da (U.dx 1),Q.2.1,V,_,I.tC Q.2.1 G,aL z _ _ O⟩
 simp only[bd]at J
 rw[aW J]
 refine⟨λv=>?_,λL=>?_⟩
 .simp only[bP]at v
  rw[bn v]
  have N:=F.2.1 V
  have w:=aa V
  refine⟨V,V,_,M y.eI.cW V,w.1,V,_,T y w.1 w.2,λP=>?_,λP=>?_⟩
  .simp at P;exact aD cY _ _ (by rw[bn P])
  .simp at P;rw[e4];exact aD cY _ _ (by rw[aW P])
 simp only[bd]at L
 rw[aW L]
 refine⟨λv=>?_,λae=>?_⟩
 .simp only[bP]at v
  rw[bn v]
  have N:=F.2.1 V
  have w:=aa V
  let⟨Y,ah⟩:=hM.xW v
  let⟨aY,bh,aI,au⟩:=It ah
  have Q:=hI.op
  unfold mJ at Q
  simp(disch:=omega) only[aW,bn]at Q
  have aJ:tH (cT g.bS a.cE) (bu b.aR (bt f.aU (bt a.aO 0))).js<(cT g.bS a.cE).length:=mB ⟨_,ah,bO⟩
  have aX:=hj.aT
  have aP:=Q.2.2.1
  have aq:=(C.ok.aR.gZ _ (aZ (dy Y).1)).wZ (dy Y).2
  have bj:=C.ok.iG.mN.dk.aT
  refine⟨V,V,_,M y.eI.cW V,w.1,V,_,T y w.1 w.2,(jH ag Y.1 (dy Y).1).aP ?_⟩
  rintro _ H ⟨fl,rfl,I,z⟩
  have e7:eJ (a.cE -1)=((a.cE.toNat -1:Nat):Int):=by rw[iz];omega
  rw[e7]
  have ai:=y.eI.cW.J z
  refine⟨z.eV (λS hb=>(B S hb).1),_,_,_,O,d,z.aS (y.eI.bV.dx 0),(nk (aE.ext ai).bS C.ok.iG.mN.dk V).aP ?_⟩
  rintro _ m4 ⟨rfl,G⟩
  have e8:eJ ((bu b.aR (bt f.aU (bt a.aO 0))).js -((fc g.bS (a.cE.toNat -1):Nat):Int))=((tH (cT g.bS a.cE) (bu b.aR (bt f.aU (bt a.aO 0))).js:Nat):Int):=by
   rw[iz];omega
  refine⟨G.eV (λS hb=>z.lt (B S hb).1),_,O,G.da ((U.ext z).dx 5),?_⟩
  rw[e8]
  refine⟨V,V,_,(hj.ext (ai.J G)).tC V V,aD (z.J G) _ _ O⟩
 simp only[bd]at ae
 rw[aW ae]
 refine⟨λv=>aD cY _ _ O,λw=>?_⟩
 simp only[bd]at w
 have:=C.opc
 omega
end
section
def Z9{l a:ab}(h:a.length=l.length):kJ (l.map Ce.i) 0 (a.map Ce.i)=a.map Ce.i:=by
 have:=Gm [] (a.map Ce.i) (l.map Ce.i) cB;grind [List.length_nil,List.drop_of_length_le]
section
variable{j:bg}{c:ag}{a:bg}{g k:Nat}{q:ae}{cy e b:E}{u:ab}{t:ah}{l:an}{f:bW}{r i h:E}{m:List ae}
def ST.aaJ(S:ST j c a g k q cy e b u t l f r i h m){bI:ab}(p:bI.length=f.bI.length)(w:0<bI.length):jb a i.bz i.off (bI.map Ce.i).length/\ST j c (aV a i.bz i.off (bI.map Ce.i)) g k q cy e b u t l {f with bI:=bI} r i h m/\To c a c (aV a i.bz i.off (bI.map Ce.i)):=by
 have T:=S.jO;have B:i.cap≠0:=λk=>by have:=(T.bI.zW k).1;simp at this;rw[this]at p;simp at p;rw[p]at w;simp at w
 have A:=T.bI.bz B;have d:dI (λs=>s=11+3*l.length) c a c (aV a i.bz i.off (bI.map Ce.i)):=dI.aV S.eI.bF A.2 _ _;have x:=T.bI.dY (o:=0) (new:=bI.map Ce.i) cB;rw[Z9 p,ui]at x;have v:rP c (aV a i.bz i.off (bI.map Ce.i)) b l {f with bI:=bI} r i h m:=⟨T.qB.fO d V,T.aT,T.aQ,T.Cu d λs _ y=>V,T.aU.fO d V,x,T.cC.fO d V⟩;let⟨y,z⟩:=S.eI.mE (d.aP λs C=>V) v.qe;refine⟨?_,⟨y,v⟩,z⟩;have:=T.bI.wr (o:=0) (n:=(bI.map Ce.i).length) cB;grind
end
variable{j:bg}{c:ag}{a:bg}{g:Nat}{d p cy e b:E}{s:St}
def TM{k:cZ}(L:wU j c a g dD (SB d p s cy e b) cy e b s.cy s.aR s.bq)(J:gY j d p k)(z:eu k s)(aC:∀N∈s.bq,∀A∈N.aU,A<=9223372036854775807)(aE:s.aR.length<=900000000)(aJ:s.cy.length<=900000000):
 bK dO 66 [vp g 0] a λ_ m'=>CK j c a g d p (qy k s) m':=by
 apply AK (g,0)
 simp -zeta only[dR]
 refine⟨s.eC,L.bV.dx 2,λR=>?_,λR=>?_⟩
 .simp at R
  rw[ua R]
  exact⟨c,cy,e,b,L,dI.cU _ L.bF⟩
 have ab:s.eC=3:=sp R
 let⟨n,h,t⟩:=z.split ab
 have aG:s.bq.getLast?=some h:=by rw[t];simp
 have aA:s.bq.dropLast=n:=by rw[t];simp
 have C:wc k s n h (fF k h):=⟨z,ab,t,O,aC⟩
 have aO:qy k s=(open Classical in if qM (fF k h).op/\s.dg=s.dL then{s with eC:=1}else if pb k s h (fF k h) (cL h.aU h.bI (cO k (fF k h)))then eD k s n h (fF k h) (cL h.aU h.bI (cO k (fF k h)))else{s with eC:=2}):=by
  unfold qy;rw[aW (sp ab),aG,aA]
 rw[aO]
 generalize fF k h=x at*
 have L':wU j c a g dD (SB d p s cy e b) cy e b s.cy s.aR (n++[h]):=by rw[<-t];exact L
 let⟨U,K,Q,ar,Z⟩:=L'.bq.jO
 have S:ST j c a g dD (SB d p s cy e b) cy e b s.cy s.aR n h U K Q ar:=⟨L',Z⟩
 have aY:=Z.Eg
 have aj:=z.kV
 have aX:=z.dg
 have a0:=z.dL
 rw[t]at aj
 have aZ:n.length<=1000:=by simp at aj;omega
 have e1:eJ ((b.len:Int) -1)=(n.length:Int):=by rw[iz];omega
 have e2:Int.toNat (n.length:Int)=n.length:=V
 have P:aS a g 8=some b.v:=S.eI.bV.dx 8
 let⟨g0,g1,g2,g3,g4,g5⟩:=Z.kZ
 refine⟨b,P,b,P,?_⟩
 rw[e1,e2]
 refine⟨V,V,_,g0,_,g1,_,g2,U,g3,K,g4,Q,g5,?_⟩
 intro m1
 have u:=px m1
 refine⟨u.da g0,u.da g1,u.da g2,u.da g3,u.da g4,u.da g5,u.da P,u.da P,?_⟩
 intro w
 have aP:D a w:=u.aV bY _ _
 have s2:w.size=a.size+1:=by simp[w,m1,bD]
 have kF:dF w a.size iu [.i h.fQ,.i h.pc,.i h.bH,.s U,.s K,.s Q]:=dF.aV (m:=m1) (o:=0) (r:=[.i h.fQ,.i h.pc,.i h.bH,.s U,.s K,.s Q]) (dF.push a _ _)
 let⟨M,t2⟩:=S.ext aP
 clear_value w
 let⟨a7,hq,aM,hP,az,hI⟩:=C.I
 let⟨pa,pl,pc,a1,a3,al,k0,k1,k2,k3,k4⟩:=J.di.bt hq
 let⟨aq,aQ,ha,hj,i0,i1,i2,i3,i4,i5⟩:=al.bt az
 have a4:=J.di.aT
 have a2:=al.aT
 have hF:=C.F
 have aL:=hF.fQ
 have ak:=hF.pc
 rw[aM]at ak
 have l:=M.eI.cW
 refine⟨p,M.eI.bV.dx 1,aL.1,V,pc,l.aS k4,ak.1,V,_,l.aS i0,_,l.aS i1,_,l.aS i2,_,l.aS i3,aq,l.aS i4,aQ,l.aS i5,?_⟩
 intro m3
 have q:=px m3
 refine⟨q.da (l.aS i0),q.da (l.aS i1),q.da (l.aS i2),q.da (l.aS i3),q.da (l.aS i4),q.da (l.aS i5),q.da (kF.dx 1),q.da (l.aS k4),q.da (kF.dx 0),q.da (M.eI.bV.dx 1),?_⟩
 intro T
 have ad:D w T:=q.aV bY _ _
 have s4:T.size=w.size+1:=by simp[T,m3,bD]
 let⟨S4,t4⟩:=M.ext ad
 have aR:=kF.ext ad
 have B4:A2 c T [w.size,a.size]:=λac I=>by
  simp at I;rcases I with rfl|rfl
  .exact⟨V,S.eI.bF _ V⟩
  .exact⟨V,S.eI.bF _ bY⟩
 have aV:=t2.J t4
 refine(QS).aP ?_
 rintro _ m5 ⟨ac,rfl,I,ae⟩
 let⟨v,t5⟩:=S4.ext ae
 have W:=B4.to t5
 have B:=aR.ext ae
 have am:=aV.J t5
 have aF:=C.Tp
 have h4:=C.oK
 have aa:(cL h.aU h.bI (cO k x)).length=h.bI.length:=my _ _ _
 refine⟨t5.fS B4,ac,O,λax=>⟨s.dg,v.eI.bV.dx 4,s.dL,v.eI.bV.dx 5,λH=>?_,λH=>?_⟩,λaw=>?_⟩
 .simp at H
  refine⟨v.eI.pQ (i:=2) bO,?_⟩
  intro m6
  let⟨G,E⟩:=v.lW 2 [.i 1]
  refine⟨E.fS W,c,cy,e,b,?_,am.J E⟩
  rw[bn ⟨I.1 ax,H⟩]
  have:=G.eI
  rw[<-t]at this
  exact this
 all_goals
  have ay:¬(qM x.op/\s.dg=s.dL):=by
   first
   |exactλy=>by simp at H;exact H y.2
   |exactλy=>fb I aw y.1
  rw[aW ay]
  have ai:=v.eI.cW
  refine⟨d,v.eI.bV.dx 0,p,v.eI.bV.dx 1,(OT (J.ext ai) C.jF (ha.ext ai) V h4.2.2.2.1).aP ?_⟩
  rintro _ m6 ⟨ts,rfl,ot,y⟩
  let⟨G,E⟩:=v.ext y
  have B6:=W.to E
  have a5:=Nj k x
  have it:ba m6 ts (cO k x):=ba.ju ot V
  refine⟨E.fS W,ts,O,y.da (B.dx 0),y.da (B.dx 1),y.da (B.dx 2),y.da (B.dx 3),y.da (B.dx 4),y.da (B.dx 5),?_⟩
  refine(MT (b:=h) (G.EI V) (G.NH V) it C.Pb aF.1 V V (λA F=>oh (C.Tz A F))).aP ?_
  rintro _ m7 ⟨os,rfl,oo,av⟩
  let⟨A,t7⟩:=G.ext av
  have B7:=B6.to t7
  have io:ba m7 os (cL h.aU h.bI (cO k x)):=ba.ju oo V
  have aD:oZ m7 b (n++[h]):=A.eI.bq.Mp eX (λN Y=>by
   have F:=z.bq N (by rw[t];exact Y);obtain⟨pg,_,af,X,_⟩:=F.Ky z.iG;have q1:=F.lr;have q2:=F.lo;have q3:=F.lh;rw[af]at q1 q2 q3;have:=X.aU;omega)
  have ag:=A.rv J V V aD
  have aN:({s with bq:=n++[h]}:St)=s:=by rw[<-t]
  rw[aN]at ag
  refine⟨t7.fS B6,os,O,(QU ag C (A.EI V) (A.Ws V) (ha.ext A.eI.cW) io aa).aP ?_⟩
  rintro _ m8 ⟨b2,rfl,ah,af⟩
  let⟨N,t8⟩:=A.ext af
  have X:=B7.to t8
  have an:=((am.J E).J t7).J t8
  refine⟨t8.fS B7,b2,O,λh9=>?_,λh9=>?_⟩
  .rw[aW (nb ah h9)]
   refine⟨N.eI.pQ (i:=2) bO,?_⟩
   intro m9
   let⟨Y,F⟩:=N.lW 2 [.i 2]
   refine⟨F.fS X,c,cy,e,b,?_,an.J F⟩
   have:=Y.eI
   rw[<-t]at this
   exact this
  .have hM:=yb ah h9
   rw[bn hM]
   have aI:=io.aT
   have aH:K.len=h.bI.length:=by have:=N.jO.bI.aT;simp at this;omega
   let⟨w1,Y,F⟩:=N.aaJ aa V
   refine⟨(cL h.aU h.bI (cO k x)).map Ce.i,by rw[aI,aH,aa];simp;omega,(io.ext af).Ms,w1,?_⟩
   intro m9
   have B9:=X.to F
   refine⟨F.fS X,(OK C O hM Y J ha hj aE aJ).aP ?_⟩
   rintro _ a6 aB
   let⟨aU,aT,aK,au,ap,ao⟩:=aB
   exact⟨ao.fS B9,aU,aT,aK,au,ap,(an.J F).J ao⟩
end
section
variable{a:cZ}{s:St}{n:Nat}
@[grind cases] structure Sm (n:Nat) (s:St):Prop where
 aR:s.aR.length<=n
 cy:s.cy.length<=n
 JS:∀g∈s.bq,∀w∈g.aU,w<=9223372036854775807
def Gd:∀(n:Nat)(h:ah)(g:ab),D0 h+g.length<=n->(jL h g).length=h.length
 |n,h,[],_=>by rw[ur]
 |0,h,w::r,b=>by simp at b
 |n+1,h,w::r,b=>by
  simp only[dz]at b;rcases gJ (iH h w)with a|a
  .let⟨e,f⟩:=dy a;by_cases c:(bu h w).bT=1
   .have d:=mr (d:=kX) e;simp only[bn f,kX]at d;simp at d;rw[uv a c,Gd n _ _ (by simp[kX];omega)];simp
   .have d:=mr (d:={bu h w with bT:=(bu h w).bT -1}) e;simp only[bn f]at d;rw[bn V]at d;rw[sG a c,Gd n _ _ (by simp only[iU];omega)];simp[iU]
  .rw[sH a,Gd n _ _ V]
theorem Vr(h:ah):(pG h).length<=h.length:=by grind [pG]
theorem Qu:∀(a:ab)(g:ah),(kW g a).length=g.length
 |[],g=>O
 |w::a,g=>by rw[kW,Qu a];simp[qv]
def R1(h:ah)(w:Int):(iZ h w).length<=h.length:=by
 grind [iZ,Vr,Qu,iU]
def Sv(h:ah)(a:Nat)(c:dq):(kD h a c).length<=h.length+1:=by
 grind [kD]
theorem WE{k:an}{f:bW}{x:Instr}(C:wc a s k f x)(B:Sm n s)(hn:n<=900000000)(bI:ab)(Z:pb a s f x bI):Sm (n+1) (eD a s k f x bI):=by
 have hh:=B.aR;have ho:=B.cy;have v:=B.JS;rw[C.fr]at v;have Y:=C.oK;have t:∀r,bt f.aU r<=9223372036854775807:=λr=>by
  rcases dJ r.toNat f.aU.length with m|m
  .let⟨y,b⟩:=gD m;rw[Pv b];exact v f bO y (aZ b)
  .rw[bt,fH,jE m];simp
 have Cu:∀g∈k,∀w∈g.aU,w<=9223372036854775807:=λg p=>v g (by simp[p]);have c:∀{g:bW},(∀w∈g.aU,w<=9223372036854775807)->∀q∈k++[g],∀w∈q.aU,w<=9223372036854775807:=λp q d=>by
  rcases bU.1 d with d|d
  .exact Cu q d
  .simp at d;subst d;exact p
 have e:∀w∈f.aU,w<=9223372036854775807:=v f bO;have j:∀(H:Int),H<=9223372036854775807->∀w∈gX f.aU x.bH H,w<=9223372036854775807:=λH hv w b=>by
  rcases tP b with rfl|b
  .exact hv
  .exact e w b
 have ac:∀{w},ln w\/iH s.aR w->w<=9223372036854775807:=λh=>by
  rcases h with h|h
  .have:=h.2;omega
  .have m:=br (dy h).1;unfold ix at m;omega
 have G:∀(g K:Int)(I:ab),(∀w∈I,w<=9223372036854775807)->∀w∈(cz a g K I).aU,w<=9223372036854775807:=λg K I b w h=>by
  simp only[cz]at h;rcases bU.1 h with h|h
  .exact b w h
  .rw[pR h];omega
 have Nk:∀{g q:bW},(∀w∈g.aU,w<=9223372036854775807)->(∀w∈q.aU,w<=9223372036854775807)->∀J∈k++[g,q],∀w∈J.aU,w<=9223372036854775807:=λp d J o=>by
  rcases bU.1 o with o|o
  .exact Cu J o
  .simp at o;rcases o with rfl|rfl
   .exact p
   .exact d
 have aa:∀w∈dQ f x.aO,w<=9223372036854775807:=λw b=>by
  obtain⟨r,_,rfl⟩:=gK.1 b;exact t r
 have ad:=sW s.aR;unfold eD;simp only[];by_cases y:x.op=0
 .rw[bn y];exact⟨by simp only[];omega,by simp only[];omega,c (j _ (oh (Y.2.2.2.2.2.2 y)))⟩
 rw[aW y];by_cases L:x.op=1\/x.op=2\/x.op=3\/x.op=4
 .rw[bn L];exact⟨by simp only[];omega,by simp only[];omega,c (j _ (oh ((Qq x.op (bt f.aU (bt x.aO 0)) (bt f.aU (bt x.aO 1))).2)))⟩
 rw[aW L];by_cases W:x.op=5
 .rw[bn W];exact⟨by simp only[];omega,eX,c (j _ (t _))⟩
 rw[aW W];by_cases A:x.op=6
 .rw[bn A];split
  .refine⟨eX,by simp only[];omega,c (j _ ?_)⟩;rename_i u;have E:=Y.2.2.2.2.1 A;obtain⟨F,D,z,_⟩:=C.P6 _ (iS (l:=f.cC) (i:=x.dh -1) V V) u.2;have:=br z;unfold ix at this;omega
  .refine⟨?_,by simp only[];omega,c (j _ V)⟩;have:=Sv s.aR (fG s.aR) ⟨1,x.cE,dQ f x.aO⟩;simp only[];omega
 rw[aW A];by_cases M:x.op=10
 .rw[bn M];refine⟨?_,by simp only[];omega,c (j _ V)⟩;have:=Sv s.aR (fG s.aR) ⟨1,cF a+x.cE,dQ f x.aO⟩;simp only[];omega
 rw[aW M];by_cases N:x.op=14
 .rw[bn N];exact⟨by simp[qv];omega,by simp only[];omega,c e⟩
 rw[aW N];by_cases O:x.op=15
 .rw[bn O];refine⟨?_,by simp only[];omega,c e⟩;have m:=Vr (jL s.aR [bt f.aU (bt x.aO 0)]);rw[Gd _ _ _ bY]at m;simp only[];omega
 rw[aW O];by_cases P:x.op=16\/x.op=17
 .rw[bn P];split
  .exact⟨eX,by simp only[];omega,c e⟩
  .refine⟨?_,by simp only[];omega,c e⟩;have:=R1 s.aR (bt f.aU (bt x.aO 0));simp only[];omega
 rw[aW P];by_cases Q:x.op=18
 .rw[bn Q];exact⟨by simp only[];omega,by simp only[];omega,c (j _ (t _))⟩
 rw[aW Q];by_cases u:x.op=19
 .rw[bn u];refine⟨by simp only[];omega,by simp only[];omega,c (j _ ?_)⟩;let⟨E,S⟩:=Z.tO u;obtain⟨T,_,_,_,_,R⟩:=C.I;have z:=R.op;unfold mJ at z;rw[aW V,aW V,aW V,aW V,aW V,aW V,aW V,bn u]at z;let⟨D,F⟩:=dy E;exact ac (((C.ok.aR.gZ _ (aZ D)).wZ F).1 _ (iS z.2.1 S))
 rw[aW u];by_cases R:x.op=20
 .rw[bn R];exact⟨by simp only[];omega,by simp only[];omega,c e⟩
 rw[aW R];by_cases S:x.op=21
 .rw[bn S];exact⟨by simp only[];omega,by simp only[];omega,c e⟩
 rw[aW S];by_cases T:x.op=22
 .rw[bn T];exact⟨by simp only[];omega,by simp only[];omega,c e⟩
 rw[aW T];by_cases X:x.op=9
 .rw[bn X];exact⟨by simp only[];omega,by simp only[];omega,Nk e (G _ _ _ aa)⟩
 rw[aW X];by_cases U:x.op=24
 .rw[bn U];exact⟨by simp only[];omega,by simp only[];omega,c (G _ _ _ aa)⟩
 rw[aW U];by_cases z:x.op=11
 .rw[bn z];refine⟨?_,by simp only[];omega,Nk e (G _ _ _ λw b=>?_)⟩
  .have:=R1 s.aR (bt f.aU (bt x.aO 0));simp only[];omega
  .rcases bU.1 b with b|b
   .obtain⟨E,_⟩:=Z.apply z;let⟨D,F⟩:=dy E;exact ac (((C.ok.aR.gZ _ (aZ D)).wZ F).1 _ b)
   .simp at b;subst b;exact t _
 rw[aW z];split
 .exact⟨by simp only[];omega,by simp only[];omega,bO⟩
 .rename_i D E;refine⟨by simp only[];omega,by simp only[];omega,λq d=>?_⟩;have F:D∈k:=List.mem_of_getLast? E;rcases bU.1 d with d|d
  .exact Cu q ((List.dropLast_sublist k).subset d)
  .simp at d;subst d;intro w b;rcases tP b with rfl|b
   .exact t _
   .exact Cu D F w b
def aa5(h:eu a s)(c:Sm n s)(k:n<=900000000):Sm (n+1) (qy a s):=by
 have b:Sm (n+1) s:=⟨by have:=c.aR;omega,oh c.cy,c.JS⟩;by_cases e:s.eC=3
 .let⟨d,f,i⟩:=h.split e;have j:s.bq.getLast?=some f:=cB;have g:s.bq.dropLast=d:=cB;have C:wc a s d f (fF a f):=⟨h,e,i,O,c.JS⟩;unfold qy;rw[aW cB,j,g];simp only[];split
  .exact⟨b.aR,b.cy,b.JS⟩
  split
  .grind [WE]
  .exact⟨b.aR,b.cy,b.JS⟩
 .grind [ua]
def AW{a:cZ}:∀(k:Nat){s:St}{n:Nat},eu a s->Sm n s->n+k<=900000000->Sm (n+k) (bA a k s)
 |0,s,n,_,b,_=>b
 |k+1,s,n,h,b,c=>by
  have:=AW k (O8 h) (aa5 h b V) V;grind [bA]
def AU(a:cZ)(dL:Int):Sm 0 (jC a dL):=⟨by simp[jC],by simp[jC],λg b w c=>by
 simp[jC]at b;subst b;simp only[cz,iA]at c;rw[pR c];omega⟩
end
section
variable{a:cZ}
section
variable{c:bg}{e:ag}{m:bg}{b:Nat}{d p cy g f:E}{s:St}
def Vj(L:wU c e m b dD (SB d p s cy g f) cy g f s.cy s.aR s.bq)(D:gY c d p a)(w:eu a s){y:Nat}(C:Sm y s)(h:Nat)(K:h<=100000)(M:y<=500000000):
 bK dO 57 [vp b 0,vi h] m λG t=>(∃i:Int,G=vi i)/\CK c e m b d p (bA a h s) t:=by
 apply BY (b,0)
 refine⟨λo t=>∃k:Nat,o=k/\k<=h/\CK c e m b d p (bA a k s) t,λo _=>((h:Int) -o).toNat,⟨0,O,iD _,e,cy,g,f,L,dI.cU _ L.bF⟩,?_⟩
 rintro o N ⟨k,rfl,J,A,z,x,u,l,t1⟩
 have E:=xU k w
 have r:=AW k w C V
 refine dit (λB=>?_) λB=>?_
 .refine⟨_,l.bV.dx 2,λv=>?_,λv=>?_⟩
  .refine(TM l D E r.JS (oh r.aR) (oh r.cy)).aP ?_
   rintro _ j i
   have q:eJ ((k:Int)+1)=((k+1:Nat):Int):=nt (n:=h) V V
   rw[q]
   refine⟨⟨k+1,O,V,by rw[xV];exact i.from t1⟩,?_⟩
   grind
  .simp at v
   have q:bA a h s=bA a k s:=by
    have I:h=k+(h -k):=V;have H:∀(i j:Nat)(s:St),bA a (i+j) s=bA a j (bA a i s):=by
     intro i;induction i with
     |zero=>intro j s;simp[bA]
     |succ i F=>intro j s;rw[Nat.succ_add];simp only[bA];exact F j _
    grind [pV]
   rw[q]
   exact⟨⟨_,O⟩,A,z,x,u,l,t1⟩
 .have:k=h:=V
  subst this
  exact⟨⟨_,O⟩,A,z,x,u,l,t1⟩
end
def JD{m:bg}{t C:E}(J:gY m t C a)(x:iB a)(dL:Int):
 bK dO 56 [.agg #[E.v t,E.v C],vi dL] m λS c=>∃cy i u,S=.agg #[vi 3,vi 0,vi 0,vi dL,E.v cy,E.v i,E.v u]/\D m c/\∃b1 b2 b3 b4 k,cy.cap=0/\cy.len=0/\i.cap=0/\i.len=0/\u=.mk b4 0 1 1/\
  tw m c b1 b2 b3 k (cz a 0 0 []).aU (cz a 0 0 []).bI (cz a 0 0 []).cC/\(b4≠b1/\b4≠b2/\b4≠b3/\m.size<=b4/\b4<c.size)/\dF c b4 iu [.i 0,.i 0,.i 0,.s (.mk b1 0 k k),.s (.mk b2 0 k k),.s (.mk b3 0 k k)]:=by
 apply DA
 simp -zeta only[kL]
 intro n z A o p d
 have v:D m d:=((((((D.cU m).bZ _).bZ _).bZ _).bZ _).bZ _).bZ _
 have L:=pz n
 have M:z.size=m.size+2:=by simp[z,L]
 have P:A.size=m.size+3:=by simp[A,M]
 have Q:o.size=m.size+4:=by simp[o,P]
 have R:p.size=m.size+5:=by simp[p,Q]
 have Y:d.size=m.size+6:=by simp[d,R]
 have T:=x.mN.aT
 let⟨q,j⟩:=dV a.di 0
 have W:=(x.eS q (aZ j)).aU
 have l:dG a 0=q:=by simp[dG,j]
 have B:∀b,ba d (.mk b 0 0 0) []:=λb=>⟨O,bO,bO,bO⟩
 refine(CA (J.ext v) (dT 0) j V 0 (B o.size) (B p.size) eX O).aP ?_
 rintro _ r ⟨b1,b2,b3,rfl,N⟩
 have h:=N.ext
 have U:=N.lo
 refine⟨h.eV eX,_,_,_,_,_,_,O,?_⟩
 intro e s
 obtain⟨w,Z⟩:=pu e
 have s9:s.size=e.size:=bD _ _ _ _
 have X:=h.aQ
 have K:dF e r.size iu [.i 0,.i 0,.i 0,.s (.mk b1 0 q.aU.toNat q.aU.toNat),.s (.mk b2 0 q.aU.toNat q.aU.toNat),.s (.mk b3 0 q.aU.toNat q.aU.toNat)]:=dF.push r _ _
 have g:=N.LQ w
 have y:D m s:=(v.J (h.J w)).aV (show m.size<=n.size by omega) _ _
 have f:∀b,b≠n.size->s[b]? =e[b]? :=λb I=>cq _ _ _ _ I
 have H:(cz a 0 0 []).aU=[]++eP (q.aU.toNat -([]:ab).length):=by simp[cz,l]
 have G:(cz a 0 0 []).bI=[]++eP (q.aU.toNat -([]:ab).length):=by simp[cz,l,fJ]
 have F:(cz a 0 0 []).cC=eP q.aU.toNat:=by simp[cz,l]
 refine⟨_,_,_,O,y,b1,b2,b3,r.size,q.aU.toNat,O,O,O,O,O,?_,V,K.congr (f _ V)⟩
 rw[H,G,F]
 exact⟨y,V,g.kr.congr (f _ V),g.ko.congr (f _ V),g.kh.congr (f _ V),N.aT⟩
def aad{m j g:bg}{u:Nat}{Rc:ae}{cy i l:E}{dL:Int}{b1 b2 b3 b4 k e:Nat}(c:cy.cap=0/\cy.len=0/\i.cap=0/\i.len=0/\l=.mk b4 0 1 1)
 (N:tw m j b1 b2 b3 k (cz a 0 0 []).aU (cz a 0 0 []).bI (cz a 0 0 []).cC)(C:b4≠b1/\b4≠b2/\b4≠b3/\m.size<=b4/\b4<j.size)(B:dF j b4 iu [.i 0,.i 0,.i 0,.s (.mk b1 0 k k),.s (.mk b2 0 k k),.s (.mk b3 0 k k)])
 (d:D j g)(G:j.size<=e)(kb:dF g e u (Rc++[.i 3,.i 0,.i 0,.i dL,.s cy,.s i,.s l])):
 wU m (oH (oH (qx (λ_=>0) b1 b2 b3 0) b4 4) e 1) g e u (Rc++[.i 3,.i 0,.i 0,.i dL,.s cy,.s i,.s l]) cy i l [] [] [cz a 0 0 []]:=by
 have F:=N.lo
 have A:D m g:=N.ext.J d
 have H:=kb.lt
 have t:∀b,b≠e->b≠b4->(oH (oH (qx (λ_=>0) b1 b2 b3 0) b4 4) e 1) b=qx (λ_=>0) b1 b2 b3 0 b:=λb p q=>by rw[fL p,fL q]
 let⟨y,a2,a3⟩:=(N.LQ d).qB (q:=λ_=>0) (v:=0)
 have conv:∀{v:Nat}{s:E}{w:ae},iE (qx (λ_=>0) b1 b2 b3 0) g bB 1 v s w->s.bz≠e->s.bz≠b4->iE (oH (oH (qx (λ_=>0) b1 b2 b3 0) b4 4) e 1) g bB 1 v s w:=λx p q=>x.fR (λ_=>O) (λ_=>t _ p q)
 refine⟨A,λb z=>?_,λb z=>?_,kb,gU,⟨by simp[c.2.1],by rw[c.1,c.2.1];exact bY,bC c.1⟩,⟨[],⟨by simp[c.2.2.2.1],by rw[c.2.2.1,c.2.2.2.1];exact bY,bC c.2.2.1⟩,iy.gN _ _,Sep.gN⟩,?_⟩
 .rw[t b V V];unfold qx;rw[fL V,fL V,fL V]
 .rw[t b (oh d.aQ) (oh d.aQ)];unfold qx;rw[fL (oh d.aQ),fL (oh d.aQ),fL (oh d.aQ)]
 .refine rP.qe (a:=[]) (f:=cz a 0 0 []) (r:=.mk b1 0 k k) (e:=.mk b2 0 k k) (h:=.mk b3 0 k k) (j:=[]) ⟨?_,O,bO,bO,conv y (by simp only[E.lT];omega) (by simp only[E.lT];omega),conv a2 (by simp only[E.lT];omega) (by simp only[E.lT];omega),conv a3 (by simp only[E.lT];omega) (by simp only[E.lT];omega)⟩
  rw[c.2.2.2.2]
  refine⟨O,bY,bR ⟨b4,1,[],O,?_,?_,O⟩⟩
  .grind [fL,gU]
  .rw[fP];exact B.ext d
end
section
variable{a:cZ}{b:bg}{d p:E}
def XT(a:cZ)(dL:Int):∃s,s=bA a 100000 (jC a dL):=⟨_,O⟩
noncomputable def pF (a:cZ) (dL:Int):St:=Classical.choose (XT a dL)
theorem Gn(a:cZ)(dL:Int):pF a dL=bA a 100000 (jC a dL):=jD (XT a dL)
theorem O9{dL:Int}(h:iB a)(c:0<=dL/\dL<=40):eu a (pF a dL)/\Sm 100000 (pF a dL)/\(pF a dL).eC≠3:=by
 have b:=AT h c;rw[Gn];refine⟨xU _ b,?_,QZ _ b (oh (WZ h c))⟩;have:=AW 100000 b (AU a dL) V;grind
def Oq(w:gY b d p a)(n:iB a){dL:Int}(x:0<=dL/\dL<=40):
 bK dO 31 [.agg #[E.v d,E.v p],vi dL] b λX A=>∃cy o i,X=.agg #[vi (pF a dL).eC,vi (pF a dL).iQ,vi (pF a dL).dg,vi (pF a dL).dL,E.v cy,E.v o,E.v i]/\ba A cy (pF a dL).cy/\D b A:=by
 apply Jj
 simp -zeta only[kL]
 intro g e
 have q:D b e:=((D.cU b).bZ _).bZ _
 have U:=pz g
 have s2:e.size=b.size+2:=by simp[e,U]
 have z:dF e b.size uT [.s d,.s p]:=(dF.push b _ _).ext (D.push g _)
 have l:∀f∈[g.size,b.size],f<e.size:=eX
 refine(JD (w.ext q) n dL).aP ?_
 rintro _ B ⟨cy,o,i,rfl,j,b1,b2,b3,b4,Z,M,P,Q,R,S,N,T,K⟩
 refine⟨j.eV l,_,_,_,_,_,_,_,O,j.da (z.dx 0),j.da (z.dx 1),?_⟩
 intro r
 have H:=px r
 have kb:dF r B.size dD ([.s d,.s p]++[.i 3,.i 0,.i 0,.i dL,.s cy,.s o,.s i]):=dF.push B _ _
 have h:=aad (m:=e) ⟨M,P,Q,R,S⟩ N T K H bY kb
 have I:A2 _ r [g.size,b.size]:=λf v=>⟨h.cW.lt (l f v),h.mq f (l f v)⟩
 refine(Vj (s:=jC a dL) h (w.ext q) (AT n x) (AU a dL) 100000 bY V).aP ?_
 rintro _ m5 ⟨⟨L,rfl⟩,aa,t,y,u,c,W⟩
 rw[<-Gn]at c
 have Y:=(O9 n x).2.1.cy
 refine⟨W.fS I,L,O,_,c.bV.dx 2,_,c.bV.dx 3,_,c.bV.dx 4,_,c.bV.dx 5,t,c.bV.dx 6,y,c.bV.dx 7,u,c.bV.dx 8,?_⟩
 intro m6
 refine⟨t,y,u,O,ku (c.cy.oN V) λJ=>cq _ _ _ _ λC=>?_,(q.J c.cW).aV V _ _⟩
 have k:t.cap≠0:=λk=>by have:=(c.cy.zW k).1;simp at this;exact J this
 have F:=(c.cy.bz k).2
 have G:=c.mq g.size V
 rw[C,G]at F
 omega
structure Exe where
 eC:Int
 iQ:Int
 dg:Int
 cy:ab
 ok:Bool
open Classical in
noncomputable def qH (a:cZ) (dL:Int):Exe:=
 if iB a/\0<=dL/\dL<=40 then⟨(pF a dL).eC,(pF a dL).iQ,(pF a dL).dg,(pF a dL).cy,true⟩else⟨0,0,0,[],false⟩
def aay(b a:bg)(x:Exe)(v:Value):Prop:=∃cy,v=.tuple #[.agg #[vi x.eC,vi x.iQ,vi x.dg,cy.v],vb x.ok]/\jy b a bB 1 cy (x.cy.map Ce.i)/\D b a
def Lh{c d f e:Int}{cy k j:E}{l:ab}(r:ba b cy l)(p:l.length<=1000000000):
 bK dO 30 [.agg #[vi c,vi d,vi f,vi e,cy.v,k.v,j.v]] b λv n=>∃q,v=.agg #[vi c,vi d,vi f,q.v]/\jy b n bB 1 q (l.map Ce.i)/\D b n:=by
 apply Fw
 simp -zeta only[dR]
 intro o h
 have m:D b h:=((D.cU b).bZ _).bZ _
 have u:=pz o
 have w:h.size=b.size+2:=cB
 have g:dF h b.size mg [.i c,.i d,.i f,.i e,.s cy,.s k,.s j]:=(dF.push b _ _).ext (D.push o _)
 refine(oQ (r.ext m) p).aP ?_
 rintro _ s ⟨q,rfl,i,a⟩
 refine⟨a.eV cB,q,O,a.da (g.dx 2),a.da (g.dx 1),a.da (g.dx 0),?_⟩
 intro t
 refine⟨q,O,?_,(m.J a).aV V _ _⟩
 rcases i.bz with e|e
 .subst e;exact⟨i.aT,bC O⟩
 .exact(i.congr (cq _ _ _ _ V)).cW V
def Oi(x:gY b d p a)(dL:Int):bK dO 9 [.agg #[d.v,p.v],vi dL] b λG C=>aay b C (qH a dL) G:=by
 apply I6;simp -zeta only[dR];intro j k;have i:D b k:=((D.cU b).bZ _).bZ _;have Q:=pz j;have R:k.size=b.size+2:=cB;have h:∀c∈[j.size,b.size],c<k.size:=cB;have y:∀{r:bg},D k r->¬(iB a/\0<=dL/\dL<=40)->aay b (aV r j.size 0 [.i (0:Int),.i (0:Int),.i (0:Int),.s E.nil]) (qH a dL) (.tuple #[.agg #[vi (0:Int),vi (0:Int),vi (0:Int),E.v E.nil],vb false]):=λg z=>by
  rw[qH,aW z];exact⟨.nil,O,jy.gN _ _ _ _,(i.J g).aV V _ _⟩
 refine(JG (x.ext i)).bL cY h λc r e g _=>⟨c,O,λm=>y g (λl=>nb e m l.1),λm=>?_⟩;have q:=yb e m;refine(dj).bL g h λb2 L w I f=>⟨b2,O,λn=>y f (λl=>nb w n l.2),λn=>?_⟩;have o:=yb w n;refine(Oq (x.ext (i.J f)) q o).aP ?_;rintro _ M ⟨cy,J,H,rfl,B,u⟩;have l:=f.J u;have K:=(O9 q o).2.1.cy;refine⟨u.eV (λc e=>f.lt (h c e)),_,_,_,_,_,_,_,O,(Lh B V).aP ?_⟩;rintro _ N ⟨F,rfl,s,v⟩;refine⟨v.eV (λc e=>l.lt (h c e)),_,_,_,_,O,?_⟩;intro P;rw[qH,bn ⟨q,o⟩];have A:b.size<=j.size:=V;generalize pF a dL=st at*;refine⟨F,O,?_,(i.J (l.J v)).aV A _ _⟩;have:=l.aQ;rcases s.bz with t|t
 .subst t;exact⟨s.aT,bC O⟩
 .exact(s.congr (cq _ _ _ _ V)).cW V
end
section
variable{m:bg}{s:E}{l:ab}{h:ah}{w:Int}{a:Nat}
def gT(c:ba m s l)(n:l.length<=1000000000):sD 62 [s.v] m l:=by
 apply xJ;have b:=c.aT;refine⟨λh=>?_,λh=>?_⟩
 .cases s with
  |nil=>simp at b;have:l=[]:=cp.1 b.symm;subst this;exact⟨.nil,O,jy.gN _ _ _ _,cY⟩
  |mk a o e d=>simp at h
  |DK a o sp=>simp at h
 .intro d;have a:=px d;have f:jy m d bB 1 (.mk m.size 0 0 0) []:=jy.bF (D.cU m) bB 1 [] 0 bO;refine jy.fx (c:=[.i 0]) (i:=l.map Ce.i) f a (by simp[b]) (c.ext a).Ms eX λr o a e g i j k=>⟨r,O,sp a,e⟩
def V7{a:List ae}{n e f:Nat}{b:ae}(d:s.len=n)(i:a.length=n)(o:∀c∈a,c.length=b.length)(k:jG m s.bz s.off a.flatten)(l:n*f<=140737488355328):
 (s.Ew=true->∃r,E.v .nil=r.v/\jy m m e b.length r a.flatten/\D m m)/\(s.Ew=false->let g:bg:=m.push (.cells (db []) e);mj g e b f (.mk m.size 0 0 0) s λq c=>∃r,q.v=r.v/\jy m c e b.length r a.flatten/\D m c):=by
 refine⟨λh=>?_,λh=>?_⟩
 .cases s with
  |nil=>simp at d;have:a=[]:=cp.1 V;subst this;exact⟨.nil,O,jy.gN _ _ _ _,cY⟩
  |mk c g p j=>simp at h
  |DK c g sp=>simp at h
 .have c:D m (m.push (.cells (db []) e)):=(D.cU m).bZ _
  have j:jy m (m.push (.cells (db []) e)) e b.length (.mk m.size 0 0 0) []:=jy.bF (D.cU m) e _ [] 0 bO
  refine jy.fx (c:=b) (i:=a.flatten) j c (by rw[dS o,i,d]) (c.kZ k) (by simp only[E.kv];rw[d,eW];exact l) λr v c g p q t u=>⟨r,O,sp c,g⟩
def wm(g:ba m s l)(b:Int):bK dO 99 [s.v,vi b] m λv i=>∃r:Int,v=vi r/\D m i/\((r= -1/\b∉l)\/(b∈l/\r=tH l b)):=by
 apply xL;have j:=g.aT;refine gP (n:=l.length) (j▸g.kK) (λk i=>D m i/\b∉l.take k) ⟨cY,bO⟩ ?_;rintro k u I μ t ⟨f,e⟩ p
 refine dit (λh=>?_) λh=>?_
 .let⟨x,d⟩:=dV l k;refine⟨V,V,x,by simpa using f.aS (g.bt d),λc=>?_,λc=>p V _ ⟨f,?_⟩⟩
  .simp at c;subst c;refine⟨_,O,f,bR ⟨aZ d,?_⟩⟩;have:tH l b=k:=by
    unfold tH;rw[List.findIdx_eq (br d)];refine⟨by have:=(mQ.1 d).2;simp[this],λo q=>?_⟩;simp;intro a;apply e;rw[<-a];exact HK.2 ⟨o,V,O⟩
   rw[this]
  .rw[bX d];simp at c;intro a;rcases bU.1 a with a|a
   .exact e a
   .simp at a;exact c a
 .rw[eQ V]at e;exact⟨_,O,f,bC ⟨O,e⟩⟩
def lF(c:ba m s l)(n:Int):fW dO 59 [s.v,vi n] m (n∈l):=by
 apply vj;refine(wm c n).aP ?_;rintro _ f ⟨r,rfl,d,h⟩;refine⟨_,O,kY ?_ d⟩;simp only[bh];rcases h with⟨rfl,h⟩|⟨b,e⟩
 .exact⟨λa=>V,λa=>absurd a h⟩
 .exact⟨λ_=>b,λ_=>V⟩
def kC{t:E}{r:ab}(d:ba m s l)(i:ba m t r):fW dO 141 [s.v,t.v] m (l=r):=by
 apply xK;have j:=d.aT;have q:=i.aT;refine⟨λh=>fy (λe=>by subst e;simp at h;omega) cY,λh=>?_⟩;simp at h;refine gP (n:=l.length) (j▸d.kK) (λk a=>D m a/\l.take k=r.take k) ⟨cY,bO⟩ ?_;rintro k u I μ p ⟨b,g⟩ o
 refine⟨λh=>?_,λh=>oD (by simp at h;rwa[eQ V,eQ V]at g) b⟩;simp only[bh]at h;let⟨x,f⟩:=dV l k;let⟨y,c⟩:=dV r k;refine⟨V,V,x,by simpa using b.aS (d.bt f),V,V,y,by simpa using b.aS (i.bt c),λa=>fy (λe=>?_) b,λa=>o V _ ⟨b,?_⟩⟩
 .subst e;rw[f]at c;simp at c;simp at a;exact a c
 .rw[bX f,bX c,g];simp at a;rw[a]
def kN{a:E}(j:gA m a h)(t:w<=9223372036854775807):
 bK dO 138 [a.v,vi w] m λv p=>∃(i:Int)(e:Bool),v=.tuple #[vi i,vb e]/\(e=true<->iH h w)/\(e=true->i=ix w)/\D m p:=by
 apply Kr
 have k:=j.aT
 refine⟨λc=>?_,λc=>?_⟩
 .simp at c
  have l:eJ (w -1000)=w -1000:=iz
  have o:(ix w:Int)=w -1000:=by unfold ix;omega
  rw[l]
  refine⟨λg=>?_,λg=>?_⟩
  .simp at g
   let⟨f,b⟩:=dV h ((w -1000).toNat)
   obtain⟨r,s,n,_⟩:=j.bt b
   refine⟨V,V,f.bT,n,_,_,O,?_,λ_=>o.symm,cY⟩
   simp only[bh]
   refine⟨λa=>⟨c,f,b,a⟩,λ⟨_,q,d,a⟩=>?_⟩
   unfold ix at d
   rw[b]at d;simp at d;subst d;exact a
  .simp at g
   refine⟨_,_,O,⟨sx,λ⟨_,f,b,_⟩=>?_⟩,sx,cY⟩
   have:=br b
   omega
 .simp at c
  exact⟨_,_,O,⟨sx,λk=>oh k.1⟩,sx,cY⟩
def P1{b:E}(f:aS m a 8=some b.v)(g:gA m b h)(i:w<=9223372036854775807):fW dO 86 [vp a 0,vi w] m (iH h w):=by
 apply ys (a,0);refine⟨b,f,(kN g i).aP ?_⟩;rintro _ k ⟨c,d,rfl,e,_,j⟩;exact⟨c,d,O,kY e j⟩
def IM(e:ba m s l)(q:l.length<=100000000):sD 142 [s.v] m (oC l):=by
 apply C0;have p:=e.aT;refine gL (n:=l.length) V (λk s a=>D m a/\jy m a bB 1 s ((oC (l.take k)).map Ce.i)) ⟨cY,by simpa[oC]using jy.gN m m bB 1⟩ ?_;rintro k s r I μ o ⟨b,a⟩ f
 refine dit (λh=>?_) λh=>?_
 .let⟨x,c⟩:=dV l k;refine⟨V,V,x,by simpa using b.aS (e.bt c),λd=>?_,λg=>?_⟩
  .intro t;refine rZ a b (by have:=sa (l.take k);simp at this;omega) λv u i j=>f V _ _ ⟨j,?_⟩
   rw[bX c,sZ];have:oC [x]=[x]:=by simp at d;simp[oC,d]
   rw[this];exact i
  .refine f V _ _ ⟨b,?_⟩
   rw[bX c,sZ];have:oC [x]=[]:=by simp at g;simp[oC];omega
   rw[this,fP];exact a
 .rw[eQ V]at a;exact⟨s,O,a,b⟩
def Cq(g:ba m s l):fW dO 88 [s.v] m (Yh l):=by
 apply IC;refine(jV g 139 #[] #[] cD (λx=>x≠0) (λx _ i d=>?_)).cg λb j f d=>⟨b,O,kY ?_ d⟩
 .simp only[iA,fP];apply Ek;exact kY bO cY
 .have e:(!b)=true<->¬(b=true):=bO;rw[e,f];unfold Yh;constructor
  .intro h n c;exact iC λa=>h ⟨n,c,a⟩
  .rintro h ⟨n,c,a⟩;exact a (h n c)
def Ab{ah T:E}{b:cZ}(ac:gY m ah T b)(g1:aS m a 1=some T.v){x:Instr}(hc:DL b x){g j:E}(w:ba m g x.aO)(aB:x.aO.length<=1000000)(ai:(x.op=16\/x.op=17)->1<=x.aO.length):
 bK dO 85 [vp a 0,xv x g j] m λaq S=>∃s l,aq=.tuple #[s.v,l.v]/\ba S s (cO b x)/\ba S l (if x.op=9\/x.op=24 then fK b x 0 x.aO else[])/\D m S/\(s=.nil\/s.bz=g.bz\/m.size<=s.bz)/\(l=.nil\/m.size<=l.bz):=by
 apply wE (a,0)
 simp -zeta only[dR]
 intro c
 obtain⟨u,s1⟩:=pu c
 have P:∀o∈[m.size],o<c.size:=by simp[c]
 have aa:=w.aT
 have av:=w.ms
 have M:ba c .nil []:=⟨O,bO,bO,bO⟩
 refine⟨λe=>?_,λp=>⟨λe=>?_,λt=>⟨λe=>?_,λq=>?_⟩⟩⟩
 .simp only[eH,bP]at e
  refine⟨g,.nil,O,?_,by rw[aW V];exact M,u,bR (bC O),bC O⟩
  unfold cO;rw[bn V];exact w.ext u
 .simp only[eH,bP]at e
  simp only[cV,bd]at p
  refine⟨V,V,V,_,.nil,O,?_,by rw[aW V];exact M,u,bR (bC ?_),bC O⟩
  .unfold cO;rw[aW V,bn e]
   exact fX.SZ (w.ext u) (ai e)
  .cases g with
   |nil=>simp at aa;omega
   |DK o d sp=>simp at aa;omega
   |mk o d l f=>rfl
 .simp only[eH,bP]at e
  simp only[cV,bd]at p t
  let⟨h0,aC,K⟩:=hc e
  have aA:=ac.di.aT
  have az:=br K
  have ap:∃(v:E->E->Int->bg->Prop)(μ0:E->E->Int->bg->Nat),v E.nil E.nil (0:Int) c/\(∀(aU:E)(df:E)(i:Int)(d:bg),v aU df i d->∃k:Nat,i=k/\k<=x.aO.length/\D c d/\jy c d bB 1 aU ((lS b x k).map Ce.i)/\jy c d bB 1 df ((fK b x 0 (x.aO.take k)).map Ce.i)/\(aU≠.nil->df≠.nil->aU.bz≠df.bz))/\
   (∀(aU df:E)(k:Nat)(d:bg),k<=x.aO.length->D c d->jy c d bB 1 aU ((lS b x k).map Ce.i)->jy c d bB 1 df ((fK b x 0 (x.aO.take k)).map Ce.i)->(aU≠.nil->df≠.nil->aU.bz≠df.bz)->v aU df k d)/\(∀g o i m,μ0 g o i m=((x.aO.length:Int) -i).toNat):=
   ⟨λaU df i d=>∃k:Nat,i=k/\k<=x.aO.length/\D c d/\jy c d bB 1 aU ((lS b x k).map Ce.i)/\jy c d bB 1 df ((fK b x 0 (x.aO.take k)).map Ce.i)/\(aU≠.nil->df≠.nil->aU.bz≠df.bz),λ_ _ i _=>((x.aO.length:Int) -i).toNat,
    ⟨0,O,iD _,cY,by simpa[lS,jW]using jy.gN c c bB 1,by simpa[fK]using jy.gN c c bB 1,λh=>absurd O h⟩,λ_ _ _ _ h=>h,λaU df k d f r y z A=>⟨k,O,f,r,y,z,A⟩,λ_ _ _ _=>O⟩
  let⟨v,μ0,aj,ao,ad,hμ⟩:=ap
  refine⟨v,μ0,aj,?_⟩
  intro aU df i d hI
  obtain⟨k,rfl,hk,Z,o1,o2,J⟩:=ao aU df i d hI
  have L:=u.J Z
  refine dit (λh=>?_) λh=>?_
  .let⟨y,Q⟩:=dV x.aO k
   obtain⟨a',l',c',au,am,aw,k0,k1,_⟩:=(ac.ext L).di.bt K
   have af:(x.aO.take k).length=k:=eX
   have ag:lS b x (k+1)=lS b x k++jW b x k [y]:=by
    unfold lS;rw[bX Q,sj,af,eW]
   have ae:fK b x 0 (x.aO.take (k+1))=fK b x 0 (x.aO.take k)++fK b x k [y]:=by
    rw[bX Q,lx,af,eW]
   have ax:(lS b x k).length<=k:=fD (ye _ _ _ _) eX
   have ay:(fK b x 0 (x.aO.take k)).length<=k:=by
    have:∀(l:ab)(j:Nat),(fK b x j l).length<=l.length:=by
     intro l;induction l with
     |nil=>intro j;exact bY
     |cons ar l R=>intro j;have:=R (j+1);simp only[fK];split<;>simp<;>omega
    have:=this (x.aO.take k) 0;omega
   have Y:eJ ((k:Int)+1)=((k+1:Nat):Int):=nt (n:=x.aO.length) V V
   refine⟨V,V,y,by simpa using L.aS (w.bt Q),T,L.aS g1,h0,V,l',k1,(lF am _).bL Z P λo m3 hb G F=>⟨o,O,λal=>?_,λak=>?_⟩⟩
   .have z:=(P8 K k).2 (hb.1 al)
    intro r
    have s4:=pz r
    have N:=o1.ext G
    have an:df.len=(fK b x 0 (x.aO.take k)).length:=by have:=o2.aT;simp at this;omega
    refine jy.fx (c:=[.i 0]) (i:=[.i y]) ((o2.ext G).ext (D.push _ _)) (F.bZ _) O (dF.push m3 _ _).kZ eX λs m5 U C q3 q4 W X=>⟨D.wK (F.bZ _) C P,?_⟩
    rw[Y]
    refine⟨ad _ _ _ _ V C ?_ ?_ ?_,by rw[hμ,hμ];omega⟩
    .rw[ag]
     have:jW b x k [y]=[]:=by simp only[jW];rw[bn z]
     rw[this,fP]
     rcases N.lt with e|e
     .subst e;exact⟨N.aT,bC O⟩
     .refine N.congr ?_
      rw[W _ (show _<r.size by omega) (λB=>?_),uH,aW V]
      by_cases A:aU=.nil
      .subst A
       rcases o2.bz with q|q
       .exact absurd q B
       .simp;omega
      .exact J A B
    .rw[ae]
     have:fK b x k [y]=[y]:=by simp only[fK];rw[bn z]
     rw[this];simpa using U
    .intro H I
     rcases X with⟨_,e⟩|⟨p,t,_⟩|e
     .exact absurd e I
     .rw[t];exact J H p
     .rw[e]
      rcases N.lt with f|f
      .exact absurd f H
      .show aU.bz≠r.size;omega
   .have z:¬lB b x k=true:=λhh=>fb hb ak ((P8 K k).1 hh)
    intro r
    have s4:=pz r
    have N:=o2.ext G
    have an:aU.len=(lS b x k).length:=by have:=o1.aT;simp at this;omega
    refine jy.fx (c:=[.i 0]) (i:=[.i y]) ((o1.ext G).ext (D.push _ _)) (F.bZ _) O (dF.push m3 _ _).kZ eX λs m5 U C q3 q4 W X=>⟨D.wK (F.bZ _) C P,?_⟩
    rw[Y]
    refine⟨ad _ _ _ _ V C ?_ ?_ ?_,by rw[hμ,hμ];omega⟩
    .rw[ag]
     have:jW b x k [y]=[y]:=by simp only[jW];rw[aW z]
     rw[this];simpa using U
    .rw[ae]
     have:fK b x k [y]=[]:=by simp only[fK];rw[aW z]
     rw[this,fP]
     rcases N.lt with e|e
     .subst e;exact⟨N.aT,bC O⟩
     .refine N.congr ?_
      rw[W _ (show _<r.size by omega) (λB=>?_),uH,aW V]
      by_cases A:df=.nil
      .subst A
       rcases o1.bz with q|q
       .exact absurd q B
       .simp;omega
      .exactλe5=>J B A e5.symm
    .intro H I
     rcases X with⟨_,e⟩|⟨p,t,_⟩|e
     .exact absurd e H
     .rw[t];exact J p I
     .rw[e]
      rcases N.lt with f|f
      .exact absurd f I
      .show r.size≠df.bz;omega
  .have r:x.aO.take k=x.aO:=eQ V
   rw[r]at o2
   unfold lS at o1
   rw[r]at o1
   have A:=ye b x x.aO 0
   have y:∀(l:ab)(j:Nat),(fK b x j l).length<=l.length:=by
    intro l;induction l with
    |nil=>intro j;exact bY
    |cons ar l R=>intro j;have:=R (j+1);simp only[fK];split<;>simp<;>omega
   have z:=y x.aO 0
   refine⟨aU,df,O,?_,?_,L,?_,?_⟩
   .unfold cO;rw[aW V,aW V,bn e];exact ba.ju o1 V
   .rw[bn e];exact ba.ju o2 V
   .rcases o1.bz with f|f
    .exact bC f
    .exact bR (bR V)
   .rcases o2.bz with f|f
    .exact bC f
    .exact bR V
 .simp only[cV,bd]at p t q
  refine⟨.nil,.nil,O,?_,by rw[aW V];exact M,u,bC O,bC O⟩
  unfold cO;rw[aW V,aW V,aW V];exact M
end
section
variable{b:bg}{i e:Nat}{d p g k h a j:E}{c:cZ}{s:St}{l:an}{f:bW}{x:Instr}
theorem Mg:∀(l:aC)(k v j:Int),zA (Oh l k v) j=if j=k then v else zA l j
 |[],k,v,j=>by simp[Oh,zA]
 |(a,b)::g,k,v,j=>by
  simp only[Oh];split
  .grind [zA]
  .rename_i h;simp only[zA];split
   .grind
   .exact Mg g k v j
def UX(l:ab)(k:Nat)(a:Nat):iW (l.take k) a<=iW l a:=by
 have:iW l a=iW (l.take k) a+iW (l.drop k) a:=by rw[<-pB,j9]
 have:=lD (l.drop k) a;omega
def Ag{r:E}{h:ah}(T:aS b i 8=some r.v)(C:gA b r h){o:Nat->Int}(P:jd h o){c:dq}(hc:c∈h){f:E}(R:ba b f c.bJ)(av:h.length<=2000000000):
 fW dO 140 [vp i 0,.agg #[vi c.bT,vi c.js,f.v]] b (c.bT=1\/oI h c.bJ):=by
 apply wH (i,0)
 unfold rW
 simp -zeta only[dR]
 intro d
 obtain⟨I,s1⟩:=pu d
 have U:∀e∈[b.size],e<d.size:=by simp[s1]
 have ar:=(P.gZ c hc).fl
 have au:=R.aT
 have aw:=C.aT
 refine⟨λt=>oD (bC cB) I,λt=>?_⟩
 simp only[bd]at t
 intro K
 have ac:=px K
 have ai:H9 K d.size []:=⟨#[],0,by simp[K],O⟩
 refine gP (n:=c.bJ.length) V (λk g=>D d g/\∃l,H9 g d.size l/\(∀a:Nat,zA l a=iW (c.bJ.take k) a)/\∀w∈c.bJ.take k,1000<=w->(bu h w).bT+iW (c.bJ.take k) (ix w)<=999999) ⟨ac,[],ai,λa=>by simp[zA,iW],bO⟩ ?_
 rintro k m3 ap μ hk ⟨u,l,Y,X,S⟩ aa
 have s:=I.J u
 refine dit (λh2=>?_) λh2=>?_
 .let⟨w,m⟩:=dV c.bJ k
  have an:1000<=w->iH h w:=by grind [jd.qd,aZ]
  have am:w<=9223372036854775807:=by
   rcases gJ (1000<=w)with N|N
   .have:=br (dy (an N)).1;unfold ix at this;omega
   .omega
  refine⟨V,V,w,by simpa using s.aS (R.bt m),r,s.aS T,(kN (gA.ext s C) am).bL u U ?_⟩
  rintro _ m4 ⟨a,e,rfl,A,ad,x⟩
  have p:=u.J x
  have ag:d.size<m3.size:=by obtain⟨M,L,y,_⟩:=Y;exact(gV.1 y).1
  have G:H9 m4 d.size l:=by obtain⟨M,L,y,q⟩:=Y;exact⟨M,L,by rw[x.bG _ ag];exact y,q⟩
  have j:∀a:Nat,iW (c.bJ.take (k+1)) a=iW (c.bJ.take k) a+(if w=1000+(a:Int)then 1 else 0):=λa=>by
   rw[bX m,pB];simp[iW]
  refine⟨x,a,e,O,λQ=>?_,λaq=>?_⟩
  .have F:=A.1 Q
   have z:=ad Q
   subst z
   have ao:=lE F.1
   have aB:=lD (c.bJ.take k) (ix w)
   have aA:=pC (c.bJ.take k) (ix w)
   have ax:(c.bJ.take k).length<=3:=cB
   have e1:eJ (zA l (ix w)+1)=iW (c.bJ.take (k+1)) (ix w):=by
    grind [de]
   refine⟨l,G,l,G,?_⟩
   rw[e1]
   intro m5 W ak af
   have v:D d m5:=⟨by rw[ak];exact p.aQ,λe A=>by rw[af e V,p.bG e A]⟩
   have J:=I.J v
   let⟨B,aC⟩:=dy F
   obtain⟨f5,_,k0,_⟩:=(gA.ext J C).bt B
   have ay:=br B
   have az:=(P.gZ _ (aZ B)).hi
   have ae:zA (Oh l (ix w) (iW (c.bJ.take (k+1)) (ix w))) (ix w)=iW (c.bJ.take (k+1)) (ix w):=by grind [Mg]
   have aj:=j (ix w)
   rw[bn ao.symm]at aj
   have e2:eJ ((bu h w).bT+iW (c.bJ.take (k+1)) (ix w))=(bu h w).bT+iW (c.bJ.take (k+1)) (ix w):=iz
   refine⟨D.wK p v U,r,J.aS T,V,V,_,sp k0,_,W,trivial,trivial,?_⟩
   rw[ae,e2]
   refine⟨λq=>fy (λg=>?_) J,λq=>aa V _ ⟨v,_,W,λa=>?_,λab H Z=>?_⟩⟩
   .rcases g with g|g
    .exact t g
    .have:=g w (aZ m) F.1
     have:=UX c.bJ (k+1) (ix w)
     simp at q;omega
   .rw[Mg]
    by_cases z:(a:Int)=ix w
    .grind [ix]
    .rw[aW z,X,j,aW V];omega
   .by_cases al:ab=w
    .grind
    .rw[j,aW (λo=>al (by rw[lE Z]at o;exact o.symm))]
     rw[bX m]at H
     grind
  .have g:w<1000:=by
    grind
   refine aa V _ ⟨p,l,G,λa=>by rw[X,j,aW V];omega,λab H Z=>?_⟩
   rw[j,aW V]
   rw[bX m]at H
   grind
 .rw[eQ V]at S
  exact oD (bR S) s
@[grind cases] structure FP (m:bg) (fb fo:Nat) (f:bW) (r o h:E):Prop where
 g3:aS m fb (fo+3)=some r.v
 g4:aS m fb (fo+4)=some o.v
 g5:aS m fb (fo+5)=some h.v
 aU:ba m r f.aU
 bI:ba m o f.bI
 cC:ba m h f.cC
def FP.ext{b c:bg}{fb e:Nat}{f:bW}{g k h:E}(F:FP b fb e f g k h)(a:D b c):FP c fb e f g k h:=⟨a.aS F.g3,a.aS F.g4,a.aS F.g5,F.aU.ext a,F.bI.ext a,F.cC.ext a⟩
def Ma{fb:Nat}{cy K fr:E}(m:RV b i 3 d p cy K fr c s)(ag:aS b i 2=some (vi (cF c)))(C:wc c s l f x)(L:FP b fb e f g k h)(u:ba b a x.aO)(aA:x.op=11)(ah:s.aR.length<=2000000000):
 fW dO 89 [vp i 0,vp fb e,xv x a j] b (zS c s.aR (bt f.aU (bt x.aO 0))):=by
 apply wG (i,0) (fb,e)
 simp -zeta only[dR]
 intro W
 obtain⟨r,s1⟩:=pu W
 have hl:∀A∈[b.size],A<W.size:=by simp[s1]
 have ap:=u.aT
 have aD:=L.aU.aT
 have h2:=C.oK.2.2.1 V
 have q:0<=bt x.aO 0/\bt x.aO 0<f.aU.length:=C.arg _ (iS V V)
 have am:=C.F.tT q.1 q.2 C.Rp
 have M:=L.ext r
 have R:=C.ok.aR
 have U:=C.ok.iG
 refine⟨K,r.aS m.wi,g,M.g3,V,V,_,(u.ext r).tC V V,q.1,V,_,M.aU.tC q.1 q.2,?_⟩
 generalize bt f.aU (bt x.aO 0)=w at*
 refine(kN (gA.ext r m.aR) am.2).bL cY hl ?_
 rintro _ X ⟨aa,A,rfl,S,ad,F⟩
 have y:=r.J F
 refine⟨F,aa,A,O,λaf=>fy (λn=>nb S af n.1) y,λae=>?_⟩
 have aj:=yb S ae
 have u:=ad cB
 subst u
 let⟨v,ak⟩:=dy aj
 have Q:=R.gZ _ (aZ v)
 have aF:=(Q.wZ ak).2
 have az:=br v
 have ax:=m.aR.aT
 let⟨B,T,k0,k1,k2⟩:=(gA.ext y m.aR).bt v
 refine⟨K,y.aS m.wi,V,V,_,sp k0,_,sp k1,B,sp k2,?_⟩
 intro m3 z
 have N:D X z:=by grind [D.cU,D.bZ,D.aV]
 have s4:z.size=X.size+1:=by grind [bD]
 have o:=y.J N
 have ao:(gR c.bS).length<=12:=by
  have:=tF U.mN.dk c.bS.length;grind [qI]
 have au:(cF c)=((gR c.bS).length:Int):=rfl
 have aC:=m.iG.di.aT
 have aB:=U.mN.aT
 have e1:eJ ((bu s.aR w).js -cF c)=(bu s.aR w).js -cF c:=by grind [de]
 refine⟨cF c,o.aS ag,?_⟩
 rw[e1]
 refine⟨λG=>fy (λn=>by have:=n.2.1;simp at G;omega) o,λG=>⟨p,o.aS m.di,λH=>fy (λn=>by have:=n.2.2.1;simp at H;omega) o,λH=>?_⟩⟩
 simp at G H
 let⟨an,hq⟩:=dV c.di (((bu s.aR w).js -cF c).toNat)
 have al:dG c ((bu s.aR w).js -cF c)=an:=by grind [dG]
 let⟨Z,l',c',ab,ai,ar,j0,j1,j2,j3,j4⟩:=(m.iG.ext o).di.bt hq
 have aq:=ab.aT
 have ay:=ai.aT
 have aw:=T.aT
 have av:=Q.fl
 refine⟨p,o.aS m.di,V,V,Z,j0,l',j1,_,j2,_,j3,c',j4,?_⟩
 intro m5 Y
 have P:D z Y:=by grind [D.cU,D.bZ,D.aV]
 have s6:Y.size=z.size+1:=by grind [bD]
 have t:=o.J P
 have e3:eJ ((B.len:Int)+1)=(B.len:Int)+1:=by grind [de]
 rw[e3]
 unfold zS
 rw[al]
 have aE:=F.aQ
 refine⟨λI=>⟨λJ=>?_,λJ=>fy (λn=>by have:=n.2.2.2.1;simp at J;omega) t⟩,λI=>fy (λn=>by have:=n.2.2.2.2.1;simp at I;omega) t⟩
 simp at I J
 refine(Ag (t.aS m.wi) (gA.ext t m.aR) R (aZ v) (T.ext (N.J P)) ah).bL cY cB λb2 m7 ac n _=>⟨b2,O,kY (ac.trans ?_) (t.J n)⟩
 grind
def IL{fb:Nat}{cy Z fr:E}(u:RV b i 3 d p cy Z fr c s)(C:wc c s l f x)(G:FP b fb e f g k h)(I:ba b a x.aO)(aQ:x.op=14\/x.op=19\/x.op=21\/x.op=16\/x.op=17)(aw:s.aR.length<=2000000000):
 fW dO 90 [vp i 0,vp fb e,xv x a j] b ((x.op=14->iH s.aR (bt f.aU (bt x.aO 0))/\(bu s.aR (bt f.aU (bt x.aO 0))).bT<999999)/\(x.op=19->iH s.aR (bt f.aU (bt x.aO 0))/\x.cE<(bu s.aR (bt f.aU (bt x.aO 0))).bJ.length)/\
  (x.op=21->iH s.aR (bt f.aU (bt x.aO 0))/\(bu s.aR (bt f.aU (bt x.aO 0))).js∈cT c.bS x.cE)/\((x.op=16\/x.op=17)->Gb s.aR f x)):=by
 apply uY (i,0) (fb,e)
 simp -zeta only[dR]
 intro m1
 obtain⟨J,s1⟩:=pu m1
 have hl:∀y∈[b.size],y<m1.size:=by simp[s1]
 have aH:=I.aT
 have aG:=I.ms
 have aT:=G.aU.aT
 have aL:=G.cC.aT
 have h4:=C.oK
 have aO:=C.Tp
 have ax:1<=x.aO.length:=V
 have aD:=h4.1
 clear h4
 have z:0<=bt x.aO 0/\bt x.aO 0<f.aU.length:=C.arg _ (iS V V)
 have ay:=C.F.tT z.1 z.2 C.Rp
 have F1:=G.ext J
 have hI:=C.ok.aR
 have ap:Gb s.aR f x<->(iH s.aR (bt f.aU (bt x.aO 0))/\oC (bu s.aR (bt f.aU (bt x.aO 0))).bJ=dQ f (x.aO.drop 1)/\((bu s.aR (bt f.aU (bt x.aO 0))).bT=1\/oI s.aR (bu s.aR (bt f.aU (bt x.aO 0))).bJ)/\(x.op=17->bt f.cC (bt x.aO 0)=0)):=Rf
 rw[ap]
 refine⟨Z,J.aS u.wi,g,F1.g3,V,V,_,(I.ext J).tC V V,z.1,V,_,F1.aU.tC z.1 z.2,?_⟩
 generalize bt f.aU (bt x.aO 0)=w at*
 refine(kN (gA.ext J u.aR) ay.2).bL cY hl ?_
 rintro _ F ⟨ah,y,rfl,W,au,Q⟩
 have N:=J.J Q
 refine⟨Q,ah,y,O,λaI=>fy (λU=>?_) N,λav=>?_⟩
 .grind
 have ac:=yb W av
 have aq:=au cB
 subst aq
 let⟨M,aR⟩:=dy ac
 have ab:=hI.gZ _ (aZ M)
 have aP:=br M
 have aM:=u.aR.aT
 let⟨P,Y,k0,k1,k2⟩:=(gA.ext N u.aR).bt M
 refine⟨Z,N.aS u.wi,V,V,_,sp k0,_,sp k1,P,sp k2,?_⟩
 intro m3 v
 have R:D F v:=by grind [D.cU,D.bZ,D.aV]
 have s4:v.size=F.size+1:=by grind [bD]
 have kB:aS v F.size 1=some (vi (bu s.aR w).js):=(dF.aV (m:=m3) (o:=0) (r:=[.i (bu s.aR w).bT,.i (bu s.aR w).js,.s P]) (dF.push F _ _)).dx 1
 have t:=N.J R
 have aU:=Q.aQ
 have B:∀y∈[F.size,b.size],y<v.size:=cB
 have aK:=Y.aT
 refine⟨λA=>?_,λai=>⟨λA=>?_,λak=>⟨λA=>?_,λal=>?_⟩⟩⟩
 .simp at A
  refine kY ?_ t
  simp
  exact⟨λH=>⟨λ_=>⟨ac,H⟩,λq=>V,λq=>V,λq=>V⟩,λH=>(H.1 A).2⟩
 .simp at A
  refine kY ?_ t
  simp
  grind
 .simp at A
  refine⟨d,t.aS u.bS,(xt (u.iG.ext t).bS C.ok.iG.mN.dk _).bL cY B ?_⟩
  rintro _ m5 ⟨K,rfl,L,q⟩
  refine⟨q,K,O,q.da kB,(lF L _).bL q B λb2 m6 X T S=>⟨b2,O,kY (X.trans ?_) (t.J S)⟩⟩
  grind
 .simp at ai ak al
  have aj:x.op=16\/x.op=17:=V
  have e1:(Int.toNat (1:Int))=1:=rfl
  have e2:(Int.toNat (a.len:Int))=a.len:=V
  rw[e1,e2]
  have ad:=aaK (I.ext t) ax
  have aN:=ad.aT
  have aJ:(x.aO.drop 1).length<=4:=cB
  refine⟨V,V,V,?_⟩
  refine gL (n:=(x.aO.drop 1).length) V (λaa s' K=>D v K/\jy v K bB 1 s' ((dQ f ((x.aO.drop 1).take aa)).map Ce.i)) ⟨cY,by simpa[dQ]using jy.gN v v bB 1⟩ ?_
  rintro aa s' m5 aC μ hk ⟨q,o5⟩ aA
  have az:=t.J q
  refine dit (λH=>?_) λH=>?_
  .let⟨ae,K⟩:=dV (x.aO.drop 1) aa
   have L:=C.arg ae (uf (aZ K))
   have F5:=G.ext az
   refine⟨V,V,ae,by simpa using(ad.ext q).bt K,g,F5.g3,L.1,V,_,F5.aU.tC L.1 L.2,?_⟩
   intro m6
   refine rZ o5 q (by simp[dQ];omega) λaf m7 q1 q2=>⟨D.wK (q.bZ _) q2 B,aA V _ _ ⟨q2,?_⟩⟩
   rw[bX K]
   simpa[dQ]using q1
  .rw[eQ V]at o5
   have i5:ba m5 s' (dQ f (x.aO.drop 1)):=by grind [ba.ju,dQ]
   refine(IM (Y.ext (R.J q)) (oh ab.fl)).bL (VI (sa (bu s.aR w).bJ) ab.fl) (λy W=>q.lt (B y W)) λps m6 o6 i6 T=>⟨ps,O,?_⟩
   have S:=q.J T
   refine(kC i6 (i5.ext T)).bL S B λb2 m7 X aE L=>⟨b2,O,λh8=>fy (λU=>nb X h8 (U.2.2.2 aj).2.1) (t.J L),λh8=>?_⟩
   have K:=t.J L
   have ag:bK dO 140 [vp i 0,.agg #[vi (bu s.aR w).bT,vi (bu s.aR w).js,P.v]] m7 λaB ae=>gS [F.size,b.size] m7 ae/\∃af:Bool,aB=vb af/\((af=true<->((bu s.aR w).bT=1\/oI s.aR (bu s.aR w).bJ))/\D b ae):=
    (Ag (K.aS u.wi) (gA.ext K u.aR) hI (aZ M) (Y.ext (R.J L)) aw).bL L B λb3 m8 ar aF ao=>⟨b3,O,ar,t.J ao⟩
   have F7:=G.ext K
   have am:bt x.aO 0<f.cC.length:=V
   refine⟨λan=>⟨h,F7.g5,V,V,_,(I.ext K).tC V V,z.1,V,_,F7.cC.tC z.1 am,λh9=>fy (λU=>?_) K,λh9=>ag.aP ?_⟩,λan=>ag.aP ?_⟩
   .grind
   .grind
   grind
end
section
variable{b:bg}{c:Nat}{a:bW}{d e h:E}
def zh(aU:ab):∀(b a bI:ab),cL aU bI (b++a)=cL aU (cL aU bI b) a
 |[],a,bI=>O
 |y::b,a,bI=>by simp only[eT,cL,zh aU b a]
def Rw{f fb:Nat}(i:aS b f 0=some (vp fb c))(F:FP b fb c a d e h){x:Int}(g:0<=x/\x<a.aU.length):fW dO 87 [vi x,vp f 0] b (1000<=bt a.aU x):=by
 apply zq (f,0);have j:=F.aU.aT;exact⟨(fb,c),i,d,F.g3,g.1,V,_,F.aU.tC g.1 g.2,kY bO cY⟩
def UR{mb fb:Nat}{aL a7 cy u fr:E}{g:cZ}{M:St}(Q:RV b mb 3 aL a7 cy u fr g M)(aU:aS b mb 2=some (vi (cF g))){fs:an}{x:Instr}(C:wc g M fs a x){al a4:E}(S:FP b fb c a d e h)(Z:ba b al x.aO)(aI:M.aR.length<=2000000000):
 fW dO 50 [vp mb 0,vp fb c,xv x al a4] b (pb g M a x (cL a.aU a.bI (cO g x))):=by
 apply Br (mb,0) (fb,c)
 simp -zeta only[dR]
 intro m1 P
 have z:D b P:=((D.cU b).bZ _).bZ _
 have s1:=pz m1
 have s2:P.size=b.size+2:=by simp[P,s1]
 have N:∀j∈[m1.size,b.size],j<P.size:=eX
 have kP:aS P b.size 0=some (vp fb c):=((dF.push b [.p fb c] _).ext (D.push m1 _)).dx 0
 have bb:=Z.aT
 have bq:=S.aU.aT
 have be:=S.cC.aT
 have bj:=C.Tp
 have hd:=C.bH
 have a0:=C.opc
 refine⟨e,z.aS S.g4,(gT (S.bI.ext z) V).bL V N λB m3 oq iq aw=>⟨B,O,?_⟩⟩
 have ap:=iq.aT
 have az:=z.J aw
 refine(Ab (Q.iG.ext az) (az.aS Q.di) C.jF (Z.ext az) (oh C.oK.1) C.oK.2.2.2.1).bL aw N ?_
 rintro _ U ⟨rs,ls,rfl,ar,aA,ax,aK,aJ⟩
 have aP:=aw.J ax
 have a6:=oq.ext ax
 refine⟨ax,rs,ls,O,?_⟩
 have bv:=Nj g x
 have a_:=C.oK.1
 have bs:=ar.aT
 have aR:=C.Pb
 have a1:∀ad∈a.bI,0<=ad:=λad T=>(C.Tz ad T).1
 have bm:P.size<=B.bz:=by
  rcases oq.bz with k|k
  .subst k;simp at ap;omega
  .exact k
 have bp:B.bz<m3.size:=by
  rcases oq.lt with k|k
  .subst k;simp at ap;omega
  .exact k
 have ay:=C.arg
 have kr:∀{v:bg},(∀j,j<U.size->j≠B.bz->v[j]? =U[j]?)->ba v rs (cO g x):=λhk=>ku ar λH=>hk _ (ly ar H) λk=>by
  have aT:x.aO≠[]:=λR=>by
   let⟨y,s⟩:=aav _ H;have:=wV s;rw[R]at this;simp at this
  rcases aK with W|W|W
  .subst W;have:=ar.aT;simp at this;exact H (cp.1 this.symm)
  .rw[W]at k;have:=ly Z aT;omega
  .omega
 have kl:∀{v:bg},(∀j,j<U.size->j≠B.bz->v[j]? =U[j]?)->ba v ls (if x.op=9\/x.op=24 then fK g x 0 x.aO else[]):=λhk=>ku aA λH=>hk _ (ly aA H) λk=>by
  rcases aJ with W|W
  .subst W;have:=aA.aT;simp at this;exact H (cp.1 this.symm)
  .omega
 refine gP (n:=(cO g x).length) V (λp v=>D P v/\(∀j,j<U.size->j≠B.bz->v[j]? =U[j]?)/\jy P v bB 1 B ((cL a.aU a.bI ((cO g x).take p)).map Ce.i)/\∀ad∈cL a.aU a.bI ((cO g x).take p),0<=ad) ⟨aP,λ_ _ _=>O,a6,a1⟩ ?_
 rintro p m5 a8 μ hk ⟨ae,ai,au,K⟩ aD
 have F5:=S.ext (z.J ae)
 have aV:=my a.aU ((cO g x).take p) a.bI
 have aq:ba m5 B (cL a.aU a.bI ((cO g x).take p)):=ba.ju au V
 refine dit (λh6=>?_) λh6=>?_
 .let⟨y,s⟩:=dV (cO g x) p
  have q:=aR y (aZ s)
  have F:cL a.aU a.bI ((cO g x).take (p+1))=if 1000<=bt a.aU y then gX (cL a.aU a.bI ((cO g x).take p)) y (bt (cL a.aU a.bI ((cO g x).take p)) y -1)else cL a.aU a.bI ((cO g x).take p):=by
   rw[bX s,zh];rfl
  have I:y<(cL a.aU a.bI ((cO g x).take p)).length:=V
  have aE:=K _ (iS q.1 I)
  have aF:bt (cL a.aU a.bI ((cO g x).take p)) y<=999999:=by
   let⟨q',L,ah⟩:=ou ((cO g x).take p) a.bI y.toNat _ (jR q.1 I);have:=(C.Tz q' (aZ L)).2;omega
  refine⟨V,V,y,by simpa using(kr ai).bt s,d,F5.g3,q.1,V,_,F5.aU.tC q.1 q.2,λA=>?_,λA=>aD V _ ⟨ae,ai,by rw[F,aW (sp A)];exact au,by rw[F,aW (sp A)];exact K⟩⟩
  simp at A
  rw[bn A]at F
  refine⟨q.1,V,_,aq.tC q.1 I,q.1,V,?_⟩
  have e1:eJ (bt (cL a.aU a.bI ((cO g x).take p)) y -1)=bt (cL a.aU a.bI ((cO g x).take p)) y -1:=iz
  rw[e1]
  rcases au.bt with av|⟨X,aj,tail,z1,z2,z3,z4,z5⟩
  .rw[av]at ap;simp at ap;omega
  .have aM:B.off=0:=by rw[z1];rfl
   have aa:B.bz=X:=by rw[z1];rfl
   have ag:B.off+y.toNat*1=y.toNat:=V
   rw[ag,aa]
   have ao:y.toNat<((cL a.aU a.bI ((cO g x).take p)).map Ce.i).length:=eX
   refine⟨z3.jb (by simp only[dH];omega),?_⟩
   intro m6
   have G:D P m6:=ae.aV V _ _
   have ak:∀j,j<U.size->j≠B.bz->m6[j]? =U[j]? :=λj t H=>by rw[cq _ _ _ _ V];exact ai j t H
   have o6:jy P m6 bB 1 B ((cL a.aU a.bI ((cO g x).take (p+1))).map Ce.i):=by
    rw[F];refine⟨by rw[jX,jP,<-jX (f:=Ce.i)];exact au.aT,bR ⟨X,aj,tail,z1,z2,?_,?_,z5⟩⟩
    .have:=dF.aV (m:=m5) (o:=y.toNat) (r:=[.i (bt (cL a.aU a.bI ((cO g x).take p)) y -1)]) z3;have e6:kJ ((cL a.aU a.bI ((cO g x).take p)).map Ce.i++tail) y.toNat [.i (bt (cL a.aU a.bI ((cO g x).take p)) y -1)]=(gX (cL a.aU a.bI ((cO g x).take p)) y (bt (cL a.aU a.bI ((cO g x).take p)) y -1)).map Ce.i++tail:=by
      simp only[kJ,gX,No];rw[aeT _ _ ao]
     rw[e6]at this;exact this
    .simp only[dH,jX,jP]at z4⊢;exact z4
   have aH:=my a.aU ((cO g x).take (p+1)) a.bI
   have aC:ba m6 B (cL a.aU a.bI ((cO g x).take (p+1))):=ba.ju o6 V
   have Y:bt (cL a.aU a.bI ((cO g x).take (p+1))) y=bt (cL a.aU a.bI ((cO g x).take p)) y -1:=by rw[F,ny q.1 I y q.1,bn O]
   have af:=aC.tC (i:=y) q.1 V
   rw[Y,ag,aa]at af
   refine⟨D.wK ae G N,q.1,V,_,af,λh8=>fy (λw=>?_) (z.J G),λh8=>aD V _ ⟨G,ak,o6,λad T=>?_⟩⟩
   .simp at h8
    have ac:cL a.aU a.bI (cO g x)=cL a.aU (cL a.aU a.bI ((cO g x).take (p+1))) ((cO g x).drop (p+1)):=by rw[<-zh,j9]
    have am:y<(cL a.aU a.bI (cO g x)).length:=by rw[my];omega
    have J:=jR (l:=cL a.aU a.bI (cO g x)) q.1 am
    have aG:=w.nn _ (aZ J)
    rw[ac]at J
    let⟨q',L,ah⟩:=ou _ _ _ _ J
    have aB:=Pv L
    rw[Y]at aB
    rw[<-ac]at ah
    omega
   .rw[F]at T
    rcases tP T with T|T
    .simp at h8;omega
    .exact K ad T
 .have a2:(cO g x).take p=cO g x:=eQ V
  rw[a2]at aq K aV
  have aB:=kl ai
  generalize bl:cL a.aU a.bI (cO g x)=bI at*
  have aY:=aB.aT
  refine⟨λv=>D m5 v/\(lO x.op->bt bI x.bH<=0),?_,?_⟩
  .refine(qL _ _ ⟨V,V⟩).bL ae N λj m6 t af G=>⟨j,O,λI=>⟨hd.1,V,_,(aq.ext af).tC hd.1 V,λA=>fy (λw=>?_) (z.J G),λA=>⟨af,λ_=>by simpa using A⟩⟩,λF=>⟨af,λJ=>absurd J (Go.Vc.fb t F)⟩⟩
   have:=w.bH (t.1 I);simp at A;omega
  .rintro m6 ⟨af,aa⟩
   have a5:∀(ak:ab)(jj:Nat)(y:Int),y∈fK g x jj ak->y∈ak:=by
    intro ak;induction ak with
    |nil=>intro jj y h;simp[fK]at h
    |cons F ak A=>
     intro jj y h;simp only[fK]at h;split at h
     .rcases bo.1 h with rfl|h
      .exact cK
      .exact aX _ (A _ _ h)
     .exact aX _ (A _ _ h)
   generalize ao:(if x.op=9\/x.op=24 then fK g x 0 x.aO else[])=LL at*
   have aQ:∀y∈LL,0<=y/\y<a.aU.length:=λy s=>by
    rw[<-ao]at s;split at s
    .exact ay y (a5 _ _ _ s)
    .simp at s
   refine gP (n:=LL.length) (aY▸aB.kK) (λp v=>D m5 v/\∀y∈LL.take p,1000<=bt a.aU y->iH M.aR (bt a.aU y)) ⟨af,bO⟩ ?_
   rintro k2 m7 I2 μ2 bi ⟨ag,aj⟩ aC
   have Y:=ae.J ag
   have A:=z.J Y
   have I:=S.ext A
   refine dit (λh8=>?_) λh8=>?_
   .let⟨y,s⟩:=dV LL k2
    have q:=aQ y (aZ s)
    refine⟨V,V,y,by simpa using(aB.ext ag).bt s,d,I.g3,q.1,V,_,I.aU.tC q.1 q.2,λG=>?_,λG=>aC V _ ⟨ag,dK s aj λu=>by simp at G;omega⟩⟩
    simp at G
    refine(P1 (A.aS Q.wi) (gA.ext A Q.aR) (C.F.tT q.1 q.2 C.Rp).2).bL Y N λj m8 t ah J=>⟨j,O,λF=>fy (λw=>?_) (z.J J),λF=>aC V _ ⟨ag.J ah,dK s aj λ_=>yb t F⟩⟩
    have L:=aZ s
    rw[<-ao]at L
    split at L
    .rename_i e9;exact nb t F (w.df e9 y L G)
    .simp at L
   .rw[eQ V]at aj
    have ac:(x.op=9\/x.op=24)->Po g M.aR a x:=λe9=>by rw[bn e9]at ao;rw[<-ao]at aj;exact aj
    have a3:=aq.ext ag
    have hV:=Q.ext A
    have aE:1<=x.aO.length->0<=bt x.aO 0/\bt x.aO 0<a.aU.length:=λX=>ay _ (iS V V)
    have ga:∀{v},D b v->1<=x.aO.length->aS v al.bz (al.off+Int.toNat (0:Int)*1)=some (vi (bt x.aO 0)):=λhx X=>(Z.ext hx).tC V V
    clear aD aC ai kr kl a0 aK aJ
    refine⟨λk=>?_,λe1=>?_⟩
    .simp only[eH,bP]at k
     refine(jV (Z.ext A) 87 #[] #[vp b.size 0] cD (λy=>1000<=bt a.aU y) (λy s v am=>?_)).bL Y (λj t=>N j (by simp at t;simp[t])) λj m8 t ah J=>⟨j,O,kY ?_ (z.J J)⟩
     .simpa using Rw (am.aS (Y.aS kP)) (I.ext am) (ay y s)
     .have av:(!j)=true<->¬(j=true):=bO
      rw[av,t]
      constructor
      .intro aF
       have u:∀y∈x.aO,bt a.aU y<1000:=λy s=>by
        rcases gJ (1000<=bt a.aU y)with X|X
        .exact absurd ⟨y,s,X⟩ aF
        .omega
       have L:x.op≠6/\x.op≠24/\x.op≠23/\x.op≠11/\x.op≠14/\x.op≠15/\x.op≠16/\x.op≠17/\x.op≠19/\x.op≠21:=by rcases k with k|k|k|k|k|k<;>rw[k]<;>decide
       exact⟨K,aa,λ_=>u,λq=>absurd q L.1,ac,λq=>q.elim (λh=>absurd h L.2.1) (λh=>absurd h L.2.2.1),λq=>absurd q L.2.2.1,λq=>absurd q L.2.2.2.1,λq=>absurd q L.2.2.2.2.1,λq=>absurd q L.2.2.2.2.2.1,λq=>q.elim (λh=>absurd h L.2.2.2.2.2.2.1) (λh=>absurd h L.2.2.2.2.2.2.2.1),λq=>absurd q L.2.2.2.2.2.2.2.2.1,λq=>absurd q L.2.2.2.2.2.2.2.2.2⟩
      .rintro w ⟨y,s,X⟩
       have:=w.oN V y s;omega
    simp only[cV,bd]at e1
    refine⟨λk=>?_,λe6=>?_⟩
    .simp only[bP]at k
     have bf:=C.oK.2.2.2.2.1 k
     have kH:JY M.aR a x->pb g M a x bI:=λu=>by
      refine⟨K,aa,?_,?_,ac,?_,?_,?_,?_,?_,?_,?_,?_⟩<;>intro q<;>first|(exfalso;omega)|exact u
     refine⟨λG=>?_,λG=>oD (kH λH=>absurd (sp G) H) A⟩
     simp at G
     have aG:eJ (x.dh -1)=x.dh -1:=iz
     rw[aG]
     have L:0<=x.dh -1/\x.dh -1<a.cC.length:=V
     refine⟨h,I.g5,V,V,_,I.cC.tC L.1 L.2,λF=>?_,λF=>oD (kH λ_ H=>absurd (sp F) H) A⟩
     simp at F
     obtain⟨T,dd,av,_⟩:=C.P6 _ (iS L.1 L.2) F
     have bk:=br av
     have aN:ix (bt a.cC (x.dh -1))=(bt a.cC (x.dh -1) -1000).toNat:=rfl
     have aH:eJ (bt a.cC (x.dh -1) -1000)=bt a.cC (x.dh -1) -1000:=iz
     have bc:=Q.aR.aT
     let⟨f9,aM,k0,k1,aO⟩:=(gA.ext A Q.aR).bt av
     have a9:=aM.aT
     have aF:bu M.aR (bt a.cC (x.dh -1))=dd:=by simp[bu,av]
     refine⟨u,hV.wi,h,I.g5,V,V,_,I.cC.tC L.1 L.2,?_⟩
     rw[aH,<-aN]
     refine⟨V,V,f9,aO,kY ?_ A⟩
     simp only[bP]
     refine⟨λam=>kH λ_ _=>by rw[aF];omega,λw=>?_⟩
     have:=w.kD k G F
     rw[aF]at this;omega
    simp only[bd]at e6
    refine⟨λk=>?_,λaN=>?_⟩
    .simp only[eH,bP]at k
     refine(Cq a3).bL Y N λj m8 t ah J=>⟨j,O,λG=>fy (λw=>nb t G (w.ov k).1) (z.J J),λG=>?_⟩
     have F8:=S.ext (z.J J)
     refine⟨h,F8.g5,(Cq F8.cC).bL J N λb2 m9 aH a9 aG=>⟨b2,O,λF=>fy (λw=>nb aH F (w.ov k).2) (z.J aG),λF=>?_⟩⟩
     have L:=z.J aG
     have F9:=S.ext L
     have kH:(x.op=23->1<M.bq.length\/bt a.aU (bt x.aO 0)<1000)->pb g M a x bI:=λu=>by
      refine⟨K,aa,?_,?_,ac,?_,?_,?_,?_,?_,?_,?_,?_⟩<;>intro q<;>first|exact u q|(exfalso;omega)|exact⟨(yb t G),(yb aH F)⟩
     have bc:=Q.bq.aT
     refine⟨λam=>oD (kH λq=>by simp at am;omega) L,λam=>⟨fr,L.aS Q.Tf,λav=>oD (kH λ_=>bC (by simp at av;omega)) L,λav=>?_⟩⟩
     simp at am av
     have aM:x.op=23:=V
     have X:=C.oK.2.1 V
     have R:=aE V
     refine⟨d,F9.g3,V,V,_,ga L V,R.1,V,_,F9.aU.tC R.1 R.2,kY ?_ L⟩
     simp
     refine⟨λaO=>kH λ_=>bR aO,λw=>?_⟩
     rcases w.tU aM with aF|aF
     .omega
     .exact aF
    simp only[cV,bd]at aN
    refine⟨λk=>?_,λw=>?_⟩
    .simp only[bP]at k
     refine(Ma hV (A.aS aU) C I (Z.ext A) k aI).bL Y N λj m8 t ah J=>⟨j,O,kY (t.trans ?_) (z.J J)⟩
     refine⟨λu=>?_,λh=>h.apply k⟩
     refine⟨K,aa,?_,?_,ac,?_,?_,?_,?_,?_,?_,?_,?_⟩<;>intro q<;>first|(exfalso;omega)|exact u
    simp only[bd]at w
    refine⟨λk=>?_,λG=>?_⟩
    .simp only[bP]at k
     have X:=C.oK.2.1 V
     have R:=aE V
     refine⟨d,I.g3,V,V,_,ga A V,R.1,V,_,I.aU.tC R.1 R.2,kY ?_ A⟩
     simp only[bh]
     refine⟨λu=>?_,λh=>h.Bg k⟩
     refine⟨K,aa,?_,?_,ac,?_,?_,?_,?_,?_,?_,?_,?_⟩<;>intro q<;>first|(exfalso;omega)|exact u
    simp only[bd]at G
    refine⟨λk=>?_,λF=>?_⟩
    .simp only[eH,bP]at k
     refine(IL hV C I (Z.ext A) V aI).bL Y N λj m8 t ah J=>⟨j,O,kY (t.trans ?_) (z.J J)⟩
     refine⟨λu=>?_,λh=>⟨h.dup,h.tO,h.xW,h.Ql⟩⟩
     refine⟨K,aa,?_,?_,ac,?_,?_,?_,u.1,?_,u.2.2.2,u.2.1,u.2.2.1⟩<;>intro q<;>exfalso<;>omega
    .simp only[cV,bd]at F
     refine oD ?_ A
     refine⟨K,aa,?_,?_,ac,?_,?_,?_,?_,?_,?_,?_,?_⟩<;>intro q<;>exfalso<;>omega
end
section
variable{N c:Nat}{b:ag}{a:bg}{h:ah}
def qK(w:Int)(a:bg):DO dO 98 [vi w] a (vi (iV w)):=by
 apply Ai;unfold iV;exact⟨λh=>by simp at h;rw[bn h];exact⟨O,cY⟩,λh=>by simp at h;rw[aW V];exact⟨O,cY⟩⟩
def yQ{d:E}(p:gC N b a d h)(y:∀e,a.size<=e->b e=0)(kb:dF a c ig [.s d])(A:b c=5)(G:h.length<=2000000000):
 bK dO 145 [vp c 0] a λ_ g=>gC N b g (d.cut 0 (lL h h.length) 3) (pG h)/\dF g c ig [.s (d.cut 0 (lL h h.length) 3)]/\HC b a b g:=by
 apply Eo (c,0)
 have F:=p.aT
 have q:=p.jI V
 have C:=q.ms
 have j:=kb.dx 0
 refine⟨d,j,λl g=>g=a/\∃n:Nat,l=n/\n<=h.length/\lL h n=lL h h.length,λl _=>l.toNat,⟨O,h.length,V,bY,O⟩,?_⟩
 rintro l e ⟨rfl,n,rfl,z,r⟩
 have u:Int.toNat 0=0:=rfl
 have en:Int.toNat (n:Int)=n:=V
 have kH:lL h n=n->gC N b (aV e c 0 [.s (d.cut 0 n 3)]) (d.cut 0 (lL h h.length) 3) (pG h)/\dF (aV e c 0 [.s (d.cut 0 n 3)]) c ig [.s (d.cut 0 (lL h h.length) 3)]/\HC b e b (aV e c 0 [.s (d.cut 0 n 3)]):=λt=>by
  have f:dI (λk=>k=5) b e b (aV e c 0 [.s (d.cut 0 n 3)]):=dI.aV y A _ _;have i:lL h h.length=n:=by rw[<-r,t]
  rw[i];refine⟨?_,dF.aV (m:=e) kb,f.aP λk x=>bR (bC x)⟩;have:=(p.fO f cD cD).ry z;unfold pG;rw[i];exact this
 refine dit (λw=>?_) λw=>?_
 .obtain⟨k,rfl⟩:∃k,n=k+1:=⟨n -1,V⟩
  have i:eJ (((k+1:Nat):Int) -1)=(k:Int):=by rw[iz];omega
  let⟨s,f⟩:=dV h k
  obtain⟨B,D,v,_⟩:=q.bt f
  refine⟨d,j,?_⟩
  rw[i]
  refine⟨V,V,s.bT,sp v,λo=>⟨⟨O,k,O,V,?_⟩,by show(k:Int).toNat<((k+1:Nat):Int).toNat;omega⟩,λo=>⟨d,j,V,V,V,kb.jb bO,?_⟩⟩
  .rw[<-r,Vq f (sp o)]
  .rw[u,en];exact kH (Q6 f (sp o))
 .have o:n=0:=V
  subst o
  exact⟨d,j,V,V,V,kb.jb bO,kH O⟩
def Kp{e:E}(hh:gC N b a e h)(hn:∀g,a.size<=g->b g=0)(kb:dF a c ig [.s e])(hr:b c=5){w:Int}{U:Nat->Int}(hI:jd h (λg=>U g+iW [w] g))(Y:∀g,0<=U g)(aL:h.length<=2000000000):
 bK dO 96 [vp c 0,vi w] a λ_ m=>∃q am,gC N q m am (pG (jL h [w]))/\dF m c ig [.s am]/\HC b a q m:=by
 apply En (c,0)
 intro F
 obtain⟨W,s1⟩:=pu F
 have o1:jy a F bB 1 (.mk a.size 0 1 1) ([w].map Ce.i):=jy.bF (D.cU a) bB 1 _ 1 bO
 have c1:HC b a (oH b a.size 6) F:=dI.oH W hn bY V 6
 have a1:iE (oH b a.size 6) F bB 1 6 (.mk a.size 0 1 1) ([w].map Ce.i):=iE.ju o1 λ_=>gU
 have aB:gC N (oH b a.size 6) F e h:=hh.fO (dI.oH (p:=λ_=>False) W hn bY V 6) id id
 have aF:=kb.ext W
 have aC:oH b a.size 6 c=5:=by rw[fL (oh kb.lt)];exact hr
 have aI:=Th λaw d=>(hI.gZ aw d).fl
 have aJ:=hh.aT
 refine Pg (λi G m=>∃q,gC N q m e i.1/\iE q m bB 1 6 G (i.2.reverse.map Ce.i)/\HC b a q m/\jd i.1 (λg=>U g+iW i.2 g)/\jL i.1 i.2=jL h [w]/\i.1.length=h.length/\i.2.length+Gy i.1<=1+Gy h/\dF m c ig [.s e]/\q c=5) (λi=>D0 i.1+i.2.length) (h,[w])
  ⟨_,aB,a1,c1,hI,O,O,bO,aF,aC⟩ ?_
 rintro⟨d,st⟩ G m2 aG μ ⟨n,y,a2,i,s,t,J,ag,M,u⟩ ac
 simp only[]at y a2 s t J ag
 have ap:G.len=st.length:=by have:=a2.aT;simp at this;omega
 refine dit (λh3=>?_) λh3=>?_
 .cases st with
  |nil=>simp at ap;omega
  |cons x r=>
   simp only[VC]at a2
   let⟨p1,p2,p3⟩:=a2.pop
   simp only[dz,qC]at ap p1 p2 p3 ag
   have e1:eJ ((G.len:Int) -1)=(r.length:Int):=by rw[iz];omega
   have aH:=a2.le
   have e2:Int.toNat 0=0:=rfl
   have e3:Int.toNat (r.length:Int)=r.length:=V
   have aq:1000<=x->iH d x:=λL=>s.Uv Y L
   have aE:x<=9223372036854775807:=by
    rcases gJ (1000<=x)with j|j
    .have:=br (dy (aq j)).1;unfold ix at this;omega
    .omega
   refine⟨e,M.dx 0,?_⟩
   rw[e1,e2,e3]
   refine⟨V,V,x,p2,(kN (y.jI V) aE).aP ?_⟩
   rintro _ P ⟨av,g,rfl,ae,az,l⟩
   refine⟨av,g,O,V,V,V,λaA=>?_,λaf=>?_⟩
   .have L:=nb ae aA
    have H:HC n m2 n P:=dI.fC l i.bF
    refine ac (d,r) _ _ ⟨n,y.fO (dI.fC (p:=λ_=>False) l i.bF) id id,p3.fO (dI.fC (p:=λ_=>False) l i.bF) id,i.J H,s.Xo ?_,?_,J,by simp only[];omega,M.ext l,u⟩ bO
    .rcases gJ (1000<=x)with j|j
     .exact absurd (aq j) L
     .omega
    .rw[<-sH L];exact t
   .have B:=yb ae af
    have ay:=az (sp af)
    subst ay
    let⟨k,an⟩:=dy B
    have aj:=br k
    have aK:=(s.gZ _ (aZ k)).hi
    have ax:Int.toNat ((ix x:Nat):Int)=ix x:=V
    have H:HC n m2 n P:=dI.fC l i.bF
    have z:gC N n P e d:=y.fO (dI.fC (p:=λ_=>False) l i.bF) id id
    have a3:=p3.fO (dI.fC (p:=λ_=>False) l i.bF) id
    have C:=M.ext l
    obtain⟨f0,g0,_,_,_,_⟩:=z.dx k
    refine⟨e,C.dx 0,?_⟩
    rw[ax]
    refine⟨V,V,_,g0,V,V,z.wr (o:=0) aj cD,?_⟩
    have e5:eJ ((bu d x).bT -1)=(bu d x).bT -1:=iz
    rw[e5]
    intro m4
    let⟨aa,S⟩:=z.xI H.bF k ((bu d x).bT -1)
    have a4:=a3.fO S cD
    have v:dF m4 c ig [.s e]:=C.congr (S.fR _ C.lt (by rw[u];decide))
    have R:=(i.J H).J (S.aP λar A=>bC A)
    have X:=mr (d:=kX) k
    simp only[bn an,kX]at X
    simp at X
    have aD:(d.set (ix x) {bu d x with bT:=(bu d x).bT -1})[ix x]? =some {bu d x with bT:=(bu d x).bT -1}:=lA k
    obtain⟨f1,k0,_,k2,kf,kr⟩:=aa.dx aD
    refine⟨e,v.dx 0,V,V,_,k0,λj=>?_,λj=>?_⟩
    .simp only[bP]at j
     have al:(bu d x).bT=1:=V
     have Z:=kf.aT
     simp only[]at Z kf kr
     have I:=Ei kX k
     simp only[kX,kU]at I
     refine⟨e,v.dx 0,V,V,f1,k2,iE.fx a4 R.bF (by simp[Z]) kf.Ms ?_ λau aM m5 q1 Q=>?_⟩
     .have:(G.cut 0 r.length 1).len=r.length:=by have:=a4.aT;simp at this;omega
      rw[this,Z];omega
     have ah:=aa.fO Q cD cD
     have ad:=R.J (Q.aP λar A=>bR (bR A))
     have ab:dF m5 c ig [.s e]:=v.congr (Q.fR _ v.lt (by rw[u];decide))
     have ao:au c=5:=((Q.jv _ v.lt)▸u)
     have ak:ix x<(d.set (ix x) {bu d x with bT:=(bu d x).bT -1}).length:=sp aj
     refine⟨e,ab.dx 0,V,V,ah.wr (o:=0) ak cD,?_⟩
     intro m7
     let⟨ai,T⟩:=ah.pT ad.bF ak 0 0 (f:=.nil) ⟨O,bO,bO,bO⟩ (λK=>absurd O K)
     rw[ado]at ai
     refine ac (d.set (ix x) kX,(bu d x).bJ.reverse++r) _ _ ⟨au,ai,?_,ad.J (T.aP λar A=>bC A),s.Xp Y B al,?_,sp J,?_,ab.congr (T.fR _ ab.lt (by rw[ao];decide)),ao⟩ ?_
     .have:=q1.fO T cD
      simpa using this
     .rw[<-uv B al];exact t
     .simp only[dH,qC]
      have A:Gy (d.set (ix x) kX)+(bu d x).bJ.length=Gy d:=by simpa[kX]using I
      omega
     .simp only[dH,qC,dz]
      have A:D0 (d.set (ix x) kX)+((bu d x).bT.toNat+(bu d x).bJ.length)=D0 d:=by simpa[kX]using X
      omega
    .simp only[bd]at j
     have K:(bu d x).bT≠1:=V
     have A:=mr (d:={bu d x with bT:=(bu d x).bT -1}) k
     simp only[bn an]at A
     rw[bn V]at A
     have I:=Ei {bu d x with bT:=(bu d x).bT -1} k
     refine ac (iU d x,r) _ _ ⟨n,aa,a4,R,s.Uw Y B K,?_,by simpa[iU]using J,?_,v,u⟩ ?_
     .rw[<-sG B K];exact t
     .simp only[iU];simp only[]at I;omega
     .simp only[iU,dz];omega
 .have j:st=[]:=cp.1 V
  subst j
  rw[ur]at t
  subst t
  refine(yQ y i.bF M u V).aP ?_
  rintro _ P ⟨z,C,g⟩
  exact⟨n,_,z,C,i.J g⟩
def UH{i:E}(f:gA a i h):bK dO 203 [i.v,.func (.func 204) #[] #[]] a λA j=>∃r:Int,A=vi r/\D a j/\(if fG h=h.length then r= -1 else r=fG h):=by
 apply pD i (.func 204,#[],#[]);have x:=f.aT;refine gP (x▸f.kK) (λk j=>D a j/\∀b∈h.take k,b.bT≠0) ⟨cY,bO⟩ ?_;rintro k n I μ w ⟨e,g⟩ z
 refine dit (λq=>?_) λq=>?_
 .let⟨b,d⟩:=dV h k;let⟨l,B,p,g1,g2⟩:=(gA.ext e f).bt d;refine⟨V,V,b.bT,sp p,_,sp g1,l,sp g2,204,O,cD,?_⟩;have u:fW dO 204 [.agg #[vi b.bT,vi b.js,l.v]] n (b.bT=0):=by
   apply Ac;simp -zeta only[dR];intro y;exact kY bO ((D.cU n).bZ _)
  refine bK.aP u ?_;rintro _ y ⟨o,rfl,c,m⟩;refine⟨o,O,λt=>⟨_,O,e.J m,?_⟩,λs=>z V _ ⟨e.J m,dK d g (fb c s)⟩⟩;have v:=LU h k b g d (c.1 t);have:=br d;rw[aW V,v]
 .refine⟨_,O,e,?_⟩;have:=Eh h k w g;have:=sW h;rw[bn V]
def IH{e:E}(k:gC N b a e h)(z:∀q,a.size<=q->b q=0)(kb:dF a c ig [.s e])(L:b c=5)(F:Int){W:E}{C:ab}(hf:ba a W C)(an:h.length<=1000000000)(Z:C.length<=1000000000)(Y:N<=a.size):
 bK dO 144 [vp c 0,vi F,W.v] a λaj Q=>∃g aa,aj=vi (1000+fG h)/\gC N g Q aa (kD h (fG h) ⟨1,F,C⟩)/\dF Q c ig [.s aa]/\HC b a g Q:=by
 apply CW (c,0)
 simp -zeta only[dR]
 refine(gT hf Z).cg Z λT m1 o1 i1 X=>⟨T,O,?_⟩
 intro m2 m3
 obtain⟨w,s3⟩:=pv m3
 have M:=X.J w
 have ac:C≠[]->b T.bz=0:=λaf=>by
  rcases o1.bz with i|i
  .subst i;have:=i1.aT;simp at this;exact absurd (cp.1 this.symm) af
  .exact z _ i
 have J:b m1.size=0:=z _ X.aQ
 have al:=k.aT
 have ak:=sW h
 refine⟨e,M.aS (kb.dx 0),(UH (gA.ext M (k.jI V))).aP ?_⟩
 rintro _ v ⟨ai,rfl,n,A⟩
 have u:=M.J n
 have r:HC b a b v:=dI.fC u z
 have K:gC N b v e h:=k.fO (dI.fC (p:=λ_=>False) u z) id id
 have l:=kb.ext u
 have i4:=i1.ext (w.J n)
 have am:=n.aQ
 refine⟨n.eV eX,ai,O,λi=>?_,λi=>?_⟩
 .simp at i
  have y:fG h=h.length:=by
   rcases gJ (fG h=h.length)with s|s
   .exact s
   .rw[aW s]at A;omega
  refine⟨e,l.dx 0,e,l.dx 0,?_⟩
  intro D
  obtain⟨j,s5⟩:=pu D
  have mu:jG D v.size 0 [.i 1,.i F,.s T]:=(dF.push v _ _).kZ
  have U:HC b a b D:=r.J (dI.fC j r.bF)
  refine⟨j.da (l.dx 0),gC.push (K.fO (dI.fC (p:=λ_=>False) j r.bF) id id) U.bF (x:=.mk v.size 0 1 1) O mu (i4.ext j) (Yd.of k (λI=>(u.J j).bG _ (k.bz I).2) (λ_=>o1.ext ((w.J n).J j)) ac Y) V λg ah R S d=>?_⟩
  have P:=l.ext j
  have ad:dF R c ig [.s e]:=P.congr (d.fR _ P.lt (by rw[L];decide))
  have ag:g c=5:=((d.jv _ P.lt)▸L)
  have ae:g m1.size=0:=by rw[d.jv _ V];exact J
  refine⟨λq f=>?_,ad.jb bO,?_⟩
  .simp at f;subst f
   exact d.fR _ V (by rw[J];decide)
  intro m7
  have G:dI (λB=>B=5) g R g m7:=dI.aV d.bF ag _ _
  have H:eJ (1000+(e.len:Int))=1000+(fG h:Int):=by rw[iz];omega
  rw[H]
  refine⟨λq f=>?_,g,ah,O,?_,dF.aV (m:=R) ad,(U.J (d.aP λB t=>bC t)).J (G.aP λB t=>bR (bC t))⟩
  .simp at f;subst f
   exact G.fR _ (oh d.aQ) (by rw[ae];decide)
  .rw[kD,bn y];exact S.fO G cD cD
 .simp at i
  have y:fG h≠h.length:=λs=>by rw[bn s]at A;omega
  rw[aW y]at A
  subst A
  have j:fG h<h.length:=V
  have G:Int.toNat ((fG h:Nat):Int)=fG h:=V
  have H:eJ (1000+(fG h:Int))=1000+(fG h:Int):=iz
  refine⟨e,l.dx 0,?_⟩
  rw[G,H]
  refine⟨V,V,K.wr (o:=0) j cD,?_⟩
  intro D
  let⟨S,d⟩:=K.pT r.bF j 1 F i4 (Yd.of k (λI=>u.bG _ (k.bz I).2) (λ_=>o1.ext (w.J n)) ac Y)
  refine⟨λq f=>?_,b,e,O,?_,l.congr (d.fR _ l.lt (by rw[L];decide)),r.J (d.aP λB t=>bC t)⟩
  .simp at f;subst f
   exact d.fR _ V (by rw[J];decide)
  .rw[kD,aW y];exact S
end
section
variable{l:ab}
def Tk{f b c:Int}(l:ln b)(m:ln c)(a:bg):DO dO 143 [vi f,vi b,vi c] a (vi (TB f b c)):=by
 unfold ln at l m;have r: -2000000<=b*c/\b*c<=2000000:=by
  have e:(b*c).natAbs<=999*999:=by rw[Int.natAbs_mul];exact Rb V V
  omega
 have d:∀n:Int,(if(999:Int)<(if(-999:Int)>n then(-999:Int)else n)then(999:Int)else(if(-999:Int)>n then(-999:Int)else n))=J6 n:=λn=>by
  grind [J6]
 have o:eJ (b+c)=b+c:=by grind [de]
 have p:eJ (b -c)=b -c:=by grind [de]
 have q:eJ (b*c)=b*c:=by grind [de]
 apply NY;rw[o,p,q,d,d,d];unfold TB;refine⟨λh=>by simp at h;omega,λ_=>⟨λh=>by simp at h;omega,λ_=>⟨λh=>by simp at h;omega,λ_=>⟨λh=>by simp at h;omega,λ_=>⟨λe=>?_,λe=>⟨λg=>?_,λg=>⟨λi=>?_,λi=>⟨λj=>⟨λk=>?_,λk=>?_⟩,λj=>?_⟩⟩⟩⟩⟩⟩⟩⟩
 .grind [D.cU]
 .grind [D.cU]
 .grind [D.cU]
 .grind [D.cU]
 .grind [D.cU]
 .grind [D.cU]
def zw{a:bg}{fb d:Nat}{f:bW}{u:E}(w:aS a fb (d+3)=some u.v)(p:ba a u f.aU){s:E}(q:ba a s l)(z:∀y∈l,0<=y/\y<f.aU.length)(L:l.length<=100000000):
 sD 95 [vp fb d,s.v] a (dQ f l):=by
 apply Bm (fb,d)
 have K:=q.aT
 have J:=p.aT
 have t:Int.toNat (s.len:Int)=l.length:=V
 rw[t]
 refine⟨V,dT _,V,V,?_⟩
 intro j
 have x:=px j
 have B:dF j a.size bB ((eP l.length).map Ce.i):=by grind [pI,dF.push]
 clear_value j
 simp only[E.lT,E.vP,E.kv,eW]
 refine gP (n:=l.length) V (λk b=>D a b/\dF b a.size bB ((dQ f (l.take k)++eP (l.length -k)).map Ce.i)) ⟨x,by simpa[dQ]using B⟩ ?_
 rintro k C I μ H ⟨b,c⟩ F
 refine dit (λh=>?_) λh=>?_
 .let⟨y,g⟩:=dV l k
  have i:=z y (aZ g)
  have v:Int.toNat (k:Int)*1=k:=V
  refine⟨V,V,y,by simpa using b.aS (q.bt g),u,b.aS w,i.1,V,_,b.aS (p.tC i.1 i.2),V,V,?_⟩
  rw[v]
  have e:(dQ f (l.take k)).length=k:=by grind [dQ]
  refine⟨c.jb (by simp[e,lH];omega),?_⟩
  refine F V _ ⟨b.aV bY _ _,?_⟩
  have:=dF.aV (m:=C) (o:=k) (r:=[.i (bt f.aU y)]) c
  have G:kJ ((dQ f (l.take k)++eP (l.length -k)).map Ce.i) k [.i (bt f.aU y)]=(dQ f (l.take (k+1))++eP (l.length -(k+1))).map Ce.i:=by
   have A:eP (l.length -k)=0::eP (l.length -(k+1)):=by
    have:l.length -k=(l.length -(k+1))+1:=V;rw[this];rfl
   rw[A,lI,oP _ _ _ _ (by simp[e])];simp only[jX,e,VE,eM,kJ,ni];rw[bX g];simp[dQ]
  grind
 .have e:k=l.length:=V
  subst e
  rw[fw,VE]at c
  simp only[eP,RT,fP]at c
  refine⟨_,O,⟨by simp[dQ],bR ⟨a.size,l.length,[],O,bY,by rw[fP];exact c,by simp[dQ],bY⟩⟩,b⟩
abbrev IB(d p:E)(c:Int)(s:St)(cy g b:E):ae:=[.s d,.s p,.i c,.i s.eC,.i s.iQ,.i s.dg,.i s.dL,.s cy,.s g,.s b]
def Gu(t:bg)(j:ag)(a:bg)(k:Nat)(d p:E)(c:Int)(s:St)(e:bg):Prop:=
 ∃f cy g b,wU t f e k cQ (IB d p c s cy g b) cy g b s.cy s.aR s.bq/\To j a f e
def Gu.from{t:bg}{j i:ag}{a f e:bg}{k:Nat}{d p:E}{c:Int}{s:St}(h:Gu t i f k d p c s e)(n:To j a i f):Gu t j a k d p c s e:=
 let⟨o,cy,g,b,l,m⟩:=h
 ⟨o,cy,g,b,l,n.J m⟩
section
variable{t:bg}{j r:ag}{a i:bg}{k e:Nat}{m:ae}{cy g b:E}{o:ab}{n:ah}{q:an}{f:bW}{u v h:E}{w:List ae}
def ST.aff(S:ST t j a k e m cy g b o n q f u v h w)(c:dI (λ_=>False) j a r i):ST t r i k e m cy g b o n q f u v h w/\To j a r i:=by
 let⟨L,d⟩:=S.eI.jU (c.aP λ_=>False.elim) (S.eI.aR.fO c id id);exact⟨⟨L,S.jO.fO c λ_ _=>id⟩,d⟩
def ST.fp(S:ST t j a k e m cy g b o n q f u v h w)(c:f.aU.length<=1000000/\f.bI.length<=1000000/\f.cC.length<=1000000):FP a b.bz (b.off+q.length*6) f u v h:=by
 obtain⟨_,_,_,d,i,l⟩:=S.jO.kZ;exact⟨d,i,l,S.EI c.1,S.NH c.2.1,S.Ws c.2.2⟩
def uZ(S:ST t j a k e m cy g b o n q f u v h w){d:Int}(c:0<=d)(r:d<f.aU.length)(z:d<f.bI.length)(l bI:Int):
 bK dO 92 [vp b.bz (b.off+q.length*6),vi d,vi l,vi bI] a λ_ i=>ST t j i k e m cy g b o n q (f.cG d l bI) u v h w/\To j a j i:=by
 apply Ej (b.bz,b.off+q.length*6)
 obtain⟨_,_,_,x,y,A⟩:=S.jO.kZ
 have C:u.len=f.aU.length:=by have:=S.jO.aU.aT;simp at this;omega
 have B:v.len=f.bI.length:=by have:=S.jO.bI.aT;simp at this;omega
 let⟨p,t1⟩:=S.IZ c r l
 let⟨s,t2⟩:=p.tW c cB bI
 exact⟨u,x,v,y,c,V,S.jO.aU.SE c r,c,V,p.jO.bI.SE c z,s,t1.J t2⟩
end
variable{t:bg}{j:ag}{a:bg}{k:Nat}{d p cy g b:E}{c:Int}{s:St}{q:an}{f:bW}{u v h:E}{w:List ae}
def ST.Ti{e:Nat}{c:ae}{i:ab}{d:ah}(S:ST t j a k e c cy g b i d q f u v h w):
 ST t (oH j a.size 5) (aV (a.push (.cells (db [.s E.nil]) ig)) a.size 0 [.s g]) k e c cy g b i d q f u v h w/\To j a (oH j a.size 5) (aV (a.push (.cells (db [.s E.nil]) ig)) a.size 0 [.s g])/\
  dF (aV (a.push (.cells (db [.s E.nil]) ig)) a.size 0 [.s g]) a.size ig [.s g]:=by
 have p:D a (aV (a.push (.cells (db [.s E.nil]) ig)) a.size 0 [.s g]):=by grind [D.cU,D.bZ,D.aV]
 have n:dI (λ_=>False) j a (oH j a.size 5) (aV (a.push (.cells (db [.s E.nil]) ig)) a.size 0 [.s g]):=dI.oH p S.eI.bF bY (by rw[bD];simp) 5
 let⟨l,t1⟩:=S.aff n
 exact⟨l,t1,dF.aV (m:=a.push (.cells (db [.s E.nil]) ig)) (o:=0) (r:=[.s g]) (dF.push a _ _)⟩
def HV(S:ST t j a k cQ (IB d p c s cy g b) cy g b s.cy s.aR q f u v h w)(n:Int){z:E}(F:ba a z l)(M:l.length<=1000000)(D:s.aR.length<=1000000000):
 bK dO 94 [vp k 0,vi n,z.v] a λL x=>L=vi (1000+fG s.aR)/\∃y r,ST t y x k cQ (IB d p c s cy r b) cy r b s.cy (kD s.aR (fG s.aR) ⟨1,n,l⟩) q f u v h w/\To j a y x:=by
 apply zo (k,0)
 simp -zeta only[dR]
 refine⟨g,S.eI.bV.dx 8,?_⟩
 intro N I
 let⟨e,t2,kb⟩:=S.Ti
 have G:=py I
 refine(IH e.eI.aR e.eI.bF kb gU n (F.ext G) D V e.eI.cW.aQ).aP ?_
 rintro _ P ⟨J,m,rfl,C,H,B⟩
 let⟨o,t3⟩:=e.jU B C
 refine⟨_,O,m,H.dx 0,o.eI.pQ (i:=8) bO,?_⟩
 intro Q
 let⟨A,K⟩:=o.lW 8 [.s m]
 exact⟨O,J,m,A,(t2.J t3).J K⟩
def Ko(S:ST t j a k cQ (IB d p c s cy g b) cy g b s.cy s.aR q f u v h w){x:Instr}{U aq:E}(ha:ba t U x.aO)(af:∀y∈x.aO,0<=y/\y<f.aU.length)(ax:x.aO.length<=4)
 (aA:f.aU.length=f.bI.length/\f.cC.length=f.bI.length/\f.bI.length<=2000)(az:0<=x.dh/\x.dh<=f.cC.length)(aj:s.aR.length<=1000000000)(al:∀e∈f.cC,e≠0->1000<=e/\ix e<s.aR.length):
 bK dO 93 [vp k 0,vp b.bz (b.off+q.length*6),xv x U aq] a λav m'=>∃(H:ag)(F:E)(l:Nat)(e:bW),av=vi (1000+l)/\ST t H m' k cQ (IB d p c s cy F b) cy F b s.cy (kD s.aR l ⟨1,x.cE,dQ f x.aO⟩) q e u v h w/\To j a H m'/\
  e.aU=f.aU/\e.bI=f.bI/\e.pc=f.pc/\(∀y,rH s q {f with pc:=y} x x.cE={s with aR:=kD s.aR l ⟨1,x.cE,dQ f x.aO⟩,bq:=q++[bW.cG {e with pc:=y+1} x.bH (1000+l) 1]}):=by
 apply vH (k,0) (b.bz,b.off+q.length*6)
 simp -zeta only[dR]
 intro m1
 obtain⟨ao,s1⟩:=pu m1
 let⟨z,t1⟩:=S.ext ao
 have R:A2 j m1 [a.size]:=λaw Z=>by simp at Z;subst Z;exact⟨V,S.eI.bF _ bY⟩
 have T:=z.fp ⟨V,V,V⟩
 have ay:h.len=f.cC.length:=by have:=S.jO.cC.aT;simp at this;omega
 refine(zw T.g3 T.aU (ha.ext z.eI.cW) af V).aP ?_
 rintro _ N ⟨C,rfl,Q,Y⟩
 let⟨m,t2⟩:=z.ext Y
 have J:=R.to t2
 have aC:(dQ f x.aO).length=x.aO.length:=by simp[dQ]
 have G:ba N C (dQ f x.aO):=ba.ju Q V
 have ad:=t1.J t2
 have none:¬(x.dh≠0/\bt f.cC (x.dh -1)≠0)->bK dO 94 [vp k 0,vi x.cE,C.v] N λar M=>gS [a.size] N M/\∃ac:Int,ar=vi ac/\∃(H:ag)(F:E)(l:Nat)(e:bW),vi ac=vi (1000+l)/\ST t H M k cQ (IB d p c s cy F b) cy F b s.cy (kD s.aR l ⟨1,x.cE,dQ f x.aO⟩) q e u v h w/\To j a H M/\
  e.aU=f.aU/\e.bI=f.bI/\e.pc=f.pc/\(∀y,rH s q {f with pc:=y} x x.cE={s with aR:=kD s.aR l ⟨1,x.cE,dQ f x.aO⟩,bq:=q++[bW.cG {e with pc:=y+1} x.bH (1000+l) 1]}):=λam=>by
  refine(HV m x.cE G V aj).aP ?_
  rintro _ P ⟨rfl,au,an,n,t3⟩
  exact⟨t3.fS J,_,O,au,an,fG s.aR,f,O,n,ad.J t3,O,O,O,λy=>by rw[rH,aW am];rfl⟩
 refine⟨t2.fS R,C,O,λD=>none λK=>by simp at D;exact K.1 D,λD=>?_⟩
 simp at D
 have e1:eJ (x.dh -1)=x.dh -1:=iz
 have i:0<=x.dh -1/\x.dh -1<f.cC.length:=V
 have I:=m.fp ⟨V,V,V⟩
 have W:=I.cC.tC i.1 i.2
 refine⟨h,I.g5,?_⟩
 rw[e1]
 refine⟨V,V,_,W,λB=>none λK=>by simp at B;exact K.2 B,λB=>?_⟩
 simp at B
 let⟨aa,ab⟩:=al _ (iS i.1 i.2) B
 have aB:=m.eI.aR.aT
 refine⟨h,I.g5,V,V,_,W,h,I.g5,V,V,m.jO.cC.SE i.1 i.2,?_⟩
 intro P
 let⟨n,t3⟩:=m.Gl i.1 i.2 0
 have B3:=J.to t3
 have ak:ix (bt f.cC (x.dh -1))=(bt f.cC (x.dh -1) -1000).toNat:=rfl
 have e2:eJ (bt f.cC (x.dh -1) -1000)=bt f.cC (x.dh -1) -1000:=iz
 refine⟨t3.fS J,g,n.eI.bV.dx 8,?_⟩
 rw[e2,<-ak]
 refine⟨V,V,n.eI.aR.wr (o:=0) ab cD,?_⟩
 intro m4
 have L:dQ f x.aO≠[]->j C.bz=0:=λr=>by
  rcases Q.bz with A|A
  .subst A;have:=G.aT;simp at this;exact absurd (cp.1 this.symm) r
  .exact S.eI.bF _ V
 have ap:ba P C (dQ f x.aO):=ku G λr=>t3.fR _ (ly G r) (by rw[L r];simp)
 have ai:h.cap≠0:=λA=>by have:=(m.jO.cC.zW A).1;simp at this;rw[this]at i;simp at i;omega
 have ae:Yd t.size j P g s.aR C (dQ f x.aO):=Yd.of z.eI.aR (λX=>(cq _ _ _ _ λA=>by have q1:=(m.jO.cC.bz ai).2;have q2:=(m.eI.aR.bz X).1;rw[A,q1]at q2;omega).trans (Y.bG _ (z.eI.aR.bz X).2)) (λr=>Q.congr (t3.fR _ (ly G r) (by rw[L r];simp))) L z.eI.cW.aQ
 let⟨ah,c4⟩:=n.eI.aR.pT n.eI.bF ab 1 x.cE ap ae
 let⟨S4,t4⟩:=n.jU (c4.aP λaD X=>bC X) ah
 have X:kD s.aR (ix (bt f.cC (x.dh -1))) ⟨1,x.cE,dQ f x.aO⟩=s.aR.set (ix (bt f.cC (x.dh -1))) ⟨1,x.cE,dQ f x.aO⟩:=by rw[kD,aW V]
 refine⟨t4.fS B3,j,g,ix (bt f.cC (x.dh -1)),{f with cC:=gX f.cC (x.dh -1) 0},by rw[lE aa],by rw[X];exact S4,(ad.J t3).J t4,O,O,O,λy=>?_⟩
 rw[rH,bn ⟨D,B⟩,X,lE aa];rfl
end
section
variable{w:Int}
def P9:∀(b:ab)(g:ah),(∀v∈b,iH g v)->∀x,iH g x->iH (kW g b) x
 |[],g,_,x,c=>c
 |v::b,g,d,x,c=>by
  have e:=d v cK;have up:∀y,iH g y->iH (qv g v) y:=λy a=>⟨a.1,(jq.qv e).2 a.2⟩;exact P9 b (qv g v) (λy a=>up y (d y (aX _ a))) x (up x c)
def Yy{h:ah}(c:iH h w)(d:(bu h w).bT≠1){x:Int}(a:iH h x):iH (iU h w) x:=by
 let⟨f,b⟩:=dy c;refine⟨a.1,?_⟩;by_cases e:ix x=ix w
 .grind [iU,jq.GO]
 .exact(jq.ne e).2 a.2
variable{k:bg}{e:ag}{m:bg}{j:Nat}{d l cy b g:E}{c:Int}{s:St}{i:an}{a:bW}{r t h:E}{q:List ae}
open Classical in
noncomputable def vB (g:ah) (w:Int) (fR:Bool):ah:=
 if(bu g w).bT=1/\fR=true then g.set (ix w) ⟨-1,0,eP (bu g w).bJ.length⟩else iZ g w
def HW(S:ST k e m j cQ (IB d l c s cy b g) cy b g s.cy s.aR i a r t h q)(aa:iH s.aR w)(fR:Bool){ao:Nat->Int}(K:jd s.aR ao)(aF:s.aR.length<=1000000000):
 bK dO 101 [vp j 0,vi w,vb fR] m λv z=>∃E:Bool,v=vb E/\(E=true<->(bu s.aR w).bT=1/\fR=true)/\∃am aj,ST k am z j cQ (IB d l c s cy aj g) cy aj g s.cy (vB s.aR w fR) i a r t h q/\To e m am z:=by
 apply zp (j,0)
 simp -zeta only[dR]
 let⟨A,aM⟩:=dy aa
 have H:=br A
 have aI:=S.eI.aR.aT
 have aH:=aa.1
 have aw:ix w=(w -1000).toNat:=rfl
 have e4:eJ (w -1000)=w -1000:=iz
 have ac:=K.gZ _ (aZ A)
 have aJ:=ac.hi
 have aD:=ac.fl
 have g8:=S.eI.bV.dx 8
 let⟨f0,W,g1,g2,gf,gr⟩:=S.eI.aR.dx A
 have aE:=gf.aT
 rw[e4,<-aw]
 refine⟨b,g8,V,V,λz=>z=m/\¬((bu s.aR w).bT=1/\fR=true),⟨_,W,λx=>⟨λy=>?_,λy=>⟨O,λu=>by rw[y]at u;simp at u⟩⟩,λx=>⟨O,λu=>by simp at x;exact x u.1⟩⟩,?_⟩
 .simp at x
  have T:Int.toNat (f0.len:Int)=(bu s.aR w).bJ.length:=V
  refine⟨f0,g2,V,dT _,V,V,?_⟩
  rw[T]
  intro C
  have I:=px C
  have J:jy m C bB 1 (.mk m.size 0 (bu s.aR w).bJ.length (bu s.aR w).bJ.length) ((eP (bu s.aR w).bJ.length).map Ce.i):=by
   have U:C=m.push (.cells (db ((eP (bu s.aR w).bJ.length).map Ce.i)) bB):=by rw[<-pI]
   rw[U];exact SG _
  let⟨B,t1⟩:=S.ext I
  refine⟨B.eI.aR.wr (o:=0) H cD,?_⟩
  intro m2
  let⟨D,F⟩:=B.eI.aR.pT B.eI.bF H (-1) 0 (ba.ju J (by rw[lH];omega)) (Yd.of S.eI.aR (λu=>I.bG _ (S.eI.aR.bz u).2) (λ_=>J) (λ_=>S.eI.bF _ bY) S.eI.cW.aQ)
  let⟨G,t2⟩:=B.jU (F.aP λu y=>bC y) D
  refine⟨true,O,by simp[x,y],e,b,?_,t1.J t2⟩
  rw[vB,bn ⟨x,y⟩];exact G
 .rintro C ⟨rfl,ai⟩
  have af:(false=true<->(bu s.aR w).bT=1/\fR=true):=⟨sx,λh=>absurd h ai⟩
  rw[show vB s.aR w fR=iZ s.aR w by rw[vB,aW ai]]
  refine⟨_,W,λx=>?_,λx=>?_⟩
  .simp at x
   refine⟨S.eI.aR.wr (o:=0) H cD,?_⟩
   intro m2
   let⟨D,F⟩:=S.eI.aR.pT S.eI.bF H 0 0 (f:=.nil) ⟨O,bO,bO,bO⟩ (λQ=>absurd O Q)
   let⟨G,t2⟩:=S.jU (F.aP λu y=>bC y) D
   refine⟨b,G.eI.bV.dx 8,?_⟩
   intro m3 m4
   let⟨B,N,kb⟩:=G.Ti
   refine(yQ B.eI.aR B.eI.bF kb gU eX).aP ?_
   rintro _ X ⟨Z,M,J⟩
   let⟨I,P⟩:=B.jU J Z
   refine⟨_,M.dx 0,I.eI.pQ bO,?_⟩
   intro Y
   let⟨L,R⟩:=I.lW 8 [.s (b.cut 0 (lL (s.aR.set (ix w) ⟨0,0,[]⟩) (s.aR.set (ix w) ⟨0,0,[]⟩).length) 3)]
   refine⟨false,O,af,_,b.cut 0 (lL (s.aR.set (ix w) ⟨0,0,[]⟩) (s.aR.set (ix w) ⟨0,0,[]⟩).length) 3,?_,((t2.J N).J P).J R⟩
   rw[iZ,bn x];exact L
  .simp only[bd]at x
   have T:eJ ((bu s.aR w).bT -1)=(bu s.aR w).bT -1:=iz
   refine⟨_,W,S.eI.aR.wr (o:=0) H cD,?_⟩
   rw[T]
   intro m2
   let⟨D,F⟩:=S.eI.aR.xI S.eI.bF A ((bu s.aR w).bT -1)
   let⟨f1,k0,k1,k2,kf,kr⟩:=D.dx (lA A)
   simp only[]at kf kr
   have aG:=kf.aT
   refine⟨f1,k2,?_⟩
   have ae:∀{z},dI (λu=>u=3) e C e z->aS z j 8=some b.v:=λhc=>by rw[bE (hc.fR _ S.eI.bV.lt (by rw[S.eI.YL];decide))];exact g8
   have ah:∀v∈(bu s.aR w).bJ,1000<=v->iH (iU s.aR w) v:=λv B b=>Yy aa x (K.qd (aZ A) B b)
   have av:∀R∈iU s.aR w,-10<=R.bT/\R.bT<=999999:=λR hq=>by
    rcases rX hq with rfl|⟨E,_,L⟩
    .simp only[];omega
    .have:=K.gZ R (aZ L);have h5:=this.lo;have Y:=this.hi;omega
   refine gP (n:=(bu s.aR w).bJ.length) V (λu z=>gC k.size e z b (kW (iU s.aR w) (oC ((bu s.aR w).bJ.take u)))/\dI (λu=>u=3) e C e z/\ba z f1 (bu s.aR w).bJ) ⟨D,F,kf⟩ ?_
   rintro u m3 aB μ y ⟨N,G,ak⟩ al
   refine dit (λh5=>?_) λh5=>?_
   .let⟨v,B⟩:=dV ((bu s.aR w).bJ) u
    have aA:v<=9223372036854775807:=by
     rcases gJ (1000<=v)with Y|Y
     .have:=br (dy (K.qd (aZ A) (aZ B) Y)).1;unfold ix at this;omega
     .omega
    have az:(kW (iU s.aR w) (oC ((bu s.aR w).bJ.take u))).length=s.aR.length:=by rw[Ap];simp[iU]
    have ax:1000<=v->iH (kW (iU s.aR w) (oC ((bu s.aR w).bJ.take u))) v:=λb=>P9 _ _ (λM I=>ah M (gW (nT.1 I).1) (nT.1 I).2) v (ah v (aZ B) b)
    refine⟨V,V,v,by simpa using ak.bt B,b,ae G,(kN (N.jI (by rw[az];omega)) aA).aP ?_⟩
    rintro _ m4 ⟨an,E,rfl,L,ar,X⟩
    have I:dI (λu=>u=3) e C e m4:=G.J (dI.fC X G.bF)
    have P:=N.fO (dI.fC (p:=λ_=>False) X G.bF) id id
    have ab:=ak.ext X
    refine⟨an,E,O,λad=>?_,λau=>al V _ ⟨?_,I,ab⟩⟩
    .have ag:=L.1 ad
     have aq:=ar ad
     subst aq
     let⟨M,aK⟩:=dy ag
     have ay:=br M
     obtain⟨f4,j0,_⟩:=P.dx M
     have aC:=EG _ _ 999999 av _ (aZ M)
     have aL:=sa ((bu s.aR w).bJ.take u)
     have aN:((bu s.aR w).bJ.take u).length<=3:=eX
     have U:eJ ((bu (kW (iU s.aR w) (oC ((bu s.aR w).bJ.take u))) v).bT+1)=(bu (kW (iU s.aR w) (oC ((bu s.aR w).bJ.take u))) v).bT+1:=iz
     have ap:Int.toNat ((ix v:Nat):Int)=ix v:=V
     refine⟨b,ae I,?_⟩
     rw[ap]
     refine⟨V,V,_,j0,V,V,P.wr (o:=0) ay cD,?_⟩
     rw[U]
     let⟨Z,J⟩:=P.xI I.bF M ((bu (kW (iU s.aR w) (oC ((bu s.aR w).bJ.take u))) v).bT+1)
     refine al V _ ⟨?_,I.J J,ku ab λQ=>J.fR _ (ly ab Q) (by rw[(kr Q).1];decide)⟩
     have:oC [v]=[v]:=by simp[oC,ag.1]
     rw[bX B,sZ,this,IV]
     exact Z
    .have J:¬1000<=v:=λb=>fb L au (ax b)
     have:oC [v]=[]:=by simp[oC];omega
     rw[bX B,sZ,this,fP];exact P
   .rw[eQ V]at N
    let⟨I,t3⟩:=S.jU (G.aP λu y=>bC y) N
    refine⟨false,O,af,e,b,?_,t3⟩
    rw[iZ,aW x];exact I
def Ob(S:ST k e m j cQ (IB d l c s cy b g) cy b g s.cy s.aR i a r t h q){x:Instr}{U ag:E}(ha:ba k U x.aO)(ae:∀y∈x.aO,0<=y/\y<a.aU.length)(ai:x.aO.length<=4)(h5:x.op=5->x.aO.length=1)(h2:x.op≠0->x.op≠5->x.aO.length=2)(X:x.op≠0->∀y∈x.aO,ln (bt a.aU y))
 (aj:a.aU.length=a.bI.length/\a.cC.length=a.bI.length/\a.bI.length<=2000)(hd:0<=x.bH/\x.bH<a.bI.length)(al:s.cy.length<=1000000000):
 bK dO 91 [vp j 0,vp g.bz (g.off+i.length*6),xv x U ag] m λ_ o=>Gu k e m j d l c (if x.op=0 then{s with bq:=i++[a.cG x.bH x.cE 0]}else if x.op=5 then{s with cy:=s.cy++[bt a.aU (bt x.aO 0)],bq:=i++[a.cG x.bH (bt a.aU (bt x.aO 0)) 0]}else{s with bq:=i++[a.cG x.bH (TB x.op (bt a.aU (bt x.aO 0)) (bt a.aU (bt x.aO 1))) 0]}) o:=by
 apply xu (j,0) (g.bz,g.off+i.length*6)
 simp -zeta only[dR]
 intro Z
 obtain⟨af,s1⟩:=pu Z
 let⟨C,t1⟩:=S.ext af
 have N:A2 e Z [m.size]:=λW w=>by simp at w;subst w;exact⟨V,S.eI.bF _ bY⟩
 have R:=C.fp ⟨V,V,V⟩
 refine(zw R.g3 R.aU (ha.ext C.eI.cW) ae V).aP ?_
 rintro _ p ⟨ws,rfl,ow,ad⟩
 let⟨u,t2⟩:=C.ext ad
 have B:=N.to t2
 have am:(dQ a x.aO).length=x.aO.length:=by simp[dQ]
 have y:ba p ws (dQ a x.aO):=by grind [ba.ju]
 have an:=y.aT
 have ac:=t1.J t2
 have L:∀{z:Nat},z<x.aO.length->(dQ a x.aO)[z]? =some (bt a.aU (bt x.aO z)):=λ{z} hk=>by
  grind [gD,dQ,adG]
 have ab:∀{M:bg}(Y:D p M)(A:Int),bK dO 92 [vp g.bz (g.off+i.length*6),vi x.bH,vi A,vi 0] M λ_ o=>gS [m.size] M o/\Gu k e m j d l c {s with bq:=i++[a.cG x.bH A 0]} o:=λY A=>by
  let⟨SM,tM⟩:=u.ext Y;refine(uZ SM hd.1 V hd.2 A 0).aP ?_;rintro _ o ⟨S',t'⟩;exact⟨t'.fS (B.to tM),e,cy,b,g,S'.eI,(ac.J tM).J t'⟩
 refine⟨t2.fS N,ws,O,λn=>?_,λf=>⟨λn=>?_,λG=>?_⟩⟩
 .simp at n;rw[bn n];exact ab cY _
 .simp at f n
  rw[aW f,bn n]
  have h1:=h5 n
  have ak:(E.len cy)=s.cy.length:=by have:=u.eI.cy.aT;simp at this;omega
  refine⟨V,V,_,y.bt (L V),cy,u.eI.bV.dx 7,?_⟩
  intro H
  have v:=px H
  have mu:jG H p.size 0 [.i (bt a.aU (bt x.aO (0:Int)))]:=(dF.push p _ _).kZ
  let⟨F,t3⟩:=u.ext v
  have P:=B.to t3
  refine iE.fx F.eI.cy F.eI.bF O mu (by simp only[E.kv];omega) λaa I m4 q1 q2=>?_
  have ah:iE aa m4 bB 1 2 I ((s.cy++[bt a.aU (bt x.aO 0)]).map Ce.i):=sp q1
  let⟨T,J⟩:=F.QE q2 ah
  have Q:=P.to J
  refine⟨J.fS P,T.eI.pQ bO,?_⟩
  intro m5
  let⟨S5,K⟩:=T.lW 7 [.s I]
  refine⟨K.fS Q,(uZ S5 hd.1 V hd.2 (bt a.aU (bt x.aO 0)) 0).aP ?_⟩
  rintro _ m6 ⟨S6,t6⟩
  exact⟨t6.fS (Q.to K),aa,I,b,g,S6.eI,(((ac.J t3).J J).J K).J t6⟩
 .simp at f G
  rw[aW f,aW G]
  have h1:=h2 f G
  refine⟨V,V,_,y.bt (L V),V,V,_,y.bt (L V),?_⟩
  refine(Tk (X f _ (iS V V)) (X f _ (iS V V)) p).aP ?_
  rintro _ H ⟨rfl,v⟩
  exact⟨v.eV (λW w=>(B W w).1),_,O,ab v _⟩
end
section
variable{b1 b2 b3 t F:Nat}{C:cZ}{g:Int}{q:eG}{k:bg}{l:ab}
section
variable{z:bg}{u:ag}{e:bg}{v:Nat}{d y cy A j:E}{c:Int}{s:St}{b:an}{a:bW}{B G h:E}{H:List ae}
def Tl(S:ST z u e v cQ (IB d y c s cy A j) cy A j s.cy s.aR b a B G h H){x:Instr}{o an:E}(X:ba z o x.aO)(ar:∀f∈x.aO,0<=f/\f<a.aU.length)(ap:1<=x.aO.length/\x.aO.length<=4)
 (ax:a.aU.length=a.bI.length/\a.cC.length=a.bI.length/\a.bI.length<=2000)(ak:s.aR.length<=1000000000)(ad:∀q∈a.bI,0<=q/\q<=999999)
 (al:iH s.aR (bt a.aU (bt x.aO 0))){af:Nat->Int}(hI:jd s.aR af){P:Int}(aA:a.pc=P+1):
 bK dO 97 [vp v 0,vp j.bz (j.off+b.length*6),xv x o an] e λ_ k=>Gu z u e v d y c (xF s b {a with pc:=P} x) k:=by
 apply Ae (v,0) (j.bz,j.off+b.length*6)
 simp -zeta only[dR]
 intro m1
 obtain⟨am,s1⟩:=pu m1
 let⟨N,t1⟩:=S.ext am
 have B1:A2 u m1 [e.size]:=λab I=>by simp at I;subst I;exact⟨V,S.eI.bF _ bY⟩
 have aB:B.len=a.aU.length:=by have:=S.jO.aU.aT;simp at this;omega
 have az:G.len=a.bI.length:=by have:=S.jO.bI.aT;simp at this;omega
 have aw:h.len=a.cC.length:=by have:=S.jO.cC.aT;simp at this;omega
 have aq:=X.aT
 have ao:=X.ms
 have F:0<=bt x.aO 0/\bt x.aO 0<a.aU.length:=by grind [iS]
 have ga:∀{k},D z k->aS k o.bz (o.off+Int.toNat (0:Int)*1)=some (vi (bt x.aO 0)):=λhx=>(X.ext hx).tC V V
 obtain⟨_,_,_,g3,_,_⟩:=N.jO.kZ
 generalize hw:bt a.aU (bt x.aO 0)=w at*
 refine⟨B,g3,V,V,_,ga N.eI.cW,F.1,V,w,by rw[<-hw];exact(N.EI V).tC F.1 F.2,(HW N al (x.op==17) hI ak).aP ?_⟩
 rintro _ m2 ⟨ab,rfl,I,p,J,L,t2⟩
 have Q:=B1.to t2
 have ag:(x.op==17)=true<->x.op=17:=bO
 rw[ag]at I
 have e1:Int.toNat (1:Int)=1:=rfl
 have e2:Int.toNat (o.len:Int)=o.len:=V
 have Y:∀{k},D z k->ba k (E.cut o 1 o.len 1) (x.aO.drop 1):=by grind [aaK,ba.ext]
 have au:(E.cut o 1 o.len 1).len=x.aO.length -1:=by have:=(Y (D.cU z)).aT;simp at this;omega
 have av:(x.aO.drop 1).length=x.aO.length -1:=bO
 have ac:∀f∈x.aO.drop 1,0<=f/\f<a.aU.length:=by grind [List.mem_of_mem_drop]
 rw[e1,e2]
 refine⟨t2.fS B1,ab,O,λaj=>?_,λai=>?_⟩
 .obtain⟨_,_,_,_,_,g5⟩:=L.jO.kZ
  have hh:=I.1 aj
  refine⟨h,g5,V,V,_,ga L.eI.cW,F.1,V,L.jO.cC.SE F.1 V,?_⟩
  intro m3
  let⟨S3,t3⟩:=L.Gl F.1 V w
  refine⟨t3.fS Q,V,V,V,?_⟩
  refine gP (n:=(x.aO.drop 1).length) V (λg k=>ST z p k v cQ (IB d y c s cy J j) cy J j s.cy (vB s.aR w (x.op==17)) b {a with cC:=gX a.cC (bt x.aO 0) w,bI:=fe a.bI ((x.aO.drop 1).take g)} B G h H/\To u e p k/\A2 p k [e.size]) ⟨by rw[List.take_zero];exact S3,(t1.J t2).J t3,(Q.to t3)⟩ ?_
  rintro g m4 ae μ hk ⟨l,M,K⟩ aa
  have Z:∀q∈fe a.bI ((x.aO.drop 1).take g),0<=q/\q<=1000010:=λq hq=>by
   have:=uJ _ a.bI 999999 V ad q hq;have h3:((x.aO.drop 1).take g).length<=4:=cB;omega
  refine dit (λW=>?_) λW=>?_
  .let⟨f,r⟩:=dV (x.aO.drop 1) g
   have m:=ac f (aZ r)
   have t:f<(fe a.bI ((x.aO.drop 1).take g)).length:=by grind [uX]
   have ah:=J2 (i:=f) Z V
   have T:eJ (bt (fe a.bI ((x.aO.drop 1).take g)) f+1)=bt (fe a.bI ((x.aO.drop 1).take g)) f+1:=by grind [de]
   obtain⟨_,_,_,_,U,_⟩:=l.jO.kZ
   refine⟨V,V,f,by simpa using(Y l.eI.cW).bt r,G,U,m.1,V,_,(l.NH cB).tC m.1 t,m.1,V,l.jO.bI.SE m.1 t,?_⟩
   rw[T]
   intro m5
   let⟨R,C⟩:=l.tW m.1 t (bt (fe a.bI ((x.aO.drop 1).take g)) f+1)
   refine⟨C.fS K,aa V _ ⟨?_,M.J C,K.to C⟩⟩
   rw[bX r,wB];exact R
  .rw[eQ V]at l
   refine⟨p,cy,J,j,?_,M⟩
   have:xF s b {a with pc:=P} x={s with aR:=vB s.aR w (x.op==17),bq:=b++[{a with cC:=gX a.cC (bt x.aO 0) w,bI:=fe a.bI (x.aO.drop 1)}]}:=by
    grind [xF,vB]
   grind [ST.eI]
 .have ay:¬((bu s.aR w).bT=1/\x.op=17):=λhh=>by have:=I.2 hh;rw[ai]at this;simp at this
  refine⟨V,V,V,?_⟩
  refine gP (n:=(x.aO.drop 1).length) V (λg k=>ST z p k v cQ (IB d y c s cy J j) cy J j s.cy (vB s.aR w (x.op==17)) b {a with bI:=fe a.bI ((x.aO.drop 1).take g)} B G h H/\To u e p k/\A2 p k [e.size]) ⟨by simpa[fe]using L,t1.J t2,Q⟩ ?_
  rintro g m4 ae μ hk ⟨l,M,K⟩ aa
  have Z:∀q∈fe a.bI ((x.aO.drop 1).take g),0<=q/\q<=1000010:=λq hq=>by
   have:=uJ _ a.bI 999999 V ad q hq;have h3:((x.aO.drop 1).take g).length<=4:=cB;omega
  refine dit (λW=>?_) λW=>?_
  .let⟨f,r⟩:=dV (x.aO.drop 1) g
   have m:=ac f (aZ r)
   have t:f<(fe a.bI ((x.aO.drop 1).take g)).length:=by grind [uX]
   have ah:=J2 (i:=f) Z V
   have T:eJ (bt (fe a.bI ((x.aO.drop 1).take g)) f+1)=bt (fe a.bI ((x.aO.drop 1).take g)) f+1:=by grind [de]
   obtain⟨_,_,_,_,U,_⟩:=l.jO.kZ
   refine⟨V,V,f,by simpa using(Y l.eI.cW).bt r,G,U,m.1,V,_,(l.NH cB).tC m.1 t,m.1,V,l.jO.bI.SE m.1 t,?_⟩
   rw[T]
   intro m5
   let⟨R,C⟩:=l.tW m.1 t (bt (fe a.bI ((x.aO.drop 1).take g)) f+1)
   refine⟨C.fS K,aa V _ ⟨?_,M.J C,K.to C⟩⟩
   rw[bX r,wB];exact R
  .rw[eQ V]at l
   refine⟨p,cy,J,j,?_,M⟩
   have:xF s b {a with pc:=P} x={s with aR:=vB s.aR w (x.op==17),bq:=b++[{a with bI:=fe a.bI (x.aO.drop 1)}]}:=by
    grind [xF,vB]
   grind [ST.eI]
def rR.Qj{u:ag}{e:bg}:rR u e .nil []:=⟨[],iE.ju (jy.gN e e _ _) (λa=>absurd O a),O,bO,bO⟩
def LY(S:ST z u e v cQ (IB d y c s cy A j) cy A j s.cy s.aR b a B G h H)(ae:b.length<=100000)(w:Int)(U:∀g,b.getLast?=some g->0<=a.bH/\a.bH<g.aU.length/\a.bH<g.bI.length):
 bK dO 102 [vp v 0,vi w] e λ_ k=>Gu z u e v d y c (match b.getLast? with|none=>{s with eC:=0,iQ:=w,bq:=[]}|some g=>{s with bq:=b.dropLast++[g.cG a.bH w (iV w)]}) k:=by
 apply wF (v,0)
 simp -zeta only
 have x:=S.jO.Eg
 have ab:=S.jO.qB.le
 have J:eJ ((j.len:Int) -1)=(b.length:Int):=by grind [de]
 have K:Int.toNat (b.length:Int)=b.length:=V
 have p:aS e v 9=some j.v:=S.eI.bV.dx 9
 obtain⟨_,_,g2,_,_,_⟩:=S.jO.kZ
 refine⟨j,p,j,p,?_⟩
 rw[J,K]
 refine⟨V,V,a.bH,g2,j,p,V,V,V,S.eI.pQ (i:=9) bO,?_⟩
 intro C
 let⟨o,t2⟩:=S.eI.lW 9 [.s (j.cut 0 b.length 6)]
 obtain⟨f,_⟩:=o.mE (dI.cU _ o.bF) o.bq.pop
 have ac:(j.cut 0 b.length 6).len=b.length:=by
  cases j with
  |nil=>simp at x
  |DK n D sp=>simp at x
  |mk n D l c=>simp[E.cut]
 refine⟨λN=>?_,λN=>?_⟩
 .have I:b=[]:=cB
  subst I
  refine⟨f.pQ (i:=3) (by simp[nU]),?_⟩
  intro Y
  let⟨n,t3⟩:=f.lW 3 [.i 0]
  refine⟨n.pQ (i:=4) (by simp[nU]),?_⟩
  intro Z
  let⟨r,q⟩:=n.lW 4 [.i w]
  refine⟨r.pQ (i:=9) (by simp[nU]),?_⟩
  intro L
  let⟨t,M⟩:=r.lW 9 [.s .nil]
  obtain⟨F,_⟩:=t.mE (dI.cU _ t.bF) (rR.Qj (u:=u) (e:=L))
  exact⟨u,cy,A,.nil,F,((t2.J t3).J q).J M⟩
 .have X:b≠[]:=cB
  have af:b.length≠0:=by grind [List.length_eq_zero_iff]
  obtain⟨g,t⟩:∃g,b.getLast?=some g:=⟨_,rC X⟩
  let⟨P,Q,R⟩:=U g t
  rw[t]
  simp only[]
  have W:b=b.dropLast++[g]:=by
   grind [List.getLast?_eq_some_getLast,List.dropLast_concat_getLast]
  have n:wU z u C v cQ (IB d y c s cy A (j.cut 0 b.length 6)) cy A (j.cut 0 b.length 6) s.cy s.aR (b.dropLast++[g]):=
   ⟨f.cW,f.mq,f.bF,f.bV,f.YL,f.cy,f.aR,by rw[<-W];exact f.bq⟩
  let⟨r',D,h',aa,T⟩:=n.bq.jO
  have ad:b.dropLast.length=b.length -1:=bO
  have L:eJ ((b.length:Int) -1)=((b.length -1:Nat):Int):=by grind [de]
  have M:Int.toNat ((b.length -1:Nat):Int)=b.dropLast.length:=V
  refine⟨j.cut 0 b.length 6,n.bV.dx 9,?_⟩
  rw[L,M]
  refine⟨V,V,(qK w C).aP ?_⟩
  rintro _ Y ⟨rfl,r⟩
  let⟨F,t3⟩:=(ST.mk n T).ext r
  refine⟨_,O,r.da (n.bV.dx 9),(uZ F P Q R w (iV w)).aP ?_⟩
  rintro _ Z ⟨I,q⟩
  exact⟨u,cy,A,_,I.eI,(t2.J t3).J q⟩
end
def aea{e M:bg}(f:D e M){nb:Nat}(j:e.size<=nb)(n:nb<M.size)(t:Nat){d:ae}
 (a:(b1=M.size\/b1=M.size+1\/b1=M.size+2)/\(b2=M.size\/b2=M.size+1\/b2=M.size+2)/\(b3=M.size\/b3=M.size+1\/b3=M.size+2)/\b1≠b2/\b1≠b3/\b2≠b3):
 tw e (aV (((M.push (.cells (db (na [.i (0:Int)] t)) 3)).push (.cells (db (na [.i (0:Int)] t)) 3)).push (.cells (db (na [.i (0:Int)] t)) 3)) nb 0 d) b1 b2 b3 t (eP t) (eP t) (eP t):=by
 rw[pI]
 generalize g:M.push (.cells (db ((eP t).map Ce.i)) 3)=m2
 generalize h:m2.push (.cells (db ((eP t).map Ce.i)) 3)=m3
 generalize i:m3.push (.cells (db ((eP t).map Ce.i)) 3)=m4
 have r:m2.size=M.size+1:=cB
 have s:m3.size=M.size+2:=cB
 have u:m4.size=M.size+3:=cB
 have k:D M m2:=g▸D.push _ _
 have l:D m2 m3:=h▸D.push _ _
 have m:D m3 m4:=i▸D.push _ _
 have o:dF m4 M.size bB ((eP t).map Ce.i):=by grind [dF.push,dF,Array.size,eP,List.map,dF.ext]
 have p:dF m4 m2.size bB ((eP t).map Ce.i):=by grind [dF.push,dF,Array.size,eP,List.map,dF.ext]
 have q:dF m4 m3.size bB ((eP t).map Ce.i):=by grind [dF.push]
 have c:∀b,(b=M.size\/b=M.size+1\/b=M.size+2)->dF (aV m4 nb 0 d) b bB ((eP t).map Ce.i):=λb a=>by
  grind [dF,eP,List.map,dF.congr,cq]
 exact⟨(f.J ((k.J l).J m)).aV j _ _,by have:=f.aQ;rw[bD];omega,c _ a.1,c _ a.2.1,c _ a.2.2.1,by simp[lH]⟩
def Ah{e:bg}{d y:E}(f:gY e d y C)(j:0<=g)(h:C.di[g.toNat]? =some q)(a:0<=q.aU/\q.aU<=2000)(c:Int):
 bK dO 49 [.agg #[d.v,y.v],vi g,vi c] e λv k=>∃b1 b2 b3,v=.agg #[vi g,vi 0,vi c,E.v (.mk b1 0 q.aU.toNat q.aU.toNat),E.v (.mk b2 0 q.aU.toNat q.aU.toNat),E.v (.mk b3 0 q.aU.toNat q.aU.toNat)]/\
  tw e k b1 b2 b3 q.aU.toNat (eP q.aU.toNat) (eP q.aU.toNat) (eP q.aU.toNat):=by
 apply GK
 simp -zeta only[dR]
 intro m b
 have i:D e b:=((D.cU e).bZ _).bZ _
 have z:=pz m
 have A:b.size=e.size+2:=cB
 have t:=f.di.aT
 have s:=br h
 obtain⟨p,u,r,_,_,_,_,_,_,l,_⟩:=(f.ext i).di.bt h
 refine⟨j,V,q.aU,l,⟨a.1,dT _,V,V,?_⟩,⟨a.1,dT _,V,V,?_⟩,⟨a.1,dT _,V,V,?_⟩⟩
 all_goals
  intro n
  refine⟨⟨a.1,dT _,V,V,?_⟩,⟨a.1,dT _,V,V,?_⟩⟩
  all_goals
   intro o
   refine⟨a.1,dT _,V,V,?_⟩
   intro w x
   have B:=pz n
   have F:o.size=b.size+2:=cB
   exact⟨_,_,_,O,aea i V V q.aU.toNat V⟩
def tw.IZ{e:bg}{aU bI cC:ab}(N:tw e k b1 b2 b3 t aU bI cC)(b:F<t)(v:Int):jb k b1 F 1/\tw e (aV k b1 F [.i v]) b1 b2 b3 t (aU.set F v) bI cC:=by
 have a:=N.lo;refine⟨N.kr.jb cB,N.ext.aV a.1 _ _,by rw[bD];exact a,?_,N.ko.congr (cq _ _ _ _ V),N.kh.congr (cq _ _ _ _ V),by simp[N.aT]⟩;have:=dF.aV (m:=k) (o:=F) (r:=[.i v]) N.kr;grind [Au]
def tw.tW{e:bg}{aU bI cC:ab}(N:tw e k b1 b2 b3 t aU bI cC)(b:F<t)(v:Int):jb k b2 F 1/\tw e (aV k b2 F [.i v]) b1 b2 b3 t aU (bI.set F v) cC:=by
 have a:=N.lo;refine⟨N.ko.jb cB,N.ext.aV a.2.1 _ _,by rw[bD];exact a,N.kr.congr (cq _ _ _ _ V),?_,N.kh.congr (cq _ _ _ _ V),by simp[N.aT]⟩;have:=dF.aV (m:=k) (o:=F) (r:=[.i v]) N.ko;grind [Au]
def Cv(df:ab):∀(l B:ab)(k:Nat),fJ df k (l++B)=fJ df k l++fJ df (k+l.length) B
 |[],B,k=>by simp[fJ]
 |a::l,B,k=>by
  have:=Cv df l B (k+1);grind [fJ,List.length_cons,List.length]
theorem Ra{k:Nat}(h:k<t):eP (t -k)=0::eP (t -(k+1)):=by
 have:t -k=(t -(k+1))+1:=V;rw[this];rfl
theorem abL(h:l.length<t)(v:Int):(l++eP (t -l.length)).set l.length v=(l++[v])++eP (t -(l.length+1)):=by
 grind [Ra]
theorem adV(h:l.length<t):l++eP (t -l.length)=(l++[0])++eP (t -(l.length+1)):=by
 grind [Ra]
variable{z:bg}{u:ag}{e:bg}{v:Nat}{d y cy A j:E}{c:Int}{s:St}{b:an}{a:bW}{B G h:E}{H:List ae}
def Ki(T:ST z u e v cQ (IB d y c s cy A j) cy A j s.cy s.aR b a B G h H)(av:gY z d y C)(aj:0<=g)(hq:C.di[g.toNat]? =some q)(ax:0<=q.aU/\q.aU<=2000){X:E}{o:ab}(hw:ba e X o)(aR:o≠[]->u X.bz=0)(aU:(o.length:Int)<=q.aU)(S:Instr)(aa az:E)
 (aH:b.length<=10000)(aF:0<=s.dg/\s.dg<=100000):
 bK dO 100 [vp v 0,vi g,X.v,xv S aa az] e λ_ k=>Gu z u e v d y c {s with dg:=s.dg+1,bq:=if S.op=24 then b++[cz C g a.bH o]else b++[a,cz C g S.bH o]} k:=by
 apply Ad (v,0)
 simp -zeta only[dR]
 intro m1
 obtain⟨ay,s1⟩:=pu m1
 let⟨Z,t1⟩:=T.ext ay
 have B1:A2 u m1 [e.size]:=λr w=>by simp at w;subst w;exact⟨V,T.eI.bF _ bY⟩
 have aG:=T.jO.Eg
 have aE:=T.jO.qB.le
 have e0:eJ (s.dg+1)=s.dg+1:=by grind [de]
 have ao:eJ ((j.len:Int) -1)=(b.length:Int):=by grind [de]
 have e2:Int.toNat (b.length:Int)=b.length:=V
 refine⟨s.dg,Z.eI.bV.dx 5,Z.eI.pQ (i:=5) bO,?_⟩
 rw[e0]
 intro m2
 let⟨Q,t2⟩:=Z.lW 5 [.i (s.dg+1)]
 replace Q:ST z u m2 v cQ (IB d y c {s with dg:=s.dg+1} cy A j) cy A j s.cy s.aR b a B G h H:=Q
 replace t2:To u m1 u m2:=t2
 have B2:=B1.to t2
 have g9:aS m2 v 9=some j.v:=Q.eI.bV.dx 9
 obtain⟨_,_,g2,_,_,_⟩:=Q.jO.kZ
 refine⟨t2.fS B1,j,g9,?_⟩
 rw[ao,e2]
 have aC:=t1.J t2
 refine⟨λI k=>∃J U,wU z u k v cQ (IB d y c {s with dg:=s.dg+1} cy A U) cy A U s.cy s.aR J/\To u e u k/\A2 u k [e.size]/\J.length<=10001/\(if S.op=24 then b++[cz C g a.bH o]else b++[a,cz C g S.bH o])=J++[cz C g I o],⟨λac=>?_,λac=>?_⟩,?_⟩
 .simp at ac
  refine⟨j,g9,V,V,a.bH,g2,j,g9,V,V,V,Q.eI.pQ (i:=9) bO,?_⟩
  intro L
  let⟨t,t3⟩:=Q.eI.lW 9 [.s (j.cut 0 b.length 6)]
  obtain⟨m,_⟩:=t.mE (dI.cU _ t.bF) t.bq.pop
  refine⟨t3.fS B2,b,j.cut 0 b.length 6,m,aC.J t3,B2.to t3,V,?_⟩
  rw[bn ac]
 .grind [ST.eI]
 rintro I L ⟨J,U,t,t3,B3,hX,ar⟩
 rw[ar]
 have aQ:dG C g=q:=by grind [dG]
 have af:=av.ext t.cW
 refine⟨d,t.bV.dx 0,y,t.bV.dx 1,(Ah af aj hq ax I).aP ?_⟩
 rintro _ N ⟨b1,b2,b3,rfl,Y⟩
 have aM:=Y.lo
 have aq:∀r∈[e.size],r<L.size:=λr w=>(B3 r w).1
 have aO:e.size<L.size:=cB
 refine⟨Y.ext.eV aq,_,_,_,_,_,_,O,?_⟩
 intro m5 m6
 have ap:D N m6:=by grind [D.cU,D.bZ,D.aV]
 have s6:m6.size=N.size+1:=by grind [bD]
 have N6:=Y.LQ ap
 have aT:=hw.aT
 have iw:∀{M},D L M->ba M X o:=by grind [ku,dI.fR,ly,ba.ext]
 obtain⟨pa,pl,pc,_,au,_,_,k1,_,_,_⟩:=af.di.bt hq
 have aN:=br hq
 have aP:=af.di.aT
 have aL:∀(m:Nat),(q.df.any λF=>F==(m:Int))=true<->(m:Int)∈q.df:=cB
 simp -zeta only[E.lT,E.vP,E.kv,eW]
 refine gP (n:=o.length) V (λm k=>tw L k b1 b2 b3 q.aU.toNat (o.take m++eP (q.aU.toNat -m)) (fJ q.df 0 (o.take m)++eP (q.aU.toNat -m)) (eP q.aU.toNat)/\N.size<k.size) ⟨by simpa[fJ]using N6,V⟩ ?_
 rintro m P aD μ hk ⟨R,s7⟩ aB
 have wK:∀{ma mc:bg},(∀r,r=N.size\/r=e.size->mc[r]? =ma[r]?)->gS [N.size,e.size] ma mc:=λhh r w=>hh r cB
 have tk:(o.take m).length=m:=cB
 have aW:(fJ q.df 0 (o.take m)).length=m:=by rw[mf,tk]
 refine dit (λh1=>?_) λh1=>?_
 .let⟨F,hy⟩:=dV o m
  have ek:Int.toNat (m:Int)*1=m:=V
  have ah:m<q.aU.toNat:=V
  let⟨w8,K⟩:=R.IZ ah F
  have er:(o.take m++eP (q.aU.toNat -m)).set m F=o.take (m+1)++eP (q.aU.toNat -(m+1)):=by
   grind [abL,List.take,bX]
  rw[er]at K
  have eo:fJ q.df 0 (o.take (m+1))=fJ q.df 0 (o.take m)++[if q.df.any (λF=>F==(m:Int))then 0 else iV F]:=by
   rw[bX hy,Cv,tk];simp[fJ]
  refine⟨V,V,F,by simpa using(iw R.ext).bt hy,V,V,?_⟩
  rw[ek]
  refine⟨w8,?_⟩
  intro m8
  have s8:m8.size=P.size:=bD _ _ _ _
  refine⟨wK λr w=>cq _ _ _ _ V,?_⟩
  replace K:tw L m8 b1 b2 b3 q.aU.toNat (o.take (m+1)++eP (q.aU.toNat -(m+1))) (fJ q.df 0 (o.take m)++eP (q.aU.toNat -m)) (eP q.aU.toNat):=K
  refine⟨y,K.ext.aS (t.bV.dx 1),aj,V,pl,K.ext.aS k1,(lF (au.ext K.ext) _).aP ?_⟩
  rintro _ m9 ⟨r,rfl,w,ad⟩
  have N9:=K.LQ ad
  have s9:=ad.aQ
  refine⟨ad.eV cB,r,O,λan=>?_,λam=>?_⟩
  .refine(qK F m9).aP ?_
   rintro _ aw ⟨rfl,W⟩
   have aA:=W.aQ
   let⟨al,ag⟩:=(N9.LQ W).tW ah (iV F)
   have ai:(fJ q.df 0 (o.take m)++eP (q.aU.toNat -m)).set m (iV F)=fJ q.df 0 (o.take (m+1))++eP (q.aU.toNat -(m+1)):=by
    grind [abL,fJ,List.take,iV]
   rw[ai]at ag
   refine⟨W.eV cB,_,O,bE (W.bG N.size V) 4,V,V,al,?_⟩
   intro ak
   refine⟨wK λr w=>cq _ _ _ _ V,aB V _ ⟨ag,by simp only[ak,bD];omega⟩⟩
  grind [adV,fJ,List.take]
 .have aw:m=o.length:=V
  subst aw
  rw[fw]at R
  have hc:dI (λ_=>False) u L (qx u b1 b2 b3 J.length) P:=R.fO t.bF
  let⟨a1,a2,a3⟩:=R.qB (q:=u) (v:=J.length)
  let⟨F,t7⟩:=t.jU (hc.aP λ_=>False.elim) (t.aR.fO hc id id)
  have B7:A2 (qx u b1 b2 b3 J.length) P [N.size,e.size]:=λr w=>by
   simp at w;refine⟨V,?_⟩;unfold qx;rw[fL V,fL V,fL V];rcases w with rfl|rfl
   .exact t.bF _ V
   .exact(B3 _ bO).2
  refine⟨U,F.bV.dx 9,?_⟩
  intro ad
  have W:=px ad
  have mu:jG ad P.size 0 [.i g,.i 0,.i I,.s (.mk b1 0 q.aU.toNat q.aU.toNat),.s (.mk b2 0 q.aU.toNat q.aU.toNat),.s (.mk b3 0 q.aU.toNat q.aU.toNat)]:=(dF.push P _ _).kZ
  let⟨K,al⟩:=F.ext W
  have ah:=B7.to al
  have ch:=λ{m:Nat}{s:E}{l:ae}(aa:iE (qx u b1 b2 b3 J.length) P bB 1 m s l)=>aa.fO (dI.fC (p:=λ_=>False) W F.bF) id
  have aK:(cz C g I o).aU=o++eP (q.aU.toNat -o.length):=by grind [cz]
  have aJ:(cz C g I o).bI=fJ q.df 0 o++eP (q.aU.toNat -o.length):=by grind [cz]
  have aI:(cz C g I o).cC=eP q.aU.toNat:=by grind [cz]
  refine⟨W.da (F.bV.dx 9),rR.push K.bq K.bF (x:=.mk P.size 0 1 1) O (f:=cz C g I o) mu cB cB cB V λak qs aA q1 q2=>?_⟩
  have ag:To _ ad ak aA:=q2.aP λm hk=>V
  let⟨ai,aX⟩:=K.mE (q2.aP λm hk=>V) q1
  refine⟨ag.fS ah,ai.pQ (i:=9) bO,?_⟩
  intro aV
  let⟨an,am⟩:=ai.lW 9 [.s qs]
  exact⟨am.fS (ah.to ag),ak,cy,A,qs,an,(((t3.J t7).J al).J ag).J am⟩
end
section
def Q3(aU:ab):∀(a bI:ab)(n:Int),(∀q∈bI,n<=q)->∀q∈cL aU bI a,n -a.length<=q
 |[],bI,n,h,q,b=>by have:=h q b;simp;omega
 |r::a,bI,n,h,q,b=>by
  have j:∀d,(∀q∈d,n -1<=q)->q∈cL aU d a->n -(r::a).length<=q:=λd f c=>by
   have:=Q3 aU a d (n -1) f q c;grind [List.length_cons]
  rw[cL]at b;refine j _ (λk c=>?_) b;split at c
  .rcases tP c with g|g
   .rcases dJ r.toNat bI.length with e|e
    .let⟨y,i⟩:=gD e;have:=h y (aZ i);grind [Pv]
    grind [gX,bt,List.set_eq_of_length_le]
   grind
  .grind
variable{q:bg}{g:ag}{m:bg}{k:Nat}{d p cy j c:E}{a:St}{b:an}{f:bW}{r t h:E}{u:List ae}
def Wu{y:cZ}{v:Instr}(C:wc y a b f v){bI:ab}(aE:bI=cL f.aU f.bI (cO y v))(hM:pb y a f v bI)
 (ac:ST q g m k cQ (IB d p (cF y) a cy j c) cy j c a.cy a.aR b f r t h u)(aD:gY q d p y){af az:E}(ha:ba q af v.aO)(hj:ba q az v.gE)(cm:a.aR.length<=900000000)(cr:a.cy.length<=900000000):
 bK dO 51 [vp k 0,vp c.bz (c.off+b.length*6),xv v af az] m λ_ Q=>Gu q g m k d p (cF y) (eD y a b f v bI) Q:=by
 apply CZ (k,0) (c.bz,c.off+b.length*6)
 simp -zeta only[dR]
 intro m1
 obtain⟨b7,s1⟩:=pu m1
 let⟨S1,t1⟩:=ac.ext b7
 have B1:A2 g m1 [m.size]:=λP hb=>by simp at hb;subst hb;exact⟨V,ac.eI.bF _ bY⟩
 have cn:=C.Tp
 have cq:bI.length=f.bI.length:=by grind [my]
 have cw:r.len=f.aU.length:=by have:=ac.jO.aU.aT;simp at this;omega
 have co:t.len=f.bI.length:=by have:=ac.jO.bI.aT;simp at this;omega
 have cf:=ha.aT
 have aM:v.aO.length<=4:=C.oK.1
 have ct:0<=f.pc/\f.pc<=100000:=by
  have cu:=C.F.pc;obtain⟨pq,_,cv,hP,_,_⟩:=C.I;grind [pd.aT]
 have e4:eJ (f.pc+1)=f.pc+1:=by grind [de]
 have ck:b.length<=1000:=by
  grind [wc.ok,eu.kV,eu.dg,eu.dL,wc.fr]
 refine(Ab (aD.ext S1.eI.cW) (S1.eI.bV.dx 1) C.jF (ha.ext S1.eI.cW) V C.oK.2.2.2.1).aP ?_
 rintro _ m2 ⟨ts,lt,rfl,bw,_,aJ,bv,_⟩
 let⟨S2,t2⟩:=S1.ext aJ
 have B2:=B1.to t2
 have cA:=Nj y v
 have aQ:=bw.aT
 have b5:cO y v≠[]->g ts.bz=0:=λap=>by
  rcases bv with w|w|w
  .subst w;simp at aQ;exact absurd (cp.1 aQ.symm) ap
  .rw[w];refine ac.eI.mq _ (ly ha λh0=>?_);let⟨R,B⟩:=aav _ ap;have:=wV B;grind
  .grind [ST.eI,wU.bF]
 refine⟨t2.fS B1,ts,lt,O,?_⟩
 refine gP (n:=(cO y v).length) V (λL Q=>ST q g Q k cQ (IB d p (cF y) a cy j c) cy j c a.cy a.aR b {f with bI:=cL f.aU f.bI ((cO y v).take L)} r t h u/\To g m2 g Q) ⟨S2,dI.cU _ S2.eI.bF⟩ ?_
 rintro L m3 bH μ hk ⟨S3,t3⟩ ca
 have B3:=B2.to t3
 have bU:(cL f.aU f.bI ((cO y v).take L)).length=f.bI.length:=my _ _ _
 refine dit (λh1=>?_) λh1=>?_
 .let⟨R,B⟩:=dV (cO y v) L
  have A:=C.Pb R (aZ B)
  obtain⟨_,_,_,G,H,_⟩:=S3.jO.kZ
  have J:ba m3 ts (cO y v):=by grind [ku,dI.fR,ly]
  have M:cL f.aU f.bI ((cO y v).take (L+1))=if 1000<=bt f.aU R then gX (cL f.aU f.bI ((cO y v).take L)) R (bt (cL f.aU f.bI ((cO y v).take L)) R -1)else cL f.aU f.bI ((cO y v).take L):=by
   rw[bX B,zh];rfl
  refine⟨V,V,R,by simpa using J.bt B,r,G,A.1,V,_,(S3.EI cB).tC A.1 A.2,λh5=>?_,λh5=>?_⟩
  .simp only[bh]at h5
   have F:R<(cL f.aU f.bI ((cO y v).take L)).length:=V
   have N: -4<=bt (cL f.aU f.bI ((cO y v).take L)) R/\bt (cL f.aU f.bI ((cO y v).take L)) R<=999999:=by
    let⟨qq,ax,a9⟩:=ou _ _ _ _ (jR A.1 F);have h7:=C.Tz qq (aZ ax);have h8:=Q3 f.aU ((cO y v).take L) f.bI 0 (λal hq=>(C.Tz al hq).1) _ (iS A.1 F);have K:((cO y v).take L).length<=4:=cB;omega
   have Z:eJ (bt (cL f.aU f.bI ((cO y v).take L)) R -1)=bt (cL f.aU f.bI ((cO y v).take L)) R -1:=by grind [de]
   refine⟨t,H,A.1,V,_,(S3.NH cB).tC A.1 F,A.1,V,S3.jO.bI.SE A.1 F,?_⟩
   rw[Z]
   intro I
   let⟨z,t4⟩:=S3.tW A.1 F (bt (cL f.aU f.bI ((cO y v).take L)) R -1)
   constructor<;>grind [dI.fS,dI.J]
  grind [ge_iff_le,decide_eq_false_iff_not]
 rw[eQ V,<-aE]at S3
 clear ca bU hk h1 b5 bw bv aQ
 obtain⟨_,g1,_,_,_,_⟩:=S3.jO.kZ
 refine⟨f.pc,g1,S3.jO.abh,?_⟩
 rw[e4]
 intro I
 let⟨z,t4⟩:=S3.Sz (f.pc+1)
 have J:A2 g I [m.size]:=B3.to t4
 have bA:gS [m.size] m3 I:=t4.fS B3
 have X:To g m g I:=by grind [dI.J]
 clear t4
 replace z:ST q g I k cQ (IB d p (cF y) a cy j c) cy j c a.cy a.aR b {f with bI:=bI,pc:=f.pc+1} r t h u:=z
 refine⟨bA,?_⟩
 clear bA g1 S3 t3 B3 t2 B2 S2 aJ bH μ
 have T:∀{M M':bg},gS [m.size] M M'->∀ak,aS M' m.size ak=aS M m.size ak:=λh ak=>bE (h _ bO) ak
 have hd:=C.bH
 have aO:f.aU.length=bI.length/\f.cC.length=bI.length/\bI.length<=2000:=V
 have an:1<=v.aO.length->0<=bt v.aO 0/\bt v.aO 0<f.aU.length:=λh1=>C.arg _ (iS V V)
 have ga:∀{Q},D q Q->1<=v.aO.length->aS Q af.bz (af.off+Int.toNat (0:Int)*1)=some (vi (bt v.aO 0)):=λhx h1=>(ha.ext hx).tC V V
 have gr:∀{g m bx cy j c lo am t h u own' pc'},ST q g m k cQ bx cy j c lo am b {f with bI:=own',pc:=pc'} r t h u->∀{ak:Int},0<=ak->ak<f.aU.length->aS m r.bz (r.off+ak.toNat*1)=some (vi (bt f.aU ak)):=λac ak h0 h1=>(ac.EI cB).tC h0 h1
 have ad:∀{g m bx cy j c lo am t h u own' pc'},ST q g m k cQ bx cy j c lo am b {f with bI:=own',pc:=pc'} r t h u->aS m c.bz (c.off+b.length*6+3)=some r.v:=λac=>ac.jO.kZ.2.2.2.1
 have b9:∀r',r'∈v.aO->bt f.aU r'<1000->ln (bt f.aU r'):=λr' b2 ay=>by
  have bo:=C.arg r' b2;rcases C.F.XQ _ (iS bo.1 bo.2)with h5|h5
  .exact h5
  .omega
 obtain⟨pq,_,_,_,_,hI⟩:=C.I
 have ai:=hI.op
 clear hI
 have aU:∀{aT:ag}{bp:E}{am:ah}{M:bg}(SM:ST q aT M k cQ (IB d p (cF y) {a with aR:=am} cy bp c) cy bp c a.cy am b {f with bI:=bI,pc:=f.pc+1} r t h u)(tM:To g m aT M)(BM:A2 aT M [m.size])(F aG:Int)(s':St),s'={a with aR:=am,bq:=b++[bW.cG {f with bI:=bI,pc:=f.pc+1} v.bH F aG]}->
  bK dO 92 [vp c.bz (c.off+b.length*6),vi v.bH,vi F,vi aG] M λ_ Q=>gS [m.size] M Q/\Gu q g m k d p (cF y) s' Q:=λSM tM BM F aG s' w=>by
  refine(uZ SM hd.1 cB cB F aG).aP ?_
  rintro _ Q ⟨S',t'⟩
  exact⟨t'.fS BM,_,cy,_,c,by rw[w];exact S'.eI,tM.J t'⟩
 have aI:∀{M:bg}(hx:D I M)(Y:Int)(s':St),s'={a with bq:=b++[{f with bI:=bI,pc:=Y}]}->
  jb M c.bz (c.off+b.length*6+1) 1/\gS [m.size] M (aV M c.bz (c.off+b.length*6+1) [.i Y])/\Gu q g m k d p (cF y) s' (aV M c.bz (c.off+b.length*6+1) [.i Y]):=λhx Y s' w=>by
  let⟨SM,tM⟩:=z.ext hx
  let⟨S',t'⟩:=SM.Sz Y
  exact⟨SM.jO.abh,t'.fS (J.to tM),g,cy,j,c,by rw[w];exact S'.eI,(X.J tM).J t'⟩
 refine⟨λw=>?_,λe0=>?_⟩
 .simp only[eH,bP]at w
  refine(Ob z ha C.arg aM (λZ=>C.oK.2.1 (bC Z)) (λe0 Z=>C.oK.2.2.1 V) (λe0 R B=>b9 R B (hM.oN V R B)) aO ⟨hd.1,by show v.bH<bI.length;omega⟩ V).aP ?_
  rintro _ W ⟨ar,aA,aq,au,L5,B⟩
  refine⟨B.fS J,ar,aA,aq,au,?_,X.J B⟩
  have:eD y a b f v bI=(if v.op=0 then{a with bq:=b++[bW.cG {f with bI:=bI,pc:=f.pc+1} v.bH v.cE 0]}else if v.op=5 then{a with cy:=a.cy++[bt f.aU (bt v.aO 0)],bq:=b++[bW.cG {f with bI:=bI,pc:=f.pc+1} v.bH (bt f.aU (bt v.aO 0)) 0]}else{a with bq:=b++[bW.cG {f with bI:=bI,pc:=f.pc+1} v.bH (TB v.op (bt f.aU (bt v.aO 0)) (bt f.aU (bt v.aO 1))) 0]}):=by
   unfold eD;simp only[];by_cases A:v.op=0
   .grind
   rw[aW A,aW A];by_cases G:v.op=5
   .rw[aW V,bn G,bn G]
   .grind
  rw[this];exact L5
 simp only[cV,bd]at e0
 have a7:¬(v.op=1\/v.op=2\/v.op=3\/v.op=4):=V
 have b_:∀F∈f.cC,F≠0->1000<=F/\ix F<a.aR.length:=λF hw ap=>by
  obtain⟨h1,dd,bR,_⟩:=C.P6 F hw ap;exact⟨h1,br bR⟩
 refine⟨λw=>?_,λe6=>?_⟩
 .simp only[bP]at w
  have U:=C.oK.2.2.2.2.1 w
  refine(Ko z ha C.arg aM aO ⟨U.1,U.2.1⟩ V b_).aP ?_
  rintro _ W ⟨ar,aq,A,N,rfl,S,B,er,eo,ep,ec⟩
  refine⟨B.fS J,_,O,T (B.fS J) 1,(uZ S hd.1 cB cB (1000+A) 1).aP ?_⟩
  rintro _ K ⟨G,H⟩
  refine⟨H.fS (J.to B),ar,cy,aq,c,?_,(X.J B).J H⟩
  have h7:=ec f.pc
  have aa:N.pc=f.pc+1:=ep
  have h8:({N with pc:=f.pc+1}:bW)=N:=by rw[<-aa]
  rw[h8]at h7
  have:eD y a b f v bI=rH a b {f with bI:=bI} v v.cE:=by
   unfold eD rH;simp only[];rw[aW V,aW a7,aW V,bn w];rfl
  grind [rH,kD,dQ,bW.cG,ST.eI]
 simp only[bd]at e6
 have F4:FP I c.bz (c.off+b.length*6) {f with bI:=bI,pc:=f.pc+1} r t h:=z.fp ⟨by show f.aU.length<=_;omega,by show bI.length<=_;omega,by show f.cC.length<=_;omega⟩
 have bG:∀{aX:aj},(∀ws M,ba M ws (dQ f v.aO)->D I M->(dQ f v.aO≠[]->g ws.bz=0)->aX ws.v M)->bK dO 95 [vp c.bz (c.off+b.length*6),af.v] I aX:=λhk=>by
  refine(zw F4.g3 F4.aU (ha.ext z.eI.cW) C.arg V).aP ?_;rintro _ W ⟨ws,rfl,ow,ae⟩;have b6:(dQ f v.aO).length=v.aO.length:=by simp[dQ]
  have iw:ba W ws (dQ f v.aO):=ba.ju (l:=dQ f v.aO) ow V;refine hk ws W iw ae λap=>?_;rcases ow.bz with w|w
  .subst w;have:=iw.aT;simp at this;exact absurd (cp.1 this.symm) ap
  .exact z.eI.bF _ w
 have aJ:(gR y.bS).length<=12:=by
  have:=tF C.ok.iG.mN.dk y.bS.length;grind [qI]
 have cg:0<=cF y/\cF y<=12:=by grind [cF]
 refine⟨λw=>?_,λa8=>?_⟩
 .simp only[bP]at w
  have aa:=C.oK.2.2.2.2.2.1 w
  refine⟨cF y,z.eI.bV.dx 2,bG λws W iw ae _=>?_⟩
  let⟨S,B⟩:=z.ext ae
  have A:=J.to B
  have N:=B.fS J
  have U:eJ (cF y+v.cE)=cF y+v.cE:=iz
  refine⟨N,ws,O,T N 2,ae.da (z.eI.bV.dx 2),T N 1,?_⟩
  rw[U]
  refine(HV S (cF y+v.cE) iw (by simp[dQ];omega) V).aP ?_
  rintro _ K ⟨rfl,bk,aH,G,H⟩
  have aB:=H.fS A
  refine⟨aB,_,O,T aB 1,aU (bp:=aH) (am:=kD a.aR (fG a.aR) ⟨1,cF y+v.cE,dQ f v.aO⟩) G ((X.J B).J H) (A.to H) _ _ _ ?_⟩
  grind [eD]
 simp only[bd]at a8
 have Rc:eD y a b f v bI=(
  if v.op=14 then{a with aR:=qv a.aR (bt f.aU (bt v.aO 0)),bq:=b++[{f with bI:=gX bI (bt v.aO 0) (bt bI (bt v.aO 0)+1),pc:=f.pc+1}]}
  else if v.op=15 then{a with aR:=pG (jL a.aR [bt f.aU (bt v.aO 0)]),bq:=b++[{f with bI:=bI,pc:=f.pc+1}]}
  else if v.op=16\/v.op=17 then xF a b {f with bI:=bI} v
  else if v.op=18 then{a with bq:=b++[bW.cG {f with bI:=bI,pc:=f.pc+1} v.bH (bt f.aU (bt v.aO 0)) (iV (bt f.aU (bt v.aO 0)))]}
  else if v.op=19 then{a with bq:=b++[bW.cG {f with bI:=bI,pc:=f.pc+1} v.bH (bt (bu a.aR (bt f.aU (bt v.aO 0))).bJ v.cE) 0]}
  else if v.op=20 then{a with bq:=b++[{f with bI:=bI,pc:=if bt f.aU (bt v.aO 0)=0 then v.cE else f.pc+1}]}
  else if v.op=22 then{a with bq:=b++[{f with bI:=bI,pc:=v.cE}]}
  else if v.op=21 then{a with bq:=b++[{f with bI:=bI,pc:=bt v.gE (tH (cT y.bS v.cE) (bu a.aR (bt f.aU (bt v.aO 0))).js)}]}
  else if v.op=9\/v.op=24 then{a with dg:=a.dg+1,bq:=if v.op=24 then b++[cz y v.cE f.bH (dQ f v.aO)]else b++[{f with bI:=bI,pc:=f.pc+1},cz y v.cE v.bH (dQ f v.aO)]}
  else if v.op=11 then{a with dg:=a.dg+1,aR:=iZ a.aR (bt f.aU (bt v.aO 0)),bq:=b++[{f with bI:=bI,pc:=f.pc+1},cz y ((bu a.aR (bt f.aU (bt v.aO 0))).js -cF y) v.bH ((bu a.aR (bt f.aU (bt v.aO 0))).bJ++[bt f.aU (bt v.aO 1)])]}
  else match b.getLast? with|none=>{a with eC:=0,iQ:=bt f.aU (bt v.aO 0),bq:=[]}|some av=>{a with bq:=b.dropLast++[av.cG f.bH (bt f.aU (bt v.aO 0)) (iV (bt f.aU (bt v.aO 0)))]}):=by
  unfold eD
  simp only[]
  rw[aW V,aW a7,aW V,aW e6,aW a8]
  by_cases a0:v.op=14
  .grind
  rw[aW a0,aW a0]
  by_cases a1:v.op=15
  .grind
  rw[aW a1,aW a1]
  by_cases aC:v.op=16\/v.op=17
  .rw[bn aC,bn aC];rfl
  rw[aW aC,aW aC]
  by_cases a2:v.op=18
  .grind
  rw[aW a2,aW a2]
  by_cases a3:v.op=19
  .grind
  rw[aW a3,aW a3]
  by_cases a4:v.op=20
  .grind
  rw[aW a4,aW a4]
  by_cases a5:v.op=21
  .grind
  rw[aW a5]
  by_cases a6:v.op=22
  .grind
  rw[aW a6,aW a6,aW a5]
  by_cases bL:v.op=9
  .grind
  rw[aW bL]
  by_cases bJ:v.op=24
  .grind
  rw[aW bJ,aW (show¬(v.op=9\/v.op=24)by omega)]
  by_cases aY:v.op=11
  .grind
  rw[aW aY,aW aY]
  cases b.getLast?<;>rfl
 rw[Rc]
 clear Rc
 refine⟨λw=>?_,λa_=>?_⟩
 .simp only[bP]at w
  rw[bn w]
  have h2:=C.oK.2.1 V
  have A:=an V
  let⟨aa,bb⟩:=hM.dup w
  let⟨U,aF⟩:=dy aa
  have ay:=br U
  have aP:=z.eI.aR.aT
  have aN:=aa.1
  have ao:ix (bt f.aU (bt v.aO 0))=(bt f.aU (bt v.aO 0) -1000).toNat:=rfl
  have Z:eJ (bt f.aU (bt v.aO 0) -1000)=bt f.aU (bt v.aO 0) -1000:=by grind [de]
  have aK:eJ ((bu a.aR (bt f.aU (bt v.aO 0))).bT+1)=(bu a.aR (bt f.aU (bt v.aO 0))).bT+1:=by grind [de]
  obtain⟨f0,k0,_⟩:=z.eI.aR.dx U
  refine⟨j,z.eI.bV.dx 8,r,ad z,V,V,_,ga z.eI.cW V,A.1,V,_,gr z A.1 A.2,?_⟩
  rw[Z,<-ao]
  refine⟨V,V,_,k0,V,V,z.eI.aR.wr (o:=0) ay cD,?_⟩
  rw[aK]
  intro W
  let⟨aL,c5⟩:=z.eI.aR.xI z.eI.bF U ((bu a.aR (bt f.aU (bt v.aO 0))).bT+1)
  let⟨S,B⟩:=z.jU (c5.aP λL hk=>bC hk) aL
  have aw:bt v.aO 0<bI.length:=V
  have bc:0<=bt bI (bt v.aO 0)/\bt bI (bt v.aO 0)<=999999:=by
   refine⟨hM.nn _ (iS (l:=bI) A.1 aw),?_⟩;have hg:=jR (l:=bI) A.1 aw;rw[aE]at hg;let⟨qq,ax,a9⟩:=ou _ _ _ _ hg;have:=(C.Tz qq (aZ ax)).2;grind
  have e7:eJ (bt bI (bt v.aO 0)+1)=bt bI (bt v.aO 0)+1:=by grind [de]
  refine⟨B.fS J,t,S.jO.kZ.2.2.2.2.1,V,V,_,ga S.eI.cW V,A.1,V,bt bI (bt v.aO 0),(S.NH cB).tC A.1 aw,A.1,V,S.jO.bI.SE A.1 aw,?_⟩
  rw[e7]
  intro K
  let⟨G,H⟩:=S.tW A.1 aw (bt bI (bt v.aO 0)+1)
  exact⟨H.fS (J.to B),g,cy,j,c,G.eI,(X.J B).J H⟩
 simp only[bd]at a_
 rw[aW a_]
 refine⟨λw=>?_,λbb=>?_⟩
 .simp only[bP]at w
  rw[bn w]
  have h2:=C.oK.2.1 V
  have A:=an V
  have bi:v.aO=[bt v.aO 0]:=by
   cases hx:v.aO with
   |nil=>rw[hx]at h2;simp at h2
   |cons R aw=>cases aw with
    |nil=>rfl
    |cons aK aw=>rw[hx]at h2;simp at h2
  have aK:=C.HE aE hM.nn
  have ht:cO y v=[bt v.aO 0]:=by grind [cO]
  have aL:=aK.1
  rw[ht]at aL
  refine⟨j,z.eI.bV.dx 8,?_⟩
  intro W K
  let⟨G,H,kb⟩:=z.Ti
  have R:A2 (oH g I.size 5) K [m.size]:=J.to H
  replace G:ST q (oH g I.size 5) K k cQ (IB d p (cF y) a cy j c) cy j c a.cy a.aR b {f with bI:=bI,pc:=f.pc+1} r t h u:=G
  replace H:To g I (oH g I.size 5) K:=H
  replace kb:dF K I.size ig [.s j]:=kb
  refine⟨r,ad G,V,V,_,ga G.eI.cW V,A.1,V,_,gr G A.1 A.2,(Kp G.eI.aR G.eI.bF kb gU (U:=λP=>j8 b P+fB f.aU bI P) (aL.congr λP=>O) aK.2 V).aP ?_⟩
  rintro _ m7 ⟨bf,aw,bc,be,c7⟩
  let⟨S7,t7⟩:=G.jU c7 bc
  refine⟨t7.fS R,aw,be.dx 0,S7.eI.pQ (i:=8) bO,?_⟩
  intro m8
  let⟨S8,t8⟩:=S7.lW 8 [.s aw]
  exact⟨t8.fS (R.to t7),bf,cy,aw,c,S8.eI,((X.J H).J t7).J t8⟩
 simp only[bd]at bb
 rw[aW bb]
 refine⟨λw=>?_,λbM=>?_⟩
 .simp only[eH,bP]at w
  rw[bn w]
  refine(Tl z ha C.arg ⟨C.oK.2.2.2.1 w,aM⟩ aO V (λal hq=>?_) (hM.Ql w).1 C.ok.aR (show f.pc+1=f.pc+1 from O)).aP ?_
  .refine⟨hM.nn al hq,?_⟩
   let⟨L,hk⟩:=cH.1 hq
   simp only[]at hk
   rw[aE]at hk
   let⟨qq,ax,a9⟩:=ou _ _ _ _ hk
   have:=(C.Tz qq (aZ ax)).2
   omega
  rintro _ W ⟨ar,aA,aq,au,L5,B⟩
  exact⟨B.fS J,ar,aA,aq,au,L5,X.J B⟩
 simp only[cV,bd]at bM
 rw[aW V]
 refine⟨λw=>?_,λbc=>?_⟩
 .simp only[bP]at w
  rw[bn w]
  have h2:=C.oK.2.1 V
  have A:=an V
  refine⟨r,ad z,V,V,_,ga z.eI.cW V,A.1,V,_,gr z A.1 A.2,(qK _ _).aP ?_⟩
  rintro _ W ⟨rfl,ae⟩
  let⟨S,B⟩:=z.ext ae
  have N:=B.fS J
  exact⟨N,_,O,T N 1,aU (am:=a.aR) S (X.J B) (J.to B) _ _ _ O⟩
 simp only[bd]at bc
 rw[aW bc]
 refine⟨λw=>?_,λbe=>?_⟩
 .simp only[bP]at w
  rw[bn w]
  have h2:=C.oK.2.1 V
  have A:=an V
  let⟨aa,aw⟩:=hM.tO w
  let⟨U,aF⟩:=dy aa
  have ay:=br U
  have aP:=z.eI.aR.aT
  have aN:=aa.1
  have ao:ix (bt f.aU (bt v.aO 0))=(bt f.aU (bt v.aO 0) -1000).toNat:=rfl
  have Z:eJ (bt f.aU (bt v.aO 0) -1000)=bt f.aU (bt v.aO 0) -1000:=by grind [de]
  obtain⟨f0,_,_,k2,kf,_⟩:=z.eI.aR.dx U
  have ax:=kf.aT
  unfold mJ at ai
  rw[aW V,aW V,aW V,aW V,aW V,aW V,aW V,bn w]at ai
  refine⟨j,z.eI.bV.dx 8,r,ad z,V,V,_,ga z.eI.cW V,A.1,V,_,gr z A.1 A.2,?_⟩
  rw[Z,<-ao]
  exact⟨V,V,f0,k2,ai.2.1,V,_,kf.tC ai.2.1 aw,aU (am:=a.aR) z X J _ _ _ O⟩
 simp only[bd]at be
 rw[aW be]
 refine⟨λw=>?_,λbf=>?_⟩
 .simp only[bP]at w
  rw[bn w]
  have h2:=C.oK.2.1 V
  have A:=an V
  refine⟨r,ad z,V,V,_,ga z.eI.cW V,A.1,V,_,gr z A.1 A.2,λh5=>?_,λh5=>?_⟩
  .simp at h5;exact aI cY _ _ cB
  .simp at h5;exact⟨g,cy,j,c,by rw[aW h5];exact z.eI,X⟩
 simp only[bd]at bf
 rw[aW bf]
 refine⟨λw=>?_,λbj=>?_⟩
 .simp only[bP]at w
  rw[bn w]
  exact aI cY _ _ O
 simp only[bd]at bj
 rw[aW bj]
 refine⟨λw=>?_,λbi=>?_⟩
 .simp only[bP]at w
  rw[bn w]
  have h2:=C.oK.2.1 V
  have A:=an V
  let⟨aa,bs⟩:=hM.xW w
  let⟨U,aF⟩:=dy aa
  have ay:=br U
  have aP:=z.eI.aR.aT
  have aN:=aa.1
  have ao:ix (bt f.aU (bt v.aO 0))=(bt f.aU (bt v.aO 0) -1000).toNat:=rfl
  have Z:eJ (bt f.aU (bt v.aO 0) -1000)=bt f.aU (bt v.aO 0) -1000:=by grind [de]
  obtain⟨f0,_,k1,_⟩:=z.eI.aR.dx U
  unfold mJ at ai
  rw[aW V,aW V,aW V,aW V,aW V,aW V,aW V,aW V,aW V,aW V,bn w]at ai
  have aL:tH (cT y.bS v.cE) (bu a.aR (bt f.aU (bt v.aO 0))).js<(cT y.bS v.cE).length:=mB ⟨_,bs,bO⟩
  have bl:=hj.aT
  have a9:=ai.2.2.1
  refine⟨j,z.eI.bV.dx 8,r,ad z,V,V,_,ga z.eI.cW V,A.1,V,_,gr z A.1 A.2,?_⟩
  rw[Z,<-ao]
  refine⟨V,V,_,k1,d,z.eI.bV.dx 0,(xt (aD.ext z.eI.cW).bS C.ok.iG.mN.dk v.cE).aP ?_⟩
  rintro _ W ⟨cs,rfl,aK,ae⟩
  let⟨S,B⟩:=z.ext ae
  have N:=B.fS J
  refine⟨N,cs,O,T N 5,(wm aK _).aP ?_⟩
  rintro _ K ⟨ri,rfl,aw,bm⟩
  let⟨G,H⟩:=S.ext aw
  have aB:=H.fS (J.to B)
  have ax:ri=tH (cT y.bS v.cE) (bu a.aR (bt f.aU (bt v.aO 0))).js:=by
   grind
  subst ax
  exact⟨aB,_,O,T aB 5,V,V,_,(hj.ext G.eI.cW).tC V V,aI (ae.J aw) _ _ O⟩
 simp only[bd]at bi
 rw[aW bi]
 have bm:0<=a.dg/\a.dg<=100000:=by
  grind [wc.ok,eu.dg,eu.dL]
 have aB:=C.ok.iG
 refine⟨λw=>?_,λe9=>?_⟩
 .simp only[eH,bP]at w
  rw[bn w]
  unfold mJ at ai
  rw[aW V,aW V,aW V,aW V,bn w]at ai
  let⟨al,aK,aw,bl⟩:=ai
  have b3:=(aB.eS al (aZ aw)).aU
  have h3:=(aB.mN.eS al (aZ aw)).1
  have b6:(dQ f v.aO).length=v.aO.length:=by simp[dQ]
  refine bG λws W iw ae aL=>?_
  let⟨S,B⟩:=z.ext ae
  have N:=B.fS J
  refine⟨N,ws,O,T N 0,T N 1,T N 2,T N 3,T N 4,T N 5,T N 2,(Ki S aD aK aw V iw aL V v af az V bm).aP ?_⟩
  rintro _ K ⟨bk,a9,aH,ax,L6,H⟩
  exact⟨H.fS (J.to B),bk,a9,aH,ax,L6,(X.J B).J H⟩
 simp only[cV,bd]at e9
 rw[aW V]
 refine⟨λw=>?_,λa9=>?_⟩
 .simp only[bP]at w
  rw[bn w]
  have h2:=C.oK.2.2.1 V
  have A:=an V
  have aL:0<=bt v.aO 1/\bt v.aO 1<f.aU.length:=by grind [wc.arg,iS]
  let⟨aa,b4,cx,b0,bV,ci⟩:=hM.apply w
  let⟨U,aF⟩:=dy aa
  have bl:=C.ok.aR.gZ _ (aZ U)
  have cj:=bl.fl
  have bs:=(bl.wZ aF).2
  have ay:=br U
  have aP:=z.eI.aR.aT
  have aN:=aa.1
  have ao:ix (bt f.aU (bt v.aO 0))=(bt f.aU (bt v.aO 0) -1000).toNat:=rfl
  have Z:eJ (bt f.aU (bt v.aO 0) -1000)=bt f.aU (bt v.aO 0) -1000:=by grind [de]
  let⟨f0,k0,k1,k2,kf,kr⟩:=z.eI.aR.dx U
  refine⟨r,ad z,V,V,_,ga z.eI.cW V,A.1,V,_,gr z A.1 A.2,j,z.eI.bV.dx 8,?_⟩
  rw[Z,<-ao]
  generalize hw:bt f.aU (bt v.aO 0)=F at*
  have gv:∀{g m bx cy j c lo am t h u own' pc'},ST q g m k cQ bx cy j c lo am b {f with bI:=own',pc:=pc'} r t h u->aS m r.bz (r.off+Int.toNat (bt v.aO 1)*1)=some (vi (bt f.aU (bt v.aO 1))):=λac=>gr ac aL.1 aL.2
  generalize hv:bt f.aU (bt v.aO 1)=Y at*
  let⟨al,hq⟩:=dV y.di (((bu a.aR F).js -cF y).toNat)
  have b1:dG y ((bu a.aR F).js -cF y)=al:=by grind [dG]
  rw[b1]at b0 bV
  have b3:=(aB.eS al (aZ hq)).aU
  have h3:=(aB.mN.eS al (aZ hq)).1
  refine⟨V,V,_,k0,_,k1,f0,k2,?_⟩
  intro W K
  have aK:D I K:=by grind [D.cU,D.bZ,D.aV]
  have s6:K.size=I.size+1:=by grind [bD]
  let⟨G,H⟩:=z.ext aK
  have R:A2 g K [I.size,m.size]:=λP hb=>by
   simp at hb;rcases hb with rfl|rfl
   .exact⟨V,z.eI.bF _ bY⟩
   .exact J.to H _ bO
  have aH:∀{M},D K M->aS M af.bz (af.off+Int.toNat (1:Int)*1)=some (vi (bt v.aO 1)):=λhx=>(ha.ext (G.eI.cW.J hx)).tC V V
  have ew:eJ ((bu a.aR F).js -cF y)=(bu a.aR F).js -cF y:=by grind [de]
  have tail:∀{M:bg}{es:E},D K M->jy K M bB 1 es (((bu a.aR F).bJ++[Y]).map Ce.i)->
   bK dO 101 [vp k 0,vi F,vb false] M λcd Q=>gS [I.size,m.size] M Q/\∃cc:Bool,cd=vb cc/\∃bF:Int,aS Q k (0+2)=some (vi bF)/\
    bK dO 100 [vp k 0,vi (eJ ((bu a.aR F).js -bF)),es.v,xv v af az] Q λ_ bz=>gS [I.size,m.size] Q bz/\Gu q g m k d p (cF y) {a with dg:=a.dg+1,aR:=iZ a.aR F,bq:=b++[{f with bI:=bI,pc:=f.pc+1},cz y ((bu a.aR F).js -cF y) v.bH ((bu a.aR F).bJ++[Y])]} bz:=λ{M}{es} hx oe=>by
   let⟨SM,tM⟩:=G.ext hx
   have BM:=R.to tM
   have ie:ba M es ((bu a.aR F).bJ++[Y]):=by grind [ba.ju]
   have bT:es.bz<M.size:=by grind [ly]
   have bS:g es.bz=0:=by
    rcases oe.bz with w|w
    .subst w;have:=ie.aT;simp at this
    .exact G.eI.bF _ w
   refine(HW SM aa false C.ok.aR V).aP ?_
   rintro _ m8 ⟨P,rfl,_,cC,cs,S8,t8⟩
   have hK:vB a.aR F false=iZ a.aR F:=by grind [vB]
   rw[hK]at S8
   have b8:ba m8 es ((bu a.aR F).bJ++[Y]):=by grind [ku,dI.fR]
   refine⟨t8.fS BM,P,O,cF y,S8.eI.bV.dx 2,?_⟩
   rw[ew]
   refine(Ki (s:={a with aR:=iZ a.aR F}) S8 aD b4 hq V b8 (λ_=>by rw[t8.jv _ bT];exact bS) cB v af az V bm).aP ?_
   rintro _ m9 ⟨ce,cb,bZ,bN,L9,t9⟩
   refine⟨t9.fS (BM.to t8),ce,cb,bZ,bN,?_,(((X.J H).J tM).J t8).J t9⟩
   grind
  refine⟨r,ad G,V,V,_,aH cY,aL.1,V,Y,gv G,?_,?_⟩
  .refine(gT (kf.ext aK) V).aP ?_
   rintro _ m7 ⟨cl,rfl,oc,N⟩
   let⟨S7,t7⟩:=G.ext N
   have B7:=R.to t7
   refine⟨t7.fS R,cl,O,N.da (gv G),N.da (aH cY),bE (N.bG m.size (R _ bO).1) 4,N.da (ad G),?_⟩
   intro m8
   have S:=px m8
   refine⟨bE (S.bG I.size (B7 _ bO).1) 2,rZ oc N V λes m9 o9 aw=>⟨?_,tail aw o9⟩⟩
   intro P hb
   have ax:=(R P hb).1
   rw[aw.bG P ax,S.bG P (oh N.aQ),N.bG P ax]
  .intro m7
   obtain⟨N,s7⟩:=pu m7
   have bQ:dF m7 K.size bB [.i Y]:=dF.push K _ _
   let⟨S7,t7⟩:=G.ext N
   have B7:=R.to t7
   refine⟨bE (N.bG I.size (R _ bO).1) 2,(gT (kf.ext (aK.J N)) V).aP ?_⟩
   rintro _ m8 ⟨cl,rfl,oc,S⟩
   let⟨S8,t8⟩:=S7.ext S
   have ch:cl.len=(bu a.aR F).bJ.length:=by have:=oc.aT;simp at this;omega
   refine⟨t8.fS B7,cl,O,S.da (gv S7),S.da (aH N),bE (S.bG m.size (B7 _ bO).1) 4,S.da (ad S7),?_⟩
   have bk:=N.J S
   refine jy.fx (c:=[.i 0]) (x:=.mk K.size 0 1 1) (i:=[.i Y]) (oc.cW V) bk O (bQ.ext S).kZ (by simp only[E.kv];omega) λes m9 o9 aw _ _ _ _=>⟨?_,tail aw (sp o9)⟩
   intro P hb
   have ax:=(R P hb).1
   rw[aw.bG P ax,bk.bG P ax]
 simp only[bd]at a9
 rw[aW a9]
 refine⟨λw=>?_,λK=>?_⟩
 .simp only[bP]at w
  have h2:=C.oK.2.1 V
  have A:=an V
  refine⟨r,ad z,V,V,_,ga z.eI.cW V,A.1,V,_,gr z A.1 A.2,(LY z V (bt f.aU (bt v.aO 0)) (λav hg=>?_)).aP ?_⟩
  .have ap:b≠[]:=cB
   have H:b=b.dropLast++[av]:=by
    grind [List.getLast?_eq_some_getLast,List.dropLast_concat_getLast]
   have N:b.length=b.dropLast.length+1:=by
    grind [List.length]
   let⟨R,S,U⟩:=C.ok.uK b.dropLast.length av f (by rw[C.fr,H];simp) (by rw[C.fr,<-N];simp)
   have G:=C.ok.bq av (by rw[C.fr,H];simp)
   have:=G.lr
   have:=G.lo
   grind
  rintro _ W ⟨ar,aA,aq,au,L5,B⟩
  exact⟨B.fS J,ar,aA,aq,au,L5,X.J B⟩
 simp only[bd]at K
 have:=C.opc
 omega
end
section
variable{a:cZ}{b:bg}{e k:Nat}
section
variable{j:bg}{h:ag}{m:bg}{f:Nat}{d p cy g c:E}{s:St}
def Ku(L:wU j h m f cQ (IB d p (cF a) s cy g c) cy g c s.cy s.aR s.bq)(z:gY j d p a)(u:eu a s)(am:∀t∈s.bq,∀w∈t.aU,w<=9223372036854775807)(ao:s.aR.length<=900000000)(ar:s.cy.length<=900000000):
 bK dO 27 [vp f 0] m λ_ I=>Gu j h m f d p (cF a) (qy a s) I:=by
 apply Af (f,0)
 simp -zeta only[dR]
 refine⟨s.eC,L.bV.dx 3,λy=>?_,λy=>?_⟩
 .simp at y
  rw[ua y]
  exact⟨h,cy,g,c,L,dI.cU _ L.bF⟩
 have G:s.eC=3:=sp y
 let⟨l,e,r⟩:=u.split G
 have ap:s.bq.getLast?=some e:=by rw[r];simp
 have al:s.bq.dropLast=l:=by rw[r];simp
 have C:wc a s l e (fF a e):=⟨u,G,r,O,am⟩
 have ax:qy a s=(open Classical in if qM (fF a e).op/\s.dg=s.dL then{s with eC:=1}else if pb a s e (fF a e) (cL e.aU e.bI (cO a (fF a e)))then eD a s l e (fF a e) (cL e.aU e.bI (cO a (fF a e)))else{s with eC:=2}):=by
  unfold qy;rw[aW (sp G),ap,al]
 rw[ax]
 generalize fF a e=x at*
 have M:wU j h m f cQ (IB d p (cF a) s cy g c) cy g c s.cy s.aR (l++[e]):=by rw[<-r];exact L
 let⟨ae,ad,U,af,T⟩:=M.bq.jO
 have S:ST j h m f cQ (IB d p (cF a) s cy g c) cy g c s.cy s.aR l e ae ad U af:=⟨M,T⟩
 have aC:=T.Eg
 have aa:=u.kV
 have aB:=u.dg
 have aF:=u.dL
 rw[r]at aa
 have aD:l.length<=1000:=by simp at aa;omega
 have e1:eJ ((c.len:Int) -1)=(l.length:Int):=by rw[iz];omega
 have e2:Int.toNat (l.length:Int)=l.length:=V
 have R:aS m f 9=some c.v:=S.eI.bV.dx 9
 obtain⟨Q,g1,_,_,_,_⟩:=T.kZ
 let⟨aK,hq,av,hP,aj,hI⟩:=C.I
 let⟨pa,pl,pc,aG,aI,ac,k0,k1,k2,k3,k4⟩:=z.di.bt hq
 let⟨F,H,X,hj,i0,i1,i2,i3,i4,i5⟩:=ac.bt aj
 have aJ:=z.di.aT
 have aH:=ac.aT
 have W:=C.F
 have au:=W.fQ
 have ab:=W.pc
 rw[av]at ab
 have n:=S.eI.cW
 refine⟨c,R,c,R,?_⟩
 rw[e1,e2]
 refine⟨V,V,p,S.eI.bV.dx 1,_,Q,au.1,V,pc,n.aS k4,_,g1,ab.1,V,_,n.aS i0,_,n.aS i1,_,n.aS i2,_,n.aS i3,F,n.aS i4,H,n.aS i5,?_⟩
 intro m1
 have o:=px m1
 refine⟨o.da (n.aS i0),o.da (n.aS i1),o.da (n.aS i2),o.da (n.aS i3),o.da (n.aS i4),o.da (n.aS i5),o.da g1,o.da (n.aS k4),o.da Q,o.da (S.eI.bV.dx 1),?_⟩
 intro b
 have ay:D m b:=o.aV bY _ _
 have s2:b.size=m.size+1:=by simp[b,m1,bD]
 let⟨k,t2⟩:=S.ext ay
 have A:A2 h b [m.size]:=λN n=>by simp at n;subst n;exact⟨V,S.eI.bF _ bY⟩
 have aE:=C.Tp
 have aw:({s with bq:=l++[e]}:St)=s:=by rw[<-r]
 have an:oZ b c (l++[e]):=k.eI.bq.Mp eX (λt w=>by
  have q:=u.bq t (by rw[r];exact w);obtain⟨P,_,B,v,_⟩:=q.Ky u.iG;have E:=q.lr;have J:=q.lo;have K:=q.lh;rw[B]at E J K;have:=v.aU;omega)
 have ah:RV b f 3 d p cy g c a s:=by
  have:RV b f 3 d p cy g c a {s with bq:=l++[e]}:=⟨z.ext k.eI.cW,k.eI.bV.dx 0,k.eI.bV.dx 1,k.eI.bV.dx 3,k.eI.bV.dx 4,k.eI.bV.dx 5,k.eI.bV.dx 6,k.eI.bV.dx 7,k.eI.bV.dx 8,k.eI.bV.dx 9,k.eI.cy.oN V,k.eI.aR.jI V,an⟩;rw[aw]at this;exact this
 have F2:FP b c.bz (c.off+l.length*6) e ae ad U:=k.fp ⟨V,V,V⟩
 have kO:¬(qM x.op/\s.dg=s.dL)->bK dO 50 [vp f 0,vp c.bz (c.off+l.length*6),xv x F H] b λaz v=>
  gS [m.size] b v/\∃J:Bool,az=vb J/\
  ((!J)=true->jb v f (0+3) 1/\let q:bg:=aV v f (0+3) [.i (2:Int)]
   gS [m.size] v q/\Gu j h m f d p (cF a) (open Classical in if qM x.op/\s.dg=s.dL then{s with eC:=1}else if pb a s e x (cL e.aU e.bI (cO a x))then eD a s l e x (cL e.aU e.bI (cO a x))else{s with eC:=2}) q)/\
  ((!J)=false->bK dO 51 [vp f 0,vp c.bz (c.off+l.length*6),xv x F H] v λt q=>
   gS [m.size] v q/\Gu j h m f d p (cF a) (open Classical in if qM x.op/\s.dg=s.dL then{s with eC:=1}else if pb a s e x (cL e.aU e.bI (cO a x))then eD a s l e x (cL e.aU e.bI (cO a x))else{s with eC:=2}) q):=λaq=>by
  refine(UR ah (k.eI.bV.dx 2) C F2 (X.ext k.eI.cW) V).aP ?_
  rintro _ m3 ⟨N,rfl,Y,ag⟩
  let⟨B,t3⟩:=k.ext ag
  have K:=A.to t3
  rw[aW aq]
  refine⟨t3.fS A,N,O,λq=>?_,λq=>?_⟩
  .rw[aW (nb Y q)]
   refine⟨B.eI.pQ (i:=3) bO,?_⟩
   intro m4
   let⟨E,t⟩:=B.lW 3 [.i 2]
   refine⟨t.fS K,h,cy,g,c,?_,(t2.J t3).J t⟩
   have:=E.eI
   rw[<-r]at this
   exact this
  .have w:=yb Y q
   rw[bn w]
   refine(Wu C O w B z X hj ao ar).aP ?_
   rintro _ m4 ⟨aA,ak,ai,Z,P,t⟩
   exact⟨t.fS K,aA,ak,ai,Z,P,(t2.J t3).J t⟩
 refine⟨λP I=>I=b/\(P=true<->qM x.op),⟨λq=>⟨O,by simp at q;simp[qM,q]⟩,λq=>⟨λw=>⟨O,by simp at w;simp[qM,w]⟩,λw=>⟨O,by simp at q w;simp[qM,q,w]⟩⟩⟩,?_⟩
 rintro P m3 ⟨rfl,Z⟩
 refine⟨λak=>⟨s.dg,k.eI.bV.dx 5,s.dL,k.eI.bV.dx 6,λw=>?_,λw=>?_⟩,λai=>?_⟩
 .simp at w
  refine⟨k.eI.pQ (i:=3) bO,?_⟩
  intro m4
  let⟨E,t⟩:=k.lW 3 [.i 1]
  refine⟨t.fS A,h,cy,g,c,?_,t2.J t⟩
  rw[bn ⟨Z.1 ak,w⟩]
  have:=E.eI
  rw[<-r]at this
  exact this
 .simp at w
  exact kO λt=>w t.2
 .exact kO λt=>by have:=Z.2 t.1;rw[ai]at this;simp at this
end
def pw{m:bg}{p w:E}(B:gY m p w a)(t:iB a)(dL:Int):
 bK dO 26 [.agg #[E.v p,E.v w],vi dL] m λG d=>∃r,G=.agg #[vi 3,vi 0,vi 0,vi dL,E.v .nil,E.v .nil,E.v r]/\D m d/\∃b1 b2 b3 b4 k,r=.mk b4 0 1 1/\
  tw m d b1 b2 b3 k (cz a 0 0 []).aU (cz a 0 0 []).bI (cz a 0 0 []).cC/\(b4≠b1/\b4≠b2/\b4≠b3/\m.size<=b4/\b4<d.size)/\dF d b4 iu [.i 0,.i 0,.i 0,.s (.mk b1 0 k k),.s (.mk b2 0 k k),.s (.mk b3 0 k k)]:=by
 apply Da
 simp -zeta only[kL]
 intro l b
 have u:D m b:=((D.cU m).bZ _).bZ _
 have F:=pz l
 have L:b.size=m.size+2:=by simp[b,F]
 have H:=t.mN.aT
 let⟨q,i⟩:=dV a.di 0
 have J:=(t.eS q (aZ i)).aU
 have j:dG a 0=q:=by simp[dG,i]
 refine(Ah (B.ext u) (dT 0) i V 0).aP ?_
 rintro _ n ⟨b1,b2,b3,rfl,N⟩
 have h:=N.ext
 have I:=N.lo
 have K:=h.aQ
 refine⟨h.eV eX,_,_,_,_,_,_,O,?_⟩
 intro e o
 obtain⟨s,M⟩:=pu e
 have P:o.size=e.size:=bD _ _ _ _
 have C:dF e n.size iu [.i 0,.i 0,.i 0,.s (.mk b1 0 q.aU.toNat q.aU.toNat),.s (.mk b2 0 q.aU.toNat q.aU.toNat),.s (.mk b3 0 q.aU.toNat q.aU.toNat)]:=dF.push n _ _
 have g:=N.LQ s
 have v:D m o:=(u.J (h.J s)).aV (show m.size<=l.size by omega) _ _
 have f:∀c,c≠l.size->o[c]? =e[c]? :=λc A=>cq _ _ _ _ A
 have z:(cz a 0 0 []).aU=eP q.aU.toNat:=by simp[cz,j]
 have y:(cz a 0 0 []).bI=eP q.aU.toNat:=by simp[cz,j,fJ]
 have x:(cz a 0 0 []).cC=eP q.aU.toNat:=by simp[cz,j]
 refine⟨_,O,v,b1,b2,b3,n.size,q.aU.toNat,O,?_,V,C.congr (f _ V)⟩
 rw[z,y,x]
 exact⟨v,V,g.kr.congr (f _ V),g.ko.congr (f _ V),g.kh.congr (f _ V),N.aT⟩
def SC{m:bg}{Rc:ae}{g:E}{dL:Int}{b1 b2 b3 b4 c:Nat}(w:g=.mk b4 0 1 1)
 (N:tw m b b1 b2 b3 k (cz a 0 0 []).aU (cz a 0 0 []).bI (cz a 0 0 []).cC)(z:b4≠b1/\b4≠b2/\b4≠b3/\m.size<=b4/\b4<b.size)(y:dF b b4 iu [.i 0,.i 0,.i 0,.s (.mk b1 0 k k),.s (.mk b2 0 k k),.s (.mk b3 0 k k)])
 (B:m.size<=c/\c≠b1/\c≠b2/\c≠b3/\c≠b4)(kb:dF b c e (Rc++[.i 3,.i 0,.i 0,.i dL,.s .nil,.s .nil,.s g])):
 wU m (oH (oH (qx (λ_=>0) b1 b2 b3 0) b4 4) c 1) b c e (Rc++[.i 3,.i 0,.i 0,.i dL,.s .nil,.s .nil,.s g]) .nil .nil g [] [] [cz a 0 0 []]:=by
 have A:=N.lo
 have x:D m b:=N.ext
 have C:=kb.lt
 have l:∀d,d≠c->d≠b4->(oH (oH (qx (λ_=>0) b1 b2 b3 0) b4 4) c 1) d=qx (λ_=>0) b1 b2 b3 0 d:=λd i j=>by rw[fL i,fL j]
 let⟨u,a2,a3⟩:=N.qB (q:=λ_=>0) (v:=0)
 have conv:∀{p:Nat}{s:E}{q:ae},iE (qx (λ_=>0) b1 b2 b3 0) b bB 1 p s q->s.bz≠c->s.bz≠b4->iE (oH (oH (qx (λ_=>0) b1 b2 b3 0) b4 4) c 1) b bB 1 p s q:=λt i j=>t.fR (λ_=>O) (λ_=>l _ i j)
 refine⟨x,λd v=>?_,λd v=>?_,kb,gU,⟨bO,bO,bC O⟩,⟨[],⟨bO,bO,bC O⟩,iy.gN _ _,Sep.gN⟩,?_⟩
 .rw[l d V V];unfold qx;rw[fL V,fL V,fL V]
 .rw[l d V V];unfold qx;rw[fL V,fL V,fL V]
 .refine rP.qe (a:=[]) (f:=cz a 0 0 []) (r:=.mk b1 0 k k) (e:=.mk b2 0 k k) (h:=.mk b3 0 k k) (j:=[]) ⟨?_,O,bO,bO,conv u (by simp only[E.lT];omega) (by simp only[E.lT];omega),conv a2 (by simp only[E.lT];omega) (by simp only[E.lT];omega),conv a3 (by simp only[E.lT];omega) (by simp only[E.lT];omega)⟩
  rw[w]
  refine⟨O,bY,bR ⟨b4,1,[],O,?_,?_,O⟩⟩
  .grind [fL,gU]
  .rw[fP];exact y
def afa(m a:bg)(s:E)(l:ab):Prop:=l.length<=1000000000/\ba a s l/\(l≠[]->jy m a bB 1 s (l.map Ce.i))
def Yc(m a:bg)(x:Exe)(v:Value):Prop:=∃cy,v=.tuple #[.agg #[vi x.eC,vi x.iQ,vi x.dg,cy.v],vb x.ok]/\afa m a cy x.cy/\D m a
def iE.aeL{d:ag}{c m:bg}{f:Nat}{s:E}{l:ae}(h:iE d m e f k s l)(j:∀b,b<c.size->d b=0)(i:k≠0)(o:l≠[]):jy c m e f s l:=by
 rcases h.bt with a|⟨b,g,tail,a,h2,h3,h4⟩
 .grind [iE.zW]
 .refine⟨h.aT,bR ⟨b,g,tail,a,Nat.le_of_not_lt λn=>i cB,h3,h4,?_⟩⟩;have:=h.le;rw[a]at this;simpa using this
theorem Ng(a:cZ):∀(c b:Nat)(s:St),bA a (c+b) s=bA a b (bA a c s)
 |0,b,s=>by simp[bA]
 |c+1,b,s=>by rw[Nat.succ_add];simp only[bA];exact Ng a c b _
def Ud(b i:Nat)(j:ad)(m:bg)(R:aj):Prop:=
 ∃(c:bg->Prop)(μ0:bg->Nat),c m/\(∀(a:bg),c a->
 ∃e:Int,aS a b 3=some (vi e)/\
 ((e==(3:Int))=true->
 bK dO 27 [vp b 0] a λf d=>
 gS j a d/\
 c d/\μ0 d<μ0 a)/\
 ((e==(3:Int))=false->
 ∃d:Int,aS a b 3=some (vi d)/\
 ∃f:Int,aS a b 4=some (vi f)/\
 ∃g:Int,aS a b 5=some (vi g)/\
 ∃h:E,aS a b 7=some h.v/\
 let k:bg:=aV a i 0 [.i d,.i f,.i g,.s h]
 R (.tuple #[.agg #[vi d,vi f,vi g,h.v],vb true]) k))
def UD{o M:bg}{j r l:E}{dL:Int}{s:ag}{q h:Nat}{i:ad}(w:iB a)(v:0<=dL/\dL<=40)(H:gY M j r a)(y:D o M)(G:o.size<=h/\h<M.size)(u:∀d∈i,d<M.size)
 (L:wU M s b q cQ (IB j r (cF a) (jC a dL) .nil .nil l) .nil .nil l [] [] [cz a 0 0 []]):
 Ud q h i b (λf c=>Yc o c (qH a dL) f):=by
 have x:=AT w v
 refine abf (λ(k:Nat) c=>k<=100000/\Gu M s b q j r (cF a) (bA a k (jC a dL)) c) (λk=>100000 -k) 0 ⟨iD _,s,.nil,.nil,l,L,dI.cU _ L.bF⟩ ?_
 rintro k z R μ ⟨U,P,g,X,T,c,t3⟩ K
 have I:=xU k x
 have f:=AW k x (AU a dL) V
 have B:A2 P z i:=λd t=>⟨c.cW.lt (u d t),c.mq d (u d t)⟩
 refine⟨_,c.bV.dx 3,λm=>?_,λm=>?_⟩
 .simp at m
  have W:k<100000:=by
   rcases dJ k 100000 with n|n
   .exact n
   .have F:k=100000:=V;have p:=(O9 w v).2.2;grind [Gn]
  refine(Ku c H I f.JS (oh f.aR) (oh f.cy)).aP ?_
  rintro _ p ⟨Q,N,J,C,S,A⟩
  refine⟨A.fS B,K (k+1) p ⟨V,Q,N,J,C,?_,t3.J A⟩ cB⟩
  grind [xV]
 .simp at m
  have N:pF a dL=bA a k (jC a dL):=by
   have F:100000=k+(100000 -k):=V;grind [Gn,Ng,pV]
  refine⟨_,c.bV.dx 3,_,c.bV.dx 4,_,c.bV.dx 5,g,c.bV.dx 7,?_⟩
  intro p
  have J:=f.cy
  have C:qH a dL=⟨(bA a k (jC a dL)).eC,(bA a k (jC a dL)).iQ,(bA a k (jC a dL)).dg,(bA a k (jC a dL)).cy,true⟩:=by
   grind [qH]
  rw[C]
  have n:(bA a k (jC a dL)).cy≠[]->p[g.bz]? =z[g.bz]? :=λn=>cq _ _ _ _ λe=>by
   grind [E.cap,wU.cy,iE.zW,iE.bz,wU.mq]
  refine⟨g,O,⟨by show(bA a k (jC a dL)).cy.length<=_;omega,ku (c.cy.oN V) n,λA=>?_⟩,(y.J c.cW).aV G.1 _ _⟩
  exact(((c.cy.aeL c.mq cD cB).congr (n A)).cW y.aQ)
def aay.toI{m b:bg}{x:Exe}{v:Value}(h:aay m b x v)(e:x.cy.length<=1000000000):Yc m b x v:=by
 let⟨cy,c,a,d⟩:=h;exact⟨cy,c,⟨e,ba.ju a V,λ_=>a⟩,d⟩
def UC(a:cZ)(dL:Int):(qH a dL).cy.length<=1000000000:=by
 grind [qH,O9,Sm.cy]
def Mw{m:bg}{d p:E}(b:gY m d p a)(dL:Int):bK dO 9 [.agg #[d.v,p.v],vi dL] m λv c=>Yc m c (qH a dL) v:=
 (Oi b dL).aP λ_ _ h=>h.toI (UC a dL)
def NX{c:bg}{d p:E}(Z:gY c d p a)(dL:Int):bK dO 8 [.agg #[d.v,p.v],vi dL] c λW S=>Yc c S (qH a dL) W:=by
 apply Ix;simp -zeta only[dR];intro n b;have Q:D c b:=((D.cU c).bZ _).bZ _;have s1:=pz n;have s2:b.size=c.size+2:=by simp[b,s1]
 have kI:dF b c.size uT [.s d,.s p]:=(dF.push c _ _).ext (D.push n _);have G:∀l∈[n.size,c.size],l<b.size:=eX;have T:∀{f:bg},D b f->¬(iB a/\0<=dL/\dL<=40)->Yc c (aV f n.size 0 [.i (0:Int),.i (0:Int),.i (0:Int),.s E.nil]) (qH a dL) (.tuple #[.agg #[vi (0:Int),vi (0:Int),vi (0:Int),E.v E.nil],vb false]):=λg aj=>by
  rw[qH,aW aj];exact⟨.nil,O,⟨bO,⟨O,bO,bO,bO⟩,λh=>absurd O h⟩,(Q.J g).aV V _ _⟩
 refine(pt (Z.ext Q)).bL cY G λl f i g _=>⟨l,O,λJ=>T g (λe=>nb i J e.1),λJ=>⟨λK=>T g (λe=>by simp at K;omega),λK=>⟨λL=>T g (λe=>by simp at L;omega),λL=>?_⟩⟩⟩;have A:=yb i J;have hm:0<=dL/\dL<=40:=by simp at K L;omega
 have ab:=Q.J g;have s3:=g.aQ;have z:=Z.ext ab;have ad:=kI.ext g;have ht:=A.mN.dk;have X:∀{M:bg},D f M->DO dO 25 [d.v] M (vi (cF a)):=λx=>rh (z.ext x).bS ht.aT (λe hd=>OW ht e hd);have ks:∀{M j:bg},D f M->D M j->(aS j c.size 0=aS M c.size 0/\aS j c.size 1=aS M c.size 1):=λv w=>⟨w.da ((ad.ext v).dx 0),w.da ((ad.ext v).dx 1)⟩;have sm:∀{M j:bg},D f M->D M j->gS [n.size,c.size] M j:=λv w=>w.eV λl i=>v.lt (g.lt (G l i));have U:∀{M j:bg}{nb:Nat},D f M->D M j->nb<M.size->gS [nb,n.size,c.size] M j:=λv w ai=>w.eV λl i=>by
  rcases bo.1 i with rfl|i
  .exact ai
  .exact v.lt (g.lt (G l i))
 have R:∀{M q:bg}{e:E}{b1 b2 b3 b4 k u:Nat},D f M->e=.mk b4 0 1 1->tw M q b1 b2 b3 k (cz a 0 0 []).aU (cz a 0 0 []).bI (cz a 0 0 []).cC->(b4≠b1/\b4≠b2/\b4≠b3/\M.size<=b4/\b4<q.size)->dF q b4 iu [.i 0,.i 0,.i 0,.s (.mk b1 0 k k),.s (.mk b2 0 k k),.s (.mk b3 0 k k)]->
  (M.size<=u/\u≠b1/\u≠b2/\u≠b3/\u≠b4)->dF q u cQ ([.s d,.s p,.i (cF a)]++[.i 3,.i 0,.i 0,.i dL,.s .nil,.s .nil,.s e])->Ud u n.size [n.size,c.size] q (λW S=>Yc c S (qH a dL) W):=λx s N F t ah kb=>by
  have:=x.aQ
  exact UD A hm (z.ext x) (ab.J x) V (λl i=>x.lt (g.lt (G l i))) (SC s N F t ah kb)
 refine⟨(X cY).aP ?_,?_⟩
 .rintro _ H ⟨rfl,h⟩;have C:=ks cY h;refine⟨sm cY h,_,O,C.1,C.2,C.1,C.2,?_,?_⟩
  .refine(pw (z.ext h) A dL).aP ?_;rintro _ P ⟨e,rfl,B,b1,b2,b3,b4,k,s,N,F,t⟩;have ac:=ks h B;refine⟨sm h B,_,_,_,_,_,_,_,O,ac.1,ac.2,?_⟩;intro m8;have Y:=px m8;have y:=ks (h.J B) Y;refine⟨y.1,y.2,y.1,y.1,y.2,?_⟩;intro q;have I:D P q:=Y.aV bY _ _;have kb:dF q P.size cQ ([.s d,.s p,.i (cF a)]++[.i 3,.i 0,.i 0,.i dL,.s .nil,.s .nil,.s e]):=dF.aV (m:=m8) (o:=0) (r:=[.s d,.s p,.i (cF a),.i 3,.i 0,.i 0,.i dL,.s .nil,.s .nil,.s e]) (dF.push P _ _);have aa:=N.lo;have s9:=I.aQ;have s7:=B.aQ;exact R h s (N.LQ I) V (t.ext I) V kb
  .intro ac;obtain⟨P,ak⟩:=pu ac;have I:=h.J P;have y:=ks h P;have kz:dF ac H.size cQ [.s .nil,.s .nil,.i 0,.i 0,.i 0,.i 0,.i 0,.s .nil,.s .nil,.s .nil]:=dF.push H _ _;refine⟨y.1,y.2,y.1,y.1,y.2,?_⟩;refine(pw (z.ext I) A dL).aP ?_;rintro _ ae ⟨e,rfl,B,b1,b2,b3,b4,k,s,N,F,t⟩;have Y:=ks I B;refine⟨U I B V,_,_,_,_,_,_,_,O,Y.1,Y.2,?_⟩;intro af;have aa:=N.lo;have ag:=N.bV P (nb:=H.size) bY V 0 [.s d,.s p,.i (cF a),.i 3,.i 0,.i 0,.i dL,.s .nil,.s .nil,.s e];have kb:dF af H.size cQ ([.s d,.s p,.i (cF a)]++[.i 3,.i 0,.i 0,.i dL,.s .nil,.s .nil,.s e]):=dF.aV (m:=ae) (o:=0) (r:=[.s d,.s p,.i (cF a),.i 3,.i 0,.i 0,.i dL,.s .nil,.s .nil,.s e]) (kz.ext B);have al:af.size=ae.size:=bD _ _ _ _;exact R h s ag V (t.congr (cq _ _ _ _ V)) V kb
 .intro Y;obtain⟨y,ak⟩:=pu Y;have B:=ks cY y;have kz:dF Y f.size cQ [.s .nil,.s .nil,.i 0,.i 0,.i 0,.i 0,.i 0,.s .nil,.s .nil,.s .nil]:=dF.push f _ _;refine⟨B.1,B.2,B.1,B.1,B.2,?_⟩;refine(X y).aP ?_;rintro _ ag ⟨rfl,h⟩;have C:=y.J h;have H:=ks y h;have al:=h.aQ;refine⟨U y h V,_,O,H.1,H.2,H.1,H.2,?_⟩;refine(pw (z.ext C) A dL).aP ?_;rintro _ ac ⟨e,rfl,I,b1,b2,b3,b4,k,s,N,F,t⟩;have P:=ks C I;refine⟨U C I V,_,_,_,_,_,_,_,O,P.1,P.2,?_⟩;intro ae;have aa:=N.lo;have af:=N.bV C (nb:=f.size) bY V 0 [.s d,.s p,.i (cF a),.i 3,.i 0,.i 0,.i dL,.s .nil,.s .nil,.s e];have kb:dF ae f.size cQ ([.s d,.s p,.i (cF a)]++[.i 3,.i 0,.i 0,.i dL,.s .nil,.s .nil,.s e]):=dF.aV (m:=ac) (o:=0) (r:=[.s d,.s p,.i (cF a),.i 3,.i 0,.i 0,.i dL,.s .nil,.s .nil,.s e]) (kz.ext (h.J I));have am:ae.size=ac.size:=bD _ _ _ _;exact R cY s af V (t.congr (cq _ _ _ _ V)) V kb
end
end Go.Proofs.YtbbbdejieenniaaGreat
section
namespace Go.Vc
def zX{m:bg}{b o:Nat}{v:Value}(h:(aS m b o).isSome=true):aS (vg m b o v) b o=some v:=by
 grind [aS,vg,Array.size,Nat.lt_or_ge,Array.getElem?_eq_none]
def PR{m:bg}{c o a b:Nat}{v:Value}(h:a≠c\/b≠o):aS (vg m c o v) a b=aS m a b:=by
 grind [aS,vg,bE,QD]
def Wh{m:bg}{c o:Nat}{v:Value}{a b:Nat}:CO (vg m c o v) a b=CO m a b:=by
 grind [CO,vg,QD]
@[grind cases] structure Rj (m:bg) (k:Int) (pos:ao) (m':bg):Prop where
 aQ:m.size<=m'.size
 bz:∀b,b<m.size->(∀p∈pos,p.1≠b)->m'[b]? =m[b]?
 gZ:∀b o,b<m.size->(b,o)∉pos->aS m' b o=aS m b o
 CO:∀b o,b<m.size->Vc.CO m' b o=Vc.CO m b o
 rB:∀p∈pos,∃n,aS m' p.1 p.2=some (vi n)
 aeO:pos.Nodup->∀(j:Nat)(p:ai),pos[j]? =some p->aS m' p.1 p.2=some (vi (k+j))
def Rj.gN{m c:bg}(h:D m c)(k:Int):Rj m k [] c:=
 ⟨h.aQ,λb a _=>h.bG b a,λb o a _=>bE (h.bG b a) o,λb o a=>by unfold Vc.CO;rw[h.bG b a],bO,bO⟩
def Rj.mM{m:bg}{b o:Nat}(h:(aS m b o).isSome=true)(k:Int):Rj m k [(b,o)] (aV m b o [.i k]):=by
 refine⟨Np (bD _ _ _ _).symm,λc d f=>cq _ _ _ _ λe=>f (b,o) bO e.symm,λc q d f=>?_,λc q d=>Wh,λp a=>?_,λ_ j p a=>?_⟩
 .refine PR ?_;grind
 .simp at a;subst a;exact⟨k,zX h⟩
 .cases j with
  |zero=>
   simp at a;subst a;have e:k+((0:Nat):Int)=k:=V;rw[e];exact zX h
  |succ j=>simp at a
def Rj.J{m f i:bg}{k:Int}{e p2:ao}(h:Rj m k e f)(g:Rj f (k+e.length) p2 i):Rj m k (e++p2) i:=by
 have j:=h.aQ;refine⟨fD h.aQ g.aQ,λb c d=>?_,λb o c d=>?_,λb o c=>?_,λp a=>?_,λhd l p a=>?_⟩
 .rw[g.bz b V λp a=>d p (mW _ a),h.bz b c λp a=>d p (dN _ a)]
 .grind [Rj.gZ,List.mem_append_right,List.mem_append_left]
 .grind [Rj.CO]
 .grind [Rj.rB,Rj.gZ,rV]
 .grind [List.nodup_append,List.length,List.getElem?_append_left,List.mem_of_getElem?,Rj.rB,Rj.gZ,rV,Rj.aeO,List.getElem?_append_right]
inductive Row where
 |nil
 |int (r:Row)
 |sl (e r:Row)
def Row.aQ:Row->Nat
 | .nil=>0
 | .int r=>r.aQ+1
 | .sl _ r=>r.aQ+1
inductive Y6 where
 |kZ (r:Row)
 |Ms (e:Row) (n:Nat)
inductive yp(m:bg):Y6->Nat->Nat->ao->Prop where
 |nil (b o:Nat):yp m (.kZ .nil) b o []
 |int {b o:Nat} {r:Row} {p:ao} {n:Int} (h:aS m b o=some (vi n)) (hf:Vc.CO m b o=false) (hr:yp m (.kZ r) b (o+1) p):yp m (.kZ (.int r)) b o ((b,o)::p)
 |sl {b o:Nat} {e r:Row} {p1 p2:ao} {s:E} (h:aS m b o=some s.v) (hl:s.len<=9223372036854775807) (he:yp m (.Ms e s.len) s.bz s.off p1) (hr:yp m (.kZ r) b (o+1) p2):yp m (.kZ (.sl e r)) b o (p1++p2)
 |zero (e:Row) (b o:Nat):yp m (.Ms e 0) b o []
 |succ {b o n:Nat} {e:Row} {p1 p2:ao} (he:yp m (.kZ e) b o p1) (hr:yp m (.Ms e n) b (o+e.aQ) p2):yp m (.Ms e (n+1)) b o (p1++p2)
def yp.oN{m:bg}{K:Y6}{f o:Nat}{e:ao}(h:yp m K f o e):∀p∈e,∃n,aS m p.1 p.2=some (vi n):=by
 induction h with
 |nil=>simp
 |int h c d b=>
  intro p a;rcases bo.1 a with rfl|a
  .exact⟨_,h⟩
  .exact b p a
 |sl h i g d b c=>
  intro p a;rcases bU.1 a with a|a
  .exact b p a
  .exact c p a
 |zero=>simp
 |succ g d b c=>
  intro p a;rcases bU.1 a with a|a
  .exact b p a
  .exact c p a
def yp.lt{m:bg}{K:Y6}{b o:Nat}{a:ao}(h:yp m K b o a):∀p∈a,p.1<m.size:=λp d=>let⟨_,c⟩:=h.oN p d;rV c
theorem aam(n:Int)(s:E):vi n≠s.v:=by cases s<;>simp[vi,E.v]
def yp.afn{m f:bg}{r:Int}{q:ao}(i:Rj m r q f)(u:∀p∈q,∃n,aS m p.1 p.2=some (vi n)){K:Y6}{b o:Nat}{g:ao}(h:yp m K b o g):yp f K b o g:=by
 induction h with
 |nil=>exact .nil _ _
 | @int b o t p n h a e c=>
  have d:=rV h;by_cases l:(b,o)∈q
  .grind [Rj.rB,yp.int,Rj.CO]
  .grind [yp.int,Rj.gZ,Rj.CO]
 | @sl b o p t v p2 n h k j e a c=>
  have d:=rV h;refine .sl (s:=n) ?_ k a c;rw[i.gZ b o d λl=>?_]
  .exact h
  .grind [aam,Option.some.inj]
 |zero=>exact .zero _ _ _
 |succ j e a c=>exact .succ a c
def yp.ext{m a:bg}(d:D m a){K:Y6}{b o:Nat}{c:ao}(h:yp m K b o c):yp a K b o c:=h.afn (Rj.gN d 0) bO
end Go.Vc
namespace Go.Proofs.YtbbbdejieenniaaGreat
open Go.Vc
end Go.Proofs.YtbbbdejieenniaaGreat
end
namespace Go.Proofs.YtbbbdejieenniaaGreat
open Go.Vc
section
section
variable{m:bg}{s t:E}{l r:ab}
def Kz(c:ba m s l)(e:ba m t r):fW dO 32 [s.v,t.v] m (l=r):=by
 apply Ez;have o:=c.aT;have v:=e.aT;refine⟨λi=>fy (λh=>?_) cY,λi=>?_⟩
 .grind
 .have u:l.length=r.length:=cB;refine gP (n:=l.length) (o▸c.kK) (λk a=>D m a/\l.take k=r.take k) ⟨cY,bO⟩ ?_;rintro k w I μ q ⟨a,j⟩ p
  refine⟨λd=>?_,λd=>?_⟩
  .simp only[bh]at d;let⟨y,f⟩:=dV l k;let⟨z,g⟩:=dV r k;refine⟨V,V,y,by simpa using a.aS (c.bt f),V,V,z,by simpa using a.aS (e.bt g),λb=>fy (λh=>?_) a,λb=>p V _ ⟨a,?_⟩⟩
   .grind
   .simp at b;rw[bX f,bX g,j,b]
  grind [decide_eq_false_iff_not,eQ]
def EA(o:ba m s l)(p:ba m t r)(c b f d e g:Int):fW dO 10 [.agg #[vi c,vi b,vi f,s.v],.agg #[vi d,vi e,vi g,t.v]] m (c=d/\b=e/\f=g/\l=r):=by
 apply An;simp -zeta only[dR];intro q u;let⟨a,n⟩:=fU (a:=q) (c:=u) O O;refine⟨λi=>⟨λj=>⟨λk=>?_,λk=>fy (λh=>by simp[h]at k) a⟩,λj=>fy (λh=>by simp[h]at j) a⟩,λi=>fy (λh=>by simp[h]at i) a⟩;exact(Kz (o.ext a) (p.ext a)).bL cY n λb w v h _=>⟨b,O,kY cB (a.J h)⟩
end
variable{m:bg}{b P:Nat}{c:E}{a:ad}
def OR(d:Rd b c P m)(i:P+2<=10^16):bK dO 46 [vp b 0] m λv f=>(∃k,v=vi k)/\Fz [b] m f:=by
 apply HA (b,0);refine(dX d V 12).aP λ_ j⟨k,e,_,_,g,a⟩=>⟨k,e,?_⟩;intro l;refine(Ia (Rs.mk a g) V [40,40,k,0,3,20,40,41,-1] O O bO).aP λ_ n⟨t,e,_,h,_⟩=>⟨t,e,⟨t,O⟩,h.f⟩
def JT.ext{a:bg}{eA:E}(h:JT m eA)(x:D m a):JT a eA:=⟨h.1,λk d=>let⟨v,b,c,g⟩:=h.2 k d;⟨v,b,c,x.aS g⟩⟩
def DR(a:ad)(m:bg)(v:Value)(b:bg):Prop:=∃d p c k,v=.tuple #[.agg #[d.v,p.v],vi k]/\gY (dB a b) d p c/\D m b
def Di{eA:E}(z:JT m eA)(J:∀l∈a,l<m.size):bK dO 23 [eA.v] m (DR a m):=by
 apply yz;simp -zeta only[dR];intro b;obtain⟨i,P⟩:=pu b;refine(MP (z.ext i)).aP λ_ M⟨c,e,v,j⟩=>⟨j.eV cB,(b.size,0),e,?_⟩;have L:=v.lt;have Q:=j.aQ;refine(Ok (a:=m.size::b.size::a) (λl K=>?_) bO v (by simp[Cg])).aP λ_ h⟨n,u,x,e,w,_,H,g⟩=>⟨g.eV cB,n,u,e,?_⟩
 .grind
 have R:=g.aQ;intro N s;have k:D h s:=by grind [D.push,D.aV]
 have T:s.size=h.size+1:=by grind [bD]
 refine(OR (H.ext k) (by simp[Cg])).aP λ_ t⟨⟨q,e⟩,d⟩=>⟨d.eV cB,q,e,bE (d.bG _ V cB) _,bE (d.bG _ V cB) _,?_⟩;intro F;have r:Le (dB (m.size::b.size::a) h) (dB a F):=λf G I C=>by
  let⟨A,B⟩:=iO.1 C;have:=d.fj (S:=m.size::b.size::a) bO f G I (iO.2 ⟨A,k.aS B⟩);grind [iO,bE,cq]
 have o:Fz [b.size] b t:=(((j.fz _).J g).J (k.fz _)).J d;have y:D m t:=⟨by have:=o.aQ;omega,λf p=>(o.bG f (i.lt p) cB).trans (i.bG f p)⟩;exact⟨n,u,⟨x.1,x.2⟩,q,O,⟨w.1.le r,mh.le r w.2⟩,y.aV bY _ _⟩
def I5{eA:E}(h:JT m eA):bK dO 7 [eA.v] m (DR [] m):=by
 apply BJ;simp -zeta only[dR];intro i;obtain⟨c,r⟩:=pu i;refine(Di (a:=[m.size]) (h.ext c) cB).aP λ_ j⟨d,p,g,k,f,a,e⟩=>⟨e.eV cB,d,p,k,f,?_⟩;intro l;have b:Le (dB [m.size] j) (dB [] l):=λn q v o=>by
  grind [iO,bE,cq]
 exact⟨d,p,g,k,O,⟨a.bS.le b,mh.le b a.di⟩,(c.J e).aV bY _ _⟩
end
section
variable{n b:Nat}{f:Nat->Int}{d:an}{e:cZ}{s:St}
def CF(n:Nat)(f:Nat->Int):ab:=(List.range n).map f
theorem zg(n:Nat)(f:Nat->Int):(CF n f).length=n:=by simp[CF]
theorem Pa(h:b<n):(CF n f)[b]? =some (f b):=by
 grind [CF,List.getElem?_range]
theorem mF{g:Nat->Int}(h:∀b,b<n->f b=g b):CF n f=CF n g:=by
 grind [CF,List.map_congr_left]
theorem XV(v:Int):(CF n f).set b v=CF n (λa=>if a=b then v else f a):=by
 apply ft;grind [Pa,List.getElem?_set_self,zg,List.getElem?_set_ne,List.getElem?_eq_none,List.length_set]
theorem YP(n:Nat):CF n (λ_=>0)=eP n:=by
 unfold CF eP;rw[List.map_const'];simp
@[grind cases] structure VQ (h:ah):Prop where
 mG:pZ h
 jI:∀c∈h,sC h c
 jA:∀(a:Nat)(c:dq),h[a]? =some c->0<c.bT->jA h a<=c.bT
 CM:acJ h
@[grind cases] structure Pq (h:ah) (f:bW):Prop where
 eS:∀(k:Nat)(w o:Int),f.aU[k]? =some w->f.bI[k]? =some o->(ln w\/1000<=w)/\(0<=o/\o<=999999)/\(0<o->iH h w)
@[grind cases] structure Ue (im:cZ) (h:ah) (prev:Option bW) (f:bW):Prop where
 fQ:0<=f.fQ/\f.fQ<im.di.length
 pc:0<=f.pc/\f.pc<(dG im f.fQ).eA.length
 lr:(f.aU.length:Int)=(dG im f.fQ).aU
 lo:(f.bI.length:Int)=(dG im f.fQ).aU
 lh:(f.cC.length:Int)=(dG im f.fQ).aU
 aU:Pq h f
 first:prev=none->f.bH=0
 xD:∀p,prev=some p->0<=f.bH/\f.bH<p.bI.length/\bt p.bI f.bH=0
def EF(d:an):Nat->Option bW
 |0=>none
 |k+1=>d[k]?
@[grind cases] structure Y3 (h:ah) (fs:an):Prop where
 dQ:∀f∈fs,∀w∈f.cC,w=0\/(1000<=w/\ix w<h.length)
 eO:∀(i:Nat)(c:dq),h[i]? =some c->c.bT<0->eU fs i=1
 qV:∀(i:Nat)(c:dq),h[i]? =some c->0<=c.bT->eU fs i=0
@[grind cases] structure Ns (im:cZ) (s:St):Prop where
 iG:iB im
 eC:0<=s.eC/\s.eC<=3
 cr:s.eC=0<->s.bq=[]
 iQ:ln s.iQ
 Co:s.iQ≠0->s.eC=0
 dL:0<=s.dL/\s.dL<=40
 dg:0<=s.dg/\s.dg<=s.dL
 kV:(s.bq.length:Int)<=s.dg+1
 cy:∀n∈s.cy,ln n
 aR:VQ s.aR
 bq:∀(k:Nat)(f:bW),s.bq[k]? =some f->Ue im s.aR (EF s.bq k) f
 cC:Y3 s.aR s.bq
 ZF:∀(a:Nat)(c:dq),s.aR[a]? =some c->0<c.bT->c.bT=jA s.aR a+j8 s.bq a
def U0:∀{d:an}{b:Nat},0<j8 d b->∃f∈d,0<fB f.aU f.bI b
 |[],b,h=>by simp[j8]at h
 |f::d,b,h=>by
  simp only[j8]at h;by_cases c:0<fB f.aU f.bI b
  .exact⟨f,bO,c⟩
  .let⟨g,e,i⟩:=U0 (d:=d) (b:=b) V;grind
def Ss:∀{aU bI:ab}{b:Nat},0<fB aU bI b->∃(k:Nat)(o:Int),aU[k]? =some (1000+(b:Int))/\bI[k]? =some o/\0<o
 |[],bI,b,h=>by simp[fB]at h
 |_::_,[],b,h=>by simp[fB]at h
 |r::i,o::g,b,h=>by
  simp only[fB]at h;by_cases a:r=1000+(b:Int)/\0<o
  .exact⟨0,o,by simp[a.1],O,a.2⟩
  .have:0<fB i g b:=by
    split at h
    .grind
    .omega
   let⟨k,f,c,d,e⟩:=Ss this;exact⟨k+1,f,sp c,sp d,e⟩
def aa0{f:bW}(a:f∈d)(c:∀g∈d,0<=fB g.aU g.bI b):fB f.aU f.bI b<=j8 d b:=by
 induction d with
 |nil=>simp at a
 |cons g d e=>
  have k:0<=j8 d b:=by
   clear e a;induction d with
   |nil=>simp[j8]
   |cons q d h=>
    have i:=c q bO;have j:=h (λx l=>c x cB);simp only[j8];omega
  simp only[j8];rcases bo.1 a with rfl|a
  .omega
  .grind
def Z5(a:∀g∈d,0<=fB g.aU g.bI b):0<=j8 d b:=by
 induction d with
 |nil=>simp[j8]
 |cons q d e=>
  have f:=a q bO;have g:=e λx c=>a x (by simp[c]);simp only[j8];omega
def UP{f:bW}(a:f∈d):iW f.cC b<=eU d b:=by
 induction d with
 |nil=>simp at a
 |cons g d c=>
  simp only[eU];rcases bo.1 a with rfl|a
  .have:=zY d b;omega
  .have:=c a;have:=lD g.cC b;omega
def PX(h:∀f∈d,∀w∈f.cC,w≠1000+(b:Int)):eU d b=0:=by
 induction d with
 |nil=>rfl
 |cons g d e=>
  simp only[eU];rw[e λf a=>h f (by simp[a]),rY λc=>h g bO _ c O];rfl
def Mf{f:bW}(h:f∈d):∃k:Nat,d[k]? =some f:=cH.1 h
def W0(h:Ns e s):eu e s:=by
 have r:∀f∈s.bq,∃p,Ue e s.aR p f:=λf c=>let⟨k,d⟩:=Mf c;⟨_,h.bq k f d⟩;have z:∀b,∀g∈s.bq,0<=fB g.aU g.bI b:=λb g t=>by
  let⟨p,a⟩:=r g t;refine ve (λo n=>?_) b;let⟨k,d⟩:=cH.1 n;have u:=br d;have j:=a.lr;have q:=a.lo;let⟨w,i⟩:=dV g.aU k;grind [Ue.aU,Pq.eS]
 refine⟨h.iG,h.eC,h.cr,h.iQ,h.Co,h.dL,h.dg,h.kV,h.cy,⟨h.aR.jI,h.aR.CM,h.ZF,λb=>Z5 (z b),λb y=>?_⟩,h.aR.mG,λf c=>?_,λf c=>(h.bq 0 f c).first O,λk f g c t=>(h.bq (k+1) g t).xD f c,λb⟨l,m,v⟩=>h.cC.eO b l m v,λb d=>?_⟩
 .let⟨f,c,a⟩:=U0 y;let⟨k,o,j,q,x⟩:=Ss a;let⟨p,a⟩:=r f c;have:=((a.aU.eS k _ o j q).2.2 x).2;rwa[sL]at this
 .let⟨p,a⟩:=r f c;refine⟨a.fQ,a.pc,a.lr,a.lo,a.lh,λw i=>?_,λk o w n i=>?_,λw i=>?_⟩
  .let⟨k,d⟩:=cH.1 i;have u:=br d;have j:=a.lr;have q:=a.lo;let⟨o,n⟩:=dV f.bI k;grind [Ue.aU,Pq.eS]
  .have:=a.aU.eS k w o i n;exact⟨this.2.1.1,λx=>(this.2.2 x).1⟩
  grind [Ns.cC,Y3.dQ]
 .rcases dJ b s.aR.length with u|A
  .let⟨l,m⟩:=gD u;refine h.cC.qV b l m (Int.not_lt.1 λv=>d ⟨l,m,v⟩)
  .refine PX λf c w i x=>?_;rcases h.cC.dQ f c w i with j|j
   .omega
   .have:=j.2;rw[x,sL]at this;omega
theorem Zp(h:eu e s):Ns e s:=by
 have C:∀b,∀p∈s.bq,0<=fB p.aU p.bI b:=λb p A=>ve (h.bq p A).Qo b;have B:∀f∈s.bq,∀(k:Nat)(w o:Int),f.aU[k]? =some w->f.bI[k]? =some o->0<o->iH s.aR w/\o<=999999:=λf c k w o i n D=>by
  have m:=((h.bq f c).bI k o w n i).2 D;have x:=lE m;have y:=KG (h.bq f c).Qo i n (c:=ix w) x.symm;have z:=aa0 c (C (ix w));have r:=h.aR.lv (ix w) V;let⟨j,g,d⟩:=r;have H:=h.aR.ex _ j g d;have I:=yW s.aR (ix w);have J:=(h.aR.gZ j (aZ g)).hi;exact⟨⟨m,j,g,d⟩,V⟩
 refine⟨h.iG,h.eC,h.cr,h.iQ,h.Co,h.dL,h.dg,h.kV,h.cy,⟨h.mG,h.aR.gZ,λb j g d=>?_,h.aR.CM⟩,λk f c=>?_,⟨λf c w i=>?_,λq j g u=>h.eO q ⟨j,g,u⟩,λq j g u=>h.qV q λ⟨G,K,L⟩=>?_⟩,h.aR.ex⟩
 .grind [eu.aR,jd.ex]
 .have t:=aZ c;have F:=h.bq f t;refine⟨F.fQ,F.pc,F.lr,F.lo,F.lh,⟨λv w o i n=>⟨F.XQ w (aZ i),⟨(F.bI v o w n i).1,?_⟩,λd=>(B f t v w o i n d).1⟩⟩,λd=>?_,λE d=>?_⟩
  .grind [Int.lt_or_le]
  .cases k with
   |zero=>exact h.first f c
   |succ k=>
    simp only[EF]at d;have:=br c;rw[aaw]at d;omega
  .cases k with
   |zero=>simp[EF]at d
   |succ k=>exact h.uK k E f d c
 .rcases(h.bq f c).cC w i with m|m
  .exact bC m
  .refine bR ⟨m,Nat.lt_of_not_le λt=>?_⟩;have y:=h.qV (ix w) λ⟨j,g,_⟩=>by have:=br g;omega
   have z:=UP c (b:=ix w);have r:=wJ (l:=f.cC) (f:=ix w) (by rw[lE m];exact i);omega
 .grind
end
section
variable{M:bg}{b n a:Nat}{f:Nat->Int}
def Rh(w:Int):Prop:=-9223372036854775808<=w/\w<=9223372036854775807
def ady(h:ah):Prop:=∀c∈h,∀w∈c.bJ,Rh w
def JP(B:dF M b bB ((CF n f).map Ce.i))(h:a<n):aS M b a=some (vi (f a)):=by
 rw[B.dx a,eE,Pa h];rfl
def W7(B:dF M b bB ((CF n f).map Ce.i))(a:Nat)(v:Int):dF (aV M b a [.i v]) b bB ((CF n (λx=>if x=a then v else f x)).map Ce.i):=by
 have:=B.aV (m:=M) (o:=a) (r:=[.i v]);grind [Au,XV]
def aah(B:dF M b bB ((CF n f).map Ce.i))(h:a<n):jb M b a 1:=by grind [dF.jb,zg]
def aa6(B:dF M b bB ((CF n f).map Ce.i))(h:n<=9223372036854775807):ba M (.mk b 0 n n) (CF n f):=
 ⟨by simp[zg],bY,h,λk x a=>⟨[.i x],O,λi e c=>by
  have d:k<n:=by have:=br a;rwa[zg]at this
  rw[Pa d]at a;simp at a;cases i with
  |zero=>simp at c;subst c;have:=JP B d;rw[a]at this;simpa[Ce.v]using this
  |succ i=>simp at c⟩⟩
def aag(M:bg):dF (M.push (.cells (db (na [.i (0:Int)] n)) bB)) M.size bB ((CF n (λ_=>0)).map Ce.i):=by
 grind [pI,YP,dF.push]
def YH{h:ah}{i:Nat}{c:dq}(b:h[i]? =some c)(a:Nat):jA (h.take (i+1)) a=jA (h.take i) a+iW c.bJ a:=by
 rw[bX b,yV];simp[jA]
def KD{l:ab}{k:Nat}{w:Int}(b:l[k]? =some w)(a:Nat):iW (l.take (k+1)) a=iW (l.take k) a+(if w=1000+(a:Int)then 1 else 0):=by
 rw[bX b,pB];simp[iW]
def O6:∀(h:ah)(a:Nat),(∀c∈h,c.bJ.length<=3)->jA h a<=3*h.length
 |[],a,_=>by simp[jA]
 |c::h,a,b=>by
  have e:=O6 h a λd hd=>b d (by simp[hd]);have f:=pC c.bJ a;have g:=b c bO;grind [jA,List.length_cons]
end
section
variable{a b:Nat}
def vD(mk:Nat->Bool):Nat->Nat
 |0=>0
 |n+1=>vD mk n+(if mk n=true then 1 else 0)
def OV(mk:Nat->Bool):∀n,vD mk n<=n
 |0=>bY
 |n+1=>by have:=OV mk n;simp only[vD];split<;>omega
def Ur{mk:Nat->Bool}:∀{a:Nat},(vD mk a=a<->∀i,i<a->mk i=true)
 |0=>by simp[vD]
 |a+1=>by
  have b:=OV mk a;have c:=Ur (mk:=mk) (a:=a);grind [vD,Nat.lt_or_ge]
theorem PD{mk a:Nat->Bool}:∀{n:Nat},(∀i,i<n->mk i=a i)->vD mk n=vD a n
 |0,_=>O
 |n+1,h=>by simp only[vD];rw[PD λi b=>h i V,h n V]
def se(mk:Nat->Bool)(a:Nat):Nat->Bool:=λx=>if x=a then true else mk x
theorem Mu(mk:Nat->Bool)(a:Nat):se mk a a=true:=bn O
theorem wL{mk:Nat->Bool}(h:b≠a):se mk a b=mk b:=aW h
theorem Gk{mk:Nat->Bool}(h:mk b=true):se mk a b=true:=by grind [se]
def J7{mk:Nat->Bool}{a:Nat}(h:mk a=false):∀{n:Nat},a<n->vD (se mk a) n=vD mk n+1
 |0,c=>absurd c (mI _)
 |n+1,c=>by
  simp only[vD];rcases dJ a n with b|b
  .rw[J7 h b,wL V];omega
  .grind [Mu,PD,wL]
def Y7(h:ah)(mk:Nat->Bool):Prop:=
 ∃t:ag,(∀j,mk j=true->t j<=vD mk h.length)/\∀(i:Nat)(c:dq),h[i]? =some c->mk i=true->∀w∈c.bJ,1000<=w->mk (ix w)=true/\t (ix w)<t i
def aeY(mk:Nat->Bool)(a:ab):Prop:=∀w∈a,1000<=w->mk (ix w)=true
def Y7.dY{h:ah}{mk:Nat->Bool}(k:Y7 h mk){c:dq}(b:h[a]? =some c)(e:mk a=false)(f:aeY mk c.bJ):Y7 h (se mk a):=by
 let⟨t,o,p⟩:=k;have j:=br b;have n:=J7 e j;refine⟨λx=>if x=a then vD mk h.length+1 else t x,λv r=>?_,λi d hd q w m l=>?_⟩
 .grind [wL]
 .by_cases g:i=a
  .subst g;rw[b]at hd;simp at hd;subst hd;have u:=f w m l;have s:ix w≠i:=cB;grind [Gk]
  grind [wL,ix,Gk]
end
@[grind cases] structure kd (m:bg) (cy hp fr:E) (s:St):Prop where
 cy:ba m cy s.cy
 aR:gA m hp s.aR
 bq:oZ m fr s.bq
def kd.ext{m d:bg}{cy c b:E}{s:St}(h:kd m cy c b s)(a:D m d):kd d cy c b s:=⟨h.cy.ext a,gA.ext a h.aR,oZ.ext a h.bq⟩
def aaz(f:bW):Prop:=(∀w∈f.aU,Rh w)/\(∀w∈f.bI,Rh w)/\(∀w∈f.cC,Rh w)
@[grind cases] structure Rg (s:St):Prop where
 dg:Rh s.dg
 aR:ady s.aR
 bq:∀f∈s.bq,aaz f
 lh:s.aR.length<=10000000
 lf:s.bq.length<=10000000
 lr:∀f∈s.bq,f.aU.length<=10000000/\f.bI.length<=10000000/\f.cC.length<=10000000
def stV(s:St)(cy b a:E):Value:=.agg #[vi s.eC,vi s.iQ,vi s.dg,vi s.dL,cy.v,b.v,a.v]
section
variable{a:an}{i:Nat}{f:bW}
theorem Wt(c:a[i]? =some f)(b:Nat):eU (a.take (i+1)) b=eU (a.take i) b+iW f.cC b:=by
 rw[bX c,iT,lU]
theorem YF(c:a[i]? =some f)(b:Nat):j8 (a.take (i+1)) b=j8 (a.take i) b+fB f.aU f.bI b:=by
 rw[bX c,jM,nR]
def IQ:∀{aU bI:ab}{a:Nat}{w o:Int},aU[a]? =some w->bI[a]? =some o->∀b,fB (aU.take (a+1)) (bI.take (a+1)) b=fB (aU.take a) (bI.take a) b+(if w=1000+(b:Int)then o else 0)
 |[],_,_,_,_,h,_,_=>by simp at h
 |_::_,[],_,_,_,_,h,_=>by simp at h
 |r::f,p::e,0,w,o,c,d,b=>by simp at c d;subst c;subst d;simp[fB]
 |r::f,p::e,a+1,w,o,c,d,b=>by
  have:=IQ (aU:=f) (bI:=e) (a:=a) (sp c) (sp d) b;grind [fB]
def UQ:∀{a:an}{n:Nat},(∀f∈a,f.cC.length<=n)->∀b,eU a b<=a.length*n
 |[],n,_,b=>by simp[eU]
 |f::a,n,h,b=>by
  have c:=UQ (a:=a) λg d=>h g (by simp[d]);have e:=c b;have i:=pC f.cC b;have j:=h f bO;simp only[eU,dz];have:((a.length+1:Nat):Int)*n=a.length*n+n:=by push_cast;rw[aeR];omega
  omega
def Qp:∀{aU bI:ab}{n:Int},0<=n->(∀o∈bI,0<=o/\o<=n)->∀a,0<=fB aU bI a/\fB aU bI a<=bI.length*n
 |[],bI,n,b,h,a=>by simp[fB];exact Int.mul_nonneg V b
 |_::_,[],n,b,h,a=>by simp[fB]
 |r::e,o::c,n,b,h,a=>by
  have f:=Qp (aU:=e) (bI:=c) b (λx d=>h x (by simp[d])) a;have d:=h o bO;have:((c.length+1:Nat):Int)*n=c.length*n+n:=by push_cast;rw[aeR];omega
  grind [fB,List.length_cons]
def XN:∀{a:an}{n:Nat}{k:Int},0<=k->(∀f∈a,f.bI.length<=n/\∀o∈f.bI,0<=o/\o<=k)->∀b,0<=j8 a b/\j8 a b<=a.length*(n*k)
 |[],n,k,_,_,b=>by simp[j8]
 |f::a,n,k,c,h,b=>by
  have e:=XN (a:=a) c (λg d=>h g (by simp[d])) b;let⟨j,d⟩:=h f bO;have g:=Qp (aU:=f.aU) c d b;have i:(f.bI.length:Int)*k<=n*k:=Int.mul_le_mul_of_nonneg_right V c;have:((a.length+1:Nat):Int)*(n*k)=a.length*(n*k)+n*k:=by push_cast;rw[aeR];omega
  grind [j8,List.length_cons]
variable{m:bg}{d p cy c b:E}{e:cZ}{s:St}
end
section
variable{m:bg}{d p cy b a:E}{c:cZ}{s:St}
@[grind cases] structure acP (h:ah) (fs:an):Prop where
 aT:∀f∈fs,f.bI.length=f.aU.length
 aU:∀f∈fs,Pq h f
def acP.bI{h:ah}{a:an}(H:acP h a){f:bW}(b:f∈a):∀o∈f.bI,0<=o/\o<=999999:=λo d=>by
 let⟨k,c⟩:=cH.1 d;let⟨w,e⟩:=dV f.aU k (VI (br c) (H.aT f b));grind [acP.aU,Pq.eS]
end
section
variable{m:bg}{b:ah}{w:Int}{d:dq}{a:Nat}{W:ad}{e:Nat->Int}
def uO(n:Int)(m:bg):fW dO 122 [vi n] m (ln n):=by
 apply LZ;refine⟨λb=>kY ?_ cY,λb=>fy (λa=>?_) cY⟩
 .simp at b;simp[ln,b]
 .simp at b;have:=a.1;omega
def Kx{f:E}(d:gA m f b)(j:Rh w):fW dO 219 [f.v,vi w] m (vO b w):=by
 apply Ev;refine(kN d j.2).aP ?_;rintro _ k ⟨a,h,rfl,e,_,g⟩;refine⟨a,h,O,λc=>oD (bR (e.1 c)) g,λc=>?_⟩;refine(uO w k).cg λb2 n i l=>⟨b2,O,kY ?_ (g.J l)⟩;rw[i];exact⟨bC,λd=>d.resolve_right (fb e c)⟩
@[grind cases] structure Nq (h:ah) (c:dq):Prop where
 lo: -1<=c.bT
 js:0<=c.js/\c.js<=99
 fl:c.bJ.length<=3
 LP:c.bT<1->c.js=0
 kX:c.bT=0->c.bJ=[]
 dQ:∀w∈c.bJ,vO h w/\(c.bT<0->w=0)
def Nq.ok(a:Nq b d)(e:d.bT<=999999):sC b d:=
 ⟨a.fl,a.lo,e,λhd=>⟨a.LP hd,λw c=>by
  by_cases f:d.bT<0
  .exact(a.dQ w c).2 f
  .rw[a.kX V]at c;simp at c,a.kX⟩,λ_=>⟨λw c=>(a.dQ w c).1,a.js⟩⟩
def sC.v(a:sC b d):Nq b d:=by
 refine⟨a.lo,?_,a.fl,λhd=>(a.LP hd).1,λe=>(a.LP V).2.2 e,λw c=>⟨?_,λf=>(a.LP V).2.1 w c⟩⟩
 .grind [sC.wZ,sC.LP]
 .by_cases g:0<d.bT
  .grind [sC.wZ]
  .have:=(a.LP V).2.1 w c;exact bC (by subst this;exact⟨cD,cD⟩)
def Nq.cases(c:Nq b d)(e:w∈d.bJ):iH b w\/w<1000:=by
 rcases(c.dQ w e).1 with a|a
 .have:=a.2;exact bR V
 .exact bC a
def Kk{z j:E}(G:gA m z b)(x:ba m j d.bJ)(I:∀w∈d.bJ,Rh w):fW dO 187 [z.v,.agg #[vi d.bT,vi d.js,j.v]] m (Nq b d):=by
 apply El;simp -zeta only[dR];intro g;obtain⟨e,P⟩:=pu g;clear_value g;have y:=x.aT;have H:∀C∈[m.size],C<g.size:=eX;refine⟨λk=>fy (λc=>by have:=c.lo;simp at k;omega) e,λk=>⟨λl=>fy (λc=>by have:=c.js;simp at l;omega) e,λl=>⟨λo=>fy (λc=>by have:=c.js;simp at o;omega) e,λo=>⟨λr=>fy (λc=>by have:=c.fl;simp at r;omega) e,λr=>?_⟩⟩⟩⟩;simp at k l o r;refine⟨λM=>M=g/\(d.bT<1->d.js=0)/\(d.bT=0->d.bJ=[]),?_,?_⟩
 .have zero:(d.bT<1->d.js=0)->((d.bT==(0:Int))=true->((decide ((j.len:Int)>(0:Int)))=true->∃a:Bool,vb false=.bool a/\(a=true<->Nq b d)/\D m g)/\
   ((decide ((j.len:Int)>(0:Int)))=false->g=g/\(d.bT<1->d.js=0)/\(d.bT=0->d.bJ=[])))/\((d.bT==(0:Int))=false->g=g/\(d.bT<1->d.js=0)/\(d.bT=0->d.bJ=[])):=λh=>
   ⟨λf=>⟨λa=>fy (λc=>by have:=c.kX (sp f);rw[this]at y;simp at a y;omega) e,λa=>⟨O,h,λ_=>cp.1 (by simp at a;omega)⟩⟩,λf=>⟨O,h,λa=>by simp at f;exact absurd a f⟩⟩
  refine⟨λf=>⟨λa=>fy (λc=>by have:=c.LP (sp f);simp at a;exact a this) e,λa=>zero λ_=>by simpa using a⟩,λf=>zero λa=>by simp at f;omega⟩
 .rintro J ⟨rfl,hd,F⟩;refine gP (n:=d.bJ.length) V (λv h=>D J h/\∀w∈d.bJ.take v,vO b w/\(d.bT<0->w=0)) ⟨cY,bO⟩ ?_;rintro v N K μ L ⟨q,u⟩ B
  refine dit (λf=>?_) λf=>?_
  .let⟨w,h⟩:=dV d.bJ v;refine⟨V,V,w,by simpa using(x.ext (e.J q)).bt h,(Kx (gA.ext (e.J q) G) (I w (aZ h))).bL q H λb4 A t Q p=>⟨b4,O,λa=>fy (λc=>nb t a (c.dQ w (aZ h)).1) (e.J p),λa=>⟨λs=>⟨λi=>fy (λc=>?_) (e.J p),λi=>B V A ⟨p,dK h u ⟨yb t a,λ_=>by simpa using i⟩⟩⟩,λs=>B V A ⟨p,dK h u ⟨yb t a,λi=>by simp at s;omega⟩⟩⟩⟩⟩;have:=(c.dQ w (aZ h)).2 (sp s);simp at i;exact i this
  .exact oD ⟨k,⟨l,o⟩,V,hd,F,gH V u⟩ (e.J q)
def kE(mk:Nat->Bool):Nat->ah->Nat->Int
 |_,[],_=>0
 |i,d::b,a=>(if mk i=true then 0 else iW d.bJ a)+kE mk (i+1) b a
def IW:∀(i:Nat)(b:ah)(a:Nat),kE (λ_=>false) i b a=jA b a
 |_,[],_=>O
 |i,d::b,a=>by simp[kE,jA,IW (i+1) b a]
def KI(mk:Nat->Bool):∀(i:Nat)(b:ah)(a:Nat),0<=kE mk i b a
 |_,[],_=>dT 0
 |i,d::b,a=>by have:=KI mk (i+1) b a;have:=lD d.bJ a;simp only[kE];split<;>omega
def U7(mk:Nat->Bool):∀(i:Nat)(b:ah)(a:Nat),kE mk i b a<=jA b a
 |_,[],_=>dT 0
 |i,d::b,a=>by have:=U7 mk (i+1) b a;have:=lD d.bJ a;simp only[kE,jA];split<;>omega
theorem NL{mk e:Nat->Bool}:∀{i:Nat}{b:ah}{a:Nat},(∀j,i<=j->mk j=e j)->kE mk i b a=kE e i b a
 |_,[],_,_=>O
 |i,d::b,a,c=>by simp only[kE];rw[c i bY,NL λj f=>c j V]
def Sx{mk:Nat->Bool}:∀{e:Nat}{b:ah}{f:Nat}{d:dq},b[f]? =some d->mk (e+f)=false->∀a,kE (se mk (e+f)) e b a=kE mk e b a -iW d.bJ a
 |_,[],_,_,b,_,_=>by simp at b
 |e,g::b,0,d,j,l,a=>by
  grind [NL,se,wL,kE,Mu]
 |e,g::b,f+1,d,j,l,a=>by
  have m:e+(f+1)=e+1+f:=V;have:=Sx (mk:=mk) (e:=e+1) (b:=b) (f:=f) (d:=d) cB cB a;grind [kE,wL]
def U6{mk:Nat->Bool}:∀{e:Nat}{b:ah}{f:Nat}{d:dq},b[f]? =some d->mk (e+f)=false->∀a,iW d.bJ a<=kE mk e b a
 |_,[],_,_,b,_,_=>by simp at b
 |e,j::b,0,d,g,l,a=>by
  simp at g;subst g;have:=KI mk (e+1) b a;grind [kE]
 |e,j::b,f+1,d,g,l,a=>by
  have:=U6 (mk:=mk) (e:=e+1) (b:=b) (f:=f) (d:=d) cB cB a;have:=lD j.bJ a;grind [kE]
def Sw{mk:Nat->Bool}:∀{i:Nat}{b:ah}{a:Nat},0<kE mk i b a->∃(k:Nat)(d:dq),b[k]? =some d/\mk (i+k)=false/\(1000+(a:Int))∈d.bJ
 |_,[],_,b=>by simp[kE]at b
 |i,c::b,a,e=>by
  simp only[kE]at e;by_cases f:mk i=false/\0<iW c.bJ a
  .exact⟨0,c,O,f.1,Tv f.2⟩
  .have:0<kE mk (i+1) b a:=by
    have:=lD c.bJ a;split at e
    .omega
    .grind [iW]
   let⟨k,d,g,h,j⟩:=Sw this;exact⟨k+1,d,sp g,by rw[<-h];congr 1;omega,j⟩
def Y8(b:ah)(mk:Nat->Bool):Prop:=
 ∃t:ag,(∀j,mk j=true->t j<=vD mk b.length)/\∀(i:Nat)(d:dq),b[i]? =some d->∀w∈d.bJ,1000<=w->mk (ix w)=true->mk i=true/\t i<t (ix w)
def Y8.dY{mk:Nat->Bool}(v:Y8 b mk)(u:a<b.length)(k:mk a=false)(B:kE mk 0 b a=0):Y8 b (se mk a):=by
 let⟨t,n,s⟩:=v;have r:=J7 k u;have y:∀(c:Nat)(d:dq),b[c]? =some d->(1000+(a:Int))∈d.bJ->mk c=true:=λc d f g=>by
  cases e:mk c
  .have g1:=U6 (mk:=mk) (e:=0) f (by rw[eW];exact e) a;have g2:=wJ g;omega
  .rfl
 refine⟨λx=>if x=a then vD mk b.length+1 else t x,λz o=>?_,λc d f w g q p=>?_⟩
 .simp only[r];split
  .omega
  .rename_i h;rw[wL h]at o;have:=n z o;omega
 .by_cases h:ix w=a
  .have e:=y c d f (by rw[<-h,lE q];exact g);have l:c≠a:=λj=>by rw[j,k]at e;cases e
   simp only[bn h,aW l];exact⟨Gk e,oh (n c e)⟩
  .rw[wL h]at p;let⟨m,A⟩:=s c d f w g q p;have l:c≠a:=λj=>by rw[j,k]at m;cases m
   simp only[aW h,aW l];exact⟨Gk m,A⟩
def Up(f:ag):∀n,∃B,∀i,i<n->f i<=B
 |0=>⟨0,λi a=>absurd a (mI _)⟩
 |n+1=>by
  let⟨B,b⟩:=Up f n;refine⟨B+f n,λi a=>?_⟩;grind [Nat.lt_or_ge]
def aaZ{mk:Nat->Bool}(r:Y8 b mk)(q:∀d∈b,∀w∈d.bJ,1000<=w->ix w<b.length)(o:∀a,a<b.length->kE mk 0 b a=0->mk a=true):
 vD mk b.length=b.length<->acJ b:=by
 rw[Ur]
 constructor
 .intro g
  let⟨t,e,c⟩:=r
  refine⟨λx=>b.length -t x,λi d h w j f=>?_⟩
  have k:=q d (aZ h) w j f
  have:=(c i d h w j f (g _ k)).2
  have:=e _ (g _ k)
  have:=OV mk b.length
  grind [List.length,ix]
 .rintro⟨h,s⟩
  let⟨B,m⟩:=Up h b.length
  have u:∀(n i:Nat),B -h i<n->i<b.length->mk i=true:=by
   intro n;induction n with
   |zero=>intro i g;omega
   |succ n t=>
    intro i g p;refine o i p (Int.le_antisymm (Int.not_lt.1 λf=>?_) (KI _ _ _ _));let⟨k,d,e,c,l⟩:=Sw f;rw[eW]at c;have:=s k d e _ l V;rw[sL]at this;have j:=br e;have:=m k j;rw[t k V j]at c;cases c
  exactλi g=>u (B -h i+1) i V g
@[grind cases] structure zl (h:ah) (mk:Nat->Bool) (W:ad) (lf:Nat->Int):Prop where
 Qh:W.Nodup
 un:∀a∈W,a<h.length/\mk a=false
 ov:∀a,a<h.length->(lf a=0<->(mk a=true\/a∈W))
def KC:∀(n:Nat)(W:ad),W.Nodup->(∀a∈W,a<n)->W.length<=n
 |0,[],_,_=>bY
 |0,a::_,_,b=>absurd (b a bO) (mI _)
 |n+1,W,hd,b=>by
  by_cases d:n∈W
  .have e:=KC n (W.erase n) (hd.erase n) λa c=>by
    have:=hd.mem_erase_iff.1 c;have:=b a this.2;omega
   grind [List.length_erase_of_mem]
  .have:=KC n W hd λa c=>by
    have:=b a c;have:a≠n:=λe=>d (e▸c);omega
   omega
def zl.aT{mk:Nat->Bool}(K:zl b mk W e):W.length<=b.length:=KC _ _ K.Qh λa c=>(K.un a c).1
def zl.pop{mk:Nat->Bool}(K:zl b mk (W++[a]) e):zl b (se mk a) W e:=by
 constructor<;>grind [List.nodup_append,zl.Qh,zl.un,List.mem_append_left,wL,zl.ov,Mu]
theorem zl.qy{mk:Nat->Bool}{lf':Nat->Int}(K:zl b mk W e)(f:a<b.length)(g:∀x,lf' x=if x=a then e x -1 else e x)(i:0<e a):
 (lf' a=0->zl b mk (W++[a]) lf')/\(lf' a≠0->zl b mk W lf'):=by
 have h:mk a≠true/\a∉W:=by
  grind [zl.ov]
 refine⟨λd=>⟨?_,λx c=>?_,λx c=>?_⟩,λd=>⟨K.Qh,K.un,λx c=>?_⟩⟩
 .grind [List.nodup_append,zl.Qh]
 .grind [zl.un]
 .grind [zl.ov]
 .grind [zl.ov]
end
section
variable{b:ag}{m:bg}{k c a:Nat}{s:E}{d:Nat->Int}
def cst(W:ad):ab:=W.map λ(a:Nat)=>(a:Int)
def OX(W:ad):(cst W).length=W.length:=by simp[cst]
def PF(W:ad)(a:Nat):cst (W++[a])=cst W++[(a:Int)]:=by simp[cst]
def abU(h:iE b m bB 1 k s ((CF c d).map Ce.i))(f:c<=9223372036854775807)(e:a<c):aS m s.bz (s.off+Int.toNat (a:Int)*1)=some (vi (d a)):=by
 have:=(h.oN (by rw[zg];exact f)).bt (Pa e);simpa using this
def aaf(h:iE b m bB 1 k s ((CF c d).map Ce.i)):s.len=c:=by grind [iE.aT,zg]
def adk{g:Nat->Int}(h:iE b m bB 1 k s ((CF c d).map Ce.i))(n:a<c){v:Int}(o:∀e,e<c->g e=if e=a then v else d e)(l:∀e,m.size<=e->b e=0):
 jb m s.bz (s.off+Int.toNat (a:Int)*1) 1/\iE b (aV m s.bz (s.off+Int.toNat (a:Int)*1) [.i v]) bB 1 k s ((CF c g).map Ce.i)/\dI (λj=>j=k) b m b (aV m s.bz (s.off+Int.toNat (a:Int)*1) [.i v]):=by
 have e:0<=(a:Int):=V
 have f:(a:Int)<((CF c d).length:Nat):=by grind [zg]
 have i:=h.gX e f v
 have j:gX (CF c d) (a:Int) v=CF c g:=by
  unfold gX;rw[show Int.toNat (a:Int)=a by omega,XV];grind [mF]
 rw[j]at i
 have p:=aaf h
 have q:=h.le
 exact⟨h.SE e f,i,dI.aV l (h.bz V).2 _ _⟩
def adv(m:bg)(h:ah)(v:Value)(c:bg):Prop:=∃(s:E)(b:Bool),v=.tuple #[s.v,vb b]/\(b=true<->VQ h)/\
 (b=true->∃a,s=.mk a 0 h.length h.length/\m.size<=a/\dF c a bB ((CF h.length (jA h)).map Ce.i))/\D m c
def GG{J:E}{h:ah}(t:gA m J h)(aF:ady h)(bb:h.length<=1000000000):bK dO 123 [E.v J] m (adv m h):=by
 apply Bo;simp -zeta only[kL,nO];have hl:=t.aT;have en:Int.toNat (J.len:Int)=h.length:=V;rw[en];refine⟨V,V,V,V,?_⟩;intro m1;have x1:=px m1;have B1:dF m1 m.size bB ((CF h.length (λ_=>0)).map Ce.i):=aag m;have no:∀{M:bg},D m M->¬VQ h->adv m h (.tuple #[E.v E.nil,vb false]) M:=λS G=>⟨.nil,false,O,by simp[G],bO,S⟩;have am:∀c:Nat,Int.toNat (c:Int)=c:=λc=>V;simp -zeta only[E.kv,E.lT,E.vP,eW];refine gP (n:=h.length) V (λr l=>D m l/\dF l m.size bB ((CF h.length (λa=>jA (h.take r) a)).map Ce.i)/\∀e∈h.take r,Nq h e) ⟨x1,by simpa[jA]using B1,bO⟩ ?_;rintro r m2 bj μ hi ⟨x2,B2,aj⟩ T
 have bs:=B2.lt;have h3:∀e∈h.take r,e.bJ.length<=3:=λe hm=>(aj e hm).fl;refine dit (λh1=>?_) λh1=>?_
 .let⟨e,p⟩:=dV h r;have ac:=aZ p;let⟨d,hf,g0,g1,g2⟩:=(gA.ext x2 t).bt p;rw[am];refine⟨V,V,e.bT,g0,e.js,g1,d,g2,?_⟩;intro K m4;obtain⟨o,s4⟩:=pv m4;refine(Kk (gA.ext (x2.J o) t) (hf.ext o) (aF e ac)).bL cY eX λj m5 R q _=>⟨j,O,λh2=>no ((x2.J o).J q) λu=>nb R h2 (u.jI e ac).v,λh2=>?_⟩;have y:=yb R h2;have a4:=y.fl;have z5:=q.aQ;have Y:=hf.aT;refine gP (n:=e.bJ.length) V (λk l=>D m l/\m2.size<l.size/\ba l d e.bJ/\dF l m.size bB ((CF h.length (λa=>jA (h.take r) a+iW (e.bJ.take k) a)).map Ce.i)) ⟨((x2.J o).J q),V,(hf.ext (o.J q)),by simpa[iW]using(B2.ext (o.J q))⟩ ?_;rintro k B X ν u ⟨N,z6,A,l⟩ P;refine dit (λh4=>?_) λh4=>?_
  .let⟨w,H⟩:=dV e.bJ k;have ao:=aZ H;refine⟨V,V,w,by simpa using A.bt H,(kN (gA.ext N t) (aF e ac w ao).2).aP ?_⟩;rintro _ C ⟨a,Q,rfl,L,U,F⟩;have z7:=F.aQ;refine⟨F.eV eX,a,Q,O,λI=>?_,λI=>?_⟩
   .have af:=L.1 I;have ae:=br (dy af).1;have e1:=U I;subst e1;have x:=l.ext F;have Z:=O6 (h.take r) (ix w) h3;have q2:=pC (e.bJ.take k) (ix w);have q3:=yW (h.take r) (ix w);have q4:=lD (e.bJ.take k) (ix w);have q5:(h.take r).length<=h.length:=eX;have q6:(e.bJ.take k).length<=3:=eX;rw[am,nu];refine⟨V,V,_,JP x ae,V,V,aah x ae,?_⟩;rw[show eJ (jA (h.take r) (ix w)+iW (e.bJ.take k) (ix w)+1)=jA (h.take r) (ix w)+iW (e.bJ.take k) (ix w)+1 from de V V];have z:=W7 x (ix w) (jA (h.take r) (ix w)+iW (e.bJ.take k) (ix w)+1);rw[mF (g:=λa=>jA (h.take r) a+iW (e.bJ.take (k+1)) a)]at z
    .refine⟨λj R=>cq _ _ _ _ (by simp at R;omega),P V _ ⟨(N.J F).aV bY _ _,by rw[bD];omega,?_,z⟩⟩;obtain⟨f0,aE,_,_,w2⟩:=t.bt p;have er:f0=d:=by have:=x2.aS w2;rw[g2]at this;exact(E.LC.1 (sk this)).symm
     subst er;exact aE.ext ((N.J F).aV bY _ _)
    .intro j R;rw[KD H];by_cases s:j=ix w
     .subst s;rw[bn O,bn (lE af.1).symm];omega
     .rw[aW s,aW (λW=>s (by rw[W,sL]))];omega
   .refine P V C ⟨N.J F,V,A.ext F,?_⟩;have a9:w<1000:=(y.cases ao).resolve_left (fb L I);rw[mF (g:=λa=>jA (h.take r) a+iW (e.bJ.take k) a)]
    .exact l.ext F
    .intro j R;rw[KD H,aW V];omega
  .have x:e.bJ.take k=e.bJ:=eQ V;rw[x]at l;refine T V B ⟨N,?_,dK p aj y⟩
   rw[mF (g:=λa=>jA (h.take r) a+iW e.bJ a)]
   .exact l
   .intro j R;exact YH p j
 have ei:h.take r=h:=eQ V;rw[ei]at B2 aj h3;clear T
 have aO:∀e∈h,∀w∈e.bJ,iH h w\/w<1000:=λe q w H=>(aj e q).cases H;have af:∀e∈h,∀w∈e.bJ,1000<=w->ix w<h.length:=λe hm w H J=>by
  rcases aO e hm w H with h1|h1
  .exact br (dy h1).1
  .omega
 refine⟨λM=>m2=M/\pZ h,⟨λh2=>?_,λh2=>⟨O,λe q=>?_⟩⟩,?_⟩
 .simp at h2;rw[de V V];let⟨e,q⟩:=dV h (h.length -1);obtain⟨d,hf,g1,_,_⟩:=(gA.ext x2 t).bt q;have s:Int.toNat ((J.len:Int) -1)=h.length -1:=V;rw[s];refine⟨V,V,e.bT,g1,λh3=>no x2 λu=>u.mG e q (sp h3),λh3=>⟨O,λaa hd=>?_⟩⟩;rw[q]at hd;simp at hd;subst hd;simpa using h3
 .have:=br q;simp at h2;omega
 rintro _ ⟨rfl,bc⟩;refine(gT (aa6 B2 V) (by rw[zg];exact bb)).aP ?_;rintro _ K ⟨y,rfl,or,x3⟩;have z3:=x3.aQ;have B3:=B2.ext x3;obtain⟨z,ax⟩:∃z:ag,z=λj=>if y.Ew=false/\j=y.bz then 2 else if j=m.size then 1 else 0:=⟨_,O⟩
 have aw:y.Ew=false->m2.size<=y.bz/\y.bz<K.size:=λG=>by
  have ai:y≠.nil:=λs=>by rw[s]at G;simp at G
  exact⟨or.bz.resolve_left ai,or.lt.resolve_left ai⟩
 have aI:∀j,j≠m.size->(y.Ew=false->j≠y.bz)->z j=0:=λj h4 I=>by
  rw[ax];exact(aW λt=>I t.1 t.2).trans (aW h4)
 have bi:z m.size=1:=by
  rw[ax];exact(aW λt=>oh (aw t.1)).trans (bn O)
 have be:∀j,K.size<=j->z j=0:=λj R=>aI j V λG=>by have:=aw G;omega
 have a0:∀j,j<m.size->z j=0:=λj R=>aI j V λG=>by have:=aw G;omega
 have A3:iE z K bB 1 2 y ((CF h.length (jA h)).map Ce.i):=iE.ju or λai=>by
  rw[ax];refine bn ⟨?_,O⟩;cases y with
  |nil=>exact absurd O ai
  |_=>rfl
 have bp:=aaf A3;clear aw aI ax;have aJ:∀{b aU:ag}{M M':bg},dI (λk=>k=2\/k=6) b M aU M'->To b M aU M':=λq=>q.aP λk u=>V;have aB:∀{b:ag}{M:bg},dI (λk=>k=2\/k=6) z K b M->D m M:=λq=>((aJ q).cW (x2.J x3) a0).1;have aT:∀{b:ag}{M:bg},dI (λk=>k=2\/k=6) z K b M->dF M m.size bB ((CF h.length (jA h)).map Ce.i):=λq=>B3.congr (q.fR _ B3.lt (by rw[bi];decide));have bf:iE z K bB 1 6 .nil (([]:ab).map Ce.i):=⟨bO,bO,bC O⟩;refine⟨y,O,gL (σ:=E) (n:=h.length) V (λk L M=>∃b W,dI (λk=>k=2\/k=6) z K b M/\iE b M bB 1 2 y ((CF h.length (jA h)).map Ce.i)/\iE b M bB 1 6 L ((cst W).map Ce.i)/\W.Nodup/\(∀a∈W,a<k)/\(∀a,a<k->(jA h a=0<->a∈W))/\
  ∀(a:Nat)(e:dq),a<k->h[a]? =some e->0<e.bT->jA h a<=e.bT/\e.bT<=999999) ⟨z,[],dI.cU _ be,A3,bf,bO,bO,bO,bO⟩ ?_⟩
 rintro k L m4 I2 μ2 u ⟨U,W,C4,A4,W4,an,ak,ay,av⟩ T
 have X4:=aB C4;refine dit (λh4=>?_) λh4=>?_
 .have al:k<h.length:=V;let⟨e,Z⟩:=gD al;let⟨d,hf,g0,g1,g2⟩:=(gA.ext X4 t).bt Z;rw[am];refine⟨V,V,e.bT,g0,e.js,g1,d,g2,?_⟩;intro m5 B;obtain⟨N,s6⟩:=pv B;have ap:dI (λk=>k=2\/k=6) U m4 U B:=dI.fC N C4.bF;have X:=C4.J ap;have F6:dI (λ_=>False) U m4 U B:=dI.fC N C4.bF;have A6:=A4.fO F6 id;have W6:=W4.fO F6 id;have g6:=JP (aT X) al;have nj:(0<e.bT->jA h k<=e.bT/\e.bT<=999999)->∀(a:Nat)(e:dq),a<k+1->h[a]? =some e->0<e.bT->jA h a<=e.bT/\e.bT<=999999:=λG a aa o hd=>by
   rcases dJ a k with P|P
   .exact av a aa P hd
   .have:a=k:=V;subst this;rw[Z]at hd;simp at hd;subst hd;exact G
  have kO:(0<e.bT->jA h k<=e.bT/\e.bT<=999999)->((0:Int)<=k/\(k:Int)<(h.length:Int)/\∃p:Int,aS B m.size (k*1)=some (vi p)/\
   ((p==(0:Int))=true->let x:bg:=B.push (.cells (db [.i (k:Int)]) 3)
    mj x 3 [.i (0:Int)] 8 L (E.mk B.size 0 1 1) λA l=>gS [m4.size] x l/\I2 A (eJ ((k:Int)+(1:Int))) l/\μ2 A (eJ ((k:Int)+(1:Int))) l<μ2 L k m4)/\
   ((p==(0:Int))=false->I2 L (eJ ((k:Int)+(1:Int))) B/\μ2 L (eJ ((k:Int)+(1:Int))) B<μ2 L k m4)):=λG=>by
   refine⟨V,V,_,by rw[nu];exact g6,λA=>?_,λA=>?_⟩
   .intro C
    obtain⟨F,s7⟩:=pu C
    have k7:dF C B.size 3 [.i (k:Int)]:=dF.push B _ _
    have F7:dI (λ_=>False) U B U C:=dI.fC F X.bF
    have C7:dI (λk=>k=2\/k=6) z K U C:=X.J (dI.fC F X.bF)
    have aq:=W6.aT
    simp[OX]at aq
    have ar:W.length<=h.length:=KC _ _ an λa o=>by have:=ak a o;omega
    refine iE.fx (f:=[.i 0]) (new:=[.i (k:Int)]) (W6.fO F7 id) C7.bF bO k7.kZ (by simp only[E.kv];omega) λp aR m8 a8 c8=>⟨(aJ (c8.aP λl Y=>bR Y)).eV (by simp;exact⟨V,C4.bF _ bY⟩),?_⟩
    refine T V _ _ ⟨p,W++[k],C7.J (c8.aP λl Y=>bR Y),(A6.fO F7 id).fO c8 cD,by rw[PF];simpa using a8,?_,λa o=>?_,λa o=>?_,nj G⟩
    .rw[List.nodup_append]
     refine⟨an,bO,λx S au Q s=>?_⟩
     simp at Q;subst Q;subst s;have:=ak _ S;omega
    .rcases bU.1 o with o|o
     .have:=ak a o;omega
     .simp at o;omega
    .rcases dJ a k with Q|Q
     .rw[ay a Q];simp;omega
     .have:a=k:=V
      subst this
      simp at A;simp[A]
   .refine T V _ _ ⟨U,W,X,A6,W6,an,λa o=>oh (ak a o),λa o=>?_,nj G⟩
    rcases dJ a k with Q|Q
    .exact ay a Q
    .have:a=k:=V
     subst this
     simp at A
     simp only[A,false_iff]
     intro hm;have:=ak _ hm;omega
  refine⟨λI=>⟨V,V,_,by rw[nu];exact g6,λP=>no (X4.J N) λu=>?_,λP=>⟨λA=>no (X4.J N) λu=>?_,λA=>kO λ_=>by simp at P A;omega⟩⟩,λI=>kO λP=>by simp at I;omega⟩
  .have:=u.jA k e Z (sp I);simp at P;omega
  .have:=(u.jI e (aZ Z)).hi;simp at A;omega
 have a5:k=h.length:=V;subst a5;clear T h4
 have a3:∀e∈h,sC h e:=λe q=>by
  let⟨a,o⟩:=cH.1 q;refine(aj e q).ok ?_;rcases yh 0 e.bT with J|J
  .exact(av a e (br o) o J).2
  .omega
 have a_:∀(a:Nat)(e:dq),h[a]? =some e->0<e.bT->jA h a<=e.bT:=λa e o J=>(av a e (br o) o J).1;have a7:∀mk a,kE mk 0 h a<=3*h.length:=λmk a=>by
  have:=U7 mk 0 h a;have:=O6 h a λe hm=>(aj e hm).fl;omega
 have K0:zl h (λ_=>false) W (kE (λ_=>false) 0 h):=⟨an,λa o=>⟨ak a o,O⟩,λa o=>by rw[IW,ay a o];simp⟩;have c0:vD (λ_=>false) h.length=0:=by
  generalize h.length=c;induction c with
  |zero=>rfl
  |succ c N=>simp[vD,N]
 refine abg (γ:=(Nat->Bool)×ad) (λN L aQ M=>∃b,aQ=(vD N.1 h.length:Nat)/\dI (λk=>k=2\/k=6) z K b M/\iE b M bB 1 2 y ((CF h.length (kE N.1 0 h)).map Ce.i)/\iE b M bB 1 6 L ((cst N.2).map Ce.i)/\zl h N.1 N.2 (kE N.1 0 h)/\Y8 h N.1)
  (λN=>h.length -vD N.1 h.length) (λ_=>false,W) ⟨U,by rw[c0];rfl,C4,by rw[mF (g:=jA h) λj _=>IW 0 h j];exact A4,W4,K0,λ_=>0,bO,bO⟩ ?_
 clear C4 A4 W4 K0 c0 X4 an ak ay av;rintro⟨mk,W⟩ L aQ m5 I3 μ3 ⟨aa,rfl,C5,A5,W5,K5,O5⟩ T
 simp only at A5 W5 K5 O5 T
 have X5:=aB C5;have aq:=W5.aT;simp[OX]at aq;have bk:=K5.aT;refine dit (λI=>?_) λI=>?_
 .have ai:W≠[]:=λs=>by subst s;simp at aq;omega
  obtain⟨W',a,rfl⟩:∃W' a,W=W'++[a]:=⟨W.dropLast,W.getLast ai,(nH ai).symm⟩;rw[PF]at W5;let⟨p1,p2,p3⟩:=W5.pop;rw[OX]at p1 p2 p3;have e1:eJ ((L.len:Int) -1)=(W'.length:Int):=by rw[de V V];omega
  let⟨ar,aD⟩:=K5.un a bO;let⟨e,au⟩:=gD ar;have ac:=aZ au;have a4:=(aj e ac).fl;let⟨d,hf,g0,g1,g2⟩:=(gA.ext X5 t).bt au;rw[e1,am];have bq:=W5.le;refine⟨V,V,a,p2,V,V,?_⟩;rw[am];refine⟨e.bT,g0,e.js,g1,d,g2,?_⟩;intro B C;obtain⟨F,s7⟩:=pv C;have F7:dI (λ_=>False) aa m5 aa C:=dI.fC F C5.bF;have C7:dI (λk=>k=2\/k=6) z K aa C:=C5.J (dI.fC F C5.bF);have bm:=hf.aT;have hz:kE mk 0 h a=0:=(K5.ov a ar).2 (bR bO);have O7:=O5.dY ar aD hz;have aG:=λx=>Sx (mk:=mk) (e:=0) au (by rw[eW];exact aD) x;simp only[eW]at aG;have es:=J7 aD ar;have bl:=OV (se mk a) h.length;have K7:zl h (se mk a) W' (λx=>kE (se mk a) 0 h x+iW (e.bJ.drop 0) x):=by
   have:=K5.pop;refine⟨this.Qh,this.un,λx S=>?_⟩;rw[<-this.ov x S,aG,List.drop_zero];constructor<;>intro h<;>omega
  refine⟨V,V,V,gL (σ:=E) (n:=e.bJ.length) V (λl wk M=>∃b X,dI (λk=>k=2\/k=6) aa C b M/\iE b M bB 1 2 y ((CF h.length (λx=>kE (se mk a) 0 h x+iW (e.bJ.drop l) x)).map Ce.i)/\iE b M bB 1 6 wk ((cst X).map Ce.i)/\zl h (se mk a) X (λx=>kE (se mk a) 0 h x+iW (e.bJ.drop l) x))
   ⟨aa,W',dI.cU _ C7.bF,?_,?_,K7⟩ ?_⟩
  .have:=A5.fO F7 id;rw[mF (g:=kE mk 0 h) λj _=>by simp only[aG,List.drop_zero];omega];exact this
  .exact p3.fO F7 id
  rintro l wk m8 I4 μ4 Y ⟨p,X,C8,A8,W8,N⟩ aH;have X8:=aB (C7.J C8);have r7:m5.size<m8.size/\p m5.size=0:=⟨by have:=C8.aQ;omega,by rw[C8.jv _ V];exact C5.bF _ bY⟩;refine dit (λP=>?_) λP=>?_
  .let⟨w,H⟩:=dV e.bJ l;have ao:=aZ H;have a1:=aF e ac w ao;have aP:e.bJ.drop l=w::e.bJ.drop (l+1):=by
    rw[HJ (br H)];congr 1;exact(mQ.1 H).2
   obtain⟨f0,aE,_,_,w2⟩:=t.bt au;have er:f0=d:=by have:=X5.aS w2;rw[g2]at this;exact(E.LC.1 (sk this)).symm
   subst er;refine⟨V,V,w,by simpa using(aE.ext X8).bt H,(kN (gA.ext X8 t) a1.2).aP ?_⟩;rintro _ m9 ⟨aR,b9,rfl,aN,a8,x9⟩;have z9:=x9.aQ;have F9:dI (λ_=>False) p m8 p m9:=dI.fC x9 C8.bF;have C9:dI (λk=>k=2\/k=6) aa C p m9:=C8.J (dI.fC x9 C8.bF);have A9:=A8.fO F9 id;have W9:=W8.fO F9 id;refine⟨x9.eV eX,aR,b9,O,λA=>?_,λA=>?_⟩
   .have af:=aN.1 A;have ae:=br (dy af).1;have e9:=a8 A;subst e9;have al:∀x,iW (e.bJ.drop l) x=(if x=ix w then 1 else 0)+iW (e.bJ.drop (l+1)) x:=λx=>by rw[aP,lC af.1]
    have a2:=al (ix w);rw[bn O]at a2;have n1:=KI (se mk a) 0 h (ix w);have n2:=a7 (se mk a) (ix w);have n3:=lD (e.bJ.drop (l+1)) (ix w);have n4:=pC (e.bJ.drop (l+1)) (ix w);have n5:(e.bJ.drop (l+1)).length<=3:=eX;let⟨u1,u2,u3⟩:=adk (d:=λx=>kE (se mk a) 0 h x+iW (e.bJ.drop l) x) (g:=λx=>kE (se mk a) 0 h x+iW (e.bJ.drop (l+1)) x) A9 ae (v:=kE (se mk a) 0 h (ix w)+iW (e.bJ.drop (l+1)) (ix w)) (λj _=>by
     rw[al];by_cases s:j=ix w
     .subst s;rw[bn O]
     .rw[aW s,aW s];omega) C9.bF
    refine⟨V,V,_,abU A9 V ae,V,V,u1,?_⟩;rw[show eJ (kE (se mk a) 0 h (ix w)+iW (e.bJ.drop l) (ix w) -1)=kE (se mk a) 0 h (ix w)+iW (e.bJ.drop (l+1)) (ix w)by rw[de V V];omega];intro Z;have ap:dI (λk=>k=2\/k=6) aa C p Z:=C9.J (u3.aP λk u=>bC u);have bu:Z.size=m9.size:=bD _ _ _ _;have aA:iE p Z bB 1 6 wk ((cst X).map Ce.i):=W9.fO u3 cD;let⟨v1,v2⟩:=N.qy (lf':=λx=>kE (se mk a) 0 h x+iW (e.bJ.drop (l+1)) x) ae (λx=>by
     rw[al];split<;>omega) (show 0<kE (se mk a) 0 h (ix w)+iW (e.bJ.drop l) (ix w)by omega)
    have aX:To p m9 p Z:=u3.aP λk u=>V;have aK:iE p Z bB 1 2 y ((CF h.length (λx=>kE (se mk a) 0 h x+iW (e.bJ.drop (l+1)) x)).map Ce.i):=u2;clear u2;refine⟨aX.eV (by simp;exact⟨V,r7.2⟩),V,V,_,abU aK V ae,λQ=>?_,λQ=>aH V _ _ ⟨p,X,ap,aK,aA,v2 (sp Q)⟩⟩;intro az;obtain⟨aV,bv⟩:=pu az;have bd:dF az Z.size 3 [.i (ix w:Int)]:=dF.push Z _ _;have aM:dI (λ_=>False) p Z p az:=dI.fC aV ap.bF;have aL:dI (λk=>k=2\/k=6) aa C p az:=ap.J (dI.fC aV ap.bF);have a6:=aA.aT;simp[OX]at a6;have bo:=N.aT;exact iE.fx (f:=[.i 0]) (new:=[.i (ix w:Int)]) (aA.fO aM id) aL.bF bO bd.kZ (by simp only[E.kv];omega) λbh q2 bt aY aC=>⟨(aJ (aC.aP λl Y=>bR Y)).eV (by simp;exact⟨V,r7.2⟩),aH V _ _ ⟨bh,X++[ix w],aL.J (aC.aP λl Y=>bR Y),(aK.fO aM id).fO aC cD,by rw[PF];simpa using aY,v1 (sp Q)⟩⟩
   .have a9:w<1000:=(aO e ac w ao).resolve_left (fb aN A);have al:∀x,iW (e.bJ.drop (l+1)) x=iW (e.bJ.drop l) x:=λx=>by
     rw[aP];simp only[iW];rw[aW V];omega
    refine aH V _ _ ⟨p,X,C9,?_,W9,⟨N.Qh,N.un,λx S=>by rw[al];exact N.ov x S⟩⟩;rw[mF (g:=λx=>kE (se mk a) 0 h x+iW (e.bJ.drop l) x) λj _=>by rw[al]];exact A9
  .have Q:e.bJ.drop l=[]:=adm V;have A:∀x,kE (se mk a) 0 h x+iW (e.bJ.drop l) x=kE (se mk a) 0 h x:=λx=>by rw[Q];simp[iW]
   rw[show eJ ((vD mk h.length:Nat)+1:Int)=((vD (se mk a) h.length:Nat):Int)by rw[es,de V V];omega];refine T (se mk a,X) _ _ m8 ⟨p,O,C7.J C8,?_,W8,⟨N.Qh,N.un,λx S=>by have:=N.ov x S;rw[A]at this;exact this⟩,O7⟩ (by simp only[];omega)
   rw[mF (g:=λx=>kE (se mk a) 0 h x+iW (e.bJ.drop l) x) λj _=>(A j).symm];exact A8
 .have p:W=[]:=cp.1 V;subst p;have x:=aaZ O5 af λa o l=>((K5.ov a o).1 l).resolve_right bO;refine⟨_,_,O,?_,λ_=>⟨m.size,O,bY,aT C5⟩,X5⟩;rw[bP,show((vD mk h.length:Nat):Int)=(J.len:Int)<->vD mk h.length=h.length by omega,x];exact⟨λo=>⟨bc,a3,a_,o⟩,λu=>u.CM⟩
end
section
variable{i:cZ}{f:bW}{m j d:bg}{r o e:E}{a b:Nat}
@[grind cases] structure VO (im:cZ) (f:bW):Prop where
 fQ:0<=f.fQ/\f.fQ<im.di.length
 pc:0<=f.pc/\f.pc<(dG im f.fQ).eA.length
 lr:(f.aU.length:Int)=(dG im f.fQ).aU
 lo:(f.bI.length:Int)=(dG im f.fQ).aU
 lh:(f.cC.length:Int)=(dG im f.fQ).aU
 eS:∀(k:Nat)(w o:Int),f.aU[k]? =some w->f.bI[k]? =some o->(ln w\/1000<=w)/\(0<=o/\o<=999999)
def VO.bI(h:VO i f):∀o∈f.bI,0<=o/\o<=999999:=λo b=>by
 let⟨k,a⟩:=cH.1 b;have:=br a;have c:=h.lr;have d:=h.lo;let⟨w,e⟩:=dV f.aU k;grind [VO.eS]
def IG{P Z:E}(R:gY m P Z i)(K:ba m r f.aU)(y:ba m o f.bI)(he:ba m e f.cC):
 fW dO 125 [.agg #[P.v,Z.v],.agg #[vi f.fQ,vi f.pc,vi f.bH,r.v,o.v,e.v]] m (VO i f):=by
 apply CU
 simp -zeta only[dR]
 intro X j
 have B:D m j:=((D.cU m).bZ _).bZ _
 have s1:=pz X
 have s2:j.size=m.size+2:=by simp[j,s1]
 have ai:=R.di.aT
 have ak:=K.aT
 have af:=y.aT
 have ae:=he.aT
 have al:=K.kK
 refine⟨λx=>fy (λa=>by have:=a.fQ;simp at x;omega) B,λx=>⟨λC=>fy (λa=>by have:=a.fQ;simp at C;omega) B,λC=>?_⟩⟩
 simp at x C
 let⟨ad,U⟩:=dV i.di f.fQ.toNat
 have g:dG i f.fQ=ad:=by simp[dG,U]
 let⟨pa,pl,pc,ag,aj,ab,k0,k1,k2,k3,k4⟩:=(R.ext B).di.bt U
 have ah:=ab.aT
 refine⟨x,V,pa,k0,pl,k1,_,k2,_,k3,pc,k4,?_⟩
 intro m3 L
 obtain⟨x4,s4⟩:=pv L
 have c:=B.J x4
 have hl:∀b∈[j.size,X.size,m.size],b<L.size:=eX
 refine⟨λF=>fy (λa=>by have:=a.pc;simp at F;omega) c,λF=>⟨λG=>fy (λa=>by have:=a.pc;rw[g]at this;simp at G;omega) c,λG=>⟨λH=>fy (λa=>by have:=a.lr;rw[g]at this;simp at H;omega) c,λH=>⟨λI=>fy (λa=>by have:=a.lo;rw[g]at this;simp at I;omega) c,λI=>⟨λJ=>fy (λa=>by have:=a.lh;rw[g]at this;simp at J;omega) c,λJ=>?_⟩⟩⟩⟩⟩
 simp at F G H I J
 refine gP (n:=f.aU.length) V (λk m'=>D L m'/\∀(d:Nat)(w o:Int),d<k->f.aU[d]? =some w->f.bI[d]? =some o->(ln w\/1000<=w)/\(0<=o/\o<=999999)) ⟨cY,λd w o S=>absurd S (mI _)⟩ ?_
 rintro k Y aa μ a ⟨N,W⟩ ac
 refine dit (λh8=>?_) λh8=>?_
 .let⟨w,h⟩:=dV f.aU k
  let⟨s,u⟩:=dV f.bI k
  refine⟨V,V,w,by simpa using(K.ext (c.J N)).bt h,(uO w Y).bL N hl λb6 q Q am v=>⟨b6,O,?_⟩⟩
  have T:aS q o.bz (o.off+Int.toNat (k:Int)*1)=some (vi s):=by simpa using(y.ext (c.J v)).bt u
  have kO:(ln w\/1000<=w)->(0:Int)<=k/\(k:Int)<(o.len:Int)/\∃M:Int,aS q o.bz (o.off+Int.toNat (k:Int)*1)=some (vi M)/\((decide (M<(0:Int)))=true->∃l:Bool,vb false=.bool l/\(l=true<->VO i f)/\D m q)/\
   ((decide (M<(0:Int)))=false->(0:Int)<=k/\(k:Int)<(o.len:Int)/\∃p:Int,aS q o.bz (o.off+Int.toNat (k:Int)*1)=some (vi p)/\((decide (p>(999999:Int)))=true->∃l:Bool,vb false=.bool l/\(l=true<->VO i f)/\D m q)/\
   ((decide (p>(999999:Int)))=false->aa (eJ ((k:Int)+(1:Int))) q/\μ (eJ ((k:Int)+(1:Int))) q<μ k Y)):=λhi=>
   ⟨V,V,s,T,λp=>fy (λa=>by have:=(a.eS k w s h u).2;simp at p;omega) (c.J v),λp=>⟨V,V,s,T,λl=>fy (λa=>by have:=(a.eS k w s h u).2;simp at l;omega) (c.J v),λl=>ac V _ ⟨v,λd w' o' S A z=>by
    rcases dJ d k with t|t
    .exact W d w' o' t A z
    .have:d=k:=V;subst this;rw[h]at A;rw[u]at z;simp at A z;subst A;subst z;simp at p l;exact⟨hi,V⟩⟩⟩⟩
  refine⟨λp=>⟨λl=>fy (λa=>?_) (c.J v),λl=>kO (bR (by simp at l;omega))⟩,λp=>kO (bC (yb Q p))⟩
  rcases(a.eS k w s h u).1 with t|t
  .exact nb Q p t
  .simp at l;omega
 .refine oD ⟨V,by rw[g];omega,by rw[g];omega,by rw[g];omega,by rw[g];omega,λd w o h y=>W d w o (oh (br h)) h y⟩ (c.J N)
@[grind cases] structure DU (a b:Nat) (m m':bg):Prop where
 aQ:m.size<=m'.size
 bG:∀c,c<m.size->c≠a->c≠b->m'[c]? =m[c]?
def DU.cU(a b:Nat)(m:bg):DU a b m m:=by constructor<;>grind
def DU.ext{c:bg}(h:DU a b m c)(d:D c j):DU a b m j:=by constructor<;>grind [DU.aQ,D.aQ,D.bG,DU.bG]
def DU.J{c:bg}(h:DU a b m c)(d:DU a b c j):DU a b m j:=by constructor<;>grind [DU.aQ,DU.bG]
def DU.aV{d:bg}(h:DU a b m d){c:Nat}(e:c=a\/c=b)(o:Nat)(l:ae):DU a b m (aV d c o l):=
 by constructor<;>grind [bD,DU.aQ,cq,DU.bG]
theorem DU.FV{c:bg}(h:DU a b m c)(g:D d m)(e:d.size<=a)(f:d.size<=b):D d c:=
 by constructor<;>grind [D.aQ,DU.aQ,DU.bG,D.lt,D.bG]
@[grind cases] structure acX (h:ah) (f:bW):Prop where
 bI:∀(k:Nat)(w o:Int),f.aU[k]? =some w->f.bI[k]? =some o->0<o->iH h w
 cC:∀w∈f.cC,w≠0->1000<=w/\∃c,h[ix w]? =some c/\c.bT<0
def abe{w:Int}{n:Nat}(a:Rh w)(d:n<=1000000000):(0<=eJ (w -1000)/\eJ (w -1000)<n)<->(1000<=w/\ix w<n):=by
 let⟨b,c⟩:=a;grind [Int.lt_or_le,eJ,Go.IntKind.wrap_i64,ix,de]
@[grind cases] structure SL (m:bg) (ob hb n:Nat) (fo fh:Nat->Int):Prop where
 bI:dF m ob bB ((CF n fo).map Ce.i)
 cC:dF m hb bB ((CF n fh).map Ce.i)
 ne:ob≠hb
def Rx{hp:E}{h:ah}{p c:Nat}{l fh:Nat->Int}(x0:D d m)(hh:gA d hp h)(hr:ba d r f.aU)(B:ba d o f.bI)(he:ba d e f.cC)(ag:d.size<=p)(af:d.size<=c)(T:SL m p c h.length l fh)
 (ae:aaz f)(ap:h.length<=1000000000)(an:f.aU.length=f.bI.length/\f.cC.length=f.bI.length/\f.bI.length<=10000000)(ai:∀o∈f.bI,0<=o/\o<=999999)(am:∀a,0<=l a/\l a<=1000000000000000)(al:∀a,0<=fh a/\fh a<=1000000000):
 bK dO 126 [.agg #[vi f.fQ,vi f.pc,vi f.bH,r.v,o.v,e.v],hp.v,E.v (.mk p 0 h.length h.length),E.v (.mk c 0 h.length h.length)] m λv F=>
  ∃b:Bool,v=vb b/\(b=true<->acX h f)/\(b=true->SL F p c h.length (λa=>l a+fB f.aU f.bI a) (λa=>fh a+iW f.cC a))/\DU p c m F:=by
 apply Bl
 simp -zeta only[dR]
 intro m1
 obtain⟨x1,s1⟩:=pu m1
 have aA:=hr.aT
 have ay:=B.aT
 have aw:=he.aT
 have ax:=hh.aT
 let⟨ar,au,av⟩:=an
 have aC:=T.bI.lt
 have aB:=T.cC.lt
 simp -zeta only[E.kv,E.lT,E.vP,eW]
 have R:∀ac:Nat,Int.toNat (ac:Int)=ac:=λac=>V
 refine gP (n:=f.bI.length) V (λk F=>DU p c m F/\m.size<F.size/\SL F p c h.length (λa=>l a+fB (f.aU.take k) (f.bI.take k) a) (λa=>fh a+iW (f.cC.take k) a)/\(∀(i:Nat)(w o:Int),i<k->f.aU[i]? =some w->f.bI[i]? =some o->0<o->iH h w)/\
  (∀w∈f.cC.take k,w≠0->1000<=w/\∃s,h[ix w]? =some s/\s.bT<0)) ⟨(DU.cU _ _ _).ext x1,V,by simpa[fB,iW]using(⟨T.bI.ext x1,T.cC.ext x1,T.ne⟩:SL m1 p c h.length l fh),λi w o hj=>absurd hj (mI _),bO⟩ ?_
 rintro k j aq μ hk ⟨t2,z2,q,q2,p2⟩ ak
 have P:=t2.FV x0 ag af
 rw[R,nu]
 refine dit (λh1=>?_) λh1=>?_
 .let⟨w,u⟩:=dV f.aU k
  let⟨t,C⟩:=dV f.bI k
  let⟨v,y⟩:=dV f.cC k
  have gw:∀{M:bg},D d M->aS M r.bz (r.off+k)=some (vi w):=λI=>by simpa using(hr.ext I).bt u
  have gq:∀{M:bg},D d M->aS M o.bz (o.off+k)=some (vi t):=λI=>by simpa using(B.ext I).bt C
  have gv:∀{M:bg},D d M->aS M e.bz (e.off+k)=some (vi v):=λI=>by simpa using(he.ext I).bt y
  have aj:=ae.2.2 v (aZ y)
  have az:=ai t (aZ C)
  refine⟨V,V,t,gq P,λM=>DU p c j M/\m.size<M.size/\SL M p c h.length (λa=>l a+fB (f.aU.take (k+1)) (f.bI.take (k+1)) a) (λa=>fh a+iW (f.cC.take k) a)/\(0<t->iH h w),⟨λU=>?_,λU=>?_⟩,?_⟩
  .have G:0<t:=sp U
   refine⟨V,V,w,gw P,(kN (gA.ext P hh) (ae.1 w (aZ u)).2).aP ?_⟩
   rintro _ m3 ⟨a,b3,rfl,L,S,z⟩
   have z3:=z.aQ
   refine⟨z.eV eX,a,b3,O,λx=>⟨false,O,?_,bO,t2.ext z⟩,λx=>?_⟩
   .simp only[oT,false_iff]
    exactλht=>nb L x (ht.bI k w t u C G)
   have K:=yb L x
   have N:=br (dy K).1
   have J:=S (sp x)
   subst J
   have A:=q.bI.ext z
   have Q:=q.cC.ext z
   have q1:=Qp (aU:=f.aU.take k) (bI:=f.bI.take k) (n:=999999) V (λo B=>ai o (gW B)) (ix w)
   have W:(f.bI.take k).length<=10000000:=eX
   have X:=am (ix w)
   rw[R,nu]
   refine⟨V,V,_,JP A N,V,V,aah A N,?_⟩
   rw[show eJ (l (ix w)+fB (f.aU.take k) (f.bI.take k) (ix w)+t)=l (ix w)+fB (f.aU.take k) (f.bI.take k) (ix w)+t from iz]
   have H:=W7 A (ix w) (l (ix w)+fB (f.aU.take k) (f.bI.take k) (ix w)+t)
   rw[mF (g:=λa=>l a+fB (f.aU.take (k+1)) (f.bI.take (k+1)) a)]at H
   .exact⟨λb Y=>cq _ _ _ _ (by simp at Y;omega),((DU.cU _ _ _).ext z).aV (bC O) _ _,by rw[bD];omega,⟨H,Q.congr (cq _ _ _ _ λe=>q.ne e.symm),q.ne⟩,λ_=>K⟩
   .intro b c
    rw[IQ u C]
    by_cases e:b=ix w
    .subst e;rw[bn O,bn (lE K.1).symm];omega
    .rw[aW e,aW (λab=>e (by rw[ab,sL]))];omega
  .have G:t=0:=by simp at U;omega
   refine⟨DU.cU _ _ _,z2,⟨?_,q.cC,q.ne⟩,λhp=>V⟩
   rw[mF (g:=λa=>l a+fB (f.aU.take k) (f.bI.take k) a)]
   .exact q.bI
   .intro b c;rw[IQ u C,G];split<;>omega
  rintro m3 ⟨t3,z3,z,ao⟩
  have G:=t2.J t3
  have Q:=G.FV x0 ag af
  have nj:∀(i:Nat)(w o:Int),i<k+1->f.aU[i]? =some w->f.bI[i]? =some o->0<o->iH h w:=λi w' o' hj N L=>by
   rcases dJ i k with A|A
   .exact q2 i w' o' A N L
   .have:i=k:=V;subst this;rw[u]at N;rw[C]at L;simp at N L;subst N;subst L;exact ao
  have aa:=abe (n:=h.length) aj ap
  refine⟨V,V,v,gv Q,λx=>⟨V,V,v,gv Q,?_⟩,λx=>?_⟩
  .have W:v≠0:=sp x
   have ad:∀{M:bg},DU p c m M->¬(1000<=v/\∃s,h[ix v]? =some s/\s.bT<0)->∃b:Bool,vb false=vb b/\(b=true<->acX h f)/\(b=true->SL M p c h.length (λa=>l a+fB f.aU f.bI a) (λa=>fh a+iW f.cC a))/\DU p c m M:=λht hn=>
    ⟨false,O,by simp only[oT,false_iff];exactλhk=>hn (hk.cC v (aZ y) W),bO,ht⟩
   refine⟨λK=>ad G λ⟨g1,s,g2,_⟩=>?_,λK=>⟨λX=>ad G λ⟨g1,s,g2,_⟩=>?_,λX=>?_⟩⟩
   .have:=(aa.2 ⟨g1,br g2⟩).1;simp at K;omega
   .have:=(aa.2 ⟨g1,br g2⟩).2;simp at X;omega
   simp at K X
   let⟨g1,g2⟩:=aa.1 ⟨K,V⟩
   have ew:eJ (v -1000)=(ix v:Nat):=by have:=aj.2;unfold ix;rw[iz];omega
   rw[ew,R]
   let⟨s,Z⟩:=gD g2
   obtain⟨cf,_,c0,_,_⟩:=(gA.ext Q hh).bt Z
   refine⟨V,V,s.bT,c0,λA=>ad G λ⟨_,c',S,g4⟩=>?_,λA=>?_⟩
   .rw[Z]at S;simp at S;subst S;simp at A;omega
   have q1:=al (ix v)
   have q2:=pC (f.cC.take k) (ix v)
   have q3:=lD (f.cC.take k) (ix v)
   have q4:(f.cC.take k).length<=10000000:=eX
   rw[nu]
   refine⟨V,V,_,JP z.cC g2,V,V,aah z.cC g2,?_⟩
   rw[show eJ (fh (ix v)+iW (f.cC.take k) (ix v)+1)=fh (ix v)+iW (f.cC.take k) (ix v)+1 from iz]
   have H:=W7 z.cC (ix v) (fh (ix v)+iW (f.cC.take k) (ix v)+1)
   rw[mF (g:=λa=>fh a+iW (f.cC.take (k+1)) a)]at H
   .refine⟨λb Y=>cq _ _ _ _ (by simp at Y;omega),ak V _ ⟨G.aV (bR O) _ _,by rw[bD];exact z3,⟨z.bI.congr (cq _ _ _ _ q.ne),H,q.ne⟩,nj,dK y p2 λ_=>⟨g1,s,Z,by simp at A;omega⟩⟩⟩
   .intro b c
    rw[KD y]
    by_cases e:b=ix v
    .subst e;rw[bn O,bn (lE g1).symm];omega
    .rw[aW e,aW (λab=>e (by rw[ab,sL]))];omega
  .have W:v=0:=sp x
   refine ak V _ ⟨G,z3,⟨z.bI,?_,q.ne⟩,nj,dK y p2 λH=>absurd W H⟩
   rw[mF (g:=λa=>fh a+iW (f.cC.take k) a)]
   .exact z.cC
   .intro b c;rw[KD y,aW V];omega
 .have t:f.aU.take k=f.aU:=eQ V
  have x:f.bI.take k=f.bI:=eQ V
  have J:f.cC.take k=f.cC:=eQ V
  rw[t,x,J]at q
  rw[J]at p2
  exact⟨true,O,by simp only[true_iff];exact⟨λi w o u B=>q2 i w o (oh (br u)) u B,p2⟩,λ_=>q,t2⟩
end
section
def acN(a:an)(k:Nat)(f:bW):Prop:=(EF a k=none->f.bH=0)/\∀p,EF a k=some p->0<=f.bH/\f.bH<p.bI.length/\bt p.bI f.bH=0
@[grind cases] structure Y0 (im:cZ) (s:St) (k:Nat) (f:bW):Prop where
 v:VO im f
 bH:acN s.bq k f
 tal:acX s.aR f
def Y0.ok{b:cZ}{s:St}{k:Nat}{f:bW}(h:Y0 b s k f):Ue b s.aR (EF s.bq k) f:=
 ⟨h.v.fQ,h.v.pc,h.v.lr,h.v.lo,h.v.lh,⟨λj w o c a=>⟨(h.v.eS j w o c a).1,(h.v.eS j w o c a).2,h.tal.bI j w o c a⟩⟩,h.bH.1,h.bH.2⟩
def Ns.w{b:cZ}{s:St}(h:Ns b s){k:Nat}{f:bW}(e:s.bq[k]? =some f):Y0 b s k f:=by
 have F:=h.bq k f e;refine⟨⟨F.fQ,F.pc,F.lr,F.lo,F.lh,λj w o c d=>⟨(F.aU.eS j w o c d).1,(F.aU.eS j w o c d).2.1⟩⟩,⟨F.first,F.xD⟩,λj w o c d=>(F.aU.eS j w o c d).2.2,λw c q=>?_⟩;let⟨i,n⟩:=(h.cC.dQ f (aZ e) w c).resolve_left q;let⟨g,m⟩:=gD n;refine⟨i,g,m,Int.not_le.1 λp=>?_⟩;have r:=h.cC.qV _ g m p;have t:=UP (aZ e) (b:=ix w);have u:=wJ (l:=f.cC) (f:=ix w) (by rw[lE i];exact c);omega
variable{m:bg}{d p cy e c:E}{b:cZ}{s:St}
def IN(aD:gY m d p b)(aH:iB b)(L:kd m cy e c s)(S:Rg s):fW dO 68 [.agg #[d.v,p.v],stV s cy e c] m (eu b s):=by
 apply Db;simp -zeta only[dR];intro m1 Q;have x2:D m Q:=((D.cU m).bZ _).bZ _;have s1:=pz m1;have s2:Q.size=m.size+2:=cB;have hl:∀F∈[m1.size,m.size],F<Q.size:=cB;have aB:=L.bq.aT;have aU:=L.aR.aT;have aV:=S.lh;have r:∀{M:bg},D Q M->¬Ns b s->∃w:Bool,vb false=.bool w/\(w=true<->eu b s)/\D m M:=by grind [Zp,D.J]
 have aT:(s.bq=[])<->((c.len:Int)=0):=by rw[aB];simp
 refine⟨λM=>D Q M/\(0<=s.eC/\s.eC<=3)/\(s.eC=0<->s.bq=[])/\ln s.iQ/\(s.iQ≠0->s.eC=0),?_,?_⟩
 .refine⟨λB=>r cY λh=>by have:=h.eC;simp at B;omega,λB=>⟨λx=>r cY λh=>by have:=h.eC;simp at x;omega,λx=>⟨λK=>r cY λh=>?_,λK=>?_⟩⟩⟩
  .grind [Ns.cr]
  have ab:0<=s.eC/\s.eC<=3:=cB;have aa:s.eC=0<->s.bq=[]:=cB;refine(uO _ _).bL cY hl λb3 m3 a A _=>⟨b3,O,λy=>r A λh=>nb a y h.iQ,λy=>⟨λj=>⟨λi=>r A λh=>?_,λi=>⟨A,ab,aa,yb a y,λ_=>by simpa using i⟩⟩,λj=>⟨A,ab,aa,yb a y,λi=>by simp at j;exact absurd j i⟩⟩⟩;have:=h.Co cB;simp at i;exact i this
 rintro m3 ⟨A,ab,aa,hv,aK⟩;refine⟨λB=>r A λh=>by have:=h.dL;simp at B;omega,λB=>⟨λx=>r A λh=>by have:=h.dL;simp at x;omega,λx=>⟨λK=>r A λh=>by have:=h.dg;simp at K;omega,λK=>⟨λy=>r A λh=>by have:=h.dg;simp at y;omega,λy=>?_⟩⟩⟩⟩;have aF:0<=s.dL/\s.dL<=40:=cB;have ay:0<=s.dg/\s.dg<=s.dL:=cB;rw[iz];refine⟨λj=>r A λh=>by have:=h.kV;simp at j;omega,λj=>?_⟩;have az:(s.bq.length:Int)<=s.dg+1:=cB;clear B x K y j;have X3:=x2.J A;refine(GG (L.ext X3).aR S.aR V).aP ?_;rintro _ m4 ⟨ct,b4,rfl,ah,aJ,ao⟩;have x4:=A.J ao;have z3:=A.aQ;refine⟨ao.eV λF Y=>A.lt (hl F Y),ct,b4,O,λB=>r x4 λh=>nb ah B h.aR,λB=>?_⟩;have aj:=yb ah B;obtain⟨U,rfl,aW,B4⟩:=aJ cB;have a0:=B4.lt;refine(jV (L.ext (x2.J x4)).cy 124 #[] #[] cD (λan=>¬ln an) (λan _ m' hx=>?_)).bL x4 hl ?_
 .apply Ak;refine(uO _ _).cg λF H Y x5=>⟨F,O,kY ?_ x5⟩;rw[<-Y];simp
 intro b5 H ax ap x5;have z5:=x5.aQ;have a1:=ap.aQ;refine⟨b5,O,λx=>r x5 λh=>?_,λx=>?_⟩
 .grind [Ns.cy]
 have aI:∀T∈s.cy,ln T:=λT Z=>iC λz=>by have:=ax.2 ⟨T,Z,z⟩;rw[x]at this;cases this
 have en:Int.toNat (e.len:Int)=s.aR.length:=V;rw[en];refine⟨V,V,V,V,?_⟩;intro m6;obtain⟨aq,s6⟩:=pu m6;have H6:dF m6 H.size bB ((CF s.aR.length (λ_=>0)).map Ce.i):=aag H;have x6:=x5.J aq;have X6:=x2.J x6;have T6:SL m6 U H.size s.aR.length (jA s.aR) (λ_=>0):=⟨B4.ext (ap.J aq),H6,V⟩;have aG:m.size<=U:=by have:=X3.aQ;omega
 have ae:∀T:Nat,Int.toNat (T:Int)=T:=cB;have aR:s.bq.length<=41:=V;have rb:∀a,0<=jA s.aR a/\jA s.aR a<=3*s.aR.length:=λa=>⟨yW _ _,O6 _ _ λo z=>(aj.jI o z).fl⟩;refine gP (n:=s.bq.length) V (λf M=>DU U H.size m6 M/\SL M U H.size s.aR.length (λa=>jA s.aR a+j8 (s.bq.take f) a) (λa=>eU (s.bq.take f) a)/\∀(q:Nat)(l:bW),q<f->s.bq[q]? =some l->Y0 b s q l)
  ⟨DU.cU _ _ _,by simpa[j8,eU]using T6,λq l G=>absurd G (mI _)⟩ ?_
 rintro f m7 aQ μ h ⟨t7,I,ak⟩ aL
 have x7:D Q m7:=by grind [DU.FV]
 have J:=x2.J x7;have aY:=I.bI.lt;have aX:=I.cC.lt;rw[ae];refine dit (λK=>?_) λK=>?_
 .let⟨l,v⟩:=dV s.bq f;have ai:=aZ v;let⟨aN,aM,W,hr,ho,he,g0,g1,g2,g3,g4,g5⟩:=L.bq.bt v;refine⟨V,V,_,J.aS g0,_,J.aS g1,_,J.aS g2,aN,J.aS g3,aM,J.aS g4,W,J.aS g5,?_⟩;intro m8 m9;have P:D m7 m9:=by grind [D.cU,D.bZ,D.aV]
  have s9:m9.size=m7.size+1:=by grind [bD]
  have X9:=J.J P;have l9:∀F∈[m7.size,m1.size,m.size],F<m9.size:=cB;refine(IG (aD.ext X9) (hr.ext X9) (ho.ext X9) (he.ext X9)).bL cY l9 λau u af C _=>⟨au,O,λy=>r ((x7.J P).J C) λh=>nb af y (h.w v).v,λy=>?_⟩;have X:=yb af y;have N:=(x7.J P).J C;have ad:=x2.J N;refine⟨λM=>u=M/\acN s.bq f l,?_,?_⟩
  .have al:(eJ ((f:Int) -1)=((f -1:Nat):Int))\/f=0:=by
    rcases FY f with j|j
    .exact bR j
    .grind [de]
   have kO:0<f->((decide (l.bH<(0:Int)))=true->∃w:Bool,vb false=.bool w/\(w=true<->eu b s)/\D m u)/\((decide (l.bH<(0:Int)))=false->
    (0:Int)<=(eJ ((f:Int) -(1:Int)))/\(eJ ((f:Int) -(1:Int)))<(c.len:Int)/\
    ∃R:E,aS u c.bz (c.off+Int.toNat (eJ ((f:Int) -(1:Int)))*6+4)=some R.v/\
    ((decide (l.bH>=(R.len:Int)))=true->∃w:Bool,vb false=.bool w/\(w=true<->eu b s)/\D m u)/\
    ((decide (l.bH>=(R.len:Int)))=false->(0:Int)<=(eJ ((f:Int) -(1:Int)))/\(eJ ((f:Int) -(1:Int)))<(c.len:Int)/\
    ∃t:E,aS u c.bz (c.off+Int.toNat (eJ ((f:Int) -(1:Int)))*6+4)=some t.v/\
    (0:Int)<=l.bH/\l.bH<(t.len:Int)/\∃ac:Int,aS u t.bz (t.off+l.bH.toNat*1)=some (vi ac)/\
    ((ac !=(0:Int))=true->∃w:Bool,vb false=.bool w/\(w=true<->eu b s)/\D m u)/\((ac !=(0:Int))=false->u=u/\acN s.bq f l))):=λaC=>by
    have e1:=al.resolve_right V
    rw[e1,ae]
    obtain⟨q,rfl⟩:∃q,f=q+1:=⟨f -1,V⟩
    have ej:q+1 -1=q:=V
    rw[ej]
    let⟨R,ag⟩:=dV s.bq q
    let⟨pr,po,pe,aE,ar,aw,y0,y1,y2,y3,y4,y5⟩:=L.bq.bt ag
    have aA:=ar.aT
    have ac:EF s.bq (q+1)=some R:=ag
    refine⟨λj=>r N λh=>?_,λj=>⟨V,V,po,ad.aS y4,λi=>r N λh=>?_,λi=>⟨V,V,po,ad.aS y4,sp j,by simp at i;omega,bt R.bI l.bH,?_,λt=>r N λh=>?_,λt=>⟨O,⟨λZ=>cB,λav hq=>?_⟩⟩⟩⟩⟩
    .have:=((h.w v).bH.2 R ac).1;simp at j;omega
    .have:=((h.w v).bH.2 R ac).2.1;simp at i;omega
    .grind [ba.ext,fX.tC]
    .have:=((h.w v).bH.2 R ac).2.2;simp at t;exact t this
    .grind
   refine⟨λj=>⟨λi=>r N λam=>?_,λi=>⟨λt=>by simp at j t;omega,λt=>⟨O,⟨λ_=>by simpa using i,λav hq=>?_⟩⟩⟩⟩,λj=>⟨λi=>kO cB,λi=>by simp at j i;omega⟩⟩
   .simp at j;subst j;have:=(am.w v).bH.1 O;simp at i;exact i this
   .simp at j;subst j;simp[EF]at hq
  .rintro _ ⟨rfl,hD⟩;have aE:=S.lr l ai;have v1:=X.lr;have v2:=X.lo;have v3:=X.lh;have ar:SL u U H.size s.aR.length (λa=>jA s.aR a+j8 (s.bq.take f) a) (λa=>eU (s.bq.take f) a):=⟨I.bI.ext (P.J C),I.cC.ext (P.J C),I.ne⟩;have aC:∀a,0<=jA s.aR a+j8 (s.bq.take f) a/\jA s.aR a+j8 (s.bq.take f) a<=1000000000000000:=λa=>by
    have q1:=rb a;have q2:=XN (a:=s.bq.take f) (n:=10000000) (k:=999999) V (λR t=>⟨(S.lr R (gW t)).2.1,by
     let⟨q,G⟩:=cH.1 t;have ac:q<f:=by have:=br G;simp at this;omega
     rw[nm ac]at G;exact(ak q R ac G).v.bI⟩) a
    have q3:(s.bq.take f).length<=41:=cB;omega
   have aA:∀a,0<=eU (s.bq.take f) a/\eU (s.bq.take f) a<=1000000000:=λa=>by
    have q2:=UQ (a:=s.bq.take f) (n:=10000000) (λR t=>(S.lr R (gW t)).2.2) a;have q3:(s.bq.take f).length<=41:=cB;have q4:=zY (s.bq.take f) a;omega
   refine(Rx (d:=m) ad L.aR hr ho he aG V ar (S.bq l ai) V ⟨V,V,aE.2.1⟩ X.bI aC aA).aP ?_;rintro _ al ⟨av,rfl,ag,aw,am⟩;have aO:DU U H.size m6 al:=(t7.ext (P.J C)).J am;have aP:D Q al:=by grind [DU.FV]
   refine⟨λF Y=>am.bG F (C.lt (l9 F Y)) cB cB,av,O,λj=>r aP λh=>nb ag j (h.w v).tal,λj=>aL V _ ⟨aO,?_,λq R G t=>?_⟩⟩
   .have ac:=aw cB;refine⟨?_,?_,ac.ne⟩
    .rw[mF (g:=λa=>jA s.aR a+j8 (s.bq.take f) a+fB l.aU l.bI a)]
     .exact ac.bI
     grind [YF]
    .rw[mF (g:=λa=>eU (s.bq.take f) a+iW l.cC a)]
     .exact ac.cC
     grind [Wt]
   .rcases dJ q f with i|i
    .exact ak q R i t
    .have:q=f:=V;subst this;rw[v]at t;simp at t;subst t;exact⟨X,hD,yb ag j⟩
 rw[eQ V]at I;have hW:∀(q:Nat)(l:bW),s.bq[q]? =some l->Y0 b s q l:=by grind [br]
 refine gP (n:=s.aR.length) V (λf M=>D m7 M/\∀(a:Nat)(o:dq),a<f->s.aR[a]? =some o->(0<o.bT->o.bT=jA s.aR a+j8 s.bq a)/\(o.bT<0->eU s.bq a=1)) ⟨cY,λa o ha=>absurd ha (mI _)⟩ ?_;rintro t m8 I2 μ2 al ⟨R,af⟩ ai;have X:=J.J R;rw[ae];refine dit (λy=>?_) λy=>?_
 .have ad:t<s.aR.length:=V;let⟨o,ac⟩:=gD ad;obtain⟨l,_,g0,g1,g2⟩:=L.aR.bt ac;refine⟨λM=>D m8 M/\(0<o.bT->o.bT=jA s.aR t+j8 s.bq t)/\(o.bT<0->eU s.bq t=1),?_,?_⟩
  .refine⟨V,V,_,X.aS g0,_,X.aS g1,l,X.aS g2,?_⟩;intro m9 u;have C:D m8 u:=by grind [D.cU,D.bZ,D.aV]
   have N:=(x7.J R).J C;have go:=JP (I.bI.ext (R.J C)) ad;have gh:=JP (I.cC.ext (R.J C)) ad;simp -zeta only[E.kv,E.lT,E.vP,eW,nu];have cC:(0<o.bT->o.bT=jA s.aR t+j8 s.bq t)->((decide (o.bT<(0:Int)))=true->(0:Int)<=t/\(t:Int)<(s.aR.length:Int)/\∃ag:Int,aS u H.size t=some (vi ag)/\
    ((ag !=(1:Int))=true->∃w:Bool,vb false=.bool w/\(w=true<->eu b s)/\D m u)/\((ag !=(1:Int))=false->D m8 u/\(0<o.bT->o.bT=jA s.aR t+j8 s.bq t)/\(o.bT<0->eU s.bq t=1)))/\
    ((decide (o.bT<(0:Int)))=false->D m8 u/\(0<o.bT->o.bT=jA s.aR t+j8 s.bq t)/\(o.bT<0->eU s.bq t=1)):=λz=>
    ⟨λj=>⟨V,V,_,gh,λi=>r N λh=>by have:=h.cC.eO t o ac cB;simp at i;exact i this,λi=>⟨C,z,λ_=>by simpa using i⟩⟩,λj=>⟨C,z,λi=>by simp at j;omega⟩⟩
   refine⟨λj=>⟨V,V,_,go,λi=>r N λh=>?_,λi=>cC λ_=>by simpa using i⟩,λj=>cC λi=>by simp at j;omega⟩;have:=h.ZF t o ac cB;grind
  .rintro m9 ⟨P,u,C⟩;refine ai V _ ⟨R.J P,λa W ha he=>?_⟩;rcases dJ a t with i|i
   .exact af a W i he
   grind
 .refine oD (W0 ⟨aH,ab,aa,hv,aK,aF,ay,az,aI,aj,λq l v=>(hW q l v).ok,⟨λl v i u=>?_,λN o z Z=>(af N o (oh (br z)) z).2 Z,λN o z Z=>?_⟩,λa o z e=>(af a o (oh (br z)) z).1 e⟩) X
  .let⟨q,G⟩:=Mf v;by_cases C:i=0
   .exact bC C
   .obtain⟨B,o,x,_⟩:=(hW q l G).tal.cC i u C;grind [br]
  .refine PX λl v i u W=>?_;let⟨q,G⟩:=Mf v;let⟨B,C,x,K⟩:=(hW q l G).tal.cC i u V;rw[W,sL,z]at x;simp at x;subst x;omega
def IA(j:gY m d p b)(r:kd m cy e c s)(q:Rg s):fW dO 39 [.agg #[d.v,p.v],stV s cy e c] m (eu b s):=by
 apply CR;simp -zeta only[dR];intro l h;have a:D m h:=((D.cU m).bZ _).bZ _;have w:=pz l;have x:h.size=m.size+2:=cB;have k:∀n∈[l.size,m.size],n<h.size:=cB;refine(pt (j.ext a)).bL cY k λb3 u i f _=>⟨b3,O,λg=>?_,λg=>fy (λo=>fb i g o.iG) (a.J f)⟩;refine(IN (j.ext (a.J f)) (i.1 g) (r.ext (a.J f)) q).bL f k λb4 v o y t=>⟨b4,O,kY o (a.J t)⟩
end
end Go.Proofs.YtbbbdejieenniaaGreat
section
namespace Go.Vc
def jG.nE{m:bg}{b o:Nat}{l r:ae}(h:jG m b o l)(k:jG m b (o+l.length) r):jG m b o (l++r):=λi d a=>by
 rcases dJ i l.length with c|c
 .rw[dZ c]at a;exact h i d a
 .rw[dP c]at a;have:=k _ d a;grind [List.length]
def fX.Z8{α:Type}{m:bg}{b:Nat}{R:ae->α->Prop}{s:E}{l:List α}(h:fX m b R s l)(j:∀c x,R c x->c.length=b):∃a,iy b R a l/\jG m s.bz s.off a.flatten:=by
 have:∀k,k<=l.length->∃a,iy b R a (l.take k)/\jG m s.bz s.off a.flatten:=by
  intro k;induction k with
  |zero=>intro _;exact⟨[],by simpa using iy.gN b R,λi e d=>by simp at d⟩
  |succ k o=>
   intro p;let⟨a,d,e⟩:=o V;let⟨x,g⟩:=dV l k;let⟨c,f,i⟩:=h.kZ k x g;refine⟨a++[c],by rw[bX g];exact d.Dh (j c x f) f,?_⟩;rw[uI];refine e.nE ?_;have n:a.flatten.length=k*b:=by rw[dS d.aQ,d.aT,qW,mH V]
   rw[n];simpa using i
 let⟨a,d,e⟩:=this l.length bY;grind [List.take_length]
end Go.Vc
namespace Go.Proofs.YtbbbdejieenniaaGreat
open Go.Vc
variable{m:bg}{s:E}{d:ag}
def jy.KL{a:bg}{l:ae}{f j:Nat}(e:jy m a f j s l)(i:D m a)(g:∀b,m.size<=b->d b=0)(k:Nat):∃c,dI (λ_=>False) d m c a/\iE c a f j k s l/\∀b,c b=d b\/c b=k:=by
 rcases e.bt with h|⟨b,n,tail,h,h2,h3,h4,h5⟩
 .exact⟨d,dI.fC i g,iE.ju e λo=>absurd h o,λb=>bC O⟩
 .refine⟨oH d b k,dI.oH i g h2 h3.lt k,iE.ju e λ_=>by rw[h];exact gU,λn=>?_⟩;grind [gU,fL]
@[grind cases] structure ae5 (N:Nat) (ro:ag) (m:bg) (r:E) (h:ah) (css0 css:List ae) (k:Nat):Prop where
 qB:iE ro m wT 3 3 r css.flatten
 aT:css.length=h.length
 aQ:∀cs∈css,cs.length=3
 cr:∀(j:Nat)(cs:ae)(c:dq),j<k->css[j]? =some cs->h[j]? =some c->Cp N ro m cs c
 kO:∀j,k<=j->css[j]? =css0[j]?
 sep:∀(i j:Nat)(ci cj:ae)(a b:E),i<k->j<k->css[i]? =some ci->css[j]? =some cj->ci[2]? =some (.s a)->cj[2]? =some (.s b)->i≠j->a.len≠0->b.len≠0->a.bz≠b.bz
def EM{a:List ae}{n:Nat}(e:s.len=n)(c:a.length=n)(f:∀b∈a,b.length=3)(d:jG m s.bz s.off a.flatten)(g:n<=1000000000):
 bK dO 127 [s.v] m λv b=>∃r,v=r.v/\jy m b wT 3 r a.flatten/\D m b:=by
 apply qP
 exact V7 (b:=[.i 0,.i 0,.s .nil]) e c f d V
def Kl{N:Nat}{hp:E}{r:ah}(hn:∀b,m.size<=b->d b=0)(h3:∀b,b<m.size->d b≠3)(Z:gA m hp r)(hN:N<=m.size)(au:∀c∈r,c.bJ.length<=3)(aw:r.length<=1000000000):
 bK dO 69 [hp.v] m λaz m'=>∃T s,az=s.v/\gC N T m' s r/\dI (λk=>k=3) d m T m'/\D m m':=by
 apply Em
 simp -zeta only[dR]
 have hl:=Z.aT
 let⟨Y,u,mu⟩:=Z.Z8 (λz an⟨ad,e,_⟩=>by rw[e];rfl)
 refine(EM hl u.aT u.aQ mu aw).aP ?_
 rintro _ m1 ⟨y,rfl,or,x1⟩
 obtain⟨g,C1,U,_⟩:=jy.KL or x1 hn 3
 have aE:y.len=r.length:=by have:=U.aT;rw[dS u.aQ,u.aT]at this;omega
 refine⟨y,O,?_⟩
 have ay:∀{T:ag}{M:bg},dI (λk=>k=3) d m T M->D m M:=λc=>⟨c.aQ,λb i=>c.fR b i (h3 b i)⟩
 refine gP (n:=r.length) V (λk M=>∃h,ae5 N g M y r Y h k/\dI (λk=>k=3) d m g M) ⟨Y,⟨U,u.aT,u.aQ,λj _ _ l=>absurd l (mI _),λ_ _=>O,λB _ _ _ _ _ F=>absurd F (mI _)⟩,C1.aP λ_=>False.elim⟩ ?_
 rintro k m2 aA μ hk ⟨h,a,v⟩ ax
 have X2:=ay v
 have en:Int.toNat (k:Int)=k:=V
 rw[en]
 refine dit (λP=>?_) λP=>?_
 .have ak:k<r.length:=V
  let⟨c,R⟩:=gD ak
  let⟨ad,hf,g0,g1,g2⟩:=(gA.ext X2 Z).bt R
  have aD:=au c (aZ R)
  refine⟨V,V,c.bT,g0,c.js,g1,ad,g2,?_⟩
  intro m3 m4
  obtain⟨x4,s4⟩:=pv m4
  refine(gT (hf.ext x4) V).aP ?_
  rintro _ G ⟨q,rfl,oq,x5⟩
  have I:dI (λ_=>False) g m2 g G:=dI.fC (x4.J x5) v.bF
  have W:=a.qB.fO I id
  have aB:=a.aT
  have ai:k*3+2+1<=h.flatten.length:=by rw[dS a.aQ];have:(k+1)*3<=h.length*3:=fE _ V;omega
  let⟨z,S⟩:=dV h k
  let⟨ac,af⟩:=dV Y k (by rw[u.aT];exact ak)
  have ao:z=ac:=by have:=a.kO k bY;rw[S,af]at this;simpa using this
  let⟨f0,ap,aC⟩:=u.eS k ac c af R
  rw[ao,ap]at S
  have ar:y.cap≠0:=λe=>by have:=U.le;omega
  have rb:=W.bz ar
  have c6:∀am,dI (λk=>k=3) g G g (aV G y.bz (y.off+(k*3+2)) am):=λam=>dI.aV I.bF rb.2 _ _
  have aq:g m2.size=0:=v.bF _ bY
  refine⟨x5.eV eX,q,O,V,V,?_⟩
  rw[iv]
  refine⟨W.wr ai,?_⟩
  intro m6
  have H:=c6 [.s q]
  have aa:c.bJ≠[]->g q.bz=0/\m4.size<=q.bz:=λx=>by
   have:=(FB.ju oq x).1;exact⟨v.bF _ V,this⟩
  have iq:ba G q c.bJ:=ba.ju oq V
  have L6:Cp N g m6 [.i c.bT,.i c.js,.s q] c:=Cp.fO H cD _ _ ⟨q,O,iq,λx=>⟨(aa x).1,VI ((aa x).2) v.aQ,(FB.ju oq x).2⟩⟩
  have ab:(h.set k [.i c.bT,.i c.js,.s q])[k]? =some [.i c.bT,.i c.js,.s q]:=fu (br S)
  refine⟨(H.aP λk hk=>by omega:To g G g m6).eV (by simp;exact⟨by have:=x5.aQ;omega,aq⟩),ax V _ ⟨h.set k [.i c.bT,.i c.js,.s q],⟨?_,sp a.aT,λX w=>?_,λj X L l w hd=>?_,λj l=>?_,?_⟩,(v.J (I.aP λ_=>False.elim)).J H⟩⟩
  .have:=W.dY (o:=k*3+2) (new:=[.s q]) ai
   rw[Ar h k _ 2 [.s q] a.aQ S bO]at this
   exact this
  .rcases jc w with f|f
   .exact a.aQ X f
   .rw[f];rfl
  .rcases dJ j k with f|f
   .rw[dU V]at w
    exact Cp.fO H cD _ _ (Cp.fO I id _ _ (a.cr j X L f w hd))
   .have:j=k:=V
    subst this
    rw[ab]at w
    simp at w;subst w
    rw[R]at hd;simp at hd;subst hd;exact L6
  .rw[dU V];exact a.kO j V
  .have al:∀(j:Nat)(p:ae)(b:E),j<k->h[j]? =some p->p[2]? =some (.s b)->q.len≠0->b.len≠0->q.bz≠b.bz:=λj p b l t i f C=>by
    let⟨L,hd⟩:=dV r j;obtain⟨b',e,ib,_⟩:=a.cr j p L l t hd;rw[e]at i;simp at i;subst i;have x:L.bJ≠[]:=λe=>by have:=ib.aT;rw[e]at this;simp at this;exact C this
    have av:c.bJ≠[]:=λe=>by have:=iq.aT;rw[e]at this;simp at this;exact f this
    have:=ly ib x;have:=(aa av).2;omega
   intro B j K p J b F l A t Q i aj f C
   by_cases ik:B=k
   .subst ik
    rw[ab]at A
    rw[dU aj]at t
    simp at A;subst A;simp at Q;subst Q
    exact al j p b V t i f C
   .rw[dU (λe=>ik e.symm)]at A
    by_cases jk:j=k
    .subst jk
     rw[ab]at t
     simp at t;subst t;simp at i;subst i
     exact th (al B K J V A Q C f)
    .rw[dU (λe=>jk e.symm)]at t
     exact a.sep B j K p J b V V A t Q i aj f C
 .have e:∀{j:Nat}{z:ae},h[j]? =some z->j<k:=λl=>by have:=br l;have:=a.aT;omega
  exact⟨g,y,O,⟨h,a.qB,⟨a.aT,a.aQ,λj z an P f=>a.cr j z an (e P) P f⟩,λB j K p J b F l=>a.sep B j K p J b (e F) (e l) F l⟩,v,X2⟩
end Go.Proofs.YtbbbdejieenniaaGreat
end
namespace Go.Proofs.YtbbbdejieenniaaGreat
open Go.Vc
section
variable{a e:ag}{m h g:bg}{p:Nat->Prop}{s:St}{d:List ae}
@[grind cases] structure Bs (m0:bg) (ro:ag) (m:bg):Prop where
 cW:D m0 m
 mq:∀b,b<m0.size->ro b=0
 bF:∀b,m.size<=b->ro b=0
@[grind cases] structure qZ (m0:bg) (ro:ag) (m:bg) (cy hp fr:E) (s:St):Prop where
 bs:Bs m0 ro m
 cy:iE ro m bB 1 2 cy (s.cy.map Ce.i)
 aR:gC m0.size ro m hp s.aR
 bq:rR ro m fr s.bq
@[grind cases] structure Iq (s:St):Prop where
 cy:s.cy.length<=900000000
 fl:∀c∈s.aR,c.bJ.length<=3
 aR:s.aR.length<=900000000
 kV:s.bq.length<=1000
 bq:∀f∈s.bq,f.aU.length<=1000000/\f.bI.length<=1000000/\f.cC.length<=1000000
def adC(g:bg)(a:ag)(m:bg)(s:St)(v:Value)(h:bg):Prop:=∃e cy c b,v=stV s cy c b/\qZ g e h cy c b s/\dI (λ_=>False) a m e h
abbrev Ch2:=dI (λk=>2<=k)
def Ch2.Qj(c:Ch2 a m e h)(d:∀b,b<m.size->a b<=1):dI (λ_=>False) a m e h:=by constructor<;>grind [dI.aQ,dI.jv,dI.bF,dI.fR]
theorem dI.FV(b:dI (λ_=>False) a m e h):D m h:=⟨b.aQ,λc d=>b.fR c d id⟩
def Bs.fO(B:Bs g a m)(b:dI (λ_=>False) a m e h):Bs g e h:=by constructor<;>grind [Bs.cW,D.J,dI.FV,dI.jv,D.lt,Bs.mq,dI.bF]
theorem dI.Df(f:dI p a m e h){l:ad}(d:∀b∈l,b<m.size/\¬p (a b)):gS l m h:=λb c=>f.fR b (d b c).1 (d b c).2
@[grind cases] structure Cpy (m0:bg) (ro:ag) (m:bg) (ro':ag) (M:bg) (q r:E) (s:St):Prop where
 fO:Ch2 ro m ro' M
 cy:iE ro' M bB 1 2 q (s.cy.map Ce.i)
 aR:gC m0.size ro' M r s.aR
theorem Cpy.qy{d e:ag}{b c:bg}{q r:E}(h:Cpy g a m d b q r s)(f:dI p d b e c)(i:∀k,p k->4<=k):Cpy g a m e c q r s:=
 by constructor<;>grind [Cpy.fO,dI.J,dI.aP,Cpy.cy,iE.fO,Cpy.aR,gC.fO]
def Dg{s:E}{n:Nat}(c:s.len=n)(b:d.length=n)(e:∀a∈d,a.length=6)(a:jG m s.bz s.off d.flatten)(f:n<=1000000000):
 bK dO 70 [s.v] m λv h=>∃r,v=r.v/\jy m h iu 6 r d.flatten/\D m h:=by
 apply pY
 exact V7 (b:=[.i 0,.i 0,.i 0,.s .nil,.s .nil,.s .nil]) c b e a V
@[grind cases] structure ae4 (ro:ag) (m:bg) (r:E) (fs:an) (css0 css:List ae) (k:Nat):Prop where
 qB:iE ro m iu 6 4 r css.flatten
 aT:css.length=fs.length
 aQ:∀cs∈css,cs.length=6
 cr:∀(j:Nat)(cs:ae)(f:bW),j<k->css[j]? =some cs->fs[j]? =some f->Yf ro m j cs f
 kO:∀j,k<=j->css[j]? =css0[j]?
def WQ{k o:Nat}{a:ae}{x:Ce}(e:∀a∈d,a.length=6)(b:d[k]? =some a)(g:o<6):kJ d.flatten (k*6+o) [x]=(d.set k (a.set o x)).flatten/\(∀c∈d.set k (a.set o x),c.length=6)/\(d.set k (a.set o x))[k]? =some (a.set o x):=by
 refine⟨Ar d k a o [x] e b cB,λc f=>?_,fu (br b)⟩;grind [List.mem_or_eq_of_mem_set,List.length_set,aZ]
def IF{cy hp y:E}(ai:Bs g a m)(av:∀c,a c<=1)(S:kd m cy hp y s)(ad:Iq s):bK dO 40 [stV s cy hp y] m (adC g a m s):=by
 apply CT;simp -zeta only[dR];intro h F;have s1:=pz h;have s2:F.size=m.size+2:=by simp[F,s1]
 have x2:D m F:=((D.cU m).bZ _).bZ _;obtain⟨G,ak⟩:∃G,G=oH (oH a m.size 8) h.size 8:=⟨_,O⟩;have C2:dI (λ_=>False) a m G F:=by
  rw[ak];exact(dI.oH (m':=h) (k:=8) ((D.cU m).bZ _) ai.bF bY V).J (dI.oH (m':=F) (k:=8) ((D.cU h).bZ _) (λc hb=>by rw[fL V];exact ai.bF c V) bY V)
 have r0:G m.size=8/\G h.size=8:=(ak▸⟨by rw[fL V,gU],gU⟩);have aU:∀c,G c=8\/G c<=1:=λc=>by
  rw[ak];unfold oH;split
  .exact bC O
  .split
   .exact bC O
   .exact bR (av c)
 have aQ:dF F h.size mg [.i 0,.i 0,.i 0,.i 0,.s .nil,.s .nil,.s .nil]:=dF.push h _ _;clear_value F;clear ak;have hN:=ai.cW.aQ;have bf:=ad.cy;have be:=ad.aR;have bb:=ad.kV;refine(gT (S.cy.ext x2) V).aP ?_;rintro _ m3 ⟨am,rfl,oq,H⟩;let⟨a5,C3,A3,aW⟩:=jy.KL oq H C2.bF 2;have z3:=H.aQ;have kp:∀{M Y:bg},D M Y->m.size<M.size->∀i,aS Y m.size i=aS M m.size i:=λhx ac i=>bE (hx.bG _ ac) i;have X3:=x2.J H;refine⟨H.eV eX,am,O,kp H V _,kp H V _,(Kl (N:=g.size) C3.bF (λc _=>VI (aW c) (aU c)) (S.ext X3).aR V ad.fl V).aP ?_⟩;rintro _ m4 ⟨a6,an,rfl,H4,W,x4⟩;have z4:=x4.aQ;have X4:=X3.J x4;have K4:Cpy g a m a6 m4 am an s:=⟨((C2.J C3).aP λ_=>False.elim:Ch2 a m a5 m3).J (W.aP λb Q=>V),A3.fO W cD,H4⟩;have aP:=S.bq.aT;let⟨au,p,mu⟩:=(S.ext X4).bq.Z8 (λP ah⟨_,_,_,r,_⟩=>by rw[r];rfl);refine⟨x4.eV eX,an,O,kp x4 V _,(Dg aP p.aT p.aQ mu V).aP ?_⟩;rintro _ m5 ⟨fc,rfl,of,x5⟩;let⟨z,J,A5,bi⟩:=jy.KL of x5 W.bF 4;have z5:=x5.aQ;have K5:=K4.qy J λ_=>False.elim;refine⟨x5.eV eX,fc,O,?_⟩;intro m6 m7 m8;have r5:z m.size=8/\z h.size=8:=⟨by rw[J.jv _ V,W.jv _ V,C3.jv _ V];exact r0.1,by rw[J.jv _ V,W.jv _ V,C3.jv _ V];exact r0.2⟩;have C8:dI (λb=>b=8) z m5 z m8:=((dI.aV J.bF (show(λb=>b=8) (z m.size)from r5.1) _ _).J (dI.aV (by rw[bD];exact J.bF) (show(λb=>b=8) (z m.size)from r5.1) _ _)).J (dI.aV (by rw[bD,bD];exact J.bF) (show(λb=>b=8) (z m.size)from r5.1) _ _);have K8:=K5.qy C8 λb Q=>V;have A8:=A5.fO C8 cD;have aR:dF m8 h.size mg [.i 0,.i 0,.i 0,.i 0,.s .nil,.s .nil,.s .nil]:=((aQ.ext (H.J (x4.J x5))).congr (by
  show(aV (aV (aV m5 m.size 4 _) m.size 5 _) m.size 6 _)[h.size]? =_;rw[cq _ _ _ _ V,cq _ _ _ _ V,cq _ _ _ _ V]))
 have s8:m8.size=m5.size:=by simp[m8,m7,m6,bD]
 have bd:fc.len=s.bq.length:=by have:=A8.aT;rw[dS p.aQ,p.aT]at this;omega
 refine gP (n:=s.bq.length) V (λb M=>∃e d,Cpy g a m e M am an s/\ae4 e M fc s.bq au d b/\m5.size<=M.size/\e m.size=8/\e h.size=8/\dF M h.size mg [.i 0,.i 0,.i 0,.i 0,.s .nil,.s .nil,.s .nil])
  ⟨z,au,K8,⟨A8,p.aT,p.aQ,λv _ _ hj=>absurd hj (mI _),λ_ _=>O⟩,V,r5.1,r5.2,aR⟩ ?_
 rintro b t a7 μ Q ⟨A,d,X,f,z9,r9,aD,aT⟩ a0
 have en:Int.toNat (b:Int)=b:=V;rw[en];have aJ:∀{e:ag}{M:bg},Ch2 a m e M->D m M:=λaH=>(aH.Qj λc _=>av c).FV;refine dit (λh1=>?_) λh1=>?_
 .have aB:b<s.bq.length:=V;let⟨j,hf⟩:=gD aB;have bc:=ad.bq j (aZ hf);let⟨aI,ab⟩:=dV au b ((p.aT▸aB));let⟨ra,oa,Z,e0,ir,io,ih⟩:=p.eS b aI j ab hf;have aA:d[b]? =some [.i j.fQ,.i j.pc,.i j.bH,.s ra,.s oa,.s Z]:=by rw[f.kO b bY,ab,e0]
  have R:∀(i:Nat)(ah:Ce),[Ce.i j.fQ,.i j.pc,.i j.bH,.s ra,.s oa,.s Z][i]? =some ah->aS t fc.bz (fc.off+b*6+i)=some ah.v:=λi ah hx=>by
   have:=f.qB.kZ (b*6+i) ah (jt f.aQ aA hx);rwa[<-iv]at this
  obtain⟨r',o',h',jr,jo,jh,_,_,_,y3,y4,y5⟩:=S.bq.bt hf;have X9:=aJ X.fO;have er:r'=ra/\o'=oa/\h'=Z:=by
   obtain⟨a9,⟨a8,b1,c1,e1,_⟩,bh⟩:=S.bq.kZ b j hf;have g3:aS m4 y.bz (y.off+b*6+3)=some ra.v:=by
    have:=mu (b*6+3) (.s ra) (jt p.aQ ab (by rw[e0];rfl));rwa[<-iv]at this
   have g4:aS m4 y.bz (y.off+b*6+4)=some oa.v:=by
    have:=mu (b*6+4) (.s oa) (jt p.aQ ab (by rw[e0];rfl));rwa[<-iv]at this
   have g5:aS m4 y.bz (y.off+b*6+5)=some Z.v:=by
    have:=mu (b*6+5) (.s Z) (jt p.aQ ab (by rw[e0];rfl));rwa[<-iv]at this
   rw[X4.aS y3]at g3;rw[X4.aS y4]at g4;rw[X4.aS y5]at g5;exact⟨E.LC.1 (sk g3),E.LC.1 (sk g4),E.LC.1 (sk g5)⟩
  obtain⟨rfl,rfl,rfl⟩:=er;refine⟨V,V,_,R 0 _ O,_,R 1 _ O,_,R 2 _ O,_,R 3 _ O,_,R 4 _ O,_,R 5 _ O,?_⟩;intro aC aw;obtain⟨ao,bo⟩:=pv aw;have az:dI (λ_=>False) A t (oH A t.size 8) aw:=dI.oH ao X.fO.bF bY V 8;refine(gT (jr.ext (X9.J ao)) V).aP ?_;rintro _ bj ⟨qr,rfl,a1,u⟩;obtain⟨bm,ar,aE,_⟩:=jy.KL a1 u az.bF (10+3*b);have bq:=u.aQ;have l:∀{M Y:bg}{c:Nat},D M Y->c<M.size->∀i,aS Y c i=aS M c i:=λhx ac i=>bE (hx.bG _ ac) i;have bl:∀{M:bg},aw.size<=M.size->∀c∈[t.size,m.size,h.size],c<M.size:=λa_ c hb=>by simp at hb;omega
  refine⟨u.eV (bl bY),qr,O,l u V _,l u V _,l u V _,l u V _,l u V _,(gT (jo.ext (X9.J (ao.J u))) V).aP ?_⟩;rintro _ bk ⟨qo,rfl,a2,B⟩;obtain⟨bn,aj,aF,_⟩:=jy.KL a2 B ar.bF (11+3*b);have bs:=B.aQ;refine⟨B.eV (bl V),qo,O,l B V _,l B V _,l B V _,l B V _,(gT (jh.ext (X9.J (ao.J (u.J B)))) V).aP ?_⟩;rintro _ ax ⟨qh,rfl,a3,U⟩;obtain⟨q,C,aG,_⟩:=jy.KL a3 U aj.bF (12+3*b);have bt:=U.aQ;have K:dI (λ_=>False) A t q ax:=((az.J ar).J aj).J C;have L:q t.size=8/\q m.size=8/\q h.size=8:=⟨by rw[C.jv _ V,aj.jv _ V,ar.jv _ V];exact gU,by rw[K.jv _ V];exact r9,by rw[K.jv _ V];exact aD⟩;have A9:=f.qB.fO K id;have aO:fc.cap≠0:=λr=>by have:=f.qB.le;omega
  have T:=A9.bz aO;have a4:fc.bz≠m.size/\fc.bz≠h.size/\fc.bz≠t.size:=⟨λr=>by have:=T.2;rw[r,L.2.1]at this;omega,λr=>by have:=T.2;rw[r,L.2.2]at this;omega,λr=>by have:=T.2;rw[r,L.1]at this;omega⟩;have ba:=f.aT;have JS:∀w,w<6->b*6+w+1<=d.flatten.length:=λw ho=>by rw[dS f.aQ];have:(b+1)*6<=d.length*6:=fE _ V;omega
  have sm:∀{M:bg}(w:Nat)(af:ae),gS [t.size,m.size,h.size] M (aV M fc.bz w af):=λw af c hb=>cq _ _ _ _ (by simp at hb;omega);have gg:∀{M:bg}(w:Nat)(af:ae)(i:Nat),aS (aV M fc.bz w af) m.size i=aS M m.size i:=λw af i=>bE (cq _ _ _ _ (λr=>a4.1 r.symm)) i;refine⟨U.eV (bl V),qh,O,l U V _,l U V _,l U V _,V,V,?_⟩;simp -zeta only[iv];refine⟨A9.wr (JS 3 cD),?_⟩;let⟨e1,f1,aL⟩:=WQ (x:=.s qr) (o:=3) f.aQ aA cD;have ap:=A9.dY (new:=[.s qr]) (JS 3 cD);rw[e1]at ap;intro aX;let⟨e2,f2,aM⟩:=WQ (x:=.s qo) (o:=4) f1 aL cD;have aq:=ap.dY (new:=[.s qo]) (by have:=JS 4 cD;rw[dS f.aQ]at this;rw[dS f1,pJ];exact this);rw[e2]at aq;refine⟨sm _ _,gg _ _ _,gg _ _ _,V,V,ap.wr (by have:=JS 4 cD;rw[dS f.aQ]at this;rw[dS f1,pJ];exact this),?_⟩;intro aY;let⟨e3,f3,aN⟩:=WQ (x:=.s qh) (o:=5) f2 aM cD;have ay:=aq.dY (new:=[.s qh]) (by have:=JS 5 cD;rw[dS f.aQ]at this;rw[dS f2,pJ,pJ];exact this);rw[e3]at ay;refine⟨sm _ _,gg _ _ _,V,V,aq.wr (by have:=JS 5 cD;rw[dS f.aQ]at this;rw[dS f2,pJ,pJ];exact this),?_⟩;intro al;have I:dI (λb=>b=4) q ax q al:=((dI.aV C.bF (show(λb=>b=4) (q fc.bz)from T.2) _ _).J (dI.aV (by rw[bD];exact C.bF) (show(λb=>b=4) (q fc.bz)from T.2) _ _)).J (dI.aV (by rw[bD,bD];exact C.bF) (show(λb=>b=4) (q fc.bz)from T.2) _ _);have bp:al.size=ax.size:=by simp[al,aY,aX,bD]
  have qe:Yf q al b [.i j.fQ,.i j.pc,.i j.bH,.s qr,.s qo,.s qh] j:=⟨qr,qo,qh,O,(((aE.fO aj id).fO C id).fO I V),(aF.fO C id).fO I V,aG.fO I V⟩;refine⟨sm _ _,a0 V _ ⟨q,_,(X.qy K λ_=>False.elim).qy I λb Q=>V,⟨ay,by simp;exact f.aT,f3,λv P aK hj aa hg=>?_,λv hj=>?_⟩,V,L.2.1,L.2.2,(aT.ext K.FV).congr (I.fR _ V (by rw[L.2.2];decide))⟩⟩
  .rcases dJ v b with h5|h5
   .rw[dU V,dU V,dU V]at aa;exact((f.cr v P aK h5 aa hg).fO K λ_ _ _=>id).fO I λb Q _=>V
   .have:v=b:=V;subst this;rw[aN]at aa;simp at aa;subst aa;rw[hf]at hg;simp at hg;subst hg;exact qe
  .rw[dU V,dU V,dU V];exact f.kO v V
 .intro aC;have q:dI (λb=>b=8) A t A aC:=dI.aV X.fO.bF (show(λb=>b=8) (A h.size)from aD) _ _;have l:=X.qy q λb Q=>V;have ac:∀{v:Nat}{P:ae},d[v]? =some P->v<b:=λhj=>by have:=br hj;have:=f.aT;omega
  have u:rR A t fc s.bq:=⟨d,f.qB,f.aT,f.aQ,λi P j h1 r=>f.cr i P j (ac h1) h1 r⟩;have j:=l.fO.Qj λc _=>av c;exact⟨A,am,an,fc,O,⟨ai.fO j,l.cy,l.aR,u.fO q λb Q=>V⟩,j⟩
end
section
variable{g:ag}{e:bg}
abbrev z7:ae:=[.i 0,.i 0,.i 0,.i 0,.s .nil,.s .nil,.s .nil]
@[grind cases] structure Uh (m0:bg) (ro:ag) (m m2:bg) (s:St) (ro':ag) (M:bg) (q r:Option E) (ob:Option Nat):Prop where
 fO:Ch2 ro m ro' M
 ext:D m2 M
 no3:r=none->∀b,ro' b≠3
 bV:∀b,m.size<=b->b<m2.size->ro' b=8
 cy:∀x,q=some x->iE ro' M bB 1 2 x (s.cy.map Ce.i)
 aR:∀x,r=some x->gC m0.size ro' M x s.aR
 ob:∀x,ob=some x->m2.size<=x/\ro' x=8/\dF M x mg z7
variable{h:bg}{i:ag}{m f:bg}{s:St}{d:ag}{M:bg}{q r:Option E}{j:Option Nat}
def Uh.nj(k:Uh h i m f s d M q r j)(n:dI (λa=>a=3) d M g e)(p:D M e)(C:∀b,m.size<=b->b<f.size->g b=8){u o:Option E}{t:Option Nat}(z:r=none\/dI (λ_=>False) d M g e)(B:o=none->∀b,g b≠3)
 (w:∀x,u=some x->q=some x\/iE g e bB 1 2 x (s.cy.map Ce.i))(y:∀x,o=some x->r=some x\/gC h.size g e x s.aR)(A:∀x,t=some x->j=some x\/(f.size<=x/\g x=8/\dF e x mg z7)):Uh h i m f s g e u o t:=
 ⟨k.fO.J (n.aP λa c=>V),k.ext.J p,B,C,λx c=>(w x c).elim (λa=>(k.cy x a).fO n cD) id,
  λx c=>(y x c).elim (λa=>z.elim (λl=>by rw[l]at a;cases a) λl=>(k.aR x a).fO l id id) id,
  λx c=>(A x c).elim (λa=>by
   let⟨v,b,l⟩:=k.ob x a;exact⟨v,by rw[n.jv _ l.lt];exact b,l.ext p⟩) id⟩
def Uh.ZR(a:Uh h i m f s d M q r j){p:Nat->Prop}(c:dI p d M g e):∀b,m.size<=b->b<f.size->g b=8:=by grind [dI.jv,Uh.ext,D.lt,Uh.bV]
def Uh.c(b:Uh h i m f s d M none r j){x:E}(n:jy M e bB 1 x (s.cy.map Ce.i))(k:D M e):∃g,Uh h i m f s g e (some x) r j:=by
 let⟨g,C,A,l⟩:=jy.KL n k b.fO.bF 2;exact⟨g,b.nj (C.aP λ_=>False.elim) k (b.ZR C) (bR C) (λa c=>VI (l c) (b.no3 a c)) (λy a=>bR cB) (λy a=>bC a) λy a=>bC a⟩
def Uh.a(b:Uh h i m f s d M q r j)(c:D M e):Uh h i m f s d e q r j:=
 have C:dI (λ_=>False) d M d e:=dI.fC c b.fO.bF
 b.nj (C.aP λ_=>False.elim) c (b.ZR C) (bR C) b.no3 (λy a=>bC a) (λy a=>bC a) λy a=>bC a
def Uh.b(b:Uh h i m f s d M q r none){e:bg}(a:e=M.push (.cells (db z7) mg)):∃g,Uh h i m f s g e q r (some M.size):=by
 have c:D M e:=by grind [D.push]
 have C:dI (λ_=>False) d M (oH d M.size 8) e:=dI.oH c b.fO.bF bY cB 8;refine⟨_,b.nj (C.aP λ_=>False.elim) c (b.ZR C) (bR C) (λl j=>?_) (λy a=>bC a) (λy a=>bC a) λy k=>bR ?_⟩
 .grind [Array.size,gU,fL]
 .grind [Uh.ext,D.aQ,gU,dF.push]
end
section
variable{n e:Nat}{m2 mx M f:bg}{l:ae}
def Q9:St:=⟨0,0,0,0,[],[],[]⟩
structure Run where
 s:St
 ok:Bool
open Classical in
noncomputable def QA (g:cZ) (s:St) (a:Int):Run:=if eu g s/\0<=a/\a<=100000 then⟨bA g a.toNat s,true⟩else⟨Q9,false⟩
def eu.pL{g:cZ}{s:St}(h:eu g s)(a:Sm n s)(b:n<=900000000):Iq s:=by
 constructor<;>grind [Sm.cy,eu.aR,jd.gZ,sC.fl,Sm.aR,eu.kV,eu.dg,eu.dL,eu.bq,iI.Ky,eu.iG,iI.lr,iI.lo,iI.lh,pd.aU]
def Rg.sm{s:St}(h:Rg s)(a:s.aR.length<=n)(b:s.cy.length<=n):Sm n s:=⟨a,b,λg c w d=>((h.bq g c).1 w d).2⟩
section
variable{k:bg}{o:ag}{m:bg}{cy b a:E}{s:St}
def qZ.Mp(h:qZ k o m cy b a s)(c:Iq s):kd m cy b a s:=
 ⟨h.cy.oN (oh c.cy),h.aR.jI (oh c.aR),h.bq.Mp (oh c.kV) c.bq⟩
def qZ.eI(h:qZ k o m cy b a s)(g:D m m2){c:Nat}{d:ae}(f:m.size<=c)(kb:dF m2 c e d):wU k (oH o c 1) m2 c e d cy b a s.cy s.aR s.bq:=by
 have C:dI (λ_=>False) o m (oH o c 1) m2:=dI.oH g h.bs.bF f kb.lt 1;have B:=h.bs.fO C;exact⟨B.cW,B.mq,B.bF,kb,gU,h.cy.fO C id,h.aR.fO C id id,h.bq.fO C λ_ _=>id⟩
def qZ.gN{k m:bg}(a:D k m):qZ k (λ_=>0) m .nil .nil .nil Q9:=
 ⟨⟨a,λ_ _=>O,λ_ _=>O⟩,⟨by simp[Q9],bO,bC O⟩,⟨[],⟨bO,bO,bC O⟩,by simpa[Q9]using iy.gN _ _,Sep.gN⟩,rR.Qj⟩
def wU.Mp{f e:Nat}{d:ae}(L:wU k o m f e d cy b a s.cy s.aR s.bq)(c:Iq s):kd m cy b a s:=
 qZ.Mp (o:=o) ⟨⟨L.cW,L.mq,L.bF⟩,L.cy,L.aR,L.bq⟩ c
end
def acV(m:bg)(x:Run)(v:Value)(c:bg):Prop:=∃d cy b a,v=.tuple #[stV x.s cy b a,vb x.ok]/\qZ m d c cy b a x.s
theorem iE.up{a:ag}{m c:bg}{d k:Nat}{s:E}(h:iE a m e d k s l)(i:k≠0)(f:∀b,b<mx.size->a b=0)(g:∀b,mx.size<=b->b<m.size->c[b]? =m[b]?):iE a c e d k s l:=
 by grind [iE.fR,Nat.le_of_not_lt,iE.bz]
theorem qZ.WH{m:bg}{r:ag}{cy b a:E}{s:St}(i:qZ mx r M cy b a s)(c:m.size<=mx.size)(z:M.size<=f.size)(g:∀d,mx.size<=d->d<M.size->f[d]? =M[d]?)(x:D m f):qZ m r f cy b a s:=by
 have h:=i.bs.mq;refine⟨⟨x,λd j=>h d V,λd j=>i.bs.bF d V⟩,i.cy.up cD h g,?_,?_⟩
 .let⟨k,t,a2,a3⟩:=i.aR;refine⟨k,t.up cD h g,a2.aP λn y⟨l,v,o,p⟩=>⟨l,v,ku o λj=>g _ (p j).2.1 (ly o j),λj=>?_⟩,a3⟩;let⟨g1,g2,u,tail,w,q⟩:=p j;exact⟨g1,V,u,tail,w,q.congr (g _ g2 q.lt)⟩
 .let⟨k,j⟩:=i.bq;exact⟨k,j.qB.up cD h g,j.aT,j.aQ,λt n l o p=>by
   let⟨v,u,q,e,b1,b2,b3⟩:=j.eS t n l o p;exact⟨v,u,q,e,b1.up V h g,b2.up V h g,b3.up V h g⟩⟩
def qZ.bV{m:bg}{d:ag}{cy b a:E}{s:St}(h:qZ mx d M cy b a s)(c:D m mx){nb:Nat}(e:m.size<=nb)(g:nb<mx.size){o:Nat}:qZ m d (aV M nb o l) cy b a s:=
 h.WH c.aQ (Np (bD _ _ _ _).symm) (λf i _=>cq _ _ _ _ V) ((c.J h.bs.cW).aV e _ _)
def qZ.ext{c:bg}{d:ag}{cy b a:E}{s:St}(h:qZ c d M cy b a s)(e:D M f):qZ c d f cy b a s:=by grind [qZ.WH,D.aQ,D.bG,qZ.bs,Bs.cW,D.J]
def Bs.GO(m:bg):Bs m (λ_=>0) m:=by constructor<;>grind [D.cU]
variable{m:bg}{d p cy b a:E}{g:cZ}{s:St}
def TY{m:bg}{nb:Nat}(c:D m m2)(a:D m2 M)(b:m.size<=nb){x:Run}(d:x=⟨Q9,false⟩):acV m x (.tuple #[.agg #[vi (0:Int),vi (0:Int),vi (0:Int),vi (0:Int),E.v E.nil,E.v E.nil,E.v E.nil],vb false]) (aV M nb 0 l):=by
 subst d;exact⟨_,.nil,.nil,.nil,O,qZ.gN ((c.J a).aV b _ _)⟩
variable(i:gY m d p g)(c:kd m cy b a s)(h:Rg s)(j:s.cy.length<=10000000)
include i c h j
omit i c in
theorem ac5:Sm 10000000 s:=h.sm h.lh j
omit i c in
end
section
variable{j:bg}{f:ag}{c e:Nat}{k:ae}
def qZ.abQ{b:bg}{cy h g:E}{s:St}(a:qZ j f b cy h g s)(i:f c=1){l:ae}(kb:dF (aV b c 0 l) c e k):wU j f (aV b c 0 l) c e k cy h g s.cy s.aR s.bq:=by
 have C:dI (λd=>d=1) f b f (aV b c 0 l):=dI.aV a.bs.bF i _ _;let⟨b1,b2⟩:=(C.aP λd m=>by omega:To f b f _).cW a.bs.cW a.bs.mq;exact⟨b1,b2,C.bF,kb,i,a.cy.fO C cD,a.aR.fO C cD cD,a.bq.fO C λd m=>V⟩
def wU.afs{b:bg}{cy h g:E}{s:St}(L:wU j f b c e k cy h g s.cy s.aR s.bq):qZ j f b cy h g s:=⟨⟨L.cW,L.mq,L.bF⟩,L.cy,L.aR,L.bq⟩
variable{b:bg}{d p cy h g:E}{a:cZ}{s:St}
def MkL(b:bg)(d p:E)(a:cZ)(s:St)(o:ai)(M:bg):Prop:=o.2=0/\∃f cy h g,wU b f M o.1 cQ (IB d p (cF a) s cy h g) cy h g s.cy s.aR s.bq
abbrev AZ:ae:=[.s E.nil,.s E.nil,.i 0,.i 0,.i 0,.i 0,.i 0,.s E.nil,.s E.nil,.s E.nil]
variable(i:gY b d p a)(q:kd b cy h g s)(l:Rg s)(r:s.cy.length<=10000000)
include i q l r
theorem LV(Q:Int):bK dO 18 [.agg #[d.v,p.v],stV s cy h g,vi Q] b (acV b (QA a s Q)):=by
 apply Gz;simp -zeta only[dR];intro Z P m3;have s1:=pz Z;have s2:P.size=b.size+2:=by simp[P,s1]
 have s3:m3.size=b.size+3:=by simp[m3,s2]
 have R:D b m3:=(((D.cU b).bZ _).bZ _).bZ _;have L:∀u∈[P.size,Z.size,b.size],u<m3.size:=eX;refine(IA (i.ext R) (q.ext R) l).bL cY L λb4 J ah H _=>⟨b4,O,λh1=>TY R H V (by unfold QA;rw[aW λj=>nb ah h1 j.1]),λh1=>?_⟩;have T:=yb ah h1;refine⟨λh2=>TY R H V (by unfold QA;rw[aW λj=>by simp at h2;omega]),λh2=>⟨λS=>TY R H V (by unfold QA;rw[aW λj=>by simp at S;omega]),λS=>?_⟩⟩;have hm:0<=Q/\Q<=100000:=by simp at h2 S;omega
 obtain⟨A,rfl⟩:∃A:Nat,Q=A:=⟨Q.toNat,V⟩;have hr:QA a s (A:Int)=⟨bA a A s,true⟩:=by unfold QA;rw[bn ⟨T,hm⟩];simp
 rw[hr];have Y:=R.J H;have z4:=H.aQ;have af:=ac5 l r;have aq:=T.pL af V;have ht:=T.iG.mN.dk;have cc:∀{M:bg},D J M->DO dO 25 [d.v] M (vi (cF a)):=λN=>rh (i.ext (Y.J N)).bS ht.aT (λj hd=>OW ht j hd);have j:∀{M x:bg}{u:Nat},D M x->u<M.size->∀I,aS x u I=aS M u I:=λN an I=>bE (N.bG _ an) I;have cl:∀{f:ag}{M:bg}{ae:aj},Bs J f M->(∀u,f u<=1)->(∀aa B z y x,qZ J aa x B z y s->dI (λ_=>False) f M aa x->D M x->M.size<=x.size->ae (stV s B z y) x)->bK dO 40 [stV s cy h g] M ae:=λad ap hK=>
  (IF ad ap (q.ext (Y.J ad.cW)) aq).aP λ_ x⟨aa,B,z,y,e,al,ab⟩=>by rw[e];exact hK aa B z y x al ab ab.FV ab.aQ
 have ai:∀{M x:bg},D J M->x=M.push (.cells (db AZ) cQ)->Bs J (oH (λ_=>0) M.size 1) x/\(∀u,oH (λ_=>0) M.size 1 u<=1)/\dF x M.size cQ AZ:=λN e=>by
  have hz:=N.aQ;subst e;refine⟨⟨N.bZ _,λu C=>fL V,λu C=>fL (by simp at C;omega)⟩,λu=>?_,dF.push _ _ _⟩;unfold oH;split
  .omega
  .exact iD _
 refine⟨MkL J d p a s,⟨?_,?_⟩,?_⟩
 .refine(cc cY).aP ?_;rintro _ U ⟨rfl,t⟩;have z5:=t.aQ;refine⟨t.eV λu C=>H.lt (L u C),_,O,j t V _,j t V _,j t V _,j t V _,j t V _,j t V _,j t V _,j t V _,j t V _,?_,?_⟩
  .refine cl (f:=λ_=>0) ⟨t,λ_ _=>O,λ_ _=>O⟩ (λ_=>iD _) λG B z y v F X k z6=>?_;refine⟨k.eV λu C=>t.lt (H.lt (L u C)),_,_,_,_,B,z,y,O,j k V _,j k V _,?_⟩;intro K;have w:=px K;have kb:dF K v.size cQ AZ:=dF.push v _ _;refine⟨j w V _,j w V _,j w V _,j w V _,j w V _,j w V _,j w V _,j w V _,j w V _,j w V _,O,oH G v.size 1,B,z,y,?_⟩;have W:D v (aV K v.size 0 [.s d,.s p,.i (cF a),.i s.eC,.i s.iQ,.i s.dg,.i s.dL,.s B,.s z,.s y]):=w.aV bY _ _;exact F.eI W bY (dF.aV (m:=K) (o:=0) kb)
  .intro v;obtain⟨k,s6⟩:=pu v;let⟨B6,ac,kb⟩:=ai (x:=v) t O;refine⟨j k V _,j k V _,j k V _,j k V _,j k V _,j k V _,j k V _,j k V _,j k V _,j k V _,cl B6 ac λW B z y K X F w z7=>?_⟩;refine⟨w.eV eX,_,_,_,_,B,z,y,O,j w V _,j w V _,O,W,B,z,y,?_⟩;exact X.abQ (by rw[F.jv _ V];exact gU) (dF.aV (m:=K) (o:=0) (kb.ext w))
 .intro U;obtain⟨t,s5⟩:=pu U;let⟨B5,ac,kb⟩:=ai (x:=U) (D.cU J) O;refine⟨j t V _,j t V _,j t V _,j t V _,j t V _,j t V _,j t V _,j t V _,j t V _,j t V _,(cc t).aP ?_⟩;rintro _ v ⟨rfl,k⟩;have z6:=k.aQ;refine⟨k.eV eX,_,O,j k V _,j k V _,j k V _,j k V _,j k V _,j k V _,j k V _,j k V _,j k V _,cl (B5.fO (dI.fC k B5.bF)) ac λW B z y K X F w z7=>?_⟩;refine⟨w.eV eX,_,_,_,_,B,z,y,O,j w V _,j w V _,O,W,B,z,y,?_⟩;exact X.abQ (by rw[F.jv _ V];exact gU) (dF.aV (m:=K) (o:=0) (kb.ext (k.J w)))
 .rintro⟨c,mo⟩ U ⟨rfl,ak,o5,h5,f5,X⟩;simp only[]at X;have B5:A2 ak U [P.size,Z.size,b.size]:=λu C=>⟨X.cW.lt (H.lt (L u C)),X.mq u (H.lt (L u C))⟩;have kH:∀{k:Nat}{v:bg},bA a A s=bA a k s->(∃G o6 F w,wU J G v c cQ (IB d p (cF a) (bA a k s) o6 F w) o6 F w (bA a k s).cy (bA a k s).aR (bA a k s).bq)->
   ∃v0:Int,aS v c (0+3)=some (vi v0)/\∃v1:Int,aS v c (0+3+1)=some (vi v1)/\∃v2:Int,aS v c (0+3+2)=some (vi v2)/\∃v3:Int,aS v c (0+3+3)=some (vi v3)/\
   ∃v4:E,aS v c (0+3+4)=some v4.v/\∃v5:E,aS v c (0+3+5)=some v5.v/\∃v6:E,aS v c (0+3+6)=some v6.v/\
   acV b ⟨bA a A s,true⟩ (.tuple #[.agg #[vi v0,vi v1,vi v2,vi v3,v4.v,v5.v,v6.v],vb true]) (aV v P.size 0 [.i v0,.i v1,.i v2,.i v3,.s v4,.s v5,.s v6]):=λ{k v} e⟨G,o6,F,w,t⟩=>by
   rw[e]
   exact⟨_,t.bV.dx 3,_,t.bV.dx 4,_,t.bV.dx 5,_,t.bV.dx 6,o6,t.bV.dx 7,F,t.bV.dx 8,w,t.bV.dx 9,G,o6,F,w,O,t.afs.bV Y V V⟩
  refine⟨λI M=>∃k:Nat,I=k/\k<=A/\∃G o6 F w,wU J G M c cQ (IB d p (cF a) (bA a k s) o6 F w) o6 F w (bA a k s).cy (bA a k s).aR (bA a k s).bq,λI _=>((A:Int) -I).toNat,⟨0,O,iD _,ak,o5,h5,f5,X⟩,?_⟩;rintro I v ⟨k,rfl,hk,G,o6,F,w,t⟩;have ao:=xU k T;have ac:=AW k T af V;have B6:A2 G v [P.size,Z.size,b.size]:=λu C=>⟨t.cW.lt (H.lt (L u C)),t.mq u (H.lt (L u C))⟩;refine⟨λh7=>⟨_,t.bV.dx 3,λh8=>?_,λh8=>?_⟩,λh7=>?_⟩
  .simp only[bh]at h7;refine(Ku t (i.ext Y) ao ac.JS (oh ac.aR) (oh ac.cy)).aP ?_;rintro _ K ⟨W,o7,am,f7,L7,t7⟩;have e:eJ ((k:Int)+1)=((k+1:Nat):Int):=nt (n:=A) V V;rw[e];refine⟨t7.fS B6,⟨k+1,O,V,W,o7,am,f7,by rw[xV];exact L7⟩,?_⟩;show((A:Int) -((k+1:Nat):Int)).toNat<((A:Int) -(k:Int)).toNat;omega
  .simp at h8;refine kH ?_ ⟨G,o6,F,w,t⟩;have S:A=k+(A -k):=V;rw[S,Ng,pV _ h8]
  .simp only[dm]at h7;have:k=A:=V;subst this;exact kH O ⟨G,o6,F,w,t⟩
end
section
variable{b:bg}{d p:E}{a:cZ}
def Iy(q:gY b d p a)(k:iB a){dL:Int}(A:0<=dL/\dL<=40):bK dO 17 [.agg #[d.v,p.v],vi dL] b λF t=>∃c,F=.tuple #[stV (jC a dL) .nil .nil c,vb true]/\kd t .nil .nil c (jC a dL)/\D b t:=by
 apply CP;simp -zeta only[dR];intro e u;have P:=pz e;have C:dF u e.size mg [.i 0,.i 0,.i 0,.i 0,.s .nil,.s .nil,.s .nil]:=dF.push e _ _;let⟨v,j⟩:=fU (a:=e) (c:=u) O O;refine(pt (q.ext v)).bL cY j λg M i f _=>⟨g,O,λh=>absurd k (nb i h),λ_=>⟨λh=>by simp at h;omega,λ_=>⟨λh=>by simp at h;omega,λ_=>?_⟩⟩⟩;have n:=v.J f;have J:=f.aQ;have H:=j e.size bO;refine(pw (q.ext n) k dL).aP λ_ l⟨c,y,w,b1,b2,b3,b4,K,z,N,G,B⟩=>⟨w.eV (λg i=>f.lt (j g i)),_,_,_,_,.nil,.nil,c,y,?_⟩;have I:=N.lo;intro E;have x:=N.bV n (nb:=e.size) V V 0 [.i 3,.i 0,.i 0,.i dL,.s .nil,.s .nil,.s c];have kb:dF E e.size mg ([]++[.i 3,.i 0,.i 0,.i dL,.s .nil,.s .nil,.s c]):=dF.aV (m:=l) (o:=0) (r:=[.i 3,.i 0,.i 0,.i dL,.s .nil,.s .nil,.s c]) (C.ext (f.J w));have Q:(aV l e.size 0 [.i 3,.i 0,.i 0,.i dL,.s .nil,.s .nil,.s c]).size=l.size:=bD _ _ _ _;have L:=SC z x V (B.congr (cq _ _ _ _ V)) V kb;exact⟨c,O,L.Mp (s:=jC a dL) ((AT k A).pL (AU a dL) V),L.cW⟩
end
section
def qZ.old{mx M a:bg}{f:ag}{cy d c:E}{s:St}(h:qZ mx f M cy d c s)(e:M.size<=a.size)(i:∀b,mx.size<=b->b<M.size->a[b]? =M[b]?):qZ (a.extract 0 mx.size) f a cy d c s:=
 have g:=fD h.bs.cW.aQ e
 h.WH cB e i (D.Rc g)
def wU.old{d M b:bg}{k:ag}{e g:Nat}{f:ae}{cy j h:E}{a:St}(L:wU d k M e g f cy j h a.cy a.aR a.bq)(l:d.size<=e)(m:M.size<=b.size)(i:∀c,d.size<=c->c<M.size->b[c]? =M[c]?):wU (b.extract 0 d.size) k b e g f cy j h a.cy a.aR a.bq:=
 have N:=qZ.old (s:=a) ⟨⟨L.cW,L.mq,L.bF⟩,L.cy,L.aR,L.bq⟩ m i
 ⟨N.bs.cW,N.bs.mq,N.bs.bF,L.bV.congr (i _ l L.bV.lt),L.YL,N.cy,N.aR,N.bq⟩
variable{S:ad}{m:bg}{c P:Nat}{a d p:E}{b:cZ}
end
section
variable{q:E}
def eu.afj{q:cZ}{s:St}{n:Nat}(h:eu q s)(c:Sm n s)(x:n<=10000000):Rg s:=by
 have l:=h.pL c V;have i:=h.dg;have v:=h.dL;have u:=c.aR;have C:=Zp h;have t:=l.kV;refine⟨⟨V,V⟩,λd i w a=>?_,λf b=>?_,V,V,λf b=>oh (l.bq f b)⟩
 .have k:=h.aR.gZ d i;rcases yh d.bT 1 with e|e
  .have:=(k.LP e).2.1 w a;exact⟨V,V⟩
  .rcases(k.wZ V).1 w a with e|⟨e,j,g,_⟩
   .exact⟨by have:=e.1;omega,oh e.2⟩
   .have:=br g;have:=lE e;exact⟨V,V⟩
 .let⟨k,o⟩:=cH.1 b;have F:=C.bq k f o;refine⟨λw a=>⟨?_,c.JS f b w a⟩,λr p=>?_,λw a=>?_⟩
  .rcases(h.bq f b).XQ w a with e|e
   .have:=e.1;omega
   .omega
  .let⟨m,j⟩:=cH.1 p;have:=F.lr;have:=F.lo;have:=br j;let⟨w,a⟩:=dV f.aU m;have:=(F.aU.eS m w r a j).2.1;exact⟨V,V⟩
  .rcases C.cC.dQ f b w a with e|⟨e,g⟩
   .exact⟨V,V⟩
   .have:=lE e;exact⟨V,V⟩
@[grind cases] structure Mv (n:Nat) (ro:ag) (M:bg) (ro':ag) (M':bg):Prop where
 aQ:M.size<=M'.size
 fR:∀b,b<M.size->n<=b->M'[b]? =M[b]?
 jv:∀b,b<M.size->ro' b=ro b
 bF:∀b,M'.size<=b->ro' b=0
 mq:∀b,b<n->ro b=0
section
variable{n:Nat}{a e:ag}{M d:bg}
theorem iE.mv{b c k:Nat}{s:E}{l:ae}(h:iE a M b c k s l)(v:Mv n a M e d)(f:k≠0):iE e d b c k s l:=
 by grind [iE.fR,Mv.fR,iE.bz,Nat.le_of_not_lt,Mv.mq,Mv.jv]
theorem gC.mv{h:E}{i:ah}(q:gC n a M h i)(v:Mv n a M e d):gC n e d h i:=by
 let⟨l,j,a2,a3⟩:=q;refine⟨l,j.mv v cD,a2.aP λs r⟨o,m,f,g⟩=>⟨o,m,ku f λb=>v.fR _ (ly f b) (g b).2.1,λb=>?_⟩,a3⟩;let⟨g1,g2,k,tail,p,c⟩:=g b;exact⟨(v.jv _ c.lt).trans g1,g2,k,tail,p,c.congr (v.fR _ c.lt g2)⟩
theorem Yf.mv{i:Nat}{b:ae}{f:bW}(v:Mv n a M e d):Yf a M i b f->Yf e d i b f:=λ⟨r,o,k,j,c,g,h⟩=>⟨r,o,k,j,c.mv v V,g.mv v V,h.mv v V⟩
def rP.mv{c:E}{g:an}{f:bW}{r o h:E}{b:List ae}(T:rP a M c g f r o h b)(v:Mv n a M e d):rP e d c g f r o h b:=
 by constructor<;>grind [rP.qB,iE.mv,rP.aT,rP.aQ,rP.eS,Yf.mv,rP.aU,rP.bI,rP.cC]
theorem rR.mv{c:E}{b:an}(l:rR a M c b)(v:Mv n a M e d):rR e d c b:=by
 let⟨g,h⟩:=l;exact⟨g,h.qB.mv v cD,h.aT,h.aQ,λm f i j k=>(h.eS m f i j k).mv v⟩
def rP.cG{c:E}{b:an}{f g:bW}{r o n m l j:E}{h:List ae}(T:rP a M c b f r o n h)(t:∀d,M.size<=d->a d=0){i:Nat}(v:i<6){d:Ce}
 (u:kJ [.i f.fQ,.i f.pc,.i f.bH,.s r,.s o,.s n] i [d]=[.i g.fQ,.i g.pc,.i g.bH,.s m,.s l,.s j])(s:iE a M bB 1 (10+3*b.length) m (g.aU.map Ce.i))(p:iE a M bB 1 (11+3*b.length) l (g.bI.map Ce.i))(q:iE a M bB 1 (12+3*b.length) j (g.cC.map Ce.i)):
 jb M c.bz (c.off+b.length*6+i) 1/\rP a (aV M c.bz (c.off+b.length*6+i) [d]) c b g m l j h/\dI (λk=>4<=k/\k≠9) a M a (aV M c.bz (c.off+b.length*6+i) [d]):=by
 have e:dI (λk=>k=4) a M a (aV M c.bz (c.off+b.length*6+i) [d]):=dI.aV t T.bz.1 _ _
 have x:h.flatten.length=b.length*6:=by rw[dS T.aQ,T.aT]
 refine⟨by rw[iv];exact T.qB.wr cB,⟨?_,T.aT,T.aQ,T.Cu e λk p q=>V,s.fO e V,p.fO e V,q.fO e V⟩,e.aP λk w=>V⟩
 have:=T.qB.dY (o:=b.length*6+i) (new:=[d]) cB
 grind [oP,Nat.add_sub_cancel_left,Nat.add_assoc]
end
@[grind cases] structure SO (n:Nat) (ro:ag) (M:bg) (cy hp fr:E) (s:St):Prop where
 le:n<=M.size
 mq:∀b,b<n->ro b=0
 bF:∀b,M.size<=b->ro b=0
 cy:iE ro M bB 1 2 cy (s.cy.map Ce.i)
 aR:gC n ro M hp s.aR
 bq:rR ro M fr s.bq
@[grind cases] structure FS (s:St):Prop where
 JS:Rg s
 pL:Iq s
 lo:s.cy.length<=1000000/\s.aR.length<=1000000
variable{n:Nat}{a e:ag}{M d:bg}{cy h c:E}{s:St}
def SO.of(N:qZ (M.extract 0 n) a M cy h c s)(b:n<=M.size):SO n a M cy h c s:=by constructor<;>grind [qZ.bs,Bs.mq,vf,Bs.bF,qZ.cy,qZ.aR,qZ.bq]
theorem SO.mv(w:SO n a M cy h c s)(v:Mv n a M e d):SO n e d cy h c s:=by constructor<;>grind [SO.le,Mv.aQ,Mv.jv,SO.mq,Mv.bF,SO.cy,iE.mv,SO.aR,gC.mv,SO.bq,rR.mv]
theorem SO.mvF(w:SO n a M cy h c s){b:Nat}(f:Fz [b] M d)(e:b<n):Mv n a M a d:=by constructor<;>grind [Fz.aQ,Fz.bG,SO.bF,SO.mq]
def SO.fO{p:Nat->Prop}(w:SO n a M cy h c s)(C:dI p a M e d):n<=d.size/\(∀b,b<n->e b=0)/\∀b,d.size<=b->e b=0:=by grind [SO.le,dI.aQ,dI.jv,SO.mq,dI.bF]
theorem SO.bV(w:SO n a M cy h c s){b:Nat}(f:a b=1)(o:Nat)(l:ae):SO n a (aV M b o l) cy h c s:=by
 have C:dI (λk=>k=1) a M a (aV M b o l):=dI.aV w.bF f _ _;let⟨d,b,e⟩:=w.fO C;exact⟨d,b,e,w.cy.fO C cD,w.aR.fO C cD cD,w.bq.fO C λk g=>V⟩
def SO.QE(w:SO n a M cy h c s)(C:dI (λk=>k=2) a M e d){l:ab}(A:iE e d bB 1 2 q (l.map Ce.i)):SO n e d q h c {s with cy:=l}:=
 let⟨b,f,g⟩:=w.fO C
 ⟨b,f,g,A,w.aR.fO C cD cD,w.bq.fO C λk i=>V⟩
def SO.jU(w:SO n a M cy h c s)(C:dI (λk=>k=3) a M e d){b:ah}(A:gC n e d q b):SO n e d cy q c {s with aR:=b}:=
 let⟨f,g,i⟩:=w.fO C
 ⟨f,g,i,w.cy.fO C cD,A,w.bq.fO C λk j=>V⟩
def SO.mE(w:SO n a M cy h c s)(C:dI (λk=>4<=k/\k≠9) a M e d){l:an}(A:rR e d q l):SO n e d cy h q {s with bq:=l}:=
 let⟨b,f,g⟩:=w.fO C
 ⟨b,f,g,w.cy.fO C cD,w.aR.fO C cD cD,A⟩
def SO.Mp(w:SO n a M cy h c s)(b:Iq s):kd M cy h c s:=⟨w.cy.oN (oh b.cy),w.aR.jI (oh b.aR),w.bq.Mp (oh b.kV) b.bq⟩
end
section
variable{K:Int->bg->Prop}{p:Nat->Prop}
def SP(n a:Nat)(i:E)(c:bg)(P:Nat)(v:Value)(e:bg):Prop:=∃cy j h s,v=stV s cy j h/\(∀b,e.size<=b.size->(∀d,d<e.size->n<=d->b[d]? =e[d]?)->kd b cy j h s)/\Rg s/\(s.cy.length<=1000000/\s.aR.length<=1000000)/\Rs a i c P e
@[grind cases] structure SQ (n rb:Nat) (bs:E) (ma:bg) (k1 k2 Q:Nat) (ro:ag) (M:bg) (cy hp fr:E) (s:St):Prop where
 w:SO n ro M cy hp fr s
 r:Rs rb bs ma Q M
 k1:ro k1=1/\k1<M.size/\n<=k1
 k2:ro k2=1/\k2<M.size/\n<=k2
 fs:FS s
variable{n a d e Q t P m:Nat}{i cy j h:E}{c M b:bg}{l o:ag}{s q:St}{L:ad}
def SQ.fz(g:SQ n a i c d e Q l M cy j h s)(k:a<n)(f:Fz [a] M b)(r:Rs a i c t b):SQ n a i c d e t l b cy j h s:=
 by constructor<;>grind [SQ.w,SO.mv,SO.mvF,SQ.k1,Fz.aQ,SQ.k2,SQ.fs]
def SQ.ext(f:SQ n a i c d e Q l M cy j h s)(g:a<n)(x:D M b):SQ n a i c d e Q l b cy j h s:=f.fz g (x.fz _) (f.r.ext x)
def SQ.kA(k:SQ n a i c d e Q l M cy j h s)(p:a<n)(m:∀f∈L,f=d\/f=e)(g:Fz [a] M b):gS L M b:=g.eV λf o=>by
 grind [SQ.k1,SQ.k2,List.mem_singleton]
def SQ.gk(g:SQ n a i c d e Q l M cy j h s)(k:a<n)(f:Fz [a] M b)(o:Nat):aS b e o=aS M e o:=by grind [bE,Fz.bG,SQ.k2,List.mem_singleton]
def SQ.cr(f:SQ n a i c d e Q l M cy j h s)(v:Rd a i m c)(C:c.size<=n)(x:Q<=P){q g o r:Int}(A:Rh o)(p:ae):SP n a i c P (.agg #[vi q,vi g,vi o,vi r,cy.v,j.v,h.v]) (aV M d 0 p):=by
 have w:=f.w.bV f.k1.1 0 p;have u:=f.r.cG v (k:=d) (oh f.k1) 0 p;exact⟨cy,j,h,⟨q,g,o,r,s.cy,s.aR,s.bq⟩,O,λb z B=>have t:=(w.mv ⟨z,B,λ_ _=>O,λg y=>w.bF g (fD z y),w.mq⟩).Mp f.fs.pL;⟨t.cy,t.aR,t.bq⟩,⟨A,f.fs.JS.aR,f.fs.JS.bq,f.fs.JS.lh,f.fs.JS.lf,f.fs.JS.lr⟩,f.fs.lo,u.f,u.r.aP x⟩
def SQ.bV(f:SQ n a i c d e Q l M cy j h s)(g:Rd a i m c)(k:c.size<=n)(o:Nat)(b:ae):SQ n a i c d e Q l (aV M e o b) cy j h s:=
 by constructor<;>grind [SQ.w,SO.bV,SQ.k2,SQ.r,Rs.cG,bD,SQ.k1,SQ.fs]
def SQ.mM(p:SQ n a i c d e Q l M cy j h s)(m:a<n)(u:Q<=10^16)(r:∀g∈L,g=d\/g=e)(g:ab){k:ae}{o:Nat}(w:k=g.map Ce.i)(v:o=g.length)(z:0<g.length/\g.length<=100)
 (y:∀t b,t∈g->SQ n a i c d e (Q+1) l b cy j h s->Fz [a] (M.push (.cells (db k) bB)) b->K t b):bK dO 77 [vp a 0,E.v (.mk M.size 0 o o)] (M.push (.cells (db k) bB)) λC b=>gS L (M.push (.cells (db k) bB)) b/\∃t:Int,C=vi t/\K t b:=
 have x:=D.push M (.cells (db k) bB)
 (Ia p.r u g w v z).aP λ_ b⟨t,q,A,B,f⟩=>⟨(p.ext m x).kA m r f,t,q,y t b A ((p.ext m x).fz m f B) f⟩
def SQ.lP(g:SQ n a i c d e Q l M cy j h s)(m:a<n)(q:Q<=10^16)(p:∀f∈L,f=d\/f=e)(k:Int)
 (r:∀t b,0<=t->(t<k\/t=0)->SQ n a i c d e (Q+1) l b cy j h s->Fz [a] M b->K t b):bK dO 74 [vp a 0,vi k] M λw b=>gS L M b/\∃t:Int,w=vi t/\K t b:=
 (dX g.r.r q k).aP λ_ b⟨t,o,v,t1,u,f⟩=>⟨g.kA m p f,t,o,r t b v t1 (g.fz m f (g.r.to f u)) f⟩
def SQ.fO(f:SQ n a i c d e Q l M cy j h s)(u:Rd a i m c)(F:c.size<=n)(C:dI p l M o b)(j:∀k,p k->2<=k){x v t:E}(B:SO n o b x v t q)(z:FS q):SQ n a i c d e Q o b x v t q:=
 have D:=u.lt
 have w:∀g,g<n->b[g]? =M[g]? :=λg k=>C.fR g (cw k f.w.le) λy=>by have:=j _ y;have:=f.w.mq g k;omega
 have r:Fz [a] c b:=⟨fD f.r.f.aQ C.aQ,λg k A=>(w g V).trans (f.r.f.bG g k A)⟩
 ⟨B,⟨r,u.Bu f.r.r r (w a V)⟩,⟨(C.jv _ f.k1.2.1).trans f.k1.1,cw f.k1.2.1 C.aQ,f.k1.2.2⟩,⟨(C.jv _ f.k2.2.1).trans f.k2.1,cw f.k2.2.1 C.aQ,f.k2.2.2⟩,z⟩
def SQ.eV(g:SQ n a i c d e Q l M cy j h s)(m:∀f∈L,f=d\/f=e)(C:dI p l M o b)(j:∀k,p k->2<=k):gS L M b:=λf k=>by
 grind [SQ.k1,SQ.k2,dI.fR]
def SQ.jO(m:SQ n a i c d e Q l M cy j h s)(u:eJ ((h.len:Int) -1)>=0):∃b f r p q g,s.bq=b++[f]/\rP l M h b f r p q g/\eJ ((h.len:Int) -1)=(b.length:Int)/\h.len=b.length+1:=by
 have F:=m.w.bq;have t:=m.fs.pL.kV;rcases adr s.bq with k|⟨b,f,k⟩
 .rw[k]at F;let⟨g,o⟩:=F;have:=o.qB.aT;grind [dS,acQ.aQ,acQ.aT,List.length_nil,de]
 .grind [rR.jO,rP.Eg,de]
def FS.jO(h:FS s){d:an}{i g:bW}(f:s.bq=d++[i])(k:aaz g)(l:g.aU.length<=1000000/\g.bI.length<=1000000/\g.cC.length<=1000000):FS {s with bq:=d++[g]}:=by
 have b:=h.JS;have c:=h.pL;have j:∀x∈d,x∈s.bq:=cB;have e:=c.kV;rw[f]at e;simp at e;refine⟨⟨b.dg,b.aR,λx a=>?_,b.lh,eX,λx a=>?_⟩,⟨c.cy,c.fl,c.aR,eX,λx a=>?_⟩,h.lo⟩<;>rcases bU.1 a with a|a
 .grind [Rg.bq]
 .grind
 .exact b.lr x (j x a)
 .grind
 .grind [Iq.bq]
 .grind
def SQ.qe(k:SQ n a i c d e Q l M cy j h s)(r:Rd a i m c)(t:c.size<=n){q:an}{z g:bW}(y:s.bq=q++[z]){K I J:E}{w:List ae}(T:rP l b h q g K I J w)(C:dI (λo=>4<=o/\o≠9) l M l b)(F:aaz g)(H:g.aU.length<=1000000/\g.bI.length<=1000000/\g.cC.length<=1000000)
 (A:∀f∈L,f=d\/f=e)(B:Q<=P){v f p x:Int}(D:Rh p)(u:ae):gS L M b/\SP n a i c P (.agg #[vi v,vi f,vi p,vi x,cy.v,j.v,h.v]) (aV b d 0 u):=
 ⟨k.eV A C λo G=>V,(k.fO r t C (λo G=>V) (k.w.mE C T.qe) (k.fs.jO y F H)).cr r t B D u⟩
end
section
variable{S:ad}{m:bg}{b P:Nat}{a:E}
end
section
def Xk(f:ag):∀n,∃B,∀i,i<n->f i<=B
 |0=>⟨0,bO⟩
 |n+1=>let⟨B,h⟩:=Xk f n;⟨B+f n,λi a=>by
  rcases dJ i n with e|e
  .have:=h i e;omega
  .have:i=n:=V;subst this;omega⟩
def eu.zW{c:cZ}{s:St}(i:eu c s)(n:s.eC=0):s.aR=[]:=by
 have q:=i.cr.1 n;let⟨m,u⟩:=i.aR.CM;let⟨B,o⟩:=Xk m s.aR.length;apply iC;intro t;have y:0<s.aR.length:=List.length_pos_iff.2 t;have iH:∀k,∃(f:Nat)(e:dq),s.aR[f]? =some e/\0<e.bT/\k<=m f:=λk=>by
  induction k with
  |zero=>
   let⟨e,g⟩:=dV s.aR (s.aR.length -1);refine⟨_,e,g,?_,iD _⟩;have l:=i.mG e g;rcases yh e.bT 0 with j|j
   .have:=i.eO _ ⟨e,g,j⟩;grind [eU]
   .omega
  |succ k w=>
   let⟨f,e,g,b,r⟩:=w;have:=i.aR.ex f e g b;rw[q]at this;simp only[j8]at this;let⟨d,p,j⟩:=Qv (h:=s.aR) (f:=f) V;let⟨l,hd⟩:=cH.1 p;have v:=u l d hd _ j V;rw[sL]at v;refine⟨l,d,hd,?_,V⟩;apply iC;intro x;have:=((i.aR.gZ d (aZ hd)).LP V).2.1 _ j;omega
 obtain⟨f,e,g,_,r⟩:=iH (B+1);have:=o f (br g);omega
def eu.nj{c:cZ}{s:St}(h:eu c s):eu c {s with dL:=40}:=⟨h.iG,h.eC,h.cr,h.iQ,h.Co,bO,⟨h.dg.1,by have:=h.dg;have:=h.dL;show s.dg<=40;omega⟩,h.kV,h.cy,h.aR,h.mG,h.bq,h.first,h.uK,h.eO,h.qV⟩
theorem kd.le{m g:bg}{cy b e:E}{s:St}(f:kd m cy b e s)(a:Le m g):kd g cy b e s:=⟨f.cy.le a,fX.le f.aR a λl k⟨n,c,h⟩=>⟨n,c,h.le a⟩,fX.le f.bq a λl k⟨r,o,h,c,i,j,d⟩=>⟨r,o,h,c,i.le a,j.le a,d.le a⟩⟩
def LwR(m:bg)(v:Value)(a:bg):Prop:=v=vb true/\D m a
variable{m:bg}{d p cy b e:E}{c:cZ}{s:St}
end
section
section
variable{f:Nat->Bool}
end
variable{m:bg}{d p cy b a:E}{c:cZ}{s:St}
end
section
section
variable{m:bg}{s a:E}{l:ab}{h:ah}
def Tm(c:ba m s l){e:Int}:fW dO 22 [s.v,vi e] m (e∈l):=by
 apply Og;have i:=c.aT;refine gP (n:=l.length) (i▸c.kK) (λk M=>D m M/\e∉l.take k) ⟨cY,bO⟩ ?_;rintro k p I μ o ⟨x,b⟩ j
 refine dit (λg=>?_) λg=>?_
 .let⟨y,d⟩:=dV l k;refine⟨V,V,y,by simpa using(c.ext x).bt d,λa=>oD ?_ x,λa=>j V _ ⟨x,?_⟩⟩
  .simp at a;exact a▸aZ d
  .simp at a;rw[bX d,bU];simp only[vX];exactλh=>h.elim b λf=>a f.symm
 .rw[eQ V]at b;exact fy b x
end
variable{m:bg}
end
section
def St.kK(s:St)(n:Int):St:={s with dL:=n}
variable{a:cZ}{s:St}{f:bW}{x:Instr}{o:ab}{b:an}
def pb.kK{n:Int}(h:pb a s f x o):pb a (s.kK n) f x o:=⟨h.nn,h.bH,h.oN,h.kD,h.df,h.ov,h.tU,h.apply,h.dup,h.Bg,h.Ql,h.tO,h.xW⟩
@[grind cases] structure afw (s t:St):Prop where
 dL:t.dL=s.dL
 dg:s.dg<=t.dg
 cy:s.cy<+:t.cy
 eC:t.eC=s.eC\/t.eC=0
def ac4{dL:Int}(h:(qH a dL).ok=true):(iB a/\0<=dL/\dL<=40)/\qH a dL=⟨(pF a dL).eC,(pF a dL).iQ,(pF a dL).dg,(pF a dL).cy,true⟩:=by
 have b:iB a/\0<=dL/\dL<=40:=by
  apply iC;intro c;rw[qH,aW c]at h;simp at h
 exact⟨b,bn b⟩
end
structure adD where
 bA:Int
 VX:Int
 WJ:Int
 ac2:Int
 Zt:Int
 ad9:Int
 kV:Int
 WT:Int
def mx(a b:Int):Int:=if b>a then b else a
def abR:ah->Int
 |[]=>0
 |c::h=>(if 0<c.bT then 1 else 0)+abR h
def aeM(n:Int):ah->Int
 |[]=>n
 |c::h=>aeM (mx n c.bT) h
theorem jq.pG{h:ah}{b:Nat}(d:jq (pG h) b):jq h b:=by
 let⟨c,a,e⟩:=d;unfold Go.Proofs.YtbbbdejieenniaaGreat.pG at a;rw[lQ]at a;split at a
 .exact⟨c,a,e⟩
 .simp at a
theorem jq.KP{h:ah}{w:Int}(d:iH h w)(c:dq){b:Nat}(e:jq (h.set (ix w) c) b):jq h b:=by
 by_cases a:b=ix w
 .subst a;exact d.2
 .grind [jq.ne]
def jq.kW:∀(c:ab)(h:ah)(a:Nat),(∀w∈c,iH h w)->jq (kW h c) a->jq h a
 |[],_,_,_,d=>d
 |w::c,h,a,e,d=>by
  have f:=e w cK;exact(jq.qv f (b:=a)).1 (jq.kW c _ a (λv g=>⟨(e v (aX _ g)).1,(jq.qv f).2 (e v (aX _ g)).2⟩) d)
theorem jq.jL:∀(n:Nat)(h:ah)(j:ab),D0 h+j.length<=n->∀b,jq (jL h j) b->jq h b
 |n,h,[],_,b,a=>by rw[ur]at a;exact a
 |0,h,w::r,d,b,_=>by simp at d
 |n+1,h,w::r,d,b,a=>by
  simp only[dz]at d;rcases gJ (iH h w)with c|c
  .let⟨g,i⟩:=dy c;by_cases e:(bu h w).bT=1
   .have f:=mr (d:=kX) g;simp only[bn i,kX]at f;simp at f;rw[uv c e]at a;exact jq.KP c _ (jq.jL n _ _ (by simp[kX];omega) b a)
   .have f:=mr (d:={bu h w with bT:=(bu h w).bT -1}) g;simp only[bn i]at f;rw[bn V]at f;rw[sG c e]at a;exact jq.KP c _ (jq.jL n _ _ cB b a)
  .rw[sH c]at a;exact jq.jL n _ _ V b a
theorem jq.iZ{h:ah}{e:Nat->Int}(g:jd h e){w:Int}(d:iH h w){b:Nat}(a:jq (iZ h w) b):jq h b:=by
 let⟨f,l⟩:=dy d;unfold Go.Proofs.YtbbbdejieenniaaGreat.iZ at a;split at a
 .grind [jq.KP,jq.pG]
 .rename_i k;refine jq.KP d {bu h w with bT:=(bu h w).bT -1} (jq.kW _ _ _ (λv i=>?_) a);let⟨j,c⟩:=nT.1 i;have:=g.qd (kT f) j c;refine⟨c,?_⟩;by_cases e:ix v=ix w
  .grind [jq.GO,bu]
  .rw[jq.ne e];exact this.2
@[grind cases] structure afy (c:adD) (s:St):Prop where
 ad9:abR s.aR<=c.ad9
 kV:(s.bq.length:Int)<=c.kV
 WT:aeM c.WT s.aR=c.WT
@[grind cases] structure afz (n:Nat) (c:adD):Prop where
 bA:0<=c.bA/\c.bA<=n
 VX:0<=c.VX/\c.VX<=n
 WJ:0<=c.WJ/\c.WJ<=n
 ac2:0<=c.ac2/\c.ac2<=n
 Zt:0<=c.Zt/\c.Zt<=n
section
variable{a:cZ}{s:St}{f:bW}{x:Instr}{bI:ab}{b:an}
section
variable(h:eu a s)(e:s.eC=3)(c:(qy a s).eC=3)(d:s.bq=b++[f])
include h e c d
end
def PA{r:Int}(c:0<=r):∀(a bI:ab),(∀v∈a,0<=v/\v<bI.length/\v≠r)->bt (fe bI a) r=bt bI r
 |[],_,_=>O
 |v::a,bI,h=>by
  have b:=h v cK;simp only[fe];rw[PA c a _ λu d=>by rw[jP];exact h u (aX _ d),ny b.1 b.2.1 _ c,aW (λe=>b.2.2 e.symm)]
end
section
variable{b:cZ}{s:St}{f:bW}{a:an}
def aa3{l:ab}{i:Int}(h:0<=i/\i<l.length)(v:Int):bt (gX l i v) i=v:=by grind [ny]
end
end Go.Proofs.YtbbbdejieenniaaGreat
