/- Part of a proof. -/
import Derived.Test.YtbbbdejieenniaaGreatRB00
import Derived.Test.YtbbbdejieenniaaGreatRB02
import Derived.Test.YtbbbdejieenniaaGreatRB03
set_option linter.all false
set_option maxHeartbeats 8000000
set_option maxRecDepth 100000
namespace Go.Proofs.YtbbbdejieenniaaGreat
open Go.Vc
section
variable{e:cO}
noncomputable def vu (e:cO) (a:St) (c:aj) (b:bS) (x:Instr):St:=
 if x.op=9 then{a with dv:=a.dv+1,bo:=c++[{b with pc:=b.pc+1},ct e x.cG x.bA (dR b x.aO)]}
 else if x.op=24 then{a with dv:=a.dv+1,bo:=c++[ct e x.cG b.bA (dR b x.aO)]}
 else{a with dv:=a.dv+1,aR:=iK a.aR (br b.aU (br x.aO 0)),bo:=c++[{b with pc:=b.pc+1},ct e ((bu a.aR (br b.aU (br x.aO 0))).jH -cT e) x.bA ((bu a.aR (br b.aU (br x.aO 0))).bV++[br b.aU (br x.aO 1)])]}
variable{u:D}{n:ag}{m:D}{q:Nat}{d p cJ t j:E}{a:St}{c:aj}{b:bS}{r y h:E}{z:List ae}
def ST.rv(S:ST u n m q dG (SB d p a cJ t j) cJ t j a.cJ a.aR c b r y h z)(g:iW u d p e)(k:a.cJ.length<=2000000000)(i:a.aR.length<=2000000000)(f:pe m j (c++[b])):
 RV m q 2 d p cJ t j e {a with bo:=c++[b]}:=
 ⟨g.ext S.eO.de,S.eO.bU.dg 0,S.eO.bU.dg 1,S.eO.bU.dg 2,S.eO.bU.dg 3,S.eO.bU.dg 4,S.eO.bU.dg 5,S.eO.bU.dg 6,S.eO.bU.dg 7,S.eO.bU.dg 8,S.eO.cJ.nZ V,S.eO.aR.kL V,f⟩
def sL.QA{c:aj}(d:sL n m j c)(A:c.length<=2000000000)(q:∀b∈c,b.aU.length<=1000000/\b.bF.length<=1000000/\b.cL.length<=1000000):pe m j c:=by
 let⟨z,a,o,e,p⟩:=d;have t:j.len=c.length:=by have:=a.aT;rw[eD e,o]at this;omega
 refine⟨t,a.le,V,λk x g=>?_⟩;let⟨l,f⟩:=dY z k cC;obtain⟨r,y,h,rfl,v,u,d⟩:=p k l x f g;let⟨B,C,D⟩:=q x (ba g);refine⟨_,⟨r,y,h,O,v.nZ V,u.nZ V,d.nZ V⟩,λw i s=>?_⟩;have:=a.kv (k*6+w) i (j9 e f s);grind [Nat.add_assoc]
def RY(aj:ST u n m q dG (SB d p a cJ t j) cJ t j a.cJ a.aR c b r y h z)(aC:iW u d p e)(aw:gL e){A:Instr}{ac ad:E}(ha:bg u ac A.aO)(be:∀G∈A.aO,0<=G/\G<b.aU.length)(bK:A.aO.length<=4)
 (bW:A.op=9\/A.op=24\/A.op=11)(aQ:(A.op=9\/A.op=24)->pH e A.cG A.aO.length)(bd:A.op=11->A.aO.length=2/\tQ e a.aR (br b.aU (br A.aO 0)))
 (bU:b.aU.length=b.bF.length/\b.cL.length=b.bF.length/\b.bF.length<=2000)(bc:∀I∈c,I.aU.length<=1000000/\I.bF.length<=1000000/\I.cL.length<=1000000)(bs:0<=b.pc/\b.pc<=100000)(bQ:c.length<=10000)(bR:a.aR.length<=1000000000)(bX:a.cJ.length<=1000000000)(bL:0<=a.dv/\a.dv<=100000)
 {F:Nat->Int}(hI:jc a.aR F):
 bJ dP 179 [vp q 0,fv b r y h,xv A ac ad] m λ_ N=>Hb u n m q d p (vu e a c b A) N:=by
 apply Af (q,0)
 simp -zeta only[kU,nQ]
 intro K m2
 have bw:J m m2:=((J.cX m).cz _).cz _
 have s1:=pz K
 have s2:m2.size=m.size+2:=by simp[m2,s1]
 have B2:=Eb.Nv aj.eO.bI s1 s2
 have kB:dJ m2 K.size ee [.i A.op,.i A.bA,.i A.cG,.i A.cR,.s ac,.s ad]:=dJ.push K _ _
 let⟨S2,t2⟩:=aj.ext bw
 have bj:Ed e A:=λF=>let⟨B,h1,H,_⟩:=aQ F;⟨h1,B,H⟩
 have bI:(gU e.bR).length<=12:=by
  have:=tZ aw.kX.dj e.bR.length;rw[qI _ _ bY]at this;exact this
 have bm:∀{n m t lh bx},ST u n m q dG bx cJ t j a.cJ lh c b r y h z->pe m j (c++[b]):=λaj=>aj.eO.bo.QA fu (λI C=>by
  rcases bT.1 C with C|C
  .exact bc I C
  .simp at C;subst C;omega)
 refine(wD (f:=b) (S2.E8 V) (ha.ext S2.eO.de) be V).aP ?_
 rintro _ m3 ⟨W,rfl,ow,av⟩
 let⟨S3,t3⟩:=S2.ext av
 have B3:=B2.to t3
 have bv:(dR b A.aO).length=A.aO.length:=by simp[dR]
 have al:bg m3 W (dR b A.aO):=bg.jT ow V
 have bF:∀{N:D}{W:E}{ap:ae},js N m3 bG 1 W ap->m.size<=N.size->W≠.nil->n W.bt=0:=λho hs aa=>by
  rcases ho.bt with F|F
  .exact absurd F aa
  .exact aj.eO.bI _ V
 refine⟨t3.fW B2,W,O,λI wv N=>∃(ay:ag)(aX:E)(ai:ah)(C:ab)(B:dS),ST u ay N q dG (SB d p a cJ aX j) cJ aX j a.cJ ai c b r y h z/\To n m ay N/\Eb ay N [K.size,m.size]/\dJ N K.size ee [.i A.op,.i A.bA,.i A.cG,.i A.cR,.s ac,.s ad]/\bg N wv C/\(C≠[]->ay wv.bt=0)/\
  0<=I/\e.cU[I.toNat]? =some B/\C.length=B.aY.length/\k8 e A 0 C=fK B.cW 0 C/\
  (A.op=24->vu e a c b A={a with dv:=a.dv+1,aR:=ai,bo:=c++[ct e I b.bA C]})/\(A.op≠24->vu e a c b A={a with dv:=a.dv+1,aR:=ai,bo:=c++[{b with pc:=b.pc+1},ct e I A.bA C]}),?_,?_⟩
 .refine⟨λam=>?_,λam=>?_⟩
  .simp at am
   let⟨H,X,aY,bZ,bq,aU,bN⟩:=bd am
   let⟨aq,bt⟩:=dL X
   have aM:=hI.iF _ (ba aq)
   have b0:=(aM.yZ bt).2
   have aW:=bC aq
   have bf:A.aO=[br A.aO 0,br A.aO 1]:=by
    cases S:A.aO with
    |nil=>rw[S]at H;simp at H
    |cons G ap=>cases ap with
     |nil=>rw[S]at H;simp at H
     |cons L ap=>cases ap with
      |nil=>rfl
      |cons _ _=>rw[S]at H;simp at H
   have a0:dR b A.aO=[br b.aU (br A.aO 0),br b.aU (br A.aO 1)]:=by rw[bf];rfl
   have b5:=al.aT
   have b4:=al.mr
   have gw:aS m3 W.bt (W.off+Int.toNat (0:Int)*1)=some (vi (br b.aU (br A.aO 0))):=al.br (k:=0) (by rw[a0];rfl)
   have ao:=S3.rv aC V V (bm S3)
   generalize hw:br b.aU (br A.aO 0)=w at*
   generalize hv:br b.aU (br A.aO 1)=v at*
   let⟨B,hq⟩:=dY e.cU (((bu a.aR w).jH -cT e).toNat)
   have af:dE e ((bu a.aR w).jH -cT e)=B:=by simp[dE,hq]
   rw[af]at bq aU
   refine⟨V,V,w,gw,d,ao.bR,(jx ao X.1 aq).aP ?_⟩
   rintro _ m4 ⟨f4,rfl,bM,Y⟩
   let⟨S4,t4⟩:=S3.ext Y
   have B4:=B3.to t4
   have aN:=ao.ext Y
   refine⟨t4.fW B3,_,_,_,O,Y.cK ao.bR,(vf aN.iu.bR aw.kX.dj).aP ?_⟩
   rintro _ L ⟨rfl,aA⟩
   let⟨Q,t5⟩:=S4.ext aA
   have B5:=B4.to t5
   have bb:=aN.ext aA
   refine⟨t5.fW B4,_,O,V,V,V,(jx bb X.1 aq).aP ?_⟩
   rintro _ m6 ⟨f6,rfl,bl,aK⟩
   let⟨S6,t6⟩:=Q.ext aK
   have B6:=B5.to t6
   have az:=(Y.N aA).N aK
   have e1:(Int.toNat (1:Int))=1:=rfl
   have e2:(Int.toNat (W.len:Int))=W.len:=V
   rw[e1,e2]
   have bA:bg m6 (E.cut W 1 W.len 1) [v]:=by
    have:=abm (al.ext az) (by rw[bv];omega);rw[a0]at this;exact this
   have bP:=aM.fl
   refine⟨t6.fW B5,_,_,_,O,(QY bl bA fu).aP ?_⟩
   rintro _ m7 ⟨M,rfl,oe,aL⟩
   let⟨S7,t7⟩:=S6.ext aL
   have B7:=B6.to t7
   have ie:bg m7 M ((bu a.aR w).bV++[v]):=bg.jT oe fu
   have ar:n M.bt=0:=by
    rcases oe.bt with F|F
    .subst F;have:=ie.aT;simp at this
    .exact aj.eO.bI _ (Yx az.aQ av.aQ)
   have bk:M.bt<m7.size:=lS ie bO
   refine⟨t7.fW B6,M,O,(Gj S7.eO X hI V).aP ?_⟩
   rintro _ R ⟨an,rfl,hb,G,bi,bh⟩
   have t8:To n m7 n R:=G.aP λT P=>V
   have B8:=B7.to t8
   have a1:bg R M ((bu a.aR w).bV++[v]):=lx ie λ_=>G.fH _ bk (by rw[ar];decide)
   have a3:To n m n R:=(((((t2.N t3).N t4).N t5).N t6).N t7).N t8
   have a2:dJ R K.size ee [.i A.op,.i A.bA,.i A.cG,.i A.cR,.s ac,.s ad]:=(kB.ext (av.N (az.N aL))).congr (G.fH _ (B7 K.size bO).1 (by rw[(B7 K.size bO).2];decide))
   have e3:eV ((bu a.aR w).jH -((gU e.bR).length:Int))=(bu a.aR w).jH -cT e:=dk V V
   rw[e3]
   have ax:k8 e A 0 ((bu a.aR w).bV++[v])=fK B.cW 0 ((bu a.aR w).bV++[v]):=by
    rw[KU V,cp.1 aU]
   have aT:∀ai,ai=iK a.aR w->vu e a c b A={a with dv:=a.dv+1,aR:=ai,bo:=c++[{b with pc:=b.pc+1},ct e ((bu a.aR w).jH -cT e) A.bA ((bu a.aR w).bV++[v])]}:=λai F=>by
    rw[vu,aV V,aV V,hw,hv,F]
   refine⟨t8.fW B7,an,O,λaP=>?_,λaO=>?_⟩
   .have aB:=hb.1 aP
    let⟨U,bH⟩:=S7.jN (G.aP λT P=>bz P) (bi aP)
    have bV:=U.eO.aR.aT
    refine⟨t,U.eO.bU.dg 7,?_⟩
    intro m9
    have a_:=px m9
    let⟨S9,Z⟩:=U.ext a_
    have B9:=B8.to Z
    have bS:=X.1
    have bp:ix w=(w -1000).toNat:=rfl
    have e5:eV (w -1000)=w -1000:=dk V V
    rw[e5,<-bp]
    refine⟨V,V,S9.eO.aR.wr (o:=0) aW cH,?_⟩
    intro b6
    let⟨bn,a7⟩:=S9.eO.aR.pS S9.eO.bI aW 0 0 (f:=.mk R.size 0 0 0) (l:=[]) ⟨O,bO,bO,bO⟩ (λaa=>absurd O aa)
    let⟨au,aE⟩:=S9.jN (a7.aP λT P=>bz P) bn
    have aI:=B9.to aE
    refine⟨aE.fW B9,t,au.eO.bU.dg 7,(CC (au.eO.aR.kL fu)).aP ?_⟩
    rintro _ b7 ⟨rfl,a9⟩
    let⟨ak,aF⟩:=au.ext a9
    have aJ:=aI.to aF
    refine⟨aF.fW aI,_,O,ak.eO.pO (i:=7) bO,?_⟩
    intro aD
    obtain⟨a5,b8⟩:=ak.jN (eu.cX _ ak.eO.bI) (ak.eO.aR.rG (yu _ _))
    obtain⟨a6,aG⟩:=a5.lW 7 [.s (t.cut 0 (lL (a.aR.set (ix w) kV) (a.aR.set (ix w) kV).length) 3)]
    have a4:=aJ.to aG
    have aH:To n R n aD:=((Z.N aE).N aF).N aG
    have bB:bg aD M ((bu a.aR w).bV++[v]):=lx a1 λ_=>aH.fH _ (oh G.aQ) (by rw[ar];simp)
    have bD:dJ aD K.size ee [.i A.op,.i A.bA,.i A.cG,.i A.cR,.s ac,.s ad]:=a2.congr (aH.fH _ (B8 K.size bO).1 (by rw[(B8 K.size bO).2];simp))
    refine⟨aG.fW aJ,n,_,_,_,B,a6,a3.N aH,a4,bD,bB,λ_=>ar,aY,hq,fu,ax,λF=>V,λ_=>aT _ ?_⟩
    rw[iK,a8 aB];rfl
   .have aB:(bu a.aR w).bX≠1:=λF=>by have:=hb.2 F;rw[aO]at this;simp at this
    let⟨U,bH⟩:=S7.jN (G.aP λT P=>bz P) (bh aO)
    refine⟨n,t,_,_,B,U,a3,B8,a2,a1,λ_=>ar,aY,hq,fu,ax,λF=>V,λ_=>aT _ ?_⟩
    rw[iK,aV aB]
  .simp at am
   have G:A.op=9\/A.op=24:=V
   let⟨B,P,M,R⟩:=aQ G
   have af:dE e A.cG=B:=by simp[dE,M]
   refine⟨n,t,a.aR,dR b A.aO,B,S3,t2.N t3,B3,kB.ext av,al,λaa=>bF ow V (λF=>by subst F;have:=al.aT;simp at this;exact aa (cp.1 this.symm)),P,M,V,by rw[NU G,af],λF=>?_,λF=>?_⟩
   .rw[vu,aV V,a8 F]
   .rw[vu,a8 V]
 .rintro I wv m4 ⟨am,aJ,aE,C,B,S4,t4,B4,a3,aK,a2,aU,hq,a6,ax,aP,aT⟩
  have af:dE e I=B:=by simp[dE,hq]
  have a5:=(aw.eR B (ba hq)).aU
  have h3:=(aw.kX.eR B (ba hq)).1
  refine⟨a.dv,S4.eO.bU.dg 4,S4.eO.pO (i:=4) bO,?_⟩
  have e3:eV (a.dv+1)=a.dv+1:=dk V V
  rw[e3]
  intro L
  let⟨Q,t5⟩:=S4.lW 4 [.i (a.dv+1)]
  have B5:Eb am L [K.size,m.size]:=B4.to t5
  replace t5:To am m4 am L:=t5
  have c5:eu (λT=>T=1) am m4 am L:=eu.aW S4.eO.bI S4.eO.Wr _ _
  have aL:bg L wv C:=lx aK λaa=>c5.fH _ (lS aK aa) (by rw[a2 aa];decide)
  have a4:dJ L K.size ee [.i A.op,.i A.bA,.i A.cG,.i A.cR,.s ac,.s ad]:=a3.congr (c5.fH _ (B4 K.size bO).1 (by rw[(B4 K.size bO).2];decide))
  replace Q:ST u am L q dG (SB d p {a with dv:=a.dv+1,aR:=aE} cJ aJ j) cJ aJ j a.cJ aE c b r y h z:=Q
  refine⟨t5.fW B4,d,Q.eO.bU.dg 0,p,Q.eO.bU.dg 1,?_⟩
  have aN:=t4.N t5
  have a1:(k8 e A 0 C).length=C.length:=Jl _ _ _ _
  have a0:(ct e I A.bA C).aU=C++eU (B.aU.toNat -C.length):=by simp[ct,af]
  have aY:(ct e I A.bA C).bF=k8 e A 0 C++eU (B.aU.toNat -(k8 e A 0 C).length):=by simp[ct,af,ax,mh]
  have aW:(ct e I A.bA C).cL=eU B.aU.toNat:=by simp[ct,af]
  have jX:∀(X au:D)(nb b1 b2 b3:Nat),J L X->tR X au b1 b2 b3 B.aU.toNat (C++eU (B.aU.toNat -C.length)) (k8 e A 0 C++eU (B.aU.toNat -(k8 e A 0 C).length)) (eU B.aU.toNat)->X.size<=nb/\nb<au.size->nb≠b1/\nb≠b2/\nb≠b3->
   Sj q nb [K.size,m.size] A.op b.pc b.bA I 0 A.bA (.mk b1 0 B.aU.toNat B.aU.toNat) (.mk b2 0 B.aU.toNat B.aU.toNat) (.mk b3 0 B.aU.toNat B.aU.toNat) au (λ_ N=>Hb u n m q d p (vu e a c b A) N):=λX au nb b1 b2 b3 S P aD aa=>by
   let⟨SM,tM⟩:=Q.ext S
   refine Tv (s:={a with dv:=a.dv+1,aR:=aE}) (j:=ct e I A.bA C) (e:=A) SM (B5.to tM) (by rw[a0,aY,aW];exact P) aD aa V bs (λF N hF=>?_) (λF N hF=>?_)
   .rw[aP F];exact Hb.from hF (aN.N tM)
   .rw[aT F];exact Hb.from hF (aN.N tM)
  have az:∀{X:D}{os:E},J L X->bg X os (k8 e A 0 C)->bJ dP 107 [.agg #[E.v d,E.v p],vi I,vi A.bA,E.v wv,E.v os] X _:=λS ho=>C2 (aC.ext (Q.eO.de.N S)) aU hq V A.bA (aL.ext S) ho V a1
  have ar:∀{M U:D},J L M->J M U->∀ao,ao<6->aS U K.size ao=aS M K.size ao:=λh1 H ao hi=>by
   have T:=a4.ext h1;match ao,hi with
   |0,_=>exact H.cK (T.dg 0)
   |1,_=>exact H.cK (T.dg 1)
   |2,_=>exact H.cK (T.dg 2)
   |3,_=>exact H.cK (T.dg 3)
   |4,_=>exact H.cK (T.dg 4)
   |5,_=>exact H.cK (T.dg 5)
  have Nv:∀{M U:D},J L M->J M U->aS U q 0=aS M q 0/\aS U q 1=aS M q 1:=λh1 H=>⟨H.cK (h1.aS (Q.eO.bU.dg 0)),H.cK (h1.aS (Q.eO.bU.dg 1))⟩
  have pd:∀{X:D},J L X->sM 218 [vp q 0,xv A ac ad,E.v wv] X (k8 e A 0 C):=λS=>JT (aC.ext (Q.eO.de.N S)) (S.aS (Q.eO.bU.dg 0)) (S.aS (Q.eO.bU.dg 1)) bj ac ad (aL.ext S) V
  have sm:∀{M U:D},J L M->J M U->gT [K.size,m.size] M U:=λh1 H=>H.fg λan hb=>h1.lt (B5 an hb).1
  have aG:∀{M U:D}{nb:Nat},J L M->J M U->nb<M.size->gT [nb,K.size,m.size] M U:=λh1 H aD=>H.fg λan hb=>by
   rcases aZ.1 hb with rfl|hb
   .exact aD
   .exact h1.lt (B5 an hb).1
  refine⟨(pd dt).aP ?_,?_⟩
  .rintro _ aq ⟨os,rfl,oo,R⟩
   have io:bg aq os (k8 e A 0 C):=bg.jT oo V
   refine⟨sm dt R,os,O,ar dt R 1 V,(Nv dt R).1,(Nv dt R).2,?_,?_⟩
   .refine(az R io).aP ?_
    rintro _ aF ⟨b1,b2,b3,rfl,P⟩
    have aA:=P.ext
    have aH:=R.N aA
    refine⟨sm R aA,_,_,_,_,_,_,O,?_⟩
    intro aM
    have aB:=px aM
    have G:=ar aH aB
    have Z:=Nv aH aB
    refine⟨G 0 V,G 1 V,G 2 V,G 3 V,G 4 V,G 5 V,G 1 V,Z.1,Z.2,?_⟩
    intro ak
    have aO:J aF ak:=aB.aW bY _ _
    have a7:ak.size=aF.size+1:=by simp[ak,aM,bE]
    have aI:=P.lo
    exact jX aq ak aF.size b1 b2 b3 R (P.Mh aO) ⟨by have:=aA.aQ;omega,V⟩ ⟨V,V,V⟩
   .intro aH
    obtain⟨ak,aO⟩:=pu aH
    have G:=ar R ak
    have Z:=Nv R ak
    refine⟨G 0 V,G 1 V,G 2 V,G 3 V,G 4 V,G 5 V,G 1 V,Z.1,Z.2,?_⟩
    refine(az (R.N ak) (io.ext ak)).aP ?_
    rintro _ aM ⟨b1,b2,b3,rfl,P⟩
    have aA:=P.ext
    refine⟨aG (R.N ak) aA V,_,_,_,_,_,_,O,?_⟩
    intro aB
    have aI:=P.lo
    have aF:=P.bU ak (nb:=aq.size) bY V 0 [.i I,.i 0,.i A.bA,.s (.mk b1 0 B.aU.toNat B.aU.toNat),.s (.mk b2 0 B.aU.toNat B.aU.toNat),.s (.mk b3 0 B.aU.toNat B.aU.toNat)]
    exact jX aq aB aq.size b1 b2 b3 R aF ⟨bY,by simp only[aB,bE];have:=aA.aQ;omega⟩ ⟨V,V,V⟩
  .intro aF
   obtain⟨R,aO⟩:=pu aF
   have G:=ar dt R
   have Z:=Nv dt R
   refine⟨G 0 V,G 1 V,G 2 V,G 3 V,G 4 V,G 5 V,G 1 V,Z.1,Z.2,?_⟩
   refine(pd R).aP ?_
   rintro _ aH ⟨os,rfl,oo,Y⟩
   have io:bg aH os (k8 e A 0 C):=bg.jT oo V
   have ak:=R.N Y
   have a7:=Y.aQ
   refine⟨aG R Y V,os,O,ar R Y 1 V,(Nv R Y).1,(Nv R Y).2,?_⟩
   refine(az ak io).aP ?_
   rintro _ aM ⟨b1,b2,b3,rfl,P⟩
   have aq:=P.ext
   refine⟨aG ak aq V,_,_,_,_,_,_,O,?_⟩
   intro aA
   have aI:=P.lo
   have aB:=P.bU ak (nb:=L.size) bY V 0 [.i I,.i 0,.i A.bA,.s (.mk b1 0 B.aU.toNat B.aU.toNat),.s (.mk b2 0 B.aU.toNat B.aU.toNat),.s (.mk b3 0 B.aU.toNat B.aU.toNat)]
   exact jX L aA L.size b1 b2 b3 dt aB ⟨bY,by simp only[aA,bE];have:=aq.aQ;omega⟩ ⟨V,V,V⟩
def R9(S:ST u n m q dG (SB d p a cJ t j) cJ t j a.cJ a.aR c b r y h z)(ac:c.length<=100000)(w:Int)(O:∀g,c.getLast?=some g->0<=b.bA/\b.bA<g.aU.length/\b.bA<g.bF.length):
 bJ dP 180 [vp q 0,fv b r y h,vi w] m λ_ U=>Hb u n m q d p (match c.getLast? with|none=>{a with dx:=0,kY:=w,bo:=[]}|some g=>{a with bo:=c.dropLast++[g.cE b.bA w (ig w)]}) U:=by
 apply Ag (q,0)
 simp -zeta only[dT]
 intro D
 obtain⟨R,s1⟩:=pu D
 let⟨f,t1⟩:=S.ext R
 have K:n m.size=0:=S.eO.bI _ bY
 have o:Eb n D [m.size]:=λv A=>by simp at A;subst A;exact⟨V,K⟩
 have B:=f.jA.CM
 have aa:=f.jA.rm.le
 have I:eV ((j.len:Int) -1)=(c.length:Int):=by grind [dk]
 have J:Int.toNat (c.length:Int)=c.length:=V
 have x:=f.eO.bU.dg 8
 refine⟨j,x,j,x,?_⟩
 rw[I,J]
 refine⟨V,V,V,f.eO.pO bO,?_⟩
 intro W
 let⟨k,t2⟩:=f.eO.lW 8 [.s (j.cut 0 c.length 6)]
 obtain⟨e,_⟩:=k.mJ (eu.cX _ k.bI) k.bo.pop
 have i:=o.to t2
 have ab:(j.cut 0 c.length 6).len=c.length:=by
  cases j with
  |nil=>simp at B
  |Ec v F sp=>simp at B
  |mk v F s l=>simp[E.cut]
 refine⟨t2.fW o,j.cut 0 c.length 6,e.bU.dg 8,λl=>?_,λl=>?_⟩
 .simp at l
  have L:c=[]:=by grind [List.length_eq_zero_iff]
  subst L
  refine⟨e.pO (by simp[mw]),?_⟩
  intro X
  let⟨s,t3⟩:=e.lW 2 [.i 0]
  have G:=i.to t3
  refine⟨t3.fW i,s.pO (by simp[mw]),?_⟩
  intro M
  let⟨H,C⟩:=s.lW 3 [.i w]
  exact⟨C.fW G,n,cJ,t,_,H,(((t1.N t2).N t3).N C)⟩
 .simp at l
  have ad:c.length≠0:=V
  have Q:c≠[]:=cC
  obtain⟨g,C⟩:∃g,c.getLast?=some g:=⟨_,rH Q⟩
  let⟨H,L,M⟩:=O g C
  rw[C]
  simp only[]
  have P:c=c.dropLast++[g]:=by
   grind [List.getLast?_eq_some_getLast,List.dropLast_concat_getLast]
  have s:uH u n W q dG (SB d p a cJ t (j.cut 0 c.length 6)) cJ t (j.cut 0 c.length 6) a.cJ a.aR (c.dropLast++[g]):=
   ⟨e.de,e.mT,e.bI,e.bU,e.Wr,e.cJ,e.aR,(P▸e.bo)⟩
  let⟨r',F,Z,Y,T⟩:=s.bo.jA
  have N:c.dropLast.length<=100000:=cC
  refine(yo ⟨s,T⟩ N H L M w).aP ?_
  rintro _ X ⟨G,t3⟩
  exact⟨t3.fW i,n,cJ,t,_,G.eO,(t1.N t2).N t3⟩
end
section
variable{g:cO}{a:Instr}
def vY.HE{b:St}{c:aj}{f:bS}(C:vY g b c f a){bF:ab}(j:bF=bZ f.aU f.bF (cq g a))(i:∀o∈bF,0<=o):
 jc b.aR (λd=>oO c d+jk f.aU bF d+kG ((cq g a).map (br f.aU)) d)/\∀d,0<=oO c d+jk f.aU bF d:=by
 have e:=CG (aU:=f.aU) (cq g a) f.bF C.Pg C.RO.1
 rw[<-j]at e
 refine⟨C.ok.aR.congr λd=>?_,λd=>?_⟩
 .rw[C.fr,jP,oP,e];omega
 .have:=KW (b:=c) (λh k=>C.ok.bo h cC) d
  have:=AM (aU:=f.aU) i d
  omega
def IY{a:af}{t jH:Int}(h:jH∈cY a t):1<=t/\t<=a.length/\(ua (cY a t) jH:Int)=jH -fc a (t.toNat -1)/\(fc a (t.toNat -1):Int)<=jH:=by
 unfold cY at h⊢;by_cases d:1<=t/\t<=a.length
 .rw[a8 d]at h⊢;let⟨b,hd⟩:=dY a (t.toNat -1);rw[hd]at h⊢;simp only[sF,uL]at h⊢;let⟨i,c,e⟩:=fA.1 h;rw[rf]at c;have f:ua ((List.range b.dV.length).map λi=>((fc a (t.toNat -1)+i:Nat):Int)) jH=i:=by
   unfold ua;rw[List.findIdx_eq cC];constructor<;>grind
  grind
 .grind
def Ue{d a b:Int}(i:mV a)(j:mV b)(m:D):yB dP 176 [vi d,vi a,vi b] m (vi (TX d a b)):=by
 have k:∀n:Int,-2000000<=n/\n<=2000000->yB dP 212 [vi (eV n)] m (vi (Kx n)):=λn o=>by
  apply MK;grind [dk,J.cX,Kx]
 unfold mV at i j;have l: -2000000<=a*b/\a*b<=2000000:=by
  have c:(a*b).natAbs<=999*999:=by rw[Int.natAbs_mul];exact Rt V V
  omega
 apply O0;unfold TX;refine⟨λc=>?_,λc=>⟨λe=>?_,λe=>⟨λf=>?_,λf=>⟨λg=>⟨λh=>?_,λh=>?_⟩,λg=>?_⟩⟩⟩⟩
 .grind [yB.cg]
 .grind [yB.cg]
 .grind [yB.cg]
 .grind [J.cX]
 .grind [J.cX]
 .grind [J.cX]
variable{q:D}{j:ag}{m:D}{t:Nat}{d p cJ n k:E}{b:St}{c:aj}{f:bS}{r o h:E}{u:List ae}
def OZ(C:vY g b c f a){bF:ab}(ap:bF=bZ f.aU f.bF (cq g a))(hM:iN g b f a bF)
 (ac:ST q j m t dG (SB d p b cJ n k) cJ n k b.cJ b.aR c {f with bF:=bF} r o h u)(aE:iW q d p g){am aK:E}(ha:bg q am a.aO)(hj:bg q aK a.fU)(bb:b.aR.length<=900000000)(bl:b.cJ.length<=900000000):
 bJ dP 119 [vp t 0,fv f r o h,xv a am aK] m λ_ S=>Hb q j m t d p (dI g b c f a bF) S:=by
 apply ym (t,0)
 simp -zeta only[dT]
 intro m1 A
 have a5:J m A:=((J.cX m).cz _).cz _
 have s1:=pz m1
 have s2:A.size=m.size+2:=by simp[A,s1]
 have B:=Eb.Nv ac.eO.bI s1 s2
 have W:dJ A m1.size ee [.i a.op,.i a.bA,.i a.cG,.i a.cR,.s am,.s aK]:=dJ.push m1 _ _
 have kF:dJ A m.size gS [.i f.fN,.i f.pc,.i f.bA,.s r,.s o,.s h]:=(dJ.push m _ _).ext (J.push m1 _)
 let⟨y,t2⟩:=ac.ext a5
 have bk:bF.length=f.bF.length:=by rw[ap];exact mz _ _ _
 have bc:=C.RO
 have F:=C.oD
 have hd:=C.bA
 have a2:=C.F.pc
 obtain⟨pq,_,a3,hP,a9,hI⟩:=C.I
 rw[a3]at a2
 have bm:=hP.aT
 have ak:0<=f.pc/\f.pc<=100000:=V
 have aO:=C.ok.eG
 have a7:=C.ok.dv
 have bf:=C.ok.df
 rw[C.fr]at aO
 have a_:c.length<=1000:=by simp at aO;omega
 have aF:f.aU.length=bF.length/\f.cL.length=bF.length/\bF.length<=2000:=V
 have bp:r.len=f.aU.length:=by have:=ac.jA.aU.aT;simp at this;omega
 have bi:o.len=bF.length:=by have:=ac.jA.bF.aT;simp at this;omega
 have a6:=ha.aT
 have e4:eV (f.pc+1)=f.pc+1:=gJ
 have aa:1<=a.aO.length->0<=br a.aO 0/\br a.aO 0<f.aU.length:=λL=>C.arg _ (gZ V V)
 have N:∀{S},J q S->1<=a.aO.length->aS S am.bt (am.off+Int.toNat (0:Int)*1)=some (vi (br a.aO 0)):=λhx L=>(ha.ext hx).uG V V
 have U:∀{j m bx cJ n k lo lh o h u own'},ST q j m t dG bx cJ n k lo lh c {f with bF:=own'} r o h u->∀{ar:Int},0<=ar->ar<f.aU.length->aS m r.bt (r.off+ar.toNat*1)=some (vi (br f.aU ar)):=λac ar h0 L=>(ac.E8 (by simp only[];omega)).uG h0 L
 have aN:=C.HE ap hM.nn
 have a0:∀{j m n lh bx},ST q j m t dG bx cJ n k b.cJ lh c {f with bF:=bF} r o h u->pe m k (c++[{f with bF:=bF}]):=λac=>ac.eO.bo.QA fu (λaf G=>by
  rcases bT.1 G with G|G
  .have Z:=C.ok.bo af (by rw[C.fr];exact dO _ G);obtain⟨pg,_,av,an,_⟩:=Z.AJ C.ok.iu;have L:=Z.lr;have P:=Z.lo;have h3:=Z.lh;rw[av]at L P h3;have:=an.aU;omega
  .simp at G;subst G;simp only[];omega)
 have aQ:∀r',r'∈a.aO->br f.aU r'<1000->mV (br f.aU r'):=λr' a4 be=>by
  have ao:=C.arg r' a4;rcases C.F.ZF _ (gZ ao.1 ao.2)with Q|Q
  .exact Q
  .omega
 have aL:∀{ad:D}(hx:J A ad)(Y:Int)(s':St),s'={b with bo:=c++[bS.cE {f with bF:=bF,pc:=f.pc+1} a.bA Y 0]}->
  bJ dP 175 [vp t 0,vi a.bA,vi Y] ad λ_ S=>gT [m1.size,m.size] ad S/\Hb q j m t d p s' S:=λhx Y s' v=>by
  let⟨SM,tM⟩:=y.ext hx
  refine(Gf SM V hd.1 (by simp only[];omega) (by simp only[];omega) Y ak).aP ?_
  rintro _ S ⟨S',t'⟩
  exact⟨t'.fW (B.to tM),j,cJ,n,k,by rw[v];exact S'.eO,(t2.N tM).N t'⟩
 have aD:∀{ad:D}(hx:J A ad)(aH:Int)(s':St),s'={b with bo:=c++[{f with bF:=bF,pc:=aH}]}->
  bJ dP 182 [vp t 0,vi aH] ad λ_ S=>gT [m1.size,m.size] ad S/\Hb q j m t d p s' S:=λhx aH s' v=>by
  let⟨SM,tM⟩:=y.ext hx
  refine(nk SM V aH).aP ?_
  rintro _ S ⟨S',t'⟩
  exact⟨t'.fW (B.to tM),j,cJ,n,k,by rw[v];exact S'.eO,(t2.N tM).N t'⟩
 refine⟨λv=>?_,λe0=>?_⟩
 .simp at v
  exact aL dt _ _ (by unfold dI;simp only[];rw[a8 v])
 simp only[bd]at e0
 refine⟨λv=>?_,λe1=>?_⟩
 .simp only[eK,bQ]at v
  have P:=F.2.2.1 V
  have w:=aa V
  have I:0<=br a.aO 1/\br a.aO 1<f.aU.length:=C.arg _ (gZ V V)
  have K:=hM.nZ V
  refine⟨V,V,_,N y.eO.de V,w.1,V,_,U y w.1 w.2,V,V,_,(ha.ext y.eO.de).uG (i:=1) V V,I.1,V,_,U y I.1 I.2,?_⟩
  refine(Ue (aQ _ (gZ V V) (K _ (gZ V V))) (aQ _ (gZ V V) (K _ (gZ V V))) A).aP ?_
  rintro _ H ⟨rfl,z⟩
  refine⟨z.fg (λT hb=>(B T hb).1),_,O,z.cK (W.dg 1),aL z _ _ ?_⟩
  unfold dI;simp only[];rw[aV e0,a8 v]
 simp only[cZ,bd]at e1
 have aj:¬(a.op=1\/a.op=2\/a.op=3\/a.op=4):=V
 refine⟨λv=>?_,λe5=>?_⟩
 .simp only[bQ]at v
  have P:=F.2.1 V
  have w:=aa V
  have ae:(E.len cJ)=b.cJ.length:=by have:=y.eO.cJ.aT;simp at this;omega
  refine⟨cJ,y.eO.bU.dg 6,V,V,_,N y.eO.de V,w.1,V,_,U y w.1 w.2,?_⟩
  intro H
  have z:=px H
  have ni:jw H A.size 0 [.i (br f.aU (br a.aO 0))]:=(dJ.push A _ _).kv
  let⟨K,t3⟩:=y.ext z
  have B3:=B.to t3
  refine⟨z.cK (y.eO.bU.dg 6),iV.fE (f:=[.i 0]) (x:=.mk A.size 0 1 1) (new:=[.i (br f.aU (br a.aO 0))]) K.eO.cJ K.eO.bI O ni (by simp only[E.lU];omega) λal au m4 q1 q2=>?_⟩
  have R:iV al m4 bG 1 2 au ((b.cJ++[br f.aU (br a.aO 0)]).map Ce.i):=sp q1
  let⟨M,I⟩:=K.QN q2 R
  have B4:=B3.to I
  refine⟨I.fW B3,M.eO.pO (i:=6) bO,?_⟩
  intro m5
  let⟨S5,X⟩:=M.lW 6 [.s au]
  refine⟨X.fW B4,V,V,_,N S5.eO.de V,w.1,V,_,U S5 w.1 w.2,?_⟩
  refine(Gf (b:={b with cJ:=b.cJ++[br f.aU (br a.aO 0)]}) S5 V hd.1 (by simp only[];omega) (by simp only[];omega) _ ak).aP ?_
  rintro _ m6 ⟨S6,t6⟩
  refine⟨t6.fW (B4.to X),al,au,n,k,?_,(((t2.N t3).N I).N X).N t6⟩
  unfold dI;simp only[];rw[aV e0,aV aj,a8 v];exact S6.eO
 simp only[bd]at e5
 have aT:∀Y∈f.cL,Y≠0->1000<=Y/\ix Y<b.aR.length:=λY hw aG=>by
  obtain⟨L,dd,aZ,_⟩:=C.Qb Y hw aG;exact⟨L,bC aZ⟩
 refine⟨λv=>?_,λe6=>?_⟩
 .simp only[bQ]at v
  have h6:=F.2.2.2.2.1 v
  refine(zp y ha C.arg F.1 a.cG aF (by simp only[];omega) ⟨h6.1,h6.2.1⟩ ak V V aT).aP ?_
  rintro _ H ⟨ai,ah,ag,ae,L3,t3⟩
  refine⟨t3.fW B,ai,ah,ag,ae,?_,t2.N t3⟩
  have:dI g b c f a bF=rK b c {f with bF:=bF} a a.cG:=by
   unfold dI rK;simp only[];rw[aV e0,aV aj,aV e5,a8 v];rfl
  rw[this];exact L3
 simp only[bd]at e6
 refine⟨λv=>?_,λaC=>?_⟩
 .simp only[bQ]at v
  have ay:=F.2.2.2.2.2.1 v
  have ao:a.cR=0:=by rcases hI.cR with Q|Q;exact Q;omega
  have az:(gU g.bR).length<=12:=by
   have:=tZ C.ok.iu.kX.dj g.bR.length;rw[qI _ _ bY]at this;exact this
  refine⟨d,y.eO.bU.dg 0,(vf (aE.ext y.eO.de).bR C.ok.iu.kX.dj).aP ?_⟩
  rintro _ H ⟨rfl,z⟩
  let⟨K,t3⟩:=y.ext z
  have e3:eV (((gU g.bR).length:Int)+a.cG)=cT g+a.cG:=gJ
  refine⟨t3.fW B,_,O,z.cK (W.dg 2),z.cK (W.dg 0),z.cK (W.dg 1),z.cK (W.dg 2),z.cK (W.dg 3),z.cK (W.dg 4),z.cK (W.dg 5),z.cK (kF.dg 0),z.cK (kF.dg 1),z.cK (kF.dg 2),z.cK (kF.dg 3),z.cK (kF.dg 4),z.cK (kF.dg 5),?_⟩
  rw[e3]
  refine(zp K ha C.arg F.1 (cT g+a.cG) aF (by simp only[];omega) (by rw[ao];omega) ak V V aT).aP ?_
  rintro _ m4 ⟨al,ax,aq,aw,R,I⟩
  refine⟨I.fW (B.to t3),al,ax,aq,aw,?_,(t2.N t3).N I⟩
  have:dI g b c f a bF=rK b c {f with bF:=bF} a (cT g+a.cG):=by
   unfold dI rK;simp only[];rw[aV e0,aV aj,aV e5,aV e6,a8 v,aV (λhh=>hh.1 ao)];rfl
  rw[this];exact R
 simp only[bd]at aC
 refine⟨λv=>?_,λe9=>?_⟩
 .simp only[eK,bQ]at v
  have R:=hI.op
  unfold kQ at R
  refine(RY y aE C.ok.iu ha C.arg F.1 V (λe'=>?_) (λe'=>⟨F.2.2.1 V,hM.apply e'⟩) aF (λaf G=>?_) ak V V V V C.ok.aR).aP ?_
  .rw[aV V,aV V,aV V,aV V,a8 e']at R;exact R
  .have Z:=C.ok.bo af (by rw[C.fr];exact dO _ G)
   obtain⟨pg,_,av,an,_⟩:=Z.AJ C.ok.iu
   have L:=Z.lr
   have P:=Z.lo
   have h3:=Z.lh
   rw[av]at L P h3
   have:=an.aU
   omega
  rintro _ H ⟨ai,ah,ag,ae,L3,t3⟩
  refine⟨t3.fW B,ai,ah,ag,ae,?_,t2.N t3⟩
  have:dI g b c f a bF=vu g b c {f with bF:=bF} a:=by
   unfold dI vu;simp only[];rw[aV e0,aV aj,aV e5,aV e6,aV aC,aV V,aV V,aV V,aV V,aV V,aV V,aV V,aV V];by_cases e9:a.op=9
   .rw[a8 e9,a8 e9];rfl
   .rw[aV e9,aV e9];by_cases Z:a.op=24
    .rw[a8 Z,a8 Z];rfl
    .rw[aV Z,aV Z,a8 V]
  rw[this];exact L3
 simp only[cZ,bd]at e9
 refine⟨λv=>?_,λaW=>?_⟩
 .simp only[bQ]at v
  have P:=F.2.1 V
  have w:=aa V
  refine⟨V,V,_,N y.eO.de V,w.1,V,_,U y w.1 w.2,(R9 y V (br f.aU (br a.aO 0)) (λaf G=>?_)).aP ?_⟩
  .have aG:c≠[]:=λv=>by rw[v]at G;simp at G
   have Z:c=c.dropLast++[af]:=by
    rw[rH aG]at G;simp at G;rw[<-G];exact(sE aG).symm
   have av:c.length=c.dropLast.length+1:=by
    have:=jR List.length Z;simpa using this
   let⟨q1,q2,q3⟩:=C.ok.tX c.dropLast.length af f (by rw[C.fr,Z];simp) (by rw[C.fr,<-av];simp)
   have an:=C.ok.bo af (by rw[C.fr,Z];simp)
   have:=an.lr
   have:=an.lo
   exact⟨q1,by show f.bA<_;omega,by show f.bA<_;omega⟩
  rintro _ H ⟨ai,ah,ag,ae,L3,t3⟩
  refine⟨t3.fW B,ai,ah,ag,ae,?_,t2.N t3⟩
  unfold dI
  simp only[]
  rw[aV e0,aV aj,aV e5,aV e6,aV aC,aV V,aV V,aV V,aV V,aV V,aV V,aV V,aV V,aV V,aV V,aV V]
  exact L3
 simp only[bd]at aW
 have a1:∀(af:St),(if a.op=0 then af else af)=af:=λaf=>by split<;>rfl
 have Rv:dI g b c f a bF=(
  if a.op=14 then{b with aR:=pU b.aR (br f.aU (br a.aO 0)),bo:=c++[{f with bF:=iv bF (br a.aO 0) (br bF (br a.aO 0)+1),pc:=f.pc+1}]}
  else if a.op=15 then{b with aR:=oY (ju b.aR [br f.aU (br a.aO 0)]),bo:=c++[{f with bF:=bF,pc:=f.pc+1}]}
  else if a.op=16\/a.op=17 then xX b c {f with bF:=bF} a
  else if a.op=18 then{b with bo:=c++[bS.cE {f with bF:=bF,pc:=f.pc+1} a.bA (br f.aU (br a.aO 0)) (ig (br f.aU (br a.aO 0)))]}
  else if a.op=19 then{b with bo:=c++[bS.cE {f with bF:=bF,pc:=f.pc+1} a.bA (br (bu b.aR (br f.aU (br a.aO 0))).bV a.cG) 0]}
  else if a.op=20 then{b with bo:=c++[{f with bF:=bF,pc:=if br f.aU (br a.aO 0)=0 then a.cG else f.pc+1}]}
  else if a.op=21 then{b with bo:=c++[{f with bF:=bF,pc:=br a.fU (ua (cY g.bR a.cG) (bu b.aR (br f.aU (br a.aO 0))).jH)}]}
  else{b with bo:=c++[{f with bF:=bF,pc:=a.cG}]}):=by
  unfold dI
  simp only[]
  rw[aV e0,aV aj,aV e5,aV e6,aV aC]
  by_cases av:a.op=14
  .rw[a8 av,a8 av]
  rw[aV av,aV av]
  by_cases aw:a.op=15
  .rw[a8 aw,a8 aw]
  rw[aV aw,aV aw]
  by_cases ax:a.op=16\/a.op=17
  .rw[a8 ax,a8 ax];rfl
  rw[aV ax,aV ax]
  by_cases ay:a.op=18
  .rw[a8 ay,a8 ay]
  rw[aV ay,aV ay]
  by_cases az:a.op=19
  .rw[a8 az,a8 az]
  rw[aV az,aV az]
  by_cases aA:a.op=20
  .rw[a8 aA,a8 aA]
  rw[aV aA,aV aA]
  by_cases aB:a.op=21
  .rw[a8 aB,a8 aB]
  rw[aV aB,aV aB]
  have:=C.opc
  rw[a8 V]
 rw[Rv]
 clear Rv a1
 refine⟨λv=>?_,λaM=>?_⟩
 .simp only[bQ]at v
  rw[a8 v]
  have P:=F.2.1 V
  have w:=aa V
  let⟨Z,bh⟩:=hM.WQ v
  let⟨aY,bn⟩:=dL Z
  refine⟨V,V,_,N y.eO.de V,w.1,V,_,U y w.1 w.2,?_⟩
  intro H
  have z:=px H
  have ow:js A H bG 1 (.mk A.size 0 1 1) ([br f.aU (br a.aO 0)].map Ce.i):=js.bI (J.cX A) bG 1 _ 1 bO
  let⟨K,t3⟩:=y.ext z
  have B3:=B.to t3
  have hz:j A.size=0:=y.eO.bI _ bY
  refine(IF K.eO (bg.jT ow bO) (λ_=>hz) (λY hw=>?_) (λaU hc=>?_) bO V).aP ?_
  .simp at hw;subst hw;exact⟨Z.1,bC aY⟩
  .have:=C.ok.aR.iF aU hc;have Q:=this.lo;have h6:=this.hi;omega
  rintro _ m4 ⟨aI,c4⟩
  let⟨M,I⟩:=K.jN (c4.aP λaf hk=>bz hk) aI
  have B4:=B3.to I
  have an:br a.aO 0<bF.length:=V
  have bj:0<=br bF (br a.aO 0)/\br bF (br a.aO 0)<=999999:=by
   refine⟨hM.nn _ (gZ (l:=bF) w.1 an),?_⟩;have G:=jJ (l:=bF) w.1 an;rw[ap]at G;let⟨qq,aJ,aP⟩:=oB _ _ _ _ G;have:=(C.TU qq (ba aJ)).2;rw[<-ap]at aP;omega
  have aX:eV (br bF (br a.aO 0)+1)=br bF (br a.aO 0)+1:=gJ
  refine⟨I.fW B3,V,V,_,N M.eO.de V,V,V,_,N M.eO.de V,w.1,V,br bF (br a.aO 0),(M.NW (by simp only[];omega)).uG w.1 an,w.1,V,M.jA.bF.Ur w.1 an,?_⟩
  rw[aX,e4]
  intro m5
  let⟨S5,X⟩:=M.uq w.1 an (br bF (br a.aO 0)+1)
  refine⟨X.fW B4,(nk (b:={b with aR:=kO b.aR [br f.aU (br a.aO 0)]}) S5 V (f.pc+1)).aP ?_⟩
  rintro _ m6 ⟨S6,t6⟩
  exact⟨t6.fW (B4.to X),j,cJ,n,k,S6.eO,(((t2.N t3).N I).N X).N t6⟩
 simp only[bd]at aM
 rw[aV aM]
 have aU:a.aO.length=1->a.aO=[br a.aO 0]:=λL=>by
  cases hx:a.aO with
  |nil=>rw[hx]at L;simp at L
  |cons an G=>cases G with
   |nil=>rfl
   |cons aX G=>rw[hx]at L;simp at L
 refine⟨λv=>?_,λan=>?_⟩
 .simp only[bQ]at v
  rw[a8 v]
  have P:=F.2.1 V
  have w:=aa V
  have ht:cq g a=[br a.aO 0]:=by unfold cq;rw[a8 V];exact aU V
  have G:=aN.1
  rw[ht]at G
  refine⟨n,y.eO.bU.dg 7,V,V,_,N y.eO.de V,w.1,V,_,U y w.1 w.2,?_⟩
  intro H
  have z:=px H
  have ow:js A H bG 1 (.mk A.size 0 1 1) ([br f.aU (br a.aO 0)].map Ce.i):=js.bI (J.cX A) bG 1 _ 1 bO
  let⟨K,t3⟩:=y.ext z
  have B3:=B.to t3
  refine⟨z.cK (y.eO.bU.dg 7),(Li K.eO.aR K.eO.bI (bg.jT ow bO) (e:=λT=>oO c T+jk f.aU bF T) (G.congr λT=>O) aN.2 V).aP ?_⟩
  rintro _ m4 ⟨al,aq,rfl,aI,c4⟩
  let⟨M,I⟩:=K.jN c4 aI
  have B4:=B3.to I
  refine⟨I.fW B3,aq,O,M.eO.pO (i:=7) bO,?_⟩
  intro m5
  let⟨S5,X⟩:=M.lW 7 [.s aq]
  rw[e4]
  refine⟨X.fW B4,(nk (b:={b with aR:=oY (ju b.aR [br f.aU (br a.aO 0)])}) S5 V (f.pc+1)).aP ?_⟩
  rintro _ m6 ⟨S6,t6⟩
  exact⟨t6.fW (B4.to X),al,cJ,aq,k,S6.eO,(((t2.N t3).N I).N X).N t6⟩
 simp only[bd]at an
 rw[aV an]
 refine⟨λv=>?_,λal=>?_⟩
 .simp only[eK,bQ]at v
  rw[a8 v]
  refine(Nb y ha C.arg ⟨F.2.2.2.1 v,F.1⟩ aF ak V V (λau G=>?_) (hM.AL v).1 C.ok.aR).aP ?_
  .refine⟨hM.nn au G,?_⟩
   let⟨af,hk⟩:=db.1 G
   simp only[]at hk
   rw[ap]at hk
   let⟨qq,aJ,aP⟩:=oB _ _ _ _ hk
   have:=(C.TU qq (ba aJ)).2
   omega
  rintro _ H ⟨ai,ah,ag,ae,L3,t3⟩
  exact⟨t3.fW B,ai,ah,ag,ae,L3,t2.N t3⟩
 simp only[cZ,bd]at al
 rw[aV V]
 refine⟨λv=>?_,λX=>?_⟩
 .simp only[bQ]at v
  rw[a8 v]
  have P:=F.2.1 V
  have w:=aa V
  refine⟨V,V,_,N y.eO.de V,w.1,V,_,U y w.1 w.2,(yo y V hd.1 (by simp only[];omega) (by simp only[];omega) _).aP ?_⟩
  rintro _ H ⟨K,t3⟩
  rw[e4]
  refine⟨t3.fW B,(nk K V (f.pc+1)).aP ?_⟩
  rintro _ m4 ⟨M,I⟩
  exact⟨I.fW (B.to t3),j,cJ,n,k,M.eO,(t2.N t3).N I⟩
 simp only[bd]at X
 rw[aV X]
 have ag:=y.rv aE V V (a0 y)
 refine⟨λv=>?_,λK=>?_⟩
 .simp only[bQ]at v
  rw[a8 v]
  have P:=F.2.1 V
  have w:=aa V
  let⟨Z,G⟩:=hM.pV v
  have R:=hI.op
  unfold kQ at R
  simp(disch:=omega) only[aV,a8]at R
  refine⟨V,V,_,N y.eO.de V,w.1,V,_,U y w.1 w.2,(jx ag Z.1 (dL Z).1).aP ?_⟩
  rintro _ H ⟨fl,rfl,I,z⟩
  have M:=I.aT
  refine⟨z.fg (λT hb=>(B T hb).1),_,_,_,O,z.cK (W.dg 2),z.cK (W.dg 1),R.2.1,V,_,I.uG R.2.1 G,aL z _ _ O⟩
 simp only[bd]at K
 rw[aV K]
 refine⟨λv=>?_,λM=>?_⟩
 .simp only[bQ]at v
  rw[a8 v]
  have P:=F.2.1 V
  have w:=aa V
  refine⟨V,V,_,N y.eO.de V,w.1,V,_,U y w.1 w.2,λQ=>?_,λQ=>?_⟩
  .simp at Q;exact aD dt _ _ (by rw[a8 Q])
  .simp at Q;rw[e4];exact aD dt _ _ (by rw[aV Q])
 simp only[bd]at M
 rw[aV M]
 refine⟨λv=>?_,λae=>?_⟩
 .simp only[bQ]at v
  rw[a8 v]
  have P:=F.2.1 V
  have w:=aa V
  let⟨Z,ah⟩:=hM.ta v
  let⟨aY,bh,aI,au⟩:=IY ah
  have R:=hI.op
  unfold kQ at R
  simp(disch:=omega) only[aV,a8]at R
  have aJ:ua (cY g.bR a.cG) (bu b.aR (br f.aU (br a.aO 0))).jH<(cY g.bR a.cG).length:=mC ⟨_,ah,bO⟩
  have aX:=hj.aT
  have aP:=R.2.2.1
  have aq:=(C.ok.aR.iF _ (ba (dL Z).1)).yZ (dL Z).2
  have bj:=C.ok.iu.kX.dj.aT
  refine⟨V,V,_,N y.eO.de V,w.1,V,_,U y w.1 w.2,(jx ag Z.1 (dL Z).1).aP ?_⟩
  rintro _ H ⟨fl,rfl,I,z⟩
  have e7:eV (a.cG -1)=((a.cG.toNat -1:Nat):Int):=by rw[gJ];omega
  rw[e7]
  have ai:=y.eO.de.N z
  refine⟨z.fg (λT hb=>(B T hb).1),_,_,_,O,d,z.aS (y.eO.bU.dg 0),(nt (aE.ext ai).bR C.ok.iu.kX.dj V).aP ?_⟩
  rintro _ m4 ⟨rfl,G⟩
  have e8:eV ((bu b.aR (br f.aU (br a.aO 0))).jH -((fc g.bR (a.cG.toNat -1):Nat):Int))=((ua (cY g.bR a.cG) (bu b.aR (br f.aU (br a.aO 0))).jH:Nat):Int):=by
   rw[gJ];omega
  refine⟨G.fg (λT hb=>z.lt (B T hb).1),_,O,G.cK ((W.ext z).dg 5),?_⟩
  rw[e8]
  refine⟨V,V,_,(hj.ext (ai.N G)).uG V V,aD (z.N G) _ _ O⟩
 simp only[bd]at ae
 rw[aV ae]
 refine⟨λv=>aD dt _ _ O,λw=>?_⟩
 simp only[bd]at w
 have:=C.opc
 omega
end
section
def aaJ{l a:ab}(h:a.length=l.length):jm (l.map Ce.i) 0 (a.map Ce.i)=a.map Ce.i:=by
 have:=Cd [] (a.map Ce.i) (l.map Ce.i) cC;grind [List.length_nil,List.drop_of_length_le]
section
variable{j:D}{c:ag}{a:D}{g k:Nat}{q:ae}{cJ e b:E}{u:ab}{t:ah}{l:aj}{f:bS}{r i h:E}{m:List ae}
def ST.abl(S:ST j c a g k q cJ e b u t l f r i h m){bF:ab}(p:bF.length=f.bF.length)(w:0<bF.length):gK a i.bt i.off (bF.map Ce.i).length/\ST j c (aW a i.bt i.off (bF.map Ce.i)) g k q cJ e b u t l {f with bF:=bF} r i h m/\To c a c (aW a i.bt i.off (bF.map Ce.i)):=by
 have T:=S.jA;have B:i.cap≠0:=λk=>by have:=(T.bF.Ir k).1;simp at this;rw[this]at p;simp at p;rw[p]at w;simp at w
 have A:=T.bF.bt B;have d:eu (λs=>s=11+3*l.length) c a c (aW a i.bt i.off (bF.map Ce.i)):=eu.aW S.eO.bI A.2 _ _;have x:=T.bF.eE (o:=0) (new:=bF.map Ce.i) cC;rw[aaJ p,uJ]at x;have v:rU c (aW a i.bt i.off (bF.map Ce.i)) b l {f with bF:=bF} r i h m:=⟨T.rm.gX d V,T.aT,T.aQ,T.CU d λs _ y=>V,T.aU.gX d V,x,T.cL.gX d V⟩;let⟨y,z⟩:=S.eO.mJ (d.aP λs C=>V) v.qC;refine⟨?_,⟨y,v⟩,z⟩;have:=T.bF.wr (o:=0) (n:=(bF.map Ce.i).length) cC;grind
end
variable{j:D}{c:ag}{a:D}{g:Nat}{d p cJ e b:E}{s:St}
def Uf{k:cO}(L:uH j c a g dG (SB d p s cJ e b) cJ e b s.cJ s.aR s.bo)(I:iW j d p k)(z:eJ k s)(aC:∀N∈s.bo,∀A∈N.aU,A<=9223372036854775807)(aE:s.aR.length<=900000000)(aJ:s.cJ.length<=900000000):
 bJ dP 66 [vp g 0] a λ_ m'=>Hb j c a g d p (kD k s) m':=by
 apply Bc (g,0)
 simp -zeta only[dT]
 refine⟨s.dx,L.bU.dg 2,λR=>?_,λR=>?_⟩
 .simp at R
  rw[pB R]
  exact⟨c,cJ,e,b,L,eu.cX _ L.bI⟩
 have ab:s.dx=3:=sp R
 let⟨n,h,t⟩:=z.split ab
 have aG:s.bo.getLast?=some h:=by rw[t];simp
 have aA:s.bo.dropLast=n:=by rw[t];simp
 have C:vY k s n h (bK k h):=⟨z,ab,t,O,aC⟩
 have aO:kD k s=(open Classical in if ms (bK k h).op/\s.dv=s.df then{s with dx:=1}else if iN k s h (bK k h) (bZ h.aU h.bF (cq k (bK k h)))then dI k s n h (bK k h) (bZ h.aU h.bF (cq k (bK k h)))else{s with dx:=2}):=by
  unfold kD;rw[aV (sp ab),aG,aA]
 rw[aO]
 generalize bK k h=x at*
 have L':uH j c a g dG (SB d p s cJ e b) cJ e b s.cJ s.aR (n++[h]):=by rw[<-t];exact L
 let⟨U,K,Q,ar,Z⟩:=L'.bo.jA
 have S:ST j c a g dG (SB d p s cJ e b) cJ e b s.cJ s.aR n h U K Q ar:=⟨L',Z⟩
 have aY:=Z.CM
 have aj:=z.eG
 have aX:=z.dv
 have a0:=z.df
 rw[t]at aj
 have aZ:n.length<=1000:=by simp at aj;omega
 have e1:eV ((b.len:Int) -1)=(n.length:Int):=by rw[gJ];omega
 have e2:Int.toNat (n.length:Int)=n.length:=V
 have P:aS a g 8=some b.v:=S.eO.bU.dg 8
 let⟨g0,g1,g2,g3,g4,g5⟩:=Z.kv
 refine⟨b,P,b,P,?_⟩
 rw[e1,e2]
 refine⟨V,V,_,g0,_,g1,_,g2,U,g3,K,g4,Q,g5,?_⟩
 intro m1
 have u:=px m1
 refine⟨u.cK g0,u.cK g1,u.cK g2,u.cK g3,u.cK g4,u.cK g5,u.cK P,u.cK P,?_⟩
 intro w
 have aP:J a w:=u.aW bY _ _
 have s2:w.size=a.size+1:=by simp[w,m1,bE]
 have kF:dJ w a.size gS [.i h.fN,.i h.pc,.i h.bA,.s U,.s K,.s Q]:=dJ.aW (m:=m1) (o:=0) (r:=[.i h.fN,.i h.pc,.i h.bA,.s U,.s K,.s Q]) (dJ.push a _ _)
 let⟨M,t2⟩:=S.ext aP
 clear_value w
 let⟨a7,hq,aM,hP,az,hI⟩:=C.I
 let⟨pa,pl,pc,a1,a3,al,k0,k1,k2,k3,k4⟩:=I.cU.br hq
 let⟨aq,aQ,ha,hj,i0,i1,i2,i3,i4,i5⟩:=al.br az
 have a4:=I.cU.aT
 have a2:=al.aT
 have hF:=C.F
 have aL:=hF.fN
 have ak:=hF.pc
 rw[aM]at ak
 have l:=M.eO.de
 refine⟨p,M.eO.bU.dg 1,aL.1,V,pc,l.aS k4,ak.1,V,_,l.aS i0,_,l.aS i1,_,l.aS i2,_,l.aS i3,aq,l.aS i4,aQ,l.aS i5,?_⟩
 intro m3
 have q:=px m3
 refine⟨q.cK (l.aS i0),q.cK (l.aS i1),q.cK (l.aS i2),q.cK (l.aS i3),q.cK (l.aS i4),q.cK (l.aS i5),q.cK (kF.dg 1),q.cK (l.aS k4),q.cK (kF.dg 0),q.cK (M.eO.bU.dg 1),?_⟩
 intro T
 have ad:J w T:=q.aW bY _ _
 have s4:T.size=w.size+1:=by simp[T,m3,bE]
 let⟨S4,t4⟩:=M.ext ad
 have aR:=kF.ext ad
 have B4:Eb c T [w.size,a.size]:=λac H=>by
  simp at H;rcases H with rfl|rfl
  .exact⟨V,S.eO.bI _ V⟩
  .exact⟨V,S.eO.bI _ bY⟩
 have aW:=t2.N t4
 refine(Q3).aP ?_
 rintro _ m5 ⟨ac,rfl,H,ae⟩
 let⟨v,t5⟩:=S4.ext ae
 have W:=B4.to t5
 have B:=aR.ext ae
 have am:=aW.N t5
 have aF:=C.RO
 have h4:=C.oD
 have aa:(bZ h.aU h.bF (cq k x)).length=h.bF.length:=mz _ _ _
 refine⟨t5.fW B4,ac,O,λax=>⟨s.dv,v.eO.bU.dg 4,s.df,v.eO.bU.dg 5,λG=>?_,λG=>?_⟩,λaw=>?_⟩
 .simp at G
  refine⟨v.eO.pO (i:=2) bO,?_⟩
  intro m6
  let⟨F,D⟩:=v.lW 2 [.i 1]
  refine⟨D.fW W,c,cJ,e,b,?_,am.N D⟩
  rw[a8 ⟨H.1 ax,G⟩]
  have:=F.eO
  rw[<-t]at this
  exact this
 all_goals
  have ay:¬(ms x.op/\s.dv=s.df):=by
   first
   |exactλy=>by simp at G;exact G y.2
   |exactλy=>fb H aw y.1
  rw[aV ay]
  have ai:=v.eO.de
  refine⟨d,v.eO.bU.dg 0,p,v.eO.bU.dg 1,(O8 (I.ext ai) C.jt (ha.ext ai) V h4.2.2.2.1).aP ?_⟩
  rintro _ m6 ⟨ts,rfl,ot,y⟩
  let⟨F,D⟩:=v.ext y
  have B6:=W.to D
  have a5:=Nu k x
  have it:bg m6 ts (cq k x):=bg.jT ot V
  refine⟨D.fW W,ts,O,y.cK (B.dg 0),y.cK (B.dg 1),y.cK (B.dg 2),y.cK (B.dg 3),y.cK (B.dg 4),y.cK (B.dg 5),?_⟩
  refine(Nc (b:=h) (F.E8 V) (F.NW V) it C.Pg aF.1 V V (λA E=>oh (C.TU A E))).aP ?_
  rintro _ m7 ⟨os,rfl,oo,av⟩
  let⟨A,t7⟩:=F.ext av
  have B7:=B6.to t7
  have io:bg m7 os (bZ h.aU h.bF (cq k x)):=bg.jT oo V
  have aD:pe m7 b (n++[h]):=A.eO.bo.QA fu (λN Y=>by
   have E:=z.bo N (by rw[t];exact Y);obtain⟨pg,_,af,X,_⟩:=E.AJ z.iu;have q1:=E.lr;have q2:=E.lo;have q3:=E.lh;rw[af]at q1 q2 q3;have:=X.aU;omega)
  have ag:=A.rv I V V aD
  have aN:({s with bo:=n++[h]}:St)=s:=by rw[<-t]
  rw[aN]at ag
  refine⟨t7.fW B6,os,O,(Q5 ag C (A.E8 V) (A.Xc V) (ha.ext A.eO.de) io aa).aP ?_⟩
  rintro _ m8 ⟨b2,rfl,ah,af⟩
  let⟨N,t8⟩:=A.ext af
  have X:=B7.to t8
  have an:=((am.N D).N t7).N t8
  refine⟨t8.fW B7,b2,O,λh9=>?_,λh9=>?_⟩
  .rw[aV (nb ah h9)]
   refine⟨N.eO.pO (i:=2) bO,?_⟩
   intro m9
   let⟨Y,E⟩:=N.lW 2 [.i 2]
   refine⟨E.fW X,c,cJ,e,b,?_,an.N E⟩
   have:=Y.eO
   rw[<-t]at this
   exact this
  .have hM:=yb ah h9
   rw[a8 hM]
   have aI:=io.aT
   have aH:K.len=h.bF.length:=by have:=N.jA.bF.aT;simp at this;omega
   let⟨w1,Y,E⟩:=N.abl aa V
   refine⟨(bZ h.aU h.bF (cq k x)).map Ce.i,by rw[aI,aH,aa];simp;omega,(io.ext af).Fb,w1,?_⟩
   intro m9
   have B9:=X.to E
   refine⟨E.fW X,(OZ C O hM Y I ha hj aE aJ).aP ?_⟩
   rintro _ a6 aB
   let⟨aU,aT,aK,au,ap,ao⟩:=aB
   exact⟨ao.fW B9,aU,aT,aK,au,ap,(an.N E).N ao⟩
end
section
variable{a:cO}{s:St}{n:Nat}
@[grind cases] structure Sm (n:Nat) (s:St):Prop where
 aR:s.aR.length<=n
 cJ:s.cJ.length<=n
 Mi:∀g∈s.bo,∀w∈g.aU,w<=9223372036854775807
def GM:∀(n:Nat)(h:ah)(g:ab),Es h+g.length<=n->(ju h g).length=h.length
 |n,h,[],_=>by rw[uT]
 |0,h,w::r,b=>by simp at b
 |n+1,h,w::r,b=>by
  simp only[dD]at b;rcases fS (iR h w)with a|a
  .let⟨e,f⟩:=dL a;by_cases c:(bu h w).bX=1
   .have d:=mq (d:=kV) e;simp only[a8 f,kV]at d;simp at d;rw[uU a c,GM n _ _ (by simp[kV];omega)];simp
   .have d:=mq (d:={bu h w with bX:=(bu h w).bX -1}) e;simp only[a8 f]at d;rw[a8 V]at d;rw[sO a c,GM n _ _ (by simp only[iQ];omega)];simp[iQ]
  .rw[sP a,GM n _ _ V]
theorem V8(h:ah):(oY h).length<=h.length:=by grind [oY]
theorem QB:∀(a:ab)(g:ah),(kO g a).length=g.length
 |[],g=>O
 |w::a,g=>by rw[kO,QB a];simp[pU]
def Sr(h:ah)(w:Int):(iK h w).length<=h.length:=by
 grind [iK,V8,QB,iQ]
def SL(h:ah)(a:Nat)(c:dz):(jM h a c).length<=h.length+1:=by
 grind [jM]
theorem Xm{k:aj}{f:bS}{x:Instr}(C:vY a s k f x)(B:Sm n s)(hn:n<=900000000)(bF:ab)(Z:iN a s f x bF):Sm (n+1) (dI a s k f x bF):=by
 have hh:=B.aR;have ho:=B.cJ;have v:=B.Mi;rw[C.fr]at v;have Y:=C.oD;have t:∀r,br f.aU r<=9223372036854775807:=λr=>by
  rcases eH r.toNat f.aU.length with m|m
  .let⟨y,b⟩:=jq m;rw[IV b];exact v f bO y (ba b)
  .rw[br,fG,lp m];simp
 have CU:∀g∈k,∀w∈g.aU,w<=9223372036854775807:=λg p=>v g (by simp[p]);have c:∀{g:bS},(∀w∈g.aU,w<=9223372036854775807)->∀q∈k++[g],∀w∈q.aU,w<=9223372036854775807:=λp q d=>by
  rcases bT.1 d with d|d
  .exact CU q d
  .simp at d;subst d;exact p
 have e:∀w∈f.aU,w<=9223372036854775807:=v f bO;have j:∀(H:Int),H<=9223372036854775807->∀w∈iv f.aU x.bA H,w<=9223372036854775807:=λH hv w b=>by
  rcases uf b with rfl|b
  .exact hv
  .exact e w b
 have ac:∀{w},mV w\/iR s.aR w->w<=9223372036854775807:=λh=>by
  rcases h with h|h
  .have:=h.2;omega
  .have m:=bC (dL h).1;unfold ix at m;omega
 have G:∀(g K:Int)(I:ab),(∀w∈I,w<=9223372036854775807)->∀w∈(ct a g K I).aU,w<=9223372036854775807:=λg K I b w h=>by
  simp only[ct]at h;rcases bT.1 h with h|h
  .exact b w h
  .rw[pQ h];omega
 have Nv:∀{g q:bS},(∀w∈g.aU,w<=9223372036854775807)->(∀w∈q.aU,w<=9223372036854775807)->∀J∈k++[g,q],∀w∈J.aU,w<=9223372036854775807:=λp d J o=>by
  rcases bT.1 o with o|o
  .exact CU J o
  .simp at o;rcases o with rfl|rfl
   .exact p
   .exact d
 have aa:∀w∈dR f x.aO,w<=9223372036854775807:=λw b=>by
  obtain⟨r,_,rfl⟩:=fA.1 b;exact t r
 have ad:=tv s.aR;unfold dI;simp only[];by_cases y:x.op=0
 .rw[a8 y];exact⟨by simp only[];omega,by simp only[];omega,c (j _ (oh (Y.2.2.2.2.2.2 y)))⟩
 rw[aV y];by_cases L:x.op=1\/x.op=2\/x.op=3\/x.op=4
 .rw[a8 L];exact⟨by simp only[];omega,by simp only[];omega,c (j _ (oh ((Qw x.op (br f.aU (br x.aO 0)) (br f.aU (br x.aO 1))).2)))⟩
 rw[aV L];by_cases W:x.op=5
 .rw[a8 W];exact⟨by simp only[];omega,fu,c (j _ (t _))⟩
 rw[aV W];by_cases A:x.op=6
 .rw[a8 A];split
  .refine⟨fu,by simp only[];omega,c (j _ ?_)⟩;rename_i u;have E:=Y.2.2.2.2.1 A;obtain⟨F,D,z,_⟩:=C.Qb _ (gZ (l:=f.cL) (i:=x.cR -1) V V) u.2;have:=bC z;unfold ix at this;omega
  .refine⟨?_,by simp only[];omega,c (j _ V)⟩;have:=SL s.aR (fF s.aR) ⟨1,x.cG,dR f x.aO⟩;simp only[];omega
 rw[aV A];by_cases M:x.op=10
 .rw[a8 M];refine⟨?_,by simp only[];omega,c (j _ V)⟩;have:=SL s.aR (fF s.aR) ⟨1,cT a+x.cG,dR f x.aO⟩;simp only[];omega
 rw[aV M];by_cases N:x.op=14
 .rw[a8 N];exact⟨by simp[pU];omega,by simp only[];omega,c e⟩
 rw[aV N];by_cases O:x.op=15
 .rw[a8 O];refine⟨?_,by simp only[];omega,c e⟩;have m:=V8 (ju s.aR [br f.aU (br x.aO 0)]);rw[GM _ _ _ bY]at m;simp only[];omega
 rw[aV O];by_cases P:x.op=16\/x.op=17
 .rw[a8 P];split
  .exact⟨fu,by simp only[];omega,c e⟩
  .refine⟨?_,by simp only[];omega,c e⟩;have:=Sr s.aR (br f.aU (br x.aO 0));simp only[];omega
 rw[aV P];by_cases Q:x.op=18
 .rw[a8 Q];exact⟨by simp only[];omega,by simp only[];omega,c (j _ (t _))⟩
 rw[aV Q];by_cases u:x.op=19
 .rw[a8 u];refine⟨by simp only[];omega,by simp only[];omega,c (j _ ?_)⟩;let⟨E,S⟩:=Z.pV u;obtain⟨T,_,_,_,_,R⟩:=C.I;have z:=R.op;unfold kQ at z;rw[aV V,aV V,aV V,aV V,aV V,aV V,aV V,a8 u]at z;let⟨D,F⟩:=dL E;exact ac (((C.ok.aR.iF _ (ba D)).yZ F).1 _ (gZ z.2.1 S))
 rw[aV u];by_cases R:x.op=20
 .rw[a8 R];exact⟨by simp only[];omega,by simp only[];omega,c e⟩
 rw[aV R];by_cases S:x.op=21
 .rw[a8 S];exact⟨by simp only[];omega,by simp only[];omega,c e⟩
 rw[aV S];by_cases T:x.op=22
 .rw[a8 T];exact⟨by simp only[];omega,by simp only[];omega,c e⟩
 rw[aV T];by_cases X:x.op=9
 .rw[a8 X];exact⟨by simp only[];omega,by simp only[];omega,Nv e (G _ _ _ aa)⟩
 rw[aV X];by_cases U:x.op=24
 .rw[a8 U];exact⟨by simp only[];omega,by simp only[];omega,c (G _ _ _ aa)⟩
 rw[aV U];by_cases z:x.op=11
 .rw[a8 z];refine⟨?_,by simp only[];omega,Nv e (G _ _ _ λw b=>?_)⟩
  .have:=Sr s.aR (br f.aU (br x.aO 0));simp only[];omega
  .rcases bT.1 b with b|b
   .obtain⟨E,_⟩:=Z.apply z;let⟨D,F⟩:=dL E;exact ac (((C.ok.aR.iF _ (ba D)).yZ F).1 _ b)
   .simp at b;subst b;exact t _
 rw[aV z];split
 .exact⟨by simp only[];omega,by simp only[];omega,bO⟩
 .rename_i D E;refine⟨by simp only[];omega,by simp only[];omega,λq d=>?_⟩;have F:D∈k:=List.mem_of_getLast? E;rcases bT.1 d with d|d
  .exact CU q ((List.dropLast_sublist k).subset d)
  .simp at d;subst d;intro w b;rcases uf b with rfl|b
   .exact t _
   .exact CU D F w b
def abH(h:eJ a s)(c:Sm n s)(k:n<=900000000):Sm (n+1) (kD a s):=by
 have b:Sm (n+1) s:=⟨by have:=c.aR;omega,oh c.cJ,c.Mi⟩;by_cases e:s.dx=3
 .let⟨d,f,i⟩:=h.split e;have j:s.bo.getLast?=some f:=cC;have g:s.bo.dropLast=d:=cC;have C:vY a s d f (bK a f):=⟨h,e,i,O,c.Mi⟩;unfold kD;rw[aV cC,j,g];simp only[];split
  .exact⟨b.aR,b.cJ,b.Mi⟩
  split
  .grind [Xm]
  .exact⟨b.aR,b.cJ,b.Mi⟩
 .grind [pB]
def Bn{a:cO}:∀(k:Nat){s:St}{n:Nat},eJ a s->Sm n s->n+k<=900000000->Sm (n+k) (bq a k s)
 |0,s,n,_,b,_=>b
 |k+1,s,n,h,b,c=>by
  have:=Bn k (Pf h) (abH h b V) V;grind [bq]
def Gt(a:cO)(df:Int):Sm 0 (dX a df):=⟨by simp[dX],by simp[dX],λg b w c=>by
 simp[dX]at b;subst b;simp only[ct,iy]at c;rw[pQ c];omega⟩
end
section
variable{a:cO}
section
variable{e:D}{g:ag}{m:D}{f:Nat}{d p cJ c b:E}{s:St}
end
def JZ{m:D}{t C:E}(K:iW m t C a)(x:gL a)(df:Int):
 bJ dP 56 [.agg #[E.v t,E.v C],vi df] m λT c=>∃cJ i u,T=.agg #[vi 3,vi 0,vi 0,vi df,E.v cJ,E.v i,E.v u]/\J m c/\∃b1 b2 b3 b4 k,cJ.cap=0/\cJ.len=0/\i.cap=0/\i.len=0/\u=.mk b4 0 1 1/\
  tR m c b1 b2 b3 k (ct a 0 0 []).aU (ct a 0 0 []).bF (ct a 0 0 []).cL/\(b4≠b1/\b4≠b2/\b4≠b3/\m.size<=b4/\b4<c.size)/\dJ c b4 gS [.i 0,.i 0,.i 0,.s (.mk b1 0 k k),.s (.mk b2 0 k k),.s (.mk b3 0 k k)]:=by
 apply DP
 simp -zeta only[kU]
 intro n z A o p d
 have v:J m d:=((((((J.cX m).cz _).cz _).cz _).cz _).cz _).cz _
 have M:=pz n
 have P:z.size=m.size+2:=by simp[z,M]
 have Q:A.size=m.size+3:=by simp[A,P]
 have R:o.size=m.size+4:=by simp[o,Q]
 have S:p.size=m.size+5:=by simp[p,R]
 have Z:d.size=m.size+6:=by simp[d,S]
 have U:=x.kX.aT
 let⟨q,j⟩:=dY a.cU 0
 have X:=(x.eR q (ba j)).aU
 have l:dE a 0=q:=by simp[dE,j]
 have B:∀b,bg d (.mk b 0 0 0) []:=λb=>⟨O,bO,bO,bO⟩
 refine(C2 (K.ext v) (dN 0) j V 0 (B o.size) (B p.size) fu O).aP ?_
 rintro _ r ⟨b1,b2,b3,rfl,N⟩
 have h:=N.ext
 have W:=N.lo
 refine⟨h.fg fu,_,_,_,_,_,_,O,?_⟩
 intro e s
 obtain⟨w,s8⟩:=pu e
 have s9:s.size=e.size:=bE _ _ _ _
 have Y:=h.aQ
 have L:dJ e r.size gS [.i 0,.i 0,.i 0,.s (.mk b1 0 q.aU.toNat q.aU.toNat),.s (.mk b2 0 q.aU.toNat q.aU.toNat),.s (.mk b3 0 q.aU.toNat q.aU.toNat)]:=dJ.push r _ _
 have g:=N.Mh w
 have y:J m s:=(v.N (h.N w)).aW (show m.size<=n.size by omega) _ _
 have f:∀b,b≠n.size->s[b]? =e[b]? :=λb I=>cw _ _ _ _ I
 have H:(ct a 0 0 []).aU=[]++eU (q.aU.toNat -([]:ab).length):=by simp[ct,l]
 have G:(ct a 0 0 []).bF=[]++eU (q.aU.toNat -([]:ab).length):=by simp[ct,l,fK]
 have F:(ct a 0 0 []).cL=eU q.aU.toNat:=by simp[ct,l]
 refine⟨_,_,_,O,y,b1,b2,b3,r.size,q.aU.toNat,O,O,O,O,O,?_,V,L.congr (f _ V)⟩
 rw[H,G,F]
 exact⟨y,V,g.kr.congr (f _ V),g.ko.congr (f _ V),g.kh.congr (f _ V),N.aT⟩
def aaO{m j g:D}{u:Nat}{Rv:ae}{cJ i l:E}{df:Int}{b1 b2 b3 b4 k e:Nat}(c:cJ.cap=0/\cJ.len=0/\i.cap=0/\i.len=0/\l=.mk b4 0 1 1)
 (N:tR m j b1 b2 b3 k (ct a 0 0 []).aU (ct a 0 0 []).bF (ct a 0 0 []).cL)(C:b4≠b1/\b4≠b2/\b4≠b3/\m.size<=b4/\b4<j.size)(B:dJ j b4 gS [.i 0,.i 0,.i 0,.s (.mk b1 0 k k),.s (.mk b2 0 k k),.s (.mk b3 0 k k)])
 (d:J j g)(G:j.size<=e)(kb:dJ g e u (Rv++[.i 3,.i 0,.i 0,.i df,.s cJ,.s i,.s l])):
 uH m (pE (pE (pY (λ_=>0) b1 b2 b3 0) b4 4) e 1) g e u (Rv++[.i 3,.i 0,.i 0,.i df,.s cJ,.s i,.s l]) cJ i l [] [] [ct a 0 0 []]:=by
 have F:=N.lo
 have A:J m g:=N.ext.N d
 have H:=kb.lt
 have t:∀b,b≠e->b≠b4->(pE (pE (pY (λ_=>0) b1 b2 b3 0) b4 4) e 1) b=pY (λ_=>0) b1 b2 b3 0 b:=λb p q=>by rw[fO p,fO q]
 let⟨y,a2,a3⟩:=(N.Mh d).rm (q:=λ_=>0) (v:=0)
 have conv:∀{v:Nat}{s:E}{w:ae},iV (pY (λ_=>0) b1 b2 b3 0) g bG 1 v s w->s.bt≠e->s.bt≠b4->iV (pE (pE (pY (λ_=>0) b1 b2 b3 0) b4 4) e 1) g bG 1 v s w:=λx p q=>x.fH (λ_=>O) (λ_=>t _ p q)
 refine⟨A,λb z=>?_,λb z=>?_,kb,iE,⟨by simp[c.2.1],by rw[c.1,c.2.1];exact bY,bz c.1⟩,⟨[],⟨by simp[c.2.2.2.1],by rw[c.2.2.1,c.2.2.2.1];exact bY,bz c.2.2.1⟩,fL.gF _ _,Sep.gF⟩,?_⟩
 .rw[t b V V];unfold pY;rw[fO V,fO V,fO V]
 .rw[t b (oh d.aQ) (oh d.aQ)];unfold pY;rw[fO (oh d.aQ),fO (oh d.aQ),fO (oh d.aQ)]
 .refine rU.qC (a:=[]) (f:=ct a 0 0 []) (r:=.mk b1 0 k k) (e:=.mk b2 0 k k) (h:=.mk b3 0 k k) (j:=[]) ⟨?_,O,bO,bO,conv y (by simp only[E.nh];omega) (by simp only[E.nh];omega),conv a2 (by simp only[E.nh];omega) (by simp only[E.nh];omega),conv a3 (by simp only[E.nh];omega) (by simp only[E.nh];omega)⟩
  rw[c.2.2.2.2]
  refine⟨O,bY,bH ⟨b4,1,[],O,?_,?_,O⟩⟩
  .grind [fO,iE]
  .rw[gA];exact B.ext d
end
def YD(a:cO)(df:Int):∃s,s=bq a 100000 (dX a df):=⟨_,O⟩
noncomputable def Ui (a:cO) (df:Int):St:=Classical.choose (YD a df)
theorem Nq(a:cO)(df:Int):Ui a df=bq a 100000 (dX a df):=iS (YD a df)
theorem YE{a:cO}{df:Int}(h:gL a)(c:0<=df/\df<=40):eJ a (Ui a df)/\Sm 100000 (Ui a df)/\(Ui a df).dx≠3:=by
 have b:=Gs h c;rw[Nq];refine⟨Bm _ b,?_,Rb _ b (oh (XA h c))⟩;have:=Bn 100000 b (Gt a df) V;grind
structure Exe where
 dx:Int
 kY:Int
 dv:Int
 cJ:ab
 ok:Bool
section
variable{m:D}{s:E}{l:ab}{h:ah}{w:Int}{a:Nat}
def lG(c:bg m s l)(n:l.length<=1000000000):sM 62 [s.v] m l:=by
 apply ye;have b:=c.aT;refine⟨λh=>?_,λh=>?_⟩
 .cases s with
  |nil=>simp at b;have:l=[]:=cp.1 b.symm;subst this;exact⟨.nil,O,js.gF _ _ _ _,dt⟩
  |mk a o e d=>simp at h
  |Ec a o sp=>simp at h
 .intro d;have a:=px d;have f:js m d bG 1 (.mk m.size 0 0 0) []:=js.bI (J.cX m) bG 1 [] 0 bO;refine js.fE (c:=[.i 0]) (i:=l.map Ce.i) f a (by simp[b]) (c.ext a).Fb fu λr o a e g i j k=>⟨r,O,sp a,e⟩
def Tn{a:List ae}{n e f:Nat}{b:ae}(d:s.len=n)(i:a.length=n)(o:∀c∈a,c.length=b.length)(k:jw m s.bt s.off a.flatten)(l:n*f<=140737488355328):
 (s.NM=true->∃r,E.v .nil=r.v/\js m m e b.length r a.flatten/\J m m)/\(s.NM=false->let g:D:=m.push (.cells (dh []) e);mf g e b f (.mk m.size 0 0 0) s λq c=>∃r,q.v=r.v/\js m c e b.length r a.flatten/\J m c):=by
 refine⟨λh=>?_,λh=>?_⟩
 .cases s with
  |nil=>simp at d;have:a=[]:=cp.1 V;subst this;exact⟨.nil,O,js.gF _ _ _ _,dt⟩
  |mk c g p j=>simp at h
  |Ec c g sp=>simp at h
 .have c:J m (m.push (.cells (dh []) e)):=(J.cX m).cz _
  have j:js m (m.push (.cells (dh []) e)) e b.length (.mk m.size 0 0 0) []:=js.bI (J.cX m) e _ [] 0 bO
  refine js.fE (c:=b) (i:=a.flatten) j c (by rw[eD o,i,d]) (c.kv k) (by simp only[E.lU];rw[d,fD];exact l) λr v c g p q t u=>⟨r,O,sp c,g⟩
def wN(g:bg m s l)(b:Int):bJ dP 99 [s.v,vi b] m λv i=>∃r:Int,v=vi r/\J m i/\((r= -1/\b∉l)\/(b∈l/\r=ua l b)):=by
 apply yg;have j:=g.aT;refine iC (n:=l.length) (j▸g.kM) (λk i=>J m i/\b∉l.take k) ⟨dt,bO⟩ ?_;rintro k u I μ t ⟨f,e⟩ p
 refine dit (λh=>?_) λh=>?_
 .let⟨x,d⟩:=dY l k;refine⟨V,V,x,by simpa using f.aS (g.br d),λc=>?_,λc=>p V _ ⟨f,?_⟩⟩
  .simp at c;subst c;refine⟨_,O,f,bH ⟨ba d,?_⟩⟩;have:ua l b=k:=by
    unfold ua;rw[List.findIdx_eq (bC d)];refine⟨by have:=(pF.1 d).2;simp[this],λo q=>?_⟩;simp;intro a;apply e;rw[<-a];exact Ii.2 ⟨o,V,O⟩
   rw[this]
  .rw[bW d];simp at c;intro a;rcases bT.1 a with a|a
   .exact e a
   .simp at a;exact c a
 .rw[eY V]at e;exact⟨_,O,f,bz ⟨O,e⟩⟩
def lD(c:bg m s l)(n:Int):ir dP 59 [s.v,vi n] m (n∈l):=by
 apply vL;refine(wN c n).aP ?_;rintro _ f ⟨r,rfl,d,h⟩;refine⟨_,O,lI ?_ d⟩;simp only[bh];rcases h with⟨rfl,h⟩|⟨b,e⟩
 .exact⟨λa=>V,λa=>absurd a h⟩
 .exact⟨λ_=>b,λ_=>V⟩
def j8{t:E}{r:ab}(d:bg m s l)(i:bg m t r):ir dP 141 [s.v,t.v] m (l=r):=by
 apply yf;have j:=d.aT;have q:=i.aT;refine⟨λh=>gH (λe=>by subst e;simp at h;omega) dt,λh=>?_⟩;simp at h;refine iC (n:=l.length) (j▸d.kM) (λk a=>J m a/\l.take k=r.take k) ⟨dt,bO⟩ ?_;rintro k u I μ p ⟨b,g⟩ o
 refine⟨λh=>?_,λh=>pX (by simp at h;rwa[eY V,eY V]at g) b⟩;simp only[bh]at h;let⟨x,f⟩:=dY l k;let⟨y,c⟩:=dY r k;refine⟨V,V,x,by simpa using b.aS (d.br f),V,V,y,by simpa using b.aS (i.br c),λa=>gH (λe=>?_) b,λa=>o V _ ⟨b,?_⟩⟩
 .subst e;rw[f]at c;simp at c;simp at a;exact a c
 .rw[bW f,bW c,g];simp at a;rw[a]
def oN{a:E}(j:jI m a h)(t:w<=9223372036854775807):
 bJ dP 138 [a.v,vi w] m λv p=>∃(i:Int)(e:Bool),v=.tuple #[vi i,vb e]/\(e=true<->iR h w)/\(e=true->i=ix w)/\J m p:=by
 apply KO
 have k:=j.aT
 refine⟨λc=>?_,λc=>?_⟩
 .simp at c
  have l:eV (w -1000)=w -1000:=gJ
  have o:(ix w:Int)=w -1000:=by unfold ix;omega
  rw[l]
  refine⟨λg=>?_,λg=>?_⟩
  .simp at g
   let⟨f,b⟩:=dY h ((w -1000).toNat)
   obtain⟨r,s,n,_⟩:=j.br b
   refine⟨V,V,f.bX,n,_,_,O,?_,λ_=>o.symm,dt⟩
   simp only[bh]
   refine⟨λa=>⟨c,f,b,a⟩,λ⟨_,q,d,a⟩=>?_⟩
   unfold ix at d
   rw[b]at d;simp at d;subst d;exact a
  .simp at g
   refine⟨_,_,O,⟨sx,λ⟨_,f,b,_⟩=>?_⟩,sx,dt⟩
   have:=bC b
   omega
 .simp at c
  exact⟨_,_,O,⟨sx,λk=>oh k.1⟩,sx,dt⟩
def P3{b:E}(f:aS m a 8=some b.v)(g:jI m b h)(i:w<=9223372036854775807):ir dP 86 [vp a 0,vi w] m (iR h w):=by
 apply yG (a,0);refine⟨b,f,(oN g i).aP ?_⟩;rintro _ k ⟨c,d,rfl,e,_,j⟩;exact⟨c,d,O,lI e j⟩
def Ji(e:bg m s l)(q:l.length<=100000000):sM 142 [s.v] m (oF l):=by
 apply Dl;have p:=e.aT;refine gN (n:=l.length) V (λk s a=>J m a/\js m a bG 1 s ((oF (l.take k)).map Ce.i)) ⟨dt,by simpa[oF]using js.gF m m bG 1⟩ ?_;rintro k s r I μ o ⟨b,a⟩ f
 refine dit (λh=>?_) λh=>?_
 .let⟨x,c⟩:=dY l k;refine⟨V,V,x,by simpa using b.aS (e.br c),λd=>?_,λg=>?_⟩
  .intro t;refine sj a b (by have:=sk (l.take k);simp at this;omega) λv u i j=>f V _ _ ⟨j,?_⟩
   rw[bW c,tz];have:oF [x]=[x]:=by simp at d;simp[oF,d]
   rw[this];exact i
  .refine f V _ _ ⟨b,?_⟩
   rw[bW c,tz];have:oF [x]=[]:=by simp at g;simp[oF];omega
   rw[this,gA];exact a
 .rw[eY V]at a;exact⟨s,O,a,b⟩
def CP(g:bg m s l):ir dP 88 [s.v] m (Em l):=by
 apply Ja;refine(lC g 139 #[] #[] cH (λx=>x≠0) (λx _ i d=>?_)).cg λb j f d=>⟨b,O,lI ?_ d⟩
 .simp only[iy,gA];apply EG;exact lI bO dt
 .have e:(!b)=true<->¬(b=true):=bO;rw[e,f];unfold Em;constructor
  .intro h n c;exact fQ λa=>h ⟨n,c,a⟩
  .rintro h ⟨n,c,a⟩;exact a (h n c)
def Aw{ai U:E}{b:cO}(ad:iW m ai U b)(g1:aS m a 1=some U.v){x:Instr}(hc:Ed b x){g j:E}(w:bg m g x.aO)(aC:x.aO.length<=1000000)(aj:(x.op=16\/x.op=17)->1<=x.aO.length):
 bJ dP 85 [vp a 0,xv x g j] m λar T=>∃s l,ar=.tuple #[s.v,l.v]/\bg T s (cq b x)/\bg T l (if x.op=9\/x.op=24 then fx b x 0 x.aO else[])/\J m T/\(s=.nil\/s.bt=g.bt\/m.size<=s.bt)/\(l=.nil\/m.size<=l.bt):=by
 apply wZ (a,0)
 simp -zeta only[dT]
 intro c
 obtain⟨u,s1⟩:=pu c
 have Q:∀o∈[m.size],o<c.size:=by simp[c]
 have ac:=w.aT
 have aw:=w.mr
 have N:bg c .nil []:=⟨O,bO,bO,bO⟩
 refine⟨λe=>?_,λp=>⟨λe=>?_,λt=>⟨λe=>?_,λq=>?_⟩⟩⟩
 .simp only[eK,bQ]at e
  refine⟨g,.nil,O,?_,by rw[aV V];exact N,u,bH (bz O),bz O⟩
  unfold cq;rw[a8 V];exact w.ext u
 .simp only[eK,bQ]at e
  simp only[cZ,bd]at p
  refine⟨V,V,V,_,.nil,O,?_,by rw[aV V];exact N,u,bH (bz ?_),bz O⟩
  .unfold cq;rw[aV V,a8 e]
   exact fY.Ts (w.ext u) (aj e)
  .cases g with
   |nil=>simp at ac;omega
   |Ec o d sp=>simp at ac;omega
   |mk o d l f=>rfl
 .simp only[eK,bQ]at e
  simp only[cZ,bd]at p t
  let⟨h0,aD,L⟩:=hc e
  have aB:=ad.cU.aT
  have aA:=bC L
  have aq:∃(v:E->E->Int->D->Prop)(μ0:E->E->Int->D->Nat),v E.nil E.nil (0:Int) c/\(∀(aU:E)(cW:E)(i:Int)(d:D),v aU cW i d->∃k:Nat,i=k/\k<=x.aO.length/\J c d/\js c d bG 1 aU ((lT b x k).map Ce.i)/\js c d bG 1 cW ((fx b x 0 (x.aO.take k)).map Ce.i)/\(aU≠.nil->cW≠.nil->aU.bt≠cW.bt))/\
   (∀(aU cW:E)(k:Nat)(d:D),k<=x.aO.length->J c d->js c d bG 1 aU ((lT b x k).map Ce.i)->js c d bG 1 cW ((fx b x 0 (x.aO.take k)).map Ce.i)->(aU≠.nil->cW≠.nil->aU.bt≠cW.bt)->v aU cW k d)/\(∀g o i m,μ0 g o i m=((x.aO.length:Int) -i).toNat):=
   ⟨λaU cW i d=>∃k:Nat,i=k/\k<=x.aO.length/\J c d/\js c d bG 1 aU ((lT b x k).map Ce.i)/\js c d bG 1 cW ((fx b x 0 (x.aO.take k)).map Ce.i)/\(aU≠.nil->cW≠.nil->aU.bt≠cW.bt),λ_ _ i _=>((x.aO.length:Int) -i).toNat,
    ⟨0,O,jh _,dt,by simpa[lT,je]using js.gF c c bG 1,by simpa[fx]using js.gF c c bG 1,λh=>absurd O h⟩,λ_ _ _ _ h=>h,λaU cW k d f r y z A=>⟨k,O,f,r,y,z,A⟩,λ_ _ _ _=>O⟩
  let⟨v,μ0,ak,ap,ae,hμ⟩:=aq
  refine⟨v,μ0,ak,?_⟩
  intro aU cW i d hI
  obtain⟨k,rfl,hk,aa,o1,o2,K⟩:=ap aU cW i d hI
  have M:=u.N aa
  refine dit (λh=>?_) λh=>?_
  .let⟨y,R⟩:=dY x.aO k
   obtain⟨a',l',c',av,an,ax,k0,k1,_⟩:=(ad.ext M).cU.br L
   have ag:(x.aO.take k).length=k:=fu
   have ah:lT b x (k+1)=lT b x k++je b x k [y]:=by
    unfold lT;rw[bW R,sD,ag,fD]
   have af:fx b x 0 (x.aO.take (k+1))=fx b x 0 (x.aO.take k)++fx b x k [y]:=by
    rw[bW R,ln,ag,fD]
   have ay:(lT b x k).length<=k:=fC (yv _ _ _ _) fu
   have az:(fx b x 0 (x.aO.take k)).length<=k:=by
    have:∀(l:ab)(j:Nat),(fx b x j l).length<=l.length:=by
     intro l;induction l with
     |nil=>intro j;exact bY
     |cons au l S=>intro j;have:=S (j+1);simp only[fx];split<;>simp<;>omega
    have:=this (x.aO.take k) 0;omega
   have Z:eV ((k:Int)+1)=((k+1:Nat):Int):=oU (n:=x.aO.length) V V
   refine⟨V,V,y,by simpa using M.aS (w.br R),U,M.aS g1,h0,V,l',k1,(lD an _).bL aa Q λo m3 hb G F=>⟨o,O,λam=>?_,λal=>?_⟩⟩
   .have z:=(Qe L k).2 (hb.1 am)
    intro r
    have s4:=pz r
    have P:=o1.ext G
    have ao:cW.len=(fx b x 0 (x.aO.take k)).length:=by have:=o2.aT;simp at this;omega
    refine js.fE (c:=[.i 0]) (i:=[.i y]) ((o2.ext G).ext (J.push _ _)) (F.cz _) O (dJ.push m3 _ _).kv fu λs m5 W C q3 q4 X Y=>⟨J.xh (F.cz _) C Q,?_⟩
    rw[Z]
    refine⟨ae _ _ _ _ V C ?_ ?_ ?_,by rw[hμ,hμ];omega⟩
    .rw[ah]
     have:je b x k [y]=[]:=by simp only[je];rw[a8 z]
     rw[this,gA]
     rcases P.lt with e|e
     .subst e;exact⟨P.aT,bz O⟩
     .refine P.congr ?_
      rw[X _ (show _<r.size by omega) (λB=>?_),vm,aV V]
      by_cases A:aU=.nil
      .subst A
       rcases o2.bt with q|q
       .exact absurd q B
       .simp;omega
      .exact K A B
    .rw[af]
     have:fx b x k [y]=[y]:=by simp only[fx];rw[a8 z]
     rw[this];simpa using W
    .intro H I
     rcases Y with⟨_,e⟩|⟨p,t,_⟩|e
     .exact absurd e I
     .rw[t];exact K H p
     .rw[e]
      rcases P.lt with f|f
      .exact absurd f H
      .show aU.bt≠r.size;omega
   .have z:¬jv b x k=true:=λhh=>fb hb al ((Qe L k).1 hh)
    intro r
    have s4:=pz r
    have P:=o2.ext G
    have ao:aU.len=(lT b x k).length:=by have:=o1.aT;simp at this;omega
    refine js.fE (c:=[.i 0]) (i:=[.i y]) ((o1.ext G).ext (J.push _ _)) (F.cz _) O (dJ.push m3 _ _).kv fu λs m5 W C q3 q4 X Y=>⟨J.xh (F.cz _) C Q,?_⟩
    rw[Z]
    refine⟨ae _ _ _ _ V C ?_ ?_ ?_,by rw[hμ,hμ];omega⟩
    .rw[ah]
     have:je b x k [y]=[y]:=by simp only[je];rw[aV z]
     rw[this];simpa using W
    .rw[af]
     have:fx b x k [y]=[]:=by simp only[fx];rw[aV z]
     rw[this,gA]
     rcases P.lt with e|e
     .subst e;exact⟨P.aT,bz O⟩
     .refine P.congr ?_
      rw[X _ (show _<r.size by omega) (λB=>?_),vm,aV V]
      by_cases A:cW=.nil
      .subst A
       rcases o1.bt with q|q
       .exact absurd q B
       .simp;omega
      .exactλe5=>K B A e5.symm
    .intro H I
     rcases Y with⟨_,e⟩|⟨p,t,_⟩|e
     .exact absurd e H
     .rw[t];exact K p I
     .rw[e]
      rcases P.lt with f|f
      .exact absurd f I
      .show r.size≠cW.bt;omega
  .have r:x.aO.take k=x.aO:=eY V
   rw[r]at o2
   unfold lT at o1
   rw[r]at o1
   have A:=yv b x x.aO 0
   have y:∀(l:ab)(j:Nat),(fx b x j l).length<=l.length:=by
    intro l;induction l with
    |nil=>intro j;exact bY
    |cons au l S=>intro j;have:=S (j+1);simp only[fx];split<;>simp<;>omega
   have z:=y x.aO 0
   refine⟨aU,cW,O,?_,?_,M,?_,?_⟩
   .unfold cq;rw[aV V,aV V,a8 e];exact bg.jT o1 V
   .rw[a8 e];exact bg.jT o2 V
   .rcases o1.bt with f|f
    .exact bz f
    .exact bH (bH V)
   .rcases o2.bt with f|f
    .exact bz f
    .exact bH V
 .simp only[cZ,bd]at p t q
  refine⟨.nil,.nil,O,?_,by rw[aV V];exact N,u,bz O,bz O⟩
  unfold cq;rw[aV V,aV V,aV V];exact N
end
section
variable{b:D}{i e:Nat}{d p g k h a j:E}{c:cO}{s:St}{l:aj}{f:bS}{x:Instr}
theorem Mu:∀(l:aD)(k v j:Int),zU (Oz l k v) j=if j=k then v else zU l j
 |[],k,v,j=>by simp[Oz,zU]
 |(a,b)::g,k,v,j=>by
  simp only[Oz];split
  .grind [zU]
  .rename_i h;simp only[zU];split
   .grind
   .exact Mu g k v j
def Vo(l:ab)(k:Nat)(a:Nat):kG (l.take k) a<=kG l a:=by
 have:kG l a=kG (l.take k) a+kG (l.drop k) a:=by rw[<-qM,jW]
 have:=nj (l.drop k) a;omega
def AB{r:E}{h:ah}(T:aS b i 8=some r.v)(C:jI b r h){o:Nat->Int}(P:jc h o){c:dz}(hc:c∈h){f:E}(R:bg b f c.bV)(av:h.length<=2000000000):
 ir dP 140 [vp i 0,.agg #[vi c.bX,vi c.jH,f.v]] b (c.bX=1\/oJ h c.bV):=by
 apply xf (i,0)
 unfold se
 simp -zeta only[dT]
 intro d
 obtain⟨H,s1⟩:=pu d
 have U:∀e∈[b.size],e<d.size:=by simp[s1]
 have ar:=(P.iF c hc).fl
 have au:=R.aT
 have aw:=C.aT
 refine⟨λt=>pX (bz cC) H,λt=>?_⟩
 simp only[bd]at t
 intro K
 have ac:=px K
 have ai:Iz K d.size []:=⟨#[],0,by simp[K],O⟩
 refine iC (n:=c.bV.length) V (λk g=>J d g/\∃l,Iz g d.size l/\(∀a:Nat,zU l a=kG (c.bV.take k) a)/\∀w∈c.bV.take k,1000<=w->(bu h w).bX+kG (c.bV.take k) (ix w)<=999999) ⟨ac,[],ai,λa=>by simp[zU,kG],bO⟩ ?_
 rintro k m3 ap μ hk ⟨u,l,Y,X,S⟩ aa
 have s:=H.N u
 refine dit (λh2=>?_) λh2=>?_
 .let⟨w,m⟩:=dY c.bV k
  have an:1000<=w->iR h w:=by grind [jc.qj,ba]
  have am:w<=9223372036854775807:=by
   rcases fS (1000<=w)with N|N
   .have:=bC (dL (an N)).1;unfold ix at this;omega
   .omega
  refine⟨V,V,w,by simpa using s.aS (R.br m),r,s.aS T,(oN (jI.ext s C) am).bL u U ?_⟩
  rintro _ m4 ⟨a,e,rfl,A,ad,x⟩
  have p:=u.N x
  have ag:d.size<m3.size:=by obtain⟨M,L,y,_⟩:=Y;exact(gW.1 y).1
  have F:Iz m4 d.size l:=by obtain⟨M,L,y,q⟩:=Y;exact⟨M,L,by rw[x.bB _ ag];exact y,q⟩
  have j:∀a:Nat,kG (c.bV.take (k+1)) a=kG (c.bV.take k) a+(if w=1000+(a:Int)then 1 else 0):=λa=>by
   rw[bW m,qM];simp[kG]
  refine⟨x,a,e,O,λQ=>?_,λaq=>?_⟩
  .have D:=A.1 Q
   have z:=ad Q
   subst z
   have ao:=nK D.1
   have aB:=nj (c.bV.take k) (ix w)
   have aA:=BU (c.bV.take k) (ix w)
   have ax:(c.bV.take k).length<=3:=cC
   have e1:eV (zU l (ix w)+1)=kG (c.bV.take (k+1)) (ix w):=by
    grind [dk]
   refine⟨l,F,l,F,?_⟩
   rw[e1]
   intro m5 W ak af
   have v:J d m5:=⟨by rw[ak];exact p.aQ,λe A=>by rw[af e V,p.bB e A]⟩
   have I:=H.N v
   let⟨B,aC⟩:=dL D
   obtain⟨f5,_,k0,_⟩:=(jI.ext I C).br B
   have ay:=bC B
   have az:=(P.iF _ (ba B)).hi
   have ae:zU (Oz l (ix w) (kG (c.bV.take (k+1)) (ix w))) (ix w)=kG (c.bV.take (k+1)) (ix w):=by grind [Mu]
   have aj:=j (ix w)
   rw[a8 ao.symm]at aj
   have e2:eV ((bu h w).bX+kG (c.bV.take (k+1)) (ix w))=(bu h w).bX+kG (c.bV.take (k+1)) (ix w):=gJ
   refine⟨J.xh p v U,r,I.aS T,V,V,_,sp k0,_,W,trivial,trivial,?_⟩
   rw[ae,e2]
   refine⟨λq=>gH (λg=>?_) I,λq=>aa V _ ⟨v,_,W,λa=>?_,λab G Z=>?_⟩⟩
   .rcases g with g|g
    .exact t g
    .have:=g w (ba m) D.1
     have:=Vo c.bV (k+1) (ix w)
     simp at q;omega
   .rw[Mu]
    by_cases z:(a:Int)=ix w
    .grind [ix]
    .rw[aV z,X,j,aV V];omega
   .by_cases al:ab=w
    .grind
    .rw[j,aV (λo=>al (by rw[nK Z]at o;exact o.symm))]
     rw[bW m]at G
     grind
  .have g:w<1000:=by
    grind
   refine aa V _ ⟨p,l,F,λa=>by rw[X,j,aV V];omega,λab G Z=>?_⟩
   rw[j,aV V]
   rw[bW m]at G
   grind
 .rw[eY V]at S
  exact pX (bH S) s
@[grind cases] structure FP (m:D) (fb fo:Nat) (f:bS) (r o h:E):Prop where
 g3:aS m fb (fo+3)=some r.v
 g4:aS m fb (fo+4)=some o.v
 g5:aS m fb (fo+5)=some h.v
 aU:bg m r f.aU
 bF:bg m o f.bF
 cL:bg m h f.cL
def FP.ext{b c:D}{fb e:Nat}{f:bS}{g k h:E}(F:FP b fb e f g k h)(a:J b c):FP c fb e f g k h:=⟨a.aS F.g3,a.aS F.g4,a.aS F.g5,F.aU.ext a,F.bF.ext a,F.cL.ext a⟩
def Mp{fb:Nat}{cJ K fr:E}(m:RV b i 3 d p cJ K fr c s)(ag:aS b i 2=some (vi (cT c)))(C:vY c s l f x)(L:FP b fb e f g k h)(u:bg b a x.aO)(aA:x.op=11)(ah:s.aR.length<=2000000000):
 ir dP 89 [vp i 0,vp fb e,xv x a j] b (tQ c s.aR (br f.aU (br x.aO 0))):=by
 apply xe (i,0) (fb,e)
 simp -zeta only[dT]
 intro W
 obtain⟨r,s1⟩:=pu W
 have hl:∀A∈[b.size],A<W.size:=by simp[s1]
 have ap:=u.aT
 have aD:=L.aU.aT
 have h2:=C.oD.2.2.1 V
 have q:0<=br x.aO 0/\br x.aO 0<f.aU.length:=C.arg _ (gZ V V)
 have am:=C.F.um q.1 q.2 C.RF
 have M:=L.ext r
 have R:=C.ok.aR
 have U:=C.ok.iu
 refine⟨K,r.aS m.wL,g,M.g3,V,V,_,(u.ext r).uG V V,q.1,V,_,M.aU.uG q.1 q.2,?_⟩
 generalize br f.aU (br x.aO 0)=w at*
 refine(oN (jI.ext r m.aR) am.2).bL dt hl ?_
 rintro _ X ⟨aa,A,rfl,S,ad,D⟩
 have y:=r.N D
 refine⟨D,aa,A,O,λaf=>gH (λn=>nb S af n.1) y,λae=>?_⟩
 have aj:=yb S ae
 have u:=ad cC
 subst u
 let⟨v,ak⟩:=dL aj
 have Q:=R.iF _ (ba v)
 have aF:=(Q.yZ ak).2
 have az:=bC v
 have ax:=m.aR.aT
 let⟨B,T,k0,k1,k2⟩:=(jI.ext y m.aR).br v
 refine⟨K,y.aS m.wL,V,V,_,sp k0,_,sp k1,B,sp k2,?_⟩
 intro m3 z
 have N:J X z:=by grind [J.cX,J.cz,J.aW]
 have s4:z.size=X.size+1:=by grind [bE]
 have o:=y.N N
 have ao:(gU c.bR).length<=12:=by
  have:=tZ U.kX.dj c.bR.length;grind [qI]
 have au:(cT c)=((gU c.bR).length:Int):=rfl
 have aC:=m.iu.cU.aT
 have aB:=U.kX.aT
 have e1:eV ((bu s.aR w).jH -cT c)=(bu s.aR w).jH -cT c:=by grind [dk]
 refine⟨cT c,o.aS ag,?_⟩
 rw[e1]
 refine⟨λF=>gH (λn=>by have:=n.2.1;simp at F;omega) o,λF=>⟨p,o.aS m.cU,λG=>gH (λn=>by have:=n.2.2.1;simp at G;omega) o,λG=>?_⟩⟩
 simp at F G
 let⟨an,hq⟩:=dY c.cU (((bu s.aR w).jH -cT c).toNat)
 have al:dE c ((bu s.aR w).jH -cT c)=an:=by grind [dE]
 let⟨Z,l',c',ab,ai,ar,j0,j1,j2,j3,j4⟩:=(m.iu.ext o).cU.br hq
 have aq:=ab.aT
 have ay:=ai.aT
 have aw:=T.aT
 have av:=Q.fl
 refine⟨p,o.aS m.cU,V,V,Z,j0,l',j1,_,j2,_,j3,c',j4,?_⟩
 intro m5 Y
 have P:J z Y:=by grind [J.cX,J.cz,J.aW]
 have s6:Y.size=z.size+1:=by grind [bE]
 have t:=o.N P
 have e3:eV ((B.len:Int)+1)=(B.len:Int)+1:=by grind [dk]
 rw[e3]
 unfold tQ
 rw[al]
 have aE:=D.aQ
 refine⟨λH=>⟨λI=>?_,λI=>gH (λn=>by have:=n.2.2.2.1;simp at I;omega) t⟩,λH=>gH (λn=>by have:=n.2.2.2.2.1;simp at H;omega) t⟩
 simp at H I
 refine(AB (t.aS m.wL) (jI.ext t m.aR) R (ba v) (T.ext (N.N P)) ah).bL dt cC λb2 m7 ac n _=>⟨b2,O,lI (ac.trans ?_) (t.N n)⟩
 grind
def Jh{fb:Nat}{cJ Z fr:E}(u:RV b i 3 d p cJ Z fr c s)(C:vY c s l f x)(F:FP b fb e f g k h)(H:bg b a x.aO)(aQ:x.op=14\/x.op=19\/x.op=21\/x.op=16\/x.op=17)(aw:s.aR.length<=2000000000):
 ir dP 90 [vp i 0,vp fb e,xv x a j] b ((x.op=14->iR s.aR (br f.aU (br x.aO 0))/\(bu s.aR (br f.aU (br x.aO 0))).bX<999999)/\(x.op=19->iR s.aR (br f.aU (br x.aO 0))/\x.cG<(bu s.aR (br f.aU (br x.aO 0))).bV.length)/\
  (x.op=21->iR s.aR (br f.aU (br x.aO 0))/\(bu s.aR (br f.aU (br x.aO 0))).jH∈cY c.bR x.cG)/\((x.op=16\/x.op=17)->GJ s.aR f x)):=by
 apply vE (i,0) (fb,e)
 simp -zeta only[dT]
 intro m1
 obtain⟨I,s1⟩:=pu m1
 have hl:∀y∈[b.size],y<m1.size:=by simp[s1]
 have aH:=H.aT
 have aG:=H.mr
 have aT:=F.aU.aT
 have aL:=F.cL.aT
 have h4:=C.oD
 have aO:=C.RO
 have ax:1<=x.aO.length:=V
 have aD:=h4.1
 clear h4
 have z:0<=br x.aO 0/\br x.aO 0<f.aU.length:=C.arg _ (gZ V V)
 have ay:=C.F.um z.1 z.2 C.RF
 have F1:=F.ext I
 have hI:=C.ok.aR
 have ap:GJ s.aR f x<->(iR s.aR (br f.aU (br x.aO 0))/\oF (bu s.aR (br f.aU (br x.aO 0))).bV=dR f (x.aO.drop 1)/\((bu s.aR (br f.aU (br x.aO 0))).bX=1\/oJ s.aR (bu s.aR (br f.aU (br x.aO 0))).bV)/\(x.op=17->br f.cL (br x.aO 0)=0)):=Nz
 rw[ap]
 refine⟨Z,I.aS u.wL,g,F1.g3,V,V,_,(H.ext I).uG V V,z.1,V,_,F1.aU.uG z.1 z.2,?_⟩
 generalize br f.aU (br x.aO 0)=w at*
 refine(oN (jI.ext I u.aR) ay.2).bL dt hl ?_
 rintro _ D ⟨ah,y,rfl,W,au,Q⟩
 have N:=I.N Q
 refine⟨Q,ah,y,O,λaI=>gH (λU=>?_) N,λav=>?_⟩
 .grind
 have ac:=yb W av
 have aq:=au cC
 subst aq
 let⟨M,aR⟩:=dL ac
 have ab:=hI.iF _ (ba M)
 have aP:=bC M
 have aM:=u.aR.aT
 let⟨P,Y,k0,k1,k2⟩:=(jI.ext N u.aR).br M
 refine⟨Z,N.aS u.wL,V,V,_,sp k0,_,sp k1,P,sp k2,?_⟩
 intro m3 v
 have R:J D v:=by grind [J.cX,J.cz,J.aW]
 have s4:v.size=D.size+1:=by grind [bE]
 have kB:aS v D.size 1=some (vi (bu s.aR w).jH):=(dJ.aW (m:=m3) (o:=0) (r:=[.i (bu s.aR w).bX,.i (bu s.aR w).jH,.s P]) (dJ.push D _ _)).dg 1
 have t:=N.N R
 have aU:=Q.aQ
 have B:∀y∈[D.size,b.size],y<v.size:=cC
 have aK:=Y.aT
 refine⟨λA=>?_,λai=>⟨λA=>?_,λak=>⟨λA=>?_,λal=>?_⟩⟩⟩
 .simp at A
  refine lI ?_ t
  simp
  exact⟨λG=>⟨λ_=>⟨ac,G⟩,λq=>V,λq=>V,λq=>V⟩,λG=>(G.1 A).2⟩
 .simp at A
  refine lI ?_ t
  simp
  grind
 .simp at A
  refine⟨d,t.aS u.bR,(xL (u.iu.ext t).bR C.ok.iu.kX.dj _).bL dt B ?_⟩
  rintro _ m5 ⟨K,rfl,L,q⟩
  refine⟨q,K,O,q.cK kB,(lD L _).bL q B λb2 m6 X T S=>⟨b2,O,lI (X.trans ?_) (t.N S)⟩⟩
  grind
 .simp at ai ak al
  have aj:x.op=16\/x.op=17:=V
  have e1:(Int.toNat (1:Int))=1:=rfl
  have e2:(Int.toNat (a.len:Int))=a.len:=V
  rw[e1,e2]
  have ad:=abm (H.ext t) ax
  have aN:=ad.aT
  have aJ:(x.aO.drop 1).length<=4:=cC
  refine⟨V,V,V,?_⟩
  refine gN (n:=(x.aO.drop 1).length) V (λaa s' K=>J v K/\js v K bG 1 s' ((dR f ((x.aO.drop 1).take aa)).map Ce.i)) ⟨dt,by simpa[dR]using js.gF v v bG 1⟩ ?_
  rintro aa s' m5 aC μ hk ⟨q,o5⟩ aA
  have az:=t.N q
  refine dit (λG=>?_) λG=>?_
  .let⟨ae,K⟩:=dY (x.aO.drop 1) aa
   have L:=C.arg ae (uF (ba K))
   have F5:=F.ext az
   refine⟨V,V,ae,by simpa using(ad.ext q).br K,g,F5.g3,L.1,V,_,F5.aU.uG L.1 L.2,?_⟩
   intro m6
   refine sj o5 q (by simp[dR];omega) λaf m7 q1 q2=>⟨J.xh (q.cz _) q2 B,aA V _ _ ⟨q2,?_⟩⟩
   rw[bW K]
   simpa[dR]using q1
  .rw[eY V]at o5
   have i5:bg m5 s' (dR f (x.aO.drop 1)):=by grind [bg.jT,dR]
   refine(Ji (Y.ext (R.N q)) (oh ab.fl)).bL (Yx (sk (bu s.aR w).bV) ab.fl) (λy W=>q.lt (B y W)) λps m6 o6 i6 T=>⟨ps,O,?_⟩
   have S:=q.N T
   refine(j8 i6 (i5.ext T)).bL S B λb2 m7 X aE L=>⟨b2,O,λh8=>gH (λU=>nb X h8 (U.2.2.2 aj).2.1) (t.N L),λh8=>?_⟩
   have K:=t.N L
   have ag:bJ dP 140 [vp i 0,.agg #[vi (bu s.aR w).bX,vi (bu s.aR w).jH,P.v]] m7 λaB ae=>gT [D.size,b.size] m7 ae/\∃af:Bool,aB=vb af/\((af=true<->((bu s.aR w).bX=1\/oJ s.aR (bu s.aR w).bV))/\J b ae):=
    (AB (K.aS u.wL) (jI.ext K u.aR) hI (ba M) (Y.ext (R.N L)) aw).bL L B λb3 m8 ar aF ao=>⟨b3,O,ar,t.N ao⟩
   have F7:=F.ext K
   have am:br x.aO 0<f.cL.length:=V
   refine⟨λan=>⟨h,F7.g5,V,V,_,(H.ext K).uG V V,z.1,V,_,F7.cL.uG z.1 am,λh9=>gH (λU=>?_) K,λh9=>ag.aP ?_⟩,λan=>ag.aP ?_⟩
   .grind
   .grind
   grind
end
section
variable{b:D}{c:Nat}{a:bS}{d e h:E}
def zE(aU:ab):∀(b a bF:ab),bZ aU bF (b++a)=bZ aU (bZ aU bF b) a
 |[],a,bF=>O
 |y::b,a,bF=>by simp only[eN,bZ,zE aU b a]
def RN{f fb:Nat}(i:aS b f 0=some (vp fb c))(F:FP b fb c a d e h){x:Int}(g:0<=x/\x<a.aU.length):ir dP 87 [vi x,vp f 0] b (1000<=br a.aU x):=by
 apply zO (f,0);have j:=F.aU.aT;exact⟨(fb,c),i,d,F.g3,g.1,V,_,F.aU.uG g.1 g.2,lI bO dt⟩
def Vi{mb fb:Nat}{aL a7 cJ u fr:E}{g:cO}{N:St}(R:RV b mb 3 aL a7 cJ u fr g N)(aU:aS b mb 2=some (vi (cT g))){fs:aj}{x:Instr}(C:vY g N fs a x){am a4:E}(T:FP b fb c a d e h)(ha:bg b am x.aO)(aI:N.aR.length<=2000000000):
 ir dP 50 [vp mb 0,vp fb c,xv x am a4] b (iN g N a x (bZ a.aU a.bF (cq g x))):=by
 apply BN (mb,0) (fb,c)
 simp -zeta only[dT]
 intro m1 Q
 have z:J b Q:=((J.cX b).cz _).cz _
 have s1:=pz m1
 have s2:Q.size=b.size+2:=by simp[Q,s1]
 have P:∀j∈[m1.size,b.size],j<Q.size:=fu
 have kP:aS Q b.size 0=some (vp fb c):=((dJ.push b [.p fb c] _).ext (J.push m1 _)).dg 0
 have bc:=ha.aT
 have bp:=T.aU.aT
 have bf:=T.cL.aT
 have bk:=C.RO
 have hd:=C.bA
 have a0:=C.opc
 refine⟨e,z.aS T.g4,(lG (T.bF.ext z) V).bL V P λB m3 oq iq aw=>⟨B,O,?_⟩⟩
 have ap:=iq.aT
 have az:=z.N aw
 refine(Aw (R.iu.ext az) (az.aS R.cU) C.jt (ha.ext az) (oh C.oD.1) C.oD.2.2.2.1).bL aw P ?_
 rintro _ W ⟨rs,ls,rfl,ar,aA,ax,aK,aJ⟩
 have aP:=aw.N ax
 have a6:=oq.ext ax
 refine⟨ax,rs,ls,O,?_⟩
 have bs:=Nu g x
 have bb:=C.oD.1
 have bq:=ar.aT
 have aR:=C.Pg
 have a1:∀ad∈a.bF,0<=ad:=λad U=>(C.TU ad U).1
 have bn:Q.size<=B.bt:=by
  rcases oq.bt with k|k
  .subst k;simp at ap;omega
  .exact k
 have bo:B.bt<m3.size:=by
  rcases oq.lt with k|k
  .subst k;simp at ap;omega
  .exact k
 have ay:=C.arg
 have kr:∀{v:D},(∀j,j<W.size->j≠B.bt->v[j]? =W[j]?)->bg v rs (cq g x):=λhk=>lx ar λH=>hk _ (lS ar H) λk=>by
  have aT:x.aO≠[]:=λS=>by
   let⟨y,s⟩:=aa6 _ H;have:=ry s;rw[S]at this;simp at this
  rcases aK with X|X|X
  .subst X;have:=ar.aT;simp at this;exact H (cp.1 this.symm)
  .rw[X]at k;have:=lS ha aT;omega
  .omega
 have kl:∀{v:D},(∀j,j<W.size->j≠B.bt->v[j]? =W[j]?)->bg v ls (if x.op=9\/x.op=24 then fx g x 0 x.aO else[]):=λhk=>lx aA λH=>hk _ (lS aA H) λk=>by
  rcases aJ with X|X
  .subst X;have:=aA.aT;simp at this;exact H (cp.1 this.symm)
  .omega
 refine iC (n:=(cq g x).length) V (λp v=>J Q v/\(∀j,j<W.size->j≠B.bt->v[j]? =W[j]?)/\js Q v bG 1 B ((bZ a.aU a.bF ((cq g x).take p)).map Ce.i)/\∀ad∈bZ a.aU a.bF ((cq g x).take p),0<=ad) ⟨aP,λ_ _ _=>O,a6,a1⟩ ?_
 rintro p m5 a9 μ hk ⟨ae,ai,au,L⟩ aD
 have F5:=T.ext (z.N ae)
 have aW:=mz a.aU ((cq g x).take p) a.bF
 have aq:bg m5 B (bZ a.aU a.bF ((cq g x).take p)):=bg.jT au V
 refine dit (λh6=>?_) λh6=>?_
 .let⟨y,s⟩:=dY (cq g x) p
  have q:=aR y (ba s)
  have F:bZ a.aU a.bF ((cq g x).take (p+1))=if 1000<=br a.aU y then iv (bZ a.aU a.bF ((cq g x).take p)) y (br (bZ a.aU a.bF ((cq g x).take p)) y -1)else bZ a.aU a.bF ((cq g x).take p):=by
   rw[bW s,zE];rfl
  have I:y<(bZ a.aU a.bF ((cq g x).take p)).length:=V
  have aE:=L _ (gZ q.1 I)
  have aF:br (bZ a.aU a.bF ((cq g x).take p)) y<=999999:=by
   let⟨q',M,ah⟩:=oB ((cq g x).take p) a.bF y.toNat _ (jJ q.1 I);have:=(C.TU q' (ba M)).2;omega
  refine⟨V,V,y,by simpa using(kr ai).br s,d,F5.g3,q.1,V,_,F5.aU.uG q.1 q.2,λA=>?_,λA=>aD V _ ⟨ae,ai,by rw[F,aV (sp A)];exact au,by rw[F,aV (sp A)];exact L⟩⟩
  simp at A
  rw[a8 A]at F
  refine⟨q.1,V,_,aq.uG q.1 I,q.1,V,?_⟩
  have e1:eV (br (bZ a.aU a.bF ((cq g x).take p)) y -1)=br (bZ a.aU a.bF ((cq g x).take p)) y -1:=gJ
  rw[e1]
  rcases au.br with av|⟨Y,ak,tail,z1,z2,z3,z4,z5⟩
  .rw[av]at ap;simp at ap;omega
  .have aM:B.off=0:=by rw[z1];rfl
   have aa:B.bt=Y:=by rw[z1];rfl
   have ag:B.off+y.toNat*1=y.toNat:=V
   rw[ag,aa]
   have ao:y.toNat<((bZ a.aU a.bF ((cq g x).take p)).map Ce.i).length:=fu
   refine⟨z3.gK (by simp only[dC];omega),?_⟩
   intro m6
   have G:J Q m6:=ae.aW V _ _
   have al:∀j,j<W.size->j≠B.bt->m6[j]? =W[j]? :=λj t H=>by rw[cw _ _ _ _ V];exact ai j t H
   have o6:js Q m6 bG 1 B ((bZ a.aU a.bF ((cq g x).take (p+1))).map Ce.i):=by
    rw[F];refine⟨by rw[jQ,jE,<-jQ (f:=Ce.i)];exact au.aT,bH ⟨Y,ak,tail,z1,z2,?_,?_,z5⟩⟩
    .have:=dJ.aW (m:=m5) (o:=y.toNat) (r:=[.i (br (bZ a.aU a.bF ((cq g x).take p)) y -1)]) z3;have e6:jm ((bZ a.aU a.bF ((cq g x).take p)).map Ce.i++tail) y.toNat [.i (br (bZ a.aU a.bF ((cq g x).take p)) y -1)]=(iv (bZ a.aU a.bF ((cq g x).take p)) y (br (bZ a.aU a.bF ((cq g x).take p)) y -1)).map Ce.i++tail:=by
      simp only[jm,iv,DZ];rw[afr _ _ ao]
     rw[e6]at this;exact this
    .simp only[dC,jQ,jE]at z4⊢;exact z4
   have aH:=mz a.aU ((cq g x).take (p+1)) a.bF
   have aC:bg m6 B (bZ a.aU a.bF ((cq g x).take (p+1))):=bg.jT o6 V
   have Z:br (bZ a.aU a.bF ((cq g x).take (p+1))) y=br (bZ a.aU a.bF ((cq g x).take p)) y -1:=by rw[F,ng q.1 I y q.1,a8 O]
   have af:=aC.uG (i:=y) q.1 V
   rw[Z,ag,aa]at af
   refine⟨J.xh ae G P,q.1,V,_,af,λh8=>gH (λw=>?_) (z.N G),λh8=>aD V _ ⟨G,al,o6,λad U=>?_⟩⟩
   .simp at h8
    have ac:bZ a.aU a.bF (cq g x)=bZ a.aU (bZ a.aU a.bF ((cq g x).take (p+1))) ((cq g x).drop (p+1)):=by rw[<-zE,jW]
    have an:y<(bZ a.aU a.bF (cq g x)).length:=by rw[mz];omega
    have K:=jJ (l:=bZ a.aU a.bF (cq g x)) q.1 an
    have aG:=w.nn _ (ba K)
    rw[ac]at K
    let⟨q',M,ah⟩:=oB _ _ _ _ K
    have aB:=IV M
    rw[Z]at aB
    rw[<-ac]at ah
    omega
   .rw[F]at U
    rcases uf U with U|U
    .simp at h8;omega
    .exact L ad U
 .have a2:(cq g x).take p=cq g x:=eY V
  rw[a2]at aq L aW
  have aB:=kl ai
  generalize bm:bZ a.aU a.bF (cq g x)=bF at*
  have aY:=aB.aT
  refine⟨λv=>J m5 v/\(kT x.op->br bF x.bA<=0),?_,?_⟩
  .refine(qL _ _ ⟨V,V⟩).bL ae P λj m6 t af G=>⟨j,O,λI=>⟨hd.1,V,_,(aq.ext af).uG hd.1 V,λA=>gH (λw=>?_) (z.N G),λA=>⟨af,λ_=>by simpa using A⟩⟩,λF=>⟨af,λK=>absurd K (Go.Vc.fb t F)⟩⟩
   have:=w.bA (t.1 I);simp at A;omega
  .rintro m6 ⟨af,aa⟩
   have a5:∀(al:ab)(jj:Nat)(y:Int),y∈fx g x jj al->y∈al:=by
    intro al;induction al with
    |nil=>intro jj y h;simp[fx]at h
    |cons F al A=>
     intro jj y h;simp only[fx]at h;split at h
     .rcases aZ.1 h with rfl|h
      .exact cQ
      .exact aX _ (A _ _ h)
     .exact aX _ (A _ _ h)
   generalize ao:(if x.op=9\/x.op=24 then fx g x 0 x.aO else[])=LL at*
   have aQ:∀y∈LL,0<=y/\y<a.aU.length:=λy s=>by
    rw[<-ao]at s;split at s
    .exact ay y (a5 _ _ _ s)
    .simp at s
   refine iC (n:=LL.length) (aY▸aB.kM) (λp v=>J m5 v/\∀y∈LL.take p,1000<=br a.aU y->iR N.aR (br a.aU y)) ⟨af,bO⟩ ?_
   rintro k2 m7 I2 μ2 bj ⟨ag,ak⟩ aC
   have Z:=ae.N ag
   have A:=z.N Z
   have I:=T.ext A
   refine dit (λh8=>?_) λh8=>?_
   .let⟨y,s⟩:=dY LL k2
    have q:=aQ y (ba s)
    refine⟨V,V,y,by simpa using(aB.ext ag).br s,d,I.g3,q.1,V,_,I.aU.uG q.1 q.2,λG=>?_,λG=>aC V _ ⟨ag,eI s ak λu=>by simp at G;omega⟩⟩
    simp at G
    refine(P3 (A.aS R.wL) (jI.ext A R.aR) (C.F.um q.1 q.2 C.RF).2).bL Z P λj m8 t ah K=>⟨j,O,λF=>gH (λw=>?_) (z.N K),λF=>aC V _ ⟨ag.N ah,eI s ak λ_=>yb t F⟩⟩
    have M:=ba s
    rw[<-ao]at M
    split at M
    .rename_i e9;exact nb t F (w.cW e9 y M G)
    .simp at M
   .rw[eY V]at ak
    have ac:(x.op=9\/x.op=24)->tP g N.aR a x:=λe9=>by rw[a8 e9]at ao;rw[<-ao]at ak;exact ak
    have a3:=aq.ext ag
    have hV:=R.ext A
    have aE:1<=x.aO.length->0<=br x.aO 0/\br x.aO 0<a.aU.length:=λY=>ay _ (gZ V V)
    have ga:∀{v},J b v->1<=x.aO.length->aS v am.bt (am.off+Int.toNat (0:Int)*1)=some (vi (br x.aO 0)):=λhx Y=>(ha.ext hx).uG V V
    clear aD aC ai kr kl a0 aK aJ
    refine⟨λk=>?_,λe1=>?_⟩
    .simp only[eK,bQ]at k
     refine(lC (ha.ext A) 87 #[] #[vp b.size 0] cH (λy=>1000<=br a.aU y) (λy s v an=>?_)).bL Z (λj t=>P j (by simp at t;simp[t])) λj m8 t ah K=>⟨j,O,lI ?_ (z.N K)⟩
     .simpa using RN (an.aS (Z.aS kP)) (I.ext an) (ay y s)
     .have av:(!j)=true<->¬(j=true):=bO
      rw[av,t]
      constructor
      .intro aF
       have u:∀y∈x.aO,br a.aU y<1000:=λy s=>by
        rcases fS (1000<=br a.aU y)with Y|Y
        .exact absurd ⟨y,s,Y⟩ aF
        .omega
       have M:x.op≠6/\x.op≠24/\x.op≠23/\x.op≠11/\x.op≠14/\x.op≠15/\x.op≠16/\x.op≠17/\x.op≠19/\x.op≠21:=by rcases k with k|k|k|k|k|k<;>rw[k]<;>decide
       exact⟨L,aa,λ_=>u,λq=>absurd q M.1,ac,λq=>q.elim (λh=>absurd h M.2.1) (λh=>absurd h M.2.2.1),λq=>absurd q M.2.2.1,λq=>absurd q M.2.2.2.1,λq=>absurd q M.2.2.2.2.1,λq=>absurd q M.2.2.2.2.2.1,λq=>q.elim (λh=>absurd h M.2.2.2.2.2.2.1) (λh=>absurd h M.2.2.2.2.2.2.2.1),λq=>absurd q M.2.2.2.2.2.2.2.2.1,λq=>absurd q M.2.2.2.2.2.2.2.2.2⟩
      .rintro w ⟨y,s,Y⟩
       have:=w.nZ V y s;omega
    simp only[cZ,bd]at e1
    refine⟨λk=>?_,λe6=>?_⟩
    .simp only[bQ]at k
     have bi:=C.oD.2.2.2.2.1 k
     have jX:Ko N.aR a x->iN g N a x bF:=λu=>by
      refine⟨L,aa,?_,?_,ac,?_,?_,?_,?_,?_,?_,?_,?_⟩<;>intro q<;>first|(exfalso;omega)|exact u
     refine⟨λG=>?_,λG=>pX (jX λH=>absurd (sp G) H) A⟩
     simp at G
     have aG:eV (x.cR -1)=x.cR -1:=gJ
     rw[aG]
     have M:0<=x.cR -1/\x.cR -1<a.cL.length:=V
     refine⟨h,I.g5,V,V,_,I.cL.uG M.1 M.2,λF=>?_,λF=>pX (jX λ_ H=>absurd (sp F) H) A⟩
     simp at F
     obtain⟨U,dd,av,_⟩:=C.Qb _ (gZ M.1 M.2) F
     have bl:=bC av
     have aN:ix (br a.cL (x.cR -1))=(br a.cL (x.cR -1) -1000).toNat:=rfl
     have aH:eV (br a.cL (x.cR -1) -1000)=br a.cL (x.cR -1) -1000:=gJ
     have be:=R.aR.aT
     let⟨f9,aM,k0,k1,aO⟩:=(jI.ext A R.aR).br av
     have a_:=aM.aT
     have aF:bu N.aR (br a.cL (x.cR -1))=dd:=by simp[bu,av]
     refine⟨u,hV.wL,h,I.g5,V,V,_,I.cL.uG M.1 M.2,?_⟩
     rw[aH,<-aN]
     refine⟨V,V,f9,aO,lI ?_ A⟩
     simp only[bQ]
     refine⟨λan=>jX λ_ _=>by rw[aF];omega,λw=>?_⟩
     have:=w.jM k G F
     rw[aF]at this;omega
    simp only[bd]at e6
    refine⟨λk=>?_,λaN=>?_⟩
    .simp only[eK,bQ]at k
     refine(CP a3).bL Z P λj m8 t ah K=>⟨j,O,λG=>gH (λw=>nb t G (w.mQ k).1) (z.N K),λG=>?_⟩
     have F8:=T.ext (z.N K)
     refine⟨h,F8.g5,(CP F8.cL).bL K P λb2 m9 aH a_ aG=>⟨b2,O,λF=>gH (λw=>nb aH F (w.mQ k).2) (z.N aG),λF=>?_⟩⟩
     have M:=z.N aG
     have F9:=T.ext M
     have jX:(x.op=23->1<N.bo.length\/br a.aU (br x.aO 0)<1000)->iN g N a x bF:=λu=>by
      refine⟨L,aa,?_,?_,ac,?_,?_,?_,?_,?_,?_,?_,?_⟩<;>intro q<;>first|exact u q|(exfalso;omega)|exact⟨(yb t G),(yb aH F)⟩
     have be:=R.bo.aT
     refine⟨λan=>pX (jX λq=>by simp at an;omega) M,λan=>⟨fr,M.aS R.TB,λav=>pX (jX λ_=>bz (by simp at av;omega)) M,λav=>?_⟩⟩
     simp at an av
     have aM:x.op=23:=V
     have Y:=C.oD.2.1 V
     have S:=aE V
     refine⟨d,F9.g3,V,V,_,ga M V,S.1,V,_,F9.aU.uG S.1 S.2,lI ?_ M⟩
     simp
     refine⟨λaO=>jX λ_=>bH aO,λw=>?_⟩
     rcases w.qv aM with aF|aF
     .omega
     .exact aF
    simp only[cZ,bd]at aN
    refine⟨λk=>?_,λw=>?_⟩
    .simp only[bQ]at k
     refine(Mp hV (A.aS aU) C I (ha.ext A) k aI).bL Z P λj m8 t ah K=>⟨j,O,lI (t.trans ?_) (z.N K)⟩
     refine⟨λu=>?_,λh=>h.apply k⟩
     refine⟨L,aa,?_,?_,ac,?_,?_,?_,?_,?_,?_,?_,?_⟩<;>intro q<;>first|(exfalso;omega)|exact u
    simp only[bd]at w
    refine⟨λk=>?_,λG=>?_⟩
    .simp only[bQ]at k
     have Y:=C.oD.2.1 V
     have S:=aE V
     refine⟨d,I.g3,V,V,_,ga A V,S.1,V,_,I.aU.uG S.1 S.2,lI ?_ A⟩
     simp only[bh]
     refine⟨λu=>?_,λh=>h.uV k⟩
     refine⟨L,aa,?_,?_,ac,?_,?_,?_,?_,?_,?_,?_,?_⟩<;>intro q<;>first|(exfalso;omega)|exact u
    simp only[bd]at G
    refine⟨λk=>?_,λF=>?_⟩
    .simp only[eK,bQ]at k
     refine(Jh hV C I (ha.ext A) V aI).bL Z P λj m8 t ah K=>⟨j,O,lI (t.trans ?_) (z.N K)⟩
     refine⟨λu=>?_,λh=>⟨h.WQ,h.pV,h.ta,h.AL⟩⟩
     refine⟨L,aa,?_,?_,ac,?_,?_,?_,u.1,?_,u.2.2.2,u.2.1,u.2.2.1⟩<;>intro q<;>exfalso<;>omega
    .simp only[cZ,bd]at F
     refine pX ?_ A
     refine⟨L,aa,?_,?_,ac,?_,?_,?_,?_,?_,?_,?_,?_⟩<;>intro q<;>exfalso<;>omega
end
section
variable{N c:Nat}{b:ag}{a:D}{h:ah}
def qK(w:Int)(a:D):yB dP 98 [vi w] a (vi (ig w)):=by
 apply AF;unfold ig;exact⟨λh=>by simp at h;rw[a8 h];exact⟨O,dt⟩,λh=>by simp at h;rw[aV V];exact⟨O,dt⟩⟩
def ze{d:E}(p:gC N b a d h)(y:∀e,a.size<=e->b e=0)(kb:dJ a c ik [.s d])(A:b c=5)(G:h.length<=2000000000):
 bJ dP 145 [vp c 0] a λ_ g=>gC N b g (d.cut 0 (lL h h.length) 3) (oY h)/\dJ g c ik [.s (d.cut 0 (lL h h.length) 3)]/\HC b a b g:=by
 apply EI (c,0)
 have F:=p.aT
 have q:=p.kL V
 have C:=q.mr
 have j:=kb.dg 0
 refine⟨d,j,λl g=>g=a/\∃n:Nat,l=n/\n<=h.length/\lL h n=lL h h.length,λl _=>l.toNat,⟨O,h.length,V,bY,O⟩,?_⟩
 rintro l e ⟨rfl,n,rfl,z,r⟩
 have u:Int.toNat 0=0:=rfl
 have en:Int.toNat (n:Int)=n:=V
 have jX:lL h n=n->gC N b (aW e c 0 [.s (d.cut 0 n 3)]) (d.cut 0 (lL h h.length) 3) (oY h)/\dJ (aW e c 0 [.s (d.cut 0 n 3)]) c ik [.s (d.cut 0 (lL h h.length) 3)]/\HC b e b (aW e c 0 [.s (d.cut 0 n 3)]):=λt=>by
  have f:eu (λk=>k=5) b e b (aW e c 0 [.s (d.cut 0 n 3)]):=eu.aW y A _ _;have i:lL h h.length=n:=by rw[<-r,t]
  rw[i];refine⟨?_,dJ.aW (m:=e) kb,f.aP λk x=>bH (bz x)⟩;have:=(p.gX f cH cH).rG z;unfold oY;rw[i];exact this
 refine dit (λw=>?_) λw=>?_
 .obtain⟨k,rfl⟩:∃k,n=k+1:=⟨n -1,V⟩
  have i:eV (((k+1:Nat):Int) -1)=(k:Int):=by rw[gJ];omega
  let⟨s,f⟩:=dY h k
  obtain⟨B,D,v,_⟩:=q.br f
  refine⟨d,j,?_⟩
  rw[i]
  refine⟨V,V,s.bX,sp v,λo=>⟨⟨O,k,O,V,?_⟩,by show(k:Int).toNat<((k+1:Nat):Int).toNat;omega⟩,λo=>⟨d,j,V,V,V,kb.gK bO,?_⟩⟩
  .rw[<-r,V7 f (sp o)]
  .rw[u,en];exact jX (Rn f (sp o))
 .have o:n=0:=V
  subst o
  exact⟨d,j,V,V,V,kb.gK bO,jX O⟩
def KM{e:E}(hh:gC N b a e h)(hn:∀g,a.size<=g->b g=0)(kb:dJ a c ik [.s e])(hr:b c=5){w:Int}{U:Nat->Int}(hI:jc h (λg=>U g+kG [w] g))(Y:∀g,0<=U g)(aL:h.length<=2000000000):
 bJ dP 96 [vp c 0,vi w] a λ_ m=>∃q am,gC N q m am (oY (ju h [w]))/\dJ m c ik [.s am]/\HC b a q m:=by
 apply EH (c,0)
 intro D
 obtain⟨W,s1⟩:=pu D
 have o1:js a D bG 1 (.mk a.size 0 1 1) ([w].map Ce.i):=js.bI (J.cX a) bG 1 _ 1 bO
 have c1:HC b a (pE b a.size 6) D:=eu.pE W hn bY V 6
 have a1:iV (pE b a.size 6) D bG 1 6 (.mk a.size 0 1 1) ([w].map Ce.i):=iV.jT o1 λ_=>iE
 have aB:gC N (pE b a.size 6) D e h:=hh.gX (eu.pE (p:=λ_=>False) W hn bY V 6) id id
 have aF:=kb.ext W
 have aC:pE b a.size 6 c=5:=by rw[fO (oh kb.lt)];exact hr
 have aI:=TC λaw d=>(hI.iF aw d).fl
 have aJ:=hh.aT
 refine Uq (λi F m=>∃q,gC N q m e i.1/\iV q m bG 1 6 F (i.2.reverse.map Ce.i)/\HC b a q m/\jc i.1 (λg=>U g+kG i.2 g)/\ju i.1 i.2=ju h [w]/\i.1.length=h.length/\i.2.length+Hd i.1<=1+Hd h/\dJ m c ik [.s e]/\q c=5) (λi=>Es i.1+i.2.length) (h,[w])
  ⟨_,aB,a1,c1,hI,O,O,bO,aF,aC⟩ ?_
 rintro⟨d,st⟩ F m2 aG μ ⟨n,y,a2,i,s,t,I,ag,M,u⟩ ac
 simp only[]at y a2 s t I ag
 have ap:F.len=st.length:=by have:=a2.aT;simp at this;omega
 refine dit (λh3=>?_) λh3=>?_
 .cases st with
  |nil=>simp at ap;omega
  |cons x r=>
   simp only[Wj]at a2
   let⟨p1,p2,p3⟩:=a2.pop
   simp only[dD,qD]at ap p1 p2 p3 ag
   have e1:eV ((F.len:Int) -1)=(r.length:Int):=by rw[gJ];omega
   have aH:=a2.le
   have e2:Int.toNat 0=0:=rfl
   have e3:Int.toNat (r.length:Int)=r.length:=V
   have aq:1000<=x->iR d x:=λL=>s.UX Y L
   have aE:x<=9223372036854775807:=by
    rcases fS (1000<=x)with j|j
    .have:=bC (dL (aq j)).1;unfold ix at this;omega
    .omega
   refine⟨e,M.dg 0,?_⟩
   rw[e1,e2,e3]
   refine⟨V,V,x,p2,(oN (y.kL V) aE).aP ?_⟩
   rintro _ P ⟨av,g,rfl,ae,az,l⟩
   refine⟨av,g,O,V,V,V,λaA=>?_,λaf=>?_⟩
   .have L:=nb ae aA
    have G:HC n m2 n P:=eu.fZ l i.bI
    refine ac (d,r) _ _ ⟨n,y.gX (eu.fZ (p:=λ_=>False) l i.bI) id id,p3.gX (eu.fZ (p:=λ_=>False) l i.bI) id,i.N G,s.Ya ?_,?_,I,by simp only[];omega,M.ext l,u⟩ bO
    .rcases fS (1000<=x)with j|j
     .exact absurd (aq j) L
     .omega
    .rw[<-sP L];exact t
   .have B:=yb ae af
    have ay:=az (sp af)
    subst ay
    let⟨k,an⟩:=dL B
    have aj:=bC k
    have aK:=(s.iF _ (ba k)).hi
    have ax:Int.toNat ((ix x:Nat):Int)=ix x:=V
    have G:HC n m2 n P:=eu.fZ l i.bI
    have z:gC N n P e d:=y.gX (eu.fZ (p:=λ_=>False) l i.bI) id id
    have a3:=p3.gX (eu.fZ (p:=λ_=>False) l i.bI) id
    have C:=M.ext l
    obtain⟨f0,g0,_,_,_,_⟩:=z.dg k
    refine⟨e,C.dg 0,?_⟩
    rw[ax]
    refine⟨V,V,_,g0,V,V,z.wr (o:=0) aj cH,?_⟩
    have e5:eV ((bu d x).bX -1)=(bu d x).bX -1:=gJ
    rw[e5]
    intro m4
    let⟨aa,S⟩:=z.yd G.bI k ((bu d x).bX -1)
    have a4:=a3.gX S cH
    have v:dJ m4 c ik [.s e]:=C.congr (S.fH _ C.lt (by rw[u];decide))
    have R:=(i.N G).N (S.aP λar A=>bz A)
    have X:=mq (d:=kV) k
    simp only[a8 an,kV]at X
    simp at X
    have aD:(d.set (ix x) {bu d x with bX:=(bu d x).bX -1})[ix x]? =some {bu d x with bX:=(bu d x).bX -1}:=lA k
    obtain⟨f1,k0,_,k2,kf,kr⟩:=aa.dg aD
    refine⟨e,v.dg 0,V,V,_,k0,λj=>?_,λj=>?_⟩
    .simp only[bQ]at j
     have al:(bu d x).bX=1:=V
     have Z:=kf.aT
     simp only[]at Z kf kr
     have H:=EB kV k
     simp only[kV,kH]at H
     refine⟨e,v.dg 0,V,V,f1,k2,iV.fE a4 R.bI (by simp[Z]) kf.Fb ?_ λau aM m5 q1 Q=>?_⟩
     .have:(F.cut 0 r.length 1).len=r.length:=by have:=a4.aT;simp at this;omega
      rw[this,Z];omega
     have ah:=aa.gX Q cH cH
     have ad:=R.N (Q.aP λar A=>bH (bH A))
     have ab:dJ m5 c ik [.s e]:=v.congr (Q.fH _ v.lt (by rw[u];decide))
     have ao:au c=5:=((Q.jZ _ v.lt)▸u)
     have ak:ix x<(d.set (ix x) {bu d x with bX:=(bu d x).bX -1}).length:=sp aj
     refine⟨e,ab.dg 0,V,V,ah.wr (o:=0) ak cH,?_⟩
     intro m7
     let⟨ai,T⟩:=ah.pS ad.bI ak 0 0 (f:=.nil) ⟨O,bO,bO,bO⟩ (λK=>absurd O K)
     rw[Wl]at ai
     refine ac (d.set (ix x) kV,(bu d x).bV.reverse++r) _ _ ⟨au,ai,?_,ad.N (T.aP λar A=>bz A),s.Yb Y B al,?_,sp I,?_,ab.congr (T.fH _ ab.lt (by rw[ao];decide)),ao⟩ ?_
     .have:=q1.gX T cH
      simpa using this
     .rw[<-uU B al];exact t
     .simp only[dC,qD]
      have A:Hd (d.set (ix x) kV)+(bu d x).bV.length=Hd d:=by simpa[kV]using H
      omega
     .simp only[dC,qD,dD]
      have A:Es (d.set (ix x) kV)+((bu d x).bX.toNat+(bu d x).bV.length)=Es d:=by simpa[kV]using X
      omega
    .simp only[bd]at j
     have K:(bu d x).bX≠1:=V
     have A:=mq (d:={bu d x with bX:=(bu d x).bX -1}) k
     simp only[a8 an]at A
     rw[a8 V]at A
     have H:=EB {bu d x with bX:=(bu d x).bX -1} k
     refine ac (iQ d x,r) _ _ ⟨n,aa,a4,R,s.UY Y B K,?_,by simpa[iQ]using I,?_,v,u⟩ ?_
     .rw[<-sO B K];exact t
     .simp only[iQ];simp only[]at H;omega
     .simp only[iQ,dD];omega
 .have j:st=[]:=cp.1 V
  subst j
  rw[uT]at t
  subst t
  refine(ze y i.bI M u V).aP ?_
  rintro _ P ⟨z,C,g⟩
  exact⟨n,_,z,C,i.N g⟩
def Vb{i:E}(f:jI a i h):bJ dP 203 [i.v,.func (.func 204) #[] #[]] a λA j=>∃r:Int,A=vi r/\J a j/\(if fF h=h.length then r= -1 else r=fF h):=by
 apply pw i (.func 204,#[],#[]);have x:=f.aT;refine iC (x▸f.kM) (λk j=>J a j/\∀b∈h.take k,b.bX≠0) ⟨dt,bO⟩ ?_;rintro k n I μ w ⟨e,g⟩ z
 refine dit (λq=>?_) λq=>?_
 .let⟨b,d⟩:=dY h k;let⟨l,B,p,g1,g2⟩:=(jI.ext e f).br d;refine⟨V,V,b.bX,sp p,_,sp g1,l,sp g2,204,O,cH,?_⟩;have u:ir dP 204 [.agg #[vi b.bX,vi b.jH,l.v]] n (b.bX=0):=by
   apply Ax;simp -zeta only[dT];intro y;exact lI bO ((J.cX n).cz _)
  refine bJ.aP u ?_;rintro _ y ⟨o,rfl,c,m⟩;refine⟨o,O,λt=>⟨_,O,e.N m,?_⟩,λs=>z V _ ⟨e.N m,eI d g (fb c s)⟩⟩;have v:=Mk h k b g d (c.1 t);have:=bC d;rw[aV V,v]
 .refine⟨_,O,e,?_⟩;have:=EA h k w g;have:=tv h;rw[a8 V]
def Je{e:E}(k:gC N b a e h)(z:∀q,a.size<=q->b q=0)(kb:dJ a c ik [.s e])(L:b c=5)(F:Int){W:E}{C:ab}(hf:bg a W C)(an:h.length<=1000000000)(Z:C.length<=1000000000)(Y:N<=a.size):
 bJ dP 144 [vp c 0,vi F,W.v] a λaj Q=>∃g aa,aj=vi (1000+fF h)/\gC N g Q aa (jM h (fF h) ⟨1,F,C⟩)/\dJ Q c ik [.s aa]/\HC b a g Q:=by
 apply Dh (c,0)
 simp -zeta only[dT]
 refine(lG hf Z).cg Z λT m1 o1 i1 X=>⟨T,O,?_⟩
 intro m2 m3
 obtain⟨w,s3⟩:=pv m3
 have M:=X.N w
 have ac:C≠[]->b T.bt=0:=λaf=>by
  rcases o1.bt with i|i
  .subst i;have:=i1.aT;simp at this;exact absurd (cp.1 this.symm) af
  .exact z _ i
 have J:b m1.size=0:=z _ X.aQ
 have al:=k.aT
 have ak:=tv h
 refine⟨e,M.aS (kb.dg 0),(Vb (jI.ext M (k.kL V))).aP ?_⟩
 rintro _ v ⟨ai,rfl,n,A⟩
 have u:=M.N n
 have r:HC b a b v:=eu.fZ u z
 have K:gC N b v e h:=k.gX (eu.fZ (p:=λ_=>False) u z) id id
 have l:=kb.ext u
 have i4:=i1.ext (w.N n)
 have am:=n.aQ
 refine⟨n.fg fu,ai,O,λi=>?_,λi=>?_⟩
 .simp at i
  have y:fF h=h.length:=by
   rcases fS (fF h=h.length)with s|s
   .exact s
   .rw[aV s]at A;omega
  refine⟨e,l.dg 0,e,l.dg 0,?_⟩
  intro D
  obtain⟨j,s5⟩:=pu D
  have ni:jw D v.size 0 [.i 1,.i F,.s T]:=(dJ.push v _ _).kv
  have U:HC b a b D:=r.N (eu.fZ j r.bI)
  refine⟨j.cK (l.dg 0),gC.push (K.gX (eu.fZ (p:=λ_=>False) j r.bI) id id) U.bI (x:=.mk v.size 0 1 1) O ni (i4.ext j) (YR.of k (λI=>(u.N j).bB _ (k.bt I).2) (λ_=>o1.ext ((w.N n).N j)) ac Y) V λg ah R S d=>?_⟩
  have P:=l.ext j
  have ad:dJ R c ik [.s e]:=P.congr (d.fH _ P.lt (by rw[L];decide))
  have ag:g c=5:=((d.jZ _ P.lt)▸L)
  have ae:g m1.size=0:=by rw[d.jZ _ V];exact J
  refine⟨λq f=>?_,ad.gK bO,?_⟩
  .simp at f;subst f
   exact d.fH _ V (by rw[J];decide)
  intro m7
  have G:eu (λB=>B=5) g R g m7:=eu.aW d.bI ag _ _
  have H:eV (1000+(e.len:Int))=1000+(fF h:Int):=by rw[gJ];omega
  rw[H]
  refine⟨λq f=>?_,g,ah,O,?_,dJ.aW (m:=R) ad,(U.N (d.aP λB t=>bz t)).N (G.aP λB t=>bH (bz t))⟩
  .simp at f;subst f
   exact G.fH _ (oh d.aQ) (by rw[ae];decide)
  .rw[jM,a8 y];exact S.gX G cH cH
 .simp at i
  have y:fF h≠h.length:=λs=>by rw[a8 s]at A;omega
  rw[aV y]at A
  subst A
  have j:fF h<h.length:=V
  have G:Int.toNat ((fF h:Nat):Int)=fF h:=V
  have H:eV (1000+(fF h:Int))=1000+(fF h:Int):=gJ
  refine⟨e,l.dg 0,?_⟩
  rw[G,H]
  refine⟨V,V,K.wr (o:=0) j cH,?_⟩
  intro D
  let⟨S,d⟩:=K.pS r.bI j 1 F i4 (YR.of k (λI=>u.bB _ (k.bt I).2) (λ_=>o1.ext (w.N n)) ac Y)
  refine⟨λq f=>?_,b,e,O,?_,l.congr (d.fH _ l.lt (by rw[L];decide)),r.N (d.aP λB t=>bz t)⟩
  .simp at f;subst f
   exact d.fH _ V (by rw[J];decide)
  .rw[jM,aV y];exact S
end
section
variable{l:ab}
def TF{f b c:Int}(l:mV b)(m:mV c)(a:D):yB dP 143 [vi f,vi b,vi c] a (vi (TX f b c)):=by
 unfold mV at l m;have r: -2000000<=b*c/\b*c<=2000000:=by
  have e:(b*c).natAbs<=999*999:=by rw[Int.natAbs_mul];exact Rt V V
  omega
 have d:∀n:Int,(if(999:Int)<(if(-999:Int)>n then(-999:Int)else n)then(999:Int)else(if(-999:Int)>n then(-999:Int)else n))=Kx n:=λn=>by
  grind [Kx]
 have o:eV (b+c)=b+c:=by grind [dk]
 have p:eV (b -c)=b -c:=by grind [dk]
 have q:eV (b*c)=b*c:=by grind [dk]
 apply Ov;rw[o,p,q,d,d,d];unfold TX;refine⟨λh=>by simp at h;omega,λ_=>⟨λh=>by simp at h;omega,λ_=>⟨λh=>by simp at h;omega,λ_=>⟨λh=>by simp at h;omega,λ_=>⟨λe=>?_,λe=>⟨λg=>?_,λg=>⟨λi=>?_,λi=>⟨λj=>⟨λk=>?_,λk=>?_⟩,λj=>?_⟩⟩⟩⟩⟩⟩⟩⟩
 .grind [J.cX]
 .grind [J.cX]
 .grind [J.cX]
 .grind [J.cX]
 .grind [J.cX]
 .grind [J.cX]
def zR{a:D}{fb d:Nat}{f:bS}{u:E}(w:aS a fb (d+3)=some u.v)(p:bg a u f.aU){s:E}(q:bg a s l)(z:∀y∈l,0<=y/\y<f.aU.length)(M:l.length<=100000000):
 sM 95 [vp fb d,s.v] a (dR f l):=by
 apply BE (fb,d)
 have L:=q.aT
 have K:=p.aT
 have t:Int.toNat (s.len:Int)=l.length:=V
 rw[t]
 refine⟨V,dN _,V,V,?_⟩
 intro j
 have x:=px j
 have B:dJ j a.size bG ((eU l.length).map Ce.i):=by grind [tf,dJ.push]
 clear_value j
 simp only[E.nh,E.BV,E.lU,fD]
 refine iC (n:=l.length) V (λk b=>J a b/\dJ b a.size bG ((dR f (l.take k)++eU (l.length -k)).map Ce.i)) ⟨x,by simpa[dR]using B⟩ ?_
 rintro k C I μ H ⟨b,c⟩ F
 refine dit (λh=>?_) λh=>?_
 .let⟨y,g⟩:=dY l k
  have i:=z y (ba g)
  have v:Int.toNat (k:Int)*1=k:=V
  refine⟨V,V,y,by simpa using b.aS (q.br g),u,b.aS w,i.1,V,_,b.aS (p.uG i.1 i.2),V,V,?_⟩
  rw[v]
  have e:(dR f (l.take k)).length=k:=by grind [dR]
  refine⟨c.gK (by simp[e,lX];omega),?_⟩
  refine F V _ ⟨b.aW bY _ _,?_⟩
  have:=dJ.aW (m:=C) (o:=k) (r:=[.i (br f.aU y)]) c
  have G:jm ((dR f (l.take k)++eU (l.length -k)).map Ce.i) k [.i (br f.aU y)]=(dR f (l.take (k+1))++eU (l.length -(k+1))).map Ce.i:=by
   have A:eU (l.length -k)=0::eU (l.length -(k+1)):=by
    have:l.length -k=(l.length -(k+1))+1:=V;rw[this];rfl
   rw[A,kJ,oR _ _ _ _ (by simp[e])];simp only[jQ,e,Wn,eP,jm,np];rw[bW g];simp[dR]
  grind
 .have e:k=l.length:=V
  subst e
  rw[fB,Wn]at c
  simp only[eU,Si,gA]at c
  refine⟨_,O,⟨by simp[dR],bH ⟨a.size,l.length,[],O,bY,by rw[gA];exact c,by simp[dR],bY⟩⟩,b⟩
abbrev IB(d p:E)(c:Int)(s:St)(cJ g b:E):ae:=[.s d,.s p,.i c,.i s.dx,.i s.kY,.i s.dv,.i s.df,.s cJ,.s g,.s b]
def IS(t:D)(j:ag)(a:D)(k:Nat)(d p:E)(c:Int)(s:St)(e:D):Prop:=
 ∃f cJ g b,uH t f e k dq (IB d p c s cJ g b) cJ g b s.cJ s.aR s.bo/\To j a f e
def IS.from{t:D}{j i:ag}{a f e:D}{k:Nat}{d p:E}{c:Int}{s:St}(h:IS t i f k d p c s e)(n:To j a i f):IS t j a k d p c s e:=
 let⟨o,cJ,g,b,l,m⟩:=h
 ⟨o,cJ,g,b,l,n.N m⟩
section
variable{t:D}{j r:ag}{a i:D}{k e:Nat}{m:ae}{cJ g b:E}{o:ab}{n:ah}{q:aj}{f:bS}{u v h:E}{w:List ae}
def ST.afO(S:ST t j a k e m cJ g b o n q f u v h w)(c:eu (λ_=>False) j a r i):ST t r i k e m cJ g b o n q f u v h w/\To j a r i:=by
 let⟨L,d⟩:=S.eO.jN (c.aP λ_=>False.elim) (S.eO.aR.gX c id id);exact⟨⟨L,S.jA.gX c λ_ _=>id⟩,d⟩
def ST.fp(S:ST t j a k e m cJ g b o n q f u v h w)(c:f.aU.length<=1000000/\f.bF.length<=1000000/\f.cL.length<=1000000):FP a b.bt (b.off+q.length*6) f u v h:=by
 obtain⟨_,_,_,d,i,l⟩:=S.jA.kv;exact⟨d,i,l,S.E8 c.1,S.NW c.2.1,S.Xc c.2.2⟩
def vF(S:ST t j a k e m cJ g b o n q f u v h w){d:Int}(c:0<=d)(r:d<f.aU.length)(z:d<f.bF.length)(l bF:Int):
 bJ dP 92 [vp b.bt (b.off+q.length*6),vi d,vi l,vi bF] a λ_ i=>ST t j i k e m cJ g b o n q (f.cE d l bF) u v h w/\To j a j i:=by
 apply ED (b.bt,b.off+q.length*6)
 obtain⟨_,_,_,x,y,A⟩:=S.jA.kv
 have C:u.len=f.aU.length:=by have:=S.jA.aU.aT;simp at this;omega
 have B:v.len=f.bF.length:=by have:=S.jA.bF.aT;simp at this;omega
 let⟨p,t1⟩:=S.Jr c r l
 let⟨s,t2⟩:=p.uq c cC bF
 exact⟨u,x,v,y,c,V,S.jA.aU.Ur c r,c,V,p.jA.bF.Ur c z,s,t1.N t2⟩
end
variable{t:D}{j:ag}{a:D}{k:Nat}{d p cJ g b:E}{c:Int}{s:St}{q:aj}{f:bS}{u v h:E}{w:List ae}
def ST.TD{e:Nat}{c:ae}{i:ab}{d:ah}(S:ST t j a k e c cJ g b i d q f u v h w):
 ST t (pE j a.size 5) (aW (a.push (.cells (dh [.s E.nil]) ik)) a.size 0 [.s g]) k e c cJ g b i d q f u v h w/\To j a (pE j a.size 5) (aW (a.push (.cells (dh [.s E.nil]) ik)) a.size 0 [.s g])/\
  dJ (aW (a.push (.cells (dh [.s E.nil]) ik)) a.size 0 [.s g]) a.size ik [.s g]:=by
 have p:J a (aW (a.push (.cells (dh [.s E.nil]) ik)) a.size 0 [.s g]):=by grind [J.cX,J.cz,J.aW]
 have n:eu (λ_=>False) j a (pE j a.size 5) (aW (a.push (.cells (dh [.s E.nil]) ik)) a.size 0 [.s g]):=eu.pE p S.eO.bI bY (by rw[bE];simp) 5
 let⟨l,t1⟩:=S.afO n
 exact⟨l,t1,dJ.aW (m:=a.push (.cells (dh [.s E.nil]) ik)) (o:=0) (r:=[.s g]) (dJ.push a _ _)⟩
def Iv(S:ST t j a k dq (IB d p c s cJ g b) cJ g b s.cJ s.aR q f u v h w)(n:Int){z:E}(F:bg a z l)(M:l.length<=1000000)(D:s.aR.length<=1000000000):
 bJ dP 94 [vp k 0,vi n,z.v] a λL x=>L=vi (1000+fF s.aR)/\∃y r,ST t y x k dq (IB d p c s cJ r b) cJ r b s.cJ (jM s.aR (fF s.aR) ⟨1,n,l⟩) q f u v h w/\To j a y x:=by
 apply zK (k,0)
 simp -zeta only[dT]
 refine⟨g,S.eO.bU.dg 8,?_⟩
 intro N I
 let⟨e,t2,kb⟩:=S.TD
 have G:=py I
 refine(Je e.eO.aR e.eO.bI kb iE n (F.ext G) D V e.eO.de.aQ).aP ?_
 rintro _ P ⟨J,m,rfl,C,H,B⟩
 let⟨o,t3⟩:=e.jN B C
 refine⟨_,O,m,H.dg 0,o.eO.pO (i:=8) bO,?_⟩
 intro Q
 let⟨A,K⟩:=o.lW 8 [.s m]
 exact⟨O,J,m,A,(t2.N t3).N K⟩
def KL(S:ST t j a k dq (IB d p c s cJ g b) cJ g b s.cJ s.aR q f u v h w){x:Instr}{U aq:E}(ha:bg t U x.aO)(af:∀y∈x.aO,0<=y/\y<f.aU.length)(ax:x.aO.length<=4)
 (aA:f.aU.length=f.bF.length/\f.cL.length=f.bF.length/\f.bF.length<=2000)(az:0<=x.cR/\x.cR<=f.cL.length)(aj:s.aR.length<=1000000000)(al:∀e∈f.cL,e≠0->1000<=e/\ix e<s.aR.length):
 bJ dP 93 [vp k 0,vp b.bt (b.off+q.length*6),xv x U aq] a λav m'=>∃(H:ag)(F:E)(l:Nat)(e:bS),av=vi (1000+l)/\ST t H m' k dq (IB d p c s cJ F b) cJ F b s.cJ (jM s.aR l ⟨1,x.cG,dR f x.aO⟩) q e u v h w/\To j a H m'/\
  e.aU=f.aU/\e.bF=f.bF/\e.pc=f.pc/\(∀y,rK s q {f with pc:=y} x x.cG={s with aR:=jM s.aR l ⟨1,x.cG,dR f x.aO⟩,bo:=q++[bS.cE {e with pc:=y+1} x.bA (1000+l) 1]}):=by
 apply wi (k,0) (b.bt,b.off+q.length*6)
 simp -zeta only[dT]
 intro m1
 obtain⟨ao,s1⟩:=pu m1
 let⟨z,t1⟩:=S.ext ao
 have R:Eb j m1 [a.size]:=λaw Z=>by simp at Z;subst Z;exact⟨V,S.eO.bI _ bY⟩
 have T:=z.fp ⟨V,V,V⟩
 have ay:h.len=f.cL.length:=by have:=S.jA.cL.aT;simp at this;omega
 refine(zR T.g3 T.aU (ha.ext z.eO.de) af V).aP ?_
 rintro _ N ⟨C,rfl,Q,Y⟩
 let⟨m,t2⟩:=z.ext Y
 have J:=R.to t2
 have aC:(dR f x.aO).length=x.aO.length:=by simp[dR]
 have G:bg N C (dR f x.aO):=bg.jT Q V
 have ad:=t1.N t2
 have none:¬(x.cR≠0/\br f.cL (x.cR -1)≠0)->bJ dP 94 [vp k 0,vi x.cG,C.v] N λar M=>gT [a.size] N M/\∃ac:Int,ar=vi ac/\∃(H:ag)(F:E)(l:Nat)(e:bS),vi ac=vi (1000+l)/\ST t H M k dq (IB d p c s cJ F b) cJ F b s.cJ (jM s.aR l ⟨1,x.cG,dR f x.aO⟩) q e u v h w/\To j a H M/\
  e.aU=f.aU/\e.bF=f.bF/\e.pc=f.pc/\(∀y,rK s q {f with pc:=y} x x.cG={s with aR:=jM s.aR l ⟨1,x.cG,dR f x.aO⟩,bo:=q++[bS.cE {e with pc:=y+1} x.bA (1000+l) 1]}):=λam=>by
  refine(Iv m x.cG G V aj).aP ?_
  rintro _ P ⟨rfl,au,an,n,t3⟩
  exact⟨t3.fW J,_,O,au,an,fF s.aR,f,O,n,ad.N t3,O,O,O,λy=>by rw[rK,aV am];rfl⟩
 refine⟨t2.fW R,C,O,λD=>none λK=>by simp at D;exact K.1 D,λD=>?_⟩
 simp at D
 have e1:eV (x.cR -1)=x.cR -1:=gJ
 have i:0<=x.cR -1/\x.cR -1<f.cL.length:=V
 have I:=m.fp ⟨V,V,V⟩
 have W:=I.cL.uG i.1 i.2
 refine⟨h,I.g5,?_⟩
 rw[e1]
 refine⟨V,V,_,W,λB=>none λK=>by simp at B;exact K.2 B,λB=>?_⟩
 simp at B
 let⟨aa,ab⟩:=al _ (gZ i.1 i.2) B
 have aB:=m.eO.aR.aT
 refine⟨h,I.g5,V,V,_,W,h,I.g5,V,V,m.jA.cL.Ur i.1 i.2,?_⟩
 intro P
 let⟨n,t3⟩:=m.GZ i.1 i.2 0
 have B3:=J.to t3
 have ak:ix (br f.cL (x.cR -1))=(br f.cL (x.cR -1) -1000).toNat:=rfl
 have e2:eV (br f.cL (x.cR -1) -1000)=br f.cL (x.cR -1) -1000:=gJ
 refine⟨t3.fW J,g,n.eO.bU.dg 8,?_⟩
 rw[e2,<-ak]
 refine⟨V,V,n.eO.aR.wr (o:=0) ab cH,?_⟩
 intro m4
 have L:dR f x.aO≠[]->j C.bt=0:=λr=>by
  rcases Q.bt with A|A
  .subst A;have:=G.aT;simp at this;exact absurd (cp.1 this.symm) r
  .exact S.eO.bI _ V
 have ap:bg P C (dR f x.aO):=lx G λr=>t3.fH _ (lS G r) (by rw[L r];simp)
 have ai:h.cap≠0:=λA=>by have:=(m.jA.cL.Ir A).1;simp at this;rw[this]at i;simp at i;omega
 have ae:YR t.size j P g s.aR C (dR f x.aO):=YR.of z.eO.aR (λX=>(cw _ _ _ _ λA=>by have q1:=(m.jA.cL.bt ai).2;have q2:=(m.eO.aR.bt X).1;rw[A,q1]at q2;omega).trans (Y.bB _ (z.eO.aR.bt X).2)) (λr=>Q.congr (t3.fH _ (lS G r) (by rw[L r];simp))) L z.eO.de.aQ
 let⟨ah,c4⟩:=n.eO.aR.pS n.eO.bI ab 1 x.cG ap ae
 let⟨S4,t4⟩:=n.jN (c4.aP λaD X=>bz X) ah
 have X:jM s.aR (ix (br f.cL (x.cR -1))) ⟨1,x.cG,dR f x.aO⟩=s.aR.set (ix (br f.cL (x.cR -1))) ⟨1,x.cG,dR f x.aO⟩:=by rw[jM,aV V]
 refine⟨t4.fW B3,j,g,ix (br f.cL (x.cR -1)),{f with cL:=iv f.cL (x.cR -1) 0},by rw[nK aa],by rw[X];exact S4,(ad.N t3).N t4,O,O,O,λy=>?_⟩
 rw[rK,a8 ⟨D,B⟩,X,nK aa];rfl
end
section
variable{w:Int}
def Qg:∀(b:ab)(g:ah),(∀v∈b,iR g v)->∀x,iR g x->iR (kO g b) x
 |[],g,_,x,c=>c
 |v::b,g,d,x,c=>by
  have e:=d v cQ;have up:∀y,iR g y->iR (pU g v) y:=λy a=>⟨a.1,(iL.pU e).2 a.2⟩;exact Qg b (pU g v) (λy a=>up y (d y (aX _ a))) x (up x c)
def Zb{h:ah}(c:iR h w)(d:(bu h w).bX≠1){x:Int}(a:iR h x):iR (iQ h w) x:=by
 let⟨f,b⟩:=dL c;refine⟨a.1,?_⟩;by_cases e:ix x=ix w
 .grind [iQ,iL.Hk]
 .exact(iL.ne e).2 a.2
variable{k:D}{e:ag}{m:D}{j:Nat}{d l cJ b g:E}{c:Int}{s:St}{i:aj}{a:bS}{r t h:E}{q:List ae}
open Classical in
noncomputable def we (g:ah) (w:Int) (fH:Bool):ah:=
 if(bu g w).bX=1/\fH=true then g.set (ix w) ⟨-1,0,eU (bu g w).bV.length⟩else iK g w
def Iw(S:ST k e m j dq (IB d l c s cJ b g) cJ b g s.cJ s.aR i a r t h q)(aa:iR s.aR w)(fH:Bool){ao:Nat->Int}(K:jc s.aR ao)(aF:s.aR.length<=1000000000):
 bJ dP 101 [vp j 0,vi w,vb fH] m λv z=>∃E:Bool,v=vb E/\(E=true<->(bu s.aR w).bX=1/\fH=true)/\∃am aj,ST k am z j dq (IB d l c s cJ aj g) cJ aj g s.cJ (we s.aR w fH) i a r t h q/\To e m am z:=by
 apply zL (j,0)
 simp -zeta only[dT]
 let⟨A,aM⟩:=dL aa
 have H:=bC A
 have aI:=S.eO.aR.aT
 have aH:=aa.1
 have aw:ix w=(w -1000).toNat:=rfl
 have e4:eV (w -1000)=w -1000:=gJ
 have ac:=K.iF _ (ba A)
 have aJ:=ac.hi
 have aD:=ac.fl
 have g8:=S.eO.bU.dg 8
 let⟨f0,W,g1,g2,gf,gr⟩:=S.eO.aR.dg A
 have aE:=gf.aT
 rw[e4,<-aw]
 refine⟨b,g8,V,V,λz=>z=m/\¬((bu s.aR w).bX=1/\fH=true),⟨_,W,λx=>⟨λy=>?_,λy=>⟨O,λu=>by rw[y]at u;simp at u⟩⟩,λx=>⟨O,λu=>by simp at x;exact x u.1⟩⟩,?_⟩
 .simp at x
  have T:Int.toNat (f0.len:Int)=(bu s.aR w).bV.length:=V
  refine⟨f0,g2,V,dN _,V,V,?_⟩
  rw[T]
  intro C
  have I:=px C
  have J:js m C bG 1 (.mk m.size 0 (bu s.aR w).bV.length (bu s.aR w).bV.length) ((eU (bu s.aR w).bV.length).map Ce.i):=by
   have U:C=m.push (.cells (dh ((eU (bu s.aR w).bV.length).map Ce.i)) bG):=by rw[<-tf]
   rw[U];exact S0 _
  let⟨B,t1⟩:=S.ext I
  refine⟨B.eO.aR.wr (o:=0) H cH,?_⟩
  intro m2
  let⟨D,F⟩:=B.eO.aR.pS B.eO.bI H (-1) 0 (bg.jT J (by rw[lX];omega)) (YR.of S.eO.aR (λu=>I.bB _ (S.eO.aR.bt u).2) (λ_=>J) (λ_=>S.eO.bI _ bY) S.eO.de.aQ)
  let⟨G,t2⟩:=B.jN (F.aP λu y=>bz y) D
  refine⟨true,O,by simp[x,y],e,b,?_,t1.N t2⟩
  rw[we,a8 ⟨x,y⟩];exact G
 .rintro C ⟨rfl,ai⟩
  have af:(false=true<->(bu s.aR w).bX=1/\fH=true):=⟨sx,λh=>absurd h ai⟩
  rw[show we s.aR w fH=iK s.aR w by rw[we,aV ai]]
  refine⟨_,W,λx=>?_,λx=>?_⟩
  .simp at x
   refine⟨S.eO.aR.wr (o:=0) H cH,?_⟩
   intro m2
   let⟨D,F⟩:=S.eO.aR.pS S.eO.bI H 0 0 (f:=.nil) ⟨O,bO,bO,bO⟩ (λQ=>absurd O Q)
   let⟨G,t2⟩:=S.jN (F.aP λu y=>bz y) D
   refine⟨b,G.eO.bU.dg 8,?_⟩
   intro m3 m4
   let⟨B,N,kb⟩:=G.TD
   refine(ze B.eO.aR B.eO.bI kb iE fu).aP ?_
   rintro _ X ⟨Z,M,J⟩
   let⟨I,P⟩:=B.jN J Z
   refine⟨_,M.dg 0,I.eO.pO bO,?_⟩
   intro Y
   let⟨L,R⟩:=I.lW 8 [.s (b.cut 0 (lL (s.aR.set (ix w) ⟨0,0,[]⟩) (s.aR.set (ix w) ⟨0,0,[]⟩).length) 3)]
   refine⟨false,O,af,_,b.cut 0 (lL (s.aR.set (ix w) ⟨0,0,[]⟩) (s.aR.set (ix w) ⟨0,0,[]⟩).length) 3,?_,((t2.N N).N P).N R⟩
   rw[iK,a8 x];exact L
  .simp only[bd]at x
   have T:eV ((bu s.aR w).bX -1)=(bu s.aR w).bX -1:=gJ
   refine⟨_,W,S.eO.aR.wr (o:=0) H cH,?_⟩
   rw[T]
   intro m2
   let⟨D,F⟩:=S.eO.aR.yd S.eO.bI A ((bu s.aR w).bX -1)
   let⟨f1,k0,k1,k2,kf,kr⟩:=D.dg (lA A)
   simp only[]at kf kr
   have aG:=kf.aT
   refine⟨f1,k2,?_⟩
   have ae:∀{z},eu (λu=>u=3) e C e z->aS z j 8=some b.v:=λhc=>by rw[bD (hc.fH _ S.eO.bU.lt (by rw[S.eO.Wr];decide))];exact g8
   have ah:∀v∈(bu s.aR w).bV,1000<=v->iR (iQ s.aR w) v:=λv B b=>Zb aa x (K.qj (ba A) B b)
   have av:∀R∈iQ s.aR w,-10<=R.bX/\R.bX<=999999:=λR hq=>by
    rcases sg hq with rfl|⟨E,_,L⟩
    .simp only[];omega
    .have:=K.iF R (ba L);have h5:=this.lo;have Y:=this.hi;omega
   refine iC (n:=(bu s.aR w).bV.length) V (λu z=>gC k.size e z b (kO (iQ s.aR w) (oF ((bu s.aR w).bV.take u)))/\eu (λu=>u=3) e C e z/\bg z f1 (bu s.aR w).bV) ⟨D,F,kf⟩ ?_
   rintro u m3 aB μ y ⟨N,G,ak⟩ al
   refine dit (λh5=>?_) λh5=>?_
   .let⟨v,B⟩:=dY ((bu s.aR w).bV) u
    have aA:v<=9223372036854775807:=by
     rcases fS (1000<=v)with Y|Y
     .have:=bC (dL (K.qj (ba A) (ba B) Y)).1;unfold ix at this;omega
     .omega
    have az:(kO (iQ s.aR w) (oF ((bu s.aR w).bV.take u))).length=s.aR.length:=by rw[AN];simp[iQ]
    have ax:1000<=v->iR (kO (iQ s.aR w) (oF ((bu s.aR w).bV.take u))) v:=λb=>Qg _ _ (λM I=>ah M (jG (nU.1 I).1) (nU.1 I).2) v (ah v (ba B) b)
    refine⟨V,V,v,by simpa using ak.br B,b,ae G,(oN (N.kL (by rw[az];omega)) aA).aP ?_⟩
    rintro _ m4 ⟨an,E,rfl,L,ar,X⟩
    have I:eu (λu=>u=3) e C e m4:=G.N (eu.fZ X G.bI)
    have P:=N.gX (eu.fZ (p:=λ_=>False) X G.bI) id id
    have ab:=ak.ext X
    refine⟨an,E,O,λad=>?_,λau=>al V _ ⟨?_,I,ab⟩⟩
    .have ag:=L.1 ad
     have aq:=ar ad
     subst aq
     let⟨M,aK⟩:=dL ag
     have ay:=bC M
     obtain⟨f4,j0,_⟩:=P.dg M
     have aC:=EX _ _ 999999 av _ (ba M)
     have aL:=sk ((bu s.aR w).bV.take u)
     have aN:((bu s.aR w).bV.take u).length<=3:=fu
     have U:eV ((bu (kO (iQ s.aR w) (oF ((bu s.aR w).bV.take u))) v).bX+1)=(bu (kO (iQ s.aR w) (oF ((bu s.aR w).bV.take u))) v).bX+1:=gJ
     have ap:Int.toNat ((ix v:Nat):Int)=ix v:=V
     refine⟨b,ae I,?_⟩
     rw[ap]
     refine⟨V,V,_,j0,V,V,P.wr (o:=0) ay cH,?_⟩
     rw[U]
     let⟨Z,J⟩:=P.yd I.bI M ((bu (kO (iQ s.aR w) (oF ((bu s.aR w).bV.take u))) v).bX+1)
     refine al V _ ⟨?_,I.N J,lx ab λQ=>J.fH _ (lS ab Q) (by rw[(kr Q).1];decide)⟩
     have:oF [v]=[v]:=by simp[oF,ag.1]
     rw[bW B,tz,this,Jo]
     exact Z
    .have J:¬1000<=v:=λb=>fb L au (ax b)
     have:oF [v]=[]:=by simp[oF];omega
     rw[bW B,tz,this,gA];exact P
   .rw[eY V]at N
    let⟨I,t3⟩:=S.jN (G.aP λu y=>bz y) N
    refine⟨false,O,af,e,b,?_,t3⟩
    rw[iK,aV x];exact I
def Ox(T:ST k e m j dq (IB d l c s cJ b g) cJ b g s.cJ s.aR i a r t h q){x:Instr}{W ag:E}(ha:bg k W x.aO)(ae:∀y∈x.aO,0<=y/\y<a.aU.length)(ai:x.aO.length<=4)(h5:x.op=5->x.aO.length=1)(h2:x.op≠0->x.op≠5->x.aO.length=2)(Y:x.op≠0->∀y∈x.aO,mV (br a.aU y))
 (aj:a.aU.length=a.bF.length/\a.cL.length=a.bF.length/\a.bF.length<=2000)(hd:0<=x.bA/\x.bA<a.bF.length)(al:s.cJ.length<=1000000000):
 bJ dP 91 [vp j 0,vp g.bt (g.off+i.length*6),xv x W ag] m λ_ o=>IS k e m j d l c (if x.op=0 then{s with bo:=i++[a.cE x.bA x.cG 0]}else if x.op=5 then{s with cJ:=s.cJ++[br a.aU (br x.aO 0)],bo:=i++[a.cE x.bA (br a.aU (br x.aO 0)) 0]}else{s with bo:=i++[a.cE x.bA (TX x.op (br a.aU (br x.aO 0)) (br a.aU (br x.aO 1))) 0]}) o:=by
 apply xO (j,0) (g.bt,g.off+i.length*6)
 simp -zeta only[dT]
 intro m1
 obtain⟨af,s1⟩:=pu m1
 let⟨C,t1⟩:=T.ext af
 have P:Eb e m1 [m.size]:=λX w=>by simp at w;subst w;exact⟨V,T.eO.bI _ bY⟩
 have S:=C.fp ⟨V,V,V⟩
 refine(zR S.g3 S.aU (ha.ext C.eO.de) ae V).aP ?_
 rintro _ p ⟨ws,rfl,ow,ad⟩
 let⟨u,t2⟩:=C.ext ad
 have B:=P.to t2
 have am:(dR a x.aO).length=x.aO.length:=by simp[dR]
 have y:bg p ws (dR a x.aO):=by grind [bg.jT]
 have an:=y.aT
 have ac:=t1.N t2
 have N:∀{z:Nat},z<x.aO.length->(dR a x.aO)[z]? =some (br a.aU (br x.aO z)):=λ{z} hk=>by
  grind [jq,dR,XV]
 have ab:∀{M:D}(Z:J p M)(A:Int),bJ dP 92 [vp g.bt (g.off+i.length*6),vi x.bA,vi A,vi 0] M λ_ o=>gT [m.size] M o/\IS k e m j d l c {s with bo:=i++[a.cE x.bA A 0]} o:=λZ A=>by
  let⟨SM,tM⟩:=u.ext Z;refine(vF SM hd.1 V hd.2 A 0).aP ?_;rintro _ o ⟨S',t'⟩;exact⟨t'.fW (B.to tM),e,cJ,b,g,S'.eO,(ac.N tM).N t'⟩
 refine⟨t2.fW P,ws,O,λn=>?_,λf=>⟨λn=>?_,λG=>?_⟩⟩
 .simp at n;rw[a8 n];exact ab dt _
 .simp at f n
  rw[aV f,a8 n]
  have h1:=h5 n
  have ak:(E.len cJ)=s.cJ.length:=by have:=u.eO.cJ.aT;simp at this;omega
  refine⟨V,V,_,y.br (N V),cJ,u.eO.bU.dg 7,?_⟩
  intro H
  have v:=px H
  have ni:jw H p.size 0 [.i (br a.aU (br x.aO (0:Int)))]:=(dJ.push p _ _).kv
  let⟨F,t3⟩:=u.ext v
  have Q:=B.to t3
  refine iV.fE F.eO.cJ F.eO.bI O ni (by simp only[E.lU];omega) λaa I m4 q1 q2=>?_
  have ah:iV aa m4 bG 1 2 I ((s.cJ++[br a.aU (br x.aO 0)]).map Ce.i):=sp q1
  let⟨U,K⟩:=F.QN q2 ah
  have R:=Q.to K
  refine⟨K.fW Q,U.eO.pO bO,?_⟩
  intro m5
  let⟨S5,L⟩:=U.lW 7 [.s I]
  refine⟨L.fW R,(vF S5 hd.1 V hd.2 (br a.aU (br x.aO 0)) 0).aP ?_⟩
  rintro _ m6 ⟨S6,t6⟩
  exact⟨t6.fW (R.to L),aa,I,b,g,S6.eO,(((ac.N t3).N K).N L).N t6⟩
 .simp at f G
  rw[aV f,aV G]
  have h1:=h2 f G
  refine⟨V,V,_,y.br (N V),V,V,_,y.br (N V),?_⟩
  refine(TF (Y f _ (gZ V V)) (Y f _ (gZ V V)) p).aP ?_
  rintro _ H ⟨rfl,v⟩
  exact⟨v.fg (λX w=>(B X w).1),_,O,ab v _⟩
end
section
variable{b1 b2 b3 t F:Nat}{C:cO}{g:Int}{q:dS}{k:D}{l:ab}
section
variable{z:D}{u:ag}{e:D}{v:Nat}{d y cJ A j:E}{c:Int}{s:St}{b:aj}{a:bS}{B G h:E}{H:List ae}
def TG(S:ST z u e v dq (IB d y c s cJ A j) cJ A j s.cJ s.aR b a B G h H){x:Instr}{o an:E}(X:bg z o x.aO)(ar:∀f∈x.aO,0<=f/\f<a.aU.length)(ap:1<=x.aO.length/\x.aO.length<=4)
 (ax:a.aU.length=a.bF.length/\a.cL.length=a.bF.length/\a.bF.length<=2000)(ak:s.aR.length<=1000000000)(ad:∀q∈a.bF,0<=q/\q<=999999)
 (al:iR s.aR (br a.aU (br x.aO 0))){af:Nat->Int}(hI:jc s.aR af){P:Int}(aA:a.pc=P+1):
 bJ dP 97 [vp v 0,vp j.bt (j.off+b.length*6),xv x o an] e λ_ k=>IS z u e v d y c (xX s b {a with pc:=P} x) k:=by
 apply Az (v,0) (j.bt,j.off+b.length*6)
 simp -zeta only[dT]
 intro m1
 obtain⟨am,s1⟩:=pu m1
 let⟨N,t1⟩:=S.ext am
 have B1:Eb u m1 [e.size]:=λab F=>by simp at F;subst F;exact⟨V,S.eO.bI _ bY⟩
 have aB:B.len=a.aU.length:=by have:=S.jA.aU.aT;simp at this;omega
 have az:G.len=a.bF.length:=by have:=S.jA.bF.aT;simp at this;omega
 have aw:h.len=a.cL.length:=by have:=S.jA.cL.aT;simp at this;omega
 have aq:=X.aT
 have ao:=X.mr
 have D:0<=br x.aO 0/\br x.aO 0<a.aU.length:=by grind [gZ]
 have ga:∀{k},J z k->aS k o.bt (o.off+Int.toNat (0:Int)*1)=some (vi (br x.aO 0)):=λhx=>(X.ext hx).uG V V
 obtain⟨_,_,_,g3,_,_⟩:=N.jA.kv
 generalize hw:br a.aU (br x.aO 0)=w at*
 refine⟨B,g3,V,V,_,ga N.eO.de,D.1,V,w,by rw[<-hw];exact(N.E8 V).uG D.1 D.2,(Iw N al (x.op==17) hI ak).aP ?_⟩
 rintro _ m2 ⟨ab,rfl,F,p,I,L,t2⟩
 have Q:=B1.to t2
 have ag:(x.op==17)=true<->x.op=17:=bO
 rw[ag]at F
 have e1:Int.toNat (1:Int)=1:=rfl
 have e2:Int.toNat (o.len:Int)=o.len:=V
 have Y:∀{k},J z k->bg k (E.cut o 1 o.len 1) (x.aO.drop 1):=by grind [abm,bg.ext]
 have au:(E.cut o 1 o.len 1).len=x.aO.length -1:=by have:=(Y (J.cX z)).aT;simp at this;omega
 have av:(x.aO.drop 1).length=x.aO.length -1:=bO
 have ac:∀f∈x.aO.drop 1,0<=f/\f<a.aU.length:=by grind [List.mem_of_mem_drop]
 rw[e1,e2]
 refine⟨t2.fW B1,ab,O,λaj=>?_,λai=>?_⟩
 .obtain⟨_,_,_,_,_,g5⟩:=L.jA.kv
  have hh:=F.1 aj
  refine⟨h,g5,V,V,_,ga L.eO.de,D.1,V,L.jA.cL.Ur D.1 V,?_⟩
  intro m3
  let⟨S3,t3⟩:=L.GZ D.1 V w
  refine⟨t3.fW Q,V,V,V,?_⟩
  refine iC (n:=(x.aO.drop 1).length) V (λg k=>ST z p k v dq (IB d y c s cJ I j) cJ I j s.cJ (we s.aR w (x.op==17)) b {a with cL:=iv a.cL (br x.aO 0) w,bF:=fj a.bF ((x.aO.drop 1).take g)} B G h H/\To u e p k/\Eb p k [e.size]) ⟨by rw[List.take_zero];exact S3,(t1.N t2).N t3,(Q.to t3)⟩ ?_
  rintro g m4 ae μ hk ⟨l,M,K⟩ aa
  have Z:∀q∈fj a.bF ((x.aO.drop 1).take g),0<=q/\q<=1000010:=λq hq=>by
   have:=vr _ a.bF 999999 V ad q hq;have h3:((x.aO.drop 1).take g).length<=4:=cC;omega
  refine dit (λW=>?_) λW=>?_
  .let⟨f,r⟩:=dY (x.aO.drop 1) g
   have m:=ac f (ba r)
   have t:f<(fj a.bF ((x.aO.drop 1).take g)).length:=by grind [vD]
   have ah:=Kq (i:=f) Z V
   have T:eV (br (fj a.bF ((x.aO.drop 1).take g)) f+1)=br (fj a.bF ((x.aO.drop 1).take g)) f+1:=by grind [dk]
   obtain⟨_,_,_,_,U,_⟩:=l.jA.kv
   refine⟨V,V,f,by simpa using(Y l.eO.de).br r,G,U,m.1,V,_,(l.NW cC).uG m.1 t,m.1,V,l.jA.bF.Ur m.1 t,?_⟩
   rw[T]
   intro m5
   let⟨R,C⟩:=l.uq m.1 t (br (fj a.bF ((x.aO.drop 1).take g)) f+1)
   refine⟨C.fW K,aa V _ ⟨?_,M.N C,K.to C⟩⟩
   rw[bW r,wU];exact R
  .rw[eY V]at l
   refine⟨p,cJ,I,j,?_,M⟩
   have:xX s b {a with pc:=P} x={s with aR:=we s.aR w (x.op==17),bo:=b++[{a with cL:=iv a.cL (br x.aO 0) w,bF:=fj a.bF (x.aO.drop 1)}]}:=by
    grind [xX,we]
   grind [ST.eO]
 .have ay:¬((bu s.aR w).bX=1/\x.op=17):=λhh=>by have:=F.2 hh;rw[ai]at this;simp at this
  refine⟨V,V,V,?_⟩
  refine iC (n:=(x.aO.drop 1).length) V (λg k=>ST z p k v dq (IB d y c s cJ I j) cJ I j s.cJ (we s.aR w (x.op==17)) b {a with bF:=fj a.bF ((x.aO.drop 1).take g)} B G h H/\To u e p k/\Eb p k [e.size]) ⟨by simpa[fj]using L,t1.N t2,Q⟩ ?_
  rintro g m4 ae μ hk ⟨l,M,K⟩ aa
  have Z:∀q∈fj a.bF ((x.aO.drop 1).take g),0<=q/\q<=1000010:=λq hq=>by
   have:=vr _ a.bF 999999 V ad q hq;have h3:((x.aO.drop 1).take g).length<=4:=cC;omega
  refine dit (λW=>?_) λW=>?_
  .let⟨f,r⟩:=dY (x.aO.drop 1) g
   have m:=ac f (ba r)
   have t:f<(fj a.bF ((x.aO.drop 1).take g)).length:=by grind [vD]
   have ah:=Kq (i:=f) Z V
   have T:eV (br (fj a.bF ((x.aO.drop 1).take g)) f+1)=br (fj a.bF ((x.aO.drop 1).take g)) f+1:=by grind [dk]
   obtain⟨_,_,_,_,U,_⟩:=l.jA.kv
   refine⟨V,V,f,by simpa using(Y l.eO.de).br r,G,U,m.1,V,_,(l.NW cC).uG m.1 t,m.1,V,l.jA.bF.Ur m.1 t,?_⟩
   rw[T]
   intro m5
   let⟨R,C⟩:=l.uq m.1 t (br (fj a.bF ((x.aO.drop 1).take g)) f+1)
   refine⟨C.fW K,aa V _ ⟨?_,M.N C,K.to C⟩⟩
   rw[bW r,wU];exact R
  .rw[eY V]at l
   refine⟨p,cJ,I,j,?_,M⟩
   have:xX s b {a with pc:=P} x={s with aR:=we s.aR w (x.op==17),bo:=b++[{a with bF:=fj a.bF (x.aO.drop 1)}]}:=by
    grind [xX,we]
   grind [ST.eO]
def sL.Xh{u:ag}{e:D}:sL u e .nil []:=⟨[],iV.jT (js.gF e e _ _) (λa=>absurd O a),O,bO,bO⟩
def Mo(S:ST z u e v dq (IB d y c s cJ A j) cJ A j s.cJ s.aR b a B G h H)(ae:b.length<=100000)(w:Int)(U:∀g,b.getLast?=some g->0<=a.bA/\a.bA<g.aU.length/\a.bA<g.bF.length):
 bJ dP 102 [vp v 0,vi w] e λ_ k=>IS z u e v d y c (match b.getLast? with|none=>{s with dx:=0,kY:=w,bo:=[]}|some g=>{s with bo:=b.dropLast++[g.cE a.bA w (ig w)]}) k:=by
 apply xc (v,0)
 simp -zeta only
 have x:=S.jA.CM
 have ab:=S.jA.rm.le
 have J:eV ((j.len:Int) -1)=(b.length:Int):=by grind [dk]
 have K:Int.toNat (b.length:Int)=b.length:=V
 have p:aS e v 9=some j.v:=S.eO.bU.dg 9
 obtain⟨_,_,g2,_,_,_⟩:=S.jA.kv
 refine⟨j,p,j,p,?_⟩
 rw[J,K]
 refine⟨V,V,a.bA,g2,j,p,V,V,V,S.eO.pO (i:=9) bO,?_⟩
 intro C
 let⟨o,t2⟩:=S.eO.lW 9 [.s (j.cut 0 b.length 6)]
 obtain⟨f,_⟩:=o.mJ (eu.cX _ o.bI) o.bo.pop
 have ac:(j.cut 0 b.length 6).len=b.length:=by
  cases j with
  |nil=>simp at x
  |Ec n D sp=>simp at x
  |mk n D l c=>simp[E.cut]
 refine⟨λN=>?_,λN=>?_⟩
 .have I:b=[]:=cC
  subst I
  refine⟨f.pO (i:=3) (by simp[mw]),?_⟩
  intro Y
  let⟨n,t3⟩:=f.lW 3 [.i 0]
  refine⟨n.pO (i:=4) (by simp[mw]),?_⟩
  intro Z
  let⟨r,q⟩:=n.lW 4 [.i w]
  refine⟨r.pO (i:=9) (by simp[mw]),?_⟩
  intro L
  let⟨t,M⟩:=r.lW 9 [.s .nil]
  obtain⟨F,_⟩:=t.mJ (eu.cX _ t.bI) (sL.Xh (u:=u) (e:=L))
  exact⟨u,cJ,A,.nil,F,((t2.N t3).N q).N M⟩
 .have X:b≠[]:=cC
  have af:b.length≠0:=by grind [List.length_eq_zero_iff]
  obtain⟨g,t⟩:∃g,b.getLast?=some g:=⟨_,rH X⟩
  let⟨P,Q,R⟩:=U g t
  rw[t]
  simp only[]
  have W:b=b.dropLast++[g]:=by
   grind [List.getLast?_eq_some_getLast,List.dropLast_concat_getLast]
  have n:uH z u C v dq (IB d y c s cJ A (j.cut 0 b.length 6)) cJ A (j.cut 0 b.length 6) s.cJ s.aR (b.dropLast++[g]):=
   ⟨f.de,f.mT,f.bI,f.bU,f.Wr,f.cJ,f.aR,by rw[<-W];exact f.bo⟩
  let⟨r',D,h',aa,T⟩:=n.bo.jA
  have ad:b.dropLast.length=b.length -1:=bO
  have L:eV ((b.length:Int) -1)=((b.length -1:Nat):Int):=by grind [dk]
  have M:Int.toNat ((b.length -1:Nat):Int)=b.dropLast.length:=V
  refine⟨j.cut 0 b.length 6,n.bU.dg 9,?_⟩
  rw[L,M]
  refine⟨V,V,(qK w C).aP ?_⟩
  rintro _ Y ⟨rfl,r⟩
  let⟨F,t3⟩:=(ST.mk n T).ext r
  refine⟨_,O,r.cK (n.bU.dg 9),(vF F P Q R w (ig w)).aP ?_⟩
  rintro _ Z ⟨I,q⟩
  exact⟨u,cJ,A,_,I.eO,(t2.N t3).N q⟩
end
def aeI{e M:D}(f:J e M){nb:Nat}(j:e.size<=nb)(n:nb<M.size)(t:Nat){d:ae}
 (a:(b1=M.size\/b1=M.size+1\/b1=M.size+2)/\(b2=M.size\/b2=M.size+1\/b2=M.size+2)/\(b3=M.size\/b3=M.size+1\/b3=M.size+2)/\b1≠b2/\b1≠b3/\b2≠b3):
 tR e (aW (((M.push (.cells (dh (nv [.i (0:Int)] t)) 3)).push (.cells (dh (nv [.i (0:Int)] t)) 3)).push (.cells (dh (nv [.i (0:Int)] t)) 3)) nb 0 d) b1 b2 b3 t (eU t) (eU t) (eU t):=by
 rw[tf]
 generalize g:M.push (.cells (dh ((eU t).map Ce.i)) 3)=m2
 generalize h:m2.push (.cells (dh ((eU t).map Ce.i)) 3)=m3
 generalize i:m3.push (.cells (dh ((eU t).map Ce.i)) 3)=m4
 have r:m2.size=M.size+1:=cC
 have s:m3.size=M.size+2:=cC
 have u:m4.size=M.size+3:=cC
 have k:J M m2:=g▸J.push _ _
 have l:J m2 m3:=h▸J.push _ _
 have m:J m3 m4:=i▸J.push _ _
 have o:dJ m4 M.size bG ((eU t).map Ce.i):=by grind [dJ.push,dJ,Array.size,eU,List.map,dJ.ext]
 have p:dJ m4 m2.size bG ((eU t).map Ce.i):=by grind [dJ.push,dJ,Array.size,eU,List.map,dJ.ext]
 have q:dJ m4 m3.size bG ((eU t).map Ce.i):=by grind [dJ.push]
 have c:∀b,(b=M.size\/b=M.size+1\/b=M.size+2)->dJ (aW m4 nb 0 d) b bG ((eU t).map Ce.i):=λb a=>by
  grind [dJ,eU,List.map,dJ.congr,cw]
 exact⟨(f.N ((k.N l).N m)).aW j _ _,by have:=f.aQ;rw[bE];omega,c _ a.1,c _ a.2.1,c _ a.2.2.1,by simp[lX]⟩
def AE{e:D}{d y:E}(f:iW e d y C)(j:0<=g)(h:C.cU[g.toNat]? =some q)(a:0<=q.aU/\q.aU<=2000)(c:Int):
 bJ dP 49 [.agg #[d.v,y.v],vi g,vi c] e λv k=>∃b1 b2 b3,v=.agg #[vi g,vi 0,vi c,E.v (.mk b1 0 q.aU.toNat q.aU.toNat),E.v (.mk b2 0 q.aU.toNat q.aU.toNat),E.v (.mk b3 0 q.aU.toNat q.aU.toNat)]/\
  tR e k b1 b2 b3 q.aU.toNat (eU q.aU.toNat) (eU q.aU.toNat) (eU q.aU.toNat):=by
 apply Hi
 simp -zeta only[dT]
 intro m b
 have i:J e b:=((J.cX e).cz _).cz _
 have z:=pz m
 have A:b.size=e.size+2:=cC
 have t:=f.cU.aT
 have s:=bC h
 obtain⟨p,u,r,_,_,_,_,_,_,l,_⟩:=(f.ext i).cU.br h
 refine⟨j,V,q.aU,l,⟨a.1,dN _,V,V,?_⟩,⟨a.1,dN _,V,V,?_⟩,⟨a.1,dN _,V,V,?_⟩⟩
 all_goals
  intro n
  refine⟨⟨a.1,dN _,V,V,?_⟩,⟨a.1,dN _,V,V,?_⟩⟩
  all_goals
   intro o
   refine⟨a.1,dN _,V,V,?_⟩
   intro w x
   have B:=pz n
   have F:o.size=b.size+2:=cC
   exact⟨_,_,_,O,aeI i V V q.aU.toNat V⟩
def tR.Jr{e:D}{aU bF cL:ab}(N:tR e k b1 b2 b3 t aU bF cL)(b:F<t)(v:Int):gK k b1 F 1/\tR e (aW k b1 F [.i v]) b1 b2 b3 t (aU.set F v) bF cL:=by
 have a:=N.lo;refine⟨N.kr.gK cC,N.ext.aW a.1 _ _,by rw[bE];exact a,?_,N.ko.congr (cw _ _ _ _ V),N.kh.congr (cw _ _ _ _ V),by simp[N.aT]⟩;have:=dJ.aW (m:=k) (o:=F) (r:=[.i v]) N.kr;grind [La]
def tR.uq{e:D}{aU bF cL:ab}(N:tR e k b1 b2 b3 t aU bF cL)(b:F<t)(v:Int):gK k b2 F 1/\tR e (aW k b2 F [.i v]) b1 b2 b3 t aU (bF.set F v) cL:=by
 have a:=N.lo;refine⟨N.ko.gK cC,N.ext.aW a.2.1 _ _,by rw[bE];exact a,N.kr.congr (cw _ _ _ _ V),?_,N.kh.congr (cw _ _ _ _ V),by simp[N.aT]⟩;have:=dJ.aW (m:=k) (o:=F) (r:=[.i v]) N.ko;grind [La]
def CW(cW:ab):∀(l B:ab)(k:Nat),fK cW k (l++B)=fK cW k l++fK cW (k+l.length) B
 |[],B,k=>by simp[fK]
 |a::l,B,k=>by
  have:=CW cW l B (k+1);grind [fK,List.length_cons,List.length]
theorem Rr{k:Nat}(h:k<t):eU (t -k)=0::eU (t -(k+1)):=by
 have:t -k=(t -(k+1))+1:=V;rw[this];rfl
theorem aco(h:l.length<t)(v:Int):(l++eU (t -l.length)).set l.length v=(l++[v])++eU (t -(l.length+1)):=by
 grind [Rr]
theorem aes(h:l.length<t):l++eU (t -l.length)=(l++[0])++eU (t -(l.length+1)):=by
 grind [Rr]
variable{z:D}{u:ag}{e:D}{v:Nat}{d y cJ A j:E}{c:Int}{s:St}{b:aj}{a:bS}{B G h:E}{H:List ae}
def KI(U:ST z u e v dq (IB d y c s cJ A j) cJ A j s.cJ s.aR b a B G h H)(av:iW z d y C)(aj:0<=g)(hq:C.cU[g.toNat]? =some q)(ax:0<=q.aU/\q.aU<=2000){Y:E}{o:ab}(hw:bg e Y o)(aR:o≠[]->u Y.bt=0)(aU:(o.length:Int)<=q.aU)(T:Instr)(aa az:E)
 (aH:b.length<=10000)(aF:0<=s.dv/\s.dv<=100000):
 bJ dP 100 [vp v 0,vi g,Y.v,xv T aa az] e λ_ k=>IS z u e v d y c {s with dv:=s.dv+1,bo:=if T.op=24 then b++[ct C g a.bA o]else b++[a,ct C g T.bA o]} k:=by
 apply Ay (v,0)
 simp -zeta only[dT]
 intro m1
 obtain⟨ay,s1⟩:=pu m1
 let⟨S1,t1⟩:=U.ext ay
 have B1:Eb u m1 [e.size]:=λr w=>by simp at w;subst w;exact⟨V,U.eO.bI _ bY⟩
 have aG:=U.jA.CM
 have aE:=U.jA.rm.le
 have e0:eV (s.dv+1)=s.dv+1:=by grind [dk]
 have ao:eV ((j.len:Int) -1)=(b.length:Int):=by grind [dk]
 have e2:Int.toNat (b.length:Int)=b.length:=V
 refine⟨s.dv,S1.eO.bU.dg 5,S1.eO.pO (i:=5) bO,?_⟩
 rw[e0]
 intro m2
 let⟨R,t2⟩:=S1.lW 5 [.i (s.dv+1)]
 replace R:ST z u m2 v dq (IB d y c {s with dv:=s.dv+1} cJ A j) cJ A j s.cJ s.aR b a B G h H:=R
 replace t2:To u m1 u m2:=t2
 have B2:=B1.to t2
 have g9:aS m2 v 9=some j.v:=R.eO.bU.dg 9
 obtain⟨_,_,g2,_,_,_⟩:=R.jA.kv
 refine⟨t2.fW B1,j,g9,?_⟩
 rw[ao,e2]
 have aC:=t1.N t2
 refine⟨λI k=>∃K W,uH z u k v dq (IB d y c {s with dv:=s.dv+1} cJ A W) cJ A W s.cJ s.aR K/\To u e u k/\Eb u k [e.size]/\K.length<=10001/\(if T.op=24 then b++[ct C g a.bA o]else b++[a,ct C g T.bA o])=K++[ct C g I o],⟨λac=>?_,λac=>?_⟩,?_⟩
 .simp at ac
  refine⟨j,g9,V,V,a.bA,g2,j,g9,V,V,V,R.eO.pO (i:=9) bO,?_⟩
  intro N
  let⟨t,t3⟩:=R.eO.lW 9 [.s (j.cut 0 b.length 6)]
  obtain⟨m,_⟩:=t.mJ (eu.cX _ t.bI) t.bo.pop
  refine⟨t3.fW B2,b,j.cut 0 b.length 6,m,aC.N t3,B2.to t3,V,?_⟩
  rw[a8 ac]
 .grind [ST.eO]
 rintro I N ⟨K,W,t,t3,B3,hX,ar⟩
 rw[ar]
 have aQ:dE C g=q:=by grind [dE]
 have af:=av.ext t.de
 refine⟨d,t.bU.dg 0,y,t.bU.dg 1,(AE af aj hq ax I).aP ?_⟩
 rintro _ P ⟨b1,b2,b3,rfl,Z⟩
 have aM:=Z.lo
 have aq:∀r∈[e.size],r<N.size:=λr w=>(B3 r w).1
 have aO:e.size<N.size:=cC
 refine⟨Z.ext.fg aq,_,_,_,_,_,_,O,?_⟩
 intro m5 m6
 have ap:J P m6:=by grind [J.cX,J.cz,J.aW]
 have s6:m6.size=P.size+1:=by grind [bE]
 have N6:=Z.Mh ap
 have aT:=hw.aT
 have iw:∀{M},J N M->bg M Y o:=by grind [lx,eu.fH,lS,bg.ext]
 obtain⟨pa,pl,pc,_,au,_,_,k1,_,_,_⟩:=af.cU.br hq
 have aN:=bC hq
 have aP:=af.cU.aT
 have aL:∀(m:Nat),(q.cW.any λF=>F==(m:Int))=true<->(m:Int)∈q.cW:=cC
 simp -zeta only[E.nh,E.BV,E.lU,fD]
 refine iC (n:=o.length) V (λm k=>tR N k b1 b2 b3 q.aU.toNat (o.take m++eU (q.aU.toNat -m)) (fK q.cW 0 (o.take m)++eU (q.aU.toNat -m)) (eU q.aU.toNat)/\P.size<k.size) ⟨by simpa[fK]using N6,V⟩ ?_
 rintro m Q aD μ hk ⟨S,s7⟩ aB
 have xh:∀{ma mc:D},(∀r,r=P.size\/r=e.size->mc[r]? =ma[r]?)->gT [P.size,e.size] ma mc:=λhh r w=>hh r cC
 have tk:(o.take m).length=m:=cC
 have aW:(fK q.cW 0 (o.take m)).length=m:=by rw[mh,tk]
 refine dit (λh1=>?_) λh1=>?_
 .let⟨F,hy⟩:=dY o m
  have ek:Int.toNat (m:Int)*1=m:=V
  have ah:m<q.aU.toNat:=V
  let⟨w8,L⟩:=S.Jr ah F
  have er:(o.take m++eU (q.aU.toNat -m)).set m F=o.take (m+1)++eU (q.aU.toNat -(m+1)):=by
   grind [aco,List.take,bW]
  rw[er]at L
  have eo:fK q.cW 0 (o.take (m+1))=fK q.cW 0 (o.take m)++[if q.cW.any (λF=>F==(m:Int))then 0 else ig F]:=by
   rw[bW hy,CW,tk];simp[fK]
  refine⟨V,V,F,by simpa using(iw S.ext).br hy,V,V,?_⟩
  rw[ek]
  refine⟨w8,?_⟩
  intro m8
  have s8:m8.size=Q.size:=bE _ _ _ _
  refine⟨xh λr w=>cw _ _ _ _ V,?_⟩
  replace L:tR N m8 b1 b2 b3 q.aU.toNat (o.take (m+1)++eU (q.aU.toNat -(m+1))) (fK q.cW 0 (o.take m)++eU (q.aU.toNat -m)) (eU q.aU.toNat):=L
  refine⟨y,L.ext.aS (t.bU.dg 1),aj,V,pl,L.ext.aS k1,(lD (au.ext L.ext) _).aP ?_⟩
  rintro _ m9 ⟨r,rfl,w,ad⟩
  have N9:=L.Mh ad
  have s9:=ad.aQ
  refine⟨ad.fg cC,r,O,λan=>?_,λam=>?_⟩
  .refine(qK F m9).aP ?_
   rintro _ aw ⟨rfl,X⟩
   have aA:=X.aQ
   let⟨al,ag⟩:=(N9.Mh X).uq ah (ig F)
   have ai:(fK q.cW 0 (o.take m)++eU (q.aU.toNat -m)).set m (ig F)=fK q.cW 0 (o.take (m+1))++eU (q.aU.toNat -(m+1)):=by
    grind [aco,fK,List.take,ig]
   rw[ai]at ag
   refine⟨X.fg cC,_,O,bD (X.bB P.size V) 4,V,V,al,?_⟩
   intro ak
   refine⟨xh λr w=>cw _ _ _ _ V,aB V _ ⟨ag,by simp only[ak,bE];omega⟩⟩
  grind [aes,fK,List.take]
 .have aw:m=o.length:=V
  subst aw
  rw[fB]at S
  have hc:eu (λ_=>False) u N (pY u b1 b2 b3 K.length) Q:=S.gX t.bI
  let⟨a1,a2,a3⟩:=S.rm (q:=u) (v:=K.length)
  let⟨F,t7⟩:=t.jN (hc.aP λ_=>False.elim) (t.aR.gX hc id id)
  have B7:Eb (pY u b1 b2 b3 K.length) Q [P.size,e.size]:=λr w=>by
   simp at w;refine⟨V,?_⟩;unfold pY;rw[fO V,fO V,fO V];rcases w with rfl|rfl
   .exact t.bI _ V
   .exact(B3 _ bO).2
  refine⟨W,F.bU.dg 9,?_⟩
  intro ad
  have X:=px ad
  have ni:jw ad Q.size 0 [.i g,.i 0,.i I,.s (.mk b1 0 q.aU.toNat q.aU.toNat),.s (.mk b2 0 q.aU.toNat q.aU.toNat),.s (.mk b3 0 q.aU.toNat q.aU.toNat)]:=(dJ.push Q _ _).kv
  let⟨L,al⟩:=F.ext X
  have ah:=B7.to al
  have ch:=λ{m:Nat}{s:E}{l:ae}(aa:iV (pY u b1 b2 b3 K.length) Q bG 1 m s l)=>aa.gX (eu.fZ (p:=λ_=>False) X F.bI) id
  have aK:(ct C g I o).aU=o++eU (q.aU.toNat -o.length):=by grind [ct]
  have aJ:(ct C g I o).bF=fK q.cW 0 o++eU (q.aU.toNat -o.length):=by grind [ct]
  have aI:(ct C g I o).cL=eU q.aU.toNat:=by grind [ct]
  refine⟨X.cK (F.bU.dg 9),sL.push L.bo L.bI (x:=.mk Q.size 0 1 1) O (f:=ct C g I o) ni cC cC cC V λak qs aA q1 q2=>?_⟩
  have ag:To _ ad ak aA:=q2.aP λm hk=>V
  let⟨ai,aX⟩:=L.mJ (q2.aP λm hk=>V) q1
  refine⟨ag.fW ah,ai.pO (i:=9) bO,?_⟩
  intro aV
  let⟨an,am⟩:=ai.lW 9 [.s qs]
  exact⟨am.fW (ah.to ag),ak,cJ,A,qs,an,(((t3.N t7).N al).N ag).N am⟩
end
section
def Rk(aU:ab):∀(a bF:ab)(n:Int),(∀q∈bF,n<=q)->∀q∈bZ aU bF a,n -a.length<=q
 |[],bF,n,h,q,b=>by have:=h q b;simp;omega
 |r::a,bF,n,h,q,b=>by
  have j:∀d,(∀q∈d,n -1<=q)->q∈bZ aU d a->n -(r::a).length<=q:=λd f c=>by
   have:=Rk aU a d (n -1) f q c;grind [List.length_cons]
  rw[bZ]at b;refine j _ (λk c=>?_) b;split at c
  .rcases uf c with g|g
   .rcases eH r.toNat bF.length with e|e
    .let⟨y,i⟩:=jq e;have:=h y (ba i);grind [IV]
    grind [iv,br,List.set_eq_of_length_le]
   grind
  .grind
variable{q:D}{g:ag}{m:D}{k:Nat}{d p cJ j c:E}{a:St}{b:aj}{f:bS}{r t h:E}{u:List ae}
def Xd{y:cO}{v:Instr}(C:vY y a b f v){bF:ab}(aE:bF=bZ f.aU f.bF (cq y v))(hM:iN y a f v bF)
 (ac:ST q g m k dq (IB d p (cT y) a cJ j c) cJ j c a.cJ a.aR b f r t h u)(aD:iW q d p y){af az:E}(ha:bg q af v.aO)(hj:bg q az v.fU)(cm:a.aR.length<=900000000)(cu:a.cJ.length<=900000000):
 bJ dP 51 [vp k 0,vp c.bt (c.off+b.length*6),xv v af az] m λ_ R=>IS q g m k d p (cT y) (dI y a b f v bF) R:=by
 apply Dk (k,0) (c.bt,c.off+b.length*6)
 simp -zeta only[dT]
 intro m1
 obtain⟨b7,s1⟩:=pu m1
 let⟨S1,t1⟩:=ac.ext b7
 have B1:Eb g m1 [m.size]:=λQ hb=>by simp at hb;subst hb;exact⟨V,ac.eO.bI _ bY⟩
 have cn:=C.RO
 have cr:bF.length=f.bF.length:=by grind [mz]
 have cy:r.len=f.aU.length:=by have:=ac.jA.aU.aT;simp at this;omega
 have co:t.len=f.bF.length:=by have:=ac.jA.bF.aT;simp at this;omega
 have cf:=ha.aT
 have aM:v.aO.length<=4:=C.oD.1
 have cv:0<=f.pc/\f.pc<=100000:=by
  have cw:=C.F.pc;obtain⟨pq,_,cx,hP,_,_⟩:=C.I;grind [nH.aT]
 have e4:eV (f.pc+1)=f.pc+1:=by grind [dk]
 have ck:b.length<=1000:=by
  grind [vY.ok,eJ.eG,eJ.dv,eJ.df,vY.fr]
 refine(Aw (aD.ext S1.eO.de) (S1.eO.bU.dg 1) C.jt (ha.ext S1.eO.de) V C.oD.2.2.2.1).aP ?_
 rintro _ m2 ⟨ts,lt,rfl,bt,_,aJ,bs,_⟩
 let⟨S2,t2⟩:=S1.ext aJ
 have B2:=B1.to t2
 have cA:=Nu y v
 have aQ:=bt.aT
 have b5:cq y v≠[]->g ts.bt=0:=λap=>by
  rcases bs with w|w|w
  .subst w;simp at aQ;exact absurd (cp.1 aQ.symm) ap
  .rw[w];refine ac.eO.mT _ (lS ha λh0=>?_);let⟨S,B⟩:=aa6 _ ap;have:=ry B;grind
  .grind [ST.eO,uH.bI]
 refine⟨t2.fW B1,ts,lt,O,?_⟩
 refine iC (n:=(cq y v).length) V (λN R=>ST q g R k dq (IB d p (cT y) a cJ j c) cJ j c a.cJ a.aR b {f with bF:=bZ f.aU f.bF ((cq y v).take N)} r t h u/\To g m2 g R) ⟨S2,eu.cX _ S2.eO.bI⟩ ?_
 rintro N m3 bH μ hk ⟨S3,t3⟩ ca
 have B3:=B2.to t3
 have bU:(bZ f.aU f.bF ((cq y v).take N)).length=f.bF.length:=mz _ _ _
 refine dit (λh1=>?_) λh1=>?_
 .let⟨S,B⟩:=dY (cq y v) N
  have A:=C.Pg S (ba B)
  obtain⟨_,_,_,G,H,_⟩:=S3.jA.kv
  have K:bg m3 ts (cq y v):=by grind [lx,eu.fH,lS]
  have M:bZ f.aU f.bF ((cq y v).take (N+1))=if 1000<=br f.aU S then iv (bZ f.aU f.bF ((cq y v).take N)) S (br (bZ f.aU f.bF ((cq y v).take N)) S -1)else bZ f.aU f.bF ((cq y v).take N):=by
   rw[bW B,zE];rfl
  refine⟨V,V,S,by simpa using K.br B,r,G,A.1,V,_,(S3.E8 cC).uG A.1 A.2,λh5=>?_,λh5=>?_⟩
  .simp only[bh]at h5
   have F:S<(bZ f.aU f.bF ((cq y v).take N)).length:=V
   have P: -4<=br (bZ f.aU f.bF ((cq y v).take N)) S/\br (bZ f.aU f.bF ((cq y v).take N)) S<=999999:=by
    let⟨qq,ax,a9⟩:=oB _ _ _ _ (jJ A.1 F);have h7:=C.TU qq (ba ax);have h8:=Rk f.aU ((cq y v).take N) f.bF 0 (λal hq=>(C.TU al hq).1) _ (gZ A.1 F);have L:((cq y v).take N).length<=4:=cC;omega
   have e5:eV (br (bZ f.aU f.bF ((cq y v).take N)) S -1)=br (bZ f.aU f.bF ((cq y v).take N)) S -1:=by grind [dk]
   refine⟨t,H,A.1,V,_,(S3.NW cC).uG A.1 F,A.1,V,S3.jA.bF.Ur A.1 F,?_⟩
   rw[e5]
   intro I
   let⟨z,t4⟩:=S3.uq A.1 F (br (bZ f.aU f.bF ((cq y v).take N)) S -1)
   constructor<;>grind [eu.fW,eu.N]
  grind [ge_iff_le,decide_eq_false_iff_not]
 rw[eY V,<-aE]at S3
 clear ca bU hk h1 b5 bt bs aQ
 obtain⟨_,g1,_,_,_,_⟩:=S3.jA.kv
 refine⟨f.pc,g1,S3.jA.abQ,?_⟩
 rw[e4]
 intro I
 let⟨z,t4⟩:=S3.SS (f.pc+1)
 have K:Eb g I [m.size]:=B3.to t4
 have bw:gT [m.size] m3 I:=t4.fW B3
 have Y:To g m g I:=by grind [eu.N]
 clear t4
 replace z:ST q g I k dq (IB d p (cT y) a cJ j c) cJ j c a.cJ a.aR b {f with bF:=bF,pc:=f.pc+1} r t h u:=z
 refine⟨bw,?_⟩
 clear bw g1 S3 t3 B3 t2 B2 S2 aJ bH μ
 have U:∀{M M':D},gT [m.size] M M'->∀aj,aS M' m.size aj=aS M m.size aj:=λh aj=>bD (h _ bO) aj
 have hd:=C.bA
 have aO:f.aU.length=bF.length/\f.cL.length=bF.length/\bF.length<=2000:=V
 have an:1<=v.aO.length->0<=br v.aO 0/\br v.aO 0<f.aU.length:=λh1=>C.arg _ (gZ V V)
 have ga:∀{R},J q R->1<=v.aO.length->aS R af.bt (af.off+Int.toNat (0:Int)*1)=some (vi (br v.aO 0)):=λhx h1=>(ha.ext hx).uG V V
 have gr:∀{g m bx cJ j c lo am t h u own' pc'},ST q g m k dq bx cJ j c lo am b {f with bF:=own',pc:=pc'} r t h u->∀{aj:Int},0<=aj->aj<f.aU.length->aS m r.bt (r.off+aj.toNat*1)=some (vi (br f.aU aj)):=λac aj h0 h1=>(ac.E8 cC).uG h0 h1
 have ad:∀{g m bx cJ j c lo am t h u own' pc'},ST q g m k dq bx cJ j c lo am b {f with bF:=own',pc:=pc'} r t h u->aS m c.bt (c.off+b.length*6+3)=some r.v:=λac=>ac.jA.kv.2.2.2.1
 have b9:∀r',r'∈v.aO->br f.aU r'<1000->mV (br f.aU r'):=λr' b2 ay=>by
  have bn:=C.arg r' b2;rcases C.F.ZF _ (gZ bn.1 bn.2)with h5|h5
  .exact h5
  .omega
 obtain⟨pq,_,_,_,_,hI⟩:=C.I
 have ai:=hI.op
 clear hI
 have aU:∀{aT:ag}{bp:E}{am:ah}{M:D}(SM:ST q aT M k dq (IB d p (cT y) {a with aR:=am} cJ bp c) cJ bp c a.cJ am b {f with bF:=bF,pc:=f.pc+1} r t h u)(tM:To g m aT M)(BM:Eb aT M [m.size])(F aG:Int)(s':St),s'={a with aR:=am,bo:=b++[bS.cE {f with bF:=bF,pc:=f.pc+1} v.bA F aG]}->
  bJ dP 92 [vp c.bt (c.off+b.length*6),vi v.bA,vi F,vi aG] M λ_ R=>gT [m.size] M R/\IS q g m k d p (cT y) s' R:=λSM tM BM F aG s' w=>by
  refine(vF SM hd.1 cC cC F aG).aP ?_
  rintro _ R ⟨S',t'⟩
  exact⟨t'.fW BM,_,cJ,_,c,by rw[w];exact S'.eO,tM.N t'⟩
 have aI:∀{M:D}(hx:J I M)(Z:Int)(s':St),s'={a with bo:=b++[{f with bF:=bF,pc:=Z}]}->
  gK M c.bt (c.off+b.length*6+1) 1/\gT [m.size] M (aW M c.bt (c.off+b.length*6+1) [.i Z])/\IS q g m k d p (cT y) s' (aW M c.bt (c.off+b.length*6+1) [.i Z]):=λhx Z s' w=>by
  let⟨SM,tM⟩:=z.ext hx
  let⟨S',t'⟩:=SM.SS Z
  exact⟨SM.jA.abQ,t'.fW (K.to tM),g,cJ,j,c,by rw[w];exact S'.eO,(Y.N tM).N t'⟩
 refine⟨λw=>?_,λe0=>?_⟩
 .simp only[eK,bQ]at w
  refine(Ox z ha C.arg aM (λe5=>C.oD.2.1 (bz e5)) (λe0 e5=>C.oD.2.2.1 V) (λe0 S B=>b9 S B (hM.nZ V S B)) aO ⟨hd.1,by show v.bA<bF.length;omega⟩ V).aP ?_
  rintro _ X ⟨ar,aA,aq,au,L5,B⟩
  refine⟨B.fW K,ar,aA,aq,au,?_,Y.N B⟩
  have:dI y a b f v bF=(if v.op=0 then{a with bo:=b++[bS.cE {f with bF:=bF,pc:=f.pc+1} v.bA v.cG 0]}else if v.op=5 then{a with cJ:=a.cJ++[br f.aU (br v.aO 0)],bo:=b++[bS.cE {f with bF:=bF,pc:=f.pc+1} v.bA (br f.aU (br v.aO 0)) 0]}else{a with bo:=b++[bS.cE {f with bF:=bF,pc:=f.pc+1} v.bA (TX v.op (br f.aU (br v.aO 0)) (br f.aU (br v.aO 1))) 0]}):=by
   unfold dI;simp only[];by_cases A:v.op=0
   .grind
   rw[aV A,aV A];by_cases G:v.op=5
   .rw[aV V,a8 G,a8 G]
   .grind
  rw[this];exact L5
 simp only[cZ,bd]at e0
 have a6:¬(v.op=1\/v.op=2\/v.op=3\/v.op=4):=V
 have b_:∀F∈f.cL,F≠0->1000<=F/\ix F<a.aR.length:=λF hw ap=>by
  obtain⟨h1,dd,bP,_⟩:=C.Qb F hw ap;exact⟨h1,bC bP⟩
 refine⟨λw=>?_,λe6=>?_⟩
 .simp only[bQ]at w
  have W:=C.oD.2.2.2.2.1 w
  refine(KL z ha C.arg aM aO ⟨W.1,W.2.1⟩ V b_).aP ?_
  rintro _ X ⟨ar,aq,A,P,rfl,T,B,er,eo,ep,ec⟩
  refine⟨B.fW K,_,O,U (B.fW K) 1,(vF T hd.1 cC cC (1000+A) 1).aP ?_⟩
  rintro _ L ⟨G,H⟩
  refine⟨H.fW (K.to B),ar,cJ,aq,c,?_,(Y.N B).N H⟩
  have h7:=ec f.pc
  have aa:P.pc=f.pc+1:=ep
  have h8:({P with pc:=f.pc+1}:bS)=P:=by rw[<-aa]
  rw[h8]at h7
  have:dI y a b f v bF=rK a b {f with bF:=bF} v v.cG:=by
   unfold dI rK;simp only[];rw[aV V,aV a6,aV V,a8 w];rfl
  grind [rK,jM,dR,bS.cE,ST.eO]
 simp only[bd]at e6
 have F4:FP I c.bt (c.off+b.length*6) {f with bF:=bF,pc:=f.pc+1} r t h:=z.fp ⟨by show f.aU.length<=_;omega,by show bF.length<=_;omega,by show f.cL.length<=_;omega⟩
 have bB:∀{aX:ak},(∀ws M,bg M ws (dR f v.aO)->J I M->(dR f v.aO≠[]->g ws.bt=0)->aX ws.v M)->bJ dP 95 [vp c.bt (c.off+b.length*6),af.v] I aX:=λhk=>by
  refine(zR F4.g3 F4.aU (ha.ext z.eO.de) C.arg V).aP ?_;rintro _ X ⟨ws,rfl,ow,ae⟩;have b6:(dR f v.aO).length=v.aO.length:=by simp[dR]
  have iw:bg X ws (dR f v.aO):=bg.jT (l:=dR f v.aO) ow V;refine hk ws X iw ae λap=>?_;rcases ow.bt with w|w
  .subst w;have:=iw.aT;simp at this;exact absurd (cp.1 this.symm) ap
  .exact z.eO.bI _ w
 have aJ:(gU y.bR).length<=12:=by
  have:=tZ C.ok.iu.kX.dj y.bR.length;grind [qI]
 have cg:0<=cT y/\cT y<=12:=by grind [cT]
 refine⟨λw=>?_,λa7=>?_⟩
 .simp only[bQ]at w
  have aa:=C.oD.2.2.2.2.2.1 w
  refine⟨cT y,z.eO.bU.dg 2,bB λws X iw ae _=>?_⟩
  let⟨T,B⟩:=z.ext ae
  have A:=K.to B
  have P:=B.fW K
  have W:eV (cT y+v.cG)=cT y+v.cG:=gJ
  refine⟨P,ws,O,U P 2,ae.cK (z.eO.bU.dg 2),U P 1,?_⟩
  rw[W]
  refine(Iv T (cT y+v.cG) iw (by simp[dR];omega) V).aP ?_
  rintro _ L ⟨rfl,bk,aH,G,H⟩
  have aB:=H.fW A
  refine⟨aB,_,O,U aB 1,aU (bp:=aH) (am:=jM a.aR (fF a.aR) ⟨1,cT y+v.cG,dR f v.aO⟩) G ((Y.N B).N H) (A.to H) _ _ _ ?_⟩
  grind [dI]
 simp only[bd]at a7
 have Rv:dI y a b f v bF=(
  if v.op=14 then{a with aR:=pU a.aR (br f.aU (br v.aO 0)),bo:=b++[{f with bF:=iv bF (br v.aO 0) (br bF (br v.aO 0)+1),pc:=f.pc+1}]}
  else if v.op=15 then{a with aR:=oY (ju a.aR [br f.aU (br v.aO 0)]),bo:=b++[{f with bF:=bF,pc:=f.pc+1}]}
  else if v.op=16\/v.op=17 then xX a b {f with bF:=bF} v
  else if v.op=18 then{a with bo:=b++[bS.cE {f with bF:=bF,pc:=f.pc+1} v.bA (br f.aU (br v.aO 0)) (ig (br f.aU (br v.aO 0)))]}
  else if v.op=19 then{a with bo:=b++[bS.cE {f with bF:=bF,pc:=f.pc+1} v.bA (br (bu a.aR (br f.aU (br v.aO 0))).bV v.cG) 0]}
  else if v.op=20 then{a with bo:=b++[{f with bF:=bF,pc:=if br f.aU (br v.aO 0)=0 then v.cG else f.pc+1}]}
  else if v.op=22 then{a with bo:=b++[{f with bF:=bF,pc:=v.cG}]}
  else if v.op=21 then{a with bo:=b++[{f with bF:=bF,pc:=br v.fU (ua (cY y.bR v.cG) (bu a.aR (br f.aU (br v.aO 0))).jH)}]}
  else if v.op=9\/v.op=24 then{a with dv:=a.dv+1,bo:=if v.op=24 then b++[ct y v.cG f.bA (dR f v.aO)]else b++[{f with bF:=bF,pc:=f.pc+1},ct y v.cG v.bA (dR f v.aO)]}
  else if v.op=11 then{a with dv:=a.dv+1,aR:=iK a.aR (br f.aU (br v.aO 0)),bo:=b++[{f with bF:=bF,pc:=f.pc+1},ct y ((bu a.aR (br f.aU (br v.aO 0))).jH -cT y) v.bA ((bu a.aR (br f.aU (br v.aO 0))).bV++[br f.aU (br v.aO 1)])]}
  else match b.getLast? with|none=>{a with dx:=0,kY:=br f.aU (br v.aO 0),bo:=[]}|some av=>{a with bo:=b.dropLast++[av.cE f.bA (br f.aU (br v.aO 0)) (ig (br f.aU (br v.aO 0)))]}):=by
  unfold dI
  simp only[]
  rw[aV V,aV a6,aV V,aV e6,aV a7]
  by_cases aZ:v.op=14
  .grind
  rw[aV aZ,aV aZ]
  by_cases a0:v.op=15
  .grind
  rw[aV a0,aV a0]
  by_cases aC:v.op=16\/v.op=17
  .rw[a8 aC,a8 aC];rfl
  rw[aV aC,aV aC]
  by_cases a1:v.op=18
  .grind
  rw[aV a1,aV a1]
  by_cases a2:v.op=19
  .grind
  rw[aV a2,aV a2]
  by_cases a3:v.op=20
  .grind
  rw[aV a3,aV a3]
  by_cases a4:v.op=21
  .grind
  rw[aV a4]
  by_cases a5:v.op=22
  .grind
  rw[aV a5,aV a5,aV a4]
  by_cases bK:v.op=9
  .grind
  rw[aV bK]
  by_cases bI:v.op=24
  .grind
  rw[aV bI,aV (show¬(v.op=9\/v.op=24)by omega)]
  by_cases aY:v.op=11
  .grind
  rw[aV aY,aV aY]
  cases b.getLast?<;>rfl
 rw[Rv]
 clear Rv
 refine⟨λw=>?_,λa_=>?_⟩
 .simp only[bQ]at w
  rw[a8 w]
  have h2:=C.oD.2.1 V
  have A:=an V
  let⟨aa,bb⟩:=hM.WQ w
  let⟨W,aF⟩:=dL aa
  have ay:=bC W
  have aP:=z.eO.aR.aT
  have aN:=aa.1
  have ao:ix (br f.aU (br v.aO 0))=(br f.aU (br v.aO 0) -1000).toNat:=rfl
  have e5:eV (br f.aU (br v.aO 0) -1000)=br f.aU (br v.aO 0) -1000:=by grind [dk]
  have aK:eV ((bu a.aR (br f.aU (br v.aO 0))).bX+1)=(bu a.aR (br f.aU (br v.aO 0))).bX+1:=by grind [dk]
  obtain⟨f0,k0,_⟩:=z.eO.aR.dg W
  refine⟨j,z.eO.bU.dg 8,r,ad z,V,V,_,ga z.eO.de V,A.1,V,_,gr z A.1 A.2,?_⟩
  rw[e5,<-ao]
  refine⟨V,V,_,k0,V,V,z.eO.aR.wr (o:=0) ay cH,?_⟩
  rw[aK]
  intro X
  let⟨aL,c5⟩:=z.eO.aR.yd z.eO.bI W ((bu a.aR (br f.aU (br v.aO 0))).bX+1)
  let⟨T,B⟩:=z.jN (c5.aP λN hk=>bz hk) aL
  have aw:br v.aO 0<bF.length:=V
  have bc:0<=br bF (br v.aO 0)/\br bF (br v.aO 0)<=999999:=by
   refine⟨hM.nn _ (gZ (l:=bF) A.1 aw),?_⟩;have hg:=jJ (l:=bF) A.1 aw;rw[aE]at hg;let⟨qq,ax,a9⟩:=oB _ _ _ _ hg;have:=(C.TU qq (ba ax)).2;grind
  have e7:eV (br bF (br v.aO 0)+1)=br bF (br v.aO 0)+1:=by grind [dk]
  refine⟨B.fW K,t,T.jA.kv.2.2.2.2.1,V,V,_,ga T.eO.de V,A.1,V,br bF (br v.aO 0),(T.NW cC).uG A.1 aw,A.1,V,T.jA.bF.Ur A.1 aw,?_⟩
  rw[e7]
  intro L
  let⟨G,H⟩:=T.uq A.1 aw (br bF (br v.aO 0)+1)
  exact⟨H.fW (K.to B),g,cJ,j,c,G.eO,(Y.N B).N H⟩
 simp only[bd]at a_
 rw[aV a_]
 refine⟨λw=>?_,λbb=>?_⟩
 .simp only[bQ]at w
  rw[a8 w]
  have h2:=C.oD.2.1 V
  have A:=an V
  have bi:v.aO=[br v.aO 0]:=by
   cases hx:v.aO with
   |nil=>rw[hx]at h2;simp at h2
   |cons S aw=>cases aw with
    |nil=>rfl
    |cons aK aw=>rw[hx]at h2;simp at h2
  have aK:=C.HE aE hM.nn
  have ht:cq y v=[br v.aO 0]:=by grind [cq]
  have aL:=aK.1
  rw[ht]at aL
  refine⟨j,z.eO.bU.dg 8,?_⟩
  intro X L
  let⟨G,H,kb⟩:=z.TD
  have S:Eb (pE g I.size 5) L [m.size]:=K.to H
  replace G:ST q (pE g I.size 5) L k dq (IB d p (cT y) a cJ j c) cJ j c a.cJ a.aR b {f with bF:=bF,pc:=f.pc+1} r t h u:=G
  replace H:To g I (pE g I.size 5) L:=H
  replace kb:dJ L I.size ik [.s j]:=kb
  refine⟨r,ad G,V,V,_,ga G.eO.de V,A.1,V,_,gr G A.1 A.2,(KM G.eO.aR G.eO.bI kb iE (U:=λQ=>oO b Q+jk f.aU bF Q) (aL.congr λQ=>O) aK.2 V).aP ?_⟩
  rintro _ m7 ⟨bf,aw,bc,be,c7⟩
  let⟨S7,t7⟩:=G.jN c7 bc
  refine⟨t7.fW S,aw,be.dg 0,S7.eO.pO (i:=8) bO,?_⟩
  intro m8
  let⟨S8,t8⟩:=S7.lW 8 [.s aw]
  exact⟨t8.fW (S.to t7),bf,cJ,aw,c,S8.eO,((Y.N H).N t7).N t8⟩
 simp only[bd]at bb
 rw[aV bb]
 refine⟨λw=>?_,λbL=>?_⟩
 .simp only[eK,bQ]at w
  rw[a8 w]
  refine(TG z ha C.arg ⟨C.oD.2.2.2.1 w,aM⟩ aO V (λal hq=>?_) (hM.AL w).1 C.ok.aR (show f.pc+1=f.pc+1 from O)).aP ?_
  .refine⟨hM.nn al hq,?_⟩
   let⟨N,hk⟩:=db.1 hq
   simp only[]at hk
   rw[aE]at hk
   let⟨qq,ax,a9⟩:=oB _ _ _ _ hk
   have:=(C.TU qq (ba ax)).2
   omega
  rintro _ X ⟨ar,aA,aq,au,L5,B⟩
  exact⟨B.fW K,ar,aA,aq,au,L5,Y.N B⟩
 simp only[cZ,bd]at bL
 rw[aV V]
 refine⟨λw=>?_,λbc=>?_⟩
 .simp only[bQ]at w
  rw[a8 w]
  have h2:=C.oD.2.1 V
  have A:=an V
  refine⟨r,ad z,V,V,_,ga z.eO.de V,A.1,V,_,gr z A.1 A.2,(qK _ _).aP ?_⟩
  rintro _ X ⟨rfl,ae⟩
  let⟨T,B⟩:=z.ext ae
  have P:=B.fW K
  exact⟨P,_,O,U P 1,aU (am:=a.aR) T (Y.N B) (K.to B) _ _ _ O⟩
 simp only[bd]at bc
 rw[aV bc]
 refine⟨λw=>?_,λbe=>?_⟩
 .simp only[bQ]at w
  rw[a8 w]
  have h2:=C.oD.2.1 V
  have A:=an V
  let⟨aa,aw⟩:=hM.pV w
  let⟨W,aF⟩:=dL aa
  have ay:=bC W
  have aP:=z.eO.aR.aT
  have aN:=aa.1
  have ao:ix (br f.aU (br v.aO 0))=(br f.aU (br v.aO 0) -1000).toNat:=rfl
  have e5:eV (br f.aU (br v.aO 0) -1000)=br f.aU (br v.aO 0) -1000:=by grind [dk]
  obtain⟨f0,_,_,k2,kf,_⟩:=z.eO.aR.dg W
  have ax:=kf.aT
  unfold kQ at ai
  rw[aV V,aV V,aV V,aV V,aV V,aV V,aV V,a8 w]at ai
  refine⟨j,z.eO.bU.dg 8,r,ad z,V,V,_,ga z.eO.de V,A.1,V,_,gr z A.1 A.2,?_⟩
  rw[e5,<-ao]
  exact⟨V,V,f0,k2,ai.2.1,V,_,kf.uG ai.2.1 aw,aU (am:=a.aR) z Y K _ _ _ O⟩
 simp only[bd]at be
 rw[aV be]
 refine⟨λw=>?_,λbf=>?_⟩
 .simp only[bQ]at w
  rw[a8 w]
  have h2:=C.oD.2.1 V
  have A:=an V
  refine⟨r,ad z,V,V,_,ga z.eO.de V,A.1,V,_,gr z A.1 A.2,λh5=>?_,λh5=>?_⟩
  .simp at h5;exact aI dt _ _ cC
  .simp at h5;exact⟨g,cJ,j,c,by rw[aV h5];exact z.eO,Y⟩
 simp only[bd]at bf
 rw[aV bf]
 refine⟨λw=>?_,λbj=>?_⟩
 .simp only[bQ]at w
  rw[a8 w]
  exact aI dt _ _ O
 simp only[bd]at bj
 rw[aV bj]
 refine⟨λw=>?_,λbi=>?_⟩
 .simp only[bQ]at w
  rw[a8 w]
  have h2:=C.oD.2.1 V
  have A:=an V
  let⟨aa,bq⟩:=hM.ta w
  let⟨W,aF⟩:=dL aa
  have ay:=bC W
  have aP:=z.eO.aR.aT
  have aN:=aa.1
  have ao:ix (br f.aU (br v.aO 0))=(br f.aU (br v.aO 0) -1000).toNat:=rfl
  have e5:eV (br f.aU (br v.aO 0) -1000)=br f.aU (br v.aO 0) -1000:=by grind [dk]
  obtain⟨f0,_,k1,_⟩:=z.eO.aR.dg W
  unfold kQ at ai
  rw[aV V,aV V,aV V,aV V,aV V,aV V,aV V,aV V,aV V,aV V,a8 w]at ai
  have aL:ua (cY y.bR v.cG) (bu a.aR (br f.aU (br v.aO 0))).jH<(cY y.bR v.cG).length:=mC ⟨_,bq,bO⟩
  have bl:=hj.aT
  have a9:=ai.2.2.1
  refine⟨j,z.eO.bU.dg 8,r,ad z,V,V,_,ga z.eO.de V,A.1,V,_,gr z A.1 A.2,?_⟩
  rw[e5,<-ao]
  refine⟨V,V,_,k1,d,z.eO.bU.dg 0,(xL (aD.ext z.eO.de).bR C.ok.iu.kX.dj v.cG).aP ?_⟩
  rintro _ X ⟨cs,rfl,aK,ae⟩
  let⟨T,B⟩:=z.ext ae
  have P:=B.fW K
  refine⟨P,cs,O,U P 5,(wN aK _).aP ?_⟩
  rintro _ L ⟨ri,rfl,aw,bm⟩
  let⟨G,H⟩:=T.ext aw
  have aB:=H.fW (K.to B)
  have ax:ri=ua (cY y.bR v.cG) (bu a.aR (br f.aU (br v.aO 0))).jH:=by
   grind
  subst ax
  exact⟨aB,_,O,U aB 5,V,V,_,(hj.ext G.eO.de).uG V V,aI (ae.N aw) _ _ O⟩
 simp only[bd]at bi
 rw[aV bi]
 have bm:0<=a.dv/\a.dv<=100000:=by
  grind [vY.ok,eJ.dv,eJ.df]
 have aB:=C.ok.iu
 refine⟨λw=>?_,λe9=>?_⟩
 .simp only[eK,bQ]at w
  rw[a8 w]
  unfold kQ at ai
  rw[aV V,aV V,aV V,aV V,a8 w]at ai
  let⟨al,aK,aw,bl⟩:=ai
  have b3:=(aB.eR al (ba aw)).aU
  have h3:=(aB.kX.eR al (ba aw)).1
  have b6:(dR f v.aO).length=v.aO.length:=by simp[dR]
  refine bB λws X iw ae aL=>?_
  let⟨T,B⟩:=z.ext ae
  have P:=B.fW K
  refine⟨P,ws,O,U P 0,U P 1,U P 2,U P 3,U P 4,U P 5,U P 2,(KI T aD aK aw V iw aL V v af az V bm).aP ?_⟩
  rintro _ L ⟨bk,a9,aH,ax,L6,H⟩
  exact⟨H.fW (K.to B),bk,a9,aH,ax,L6,(Y.N B).N H⟩
 simp only[cZ,bd]at e9
 rw[aV V]
 refine⟨λw=>?_,λa9=>?_⟩
 .simp only[bQ]at w
  rw[a8 w]
  have h2:=C.oD.2.2.1 V
  have A:=an V
  have aL:0<=br v.aO 1/\br v.aO 1<f.aU.length:=by grind [vY.arg,gZ]
  let⟨aa,b4,cz,b0,bV,ci⟩:=hM.apply w
  let⟨W,aF⟩:=dL aa
  have bl:=C.ok.aR.iF _ (ba W)
  have cj:=bl.fl
  have bq:=(bl.yZ aF).2
  have ay:=bC W
  have aP:=z.eO.aR.aT
  have aN:=aa.1
  have ao:ix (br f.aU (br v.aO 0))=(br f.aU (br v.aO 0) -1000).toNat:=rfl
  have e5:eV (br f.aU (br v.aO 0) -1000)=br f.aU (br v.aO 0) -1000:=by grind [dk]
  let⟨f0,k0,k1,k2,kf,kr⟩:=z.eO.aR.dg W
  refine⟨r,ad z,V,V,_,ga z.eO.de V,A.1,V,_,gr z A.1 A.2,j,z.eO.bU.dg 8,?_⟩
  rw[e5,<-ao]
  generalize hw:br f.aU (br v.aO 0)=F at*
  have gv:∀{g m bx cJ j c lo am t h u own' pc'},ST q g m k dq bx cJ j c lo am b {f with bF:=own',pc:=pc'} r t h u->aS m r.bt (r.off+Int.toNat (br v.aO 1)*1)=some (vi (br f.aU (br v.aO 1))):=λac=>gr ac aL.1 aL.2
  generalize hv:br f.aU (br v.aO 1)=Z at*
  let⟨al,hq⟩:=dY y.cU (((bu a.aR F).jH -cT y).toNat)
  have b1:dE y ((bu a.aR F).jH -cT y)=al:=by grind [dE]
  rw[b1]at b0 bV
  have b3:=(aB.eR al (ba hq)).aU
  have h3:=(aB.kX.eR al (ba hq)).1
  refine⟨V,V,_,k0,_,k1,f0,k2,?_⟩
  intro X L
  have aK:J I L:=by grind [J.cX,J.cz,J.aW]
  have s6:L.size=I.size+1:=by grind [bE]
  let⟨G,H⟩:=z.ext aK
  have S:Eb g L [I.size,m.size]:=λQ hb=>by
   simp at hb;rcases hb with rfl|rfl
   .exact⟨V,z.eO.bI _ bY⟩
   .exact K.to H _ bO
  have aH:∀{M},J L M->aS M af.bt (af.off+Int.toNat (1:Int)*1)=some (vi (br v.aO 1)):=λhx=>(ha.ext (G.eO.de.N hx)).uG V V
  have ew:eV ((bu a.aR F).jH -cT y)=(bu a.aR F).jH -cT y:=by grind [dk]
  have tail:∀{M:D}{es:E},J L M->js L M bG 1 es (((bu a.aR F).bV++[Z]).map Ce.i)->
   bJ dP 101 [vp k 0,vi F,vb false] M λcd R=>gT [I.size,m.size] M R/\∃cc:Bool,cd=vb cc/\∃bA:Int,aS R k (0+2)=some (vi bA)/\
    bJ dP 100 [vp k 0,vi (eV ((bu a.aR F).jH -bA)),es.v,xv v af az] R λ_ bv=>gT [I.size,m.size] R bv/\IS q g m k d p (cT y) {a with dv:=a.dv+1,aR:=iK a.aR F,bo:=b++[{f with bF:=bF,pc:=f.pc+1},ct y ((bu a.aR F).jH -cT y) v.bA ((bu a.aR F).bV++[Z])]} bv:=λ{M}{es} hx oe=>by
   let⟨SM,tM⟩:=G.ext hx
   have BM:=S.to tM
   have ie:bg M es ((bu a.aR F).bV++[Z]):=by grind [bg.jT]
   have bT:es.bt<M.size:=by grind [lS]
   have bR:g es.bt=0:=by
    rcases oe.bt with w|w
    .subst w;have:=ie.aT;simp at this
    .exact G.eO.bI _ w
   refine(Iw SM aa false C.ok.aR V).aP ?_
   rintro _ m8 ⟨Q,rfl,_,cB,cs,S8,t8⟩
   have hK:we a.aR F false=iK a.aR F:=by grind [we]
   rw[hK]at S8
   have b8:bg m8 es ((bu a.aR F).bV++[Z]):=by grind [lx,eu.fH]
   refine⟨t8.fW BM,Q,O,cT y,S8.eO.bU.dg 2,?_⟩
   rw[ew]
   refine(KI (s:={a with aR:=iK a.aR F}) S8 aD b4 hq V b8 (λ_=>by rw[t8.jZ _ bT];exact bR) cC v af az V bm).aP ?_
   rintro _ m9 ⟨ce,cb,bX,bM,L9,t9⟩
   refine⟨t9.fW (BM.to t8),ce,cb,bX,bM,?_,(((Y.N H).N tM).N t8).N t9⟩
   grind
  refine⟨r,ad G,V,V,_,aH dt,aL.1,V,Z,gv G,?_,?_⟩
  .refine(lG (kf.ext aK) V).aP ?_
   rintro _ m7 ⟨cl,rfl,oc,P⟩
   let⟨S7,t7⟩:=G.ext P
   have B7:=S.to t7
   refine⟨t7.fW S,cl,O,P.cK (gv G),P.cK (aH dt),bD (P.bB m.size (S _ bO).1) 4,P.cK (ad G),?_⟩
   intro m8
   have T:=px m8
   refine⟨bD (T.bB I.size (B7 _ bO).1) 2,sj oc P V λes m9 o9 aw=>⟨?_,tail aw o9⟩⟩
   intro Q hb
   have ax:=(S Q hb).1
   rw[aw.bB Q ax,T.bB Q (oh P.aQ),P.bB Q ax]
  .intro m7
   obtain⟨P,s7⟩:=pu m7
   have bN:dJ m7 L.size bG [.i Z]:=dJ.push L _ _
   let⟨S7,t7⟩:=G.ext P
   have B7:=S.to t7
   refine⟨bD (P.bB I.size (S _ bO).1) 2,(lG (kf.ext (aK.N P)) V).aP ?_⟩
   rintro _ m8 ⟨cl,rfl,oc,T⟩
   let⟨S8,t8⟩:=S7.ext T
   have ch:cl.len=(bu a.aR F).bV.length:=by have:=oc.aT;simp at this;omega
   refine⟨t8.fW B7,cl,O,T.cK (gv S7),T.cK (aH P),bD (T.bB m.size (B7 _ bO).1) 4,T.cK (ad S7),?_⟩
   have bk:=P.N T
   refine js.fE (c:=[.i 0]) (x:=.mk L.size 0 1 1) (i:=[.i Z]) (oc.de V) bk O (bN.ext T).kv (by simp only[E.lU];omega) λes m9 o9 aw _ _ _ _=>⟨?_,tail aw (sp o9)⟩
   intro Q hb
   have ax:=(S Q hb).1
   rw[aw.bB Q ax,bk.bB Q ax]
 simp only[bd]at a9
 rw[aV a9]
 refine⟨λw=>?_,λL=>?_⟩
 .simp only[bQ]at w
  have h2:=C.oD.2.1 V
  have A:=an V
  refine⟨r,ad z,V,V,_,ga z.eO.de V,A.1,V,_,gr z A.1 A.2,(Mo z V (br f.aU (br v.aO 0)) (λav hg=>?_)).aP ?_⟩
  .have ap:b≠[]:=cC
   have H:b=b.dropLast++[av]:=by
    grind [List.getLast?_eq_some_getLast,List.dropLast_concat_getLast]
   have P:b.length=b.dropLast.length+1:=by
    grind [List.length]
   let⟨S,T,W⟩:=C.ok.tX b.dropLast.length av f (by rw[C.fr,H];simp) (by rw[C.fr,<-P];simp)
   have G:=C.ok.bo av (by rw[C.fr,H];simp)
   have:=G.lr
   have:=G.lo
   grind
  rintro _ X ⟨ar,aA,aq,au,L5,B⟩
  exact⟨B.fW K,ar,aA,aq,au,L5,Y.N B⟩
 simp only[bd]at L
 have:=C.opc
 omega
end
section
variable{a:cO}
section
variable{g:D}{f:ag}{m:D}{c:Nat}{d p cJ e b:E}{s:St}
def TH(L:uH g f m c dq (IB d p (cT a) s cJ e b) cJ e b s.cJ s.aR s.bo)(z:iW g d p a)(u:eJ a s)(an:∀t∈s.bo,∀w∈t.aU,w<=9223372036854775807)(ap:s.aR.length<=900000000)(au:s.cJ.length<=900000000):
 bJ dP 27 [vp c 0] m λ_ I=>IS g f m c d p (cT a) (kD a s) I:=by
 apply AA (c,0)
 simp -zeta only[dT]
 refine⟨s.dx,L.bU.dg 3,λy=>?_,λy=>?_⟩
 .simp at y
  rw[pB y]
  exact⟨f,cJ,e,b,L,eu.cX _ L.bI⟩
 have G:s.dx=3:=sp y
 let⟨k,h,r⟩:=u.split G
 have aq:s.bo.getLast?=some h:=by rw[r];simp
 have am:s.bo.dropLast=k:=by rw[r];simp
 have C:vY a s k h (bK a h):=⟨u,G,r,O,an⟩
 have ay:kD a s=(open Classical in if ms (bK a h).op/\s.dv=s.df then{s with dx:=1}else if iN a s h (bK a h) (bZ h.aU h.bF (cq a (bK a h)))then dI a s k h (bK a h) (bZ h.aU h.bF (cq a (bK a h)))else{s with dx:=2}):=by
  unfold kD;rw[aV (sp G),aq,am]
 rw[ay]
 generalize bK a h=x at*
 have N:uH g f m c dq (IB d p (cT a) s cJ e b) cJ e b s.cJ s.aR (k++[h]):=by rw[<-r];exact L
 let⟨af,ae,W,ag,T⟩:=N.bo.jA
 have S:ST g f m c dq (IB d p (cT a) s cJ e b) cJ e b s.cJ s.aR k h af ae W ag:=⟨N,T⟩
 have aD:=T.CM
 have ab:=u.eG
 have aC:=u.dv
 have aG:=u.df
 rw[r]at ab
 have aE:k.length<=1000:=by simp at ab;omega
 have e1:eV ((b.len:Int) -1)=(k.length:Int):=by rw[gJ];omega
 have e2:Int.toNat (k.length:Int)=k.length:=V
 have U:aS m c 9=some b.v:=S.eO.bU.dg 9
 obtain⟨R,g1,_,_,_,_⟩:=T.kv
 let⟨aL,hq,aw,hP,ak,hI⟩:=C.I
 let⟨pa,pl,pc,aH,aJ,ad,k0,k1,k2,k3,k4⟩:=z.cU.br hq
 let⟨F,H,Y,hj,i0,i1,i2,i3,i4,i5⟩:=ad.br ak
 have aK:=z.cU.aT
 have aI:=ad.aT
 have X:=C.F
 have av:=X.fN
 have ac:=X.pc
 rw[aw]at ac
 have l:=S.eO.de
 refine⟨b,U,b,U,?_⟩
 rw[e1,e2]
 refine⟨V,V,p,S.eO.bU.dg 1,_,R,av.1,V,pc,l.aS k4,_,g1,ac.1,V,_,l.aS i0,_,l.aS i1,_,l.aS i2,_,l.aS i3,F,l.aS i4,H,l.aS i5,?_⟩
 intro m1
 have n:=px m1
 refine⟨n.cK (l.aS i0),n.cK (l.aS i1),n.cK (l.aS i2),n.cK (l.aS i3),n.cK (l.aS i4),n.cK (l.aS i5),n.cK g1,n.cK (l.aS k4),n.cK R,n.cK (S.eO.bU.dg 1),?_⟩
 intro o
 have az:J m o:=n.aW bY _ _
 have s2:o.size=m.size+1:=by simp[o,m1,bE]
 let⟨j,t2⟩:=S.ext az
 have A:Eb f o [m.size]:=λP l=>by simp at l;subst l;exact⟨V,S.eO.bI _ bY⟩
 have aF:=C.RO
 have ax:({s with bo:=k++[h]}:St)=s:=by rw[<-r]
 have ao:pe o b (k++[h]):=j.eO.bo.QA fu (λt w=>by
  have q:=u.bo t (by rw[r];exact w);obtain⟨Q,_,B,v,_⟩:=q.AJ u.iu;have E:=q.lr;have K:=q.lo;have M:=q.lh;rw[B]at E K M;have:=v.aU;omega)
 have ai:RV o c 3 d p cJ e b a s:=by
  have:RV o c 3 d p cJ e b a {s with bo:=k++[h]}:=⟨z.ext j.eO.de,j.eO.bU.dg 0,j.eO.bU.dg 1,j.eO.bU.dg 3,j.eO.bU.dg 4,j.eO.bU.dg 5,j.eO.bU.dg 6,j.eO.bU.dg 7,j.eO.bU.dg 8,j.eO.bU.dg 9,j.eO.cJ.nZ V,j.eO.aR.kL V,ao⟩;rw[ax]at this;exact this
 have F2:FP o b.bt (b.off+k.length*6) h af ae W:=j.fp ⟨V,V,V⟩
 have mN:¬(ms x.op/\s.dv=s.df)->bJ dP 50 [vp c 0,vp b.bt (b.off+k.length*6),xv x F H] o λaA v=>
  gT [m.size] o v/\∃K:Bool,aA=vb K/\
  ((!K)=true->gK v c (0+3) 1/\let q:D:=aW v c (0+3) [.i (2:Int)]
   gT [m.size] v q/\IS g f m c d p (cT a) (open Classical in if ms x.op/\s.dv=s.df then{s with dx:=1}else if iN a s h x (bZ h.aU h.bF (cq a x))then dI a s k h x (bZ h.aU h.bF (cq a x))else{s with dx:=2}) q)/\
  ((!K)=false->bJ dP 51 [vp c 0,vp b.bt (b.off+k.length*6),xv x F H] v λt q=>
   gT [m.size] v q/\IS g f m c d p (cT a) (open Classical in if ms x.op/\s.dv=s.df then{s with dx:=1}else if iN a s h x (bZ h.aU h.bF (cq a x))then dI a s k h x (bZ h.aU h.bF (cq a x))else{s with dx:=2}) q):=λar=>by
  refine(Vi ai (j.eO.bU.dg 2) C F2 (Y.ext j.eO.de) V).aP ?_
  rintro _ m3 ⟨P,rfl,Z,ah⟩
  let⟨B,t3⟩:=j.ext ah
  have M:=A.to t3
  rw[aV ar]
  refine⟨t3.fW A,P,O,λq=>?_,λq=>?_⟩
  .rw[aV (nb Z q)]
   refine⟨B.eO.pO (i:=3) bO,?_⟩
   intro m4
   let⟨E,t⟩:=B.lW 3 [.i 2]
   refine⟨t.fW M,f,cJ,e,b,?_,(t2.N t3).N t⟩
   have:=E.eO
   rw[<-r]at this
   exact this
  .have w:=yb Z q
   rw[a8 w]
   refine(Xd C O w B z Y hj ap au).aP ?_
   rintro _ m4 ⟨aB,al,aj,aa,Q,t⟩
   exact⟨t.fW M,aB,al,aj,aa,Q,(t2.N t3).N t⟩
 refine⟨λQ I=>I=o/\(Q=true<->ms x.op),⟨λq=>⟨O,by simp at q;simp[ms,q]⟩,λq=>⟨λw=>⟨O,by simp at w;simp[ms,w]⟩,λw=>⟨O,by simp at q w;simp[ms,q,w]⟩⟩⟩,?_⟩
 rintro Q m3 ⟨rfl,aa⟩
 refine⟨λal=>⟨s.dv,j.eO.bU.dg 5,s.df,j.eO.bU.dg 6,λw=>?_,λw=>?_⟩,λaj=>?_⟩
 .simp at w
  refine⟨j.eO.pO (i:=3) bO,?_⟩
  intro m4
  let⟨E,t⟩:=j.lW 3 [.i 1]
  refine⟨t.fW A,f,cJ,e,b,?_,t2.N t⟩
  rw[a8 ⟨aa.1 al,w⟩]
  have:=E.eO
  rw[<-r]at this
  exact this
 .simp at w
  exact mN λt=>w t.2
 .exact mN λt=>by have:=aa.2 t.1;rw[aj]at this;simp at this
end
def sV{m:D}{p w:E}(B:iW m p w a)(t:gL a)(df:Int):
 bJ dP 26 [.agg #[E.v p,E.v w],vi df] m λG c=>∃r,G=.agg #[vi 3,vi 0,vi 0,vi df,E.v .nil,E.v .nil,E.v r]/\J m c/\∃b1 b2 b3 b4 k,r=.mk b4 0 1 1/\
  tR m c b1 b2 b3 k (ct a 0 0 []).aU (ct a 0 0 []).bF (ct a 0 0 []).cL/\(b4≠b1/\b4≠b2/\b4≠b3/\m.size<=b4/\b4<c.size)/\dJ c b4 gS [.i 0,.i 0,.i 0,.s (.mk b1 0 k k),.s (.mk b2 0 k k),.s (.mk b3 0 k k)]:=by
 apply Dm
 simp -zeta only[kU]
 intro j l
 have u:J m l:=((J.cX m).cz _).cz _
 have F:=pz j
 have M:l.size=m.size+2:=by simp[l,F]
 have H:=t.kX.aT
 let⟨q,h⟩:=dY a.cU 0
 have K:=(t.eR q (ba h)).aU
 have i:dE a 0=q:=by simp[dE,h]
 refine(AE (B.ext u) (dN 0) h V 0).aP ?_
 rintro _ n ⟨b1,b2,b3,rfl,N⟩
 have g:=N.ext
 have I:=N.lo
 have L:=g.aQ
 refine⟨g.fg fu,_,_,_,_,_,_,O,?_⟩
 intro d o
 obtain⟨s,P⟩:=pu d
 have Q:o.size=d.size:=bE _ _ _ _
 have C:dJ d n.size gS [.i 0,.i 0,.i 0,.s (.mk b1 0 q.aU.toNat q.aU.toNat),.s (.mk b2 0 q.aU.toNat q.aU.toNat),.s (.mk b3 0 q.aU.toNat q.aU.toNat)]:=dJ.push n _ _
 have f:=N.Mh s
 have v:J m o:=(u.N (g.N s)).aW (show m.size<=j.size by omega) _ _
 have e:∀b,b≠j.size->o[b]? =d[b]? :=λb A=>cw _ _ _ _ A
 have z:(ct a 0 0 []).aU=eU q.aU.toNat:=by simp[ct,i]
 have y:(ct a 0 0 []).bF=eU q.aU.toNat:=by simp[ct,i,fK]
 have x:(ct a 0 0 []).cL=eU q.aU.toNat:=by simp[ct,i]
 refine⟨_,O,v,b1,b2,b3,n.size,q.aU.toNat,O,?_,V,C.congr (e _ V)⟩
 rw[z,y,x]
 exact⟨v,V,f.kr.congr (e _ V),f.ko.congr (e _ V),f.kh.congr (e _ V),N.aT⟩
def Zr{m d:D}{l:Nat}{Rv:ae}{e:E}{df:Int}{b1 b2 b3 b4 k b:Nat}(w:e=.mk b4 0 1 1)
 (N:tR m d b1 b2 b3 k (ct a 0 0 []).aU (ct a 0 0 []).bF (ct a 0 0 []).cL)(z:b4≠b1/\b4≠b2/\b4≠b3/\m.size<=b4/\b4<d.size)(y:dJ d b4 gS [.i 0,.i 0,.i 0,.s (.mk b1 0 k k),.s (.mk b2 0 k k),.s (.mk b3 0 k k)])
 (B:m.size<=b/\b≠b1/\b≠b2/\b≠b3/\b≠b4)(kb:dJ d b l (Rv++[.i 3,.i 0,.i 0,.i df,.s .nil,.s .nil,.s e])):
 uH m (pE (pE (pY (λ_=>0) b1 b2 b3 0) b4 4) b 1) d b l (Rv++[.i 3,.i 0,.i 0,.i df,.s .nil,.s .nil,.s e]) .nil .nil e [] [] [ct a 0 0 []]:=by
 have A:=N.lo
 have x:J m d:=N.ext
 have C:=kb.lt
 have j:∀c,c≠b->c≠b4->(pE (pE (pY (λ_=>0) b1 b2 b3 0) b4 4) b 1) c=pY (λ_=>0) b1 b2 b3 0 c:=λc g i=>by rw[fO g,fO i]
 let⟨u,a2,a3⟩:=N.rm (q:=λ_=>0) (v:=0)
 have conv:∀{p:Nat}{s:E}{q:ae},iV (pY (λ_=>0) b1 b2 b3 0) d bG 1 p s q->s.bt≠b->s.bt≠b4->iV (pE (pE (pY (λ_=>0) b1 b2 b3 0) b4 4) b 1) d bG 1 p s q:=λt g i=>t.fH (λ_=>O) (λ_=>j _ g i)
 refine⟨x,λc v=>?_,λc v=>?_,kb,iE,⟨bO,bO,bz O⟩,⟨[],⟨bO,bO,bz O⟩,fL.gF _ _,Sep.gF⟩,?_⟩
 .rw[j c V V];unfold pY;rw[fO V,fO V,fO V]
 .rw[j c V V];unfold pY;rw[fO V,fO V,fO V]
 .refine rU.qC (a:=[]) (f:=ct a 0 0 []) (r:=.mk b1 0 k k) (e:=.mk b2 0 k k) (h:=.mk b3 0 k k) (j:=[]) ⟨?_,O,bO,bO,conv u (by simp only[E.nh];omega) (by simp only[E.nh];omega),conv a2 (by simp only[E.nh];omega) (by simp only[E.nh];omega),conv a3 (by simp only[E.nh];omega) (by simp only[E.nh];omega)⟩
  rw[w]
  refine⟨O,bY,bH ⟨b4,1,[],O,?_,?_,O⟩⟩
  .grind [fO,iE]
  .rw[gA];exact y
theorem SW(a:cO):∀(c b:Nat)(s:St),bq a (c+b) s=bq a b (bq a c s)
 |0,b,s=>by simp[bq]
 |c+1,b,s=>by rw[Nat.succ_add];simp only[bq];exact SW a c b _
end
end Go.Proofs.YtbbbdejieenniaaGreat
section
namespace Go.Vc
def Au{m:D}{b o:Nat}{v:Value}(h:(aS m b o).isSome=true):aS (vJ m b o v) b o=some v:=by
 grind [aS,vJ,Array.size,Nat.lt_or_ge,Array.getElem?_eq_none]
def PW{m:D}{c o a b:Nat}{v:Value}(h:a≠c\/b≠o):aS (vJ m c o v) a b=aS m a b:=by
 grind [aS,vJ,bD,QM]
def WY{m:D}{c o:Nat}{v:Value}{a b:Nat}:Dc (vJ m c o v) a b=Dc m a b:=by
 grind [Dc,vJ,QM]
@[grind cases] structure Ry (m:D) (k:Int) (pos:ao) (m':D):Prop where
 aQ:m.size<=m'.size
 bt:∀b,b<m.size->(∀p∈pos,p.1≠b)->m'[b]? =m[b]?
 iF:∀b o,b<m.size->(b,o)∉pos->aS m' b o=aS m b o
 Dc:∀b o,b<m.size->Vc.Dc m' b o=Vc.Dc m b o
 qt:∀p∈pos,∃n,aS m' p.1 p.2=some (vi n)
 afm:pos.Nodup->∀(j:Nat)(p:ai),pos[j]? =some p->aS m' p.1 p.2=some (vi (k+j))
def Ry.gF{m c:D}(h:J m c)(k:Int):Ry m k [] c:=
 ⟨h.aQ,λb a _=>h.bB b a,λb o a _=>bD (h.bB b a) o,λb o a=>by unfold Vc.Dc;rw[h.bB b a],bO,bO⟩
def Ry.mE{m:D}{b o:Nat}(h:(aS m b o).isSome=true)(k:Int):Ry m k [(b,o)] (aW m b o [.i k]):=by
 refine⟨D0 (bE _ _ _ _).symm,λc d f=>cw _ _ _ _ λe=>f (b,o) bO e.symm,λc q d f=>?_,λc q d=>WY,λp a=>?_,λ_ j p a=>?_⟩
 .refine PW ?_;grind
 .simp at a;subst a;exact⟨k,Au h⟩
 .cases j with
  |zero=>
   simp at a;subst a;have e:k+((0:Nat):Int)=k:=V;rw[e];exact Au h
  |succ j=>simp at a
def Ry.N{m f i:D}{k:Int}{e p2:ao}(h:Ry m k e f)(g:Ry f (k+e.length) p2 i):Ry m k (e++p2) i:=by
 have j:=h.aQ;refine⟨fC h.aQ g.aQ,λb c d=>?_,λb o c d=>?_,λb o c=>?_,λp a=>?_,λhd l p a=>?_⟩
 .rw[g.bt b V λp a=>d p (na _ a),h.bt b c λp a=>d p (dO _ a)]
 .grind [Ry.iF,List.mem_append_right,List.mem_append_left]
 .grind [Ry.Dc]
 .grind [Ry.qt,Ry.iF,pI]
 .grind [List.nodup_append,List.length,List.getElem?_append_left,List.mem_of_getElem?,Ry.qt,Ry.iF,pI,Ry.afm,List.getElem?_append_right]
inductive Row where
 |nil
 |int (r:Row)
 |sl (e r:Row)
def Row.aQ:Row->Nat
 | .nil=>0
 | .int r=>r.aQ+1
 | .sl _ r=>r.aQ+1
inductive ZN where
 |kv (r:Row)
 |Fb (e:Row) (n:Nat)
inductive yE(m:D):ZN->Nat->Nat->ao->Prop where
 |nil (b o:Nat):yE m (.kv .nil) b o []
 |int {b o:Nat} {r:Row} {p:ao} {n:Int} (h:aS m b o=some (vi n)) (hf:Vc.Dc m b o=false) (hr:yE m (.kv r) b (o+1) p):yE m (.kv (.int r)) b o ((b,o)::p)
 |sl {b o:Nat} {e r:Row} {p1 p2:ao} {s:E} (h:aS m b o=some s.v) (hl:s.len<=9223372036854775807) (he:yE m (.Fb e s.len) s.bt s.off p1) (hr:yE m (.kv r) b (o+1) p2):yE m (.kv (.sl e r)) b o (p1++p2)
 |zero (e:Row) (b o:Nat):yE m (.Fb e 0) b o []
 |succ {b o n:Nat} {e:Row} {p1 p2:ao} (he:yE m (.kv e) b o p1) (hr:yE m (.Fb e n) b (o+e.aQ) p2):yE m (.Fb e (n+1)) b o (p1++p2)
def yE.nZ{m:D}{K:ZN}{f o:Nat}{e:ao}(h:yE m K f o e):∀p∈e,∃n,aS m p.1 p.2=some (vi n):=by
 induction h with
 |nil=>simp
 |int h c d b=>
  intro p a;rcases aZ.1 a with rfl|a
  .exact⟨_,h⟩
  .exact b p a
 |sl h i g d b c=>
  intro p a;rcases bT.1 a with a|a
  .exact b p a
  .exact c p a
 |zero=>simp
 |succ g d b c=>
  intro p a;rcases bT.1 a with a|a
  .exact b p a
  .exact c p a
def yE.lt{m:D}{K:ZN}{b o:Nat}{a:ao}(h:yE m K b o a):∀p∈a,p.1<m.size:=λp d=>let⟨_,c⟩:=h.nZ p d;pI c
theorem aaW(n:Int)(s:E):vi n≠s.v:=by cases s<;>simp[vi,E.v]
def yE.abw{m f:D}{r:Int}{q:ao}(i:Ry m r q f)(u:∀p∈q,∃n,aS m p.1 p.2=some (vi n)){K:ZN}{b o:Nat}{g:ao}(h:yE m K b o g):yE f K b o g:=by
 induction h with
 |nil=>exact .nil _ _
 | @int b o t p n h a e c=>
  have d:=pI h;by_cases l:(b,o)∈q
  .grind [Ry.qt,yE.int,Ry.Dc]
  .grind [yE.int,Ry.iF,Ry.Dc]
 | @sl b o p t v p2 n h k j e a c=>
  have d:=pI h;refine .sl (s:=n) ?_ k a c;rw[i.iF b o d λl=>?_]
  .exact h
  .grind [aaW,Option.some.inj]
 |zero=>exact .zero _ _ _
 |succ j e a c=>exact .succ a c
def yE.ext{m a:D}(d:J m a){K:ZN}{b o:Nat}{c:ao}(h:yE m K b o c):yE a K b o c:=h.abw (Ry.gF d 0) bO
end Go.Vc
namespace Go.Proofs.YtbbbdejieenniaaGreat
open Go.Vc
end Go.Proofs.YtbbbdejieenniaaGreat
end
namespace Go.Proofs.YtbbbdejieenniaaGreat
open Go.Vc
section
section
variable{m:D}{s t:E}{l r:ab}
end
variable{m:D}{b P:Nat}{c:E}{a:ad}
def O5(d:Rd b c P m)(i:P+2<=10^16):bJ dP 46 [vp b 0] m λv f=>(∃k,v=vi k)/\Fz [b] m f:=by
 apply Ia (b,0);refine(dW d V 12).aP λ_ j⟨k,e,_,_,g,a⟩=>⟨k,e,?_⟩;intro l;refine(IC (Rs.mk a g) V [40,40,k,0,3,20,40,41,-1] O O bO).aP λ_ n⟨t,e,_,h,_⟩=>⟨t,e,⟨t,O⟩,h.f⟩
def Kh.ext{a:D}{cD:E}(h:Kh m cD)(x:J m a):Kh a cD:=⟨h.1,λk d=>let⟨v,b,c,g⟩:=h.2 k d;⟨v,b,c,x.aS g⟩⟩
def DR(a:ad)(m:D)(v:Value)(b:D):Prop:=∃d p c k,v=.tuple #[.agg #[d.v,p.v],vi k]/\iW (di a b) d p c/\J m b
def Dw{cD:E}(z:Kh m cD)(I:∀l∈a,l<m.size):bJ dP 23 [cD.v] m (DR a m):=by
 apply yN;simp -zeta only[dT];intro b;obtain⟨i,P⟩:=pu b;refine(MY (z.ext i)).aP λ_ M⟨c,e,v,j⟩=>⟨j.fg cC,(b.size,0),e,?_⟩;have L:=v.lt;have Q:=j.aQ;refine(OC (a:=m.size::b.size::a) (λl K=>?_) bO v (by simp[Cg])).aP λ_ h⟨n,u,x,e,w,_,G,g⟩=>⟨g.fg cC,n,u,e,?_⟩
 .grind
 have R:=g.aQ;intro N s;have k:J h s:=by grind [J.push,J.aW]
 have T:s.size=h.size+1:=by grind [bE]
 refine(O5 (G.ext k) (by simp[Cg])).aP λ_ t⟨⟨q,e⟩,d⟩=>⟨d.fg cC,q,e,bD (d.bB _ V cC) _,bD (d.bB _ V cC) _,?_⟩;intro D;have r:Le (di (m.size::b.size::a) h) (di a D):=λf F H C=>by
  let⟨A,B⟩:=gY.1 C;have:=d.eX (S:=m.size::b.size::a) bO f F H (gY.2 ⟨A,k.aS B⟩);grind [gY,bD,cw]
 have o:Fz [b.size] b t:=(((j.fz _).N g).N (k.fz _)).N d;have y:J m t:=⟨by have:=o.aQ;omega,λf p=>(o.bB f (i.lt p) cC).trans (i.bB f p)⟩;exact⟨n,u,⟨x.1,x.2⟩,q,O,⟨w.1.le r,ly.le r w.2⟩,y.aW bY _ _⟩
end
def tab(n:Nat)(f:Nat->Int):ab:=(List.range n).map f
@[grind cases] structure ads (h:ah):Prop where
 nW:rh h
 kL:∀c∈h,tL h c
 qN:∀(a:Nat)(c:dz),h[a]? =some c->0<c.bX->qN h a<=c.bX
 IU:ad1 h
@[grind cases] structure Wy (h:ah) (f:bS):Prop where
 eR:∀(k:Nat)(w o:Int),f.aU[k]? =some w->f.bF[k]? =some o->(mV w\/1000<=w)/\(0<=o/\o<=999999)/\(0<o->iR h w)
@[grind cases] structure ab1 (im:cO) (h:ah) (prev:Option bS) (f:bS):Prop where
 fN:0<=f.fN/\f.fN<im.cU.length
 pc:0<=f.pc/\f.pc<(dE im f.fN).cD.length
 lr:(f.aU.length:Int)=(dE im f.fN).aU
 lo:(f.bF.length:Int)=(dE im f.fN).aU
 lh:(f.cL.length:Int)=(dE im f.fN).aU
 aU:Wy h f
 first:prev=none->f.bA=0
 zV:∀p,prev=some p->0<=f.bA/\f.bA<p.bF.length/\br p.bF f.bA=0
def TW(a:aj):Nat->Option bS
 |0=>none
 |k+1=>a[k]?
@[grind cases] structure adt (h:ah) (fs:aj):Prop where
 dR:∀f∈fs,∀w∈f.cL,w=0\/(1000<=w/\ix w<h.length)
 eM:∀(i:Nat)(c:dz),h[i]? =some c->c.bX<0->gP fs i=1
 uC:∀(i:Nat)(c:dz),h[i]? =some c->0<=c.bX->gP fs i=0
@[grind cases] structure ab3 (im:cO) (s:St):Prop where
 iu:gL im
 dx:0<=s.dx/\s.dx<=3
 cB:s.dx=0<->s.bo=[]
 kY:mV s.kY
 Nw:s.kY≠0->s.dx=0
 df:0<=s.df/\s.df<=40
 dv:0<=s.dv/\s.dv<=s.df
 eG:(s.bo.length:Int)<=s.dv+1
 cJ:∀n∈s.cJ,mV n
 aR:ads s.aR
 bo:∀(k:Nat)(f:bS),s.bo[k]? =some f->ab1 im s.aR (TW s.bo k) f
 cL:adt s.aR s.bo
 afR:∀(a:Nat)(c:dz),s.aR[a]? =some c->0<c.bX->c.bX=qN s.aR a+oO s.bo a
def aak{a:aj}{f:bS}{b:Nat}(c:f∈a):kG f.cL b<=gP a b:=by
 induction a with
 |nil=>simp at c
 |cons g a d=>
  simp only[gP];rcases aZ.1 c with rfl|c
  .have:=EC a b;omega
  .have:=d c;have:=nj g.cL b;omega
def Ww(w:Int):Prop:=-9223372036854775808<=w/\w<=9223372036854775807
def afC(h:ah):Prop:=∀c∈h,∀w∈c.bV,Ww w
section
variable{a b:Nat}
def PE(mk:Nat->Bool):Nat->Nat
 |0=>0
 |n+1=>PE mk n+(if mk n=true then 1 else 0)
theorem PF{mk a:Nat->Bool}:∀{n:Nat},(∀i,i<n->mk i=a i)->PE mk n=PE a n
 |0,_=>O
 |n+1,h=>by simp only[PE];rw[PF λi b=>h i V,h n V]
def VA(mk:Nat->Bool)(a:Nat):Nat->Bool:=λx=>if x=a then true else mk x
theorem SR(mk:Nat->Bool)(a:Nat):VA mk a a=true:=a8 O
theorem Cc{mk:Nat->Bool}(h:b≠a):VA mk a b=mk b:=aV h
theorem GY{mk:Nat->Bool}(h:mk b=true):VA mk a b=true:=by grind [VA]
def PG{mk:Nat->Bool}{a:Nat}(h:mk a=false):∀{n:Nat},a<n->PE (VA mk a) n=PE mk n+1
 |0,c=>absurd c (Om _)
 |n+1,c=>by
  simp only[PE];rcases eH a n with b|b
  .rw[PG h b,Cc V];omega
  .grind [SR,PF,Cc]
def ZO(h:ah)(mk:Nat->Bool):Prop:=
 ∃t:ag,(∀j,mk j=true->t j<=PE mk h.length)/\∀(i:Nat)(c:dz),h[i]? =some c->mk i=true->∀w∈c.bV,1000<=w->mk (ix w)=true/\t (ix w)<t i
def afv(mk:Nat->Bool)(a:ab):Prop:=∀w∈a,1000<=w->mk (ix w)=true
def ZO.eE{h:ah}{mk:Nat->Bool}(k:ZO h mk){c:dz}(b:h[a]? =some c)(e:mk a=false)(f:afv mk c.bV):ZO h (VA mk a):=by
 let⟨t,o,p⟩:=k;have j:=bC b;have n:=PG e j;refine⟨λx=>if x=a then PE mk h.length+1 else t x,λv r=>?_,λi d hd q w m l=>?_⟩
 .grind [Cc]
 .by_cases g:i=a
  .subst g;rw[b]at hd;simp at hd;subst hd;have u:=f w m l;have s:ix w≠i:=cC;grind [GY]
  grind [Cc,ix,GY]
end
@[grind cases] structure km (m:D) (cJ hp fr:E) (s:St):Prop where
 cJ:bg m cJ s.cJ
 aR:jI m hp s.aR
 bo:pe m fr s.bo
def km.ext{m d:D}{cJ c b:E}{s:St}(h:km m cJ c b s)(a:J m d):km d cJ c b s:=⟨h.cJ.ext a,jI.ext a h.aR,pe.ext a h.bo⟩
def adn(f:bS):Prop:=(∀w∈f.aU,Ww w)/\(∀w∈f.bF,Ww w)/\(∀w∈f.cL,Ww w)
@[grind cases] structure YS (s:St):Prop where
 dv:Ww s.dv
 aR:afC s.aR
 bo:∀f∈s.bo,adn f
 lh:s.aR.length<=10000000
 lf:s.bo.length<=10000000
 lr:∀f∈s.bo,f.aU.length<=10000000/\f.bF.length<=10000000/\f.cL.length<=10000000
def stV(s:St)(cJ b a:E):Value:=.agg #[vi s.dx,vi s.kY,vi s.dv,vi s.df,cJ.v,b.v,a.v]
section
variable{m:D}{d p cJ b a:E}{c:cO}{s:St}
end
section
variable{m:D}{d p cJ b a:E}{c:cO}{s:St}
@[grind cases] structure ado (h:ah) (fs:aj):Prop where
 aT:∀f∈fs,f.bF.length=f.aU.length
 aU:∀f∈fs,Wy h f
def ado.bF{h:ah}{a:aj}(H:ado h a){f:bS}(b:f∈a):∀o∈f.bF,0<=o/\o<=999999:=λo d=>by
 let⟨k,c⟩:=db.1 d;let⟨w,e⟩:=dY f.aU k (Yx (bC c) (H.aT f b));grind [ado.aU,Wy.eR]
end
section
variable{b:ah}{d:dz}{a:Nat}{W:ad}{e:Nat->Int}
@[grind cases] structure Uz (h:ah) (c:dz):Prop where
 lo: -1<=c.bX
 jH:0<=c.jH/\c.jH<=99
 fl:c.bV.length<=3
 PK:c.bX<1->c.jH=0
 kV:c.bX=0->c.bV=[]
 dR:∀w∈c.bV,zS h w/\(c.bX<0->w=0)
def Uz.ok(a:Uz b d)(e:d.bX<=999999):tL b d:=
 ⟨a.fl,a.lo,e,λhd=>⟨a.PK hd,λw c=>by
  by_cases f:d.bX<0
  .exact(a.dR w c).2 f
  .rw[a.kV V]at c;simp at c,a.kV⟩,λ_=>⟨λw c=>(a.dR w c).1,a.jH⟩⟩
def tL.v(a:tL b d):Uz b d:=by
 refine⟨a.lo,?_,a.fl,λhd=>(a.PK hd).1,λe=>(a.PK V).2.2 e,λw c=>⟨?_,λf=>(a.PK V).2.1 w c⟩⟩
 .grind [tL.yZ,tL.PK]
 .by_cases g:0<d.bX
  .grind [tL.yZ]
  .have:=(a.PK V).2.1 w c;exact bz (by subst this;exact⟨cH,cH⟩)
def Uz.cases(c:Uz b d){w:Int}(e:w∈d.bV):iR b w\/w<1000:=by
 rcases(c.dR w e).1 with a|a
 .have:=a.2;exact bH V
 .exact bz a
def QC(mk:Nat->Bool):Nat->ah->Nat->Int
 |_,[],_=>0
 |i,d::b,a=>(if mk i=true then 0 else kG d.bV a)+QC mk (i+1) b a
def Vv(mk:Nat->Bool):∀(i:Nat)(b:ah)(a:Nat),0<=QC mk i b a
 |_,[],_=>dN 0
 |i,d::b,a=>by have:=Vv mk (i+1) b a;have:=nj d.bV a;simp only[QC];split<;>omega
def Vu{mk:Nat->Bool}:∀{e:Nat}{b:ah}{f:Nat}{d:dz},b[f]? =some d->mk (e+f)=false->∀a,kG d.bV a<=QC mk e b a
 |_,[],_,_,b,_,_=>by simp at b
 |e,j::b,0,d,g,l,a=>by
  simp at g;subst g;have:=Vv mk (e+1) b a;grind [QC]
 |e,j::b,f+1,d,g,l,a=>by
  have:=Vu (mk:=mk) (e:=e+1) (b:=b) (f:=f) (d:=d) cC cC a;have:=nj j.bV a;grind [QC]
def adv(b:ah)(mk:Nat->Bool):Prop:=
 ∃t:ag,(∀j,mk j=true->t j<=PE mk b.length)/\∀(i:Nat)(d:dz),b[i]? =some d->∀w∈d.bV,1000<=w->mk (ix w)=true->mk i=true/\t i<t (ix w)
def adv.eE{mk:Nat->Bool}(v:adv b mk)(u:a<b.length)(k:mk a=false)(B:QC mk 0 b a=0):adv b (VA mk a):=by
 let⟨t,n,s⟩:=v;have r:=PG k u;have y:∀(c:Nat)(d:dz),b[c]? =some d->(1000+(a:Int))∈d.bV->mk c=true:=λc d f g=>by
  cases e:mk c
  .have g1:=Vu (mk:=mk) (e:=0) f (by rw[fD];exact e) a;have g2:=zk g;omega
  .rfl
 refine⟨λx=>if x=a then PE mk b.length+1 else t x,λz o=>?_,λc d f w g q p=>?_⟩
 .simp only[r];split
  .omega
  .rename_i h;rw[Cc h]at o;have:=n z o;omega
 .by_cases h:ix w=a
  .have e:=y c d f (by rw[<-h,nK q];exact g);have l:c≠a:=λj=>by rw[j,k]at e;cases e
   simp only[a8 h,aV l];exact⟨GY e,oh (n c e)⟩
  .rw[Cc h]at p;let⟨m,A⟩:=s c d f w g q p;have l:c≠a:=λj=>by rw[j,k]at m;cases m
   simp only[aV h,aV l];exact⟨GY m,A⟩
@[grind cases] structure Ei (h:ah) (mk:Nat->Bool) (W:ad) (lf:Nat->Int):Prop where
 Yv:W.Nodup
 un:∀a∈W,a<h.length/\mk a=false
 mQ:∀a,a<h.length->(lf a=0<->(mk a=true\/a∈W))
def Qo:∀(n:Nat)(W:ad),W.Nodup->(∀a∈W,a<n)->W.length<=n
 |0,[],_,_=>bY
 |0,a::_,_,b=>absurd (b a bO) (Om _)
 |n+1,W,hd,b=>by
  by_cases d:n∈W
  .have e:=Qo n (W.erase n) (hd.erase n) λa c=>by
    have:=hd.mem_erase_iff.1 c;have:=b a this.2;omega
   grind [List.length_erase_of_mem]
  .have:=Qo n W hd λa c=>by
    have:=b a c;have:a≠n:=λe=>d (e▸c);omega
   omega
def Ei.aT{mk:Nat->Bool}(K:Ei b mk W e):W.length<=b.length:=Qo _ _ K.Yv λa c=>(K.un a c).1
def Ei.pop{mk:Nat->Bool}(K:Ei b mk (W++[a]) e):Ei b (VA mk a) W e:=by
 constructor<;>grind [List.nodup_append,Ei.Yv,Ei.un,List.mem_append_left,Cc,Ei.mQ,SR]
theorem Ei.kD{mk:Nat->Bool}{c:Nat->Int}(K:Ei b mk W e)(g:a<b.length)(h:∀x,c x=if x=a then e x -1 else e x)(j:0<e a):
 (c a=0->Ei b mk (W++[a]) c)/\(c a≠0->Ei b mk W c):=by
 have i:mk a≠true/\a∉W:=by
  grind [Ei.mQ]
 refine⟨λf=>⟨?_,λx d=>?_,λx d=>?_⟩,λf=>⟨K.Yv,K.un,λx d=>?_⟩⟩
 .grind [List.nodup_append,Ei.Yv]
 .grind [Ei.un]
 .grind [Ei.mQ]
 .grind [Ei.mQ]
end

section
variable{a b:Nat}{m d:D}
@[grind cases] structure aa9 (im:cO) (f:bS):Prop where
 fN:0<=f.fN/\f.fN<im.cU.length
 pc:0<=f.pc/\f.pc<(dE im f.fN).cD.length
 lr:(f.aU.length:Int)=(dE im f.fN).aU
 lo:(f.bF.length:Int)=(dE im f.fN).aU
 lh:(f.cL.length:Int)=(dE im f.fN).aU
 eR:∀(k:Nat)(w o:Int),f.aU[k]? =some w->f.bF[k]? =some o->(mV w\/1000<=w)/\(0<=o/\o<=999999)
def aa9.bF{c:cO}{f:bS}(h:aa9 c f):∀o∈f.bF,0<=o/\o<=999999:=λo b=>by
 let⟨k,a⟩:=db.1 b;have:=bC a;have d:=h.lr;have e:=h.lo;let⟨w,g⟩:=dY f.aU k;grind [aa9.eR]
@[grind cases] structure Ru (a b:Nat) (m m':D):Prop where
 aQ:m.size<=m'.size
 bB:∀c,c<m.size->c≠a->c≠b->m'[c]? =m[c]?
def Ru.cX(a b:Nat)(m:D):Ru a b m m:=by constructor<;>grind
def Ru.ext{c:D}(h:Ru a b m c)(e:J c d):Ru a b m d:=by constructor<;>grind [Ru.aQ,J.aQ,J.bB,Ru.bB]
def Ru.N{c:D}(h:Ru a b m c)(e:Ru a b c d):Ru a b m d:=by constructor<;>grind [Ru.aQ,Ru.bB]
def Ru.aW{d:D}(h:Ru a b m d){c:Nat}(e:c=a\/c=b)(o:Nat)(l:ae):Ru a b m (aW d c o l):=
 by constructor<;>grind [bE,Ru.aQ,cw,Ru.bB]
theorem Ru.YH{c d:D}(h:Ru a b m d)(g:J c m)(e:c.size<=a)(f:c.size<=b):J c d:=
 by constructor<;>grind [J.aQ,Ru.aQ,Ru.bB,J.lt,J.bB]
@[grind cases] structure afJ (h:ah) (f:bS):Prop where
 bF:∀(k:Nat)(w o:Int),f.aU[k]? =some w->f.bF[k]? =some o->0<o->iR h w
 cL:∀w∈f.cL,w≠0->1000<=w/\∃c,h[ix w]? =some c/\c.bX<0
@[grind cases] structure af7 (m:D) (ob hb n:Nat) (fo fh:Nat->Int):Prop where
 bF:dJ m ob bG ((tab n fo).map Ce.i)
 cL:dJ m hb bG ((tab n fh).map Ce.i)
 ne:ob≠hb
end
section
def afB(a:aj)(k:Nat)(f:bS):Prop:=(TW a k=none->f.bA=0)/\∀p,TW a k=some p->0<=f.bA/\f.bA<p.bF.length/\br p.bF f.bA=0
@[grind cases] structure adq (im:cO) (s:St) (k:Nat) (f:bS):Prop where
 v:aa9 im f
 bA:afB s.bo k f
 tal:afJ s.aR f
def adq.ok{b:cO}{s:St}{k:Nat}{f:bS}(h:adq b s k f):ab1 b s.aR (TW s.bo k) f:=
 ⟨h.v.fN,h.v.pc,h.v.lr,h.v.lo,h.v.lh,⟨λj w o c a=>⟨(h.v.eR j w o c a).1,(h.v.eR j w o c a).2,h.tal.bF j w o c a⟩⟩,h.bA.1,h.bA.2⟩
def ab3.w{b:cO}{s:St}(h:ab3 b s){k:Nat}{f:bS}(e:s.bo[k]? =some f):adq b s k f:=by
 have F:=h.bo k f e;refine⟨⟨F.fN,F.pc,F.lr,F.lo,F.lh,λj w o c d=>⟨(F.aU.eR j w o c d).1,(F.aU.eR j w o c d).2.1⟩⟩,⟨F.first,F.zV⟩,λj w o c d=>(F.aU.eR j w o c d).2.2,λw c q=>?_⟩;let⟨i,n⟩:=(h.cL.dR f (ba e) w c).resolve_left q;let⟨g,m⟩:=jq n;refine⟨i,g,m,Int.not_le.1 λp=>?_⟩;have r:=h.cL.uC _ g m p;have t:=aak (ba e) (b:=ix w);have u:=zk (l:=f.cL) (f:=ix w) (by rw[nK i];exact c);omega
variable{m:D}{d p cJ e c:E}{b:cO}{s:St}
end
end Go.Proofs.YtbbbdejieenniaaGreat
section
namespace Go.Vc
def jw.nI{m:D}{b o:Nat}{l r:ae}(h:jw m b o l)(k:jw m b (o+l.length) r):jw m b o (l++r):=λi d a=>by
 rcases eH i l.length with c|c
 .rw[dZ c]at a;exact h i d a
 .rw[dQ c]at a;have:=k _ d a;grind [List.length]
def fY.Xr{α:Type}{m:D}{b:Nat}{R:ae->α->Prop}{s:E}{l:List α}(h:fY m b R s l)(j:∀c x,R c x->c.length=b):∃a,fL b R a l/\jw m s.bt s.off a.flatten:=by
 have:∀k,k<=l.length->∃a,fL b R a (l.take k)/\jw m s.bt s.off a.flatten:=by
  intro k;induction k with
  |zero=>intro _;exact⟨[],by simpa using fL.gF b R,λi e d=>by simp at d⟩
  |succ k o=>
   intro p;let⟨a,d,e⟩:=o V;let⟨x,g⟩:=dY l k;let⟨c,f,i⟩:=h.kv k x g;refine⟨a++[c],by rw[bW g];exact d.Ch (j c x f) f,?_⟩;rw[vn];refine e.nI ?_;have n:a.flatten.length=k*b:=by rw[eD d.aQ,d.aT,qZ,mK V]
   rw[n];simpa using i
 let⟨a,d,e⟩:=this l.length bY;grind [List.take_length]
end Go.Vc
namespace Go.Proofs.YtbbbdejieenniaaGreat
open Go.Vc
def js.aaF{m c:D}{s:E}{l:ae}{f j:Nat}(e:js m c f j s l)(i:J m c){a:ag}(g:∀b,m.size<=b->a b=0)(k:Nat):∃d,eu (λ_=>False) a m d c/\iV d c f j k s l/\∀b,d b=a b\/d b=k:=by
 rcases e.br with h|⟨b,n,tail,h,h2,h3,h4,h5⟩
 .exact⟨a,eu.fZ i g,iV.jT e λo=>absurd h o,λb=>bz O⟩
 .refine⟨pE a b k,eu.pE i g h2 h3.lt k,iV.jT e λ_=>by rw[h];exact iE,λn=>?_⟩;grind [iE,fO]
@[grind cases] structure af5 (N:Nat) (ro:ag) (m:D) (r:E) (h:ah) (css0 css:List ae) (k:Nat):Prop where
 rm:iV ro m CI 3 3 r css.flatten
 aT:css.length=h.length
 aQ:∀cs∈css,cs.length=3
 cB:∀(j:Nat)(cs:ae)(c:dz),j<k->css[j]? =some cs->h[j]? =some c->NA N ro m cs c
 mN:∀j,k<=j->css[j]? =css0[j]?
 sep:∀(i j:Nat)(ci cj:ae)(a b:E),i<k->j<k->css[i]? =some ci->css[j]? =some cj->ci[2]? =some (.s a)->cj[2]? =some (.s b)->i≠j->a.len≠0->b.len≠0->a.bt≠b.bt
end Go.Proofs.YtbbbdejieenniaaGreat
end
namespace Go.Proofs.YtbbbdejieenniaaGreat
open Go.Vc
section
variable{a e:ag}{m g d:D}{p:Nat->Prop}
@[grind cases] structure Bs (m0:D) (ro:ag) (m:D):Prop where
 de:J m0 m
 mT:∀b,b<m0.size->ro b=0
 bI:∀b,m.size<=b->ro b=0
@[grind cases] structure uO (m0:D) (ro:ag) (m:D) (cJ hp fr:E) (s:St):Prop where
 bs:Bs m0 ro m
 cJ:iV ro m bG 1 2 cJ (s.cJ.map Ce.i)
 aR:gC m0.size ro m hp s.aR
 bo:sL ro m fr s.bo
@[grind cases] structure Ma (s:St):Prop where
 cJ:s.cJ.length<=900000000
 fl:∀c∈s.aR,c.bV.length<=3
 aR:s.aR.length<=900000000
 eG:s.bo.length<=1000
 bo:∀f∈s.bo,f.aU.length<=1000000/\f.bF.length<=1000000/\f.cL.length<=1000000
abbrev Ch2:=eu (λk=>2<=k)
def Ch2.Xh(h:Ch2 a m e g)(c:∀b,b<m.size->a b<=1):eu (λ_=>False) a m e g:=by constructor<;>grind [eu.aQ,eu.jZ,eu.bI,eu.fH]
theorem eu.YH(h:eu (λ_=>False) a m e g):J m g:=⟨h.aQ,λb c=>h.fH b c id⟩
def Bs.gX(B:Bs d a m)(h:eu (λ_=>False) a m e g):Bs d e g:=by constructor<;>grind [Bs.de,J.N,eu.YH,eu.jZ,J.lt,Bs.mT,eu.bI]
theorem eu.Du(h:eu p a m e g){l:ad}(d:∀b∈l,b<m.size/\¬p (a b)):gT l m g:=λb c=>h.fH b (d b c).1 (d b c).2
@[grind cases] structure Cpy (m0:D) (ro:ag) (m:D) (ro':ag) (M:D) (q r:E) (s:St):Prop where
 gX:Ch2 ro m ro' M
 cJ:iV ro' M bG 1 2 q (s.cJ.map Ce.i)
 aR:gC m0.size ro' M r s.aR
theorem Cpy.kD{e f:ag}{b c:D}{q r:E}{s:St}(h:Cpy d a m e b q r s)(g:eu p e b f c)(i:∀k,p k->4<=k):Cpy d a m f c q r s:=
 by constructor<;>grind [Cpy.gX,eu.N,eu.aP,Cpy.cJ,iV.gX,Cpy.aR,gC.gX]
@[grind cases] structure af4 (ro:ag) (m:D) (r:E) (fs:aj) (css0 css:List ae) (k:Nat):Prop where
 rm:iV ro m gS 6 4 r css.flatten
 aT:css.length=fs.length
 aQ:∀cs∈css,cs.length=6
 cB:∀(j:Nat)(cs:ae)(f:bS),j<k->css[j]? =some cs->fs[j]? =some f->ZA ro m j cs f
 mN:∀j,k<=j->css[j]? =css0[j]?
end
section
variable{g:ag}{e:D}
abbrev z7:ae:=[.i 0,.i 0,.i 0,.i 0,.s .nil,.s .nil,.s .nil]
@[grind cases] structure UF (m0:D) (ro:ag) (m m2:D) (s:St) (ro':ag) (M:D) (q r:Option E) (ob:Option Nat):Prop where
 gX:Ch2 ro m ro' M
 ext:J m2 M
 no3:r=none->∀b,ro' b≠3
 bU:∀b,m.size<=b->b<m2.size->ro' b=8
 cJ:∀x,q=some x->iV ro' M bG 1 2 x (s.cJ.map Ce.i)
 aR:∀x,r=some x->gC m0.size ro' M x s.aR
 ob:∀x,ob=some x->m2.size<=x/\ro' x=8/\dJ M x Aj z7
variable{h:D}{i:ag}{m f:D}{s:St}{d:ag}{M:D}{q r:Option E}{j:Option Nat}
def UF.oE(k:UF h i m f s d M q r j)(n:eu (λa=>a=3) d M g e)(p:J M e)(C:∀b,m.size<=b->b<f.size->g b=8){u o:Option E}{t:Option Nat}(z:r=none\/eu (λ_=>False) d M g e)(B:o=none->∀b,g b≠3)
 (w:∀x,u=some x->q=some x\/iV g e bG 1 2 x (s.cJ.map Ce.i))(y:∀x,o=some x->r=some x\/gC h.size g e x s.aR)(A:∀x,t=some x->j=some x\/(f.size<=x/\g x=8/\dJ e x Aj z7)):UF h i m f s g e u o t:=
 ⟨k.gX.N (n.aP λa c=>V),k.ext.N p,B,C,λx c=>(w x c).elim (λa=>(k.cJ x a).gX n cH) id,
  λx c=>(y x c).elim (λa=>z.elim (λl=>by rw[l]at a;cases a) λl=>(k.aR x a).gX l id id) id,
  λx c=>(A x c).elim (λa=>by
   let⟨v,b,l⟩:=k.ob x a;exact⟨v,by rw[n.jZ _ l.lt];exact b,l.ext p⟩) id⟩
def UF.aap(a:UF h i m f s d M q r j){p:Nat->Prop}(c:eu p d M g e):∀b,m.size<=b->b<f.size->g b=8:=by grind [eu.jZ,UF.ext,J.lt,UF.bU]
def UF.c(b:UF h i m f s d M none r j){x:E}(n:js M e bG 1 x (s.cJ.map Ce.i))(k:J M e):∃g,UF h i m f s g e (some x) r j:=by
 let⟨g,C,A,l⟩:=js.aaF n k b.gX.bI 2;exact⟨g,b.oE (C.aP λ_=>False.elim) k (b.aap C) (bH C) (λa c=>Yx (l c) (b.no3 a c)) (λy a=>bH cC) (λy a=>bz a) λy a=>bz a⟩
def UF.a(b:UF h i m f s d M q r j)(c:J M e):UF h i m f s d e q r j:=
 have C:eu (λ_=>False) d M d e:=eu.fZ c b.gX.bI
 b.oE (C.aP λ_=>False.elim) c (b.aap C) (bH C) b.no3 (λy a=>bz a) (λy a=>bz a) λy a=>bz a
def UF.b(b:UF h i m f s d M q r none){e:D}(a:e=M.push (.cells (dh z7) Aj)):∃g,UF h i m f s g e q r (some M.size):=by
 have c:J M e:=by grind [J.push]
 have C:eu (λ_=>False) d M (pE d M.size 8) e:=eu.pE c b.gX.bI bY cC 8;refine⟨_,b.oE (C.aP λ_=>False.elim) c (b.aap C) (bH C) (λl j=>?_) (λy a=>bz a) (λy a=>bz a) λy k=>bH ?_⟩
 .grind [Array.size,iE,fO]
 .grind [UF.ext,J.aQ,iE,dJ.push]
end
section
variable{n e:Nat}{l:ae}{M f:D}
def XJ:St:=⟨0,0,0,0,[],[],[]⟩
structure Run where
 s:St
 ok:Bool
def eJ.pJ{g:cO}{s:St}(h:eJ g s)(a:Sm n s)(b:n<=900000000):Ma s:=by
 constructor<;>grind [Sm.cJ,eJ.aR,jc.iF,tL.fl,Sm.aR,eJ.eG,eJ.dv,eJ.df,eJ.bo,gB.AJ,eJ.iu,gB.lr,gB.lo,gB.lh,nH.aU]
def YS.sm{s:St}(h:YS s)(a:s.aR.length<=n)(b:s.cJ.length<=n):Sm n s:=⟨a,b,λg c w d=>((h.bo g c).1 w d).2⟩
section
variable{k:D}{o:ag}{m:D}{cJ b a:E}{s:St}
def uO.QA(h:uO k o m cJ b a s)(c:Ma s):km m cJ b a s:=
 ⟨h.cJ.nZ (oh c.cJ),h.aR.kL (oh c.aR),h.bo.QA (oh c.eG) c.bo⟩
def uO.eO(h:uO k o m cJ b a s){d:D}(i:J m d){c:Nat}{f:ae}(g:m.size<=c)(kb:dJ d c e f):uH k (pE o c 1) d c e f cJ b a s.cJ s.aR s.bo:=by
 have C:eu (λ_=>False) o m (pE o c 1) d:=eu.pE i h.bs.bI g kb.lt 1;have B:=h.bs.gX C;exact⟨B.de,B.mT,B.bI,kb,iE,h.cJ.gX C id,h.aR.gX C id id,h.bo.gX C λ_ _=>id⟩
def uO.gF{k m:D}(a:J k m):uO k (λ_=>0) m .nil .nil .nil XJ:=
 ⟨⟨a,λ_ _=>O,λ_ _=>O⟩,⟨by simp[XJ],bO,bz O⟩,⟨[],⟨bO,bO,bz O⟩,by simpa[XJ]using fL.gF _ _,Sep.gF⟩,sL.Xh⟩
def uH.QA{f e:Nat}{d:ae}(L:uH k o m f e d cJ b a s.cJ s.aR s.bo)(c:Ma s):km m cJ b a s:=
 uO.QA (o:=o) ⟨⟨L.de,L.mT,L.bI⟩,L.cJ,L.aR,L.bo⟩ c
end
theorem iV.up{a:ag}{m c mx:D}{d k:Nat}{s:E}(h:iV a m e d k s l)(i:k≠0)(f:∀b,b<mx.size->a b=0)(g:∀b,mx.size<=b->b<m.size->c[b]? =m[b]?):iV a c e d k s l:=
 by grind [iV.fH,Nat.le_of_not_lt,iV.bt]
theorem uO.Xp{mx m:D}{r:ag}{cJ b a:E}{s:St}(i:uO mx r M cJ b a s)(c:m.size<=mx.size)(z:M.size<=f.size)(g:∀d,mx.size<=d->d<M.size->f[d]? =M[d]?)(x:J m f):uO m r f cJ b a s:=by
 have h:=i.bs.mT;refine⟨⟨x,λd j=>h d V,λd j=>i.bs.bI d V⟩,i.cJ.up cH h g,?_,?_⟩
 .let⟨k,t,a2,a3⟩:=i.aR;refine⟨k,t.up cH h g,a2.aP λn y⟨l,v,o,p⟩=>⟨l,v,lx o λj=>g _ (p j).2.1 (lS o j),λj=>?_⟩,a3⟩;let⟨g1,g2,u,tail,w,q⟩:=p j;exact⟨g1,V,u,tail,w,q.congr (g _ g2 q.lt)⟩
 .let⟨k,j⟩:=i.bo;exact⟨k,j.rm.up cH h g,j.aT,j.aQ,λt n l o p=>by
   let⟨v,u,q,e,b1,b2,b3⟩:=j.eR t n l o p;exact⟨v,u,q,e,b1.up V h g,b2.up V h g,b3.up V h g⟩⟩
def uO.bU{mx m:D}{d:ag}{cJ b a:E}{s:St}(h:uO mx d M cJ b a s)(c:J m mx){nb:Nat}(e:m.size<=nb)(g:nb<mx.size){o:Nat}:uO m d (aW M nb o l) cJ b a s:=
 h.Xp c.aQ (D0 (bE _ _ _ _).symm) (λf i _=>cw _ _ _ _ V) ((c.N h.bs.de).aW e _ _)
def uO.ext{c:D}{d:ag}{cJ b a:E}{s:St}(h:uO c d M cJ b a s)(e:J M f):uO c d f cJ b a s:=by grind [uO.Xp,J.aQ,J.bB,uO.bs,Bs.de,J.N]
def Bs.Hk(m:D):Bs m (λ_=>0) m:=by constructor<;>grind [J.cX]
variable{m:D}{d p cJ b a:E}{g:cO}{s:St}
variable(h:iW m d p g)(c:km m cJ b a s)(i:YS s)(j:s.cJ.length<=10000000)
include h c i j
omit h c in
end
section
def uO.old{mx M a:D}{f:ag}{cJ d c:E}{s:St}(h:uO mx f M cJ d c s)(e:M.size<=a.size)(i:∀b,mx.size<=b->b<M.size->a[b]? =M[b]?):uO (a.extract 0 mx.size) f a cJ d c s:=
 have g:=fC h.bs.de.aQ e
 h.Xp cC e i (J.Rv g)
def uH.old{d M b:D}{k:ag}{e g:Nat}{f:ae}{cJ j h:E}{a:St}(L:uH d k M e g f cJ j h a.cJ a.aR a.bo)(l:d.size<=e)(m:M.size<=b.size)(i:∀c,d.size<=c->c<M.size->b[c]? =M[c]?):uH (b.extract 0 d.size) k b e g f cJ j h a.cJ a.aR a.bo:=
 have N:=uO.old (s:=a) ⟨⟨L.de,L.mT,L.bI⟩,L.cJ,L.aR,L.bo⟩ m i
 ⟨N.bs.de,N.bs.mT,N.bs.bI,L.bU.congr (i _ l L.bU.lt),L.Wr,N.cJ,N.aR,N.bo⟩
variable{S:ad}{m:D}{c P:Nat}{a d p:E}{b:cO}
end
section
variable{q:E}
@[grind cases] structure Mv (n:Nat) (ro:ag) (M:D) (ro':ag) (M':D):Prop where
 aQ:M.size<=M'.size
 fH:∀b,b<M.size->n<=b->M'[b]? =M[b]?
 jZ:∀b,b<M.size->ro' b=ro b
 bI:∀b,M'.size<=b->ro' b=0
 mT:∀b,b<n->ro b=0
section
variable{n:Nat}{a e:ag}{M d:D}
theorem iV.mv{b c k:Nat}{s:E}{l:ae}(h:iV a M b c k s l)(v:Mv n a M e d)(f:k≠0):iV e d b c k s l:=
 by grind [iV.fH,Mv.fH,iV.bt,Nat.le_of_not_lt,Mv.mT,Mv.jZ]
theorem gC.mv{h:E}{i:ah}(q:gC n a M h i)(v:Mv n a M e d):gC n e d h i:=by
 let⟨l,j,a2,a3⟩:=q;refine⟨l,j.mv v cH,a2.aP λs r⟨o,m,f,g⟩=>⟨o,m,lx f λb=>v.fH _ (lS f b) (g b).2.1,λb=>?_⟩,a3⟩;let⟨g1,g2,k,tail,p,c⟩:=g b;exact⟨(v.jZ _ c.lt).trans g1,g2,k,tail,p,c.congr (v.fH _ c.lt g2)⟩
theorem ZA.mv{i:Nat}{b:ae}{f:bS}(v:Mv n a M e d):ZA a M i b f->ZA e d i b f:=λ⟨r,o,k,j,c,g,h⟩=>⟨r,o,k,j,c.mv v V,g.mv v V,h.mv v V⟩
def rU.mv{c:E}{g:aj}{f:bS}{r o h:E}{b:List ae}(T:rU a M c g f r o h b)(v:Mv n a M e d):rU e d c g f r o h b:=
 by constructor<;>grind [rU.rm,iV.mv,rU.aT,rU.aQ,rU.eR,ZA.mv,rU.aU,rU.bF,rU.cL]
theorem sL.mv{c:E}{b:aj}(l:sL a M c b)(v:Mv n a M e d):sL e d c b:=by
 let⟨g,h⟩:=l;exact⟨g,h.rm.mv v cH,h.aT,h.aQ,λm f i j k=>(h.eR m f i j k).mv v⟩
def rU.cE{c:E}{b:aj}{f g:bS}{r o n m l j:E}{h:List ae}(T:rU a M c b f r o n h)(t:∀d,M.size<=d->a d=0){i:Nat}(v:i<6){d:Ce}
 (u:jm [.i f.fN,.i f.pc,.i f.bA,.s r,.s o,.s n] i [d]=[.i g.fN,.i g.pc,.i g.bA,.s m,.s l,.s j])(s:iV a M bG 1 (10+3*b.length) m (g.aU.map Ce.i))(p:iV a M bG 1 (11+3*b.length) l (g.bF.map Ce.i))(q:iV a M bG 1 (12+3*b.length) j (g.cL.map Ce.i)):
 gK M c.bt (c.off+b.length*6+i) 1/\rU a (aW M c.bt (c.off+b.length*6+i) [d]) c b g m l j h/\eu (λk=>4<=k/\k≠9) a M a (aW M c.bt (c.off+b.length*6+i) [d]):=by
 have e:eu (λk=>k=4) a M a (aW M c.bt (c.off+b.length*6+i) [d]):=eu.aW t T.bt.1 _ _
 have x:h.flatten.length=b.length*6:=by rw[eD T.aQ,T.aT]
 refine⟨by rw[kK];exact T.rm.wr cC,⟨?_,T.aT,T.aQ,T.CU e λk p q=>V,s.gX e V,p.gX e V,q.gX e V⟩,e.aP λk w=>V⟩
 have:=T.rm.eE (o:=b.length*6+i) (new:=[d]) cC
 grind [oR,Nat.add_sub_cancel_left,Nat.add_assoc]
end
@[grind cases] structure SO (n:Nat) (ro:ag) (M:D) (cJ hp fr:E) (s:St):Prop where
 le:n<=M.size
 mT:∀b,b<n->ro b=0
 bI:∀b,M.size<=b->ro b=0
 cJ:iV ro M bG 1 2 cJ (s.cJ.map Ce.i)
 aR:gC n ro M hp s.aR
 bo:sL ro M fr s.bo
@[grind cases] structure FS (s:St):Prop where
 Mi:YS s
 pJ:Ma s
 lo:s.cJ.length<=1000000/\s.aR.length<=1000000
variable{n:Nat}{a e:ag}{M d:D}{cJ h c:E}{s:St}
def SO.of(N:uO (M.extract 0 n) a M cJ h c s)(b:n<=M.size):SO n a M cJ h c s:=by constructor<;>grind [uO.bs,Bs.mT,vI,Bs.bI,uO.cJ,uO.aR,uO.bo]
theorem SO.mv(w:SO n a M cJ h c s)(v:Mv n a M e d):SO n e d cJ h c s:=by constructor<;>grind [SO.le,Mv.aQ,Mv.jZ,SO.mT,Mv.bI,SO.cJ,iV.mv,SO.aR,gC.mv,SO.bo,sL.mv]
theorem SO.mvF(w:SO n a M cJ h c s){b:Nat}(f:Fz [b] M d)(e:b<n):Mv n a M a d:=by constructor<;>grind [Fz.aQ,Fz.bB,SO.bI,SO.mT]
def SO.gX{p:Nat->Prop}(w:SO n a M cJ h c s)(C:eu p a M e d):n<=d.size/\(∀b,b<n->e b=0)/\∀b,d.size<=b->e b=0:=by grind [SO.le,eu.aQ,eu.jZ,SO.mT,eu.bI]
theorem SO.bU(w:SO n a M cJ h c s){b:Nat}(f:a b=1)(o:Nat)(l:ae):SO n a (aW M b o l) cJ h c s:=by
 have C:eu (λk=>k=1) a M a (aW M b o l):=eu.aW w.bI f _ _;let⟨d,b,e⟩:=w.gX C;exact⟨d,b,e,w.cJ.gX C cH,w.aR.gX C cH cH,w.bo.gX C λk g=>V⟩
def SO.QN(w:SO n a M cJ h c s)(C:eu (λk=>k=2) a M e d){l:ab}(A:iV e d bG 1 2 q (l.map Ce.i)):SO n e d q h c {s with cJ:=l}:=
 let⟨b,f,g⟩:=w.gX C
 ⟨b,f,g,A,w.aR.gX C cH cH,w.bo.gX C λk i=>V⟩
def SO.jN(w:SO n a M cJ h c s)(C:eu (λk=>k=3) a M e d){b:ah}(A:gC n e d q b):SO n e d cJ q c {s with aR:=b}:=
 let⟨f,g,i⟩:=w.gX C
 ⟨f,g,i,w.cJ.gX C cH,A,w.bo.gX C λk j=>V⟩
def SO.mJ(w:SO n a M cJ h c s)(C:eu (λk=>4<=k/\k≠9) a M e d){l:aj}(A:sL e d q l):SO n e d cJ h q {s with bo:=l}:=
 let⟨b,f,g⟩:=w.gX C
 ⟨b,f,g,w.cJ.gX C cH,w.aR.gX C cH cH,A⟩
def SO.QA(w:SO n a M cJ h c s)(b:Ma s):km M cJ h c s:=⟨w.cJ.nZ (oh b.cJ),w.aR.kL (oh b.aR),w.bo.QA (oh b.eG) b.bo⟩
end
section
variable{K:Int->D->Prop}{p:Nat->Prop}
def SP(n a:Nat)(i:E)(c:D)(P:Nat)(v:Value)(e:D):Prop:=∃cJ j h s,v=stV s cJ j h/\(∀b,e.size<=b.size->(∀d,d<e.size->n<=d->b[d]? =e[d]?)->km b cJ j h s)/\YS s/\(s.cJ.length<=1000000/\s.aR.length<=1000000)/\Rs a i c P e
@[grind cases] structure SQ (n rb:Nat) (bs:E) (ma:D) (k1 k2 Q:Nat) (ro:ag) (M:D) (cJ hp fr:E) (s:St):Prop where
 w:SO n ro M cJ hp fr s
 r:Rs rb bs ma Q M
 k1:ro k1=1/\k1<M.size/\n<=k1
 k2:ro k2=1/\k2<M.size/\n<=k2
 fs:FS s
variable{n a d e Q t P m:Nat}{i cJ j h:E}{c M b:D}{l o:ag}{s q:St}{L:ad}
def SQ.fz(g:SQ n a i c d e Q l M cJ j h s)(k:a<n)(f:Fz [a] M b)(r:Rs a i c t b):SQ n a i c d e t l b cJ j h s:=
 by constructor<;>grind [SQ.w,SO.mv,SO.mvF,SQ.k1,Fz.aQ,SQ.k2,SQ.fs]
def SQ.ext(f:SQ n a i c d e Q l M cJ j h s)(g:a<n)(x:J M b):SQ n a i c d e Q l b cJ j h s:=f.fz g (x.fz _) (f.r.ext x)
def SQ.j7(k:SQ n a i c d e Q l M cJ j h s)(p:a<n)(m:∀f∈L,f=d\/f=e)(g:Fz [a] M b):gT L M b:=g.fg λf o=>by
 grind [SQ.k1,SQ.k2,List.mem_singleton]
def SQ.gk(g:SQ n a i c d e Q l M cJ j h s)(k:a<n)(f:Fz [a] M b)(o:Nat):aS b e o=aS M e o:=by grind [bD,Fz.bB,SQ.k2,List.mem_singleton]
def SQ.cB(f:SQ n a i c d e Q l M cJ j h s)(v:Rd a i m c)(C:c.size<=n)(x:Q<=P){q g o r:Int}(A:Ww o)(p:ae):SP n a i c P (.agg #[vi q,vi g,vi o,vi r,cJ.v,j.v,h.v]) (aW M d 0 p):=by
 have w:=f.w.bU f.k1.1 0 p;have u:=f.r.cE v (k:=d) (oh f.k1) 0 p;exact⟨cJ,j,h,⟨q,g,o,r,s.cJ,s.aR,s.bo⟩,O,λb z B=>have t:=(w.mv ⟨z,B,λ_ _=>O,λg y=>w.bI g (fC z y),w.mT⟩).QA f.fs.pJ;⟨t.cJ,t.aR,t.bo⟩,⟨A,f.fs.Mi.aR,f.fs.Mi.bo,f.fs.Mi.lh,f.fs.Mi.lf,f.fs.Mi.lr⟩,f.fs.lo,u.f,u.r.aP x⟩
def SQ.bU(f:SQ n a i c d e Q l M cJ j h s)(g:Rd a i m c)(k:c.size<=n)(o:Nat)(b:ae):SQ n a i c d e Q l (aW M e o b) cJ j h s:=
 by constructor<;>grind [SQ.w,SO.bU,SQ.k2,SQ.r,Rs.cE,bE,SQ.k1,SQ.fs]
def SQ.mE(p:SQ n a i c d e Q l M cJ j h s)(m:a<n)(u:Q<=10^16)(r:∀g∈L,g=d\/g=e)(g:ab){k:ae}{o:Nat}(w:k=g.map Ce.i)(v:o=g.length)(z:0<g.length/\g.length<=100)
 (y:∀t b,t∈g->SQ n a i c d e (Q+1) l b cJ j h s->Fz [a] (M.push (.cells (dh k) bG)) b->K t b):bJ dP 77 [vp a 0,E.v (.mk M.size 0 o o)] (M.push (.cells (dh k) bG)) λC b=>gT L (M.push (.cells (dh k) bG)) b/\∃t:Int,C=vi t/\K t b:=
 have x:=J.push M (.cells (dh k) bG)
 (IC p.r u g w v z).aP λ_ b⟨t,q,A,B,f⟩=>⟨(p.ext m x).j7 m r f,t,q,y t b A ((p.ext m x).fz m f B) f⟩
def SQ.lO(g:SQ n a i c d e Q l M cJ j h s)(m:a<n)(q:Q<=10^16)(p:∀f∈L,f=d\/f=e)(k:Int)
 (r:∀t b,0<=t->(t<k\/t=0)->SQ n a i c d e (Q+1) l b cJ j h s->Fz [a] M b->K t b):bJ dP 74 [vp a 0,vi k] M λw b=>gT L M b/\∃t:Int,w=vi t/\K t b:=
 (dW g.r.r q k).aP λ_ b⟨t,o,v,t1,u,f⟩=>⟨g.j7 m p f,t,o,r t b v t1 (g.fz m f (g.r.to f u)) f⟩
def SQ.gX(f:SQ n a i c d e Q l M cJ j h s)(u:Rd a i m c)(F:c.size<=n)(C:eu p l M o b)(j:∀k,p k->2<=k){x v t:E}(B:SO n o b x v t q)(z:FS q):SQ n a i c d e Q o b x v t q:=
 have D:=u.lt
 have w:∀g,g<n->b[g]? =M[g]? :=λg k=>C.fH g (cr k f.w.le) λy=>by have:=j _ y;have:=f.w.mT g k;omega
 have r:Fz [a] c b:=⟨fC f.r.f.aQ C.aQ,λg k A=>(w g V).trans (f.r.f.bB g k A)⟩
 ⟨B,⟨r,u.BP f.r.r r (w a V)⟩,⟨(C.jZ _ f.k1.2.1).trans f.k1.1,cr f.k1.2.1 C.aQ,f.k1.2.2⟩,⟨(C.jZ _ f.k2.2.1).trans f.k2.1,cr f.k2.2.1 C.aQ,f.k2.2.2⟩,z⟩
def SQ.fg(g:SQ n a i c d e Q l M cJ j h s)(m:∀f∈L,f=d\/f=e)(C:eu p l M o b)(j:∀k,p k->2<=k):gT L M b:=λf k=>by
 grind [SQ.k1,SQ.k2,eu.fH]
def SQ.jA(m:SQ n a i c d e Q l M cJ j h s)(u:eV ((h.len:Int) -1)>=0):∃b f r p q g,s.bo=b++[f]/\rU l M h b f r p q g/\eV ((h.len:Int) -1)=(b.length:Int)/\h.len=b.length+1:=by
 have F:=m.w.bo;have t:=m.fs.pJ.eG;rcases adZ s.bo with k|⟨b,f,k⟩
 .rw[k]at F;let⟨g,o⟩:=F;have:=o.rm.aT;grind [eD,adp.aQ,adp.aT,List.length_nil,dk]
 .grind [sL.jA,rU.CM,dk]
def FS.jA(h:FS s){d:aj}{i g:bS}(f:s.bo=d++[i])(k:adn g)(l:g.aU.length<=1000000/\g.bF.length<=1000000/\g.cL.length<=1000000):FS {s with bo:=d++[g]}:=by
 have b:=h.Mi;have c:=h.pJ;have j:∀x∈d,x∈s.bo:=cC;have e:=c.eG;rw[f]at e;simp at e;refine⟨⟨b.dv,b.aR,λx a=>?_,b.lh,fu,λx a=>?_⟩,⟨c.cJ,c.fl,c.aR,fu,λx a=>?_⟩,h.lo⟩<;>rcases bT.1 a with a|a
 .grind [YS.bo]
 .grind
 .exact b.lr x (j x a)
 .grind
 .grind [Ma.bo]
 .grind
def SQ.qC(k:SQ n a i c d e Q l M cJ j h s)(r:Rd a i m c)(t:c.size<=n){q:aj}{z g:bS}(y:s.bo=q++[z]){K I J:E}{w:List ae}(T:rU l b h q g K I J w)(C:eu (λo=>4<=o/\o≠9) l M l b)(F:adn g)(H:g.aU.length<=1000000/\g.bF.length<=1000000/\g.cL.length<=1000000)
 (A:∀f∈L,f=d\/f=e)(B:Q<=P){v f p x:Int}(D:Ww p)(u:ae):gT L M b/\SP n a i c P (.agg #[vi v,vi f,vi p,vi x,cJ.v,j.v,h.v]) (aW b d 0 u):=
 ⟨k.fg A C λo G=>V,(k.gX r t C (λo G=>V) (k.w.mJ C T.qC) (k.fs.jA y F H)).cB r t B D u⟩
end
section
variable{S:ad}{m:D}{b P:Nat}{a:E}
end
section
def XW(f:ag):∀n,∃B,∀i,i<n->f i<=B
 |0=>⟨0,bO⟩
 |n+1=>let⟨B,h⟩:=XW f n;⟨B+f n,λi a=>by
  rcases eH i n with e|e
  .have:=h i e;omega
  .have:i=n:=V;subst this;omega⟩
def eJ.Ir{c:cO}{s:St}(i:eJ c s)(n:s.dx=0):s.aR=[]:=by
 have q:=i.cB.1 n;let⟨m,u⟩:=i.aR.IU;let⟨B,o⟩:=XW m s.aR.length;apply fQ;intro t;have y:0<s.aR.length:=Sf.2 t;have iR:∀k,∃(f:Nat)(e:dz),s.aR[f]? =some e/\0<e.bX/\k<=m f:=λk=>by
  induction k with
  |zero=>
   let⟨e,g⟩:=dY s.aR (s.aR.length -1);refine⟨_,e,g,?_,jh _⟩;have l:=i.nW e g;rcases DY e.bX 0 with j|j
   .have:=i.eM _ ⟨e,g,j⟩;grind [gP]
   .omega
  |succ k w=>
   let⟨f,e,g,b,r⟩:=w;have:=i.aR.ex f e g b;rw[q]at this;simp only[oO]at this;let⟨d,p,j⟩:=QD (h:=s.aR) (f:=f) V;let⟨l,hd⟩:=db.1 p;have v:=u l d hd _ j V;rw[EO]at v;refine⟨l,d,hd,?_,V⟩;apply fQ;intro x;have:=((i.aR.iF d (ba hd)).PK V).2.1 _ j;omega
 obtain⟨f,e,g,_,r⟩:=iR (B+1);have:=o f (bC g);omega
def eJ.oE{c:cO}{s:St}(h:eJ c s):eJ c {s with df:=40}:=⟨h.iu,h.dx,h.cB,h.kY,h.Nw,bO,⟨h.dv.1,by have:=h.dv;have:=h.df;show s.dv<=40;omega⟩,h.eG,h.cJ,h.aR,h.nW,h.bo,h.first,h.tX,h.eM,h.uC⟩
theorem km.le{m g:D}{cJ b e:E}{s:St}(f:km m cJ b e s)(a:Le m g):km g cJ b e s:=⟨f.cJ.le a,fY.le f.aR a λl k⟨n,c,h⟩=>⟨n,c,h.le a⟩,fY.le f.bo a λl k⟨r,o,h,c,i,j,d⟩=>⟨r,o,h,c,i.le a,j.le a,d.le a⟩⟩
def LwR(m:D)(v:Value)(a:D):Prop:=v=vb true/\J m a
variable{m:D}{d p cJ b e:E}{c:cO}{s:St}
end
section
variable{h:ah}{d:cO}{s:St}{a e:Int}{n:Nat}
structure oW where
 bq:Int
 jD:Int
 lg:Int
 wW:Int
 qh:Int
 oa:Int
 eG:Int
 gV:Int
def mx(a e:Int):Int:=if e>a then e else a
def lB:ah->Int
 |[]=>0
 |c::h=>(if 0<c.bX then 1 else 0)+lB h
def qd(n:Int):ah->Int
 |[]=>n
 |c::h=>qd (mx n c.bX) h
def Uw(c:oW)(s:St):oW:={c with oa:=mx c.oa (lB s.aR),eG:=mx c.eG s.bo.length,gV:=qd c.gV s.aR}
def uN(c:oW)(a:Int)(tq:Bool):oW:=
 if tq=true then{c with lg:=c.lg+1}
 else if a=6\/a=10 then{c with jD:=c.jD+1}
 else if a=14 then{c with wW:=c.wW+1}
 else if a=15 then{c with qh:=c.qh+1}
 else c
def qA(d:cO)(s:St):Instr:=
 match s.bo.getLast? with
 |some f=>bK d f
 |none=>⟨0,0,0,0,[],[]⟩
def tq(d:cO)(s:St):Bool:=
 match s.bo.getLast? with
 |some f=>decide ((bK d f).op=6/\(bK d f).cR≠0/\br f.cL ((bK d f).cR -1)≠0)
 |none=>false
noncomputable def Pa (d:cO) (s:St) (c:oW):oW:=
 let a:oW:={c with bq:=c.bq+1}
 Uw (if(kD d s).dx=3\/(kD d s).dx=0 then uN a (qA d s).op (tq d s)else a) (kD d s)
noncomputable def my (d:cO) (a:St):Nat->oW
 |0=>Uw ⟨0,0,0,0,0,0,0,0⟩ a
 |k+1=>Pa d (bq d k a) (my d a k)
def Jk(c:oW)(d:Int)(a:Int)(s:St):oW:=
 let b:oW:={c with bq:=c.bq+1}
 if s.dx=1\/s.dx=2 then b else
 let e:oW:=if d=6\/d=10 then{b with jD:=c.jD+1 -a,lg:=c.lg+a,oa:=mx c.oa (lB s.aR)}
  else if d=14 then{b with wW:=c.wW+1}else if d=15 then{b with qh:=c.qh+1}else b
 {e with eG:=mx e.eG s.bo.length,gV:=qd e.gV s.aR}
def Um:∀(h:ah)(n:Int),n<=qd n h
 |[],n=>dN _
 |c::h,n=>by
  have:=Um h (mx n c.bX);have:n<=mx n c.bX:=by unfold mx;split<;>omega
  grind [qd]
def SY:∀(h:ah)(n:Int),qd n h=n->∀c∈h,c.bX<=n
 |[],n,_,c,a=>by simp at a
 |d::h,n,b,c,a=>by
  simp only[qd]at b;have f:=Um h (mx n d.bX);have e:mx n d.bX=n:=by
   grind [mx]
  rcases aZ.1 a with rfl|a
  .grind [mx]
  .rw[e]at b;exact SY h n b c a
theorem Un:∀(h:ah)(n:Int),(∀c∈h,c.bX<=n)->qd n h=n
 |[],_,_=>O
 |d::h,n,a=>by
  have f:=a d bO;have b:mx n d.bX=n:=by grind [mx]
  simp only[qd];rw[b];exact Un h n λc e=>a c (by simp[e])
def V0:∀(h:ah)(n:Int),∀c∈h,c.bX<=qd n h
 |[],_,c,a=>by simp at a
 |d::h,n,c,a=>by
  simp only[qd];rcases aZ.1 a with rfl|a
  .have:=Um h (mx n c.bX);have:c.bX<=mx n c.bX:=by unfold mx;split<;>omega
   omega
  .exact V0 h _ c a
def Zu{n:Int}:qd (qd n h) h=qd n h:=Un h _ (V0 h n)
def KS:∀(h:ah),0<=lB h
 |[]=>dN _
 |c::h=>by have:=KS h;simp only[lB];split<;>omega
def Qf:∀(j h:ah),(∀e,iL j e->iL h e)->lB j<=lB h
 |[],h,_=>KS h
 |b::i,[],c=>by
  have l:¬0<b.bX:=λa=>by obtain⟨d,g,_⟩:=c 0 ⟨b,O,a⟩;simp at g
  have:=Qf i [] λe⟨d,g,a⟩=>by obtain⟨f,hd,_⟩:=c (e+1) ⟨d,sp g,a⟩;simp at hd
  grind [lB]
 |b::i,d::t,c=>by
  have l:0<b.bX->0<d.bX:=λa=>by obtain⟨f,hd,g⟩:=c 0 ⟨b,O,a⟩;simp at hd;subst hd;exact g
  have:=Qf i t λe⟨f,hd,a⟩=>by
   let⟨k,m,g⟩:=c (e+1) ⟨f,sp hd,a⟩;exact⟨k,sp m,g⟩
  grind [lB]
def Ms:∀(h:ah),lB h<=h.length
 |[]=>by simp[lB]
 |c::h=>by have:=Ms h;simp only[lB,dD];split<;>omega
theorem iL.oY{h:ah}{e:Nat}(b:iL (oY h) e):iL h e:=by
 let⟨c,a,d⟩:=b;unfold Go.Proofs.YtbbbdejieenniaaGreat.oY at a;rw[lQ]at a;split at a
 .exact⟨c,a,d⟩
 .simp at a
theorem iL.Fg{w:Int}(b:iR h w)(c:dz){e:Nat}(d:iL (h.set (ix w) c) e):iL h e:=by
 by_cases a:e=ix w
 .subst a;exact b.2
 .grind [iL.ne]
def iL.kO:∀(a:ab)(h:ah)(e:Nat),(∀w∈a,iR h w)->iL (kO h a) e->iL h e
 |[],_,_,_,c=>c
 |w::a,h,e,d,c=>by
  have f:=d w cQ;exact(iL.pU f (b:=e)).1 (iL.kO a _ e (λv g=>⟨(d v (aX _ g)).1,(iL.pU f).2 (d v (aX _ g)).2⟩) c)
theorem iL.ju:∀(n:Nat)(h:ah)(j:ab),Es h+j.length<=n->∀e,iL (ju h j) e->iL h e
 |n,h,[],_,e,a=>by rw[uT]at a;exact a
 |0,h,w::r,c,e,_=>by simp at c
 |n+1,h,w::r,c,e,a=>by
  simp only[dD]at c;rcases fS (iR h w)with b|b
  .let⟨g,i⟩:=dL b;by_cases d:(bu h w).bX=1
   .have f:=mq (d:=kV) g;simp only[a8 i,kV]at f;simp at f;rw[uU b d]at a;exact iL.Fg b _ (iL.ju n _ _ (by simp[kV];omega) e a)
   .have f:=mq (d:={bu h w with bX:=(bu h w).bX -1}) g;simp only[a8 i]at f;rw[a8 V]at f;rw[sO b d]at a;exact iL.Fg b _ (iL.ju n _ _ cC e a)
  .rw[sP b]at a;exact iL.ju n _ _ V e a
theorem iL.iK{h:ah}{a:Nat->Int}(g:jc h a){w:Int}(d:iR h w){e:Nat}(b:iL (iK h w) e):iL h e:=by
 let⟨f,l⟩:=dL d;unfold Go.Proofs.YtbbbdejieenniaaGreat.iK at b;split at b
 .grind [iL.Fg,iL.oY]
 .rename_i k;refine iL.Fg d {bu h w with bX:=(bu h w).bX -1} (iL.kO _ _ _ (λv i=>?_) b);let⟨j,c⟩:=nU.1 i;have:=g.qj (kE f) j c;refine⟨c,?_⟩;by_cases a:ix v=ix w
  .grind [iL.Hk,bu]
  .rw[iL.ne a];exact this.2
theorem IE(h:eJ d s)(c:aj){f:bS}{x:Instr}{bF:ab}(g:iN d s f x bF):
 ((dI d s c f x bF).dx=s.dx\/(dI d s c f x bF).dx=0)/\(x.op≠6->x.op≠10->∀e,iL (dI d s c f x bF).aR e->iL s.aR e):=by
 unfold dI
 simp only[]
 by_cases l:x.op=0
 .grind
 rw[aV l]
 by_cases m:x.op=1\/x.op=2\/x.op=3\/x.op=4
 .grind
 rw[aV m]
 by_cases w:x.op=5
 .grind
 rw[aV w]
 by_cases k:x.op=6
 .rw[a8 k]
  split
  .grind
  grind
 rw[aV k]
 by_cases n:x.op=10
 .grind
 rw[aV n]
 by_cases o:x.op=14
 .grind [iL.pU,iN.WQ]
 rw[aV o]
 by_cases j:x.op=15
 .rw[a8 j];exact⟨bz O,λ_ _ e a=>iL.ju _ _ _ bY e (iL.oY a)⟩
 rw[aV j]
 by_cases b:x.op=16\/x.op=17
 .rw[a8 b]
  split
  .exact⟨bz O,λ_ _ e a=>iL.Fg (g.AL b).1 _ a⟩
  .exact⟨bz O,λ_ _ e a=>iL.iK h.aR (g.AL b).1 a⟩
 rw[aV b]
 by_cases p:x.op=18
 .grind
 rw[aV p]
 by_cases q:x.op=19
 .grind
 rw[aV q]
 by_cases r:x.op=20
 .grind
 rw[aV r]
 by_cases t:x.op=21
 .grind
 rw[aV t]
 by_cases u:x.op=22
 .grind
 rw[aV u]
 by_cases y:x.op=9
 .grind
 rw[aV y]
 by_cases v:x.op=24
 .grind
 rw[aV v]
 by_cases i:x.op=11
 .rw[a8 i];exact⟨bz O,λ_ _ e a=>iL.iK h.aR (g.apply i).1 a⟩
 grind
def XB(h:eJ d s)(g:s.dx=3):(∃k,(k=1\/k=2)/\kD d s={s with dx:=k})\/
 ∃a f bF,s.bo=a++[f]/\iN d s f (qA d s) bF/\kD d s=dI d s a f (qA d s) bF:=by
 let⟨a,f,i⟩:=h.split g
 have b:s.bo.getLast?=some f:=cC
 have c:s.bo.dropLast=a:=cC
 have e:qA d s=bK d f:=by grind [qA]
 unfold kD
 rw[aV cC,b,c,e]
 simp only[]
 split
 .grind
 .grind
@[grind cases] structure Td (c:oW) (s:St):Prop where
 oa:lB s.aR<=c.oa
 eG:(s.bo.length:Int)<=c.eG
 gV:qd c.gV s.aR=c.gV
theorem TO(h:e<=a):mx a e=a:=by grind [mx]
def acu:e<=mx a e:=by grind [mx]
def Vz{c:oW}:Td (Uw c s) s:=⟨acu,acu,Zu⟩
def aaH{c:oW}(h:Td c s):Uw c s=c:=by
 unfold Uw;rw[TO h.oa,TO h.eG,h.gV]
def P5(e:Bool):Int:=if e=true then 1 else 0
def Zf{c:oW}(h:eJ d s)(f:s.dx=3)(b:Td c s):Jk c (qA d s).op (P5 (tq d s)) (kD d s)=Pa d s c:=by
 rcases XB h f with⟨v,r,a⟩|⟨g,n,bF,q,j,a⟩
 .unfold Jk Pa;simp only[];rw[a8 cC,aV cC];rw[aaH ⟨by rw[a];exact b.oa,by rw[a];exact b.eG,by rw[a];exact b.gV⟩]
 .have m:(kD d s).dx=3\/(kD d s).dx=0:=by rw[a];have:=(IE h g j).1;rw[f]at this;exact this
  have l:tq d s=true->(qA d s).op=6:=λl=>by
   grind [List.getLast?,tq,qA]
  have u:(qA d s).op≠6->(qA d s).op≠10->lB (kD d s).aR<=c.oa:=λi o=>by
   refine yx (Qf _ _ λe t=>?_) b.oa;grind [IE]
  generalize k:kD d s=S at*;unfold Jk Pa;simp only[];rw[k,aV V,a8 m];cases p:tq d s
  .simp only[P5];unfold uN Uw;simp only[rS,mD];by_cases i:(qA d s).op=6\/(qA d s).op=10
   .grind
   grind [TO,qA]
  grind [P5,uN,Uw]
def Zt{c:oW}:Td (Pa d s c) (kD d s):=Vz
def Od(d:cO){a:St}:∀k,Td (my d a k) (bq d k a)
 |0=>Vz
 |k+1=>by rw[ou];exact Zt
@[grind cases] structure UE (n:Nat) (c:oW):Prop where
 bq:0<=c.bq/\c.bq<=n
 jD:0<=c.jD/\c.jD<=n
 lg:0<=c.lg/\c.lg<=n
 wW:0<=c.wW/\c.wW<=n
 qh:0<=c.qh/\c.qh<=n
def aaI{c:oW}(h:UE n c):UE n (Uw c s):=⟨h.bq,h.jD,h.lg,h.wW,h.qh⟩
def abK{c:oW}(h:UE n c):UE (n+1) (Pa d s c):=by
 unfold Pa;refine aaI ?_;let⟨a,b,e,f,g⟩:=h;split
 .unfold uN;repeat' split
  all_goals exact⟨by simp only[];omega,by simp only[];omega,by simp only[];omega,by simp only[];omega,by simp only[];omega⟩
 .exact⟨by simp only[];omega,by simp only[];omega,by simp only[];omega,by simp only[];omega,by simp only[];omega⟩
def Np(d:cO)(a:St):∀k,UE k (my d a k)
 |0=>aaI ⟨bO,bO,bO,bO,bO⟩
 |k+1=>abK (Np d a k)
end
section
variable{m g a:D}{h:ah}{d e:Nat}{c:oW}
@[grind cases] structure Eg (m:D) (hp:E) (h:ah):Prop where
 aT:hp.len=h.length
 kv:∀(k:Nat)(c:dz),h[k]? =some c->∃f,aS m hp.bt (hp.off+k*3)=some (vi c.bX)/\aS m hp.bt (hp.off+k*3+1)=some (vi c.jH)/\aS m hp.bt (hp.off+k*3+2)=some (E.v f)
def Eg.fH{m g:D}{a:E}{h:ah}(H:Eg m a h)(k:h≠[]->g[a.bt]? =m[a.bt]?):Eg g a h:=
 ⟨H.aT,λl c b=>by
  let⟨f,d,i,j⟩:=H.kv l c b;have e:=k (λe=>by subst e;simp at b);exact⟨f,by rw[bD e];exact d,by rw[bD e];exact i,by rw[bD e];exact j⟩⟩
def Eg.lt{a:E}(H:Eg m a h)(d:h≠[]):a.bt<m.size:=by
 cases h with
 |nil=>exact absurd O d
 |cons c r=>
  obtain⟨f,b,_⟩:=H.kv 0 c O;exact pI b
def Eg.ext{a:E}(H:Eg m a h)(c:J m g):Eg g a h:=H.fH λb=>c.bB _ (H.lt b)
def gC.ni{N:Nat}{g:ag}{a:E}(H:gC N g m a h):Eg m a h:=
 ⟨H.aT,λ_ _ e=>let⟨f,b,c,d,_⟩:=H.dg e;⟨f,b,c,d⟩⟩
def BQ:∀(l r:ah),lB (l++r)=lB l+lB r
 |[],r=>by simp[lB]
 |c::l,r=>by simp only[eN,lB,BQ l r];omega
def Gw:∀(l r:ah)(n:Int),qd n (l++r)=qd (qd n l) r
 |[],r,n=>O
 |c::l,r,n=>by simp only[eN,qd,Gw l r]
def KP{f:E}(H:Eg m f h)(w:h.length<=1000000000):yB dP 64 [f.v] m (vi (lB h)):=by
 apply EL;simp -zeta only[dT];have t:=H.aT;refine gN (n:=h.length) V (λk j g=>j=lB (h.take k)/\J m g) ⟨by simp[lB],dt⟩ ?_;rintro k j y I μ s ⟨rfl,b⟩ l
 have v:=KS (h.take k);have u:=Ms (h.take k);have x:(h.take k).length<=h.length:=fu;refine dit (λq=>?_) λq=>?_
 .let⟨c,d⟩:=dY h k;let⟨o,g1,g2,p⟩:=(H.ext b).kv k c d;refine⟨V,V,c.bX,sp g1,c.jH,sp g2,o,sp p,?_⟩;intro z r;have i:J m r:=(b.cz _).aW b.aQ _ _;have e:lB (h.take (k+1))=lB (h.take k)+(if 0<c.bX then 1 else 0):=by rw[bW d,BQ];simp[lB]
  refine⟨λa=>?_,λa=>?_⟩
  .simp at a;rw[gJ];exact l V _ _ ⟨by rw[e,a8 a],i⟩
  .simp at a;exact l V _ _ ⟨by rw[e,aV V];omega,i⟩
 .rw[eY V];exact⟨O,b⟩
@[grind cases] structure gE (sb:Nat) (m m':D):Prop where
 aQ:m.size<=m'.size
 bB:∀b,b<m.size->b≠sb->m'[b]? =m[b]?
def gE.cX(d:Nat)(m:D):gE d m m:=by constructor<;>grind
def gE.ext(h:gE d a m)(b:J m g):gE d a g:=by constructor<;>grind [gE.aQ,J.aQ,J.bB,gE.bB]
def gE.N(h:gE d a m)(b:gE d m g):gE d a g:=by constructor<;>grind [gE.aQ,gE.bB]
def gE.aW(h:gE d a m)(o:Nat)(l:ae):gE d a (aW m d o l):=by constructor<;>grind [bE,gE.aQ,cw,gE.bB]
def gE.fg(h:gE d m g){l:ad}(c:∀b∈l,b<m.size/\b≠d):gT l m g:=λb a=>h.bB b (c b a).1 (c b a).2
def NB(c:oW):ae:=[.i c.bq,.i c.jD,.i c.lg,.i c.wW,.i c.qh,.i c.oa,.i c.eG,.i c.gV]
def Sk(e d:Nat)(m:D)(c:oW)(v:Value)(g:D):Prop:=v=.tuple #[]/\dJ g d e (NB c)/\gE d m g
def NJ(B:dJ m d e (NB c)){h z cJ:E}{s:St}(H:Eg m h s.aR)(A:s.aR≠[]->h.bt≠d)(R:s.aR.length<=1000000000)(Q:z.len=s.bo.length){U W X Y:Int}:
 bJ dP 36 [vp d 0,.agg #[vi U,vi W,vi X,vi Y,cJ.v,h.v,z.v]] m (Sk e d m (Uw c s)):=by
 apply EE (d,0)
 simp -zeta only[dT]
 intro S
 obtain⟨x,s1⟩:=pu S
 have ac:=B.lt
 have t:=B.ext x
 refine⟨c.oa,t.dg 5,(KP (H.ext x) R).aP ?_⟩
 rintro _ w ⟨rfl,l⟩
 have s2:=l.aQ
 have y:=t.ext l
 refine⟨l.fg fu,lB s.aR,O,l.cK (t.dg 5),y.gK (by simp[NB]),?_⟩
 intro a
 have o3:gE d m a:=((gE.cX d m).ext (x.N l)).aW _ _
 have t3:gE d w a:=(gE.cX d w).aW _ _
 have u:dJ a d e (NB {c with oa:=mx c.oa (lB s.aR)}):=y.aW (m:=m)
 have s3:a.size=w.size:=bE _ _ _ _
 refine⟨t3.fg fu,c.eG,u.dg 6,u.gK (by simp[NB]),?_⟩
 rw[Q]
 intro i
 have C:gE d m i:=o3.aW _ _
 have Z:gE d a i:=(gE.cX d a).aW _ _
 have G:dJ i d e (NB {c with oa:=mx c.oa (lB s.aR),eG:=mx c.eG s.bo.length}):=u.aW (m:=m)
 have s4:i.size=a.size:=bE _ _ _ _
 refine⟨Z.fg fu,?_⟩
 have hl:=H.aT
 have J:Eg i h s.aR:=H.fH λf=>C.bB _ (H.lt f) (A f)
 refine iC (n:=s.aR.length) V (λk g=>gE d m g/\m.size<g.size/\dJ g d e (NB {c with oa:=mx c.oa (lB s.aR),eG:=mx c.eG s.bo.length,gV:=qd c.gV (s.aR.take k)})/\Eg g h s.aR) ⟨C,V,by simpa[qd]using G,J⟩ ?_
 rintro k m5 aa μ hk ⟨o5,z5,p,K⟩ T
 refine dit (λP=>?_) λP=>?_
 .let⟨b,hd⟩:=dY s.aR k
  let⟨M,g1,g2,N⟩:=K.kv k b hd
  refine⟨V,V,b.bX,sp g1,b.jH,sp g2,M,sp N,?_⟩
  intro m6 q
  obtain⟨F,s7⟩:=pv q
  have v:=p.ext F
  have ab:=p.lt
  have L:qd c.gV (s.aR.take (k+1))=mx (qd c.gV (s.aR.take k)) b.bX:=by rw[bW hd,Gw];rfl
  refine⟨_,v.dg 7,v.gK (by simp[NB]),?_⟩
  intro j
  have D:gE d m j:=(o5.ext F).aW _ _
  have t8:gE d q j:=(gE.cX d q).aW _ _
  have I:dJ j d e (NB {c with oa:=mx c.oa (lB s.aR),eG:=mx c.eG s.bo.length,gV:=qd c.gV (s.aR.take (k+1))}):=(L▸v.aW (m:=m) (o:=7) (r:=[.i (mx (qd c.gV (s.aR.take k)) b.bX)]))
  have s8:j.size=q.size:=bE _ _ _ _
  refine⟨t8.fg fu,T V j ⟨D,V,I,H.fH λf=>D.bB _ (H.lt f) (A f)⟩⟩
 .rw[eY V]at p
  exact⟨O,p,o5⟩
def RL(B:dJ m d e (NB c)){f:Int}{a:Bool}(n:Nat)(v:n<=1000000)(k:UE n c):bJ dP 37 [vp d 0,vi f,vb a] m (Sk e d m (uN c f a)):=by
 apply BJ (d,0);let⟨q,r,s,t,u⟩:=k;have o1:∀{o:Nat}{l:ae},gE d m (aW m d o l):=(gE.cX d m).aW _ _;unfold uN;refine⟨λb=>⟨_,B.dg 2,B.gK (by simp[NB]),?_⟩,λb=>?_⟩
 .rw[a8 b,gJ];exact⟨O,B.aW (m:=m),o1⟩
 rw[aV (by simp[b])];have p:(let g:=aW m (d,0).1 ((d,0).2+1) [.i (eV (c.jD+1))];Sk e d m {c with jD:=c.jD+1} (.tuple #[]) g):=by
  rw[gJ];exact⟨O,B.aW (m:=m),o1⟩
 refine⟨λj=>⟨_,B.dg 1,B.gK (by simp[NB]),?_⟩,λj=>⟨λg=>⟨_,B.dg 1,B.gK (by simp[NB]),?_⟩,λg=>?_⟩⟩
 .grind
 .grind
 rw[aV cC];refine⟨λh=>⟨_,B.dg 3,B.gK (by simp[NB]),?_⟩,λh=>⟨λi=>⟨_,B.dg 4,B.gK (by simp[NB]),?_⟩,λi=>?_⟩⟩
 .rw[a8 cC,gJ];exact⟨O,B.aW (m:=m),o1⟩
 .rw[aV cC,a8 cC,gJ];exact⟨O,B.aW (m:=m),o1⟩
 .rw[aV cC,aV cC];exact⟨O,B,gE.cX _ _⟩
end
section
variable{p:E}{h:ah}
section
variable{k:D}{a o:ag}{m j:D}{l e b:Nat}{c:ae}{cJ f d:E}{i:ab}{n:ah}{g:aj}
def gE.gX(h:gE b m j)(e:a b=9)(d:∀c,m.size<=c->a c=0):eu (λk=>k=9) a m a j:=
 by constructor<;>grind [gE.aQ,gE.bB]
def uH.Vp(L:uH k a m l e c cJ f d i n g)(q:a b=9)(h:gE b m j):uH k a j l e c cJ f d i n g:=by
 have o:=h.gX q L.bI;have p:=L.de.aQ;refine⟨⟨fC p h.aQ,λr s=>?_⟩,L.mT,o.bI,L.bU.congr (h.bB _ L.bU.lt λe=>?_),L.Wr,L.cJ.gX o cH,L.aR.gX o cH cH,L.bo.gX o (λu t e=>V)⟩
 .grind [gE.bB,uH.mT,uH.de,J.bB]
 .grind [uH.Wr]
def uH.abw(L:uH k a m l e c cJ f d i [] g){p:D}(s:J p k)(A:a b=0)(Q:p.size<=b)(R:b<m.size):uH p (pE a b 9) m l e c cJ f d i [] g:=by
 have up:∀{o:Nat}{u:E}{e v:Nat}{t:ae},iV a m e v o u t->o≠0->iV (pE a b 9) m e v o u t:=λq F=>
  q.fH (λ_=>O) λC=>fO λe=>F (by rw[<-(q.bt C).2,e,A])
 have S:=s.aQ;refine⟨s.N L.de,λw B=>?_,λw B=>?_,L.bU,?_,up L.cJ cH,?_,?_⟩
 .grind [fO,uH.mT]
 .grind [fO,uH.bI]
 .grind [fO,uH.Wr]
 .obtain⟨j,n,r,-⟩:=L.aR;have:j=[]:=cp.1 cC;subst this;exact⟨[],up n cH,fL.gF _ _,Sep.gF⟩
 .let⟨j,h⟩:=L.bo;refine⟨j,up h.rm cH,h.aT,h.aQ,λG x y n r=>?_⟩;let⟨P,H,z,I,K,M,N⟩:=h.eR G x y n r;exact⟨P,H,z,I,up K V,up M V,up N V⟩
end
@[grind cases] structure ZI (m:D) (p fr:E) (fs:aj) (f:bS) (x:Instr) (r o h pc a j:E):Prop where
 frl:fr.len=fs.length+1
 sm:fs.length<=1000
 g0:aS m fr.bt (fr.off+fs.length*6)=some (vi f.fN)
 g1:aS m fr.bt (fr.off+fs.length*6+1)=some (vi f.pc)
 g2:aS m fr.bt (fr.off+fs.length*6+2)=some (vi f.bA)
 g3:aS m fr.bt (fr.off+fs.length*6+3)=some r.v
 g4:aS m fr.bt (fr.off+fs.length*6+4)=some o.v
 g5:aS m fr.bt (fr.off+fs.length*6+5)=some h.v
 fN:0<=f.fN/\f.fN<p.len
 cD:aS m p.bt (p.off+f.fN.toNat*5+4)=some pc.v
 pcb:0<=f.pc/\f.pc<pc.len
 i0:aS m pc.bt (pc.off+f.pc.toNat*6)=some (vi x.op)
 i1:aS m pc.bt (pc.off+f.pc.toNat*6+1)=some (vi x.bA)
 i2:aS m pc.bt (pc.off+f.pc.toNat*6+2)=some (vi x.cG)
 i3:aS m pc.bt (pc.off+f.pc.toNat*6+3)=some (vi x.cR)
 i4:aS m pc.bt (pc.off+f.pc.toNat*6+4)=some a.v
 i5:aS m pc.bt (pc.off+f.pc.toNat*6+5)=some j.v
 cL:bg m h f.cL
 cR:x.op=6->0<=x.cR/\x.cR<=f.cL.length
 pJ:f.cL.length<=2000
def ZI.ext{m g:D}{p d:E}{e:aj}{f:bS}{x:Instr}{r o h i b j:E}(c:ZI m p d e f x r o h i b j)(a:J m g):ZI g p d e f x r o h i b j:=
 ⟨c.frl,c.sm,a.aS c.g0,a.aS c.g1,a.aS c.g2,a.aS c.g3,a.aS c.g4,a.aS c.g5,c.fN,a.aS c.cD,c.pcb,a.aS c.i0,a.aS c.i1,a.aS c.i2,a.aS c.i3,a.aS c.i4,a.aS c.i5,c.cL.ext a,c.cR,c.pJ⟩
def uH.cur{k:D}{A:ag}{m:D}{z q:Nat}{n:ae}{F cJ w g:E}{a:cO}{s:St}(L:uH k A m z q n cJ w g s.cJ s.aR s.bo)(v:iW k F p a)(d:eJ a s)(y:s.dx=3)(P:∀b∈s.bo,∀c∈b.aU,c<=9223372036854775807):
 ∃c f r o h l e j,s.bo=c++[f]/\ZI m p g c f (qA a s) r o h l e j/\tq a s=decide ((qA a s).op=6/\(qA a s).cR≠0/\br f.cL ((qA a s).cR -1)≠0):=by
 let⟨c,f,i⟩:=d.split y
 have e1:s.bo.getLast?=some f:=cC
 have H:qA a s=bK a f:=by grind [qA]
 have G:tq a s=decide ((qA a s).op=6/\(qA a s).cR≠0/\br f.cL ((qA a s).cR -1)≠0):=by grind [tq]
 have C:vY a s c f (qA a s):=⟨d,y,i,H.symm,P⟩
 have B:uH k A m z q n cJ w g s.cJ s.aR (c++[f]):=cC
 let⟨r,o,h,aa,T⟩:=B.bo.jA
 let⟨I,g1,g2,J,K,M⟩:=T.kv
 let⟨al,R,S,hP,O,hI⟩:=C.I
 let⟨pa,pl,l,af,ai,x,k0,k1,k2,k3,k4⟩:=v.cU.br R
 let⟨e,j,ha,hj,U,W,X,Y,Z,i5⟩:=x.br O
 have aj:=v.cU.aT
 have ah:=x.aT
 have t:=C.F
 have ak:=t.fN
 have Q:=t.pc
 rw[S]at Q
 have b:=L.de
 have u:=d.eG
 have ab:=d.dv
 have ad:=d.df
 rw[i]at u
 have ac:=C.RO
 refine⟨c,f,r,o,h,l,e,j,i,⟨T.CM,by simp at u;omega,I,g1,g2,J,K,M,V,b.aS k4,V,b.aS U,b.aS W,b.aS X,b.aS Y,b.aS Z,b.aS i5,T.cL.nZ V,λN=>?_,V⟩,G⟩
 have:=C.oD.2.2.2.2.1 N
 grind
def Lu{m:D}{d:E}(H:Eg m d h)(q:h.length<=1000000000):yB dP 120 [d.v] m (vi (lB h)):=by
 apply FR;have l:=H.aT;refine gN (σ:=Int) (n:=h.length) V (λk e a=>e=lB (h.take k)/\a=m) ⟨by simp[lB],O⟩ ?_;rintro k e s I μ j ⟨rfl,rfl⟩ t
 have p:=KS (h.take k);have o:=Ms (h.take k);have r:(h.take k).length<=h.length:=cC;refine⟨λa=>?_,λa=>?_⟩
 .simp only[bh]at a;let⟨c,b⟩:=dY h k;let⟨g,g1,g2,i⟩:=H.kv k c b;have f:lB (h.take (k+1))=lB (h.take k)+(if 0<c.bX then 1 else 0):=by rw[bW b,BQ];simp[lB]
  constructor<;>grind [dk]
 .grind [decide_eq_false_iff_not,eY,J.cX]
def DC{m:D}{e:E}(H:Eg m e h)(q:h.length<=1000000000)(a:Int):yB dP 121 [e.v,vi a] m (vi (qd a h)):=by
 apply Ac;have p:=H.aT;refine gN (σ:=Int) (n:=h.length) V (λk f b=>f=qd a (h.take k)/\b=m) ⟨by simp[qd],O⟩ ?_;rintro k f r I μ o ⟨rfl,rfl⟩ i
 refine⟨λb=>?_,λb=>?_⟩
 .simp only[bh]at b;let⟨c,d⟩:=dY h k;let⟨j,g1,g2,l⟩:=H.kv k c d;have g:qd a (h.take (k+1))=mx (qd a (h.take k)) c.bX:=by rw[bW d,Gw];rfl
  exact⟨V,V,c.bX,sp g1,i V _ _ ⟨by rw[g];rfl,O⟩⟩
 .grind [decide_eq_false_iff_not,eY,J.cX]
def Ub{c:D}{i T:Nat}{t:ae}{A:Nat}{e:E}{j:aj}{f:bS}{x:Instr}{n l h N z K:E}(B:dJ c i T t)(b1:t[1]? =some (.s p))(S:t[8]? =some (.s e))(F:ZI c p e j f x n l h N z K):
 bJ dP 65 [vp A 0,vp i 0] c λaa Z=>aa=.tuple #[vi x.op,vi (P5 (decide (x.op=6/\x.cR≠0/\br f.cL (x.cR -1)≠0)))]/\J c Z:=by
 apply zZ (A,0) (i,0)
 simp -zeta only[dT]
 have hl:=F.frl
 have hs:=F.sm
 have U:eV ((e.len:Int) -1)=(j.length:Int):=by rw[gJ];omega
 have W:Int.toNat (j.length:Int)=j.length:=V
 have k:aS c i 8=some e.v:=by rw[B.dg 8,S];rfl
 have G:aS c i 1=some p.v:=by rw[B.dg 1,b1];rfl
 refine⟨e,k,e,k,?_⟩
 rw[U,W]
 refine⟨V,V,_,F.g0,_,F.g1,_,F.g2,n,F.g3,l,F.g4,h,F.g5,?_⟩
 intro M
 have d:=px M
 refine⟨d.cK F.g0,d.cK F.g1,d.cK F.g2,d.cK F.g3,d.cK F.g4,d.cK F.g5,d.cK k,d.cK k,?_⟩
 intro w
 have q:J c w:=d.aW bY _ _
 have L:dJ w c.size gS [.i f.fN,.i f.pc,.i f.bA,.s n,.s l,.s h]:=dJ.aW (m:=M) (o:=0) (r:=[.i f.fN,.i f.pc,.i f.bA,.s n,.s l,.s h]) (dJ.push c _ _)
 have a:=F.ext q
 refine⟨p,q.aS G,F.fN.1,F.fN.2,N,a.cD,F.pcb.1,F.pcb.2,_,a.i0,_,a.i1,_,a.i2,_,a.i3,z,a.i4,K,a.i5,?_⟩
 intro m3
 have b:=px m3
 refine⟨b.cK a.i0,b.cK a.i1,b.cK a.i2,b.cK a.i3,b.cK a.i4,b.cK a.i5,b.cK (L.dg 1),b.cK a.cD,b.cK (L.dg 0),b.cK (q.aS G),?_⟩
 intro m4
 have P:J w m4:=b.aW bY _ _
 have s:=q.N P
 have R:=a.ext P
 have y:¬(x.op=6/\x.cR≠0/\br f.cL (x.cR -1)≠0)->vi (0:Int)=vi (P5 (decide (x.op=6/\x.cR≠0/\br f.cL (x.cR -1)≠0))):=λY=>by rw[On Y];rfl
 refine⟨λu=>?_,λu=>⟨by rw[<-y (by simp at u;omega)],s⟩⟩
 have H:x.op=6:=sp u
 let⟨q1,q2⟩:=F.cR H
 have ad:=F.pJ
 refine⟨λv=>?_,λv=>⟨by rw[<-y (by simp at v;omega)],s⟩⟩
 have ab:0<x.cR:=sp v
 have ac:=F.cL.aT
 rw[gJ]
 let⟨Q,I⟩:=dY f.cL ((x.cR -1).toNat)
 have C:br f.cL (x.cR -1)=Q:=IV I
 refine⟨V,V,Q,R.cL.br I,λg=>?_,λg=>?_⟩
 .simp at g
  rw[decide_eq_true (show x.op=6/\x.cR≠0/\br f.cL (x.cR -1)≠0 from⟨H,V,by rw[C];exact g⟩)]
  exact⟨O,s⟩
 .simp at g
  rw[<-y (λX=>X.2.2 (by rw[C];exact g))]
  exact⟨O,s⟩
end
section
variable{b:D}{e f g k:Nat}{c:oW}{d p:E}{s:St}{a:cO}
def UC(f g:Nat)(M:D)(R:ak):Prop:=
 ∃b:Int,aS M f 6=some (vi b)/\
 ∃c:E,aS M g 8=some c.v/\
 gK M f 6 1/\
 let a:D:=aW M f 6 [.i (if(c.len:Int)>b then(c.len:Int)else b)]
 ∃h:E,aS a g 7=some h.v/\
 ∃i:Int,aS a f 7=some (vi i)/\
 bJ dP 121 [h.v,vi i] a λr d=>
 ∃e:Int,r=vi e/\
 gK d f 7 1/\
 let j:D:=aW d f 7 [.i e]
 R (.tuple #[]) j
def Vn{M:D}{t:Nat}{cJ a h:E}(K:dJ b g t (SB d p s cJ a h))(l:g≠f)(H:Eg b a s.aR)(v:s.aR≠[]->a.bt≠f)(w:s.aR.length<=1000000000)(u:h.len=s.bo.length)
 (B:dJ M f e (NB c))(o:gE f b M):UC f g M (Sk e f b {c with eG:=mx c.eG s.bo.length,gV:=qd c.gV s.aR}):=by
 have k:=K.lt
 refine⟨c.eG,B.dg 6,h,(K.congr (o.bB g k l)).dg 8,B.gK (by simp[NB]),?_⟩
 rw[u]
 intro n
 have o2:gE f b n:=o.aW _ _
 have i:dJ n f e (NB {c with eG:=mx c.eG s.bo.length}):=B.aW (m:=b)
 have r:=K.congr (o2.bB g k l)
 refine⟨a,r.dg 7,c.gV,i.dg 7,(DC (H.fH λj=>o2.bB _ (H.lt j) (v j)) w c.gV).aP ?_⟩
 rintro _ x ⟨rfl,q⟩
 have j:=i.ext q
 refine⟨_,O,j.gK (by simp[NB]),?_⟩
 intro y
 exact⟨O,j.aW (m:=b),(o2.ext q).aW _ _⟩
def Ud{L:Nat}{cJ k u:E}(K:dJ b g L (SB d p s cJ k u))(o:g≠f)(H:Eg b k s.aR)(w:s.aR≠[]->k.bt≠f)(y:s.aR.length<=1000000000)(N:u.len=s.bo.length)
 (B:dJ b f e (NB c))(i:Int){a:Int}(ha:0<=a/\a<=1)(G:Nat)(hn:G<=1000000)(P:UE G c):
 bJ dP 67 [vp f 0,vp g 0,vi i,vi a] b (Sk e f b (Jk c i a s)):=by
 apply Aa (f,0) (g,0)
 let⟨U,W,X,Y,Z⟩:=P
 have v:=K.lt
 refine⟨c.bq,B.dg 0,B.gK (by simp[NB]),?_⟩
 rw[gJ]
 intro z
 have o1:gE f b z:=(gE.cX f b).aW _ _
 have h:dJ z f e (NB {c with bq:=c.bq+1}):=B.aW (m:=b)
 have t:=K.congr (o1.bB g v o)
 have tail:∀{M:D}{j:oW},dJ M f e (NB j)->gE f b M->UC f g M (Sk e f b {j with eG:=mx j.eG s.bo.length,gV:=qd j.gV s.aR}):=λB Q=>Vn K o H w y N B Q
 refine⟨s.dx,t.dg 2,λR=>?_,λR=>⟨s.dx,t.dg 2,λS=>?_,λS=>?_⟩⟩
 .unfold Jk;simp only[];rw[a8 (bz cC)];exact⟨O,h,o1⟩
 .unfold Jk;simp only[];rw[a8 (bH cC)];exact⟨O,h,o1⟩
 refine⟨λT=>?_,λT=>?_⟩
 .have en:Jk c i a s={({c with bq:=c.bq+1,jD:=c.jD+1 -a,lg:=c.lg+a,oa:=mx c.oa (lB s.aR)}:oW)with eG:=mx c.eG s.bo.length,gV:=qd c.gV s.aR}:=by
   grind [Jk]
  rw[en]
  refine⟨c.jD,h.dg 1,h.gK (by simp[NB]),?_⟩
  rw[dk (b:=c.jD+1) V V,dk V V]
  intro A
  have o2:gE f b A:=o1.aW _ _
  have l:dJ A f e (NB {c with bq:=c.bq+1,jD:=c.jD+1 -a}):=h.aW (m:=b)
  refine⟨c.lg,l.dg 2,l.gK (by simp[NB]),?_⟩
  rw[gJ]
  intro C
  have o3:gE f b C:=o2.aW _ _
  have n:dJ C f e (NB {c with bq:=c.bq+1,jD:=c.jD+1 -a,lg:=c.lg+a}):=l.aW (m:=b)
  have J:=K.congr (o3.bB g v o)
  refine⟨c.oa,n.dg 5,k,J.dg 7,(Lu (H.fH λq=>o3.bB _ (H.lt q) (w q)) y).aP ?_⟩
  rintro _ m4 ⟨rfl,q⟩
  have r:=n.ext q
  refine⟨_,O,q.cK (n.dg 5),r.gK (by simp[NB]),?_⟩
  intro F
  have o5:gE f b F:=(o3.ext q).aW _ _
  have I:dJ F f e (NB {c with bq:=c.bq+1,jD:=c.jD+1 -a,lg:=c.lg+a,oa:=mx c.oa (lB s.aR)}):=r.aW (m:=b)
  exact tail I o5
 .refine⟨λn=>?_,λn=>⟨λq=>?_,λq=>?_⟩⟩
  .have en:Jk c i a s={({c with bq:=c.bq+1,wW:=c.wW+1}:oW)with eG:=mx c.eG s.bo.length,gV:=qd c.gV s.aR}:=by
    grind [Jk]
   rw[en]
   refine⟨c.wW,h.dg 3,h.gK (by simp[NB]),?_⟩
   rw[gJ]
   exact tail (h.aW (m:=b)) (o1.aW _ _)
  .have l:i=15:=cC
   have en:Jk c i a s={({c with bq:=c.bq+1,qh:=c.qh+1}:oW)with eG:=mx c.eG s.bo.length,gV:=qd c.gV s.aR}:=by
    grind [Jk]
   rw[en]
   refine⟨c.qh,h.dg 4,h.gK (by simp[NB]),?_⟩
   rw[gJ]
   exact tail (h.aW (m:=b)) (o1.aW _ _)
  .have l:¬i=15:=cC
   have en:Jk c i a s={({c with bq:=c.bq+1}:oW)with eG:=mx c.eG s.bo.length,gV:=qd c.gV s.aR}:=by
    grind [Jk]
   rw[en]
   exact tail h o1
def VJ(a:cO)(df:Int):∃c:oW,∀k,k<=100000->(bq a k (dX a df)).dx≠3->(∀j,j<k->(bq a j (dX a df)).dx=3)->c=my a (dX a df) k:=by
 by_cases h:∃k,k<=100000/\(bq a k (dX a df)).dx≠3/\(∀j,j<k->(bq a j (dX a df)).dx=3)
 .obtain⟨k,_,b,d⟩:=h;refine⟨my a (dX a df) k,λj _ e f=>?_⟩;have:j=k:=by
   grind [Nat.lt_trichotomy]
  rw[this]
 .exact⟨⟨0,0,0,0,0,0,0,0⟩,λk e b d=>absurd ⟨k,e,b,d⟩ h⟩
noncomputable def vS (a:cO) (df:Int):oW:=Classical.choose (VJ a df)
def zC{df:Int}(b:k<=100000)(c:(bq a k (dX a df)).dx≠3)(d:∀j,j<k->(bq a j (dX a df)).dx=3):vS a df=my a (dX a df) k:=
 iS (VJ a df) k b c d
def Ra(c:oW):Value:=.agg #[vi c.bq,vi c.jD,vi c.lg,vi c.wW,vi c.qh,vi c.oa,vi c.eG,vi c.gV]
def Xz(a:cO)(df:Int):my a (dX a df) 0=⟨0,0,0,0,0,0,1,0⟩:=by
 simp[my,Uw,dX,mx,lB,qd]
def QJ{df:Int}(d:gL a)(c:0<=df/\df<=40)(g:k<=100000)(h:(bq a k (dX a df)).dx=3):k<100000:=by
 rcases eH k 100000 with b|b
 .exact b
 .have e:k=100000:=V;have f:=(YE d c).2.2;grind [Nq]
def O6(L:iW b d p a)(x:gL a){df:Int}(Q:0<=df/\df<=40):
 bJ dP 38 [.agg #[d.v,p.v],vi df] b λan t=>an=Ra (vS a df)/\J b t:=by
 apply J2
 simp -zeta only[dT]
 intro B c l
 have A:J b c:=((J.cX b).cz _).cz _
 have ak:J b l:=A.cz _
 have ac:=px l
 have s1:=pz B
 have s2:c.size=b.size+2:=cC
 have s3:l.size=b.size+3:=cC
 have U:dJ l b.size mj [.s d,.s p]:=by grind [dJ.push,dJ.ext,J.push]
 have kC:dJ l c.size Bp (NB ⟨0,0,0,0,0,0,1,0⟩):=dJ.push c _ _
 have hl:∀f∈[c.size,B.size,b.size],f<l.size:=cC
 refine(JZ (L.ext ak) x df).aP ?_
 rintro _ r ⟨cJ,R,H,rfl,n,b1,b2,b3,b4,k,q1,q2,q3,q4,q5,ab,q6,k4⟩
 refine⟨n.fg hl,_,_,_,_,_,_,_,O,n.cK (U.dg 0),n.cK (U.dg 1),?_⟩
 intro C
 have K:=px C
 have kb:dJ C r.size dG ([.s d,.s p]++[.i 3,.i 0,.i 0,.i df,.s cJ,.s R,.s H]):=dJ.push r _ _
 have u:=aaO ⟨q1,q2,q3,q4,q5⟩ ab q6 k4 K bY kb
 have s4:=n.aQ
 have s5:=pz C
 have G:=u.abw ac (u.mT _ V) bY V
 generalize T:pE (pE (pE (pY (λ_=>0) b1 b2 b3 0) b4 4) r.size 1) c.size 9=ro at G
 have ah:ro c.size=9:=(T▸iE)
 have z:=Gs x Q
 have M:=L.ext A
 have o:∀f∈[B.size,b.size],f<c.size:=cC
 clear T u
 refine YM (λ(k:Nat) t=>k<=100000/\(∀q,q<k->(bq a q (dX a df)).dx=3)/\dJ t c.size Bp (NB (my a (dX a df) k))/\
  ∃j i h g,uH c j t r.size dG (SB d p (bq a k (dX a df)) i h g) i h g (bq a k (dX a df)).cJ (bq a k (dX a df)).aR (bq a k (dX a df)).bo/\j c.size=9)
  (λk=>100000 -k) 0 ⟨jh _,λq N=>absurd N (Om _),by rw[Xz];exact((kC.ext n).ext K),ro,cJ,R,H,G,ah⟩ ?_
 rintro k m6 ao μ ⟨P,ai,g,aD,aB,az,au,i,r6⟩ al
 have y:=Bm k z
 have s:=Bn k z (Gt a df) V
 have aj:=Np a (dX a df) k
 refine⟨_,i.bU.dg 2,λh1=>?_,λh1=>?_⟩
 .have m:(bq a k (dX a df)).dx=3:=cC
  have ax:=QJ x Q P m
  let⟨fs,ar,aC,aA,av,pc,ap,q,hf,aa,ea⟩:=i.cur M y m s.Mi
  refine(Ub i.bU O O aa).aP ?_
  rintro _ m7 ⟨rfl,D⟩
  obtain⟨v,_⟩:=i.ext D
  have E:=g.ext D
  refine⟨D.fg (λf h=>i.de.lt (o f h)),_,_,O,(Uf v M y s.Mi (oh s.aR) (oh s.cJ)).aP ?_⟩
  rintro _ m8 ⟨Y,am,S,I,j,Z⟩
  have z7:=E.lt
  have B8:=E.congr (Z.fH _ z7 cC)
  have X:Y c.size=9:=by grind [eu.jZ]
  rw[<-ou]at j
  have ad:=Bn (k+1) z (Gt a df) V
  rw[<-ea]
  have ae:I.len=(bq a (k+1) (dX a df)).bo.length:=by
   let⟨aq,w⟩:=j.bo;have:=w.rm.aT;rw[eD w.aQ,w.aT]at this;omega
  have af:(bq a (k+1) (dX a df)).aR≠[]->S.bt≠c.size:=λay e=>by
   grind [uH.aR,gC.bt,List.length_pos_iff]
  have ag:r.size≠c.size:=V
  refine⟨Z.fW (λf h=>⟨v.de.lt (o f h),v.mT f (o f h)⟩),(Ud j.bU ag j.aR.ni af (oh ad.aR) ae B8 (qA a (bq a k (dX a df))).op (by unfold P5;split<;>omega) k V aj).aP ?_⟩
  rintro _ m9 ⟨rfl,F,W⟩
  have en:Jk (my a (dX a df) k) (qA a (bq a k (dX a df))).op (P5 (tq a (bq a k (dX a df)))) (bq a (k+1) (dX a df))=my a (dX a df) (k+1):=by
   rw[ou,Zf y m (Od a k)];rfl
  rw[en]at F
  have aw:=j.de.aQ
  refine⟨W.fg (λf h=>⟨by have:=o f h;omega,oh (o f h)⟩),al (k+1) m9 ⟨V,λq N=>?_,F,Y,am,S,I,j.Vp X W,X⟩ cC⟩
  grind [Nat.lt_or_ge]
 .have m:(bq a k (dX a df)).dx≠3:=cC
  refine⟨_,g.dg 0,_,g.dg 1,_,g.dg 2,_,g.dg 3,_,g.dg 4,_,g.dg 5,_,g.dg 6,_,g.dg 7,?_⟩
  intro m7
  rw[zC P m ai]
  exact⟨O,(A.N i.de).aW V _ _⟩
structure Sta where
 c:oW
 ok:Bool
open Classical in
noncomputable def tB (a:cO) (df:Int):Sta:=
 if gL a/\0<=df/\df<=40 then⟨vS a df,true⟩else⟨⟨0,0,0,0,0,0,0,0⟩,false⟩
def OA(o:iW b d p a)(df:Int):yB dP 15 [.agg #[d.v,p.v],vi df] b (.tuple #[Ra (tB a df).c,vb (tB a df).ok]):=by
 apply Jt;simp -zeta only[dT];intro s l;have e:J b l:=((J.cX b).cz _).cz _;have A:=pz s;have B:l.size=b.size+2:=cC;have k:∀c∈[s.size,b.size],c<l.size:=cC;have t:¬(gL a/\0<=df/\df<=40)->(.tuple #[.agg #[vi 0,vi 0,vi 0,vi 0,vi 0,vi 0,vi 0,vi 0],vb false]:Value)=.tuple #[Ra (tB a df).c,vb (tB a df).ok]:=λu=>by
  rw[tB,aV u];rfl
 refine(J5 (o.ext e)).bL dt k λc w g m _=>⟨c,O,λh=>⟨t (λj=>nb g h j.1),(e.N m).aW V _ _⟩,λh=>?_⟩;have r:=yb g h;refine(dm).bL m k λb2 x n v f=>⟨b2,O,λi=>⟨t (λj=>nb n i j.2),(e.N f).aW V _ _⟩,λi=>?_⟩;have q:=yb n i;refine(O6 (o.ext (e.N f)) r q).aP ?_;rintro _ y ⟨rfl,j⟩;refine⟨j.fg (λc g=>f.lt (k c g)),_,_,_,_,_,_,_,_,O,?_⟩;intro z;refine⟨?_,(e.N (f.N j)).aW V _ _⟩;rw[tB,a8 ⟨r,q⟩];rfl
end
def CO{f:D}{r u:E}{a:cO}(ab:iW f r u a)(df:Int):yB dP 14 [.agg #[r.v,u.v],vi df] f (.tuple #[Ra (tB a df).c,vb (tB a df).ok]):=by
 apply I8;simp -zeta only[dT];intro H Y;have ap:J f Y:=((J.cX f).cz _).cz _;have s1:=pz H;have s2:Y.size=f.size+2:=by simp[Y,s1]
 have kI:dJ Y f.size mj [.s r,.s u]:=(dJ.push f _ _).ext (J.push H _);have hl:∀g∈[H.size,f.size],g<Y.size:=fu;have no:∀{h:D},J Y h->¬(gL a/\0<=df/\df<=40)->((.tuple #[.agg #[vi 0,vi 0,vi 0,vi 0,vi 0,vi 0,vi 0,vi 0],vb false]:Value)=.tuple #[Ra (tB a df).c,vb (tB a df).ok]/\
  J f (aW h H.size 0 [.i 0,.i 0,.i 0,.i 0,.i 0,.i 0,.i 0,.i 0])):=λA bc=>by
  rw[tB,aV bc];exact⟨O,(ap.N A).aW V _ _⟩
 refine(sQ (ab.ext ap)).bL dt hl λg h l A _=>⟨g,O,λW=>no A (λp=>nb l W p.1),λW=>⟨λh5=>no A (λp=>by simp at h5;omega),λh5=>⟨λX=>no A (λp=>by simp at X;omega),λX=>?_⟩⟩⟩;have S:=yb l W;have hm:0<=df/\df<=40:=by simp at h5 X;omega
 have aE:=ap.N A;have s3:=A.aQ;have ac:=ab.ext aE;have aq:=kI.ext A;have ht:=S.kX.dj;have cc:∀{M:D},J h M->yB dP 25 [r.v] M (vi (cT a)):=λQ=>uY (ac.ext Q).bR ht.aT (λc hd=>Tq ht c hd);have ks:∀{M d:D},J h M->J M d->(aS d f.size 0=aS M f.size 0/\aS d f.size 1=aS M f.size 1):=λz U=>⟨U.cK ((aq.ext z).dg 0),U.cK ((aq.ext z).dg 1)⟩;have sm:∀{M d:D},J h M->J M d->gT [H.size,f.size] M d:=λz U=>U.fg λg l=>z.lt (A.lt (hl g l));have ax:∀{M d:D}{nb:Nat},J h M->J M d->nb<M.size->gT [nb,H.size,f.size] M d:=λz U ba=>U.fg λg l=>by
  rcases aZ.1 l with rfl|l
  .exact ba
  .exact z.lt (A.lt (hl g l))
 have be:(tB a df)=⟨vS a df,true⟩:=by rw[tB,a8 ⟨S,hm⟩]
 rw[be];let K0:Nat×Nat->D->Prop:=λbi e=>∃(M:D)(av:ag)(i:Nat)(j:E),bi=(i,0)/\J h M/\uH M av e i dq (IB r u (cT a) (dX a df) .nil .nil j) .nil .nil j [] [] [ct a 0 0 []]/\j.len=1/\M.size<=i;have ar:∀{M e:D}{j:E}{b1 b2 b3 b4 c i:Nat},J h M->j=.mk b4 0 1 1->tR M e b1 b2 b3 c (ct a 0 0 []).aU (ct a 0 0 []).bF (ct a 0 0 []).cL->(b4≠b1/\b4≠b2/\b4≠b3/\M.size<=b4/\b4<e.size)->dJ e b4 gS [.i 0,.i 0,.i 0,.s (.mk b1 0 c c),.s (.mk b2 0 c c),.s (.mk b3 0 c c)]->
  (M.size<=i/\i≠b1/\i≠b2/\i≠b3/\i≠b4)->dJ e i dq ([.s r,.s u,.i (cT a)]++[.i 3,.i 0,.i 0,.i df,.s .nil,.s .nil,.s j])->K0 (i,0) e:=λQ n N ae T ah kb=>⟨_,_,_,_,O,Q,Zr n N ae T ah kb,by rw[n];rfl,ah.1⟩
 refine⟨K0,⟨(cc dt).aP ?_,?_⟩,?_⟩
 .rintro _ Z ⟨rfl,o⟩;have w:=ks dt o;refine⟨sm dt o,_,O,w.1,w.2,w.1,w.2,?_,?_⟩
  .refine(sV (ac.ext o) S df).aP ?_;rintro _ t ⟨j,rfl,v,b1,b2,b3,b4,c,n,N,ae,T⟩;have C:=ks o v;refine⟨sm o v,_,_,_,_,_,_,_,O,C.1,C.2,?_⟩;intro I;have y:=px I;have q:=ks (o.N v) y;refine⟨q.1,q.2,q.1,q.1,q.2,?_⟩;intro e;have x:J t e:=y.aW bY _ _;have kb:dJ e t.size dq ([.s r,.s u,.i (cT a)]++[.i 3,.i 0,.i 0,.i df,.s .nil,.s .nil,.s j]):=dJ.aW (m:=I) (dJ.push t _ _);have B:=N.lo;have s9:=x.aQ;have s7:=v.aQ;exact ar o n (N.Mh x) V (T.ext x) V kb
  .intro F;obtain⟨y,P⟩:=pu F;have x:=o.N y;have q:=ks o y;have kz:dJ F Z.size dq [.s .nil,.s .nil,.i 0,.i 0,.i 0,.i 0,.i 0,.s .nil,.s .nil,.s .nil]:=dJ.push Z _ _;refine⟨q.1,q.2,q.1,q.1,q.2,?_⟩;refine(sV (ac.ext x) S df).aP ?_;rintro _ G ⟨j,rfl,v,b1,b2,b3,b4,c,n,N,ae,T⟩;have C:=ks x v;refine⟨ax x v V,_,_,_,_,_,_,_,O,C.1,C.2,?_⟩;intro K;have B:=N.lo;have L:=N.bU y bY V 0 [.s r,.s u,.i (cT a),.i 3,.i 0,.i 0,.i df,.s .nil,.s .nil,.s j];have kb:dJ K Z.size dq ([.s r,.s u,.i (cT a)]++[.i 3,.i 0,.i 0,.i df,.s .nil,.s .nil,.s j]):=dJ.aW (m:=G) (kz.ext v);have R:K.size=G.size:=bE _ _ _ _;exact ar o n L V (T.congr (cw _ _ _ _ V)) V kb
 .intro F;obtain⟨q,R⟩:=pu F;have v:=ks dt q;have kz:dJ F h.size dq [.s .nil,.s .nil,.i 0,.i 0,.i 0,.i 0,.i 0,.s .nil,.s .nil,.s .nil]:=dJ.push h _ _;refine⟨v.1,v.2,v.1,v.1,v.2,?_⟩;refine(cc q).aP ?_;rintro _ P ⟨rfl,o⟩;have w:=q.N o;have x:=ks q o;have aa:=o.aQ;refine⟨ax q o V,_,O,x.1,x.2,x.1,x.2,?_⟩;refine(sV (ac.ext w) S df).aP ?_;rintro _ G ⟨j,rfl,y,b1,b2,b3,b4,c,n,N,ae,T⟩;have C:=ks w y;refine⟨ax w y V,_,_,_,_,_,_,_,O,C.1,C.2,?_⟩;intro K;have B:=N.lo;have L:=N.bU w bY V 0 [.s r,.s u,.i (cT a),.i 3,.i 0,.i 0,.i df,.s .nil,.s .nil,.s j];have kb:dJ K h.size dq ([.s r,.s u,.i (cT a)]++[.i 3,.i 0,.i 0,.i df,.s .nil,.s .nil,.s j]):=dJ.aW (m:=G) (kz.ext (o.N y));have ad:K.size=G.size:=bE _ _ _ _;exact ar dt n L V (T.congr (cw _ _ _ _ V)) V kb
 rintro _ e ⟨M,aK,i,j,rfl,Q,R,a9,ah⟩;simp -zeta only[fD];intro q;have zM:=Q.aQ;have z9:=R.de.aQ;obtain⟨bk,bv⟩:=pu q;have w:dJ q e.size sC (NB ⟨0,0,0,0,0,0,0,0⟩):=dJ.push e _ _;have bs:=R.bU.lt;have r0:=R.bI e.size bY;have L:=(R.ext bk).1.abw (J.cX M) r0 V V;refine⟨_,L.bU.dg 3,_,L.bU.dg 4,_,L.bU.dg 5,_,L.bU.dg 6,.nil,L.bU.dg 7,.nil,L.bU.dg 8,j,L.bU.dg 9,?_⟩;refine(NJ (s:=dX a df) w ⟨O,λc P hk=>by simp[dX]at hk⟩ (λo=>absurd O o) (by simp[dX]) (by rw[a9];simp[dX])).aP ?_;rintro _ br ⟨rfl,aX,aG⟩;refine⟨aG.fg fu,?_⟩;have bf:=aE.N Q;have ab:=ac.ext Q;have k0:=Q.aS (aq.dg 1);have a6:f.size<=H.size/\H.size<M.size:=V;have bm:f.size<M.size:=V;have ah:i≠e.size:=V;have a0:=L.Vp iE aG;have r2:=iE (g:=aK) (b:=e.size) (k:=9);have aU:=aX;generalize pE aK e.size 9=av at*;generalize e.size=sb at*;generalize H.size=b1 at*;have ao:=Gs S hm;refine YM (λ(c:Nat) m'=>c<=100000/\(∀G,G<c->(bq a G (dX a df)).dx=3)/\dJ m' sb sC (NB (my a (dX a df) c))/\
  ∃y x v o,uH M y m' i dq (IB r u (cT a) (bq a c (dX a df)) x v o) x v o (bq a c (dX a df)).cJ (bq a c (dX a df)).aR (bq a c (dX a df)).bo/\y sb=9)
  (λc=>100000 -c) 0 ⟨jh _,λG hj=>absurd hj (Om _),aU,av,.nil,.nil,j,a0,r2⟩ ?_
 rintro c h aY μ ⟨hk,aC,x,bj,bt,bo,aj,y,r3⟩ bh
 have aB:=Bm c ao;have af:=Bn c ao (Gt a df) V;have aD:=Np a (dX a df) c;refine⟨_,y.bU.dg 3,λz=>?_,λz=>?_⟩
 .have aa:(bq a c (dX a df)).dx=3:=sp z;have bn:=QJ S hm hk aa;let⟨fs,ad,aI,aF,ay,pc,a1,G,hf,F,ea⟩:=y.cur ab aB aa af.Mi;have hl:=F.frl;have hs:=F.sm;have e1:eV ((aj.len:Int) -1)=(fs.length:Int):=by rw[gJ];omega
  have e2:Int.toNat (fs.length:Int)=fs.length:=V;have g9:=y.bU.dg 9;refine⟨aj,g9,aj,g9,?_⟩;rw[e1,e2];refine⟨V,V,_,F.g0,_,F.g1,_,F.g2,aI,F.g3,aF,F.g4,ay,F.g5,?_⟩;intro m4 B;obtain⟨x5,s5⟩:=pv B;have kF:dJ B h.size gS [.i ad.fN,.i ad.pc,.i ad.bA,.s aI,.s aF,.s ay]:=dJ.aW (m:=m4) (dJ.push h _ _);clear_value B;have o:=F.ext x5;refine⟨F.fN.1,F.fN.2,pc,o.cD,F.pcb.1,F.pcb.2,_,o.i0,_,o.i1,_,o.i2,_,o.i3,a1,o.i4,G,o.i5,?_⟩;intro Z;have v:=px Z;have bg:=x5.aS (y.de.aS k0);refine⟨v.cK o.i0,v.cK o.i1,v.cK o.i2,v.cK o.i3,v.cK o.i4,v.cK o.i5,v.cK (kF.dg 1),v.cK o.cD,v.cK (kF.dg 0),v.cK bg,?_⟩;intro t;have x7:J B t:=v.aW bY _ _;have s7:t.size=B.size+1:=by simp[t,Z,bE]
  clear_value t;have aT:=x5.N x7;refine⟨λg m'=>g=tq a (bq a c (dX a df))/\m'=t,⟨λq6=>⟨λq7=>?_,λq7=>?_⟩,λq6=>?_⟩,?_⟩
  .have X:(qA a (bq a c (dX a df))).op=6:=sp q6;let⟨p1,p2⟩:=F.cR X;have am:=F.pJ;have h7:(qA a (bq a c (dX a df))).cR≠0:=sp q7;have al:=F.cL.aT;let⟨ai,hy⟩:=dY ad.cL (((qA a (bq a c (dX a df))).cR -1).toNat);have K:=IV hy;rw[gJ,aV V];refine⟨V,V,ai,(o.ext x7).cL.br hy,?_,O⟩;rw[ea];by_cases C:ai=0
   .rw[On (λp=>p.2.2 ((K▸C)))];simp[C]
   .rw[decide_eq_true (show _/\_/\_ from⟨X,h7,(K▸C)⟩)];simp[C]
  .refine⟨?_,O⟩;rw[ea,On (λp=>p.2.1 (sp q7))]
  .refine⟨?_,O⟩;rw[ea,On (λp=>by simp at q6;exact q6 p.1)]
  rintro _ M7 ⟨rfl,a3⟩;have a4:=a3.symm;subst a4;obtain⟨L7,_⟩:=y.ext aT;have B7:=x.ext aT;have z7:=B7.lt;have zb:=x.lt;have aA:Eb bj t [B.size,h.size,b1,f.size]:=λg l=>by
   simp at l;rcases l with rfl|rfl|rfl|rfl
   .exact⟨V,y.bI _ V⟩
   .exact⟨V,y.bI _ V⟩
   .exact⟨V,y.mT _ V⟩
   .exact⟨V,y.mT _ V⟩
  have az:∀g∈[B.size,h.size,b1,f.size],g<t.size/\g≠sb:=λg l=>⟨(aA g l).1,by simp at l;omega⟩;refine(TH L7 ab aB af.Mi (oh af.aR) (oh af.cJ)).aP ?_;rintro _ I ⟨aJ,aH,an,al,L8,t8⟩;have z8:=t8.aQ;have B8:=B7.congr (t8.fH _ z7 (by rw[r3];simp));have r8:aJ sb=9:=((t8.jZ _ z7)▸r3);rw[<-ou]at L8;have a5:=Bn (c+1) ao (Gt a df) V;have bp:=aD.bq;refine⟨t8.fW aA,_,B8.dg 0,B8.gK (by simp[NB]),?_⟩;rw[gJ];intro e;have o9:gE sb I e:=(gE.cX sb I).aW _ _;have B9:dJ e sb sC (NB {my a (dX a df) c with bq:=(my a (dX a df) c).bq+1}):=B8.aW (m:=f);have R:=L8.Vp r8 o9;have s9:e.size=I.size:=bE _ _ _ _;have am:∀{d:D},I.size<=d.size->∀g∈[B.size,h.size,b1,f.size],g<d.size/\g≠sb:=λhM g l=>⟨by have:=(az g l).1;omega,(az g l).2⟩;have a7:al.len=(bq a (c+1) (dX a df)).bo.length:=by
   let⟨bl,n⟩:=L8.bo;have:=n.rm.aT;rw[eD n.aQ,n.aT]at this;omega
  have a_:(bq a (c+1) (dX a df)).aR≠[]->an.bt≠sb:=λbb a2=>by
   have:=(L8.aR.bt (Sf.2 bb)).1;rw[a2,r8]at this;omega
  have jX:∀{d:D}{P:oW},gE sb I d->dJ d sb sC (NB P)->Uw P (bq a (c+1) (dX a df))=my a (dX a df) (c+1)->
   ∃aL:Int,aS d i 3=some (vi aL)/\∃aM:Int,aS d i 4=some (vi aM)/\∃aN:Int,aS d i 5=some (vi aN)/\∃aO:Int,aS d i 6=some (vi aO)/\
   ∃aP:E,aS d i 7=some aP.v/\∃aQ:E,aS d i 8=some aQ.v/\∃aR:E,aS d i 9=some aR.v/\
   bJ dP 36 [vp sb 0,.agg #[vi aL,vi aM,vi aN,vi aO,aP.v,aQ.v,aR.v]] d λbu au=>
   gT [B.size,h.size,b1,f.size] d au/\aY au/\μ au<μ h:=λ{d P} oM BM n=>by
   have C:=L8.Vp r8 oM
   refine⟨_,C.bU.dg 3,_,C.bU.dg 4,_,C.bU.dg 5,_,C.bU.dg 6,aH,C.bU.dg 7,an,C.bU.dg 8,al,C.bU.dg 9,(NJ BM C.aR.ni a_ (oh a5.aR) a7).aP ?_⟩
   rintro _ q ⟨rfl,w,K⟩
   rw[n]at w
   refine⟨K.fg (am oM.aQ),bh (c+1) q ⟨V,λG hj=>?_,w,aJ,aH,an,al,C.Vp r8 K,r8⟩ V⟩
   rcases eH G c with W|W
   .exact aC G W
   .have:G=c:=V
    rw[this];exact aa
  have es:∀P,(if(bq a (c+1) (dX a df)).dx=3\/(bq a (c+1) (dX a df)).dx=0 then uN {my a (dX a df) c with bq:=(my a (dX a df) c).bq+1} (qA a (bq a c (dX a df))).op (tq a (bq a c (dX a df)))else{my a (dX a df) c with bq:=(my a (dX a df) c).bq+1})=P->
   Uw P (bq a (c+1) (dX a df))=my a (dX a df) (c+1):=λP n=>by
   rw[<-n,ou];rfl
  have US:∀{ai:ak},(∀q,gE sb I q->dJ q sb sC (NB (uN {my a (dX a df) c with bq:=(my a (dX a df) c).bq+1} (qA a (bq a c (dX a df))).op (tq a (bq a c (dX a df)))))->gT [B.size,h.size,b1,f.size] e q->ai (.tuple #[]) q)->
   bJ dP 37 [vp sb 0,vi (qA a (bq a c (dX a df))).op,vb (tq a (bq a c (dX a df)))] e ai:=λ{ai} hK=>by
   have bd:UE (c+1) {my a (dX a df) c with bq:=(my a (dX a df) c).bq+1}:=by
    let⟨t1,t2,t3,t4,t5⟩:=aD;exact⟨by simp only[];omega,by simp only[];omega,by simp only[];omega,by simp only[];omega,by simp only[];omega⟩
   refine(RL B9 (c+1) V bd).aP ?_
   rintro _ q ⟨rfl,w,K⟩
   exact hK q (o9.N K) w (K.fg (am (D0 s9.symm)))
  refine⟨o9.fg (am bY),_,R.bU.dg 3,λq1=>?_,λq1=>⟨_,R.bU.dg 3,λq2=>?_,λq2=>?_⟩⟩
  .refine US λq K w aw=>⟨aw,jX K w (es _ ?_)⟩;rw[a8 (bz (sp q1))]
  .refine US λq K w aw=>⟨aw,jX K w (es _ ?_)⟩;rw[a8 (bH (sp q2))]
  .refine jX o9 B9 (es _ ?_);rw[aV (λp=>by simp at q1 q2;rcases p with p|p;exact q1 p;exact q2 p)]
 .have aa:(bq a c (dX a df)).dx≠3:=sp z;refine⟨_,x.dg 0,_,x.dg 1,_,x.dg 2,_,x.dg 3,_,x.dg 4,_,x.dg 5,_,x.dg 6,_,x.dg 7,?_⟩;intro t;rw[zC hk aa aC];exact⟨O,(bf.N y.de).aW a6.1 _ _⟩
def TBE:TT:=TBL++[(1000040,⟨.tuple [],[],0⟩)]
def adU:yA dP TBE:=by
 unfold yA;kernel_rfl
def xV(b:Int)(c:Int)(d:Int)(e:Int)(f:Int)(g:Int)(h:Int)(i:Int)(j:Int)(k:Int)(l:Int)(n:Int)(o:Int)(p:Int)(q:Int)(r:Int)(m:D)(R:ak):Prop:=
 let a:D:=m.push (.cells (dh [.i b,.i c,.i d,.i e,.i f,.i g,.i h,.i i]) 40)
 let s:D:=a.push (.cells (dh [.i j,.i k,.i l,.i n,.i o,.i p,.i q,.i r]) 40)
 NE m.size m.size (
 NE a.size a.size (
 R (vb (b==j&&(c==k&&(d==l&&(e==n&&(f==o&&(g==p&&(h==q&&(i==r&&true))))))))) s))
def Dt(a:Int)(b:Int)(d:Int)(e:Int)(f:Int)(g:Int)(h:Int)(i:Int)(j:Int)(k:Int)(l:Int)(m:Int)(o:Int)(p:Int)(q:Int)(r:Int)(s:D)(R:ak)(t:xV a b d e f g h i j k l m o p q r s R):bJ dP 16 [.agg #[vi a,vi b,vi d,vi e,vi f,vi g,vi h,vi i],.agg #[vi j,vi k,vi l,vi m,vi o,vi p,vi q,vi r]] s R:=
 vk (o:=⟨[],[],[]⟩) (d:=8) (r:=[.tmp 4]) (a:=[.agg [.i a,.i b,.i d,.i e,.i f,.i g,.i h,.i i],.agg [.i j,.i k,.i l,.i m,.i o,.i p,.i q,.i r]]) adU gok mix Tryz.func16 (m:=Me Tryz.f16) (by kernel_rfl) (by kernel_rfl) (by kernel_rfl) (by kernel_rfl) bO (by kernel_rfl) (Eq.mp (by kernel_rfl) t)
section
def St.kM(s:St)(n:Int):St:={s with df:=n}
variable{a:cO}{s:St}{f:bS}{x:Instr}{o:ab}{b:aj}
def iN.kM{n:Int}(h:iN a s f x o):iN a (s.kM n) f x o:=⟨h.nn,h.bA,h.nZ,h.jM,h.cW,h.mQ,h.qv,h.apply,h.WQ,h.uV,h.AL,h.pV,h.ta⟩
@[grind cases] structure af2 (s t:St):Prop where
 df:t.df=s.df
 dv:s.dv<=t.dv
 cJ:s.cJ<+:t.cJ
 dx:t.dx=s.dx\/t.dx=0
end
section
def nz:ah->Int
 |[]=>0
 |c::h=>(if c.bX=0 then 0 else 1)+nz h
variable{a:cO}{s:St}{f:bS}{x:Instr}{bF:ab}{b:aj}
@[grind cases] structure af6 (c:oW) (s:St):Prop where
 nz:nz s.aR<=c.jD
 oa:c.oa<=c.jD
 eG:1<=c.eG/\c.eG<=s.dv+1
 gV:0<=c.gV/\(c.gV=0<->c.jD=0)
def PU(a:cO)(s:St):∀n,(bq a n s).dx≠3->∃k,k<=n/\(bq a k s).dx≠3/\∀j,j<k->(bq a j s).dx=3
 |0,h=>⟨0,bY,h,λj d=>V⟩
 |n+1,h=>by
  by_cases b:(bq a n s).dx=3
  .refine⟨n+1,bY,h,λj d=>fQ λc=>?_⟩;have e:n=j+(n -j):=V;rw[e,SW,vz _ c]at b;exact c b
  .let⟨k,d,c⟩:=PU a s n b;exact⟨k,V,c⟩
end
section
variable{m:D}
def sW(c:oW):yB dP 16 [Ra c,Ra c] m (vb true):=by
 apply Dt;unfold xV;simp -zeta only[dT];intro d a;have b:J m a:=((J.cX m).cz _).cz _;exact⟨bO,b⟩
def Js{cD:E}(h:Kh m cD):bJ dP 13 [cD.v] m (DR [] m):=by
 apply Ci;simp -zeta only[dT];intro n;obtain⟨c,t⟩:=pu n;refine(Dw (a:=[m.size]) (h.ext c) fu).aP λ_ o⟨d,p,l,k,f,a,e⟩=>⟨e.fg fu,d,p,k,f,?_⟩;intro q;have b:Le (di [m.size] o) (di [] q):=λr s v j=>by
  let⟨g,i⟩:=gY.1 j;exact gY.2 ⟨bO,(bD (cw _ _ _ _ (sp g)) _).trans i⟩
 exact⟨d,p,l,k,O,⟨a.bR.le b,ly.le b a.cU⟩,(c.N e).aW bY _ _⟩
def adT{a:cO}{df:Int}(h:(tB a df).ok=true):(gL a/\0<=df/\df<=40)/\tB a df=⟨vS a df,true⟩:=by
 have b:gL a/\0<=df/\df<=40:=by
  apply fQ;intro c;rw[tB,aV c]at h;simp at h
 exact⟨b,a8 b⟩
end
section
variable{b:List ae}
def Cl{α:Type}(S:ad)(d c:D)(e a:Nat)(R:D->ae->α->Prop)(s:E)(l:List α):Prop:=∃b,js d c e a s b.flatten/\fL a (R (di (s.bt::S) c)) b l
variable{α:Type}{S X:ad}{d c f M g:D}{e a k o:Nat}{R:D->ae->α->Prop}{s:E}{l:List α}{x:α}{new:ae}
theorem Zo{a:ae}(h:new.length=a.length):jm a 0 new=new:=by
 have:=Cd [] new a V;grind [List.length_nil,List.drop_of_length_le]
theorem _root_.Go.Vc.js.nn(h:js d c e a s b.flatten)(g:∀f∈b,f.length=a)(j:0<a)(f:b≠[]):s≠.nil:=λi=>by
 have:=h.aT;rw[i,eD g,show E.nil.len=0 from O,Nat.zero_mul]at this;have:=Nat.mul_pos (Sf.2 f) j;omega
def Cl.aT(h:Cl S d c e a R s l)(i:0<a):s.len=l.length:=by
 let⟨b,f,g⟩:=h;have:=f.aT;rw[eD g.aQ]at this;grind [fL.aT,Nat.eq_of_mul_eq_mul_right]
def Cl.gr(h:Cl S d c e a R s l)(j:0<a)(i:l≠[]):Gr S d c e a R s l:=
 ⟨by obtain⟨b,f,g⟩:=h;exact f.nn g.aQ j λk=>i (cp.1 cC),h⟩
def Cl.cB(i:qF a R)(h:Cl S d c e a R s l)(j:∀f∈S,f<d.size)(m:0<a)(k:l.length<=9223372036854775807):fY (di S c) a (R (di S c)) s l:=by
 let⟨b,f,g⟩:=h;grind [fY.Qq,fL.aP,kW,List.mem_cons_of_mem]
theorem Cl.of(g:qF a R)(k:0<a)(d:js c f e a s b.flatten)(j:J c f)(i:fL a (R (di S c)) b l):Cl S c f e a R s l:=by
 refine⟨b,d,?_⟩;by_cases h:b=[]
 .grind [List.length_eq_zero_iff,fL.aT,fL.gF]
 .grind [js.bt,js.nn,fL.aQ,fL.aP,J.di]
def _root_.Go.Vc.Gr.Qv(A:Gr S d c e a R s l)(F:l[k]? =some x)(E:o+new.length<=a):
 ∃f,f.length=a/\R (di (s.bt::S) c) f x/\aW c s.bt (s.off+k*a+o) new=aW c s.bt (s.off+k*a) (jm f o new)/\gK c s.bt (s.off+k*a+o) new.length/\∀i j,new[i]? =some j->aS (aW c s.bt (s.off+k*a+o) new) s.bt (s.off+k*a+o+i)=some j.v:=by
 let⟨B,b,C,g⟩:=A
 let⟨q,j,tail,t,H,n,I,J⟩:=C.br.resolve_left B
 let⟨f,h⟩:=dY b k cC
 have D:=g.aQ f (ba h)
 have v:s.off=0:=by rw[t];rfl
 have u:s.bt=q:=by rw[t];rfl
 have Mi:k*a+o+new.length<=b.flatten.length:=by
  rw[eD g.aQ];have:(k+1)*a<=b.length*a:=fq _ (bC h);grind [Nat.add_mul]
 have G:(jm f o new).length=a:=by grind [mw]
 refine⟨f,D,g.eR k f x h F,?_,?_,λi j M=>?_⟩
 .rw[v,u,fD]
  have p:=dJ.aW (m:=c) (o:=k*a+o) (r:=new) n
  have w:=dJ.aW (m:=c) (o:=k*a) (r:=jm f o new) n
  have z:jm (b.flatten++tail) (k*a+o) new=jm (b.flatten++tail) (k*a) (jm f o new):=by
   rw[sq _ _ _ _ Mi,sq _ _ _ _ (by rw[G];rw[eD g.aQ];have:(k+1)*a<=b.length*a:=fq _ (bC h);rw[nC]at this;omega)];have K:=xz b k f o new g.aQ h E;have L:=xz b k f 0 (jm f o new) g.aQ h V;grind [Zo]
  rw[z]at p
  apply Gy
  intro i
  by_cases y:i=q
  .rw[y];exact p.trans w.symm
  grind [cw]
 .grind [dJ.gK,List.length_append]
 .rw[v,u,fD,(dJ.aW (m:=c) (o:=k*a+o) (r:=new) n).dg,Ff,a8 cC]
  grind
theorem Cl.br(m:Cl S d c e a R s l)(p:l[k]? =some x):∃f,R (di (s.bt::S) c) f x/\∀i g,f[i]? =some g->aS c s.bt (s.off+k*a+i)=some g.v:=by
 let⟨b,n,h⟩:=m;let⟨f,j⟩:=dY b k cC;refine⟨f,h.eR k f x j p,λi g o=>?_⟩;have:=n.kv (k*a+i) g (j9 h.aQ j o);grind [Nat.add_assoc]
def Cl.cE(I:qF a R)(U:0<a)(t:Cl S d M e a R s l)(hx:l[k]? =some x)(Q:o+new.length<=a)(X:J M f)(v:g[s.bt]? =(aW f s.bt (s.off+k*a+o) new)[s.bt]?)(N:∀h,h<M.size->h≠s.bt->g[h]? =M[h]?)
 (Z:∀c,c.length=a->R (di (s.bt::S) M) c x->R (di (s.bt::S) g) (jm c o new) x):Cl S d g e a R s l:=by
 have P:l≠[]:=cC
 have G:=(t.gr U P)
 let⟨b,u,j⟩:=t
 let⟨c,p⟩:=dY b k cC
 have hl:=j.aQ c (ba p)
 have lr:(jm c o new).length=a:=by grind [mw]
 have L:=bC p
 have Mi:k*a+o+new.length<=b.flatten.length:=by
  rw[eD j.aQ];have:(k+1)*a<=b.length*a:=fq _ L;grind [Nat.add_mul]
 have V:=u.ext X
 let⟨h,i,tail,n,C,D,E,F⟩:=V.br.resolve_left G.iY
 have W:s.off=0:=by rw[n];rfl
 have H:s.bt=h:=by rw[n];rfl
 have O:Le (di (s.bt::S) M) (di (s.bt::S) g):=mH λh K y=>⟨y,N h K λe=>y (by simp[e])⟩
 have A:∀i∈b.set k (jm c o new),i.length=a:=λi hc=>by
  grind [List.mem_or_eq_of_mem_set,fL.aQ]
 have q:(b.set k (jm c o new)).flatten.length=b.flatten.length:=by rw[eD A,eD j.aQ,Zz]
 refine⟨b.set k (jm c o new),⟨by rw[q];exact u.aT,bH ⟨h,i,tail,n,C,?_,by rw[<-E,dC,dC,q],F⟩⟩,by simp[j.aT],A,λz i Y w T=>?_⟩
 .have B:=dJ.aW (m:=f) (o:=k*a+o) (r:=new) D
  rw[sq _ _ _ _ Mi,xz b k c o new j.aQ p Q]at B
  rw[W,H,fD]at v
  exact v.trans B
 .by_cases B:k=z
  .grind [List.getElem?_set_self,fL.eR]
  .rw[jf B]at w
   exact I.le O (j.eR z i Y w T)
end
section
variable{S:ad}{m M:D}{d p s:E}{a:af}{b:av}
def Le.Fb{l:ae}{b o:Nat}(h:jw (di S m) b o l):jw m b o l:=λi c a=>(gY.1 (h i c a)).2
def Hl{l:List ab}(h:rX (di S m) s l)(d:l.length<=1000000):bJ dP 114 [s.v] m λv a=>∃r,v=r.v/\Cl S m a ns 1 nD r l/\J m a:=by
 have⟨b,r,c⟩:=h.Xr λ_ _=>nD.aP.aT;have K:bJ dP 114 [s.v] m λv a=>∃r,v=r.v/\js m a ns 1 r b.flatten/\J m a:=by
  apply rO;exact Tn (b:=[.s .nil]) h.aT r.aT r.aQ (Le.Fb c) V
 grind [bJ.aP,Cl.of,nD.aP]
def Fh(h:dw (di S m) s a)(e:a.length<=1000000):bJ dP 113 [s.v] m λv b=>∃r,v=r.v/\Cl S m b kN 3 jO r a/\J m b:=by
 have⟨c,r,d⟩:=h.Xr λ_ _=>jO.aP.aT;have K:bJ dP 113 [s.v] m λv b=>∃r,v=r.v/\js m b kN 3 r c.flatten/\J m b:=by
  apply qQ;exact Tn (b:=[.i 0,.i 0,.s .nil]) h.aT r.aT r.aQ (Le.Fb d) V
 grind [bJ.aP,Cl.of,jO.aP]
def Dv{l:List Instr}(h:iz (di S m) s l)(d:l.length<=1000000):bJ dP 63 [s.v] m λv a=>∃r,v=r.v/\Cl S m a ee 6 eW r l/\J m a:=by
 have⟨b,r,c⟩:=h.Xr λ_ _=>eW.aP.aT;have K:bJ dP 63 [s.v] m λv a=>∃r,v=r.v/\js m a ee 6 r b.flatten/\J m a:=by
  apply p7;exact Tn (b:=[.i 0,.i 0,.i 0,.i 0,.s .nil,.s .nil]) h.aT r.aT r.aQ (Le.Fb c) V
 grind [bJ.aP,Cl.of,eW.aP]
def PD{l:ab}(h:bg (di S m) s l)(d:l.length<=1000000):bJ dP 62 [s.v] m λv b=>∃r,v=r.v/\(∀a,(∀c∈a,c<m.size)->bg (di a b) r l)/\J m b:=
 (lG (h.le fJ) V).aP λ_ b⟨r,e,o,x⟩=>⟨r,e,λa c=>bg.Qq c o V,x⟩
def KJ(Z:∀g∈S,g<m.size)(hd:dw (di S m) d a)(I:eT a):bJ dP 61 [d.v] m λL m'=>∃s,L=s.v/\dw (di S m') s a/\J m m':=by
 apply Dg;simp -zeta only[dT];have h4:=I.aT;refine(Fh hd V).aP ?_;rintro _ m1 ⟨r,rfl,R,x1⟩;have aw:=R.aT cH;refine⟨r,O,iC (n:=a.length) V (λp M=>J m M/\Cl S m M kN 3 jO r a) ⟨x1,R⟩ ?_⟩;rintro p M am μ hk ⟨xM,C⟩ aj
 refine⟨λe=>?_,λe=>⟨r,O,C.cB jO.aP Z cH V,xM⟩⟩;simp only[bh]at e;let⟨x,h⟩:=dY a p;have ah:a≠[]:=λe=>by rw[e]at h;simp at h
 have G:=C.gr cH ah;have hy:=G.cF;have ap:=mU I h;obtain⟨an,⟨Y,rfl,F⟩,E⟩:=C.br h;have av:=F.aT;refine⟨V,V,_,E 0 _ O,_,E 1 _ O,Y,E 2 _ O,?_⟩;intro ax k;obtain⟨j,-,s3⟩:=kZ (a:=k) O O O;have aa:∀b∈r.bt::S,b<M.size:=λb c=>by
  rcases aZ.1 c with e|e
  .omega
  .have:=Z b e;omega
 refine(Hl (F.le j.eX λ_ _=>nD.aP.le j.eX) V).aP ?_;rintro _ v ⟨g,rfl,B,z⟩;have z4:=z.aQ;have aq:=B.aT cH;have ad:=j.N z;obtain⟨_,_,_,_,al,w'⟩:=(G.ext jO.aP ad).Qv (new:=[.s g]) h (Br 3);refine⟨z.fg fu,g,O,V,V,al,?_⟩;intro l;have q:∀b,b≠r.bt->l[b]? =v[b]? :=λb c=>cw _ _ _ _ c;have z5:l.size=v.size:=bE _ _ _ _;have h5:l[r.bt]? =(aW v r.bt (r.off+p*3+2) [.s g])[r.bt]? :=rfl;have P:=w' 0 _ O;change aS l _ _=_ at P;have X:x.dV≠[]->k.size<=g.bt:=λf=>(B.gr cH f).cF.1;have d5:Cl (r.bt::S) k l ns 1 nD g x.dV:=by
  let⟨W,w,K⟩:=B;by_cases hc:x.dV=[]
  .rw[hc]at K⊢;have:W=[]:=cp.1 (by rw[K.aT];rfl);subst this;refine⟨[],?_,fL.gF _ _⟩;rcases w.bt with e|e
   .subst e;exact⟨w.aT,bz O⟩
   .exact w.congr (q _ V)
  .have:=X hc;exact⟨W,w.congr (q _ V),K.aP λU ae=>nD.aP.le (mH λb c f=>⟨f,q b λe=>f (by simp[e])⟩)⟩
 refine⟨λb c=>q b (by simp at c;omega),iC (n:=x.dV.length) V (λab N=>v.size<=N.size/\(∀b,b<k.size->b≠r.bt->N[b]? =k[b]?)/\N[r.bt]? =l[r.bt]? /\Cl (r.bt::S) k N ns 1 nD g x.dV) ⟨V,λb c f=>(q b f).trans (z.bB b c),O,d5⟩ ?_⟩;rintro ab N I2 μ2 hi ⟨zN,u,H,D⟩ ai;have ac:Le (di (r.bt::S) M) (di (r.bt::S) N):=mH λb c f=>⟨f,(u b V λe=>f (by simp[e])).trans (j.bB b c)⟩;refine dit (λe=>?_) λe=>?_
 .let⟨ae,i⟩:=dY x.dV ab;have f:x.dV≠[]:=λe=>by rw[e]at i;simp at i
  have ar:=X f;have au:=(((I.eR p x h).iY (oh (bC i))).2.2.2 ae (ba i)).1;have T:=D.gr cH f;have ao:=T.cF;have ag:rX (di (r.bt::S) N) Y x.dV:=F.le ac λ_ _=>nD.aP.le ac;let⟨L,hv,gv⟩:=ag.br i;refine⟨V,V,L,(gY.1 gv).2,?_⟩;intro m6 m7;obtain⟨Q,-,s7⟩:=kZ (a:=m7) O O O;have g2:aS m7 r.bt (r.off+p*3+2)=some g.v:=by
   rw[<-bD H]at P;exact Q.aS P
  refine⟨V,V,g,g2,(PD (hv.le Q.eX) V).aP ?_⟩;rintro _ m8 ⟨y,rfl,hq,A⟩;have z8:=A.aQ;have t:=Q.N A;obtain⟨_,_,_,_,ak,-⟩:=(T.ext nD.aP t).Qv (new:=[.s y]) i (Br 1);refine⟨A.fg fu,y,O,bD (A.bB _ V) _,V,V,ak,λb c=>cw _ _ _ _ (by simp at c;omega),ai V _ ⟨by rw[bE];omega,λb c f=>?_,?_,?_⟩⟩
  .rw[cw _ _ _ _ V,t.bB b V];exact u b c f
  .rw[cw _ _ _ _ V,t.bB _ V];exact H
  .refine Cl.cE nD.aP cH D i (o:=0) (new:=[.s y]) (Br 1) t O (λb c f=>by rw[cw _ _ _ _ f];exact t.bB b c) λU _⟨_,e,_⟩=>⟨y,by rw[e];rfl,?_⟩;exact(hq (g.bt::r.bt::S) λb c=>by
    rcases aZ.1 c with e|e
    .omega
    .have:=aa b e;omega).le (dU bO λ_ af=>af)
 .refine aj V _ ⟨⟨V,λb c=>(u b V V).trans (((j.bB b V)▸xM.bB b c))⟩,?_⟩
  refine Cl.cE jO.aP cH C h (Br 3) ad (H.trans h5) (λb c f=>(u b V f).trans (j.bB b c)) λU _⟨_,e,_⟩=>⟨g,by rw[e];rfl,D.cB nD.aP (λb c=>cr (aa b c) j.aQ) cH V⟩
end
section
variable{f z H X:ad}{g v w M k:D}{d B s h a b ks:E}{r:af}{t:av}{c:dS}{j tb u:Nat}{A:ae}{K:D->Prop}
def _root_.Go.Vc.Gr.afL{α:Type}{a h:Nat}{d b:ae}{R:D->ae->α->Prop}{y:α}{K:E->D->Prop}(n:qF d.length R)(q:v.size<=g.size)(o:R (di f g) b y)(p:h<=140737488355328)
 (s:∀r c,Gr f v c a d.length R r [y]->g.size<=r.bt->J g c->K r c):mf (g.push (.cells (dh b) a)) a d h .nil (.mk g.size 0 1 1) K:=by
 have t:=J.push g (.cells (dh b) a)
 have i:=n.aT o
 refine js.fE (f:=g) (c:=d) (i:=b) (l:=[]) (js.gF _ _ _ _) t (sp i) (by have:=(dJ.push g (e:=a) (l:=b)).kv;simpa using this) (sp p) λr c k w m C F G=>?_
 have j:r≠.nil:=λa=>by rw[a]at m;simp at m
 have u:=k.bt.resolve_left j
 refine s r c ⟨j,[b],by simpa using k.de q,O,sp i,λB x H z A=>?_⟩ u w
 grind [J.di]
def sJ.first(N:dw (di f M) h r)(q:∀b∈f,b<M.size)(x:J M k)(C:Gr f w k ee 6 eW ks c.cD)(h8:M.size<=w.size)(P:bg (di (ks.bt::f) k) a c.aY)(d:bg (di (ks.bt::f) k) b c.cW)(B:dJ M j tb A)(hi:u<A.length)
 (l:v.size<=j/\j∈f)(E:∀b∈z,b<k.size/\b≠j)(F:J v M)(Q:∀i e,sJ f v e h i r [(c,ks)]->dJ e j tb (jm A u [.s i])->J v e->K e):
 mf (k.push (.cells (dh [.s a,.s b,.i c.bP,.i c.aU,.s ks]) lE)) lE [.s .nil,.s .nil,.i 0,.i 0,.s .nil] 88 .nil (.mk k.size 0 1 1) λi e=>gT z (k.push (.cells (dh [.s a,.s b,.i c.bP,.i c.aU,.s ks]) lE)) e/\gK e j u 1/\(gT z e (aW e j u [.s i])/\K (aW e j u [.s i])):=by
 have zx:=x.aQ
 have zf:=F.aQ
 have yk:=C.cF
 have aa:∀b∈ks.bt::f,b<k.size:=λb d=>by
  rcases aZ.1 d with g|g
  .omega
  .have:=q b g;omega
 have kx:ks.bt∉f:=λn=>by have:=q _ n;omega
 refine Gr.afL (v:=v) (f:=ks.bt::f) (d:=[.s .nil,.s .nil,.i 0,.i 0,.s .nil]) (y:=hd (c,ks)) RA.aP V ⟨a,b,O,P,d⟩ cH λi e I hr p=>?_
 have s:=(B.ext x).ext p
 have ab:=(B.ext x).lt
 have R:i.bt≠j:=V
 have W:∀b,b≠j->(aW e j u [.s i])[b]? =e[b]? :=λb d=>cw _ _ _ _ d
 have t:Fz [j] k (aW e j u [.s i]):=(p.fz _).aW (bz bO) _ _
 have H:Fz [j] M (aW e j u [.s i]):=(x.fz _).N t
 have ac:(aW e j u [.s i]).size=e.size:=bE _ _ _ _
 have Y:∀b∈i.bt::ks.bt::f,b∈f\/M.size<=b:=λb d=>by
  rcases aZ.1 d with g|g
  .exact bH V
  .rcases aZ.1 g with g|g
   .exact bH V
   .exact bz g
 refine⟨λb d=>?_,s.gK V,λb d=>W b (E b d).2,Q i _ ⟨N.le (H.di (by simp[l.2]) λb d=>Y b (by simpa[Ks]using d)),?_,λG o=>?_,by simp[Ks],λb d=>?_,λn=>?_,λG o n=>?_⟩ (dJ.aW (m:=e) s) ((F.N x).N p|>.aW l.1 _ _)⟩
 .have D:=E b d
  rw[p.bB b D.1,(J.push k _).bB b D.1]
 .have:(Ks [(c,ks)]++f)=ks.bt::f:=rfl
  rw[this]
  exact I.P9 RA.aP ((Fz.cX _ e).aW (bz (by simp:j∈[j])) _ _) (by simp[l.2]) (by simp;exact R)
 .simp at o
  subst o
  let⟨T,D,U,X⟩:=C
  have L:Gr (ks.bt::f) w k ee 6 eW ks c.cD:=⟨T,D,U,X.aP λZ G=>eW.aP.le (kW k λb d=>by
   rcases aZ.1 d with g|g
   .simp[g]
   .exact g)⟩
  exact Gr.de eW.aP (L.re eW.aP t (by simp[l.2]) (by simp;exactλg=>kx (g▸l.2)) λb d=>by
   rcases aZ.1 d with g|g
   .exact bH V
   .exact bz (by simpa[Ks]using g)) (λb d=>bz d) V
 .have:=q b d;have:=p.aQ;omega
 .have:=q _ n;omega
 .simp at o
  subst o
  exact kx n
@[grind cases] structure aa8 (ps:av):Prop where
 iY:ps≠[]
 pP:ps.length<=1000
 eR:∀q∈ps,q.aY.length<=1000/\q.cW.length<=1000/\1<=q.cD.length/\q.cD.length<=1000000/\∀x∈q.cD,x.aO.length<=1000/\x.fU.length<=1000
def I7(hS:∀m∈f,m<g.size)(hd:dw (di f g) d r)(ht:eT r)(hp:ly (di f g) B t)(ok:aa8 t):
 bJ dP 34 [.agg #[E.v d,E.v B]] g λaj v=>∃h c C,aj=.agg #[E.v h,E.v c]/\sJ f g v h c r C/\C.map (·.1)=t/\J g v:=by
 apply BG
 simp -zeta only[kU,nQ]
 have aU:=hp.aT;have aT:=ok.pP
 intro z a2
 let⟨x2,hl⟩:=fV (a:=z) (c:=a2) O O
 have s1:=pz z
 have h1:=hl z.size bO
 refine(KJ (S:=z.size::g.size::f) (λm u=>by
  simp only[aZ]at u;rcases u with e|e|e
  .omega
  .omega
  .have:=hS m e;omega) (hd.le (x2.di λb j=>by
  simp only[aZ]at j;rcases j with e|e|e
  .exact bH V
  .exact bH V
  .exact bz e)) ht).aP λ_ y⟨h,e,s,l⟩=>?_
 subst e
 refine⟨l.fg hl,_,O,?_⟩
 intro m3 Z
 obtain⟨x4,B0,s4⟩:=kZ (a:=Z) O O O
 have u2:=x2.N l
 have z3:=l.aQ
 generalize U:y.size::z.size::g.size::f=S'
 have ay:∀{M:D},Z.size<=M.size->∀b∈S',b<M.size:=λA b j=>by
  rw[<-U]at j;simp only[aZ]at j;rcases j with e|e|e|e
  .omega
  .omega
  .omega
  .have:=hS b e;omega
 have aA:∀b∈S',b∈f\/g.size<=b:=λb j=>by
  rw[<-U]at j;simp only[aZ]at j;rcases j with e|e|e|e
  .exact bH V
  .exact bH V
  .exact bH V
  .exact bz e
 have aI:dw (di S' Z) h r:=s.le (x4.di λb j=>by
  rw[<-U]at j;rcases aZ.1 j with e|e
  .exact bH V
  .exact bz e)
 have mS:y.size∈S':=by rw[<-U];simp
 refine iC (n:=t.length) V (λP M=>J y M/\Z.size<=M.size/\∃c C,dJ M y.size mj [.s h,.s c]/\C.map (·.1)=t.take P/\((C=[]/\c=.nil/\dw (di S' M) h r)\/sJ S' y M h c r C)) ⟨x4,bY,.nil,[],B0,O,bz ⟨O,O,aI⟩⟩ ?_
 rintro P M aF μ hk ⟨xM,zM,c,C,R,W,hA⟩ aO
 have ae:=u2.N xM
 refine dit (λA=>?_) λA=>?_
 .let⟨s,ah⟩:=dY t P
  have⟨k1,k2,k3,k4,k5⟩:=ok.eR s (ba ah)
  let⟨a,b,m,c1,c2,c3,e0,e1,e2,e3,e4⟩:=hp.br ah
  have G:∀{aj:Value}{b I:Nat},aS (di f g) b I=some aj->aS M b I=some aj:=λA=>ae.aS (gY.1 A).2
  obtain⟨H,hH,aG,aH⟩:∃H:ad,(∀b∈H,b<M.size)/\(∀b∈H,b∈f\/g.size<=b)/\((C=[]/\c=.nil/\dw (di S' M) h r/\H=S')\/(sJ S' y M h c r C/\H=c.bt::(Ks C++S'))):=by
   rcases hA with⟨e1,e2,e3⟩|F
   .exact⟨S',ay zM,aA,bz ⟨e1,e2,e3,O⟩⟩
   .refine⟨_,λb j=>?_,λb j=>?_,bH ⟨F,O⟩⟩
    .rcases aZ.1 j with e|e
     .have:=F.g.cF;omega
     .rcases bT.1 e with e|e
      .obtain⟨ag,l,rfl⟩:=fA.1 e;have:=(F.c ag l).cF;omega
      .exact ay zM b e
    .rcases aZ.1 j with e|e
     .have:=F.g.cF;exact bH V
     .rcases bT.1 e with e|e
      .obtain⟨ag,l,rfl⟩:=fA.1 e;have:=(F.c ag l).cF;exact bH V
      .exact aA b e
  refine⟨V,V,_,G e0,_,G e1,_,G e2,_,G e3,_,G e4,?_⟩
  intro m6 m7
  obtain⟨x7,-,s7⟩:=kZ (a:=m7) O O O
  have zl:∀{N:D},m7.size<=N.size->∀m∈[M.size,z.size,g.size],m<N.size:=λA m u=>by
   simp at u;have:=xM.aQ;omega
  have hT:∀{N:D},m7.size<=N.size->∀b∈M.size::H,b<N.size:=λA b j=>by
   rcases aZ.1 j with e|e
   .omega
   .have:=hH b e;omega
  have wu:=ae.aQ
  have lH:∀{N:D},J M N->Le (di f g) (di (M.size::H) N):=λaf=>(ae.N af).di λb j=>by
   rcases aZ.1 j with e|e
   .exact bH V
   .exact aG b e
  refine(PD (c1.le (lH x7)) V).aP ?_
  rintro _ w ⟨r1,rfl,i1,x8⟩
  have z8:=x8.aQ
  have K:∀{k M2:D}{b:Nat},J k M2->b<k.size->∀I,aS M2 b I=aS k b I:=λaf A I=>bD (af.bB _ A) I
  have X8:=x7.N x8
  refine⟨x8.fg (zl bY),r1,O,K x8 V _,K x8 V _,?_⟩
  refine(PD (c2.le (lH X8)) V).aP ?_
  rintro _ X ⟨r2,rfl,i2,x9⟩
  have z9:=x9.aQ
  have X9:=X8.N x9
  refine⟨x9.fg (zl V),r2,O,K x9 V _,?_⟩
  refine(Dv (c3.le (lH X9) λ_ _=>eW.le (lH X9)) V).aP ?_
  rintro _ an ⟨x,rfl,i3,au⟩
  have C8:=au.aQ
  have aV:=i3.aT cH
  have am:s.cD≠[]:=λe=>by rw[e]at k3;simp at k3
  have y3:=(i3.gr cH am).cF
  refine⟨au.fg (zl V),x,O,?_⟩
  intro aL aM ai
  have ar:∀b,b≠M.size->ai[b]? =an[b]? :=λb j=>((cw _ _ _ _ j).trans (cw _ _ _ _ j)).trans (cw _ _ _ _ j)
  have a3:ai.size=an.size:=by simp[ai,aM,aL,bE]
  have aK:Cl (M.size::H) X ai ee 6 eW x s.cD:=by
   obtain⟨al,I,rr⟩:=i3;exact⟨al,I.congr (ar _ V),rr.aP λcs ag=>eW.aP.le (mH λb j l=>⟨l,ar b λe=>l (by simp[e])⟩)⟩
  refine iC (n:=s.cD.length) V (λaB N=>an.size<=N.size/\(∀b,b<X.size->b≠M.size->N[b]? =X[b]?)/\Cl (M.size::H) X N ee 6 eW x s.cD) ⟨V,λb j l=>(ar b l).trans (au.bB b j),aK⟩ ?_
  rintro aB N I2 μ2 hj ⟨zN,hN,ak⟩ aN
  have GC:=ak.gr cH am
  have yC:=GC.cF
  refine dit (λh2=>?_) λh2=>?_
  .let⟨af,Y⟩:=dY s.cD aB
   have⟨f1,f2⟩:=k5 af (ba Y)
   obtain⟨aR,⟨pa,pj,rfl,ha,aJ⟩,T⟩:=ak.br Y
   refine⟨V,V,_,T 0 _ O,_,T 1 _ O,_,T 2 _ O,_,T 3 _ O,_,T 4 _ O,_,T 5 _ O,?_⟩
   intro aW ao
   obtain⟨aD,-,a1⟩:=kZ (a:=ao) O O O
   have aE:∀{N':D},ao.size<=N'.size->∀m∈[N.size,M.size,z.size,g.size],m<N'.size:=λA m u=>by
    rcases aZ.1 u with e|e
    .omega
    .exact zl V m e
   have ax:∀{N':D},ao.size<=N'.size->∀b∈x.bt::M.size::H,b<N'.size:=λA b j=>by
    rcases aZ.1 j with e|e
    .omega
    .exact hT V b e
   refine(PD (ha.le aD.eX) V).aP ?_
   rintro _ aY ⟨r4,rfl,i4,aa⟩
   have a4:=aa.aQ
   have aw:=aD.N aa
   refine⟨aa.fg (aE bY),r4,O,K aa V _,K aa V _,K aa V _,?_⟩
   refine(PD (aJ.le aw.eX) V).aP ?_
   rintro _ aC ⟨r5,rfl,i5,ab⟩
   have a5:=ab.aQ
   have ac:=aw.N ab
   obtain⟨_,_,_,_,aP,-⟩:=(GC.ext eW.aP ac).Qv (o:=4) (new:=[.s r4]) Y bO
   have aq:∀{m:Nat},m∈[N.size,M.size,z.size,g.size]->m≠x.bt:=λu=>by
    simp at u;have:=xM.aQ;omega
   refine⟨ab.fg (aE V),r5,O,K ab V _,K ab V _,V,V,aP,?_⟩
   intro ap
   have Q:∀b,b≠x.bt->ap[b]? =aC[b]? :=λb j=>cw _ _ _ _ j
   have a6:ap.size=aC.size:=bE _ _ _ _
   have av:Cl (M.size::H) X ap ee 6 eW x s.cD:=
    Cl.cE eW.aP cH ak Y bO ac O (λb j l=>(Q b l).trans (ac.bB b j)) λcs _⟨_,j0,e,_,h2⟩=>⟨r4,j0,by rw[e];rfl,(i4 (x.bt::M.size::H) (ax bY)).le (mH λb j l=>⟨l,(Q b λe=>l (by simp[e])).trans (ab.bB b j)⟩),h2.le (mH λb j l=>⟨l,(Q b λe=>l (by simp[e])).trans (ac.bB b j)⟩)⟩
   obtain⟨_,_,_,_,aQ,-⟩:=(av.gr cH am).Qv (o:=5) (new:=[.s r5]) Y bO
   refine⟨λb j=>Q b (aq j),bD (Q _ (aq bO)) _,V,V,aQ,λb j=>cw _ _ _ _ (aq j),aN V _ ⟨by rw[bE];omega,λb j l=>?_,?_⟩⟩
   .rw[cw _ _ _ _ V,Q b V,ac.bB b V];exact hN b j l
   .exact Cl.cE eW.aP cH av Y bO dt O (λb j l=>cw _ _ _ _ l) λcs _⟨a0,_,e,h1,_⟩=>⟨a0,r5,by rw[e];rfl,h1.le (dU bO λ_ A=>A),(i5 (x.bt::M.size::H) (ax V)).le (mH λb j l=>by
     have az:b≠x.bt:=λe=>l (by simp[e]);exact⟨l,by rw[cw _ _ _ _ az];exact Q b az⟩)⟩
  .have xN:J M N:=⟨V,λb j=>by rw[hN b V V];exact X9.bB b j⟩
   have gk:Gr H X N ee 6 eW x s.cD:=by
    let⟨h0,al,I,rr⟩:=GC;exact⟨h0,al,I,rr.aP λcs ag=>eW.aP.le (kW N λb j=>by
     rcases aZ.1 j with e|e
     .simp[e]
     .simp[e])⟩
   have aa:∀{b:Nat},b<X.size->b∉M.size::H->b∉x.bt::H:=λj l u=>by
    rcases aZ.1 u with e|e
    .omega
    .exact l (aX _ e)
   have j1:bg (di (x.bt::H) N) r1 s.aY:=(i1 (M.size::H) (hT bY)).le (mH λb j l=>⟨aa V l,(hN b V λe=>l (by simp[e])).trans (x9.bB b j)⟩)
   have j2:bg (di (x.bt::H) N) r2 s.cW:=(i2 (M.size::H) (hT V)).le (mH λb j l=>⟨aa j l,hN b j λe=>l (by simp[e])⟩)
   have ac:aS N y.size 1=some (E.v c):=(R.ext xN).dg 1
   refine⟨c,ac,?_⟩
   have nb:∀m∈[M.size,z.size,g.size],m<N.size/\m≠y.size:=λm u=>by
    refine⟨zl V m u,?_⟩;simp at u;omega
   have jX:∀Q v l',sJ S' y v h Q r l'->l'.map (·.1)=t.take (P+1)->dJ v y.size mj [.s h,.s Q]->J y v->Z.size<=v.size->aF (eV ((P:Int)+1)) v/\μ (eV ((P:Int)+1)) v<μ P M:=λQ v l' Y e T x' z'=>aO V v ⟨x',z',Q,l',T,e,bH Y⟩
   have ag:∀{v:D},dJ v y.size mj [.s h,.s c]->Z.size<=v.size:=λR=>by have:=R.lt;omega
   rcases aH with⟨rfl,rfl,ab,rfl⟩|⟨F,rfl⟩
   .exact sJ.first (v:=y) (u:=1) (A:=[.s h,.s .nil]) (tb:=mj) (c:=⟨s.aY,s.cW,s.bP,s.aU,s.cD⟩) (z:=[M.size,z.size,g.size]) ab hH xN gk V j1 j2 R bO ⟨bY,mS⟩ nb xM λQ v Y T x'=>jX Q v _ Y (by
     have:=W;simp at this;rw[bW ah,<-W];rfl) T x' (by have:=T.lt;omega)
   .have y:C.length=P:=by have:=jR List.length W;simp at this;omega
    have yq:=F.g.cF
    exact(F.Ch (i:=1) (bc:=[.s h,.s c]) (tb:=mj) (p:=⟨s.aY,s.cW,s.bP,s.aU,s.cD⟩) (L:=[M.size,z.size,g.size]) xN gk V j1 j2 R bO ⟨bY,mS⟩ (λm u=>⟨(nb m u).1,(nb m u).2,by
     have l:=F.nq;rw[<-U]at l;simp only[aZ,CL]at u l;rcases u with e|e|e|e
     .omega
     .omega
     .omega
     .simp at e⟩) V xM λQ v Y T x'=>jX Q v _ Y (by rw[bW ah,kJ,W];rfl) T x' (by have:=T.lt;omega)).2
 .rw[eY V]at W
  refine⟨h,R.dg 0,c,R.dg 1,?_⟩
  intro m
  have l:Fz [z.size] M m:=(Fz.cX _ M).aW (bz bO) _ _
  rcases hA with⟨rfl,_⟩|F
  .exact absurd W.symm ok.iY
  .exact⟨h,c,C,O,F.re l (by rw[<-U];simp) (λb j=>⟨bz (by rw[<-U];simp[j]),by have:=hS b j;have:=l.aQ;have:=ae.aQ;omega⟩) u2.aQ,W,ae.aW V _ _⟩
end
section
variable{a:cO}{s:St}{f:bS}{x:Instr}{bF:ab}{b:aj}
section
variable(h:eJ a s)(e:s.dx=3)(c:(kD a s).dx=3)(d:s.bo=b++[f])
include h e c d
end
def PA{r:Int}(c:0<=r):∀(a bF:ab),(∀v∈a,0<=v/\v<bF.length/\v≠r)->br (fj bF a) r=br bF r
 |[],_,_=>O
 |v::a,bF,h=>by
  have b:=h v cQ;simp only[fj];rw[PA c a _ λu d=>by rw[jE];exact h u (aX _ d),ng b.1 b.2.1 _ c,aV (λe=>b.2.2 e.symm)]
end
section
variable{b:cO}{s:St}{f:bS}{a:aj}
def abF{l:ab}{i:Int}(h:0<=i/\i<l.length)(v:Int):br (iv l i v) i=v:=by grind [ng]
end
section
variable{a:Int}
structure tE where
 lP:Int
 bF:Int
 cW:Bool
 lF:Int
 fr:Int
 Ez:Int
abbrev agc:=List tE
def yM:tE:=⟨-1,0,false,-1,-1,-1⟩
structure Kn where
 aU:agc
 eM:ab
abbrev aq:=List (Option Kn)
def Kn.r(k:Kn)(i:Int):tE:=(k.aU[i.toNat]?).getD yM
inductive rE(k:Kn):Int->Prop
 |wY {i:Int}:0<(k.r i).bF\/(k.r i).cW=true->rE k i
 |qC {i:Int}:0<=(k.r i).fr->rE k (k.r i).fr->rE k i
def Kn.tG(k:Kn)(i:Int)(g:tE->tE):Kn:={k with aU:=k.aU.modify i.toNat g}
def Kn.iA(k:Kn)(i d:Int):Kn:=k.tG i λr=>{r with bF:=r.bF+d}
def Kn.Hj(k:Kn)(d f n:Int):Kn:=k.tG d λr=>{r with fr:=f,Ez:=n}
def Kn.jH(k:Kn)(i c:Int):Kn:=k.tG i λr=>{r with lF:=c}
def tF(d:Int)(r:tE):tE:=if r.fr=d then{r with fr:=-1,Ez:=-1}else r
def Kn.eE(k:Kn)(d t o:Int):Kn:={k with aU:=(k.aU.set d.toNat ⟨t,o,false,-1,-1,-1⟩).map (tF d)}
section
variable{k:Kn}{i j d t o:Int}
def lR{g:tE->tE}:(k.tG j g).aU.length=k.aU.length:=by simp[Kn.tG]
theorem IA{g:tE->tE}(b:0<=j)(a:0<=i):(k.tG j g).r i=if i=j/\i<k.aU.length then g (k.r i)else k.r i:=by
 grind [Kn.r,Kn.tG,List.length,List.getElem?_eq_getElem,List.getElem?_eq_none]
def Cf:(k.eE d t o).aU.length=k.aU.length:=by simp[Kn.eE]
theorem Ts(hd:0<=d){r:tE}(h:r.fr= -1):tF d r=r:=by grind [tF]
theorem QO(hd:0<=d/\d<k.aU.length)(a:0<=i):(k.eE d t o).r i=if i=d then⟨t,o,false,-1,-1,-1⟩else tF d (k.r i):=by
 unfold Kn.r Kn.eE;simp only[eB];by_cases e:i=d
 .grind [List.getElem?_set_self,Ts]
 .rw[aV e,jf V];cases h:k.aU[i.toNat]? with
  |none=>exact(Ts hd.1 O).symm
  |some r=>rfl
end
inductive Wq(h:ah)(b:aj):Int->Prop
 |bF {f:bS} {i:Int}:f∈b->0<=i->0<br f.bF i->Wq h b (br f.aU i)
 |Ez {v w:Int}:Wq h b v->w∈(bu h v).bV->1000<=v->1000<=w->Wq h b w
def rV(b:af)(t a r:Int):Prop:=∃d,1<=t/\b[t.toNat -1]? =some d/\d.dV=[]/\d.qC=a/\d.to=r
def Im(e:cO)(g t:Int):Prop:=if g<cT e then g∈cY e.bR t else∃q a,e.cU[(g -cT e).toNat]? =some q/\q.aY.getLast?=some a/\rV e.bR t a q.bP
def FTy(e:cO)(g:Int):ab:=if g<cT e then da e.bR g else(dE e (g -cT e)).aY.dropLast
def ZC(e:cO)(h:ah)(w t:Int):Prop:=(t=0->w<1000)/\(0<t->iR h w/\Im e (bu h w).jH t)
def HT(e:cO)(h:ah):Prop:=∀v,iR h v->∀(i:Nat)(w t:Int),(bu h v).bV[i]? =some w->(FTy e (bu h v).jH)[i]? =some t->ZC e h w t
def OL(h:ah)(f:bS):Prop:=∀i,0<=i->0<br f.bF i->iR h (br f.aU i)
def FC(h:ah):Prop:=∀v,iR h v->∀w∈(bu h v).bV,1000<=w->iR h w
def ZB(h l:ah):Prop:=∀w,iR h w->iR l w->(bu l w).jH=(bu h w).jH/\(bu l w).bV=(bu h w).bV
@[grind cases] structure FW (im:cO) (h:ah) (fs:aj) (f:bS) (k:Kn):Prop where
 aT:k.aU.length=f.aU.length
 bF:∀i,0<=i->(k.r i).bF=br f.bF i
 qt:∀i,0<=i->(k.r i).lP=0->br f.aU i<1000
 TY:∀i,0<=i->0<(k.r i).lP->1000<=br f.aU i
 jH:∀i,0<=i->rE k i->0<(k.r i).lP->Im im (bu h (br f.aU i)).jH (k.r i).lP
 Tp:∀i,0<=i->0<=(k.r i).lF->1000<=br f.aU i
 lF:∀i,0<=i->rE k i->0<=(k.r i).lF->(bu h (br f.aU i)).jH=(k.r i).lF
 Hc:∀i,0<=i->0<=(k.r i).fr->1000<=br f.aU (k.r i).fr
 qC:∀i,0<=i->0<=(k.r i).fr->rE k (k.r i).fr->(bu h (br f.aU (k.r i).fr)).bV[(k.r i).Ez.toNat]? =some (br f.aU i)
 cW:∀i,0<=i->(k.r i).cW=true->Wq h fs (br f.aU i)
 kp:∀i,0<=i->br k.eM i<0->br f.cL i=0
 yK:k.eM.length=k.aU.length
variable{e:cO}{h l:ah}{b m:aj}{f:bS}{k g:Kn}{w d t o:Int}
def Wq.aP(f:∀g∈b,g∈m)(r:Wq h b w):Wq h m w:=by
 induction r with
 |bF a c e=>exact .bF (f _ a) c e
 |Ez _ c e d g=>exact .Ez g c e d
def Wq.lv(i:∀g∈b,OL h g)(f:FC h)(r:Wq h b w)(j:1000<=w):iR h w:=by
 induction r with
 |bF a c e=>exact i _ a _ c e
 |Ez _ c e d g=>exact f _ (g e) _ c d
theorem Wq.kD(j:∀g∈b,OL h g)(k:∀g∈b,OL l g)(g:FC h)(i:FC l)(m:ZB h l)(r:Wq h b w):Wq l b w:=by
 induction r with
 |bF a e c=>exact .bF a e c
 |Ez r e c d f=>exact .Ez f (by rw[(m _ (r.lv j g c) (f.lv k i c)).2];exact e) c d
def FW.iR(F:FW e h b f k)(m:∀g∈b,OL h g)(l:OL h f)(g:FC h){i:Int}(a:rE k i)(d:0<=i)(j:1000<=br f.aU i):iR h (br f.aU i):=by
 induction a with
 |wY c=>
  rcases c with c|c
  .exact l _ d cC
  .exact(F.cW _ d c).lv m g j
 |qC c a n=>exact g _ (n c (F.Hc _ d c)) _ (ba (F.qC _ d c a)) j
def FW.aeB(F:FW e h b f k)(m:∀g∈b,OL h g)(r:OL h f)(j:FC h)(n:∀g∈b,OL l g)(s:OL l f)(g:FC l)(q:ZB h l){i:Int}(a:rE k i)(d:0<=i)(o:1000<=br f.aU i):Go.Proofs.YtbbbdejieenniaaGreat.iR l (br f.aU i):=by
 induction a with
 |wY c=>
  rcases c with c|c
  .exact s _ d cC
  .exact((F.cW _ d c).kD m n j g q).lv n g o
 |qC c a t=>
  have u:=F.iR m r j a c (F.Hc _ d c);have p:=t c (F.Hc _ d c);exact g _ p _ (by rw[(q _ u p).2];exact ba (F.qC _ d c a)) o
def FW.pW(F:FW e h b f k)(j:∀g∈b,OL h g)(o:OL h f)(d:FC h)(p:∀g∈b,OL l g)(r:OL l f)(n:FC l)(g:ZB h l):FW e l b f k:=by
 have S:∀{i:Int},rE k i->0<=i->1000<=br f.aU i->_:=λa c q=>g _ (F.iR j o d a c q) (F.aeB j o d p r n g a c q);refine⟨F.aT,F.bF,F.qt,F.TY,λi c a t=>?_,F.Tp,λi c a s=>?_,F.Hc,λi c m a=>?_,λi c m=>(F.cW i c m).kD j p d n g,F.kp,F.yK⟩
 .grind [FW.TY,FW.jH]
 .grind [FW.Tp,FW.lF]
 .grind [FW.Hc,FW.qC]
@[grind cases] structure vZ (k k':Kn):Prop where
 aT:k'.aU.length=k.aU.length
 bF:∀i,0<=i->(k'.r i).bF=(k.r i).bF
 lP:∀i,0<=i->(k'.r i).lP=(k.r i).lP\/(k'.r i).lP= -1
 lF:∀i,0<=i->(k'.r i).lF=(k.r i).lF\/(k'.r i).lF= -1
 fr:∀i,0<=i->((k'.r i).fr=(k.r i).fr/\(k'.r i).Ez=(k.r i).Ez)\/(k'.r i).fr= -1
 cW:∀i,0<=i->(k'.r i).cW=true->(k.r i).cW=true
 eM:k'.eM=k.eM
theorem vZ.cX(k:Kn):vZ k k:=by constructor<;>grind
def vZ.N{a c f:Kn}(h:vZ a c)(g:vZ c f):vZ a f:=
 ⟨g.aT.trans h.aT,λi b=>(g.bF i b).trans (h.bF i b),λi b=>(g.lP i b).elim (λe=>(h.lP i b).imp e.trans e.trans) bH,λi b=>(g.lF i b).elim (λe=>(h.lF i b).imp e.trans e.trans) bH,
  λi b=>(g.fr i b).elim (λe=>(h.fr i b).imp (λd=>⟨e.1.trans d.1,e.2.trans d.2⟩) e.1.trans) bH,λi b e=>h.cW i b (g.cW i b e),g.eM.trans h.eM⟩
theorem rE.of(d:∀i,0<=i->0<(g.r i).bF->rE k i)(c:∀i,0<=i->(g.r i).cW=true->rE k i)(f:∀i,0<=i->0<=(g.r i).fr->(k.r i).fr=(g.r i).fr){i:Int}(a:rE g i)(b:0<=i):rE k i:=by
 induction a with
 |wY e=>exact e.elim (d _ b) (c _ b)
 |qC e a h=>exact .qC cC cC
theorem vZ.alv(w:vZ k g){i:Int}(a:rE g i)(b:0<=i):rE k i:=
 by grind [rE.of,rE.wY,vZ.bF,vZ.cW,vZ.fr]
def FW.XH(F:FW e h b f k)(w:vZ k g):FW e h b f g:=by
 refine⟨w.aT.trans F.aT,λi c=>(w.bF i c).trans (F.bF i c),λi c d=>?_,λi c d=>?_,λi c a d=>?_,λi c d=>?_,λi c a d=>?_,λi c d=>?_,λi c d a=>?_,λi c d=>F.cW i c (w.cW i c d),by rw[w.eM];exact F.kp,by rw[w.eM,w.aT];exact F.yK⟩
 .grind [vZ.lP,FW.qt]
 .grind [vZ.lP,FW.TY]
 .grind [vZ.lP,FW.jH,vZ.alv]
 .grind [vZ.lF,FW.Tp]
 .grind [vZ.lF,FW.lF,vZ.alv]
 .grind [vZ.fr,FW.Hc]
 .grind [vZ.fr,FW.qC,vZ.alv]
def FW.pd(F:FW e h b f k){bF:ab}(l:∀i,0<=i->g.r i={k.r i with bF:=br bF i})(m:g.aU.length=k.aU.length/\g.eM=k.eM)(j:∀i,0<=i->0<br bF i->rE k i):FW e h b {f with bF:=bF} g:=by
 have A:∀{i:Int},rE g i->0<=i->rE k i:=λa c=>a.of (λi c d=>j i c cC) (λi c d=>.wY (bH cC)) (λi c _=>by rw[l i c]) c;constructor<;>grind [FW.aT,FW.qt,FW.TY,FW.Tp,FW.cW,FW.kp,FW.yK,FW.jH,FW.lF,FW.Hc,FW.qC]
def FW.pc(F:FW e h b f k){a:Int}:FW e h b {f with pc:=a} k:=⟨F.aT,F.bF,F.qt,F.TY,F.jH,F.Tp,F.lF,F.Hc,F.qC,F.cW,F.kp,F.yK⟩
def FW.cL(F:FW e h b f k){cL eM:ab}(j:eM.length=k.eM.length)(g:∀i,0<=i->br eM i<0->br cL i=0):FW e h b {f with cL:=cL} {k with eM:=eM}:=by
 have A:∀{i:Int},rE {k with eM:=eM} i->rE k i:=λa=>by
  induction a with
  |wY c=>exact .wY c
  |qC c _ d=>exact .qC c d
 exact⟨F.aT,F.bF,F.qt,F.TY,λi d a c=>F.jH i d (A a) c,F.Tp,λi d a c=>F.lF i d (A a) c,F.Hc,λi d c a=>F.qC i d c (A a),F.cW,g,j.trans F.yK⟩
def FW.cE(F:FW e h b f k)(hd:0<=d/\d<f.aU.length/\d<f.bF.length)(q:t=0->w<1000)(t1:0<t->1000<=w)(s:0<o->0<t->Im e (bu h w).jH t):FW e h b (f.cE d w o) (k.eE d t o):=by
 have p:0<=d/\d<k.aU.length:=by grind [FW.aT]
 have R:∀i,0<=i->(k.eE d t o).r i=if i=d then⟨t,o,false,-1,-1,-1⟩else tF d (k.r i):=by grind [QO]
 have C:∀r:tE,(tF d r).lP=r.lP/\(tF d r).bF=r.bF/\(tF d r).cW=r.cW/\(tF d r).lF=r.lF/\(0<=(tF d r).fr->(tF d r).fr=r.fr/\(tF d r).Ez=r.Ez/\r.fr≠d):=λr=>by
  grind [tF]
 have l:∀i,0<=i->br (f.cE d w o).aU i=if i=d then w else br f.aU i:=λi c=>ng hd.1 hd.2.1 i c
 have n:∀i,0<=i->br (f.cE d w o).bF i=if i=d then o else br f.bF i:=λi c=>ng hd.1 hd.2.2 i c
 have A:∀{i:Int},rE (k.eE d t o) i->0<=i->(i=d/\0<o)\/(i≠d/\rE k i):=λa=>by
  induction a with
  | @wY i g=>
   intro c;rw[R i c]at g;by_cases j:i=d
   .grind
   .grind [rE.wY]
  | @qC i g a m=>
   intro c;have m:=m g;rw[R i c]at g m;by_cases j:i=d
   .grind
   .grind [rE.qC]
 refine⟨by rw[Cf,F.aT];simp[bS.cE,jE],λi c=>?_,λi c g=>?_,λi c g=>?_,λi c a g=>?_,λi c g=>?_,λi c a g=>?_,λi c g=>?_,λi c g a=>?_,λi c g=>?_,F.kp,by rw[Cf];exact F.yK⟩
 .rw[R i c,n i c];split
  .rfl
  grind [FW.bF]
 .rw[R i c]at g;rw[l i c];by_cases j:i=d
  .grind
  grind [FW.qt]
 .rw[R i c]at g;rw[l i c];by_cases j:i=d
  .grind
  grind [FW.TY]
 .have A:=A a c;rw[R i c]at g⊢;rw[l i c];rcases A with⟨j,m⟩|⟨j,a⟩
  .grind
  grind [FW.jH]
 .rw[R i c]at g;rw[l i c];by_cases j:i=d
  .grind
  .rw[aV j]at g⊢;rw[(C _).2.2.2.1]at g;exact F.Tp i c g
 .have A:=A a c;rw[R i c]at g⊢;rw[l i c];rcases A with⟨j,m⟩|⟨j,a⟩
  .grind
  grind [FW.lF]
 .rw[R i c]at g⊢;by_cases j:i=d
  .grind
  .rw[aV j]at g⊢;have m:=(C _).2.2.2.2 g;rw[m.1]at g⊢;rw[l _ g,aV m.2.2];exact F.Hc i c g
 .rw[R i c]at g a⊢;rw[l i c];by_cases j:i=d
  .grind
  grind [FW.qC]
 .rw[R i c]at g;rw[l i c];by_cases j:i=d
  .grind
  grind [FW.cW]
def FW.pV(F:FW e h b f k)(hd:0<=d/\d<k.aU.length){n:Int}(q:0<=a/\a≠d)(o:(k.r d).bF=0/\(k.r d).cW=false)(p:∀i,0<=i->(k.r i).fr≠d)(r:(k.r d).lF<0)(t:1000<=br f.aU a)
 (u:rE k a->0<(k.r d).lP->Im e (bu h (br f.aU d)).jH (k.r d).lP)(s:rE k a->(bu h (br f.aU a)).bV[n.toNat]? =some (br f.aU d)):FW e h b f (k.Hj d a n):=by
 have R:∀i,0<=i->(k.Hj d a n).r i=if i=d then{k.r i with fr:=a,Ez:=n}else k.r i:=λi c=>by
  grind [Kn.Hj,IA]
 have A:∀{i:Int},rE (k.Hj d a n) i->0<=i->(i=d/\rE k a)\/(i≠d/\rE k i):=λj=>by
  induction j with
  | @wY i g=>
   intro c;rw[R i c]at g;by_cases m:i=d
   .grind
   .grind [rE.wY]
  | @qC i g j l=>
   intro c;have l:=l g;rw[R i c]at g l;by_cases m:i=d
   .grind
   .grind [rE.qC]
 refine⟨by unfold Kn.Hj;rw[lR,F.aT],λi c=>?_,λi c g=>?_,λi c g=>?_,λi c j g=>?_,λi c g=>?_,λi c j g=>?_,λi c g=>?_,λi c g j=>?_,λi c g=>?_,F.kp,by unfold Kn.Hj;rw[lR];exact F.yK⟩
 .grind [FW.bF]
 .grind [FW.qt]
 .grind [FW.TY]
 .grind [FW.jH]
 .grind [FW.Tp]
 .grind [FW.lF]
 .grind [FW.Hc]
 .grind [FW.qC]
 .grind [FW.cW]
def FW.arm(F:FW e h b f k){g:Int}(l:0<=a)(n:1000<=br f.aU a)(m:(bu h (br f.aU a)).jH=g):FW e h b f (k.jH a g):=by
 have R:∀i,0<=i->((k.jH a g).r i).lP=(k.r i).lP/\((k.jH a g).r i).bF=(k.r i).bF/\((k.jH a g).r i).cW=(k.r i).cW/\((k.jH a g).r i).fr=(k.r i).fr/\((k.jH a g).r i).Ez=(k.r i).Ez/\(((k.jH a g).r i).lF=(k.r i).lF\/i=a/\((k.jH a g).r i).lF=g):=λi c=>by
  constructor<;>grind [Kn.jH,IA]
 have A:∀{i:Int},rE (k.jH a g) i->0<=i->rE k i:=λj c=>j.of (λi c d=>.wY (bz cC)) (λi c d=>.wY (bH cC)) (λi c _=>((R i c).2.2.2.1).symm) c;refine⟨by unfold Kn.jH;rw[lR,F.aT],λi c=>(R i c).2.1.trans (F.bF i c),λi c d=>F.qt i c ((R i c).1▸d),λi c d=>F.TY i c ((R i c).1▸d),λi c j d=>?_,λi c d=>?_,λi c j d=>?_,λi c d=>?_,λi c d j=>?_,λi c d=>F.cW i c ((R i c).2.2.1▸d),F.kp,by unfold Kn.jH;rw[lR];exact F.yK⟩
 .grind [FW.jH]
 .grind [FW.Tp]
 .grind [FW.lF]
 .grind [FW.Hc]
 .grind [FW.qC]
end
section
variable{f:dz}
def yX(h i:ah):Prop:=∀(a:Nat)(b:dz),i[a]? =some b->0<b.bX->∃f,h[a]? =some f/\0<f.bX/\b.jH=f.jH/\b.bV=f.bV
def yX.cX(h:ah):yX h h:=λ_ f e p=>⟨f,e,p,O,O⟩
theorem yX.N{a b f:ah}(h:yX a b)(g:yX b f):yX a f:=λi e j k=>by
 let⟨d,hd,c,l,m⟩:=g i e j k;let⟨p,r,q,n,o⟩:=h i d hd c;grind
theorem yX.eE{h:ah}{a:Nat}(c:0<f.bX->∃d,h[a]? =some d/\0<d.bX/\f.jH=d.jH/\f.bV=d.bV):yX h (h.set a f):=λb e g i=>by
 grind [List.getElem?_set_self',po]
theorem yX.at1{h:ah}{w:Int}(b:iR h w)(a:0<f.bX->f.jH=(bu h w).jH/\f.bV=(bu h w).bV):yX h (h.set (ix w) f):=
 by grind [yX.eE,dL]
theorem yX.oY{h:ah}:yX h (oY h):=λb e a c=>by
 grind [oY]
def yX.kO:∀(j:ab)(h:ah),(∀w∈j,iR h w)->yX h (kO h j)
 |[],h,_=>.cX h
 |w::j,h,a=>by
  have b:=a w cQ;exact(yX.at1 b (f:={bu h w with bX:=(bu h w).bX+1}) λ_=>⟨O,O⟩).N (yX.kO j _ λv d=>⟨(a v (aX _ d)).1,(iL.pU b).2 (a v (aX _ d)).2⟩)
theorem yX.ju:∀(n:Nat)(h:ah)(i:ab),Es h+i.length<=n->yX h (ju h i)
 |n,h,[],_=>by rw[uT];exact .cX h
 |0,h,w::r,b=>by simp at b
 |n+1,h,w::r,b=>by
  simp only[dD]at b;rcases fS (iR h w)with a|a
  .let⟨f,g⟩:=dL a;by_cases d:(bu h w).bX=1
   .have e:=mq (d:=kV) f;simp only[a8 g,kV]at e;simp at e;rw[uU a d];exact(yX.at1 a λh=>by simp[kV]at h).N (yX.ju n _ _ (by simp[kV];omega))
   .have e:=mq (d:={bu h w with bX:=(bu h w).bX -1}) f;simp only[a8 g]at e;rw[a8 V]at e;rw[sO a d];exact(yX.at1 a (f:={bu h w with bX:=(bu h w).bX -1}) λ_=>⟨O,O⟩).N (yX.ju n _ _ cC)
  .rw[sP a];exact yX.ju n _ _ V
theorem yX.iK{h:ah}{e:Nat->Int}(f:jc h e){w:Int}(b:iR h w):yX h (iK h w):=by
 let⟨d,k⟩:=dL b;unfold Go.Proofs.YtbbbdejieenniaaGreat.iK;split
 .grind [yX.at1,kV,yX.N,yX.oY]
 .rename_i j;refine(yX.at1 b (f:={bu h w with bX:=(bu h w).bX -1}) λ_=>⟨O,O⟩).N (yX.kO _ _ λv g=>?_);let⟨i,a⟩:=nU.1 g;have:=f.qj (kE d) i a;refine⟨a,?_⟩;by_cases e:ix v=ix w
  .grind [iL.Hk,bu]
  .rw[iL.ne e];exact this.2
variable{k:cO}{h i:ah}{w:Int}{e:Nat->Int}
def yX.lv(H:yX h i)(l:iR i w):iR h w/\(bu i w).jH=(bu h w).jH/\(bu i w).bV=(bu h w).bV:=by
 let⟨f,a,d,b,c⟩:=H _ _ (dL l).1 (dL l).2;have:bu h w=f:=by simp[bu,a]
 exact⟨⟨l.1,f,a,d⟩,this▸b,this▸c⟩
def yX.Uh(H:yX h i):ZB h i:=λ_ _ l=>(H.lv l).2
def FC.of(a:jc h e):FC h:=λv c w d b=>a.qj (kE (dL c).1) d b
def ZC.pW{t:Int}(H:ZC k h w t)(c:ZB h i)(a:1000<=w->iR i w):ZC k i w t:=
 ⟨H.1,λb=>let⟨l,g⟩:=H.2 b;⟨a l.1,(((c _ l (a l.1)).1)▸g)⟩⟩
def HT.pW(H:HT k h)(W:yX h i)(e:FC i):HT k i:=λv a j w t b g=>by
 let⟨l,c,d⟩:=W.lv a;refine(H v l j w t (d▸b) (c▸g)).pW W.Uh λf=>e v a w (ba b) f
@[grind cases] structure XS (h h':ah) (a:Nat) (g:Int) (ws:ab):Prop where
 old:¬iL h a
 bI:h'[a]? =some ⟨1,g,ws⟩
 oth:∀b,b≠a->h'[b]? =h[b]?
variable{a:Nat}{g:Int}{j:ab}
def XS.Uh(N:XS h i a g j):ZB h i:=λw l _=>by
 have:ix w≠a:=λe=>N.old (e▸l.2);grind [bu,XS.oth]
def XS.ht(N:XS h i a g j)(H:HT k h)(n:FC i)(q:∀(c:Nat)(w t:Int),j[c]? =some w->(FTy k g)[c]? =some t->ZC k h w t):HT k i:=λv l c w t b d=>by
 by_cases e:ix v=a
 .have:bu i v=⟨1,g,j⟩:=by simp[bu,e,N.bI]
  have m:=ba b;rw[this]at b d;exact(q c w t b d).pW N.Uh (n v l w m)
 .have:bu i v=bu h v:=by simp only[bu,N.oth _ e]
  have r:iR h v:=by let⟨a,f,o,p⟩:=l;exact⟨a,f,((N.oth _ e)▸o),p⟩
  have m:=ba b;rw[this]at b d;exact(H v r c w t b d).pW N.Uh (n v l w m)
theorem XS.jM(d:jc h e):XS h (jM h (fF h) ⟨1,g,j⟩) (fF h) g j:=by
 have i:=tv h;refine⟨λ⟨f,a,k⟩=>oh (BD h f a),?_,λb c=>?_⟩
 .grind [jM,List.getElem?_append_right,List.getElem?_set_self]
 .grind [jM,Nat.lt_or_ge,List.length,List.getElem?_append_left,List.getElem?_append_right,List.getElem?_eq_none,po]
def XS.eE(b:h[a]? =some f)(c:¬0<f.bX):XS h (h.set a ⟨1,g,j⟩) a g j:=
 ⟨λ⟨d,hd,i⟩=>by rw[b]at hd;cases hd;exact c i,lA b,λ_ e=>po e⟩
end
section
variable{k:Kn}{j n:Int}
def fP(k:Kn):ab->Kn
 |[]=>k
 |r::a=>fP (if(k.r r).lP=0 then k else k.iA r (-1)) a
def KT(t:Int):Int:=if 0<t then 1 else 0
def qB(k:Kn)(a:ab):ab:=a.map λr=>(k.r r).lP
def gD(a:cO)(b cG:Int)(c:ab)(t:Int):Prop:=
 if b=0 then t=0/\c=[]
 else if b=1\/b=2\/b=3\/b=4 then t=0/\c=[0,0]
 else if b=5 then t=0/\c=[0]
 else if b=6 then cG∈cY a.bR t/\c=da a.bR cG
 else if b=9 then∃q,a.cU[cG.toNat]? =some q/\c=q.aY/\t=q.bP
 else if b=10 then∃q d,a.cU[cG.toNat]? =some q/\q.aY=c++[d]/\rV a.bR t d q.bP
 else if b=11 then∃u d,c=[u,d]/\rV a.bR u d t
 else False
def uP(a:cO)(p:dS)(x:Instr)(b:ab)(t:Int):Prop:=
 if x.op=20 then b=[0]else if x.op=23 then b=[p.bP]/\t=p.bP else if x.op=24 then gD a 9 x.cG b t/\t=p.bP else gD a x.op x.cG b t
open Classical in
def YU(p:dS)(a:cO)(k:Kn)(x:Instr)(t:Int)(c:Kn):Prop:=
 let b:=fP k (cq a x)
 (∀r∈cq a x,0<=(b.r r).bF)/\((x.op=9\/x.op=24)->∀r∈fx a x 0 x.aO,rE b r)/\
 if x.op=23\/x.op=24 then(∀i,0<=i->(b.r i).bF<=0)/\(∀n∈b.eM,n<0)/\c=b
 else
  let d:Kn:=if x.cR=0 then b else{b with eM:=iv b.eM (x.cR -1) (-1)}
  if kT x.op then(b.r x.bA).bF<=0/\c=d.eE x.bA t (KT t)else c=d
def jC(k:Kn):ab->Kn
 |[]=>k
 |r::a=>jC (k.iA r 1) a
def vX(a:cO)(p:dS)(k:Kn)(x:Instr)(c:Kn):Prop:=
 let b:=br x.aO 0
 if x.op=22 then c=k
 else if x.op=14 then 0<(k.r b).lP/\rE k b/\c=k.iA b 1
 else if x.op=15 then 0<(k.r b).lP/\c=k.iA b (-1)
 else if x.op=16\/x.op=17 then 0<(k.r b).bF/\(∀r∈x.aO.drop 1,(k.r r).fr=b)/\
  ∃n:Int,0<=n/\c={jC (k.iA b (-1)) (x.aO.drop 1)with eM:=if x.op=17 then iv k.eM b n else k.eM}
 else if x.op=18 then 0<=(k.r b).lP/\0<=((fP k [b]).r b).bF/\((fP k [b]).r x.bA).bF<=0/\c=(fP k [b]).eE x.bA (k.r b).lP (KT (k.r b).lP)
 else if x.op=19 then rE k b/\0<=(k.r b).lF/\∃t,(da a.bR (k.r b).lF)[x.cG.toNat]? =some t/\(k.r x.bA).bF<=0/\c=(if x.bA=b then k.eE x.bA t 0 else(k.eE x.bA t 0).Hj x.bA b x.cG)
 else∃t,uP a p x (qB k x.aO) t/\YU p a k x t c
def Pc(p:dS):Kn:=⟨(List.range p.aU.toNat).map λi=>if i<p.aY.length then⟨br p.aY i,if br p.aY i≠0/\(i:Int)∉p.cW then 1 else 0,decide ((i:Int)∈p.cW),-1,-1,-1⟩else yM,List.replicate p.aU.toNat (-1)⟩
def tI(x:Instr)(k:Nat):ab:=
 if x.op=22 then[x.cG]else if x.op=20 then[(k:Int)+1,x.cG]else if x.op=21 then x.fU else if x.op=23\/x.op=24 then[]else[(k:Int)+1]
@[grind cases] structure sK (im:cO) (p:dS) (rZ:Nat->Option Kn):Prop where
 aT:∀(at_:Nat)(k:Kn),rZ at_=some k->(k.aU.length:Int)=p.aU
 first:∃k,rZ 0=some k/\vZ (Pc p) k
 kD:∀(at_:Nat)(x:Instr)(k:Kn),p.cD[at_]? =some x->rZ at_=some k->x.op≠21->∃k',vX im p k x k'/\∀n∈tI x at_,∃k1,rZ n.toNat=some k1/\vZ k' k1
 ta:∀(at_:Nat)(x:Instr)(k:Kn),p.cD[at_]? =some x->rZ at_=some k->x.op=21->(k.r (br x.aO 0)).lP=x.cG/\rE k (br x.aO 0)/\
  ∀(i:Nat)(c:Int),(cY im.bR x.cG)[i]? =some c->(k.r (br x.aO 0)).lF<0\/(k.r (br x.aO 0)).lF=c->∃k1,rZ (br x.fU i).toNat=some k1/\vZ (k.jH (br x.aO 0) c) k1
@[grind cases] structure VS (im:cO) (rZ:Nat->Nat->Option Kn) (s:St):Prop where
 aR:HT im s.aR
 first:∀f,s.bo[0]? =some f->(dE im f.fN).bP=0
 jA:∀fs f,s.bo=fs++[f]->∃k,rZ f.fN.toNat f.pc.toNat=some k/\FW im s.aR fs f k
 sus:∀(j:Nat)(f g:bS),s.bo[j]? =some f->s.bo[j+1]? =some g->∃k,FW im s.aR (s.bo.take j) f k/\(k.r g.bA).bF<=0/\
  ∃k1,rZ f.fN.toNat f.pc.toNat=some k1/\vZ (k.eE g.bA (dE im g.fN).bP (KT (dE im g.fN).bP)) k1
variable{a:cO}{aU:ab}
theorem yY{i:Int}(b:0<=j/\j<k.aU.length)(a:0<=i):(k.iA j n).r i={k.r i with bF:=(k.r i).bF+if i=j then n else 0}:=by
 unfold Kn.iA;rw[IA b.1 a];by_cases e:i=j
 .grind
 .rw[aV λh=>e h.1,aV e,Int.add_zero]
theorem rl:(k.iA j n).aU.length=k.aU.length:=lR
def pC:∀(a:ab)(k:Kn),(fP k a).eM=k.eM
 |[],_=>O
 |r::a,k=>by rw[fP,pC a];split<;>rfl
def xA:∀(a:ab)(k:Kn),(fP k a).aU.length=k.aU.length
 |[],_=>O
 |r::a,k=>by
  rw[fP,xA a];split
  .rfl
  .exact rl
def LQ:∀(a:ab)(k:Kn)(bF:ab),(∀i,0<=i->(k.r i).bF=br bF i)->(∀r∈a,0<=r/\r<k.aU.length/\r<bF.length)->(∀r∈a,((k.r r).lP=0/\br aU r<1000)\/((k.r r).lP≠0/\1000<=br aU r))->
 ∀i,0<=i->(fP k a).r i={k.r i with bF:=br (bZ aU bF a) i}
 |[],k,bF,h,_,_,i,b=>by rw[fP,bZ,<-h i b]
 |r::a,k,bF,h,f,g,i,b=>by
  have l:=f r cQ;rw[fP,bZ];rcases g r cQ with⟨d,e⟩|⟨d,e⟩
  .rw[a8 d,aV V];exact LQ a k bF h (λv c=>f v (aX _ c)) (λv c=>g v (aX _ c)) i b
  .rw[aV d,a8 e];rw[LQ a (k.iA r (-1)) (iv bF r (br bF r -1)) (λj m=>?_) (λv c=>?_) (λv c=>?_) i b,yY ⟨l.1,l.2.1⟩ b]
   .grind [yY,ng]
   .grind [rl,jE,List.mem_cons_of_mem]
   grind [List.mem_cons_of_mem,yY]
def Kf:∀(a bF:ab),(∀r∈a,0<=r/\r<bF.length)->∀i,0<=i->br (bZ aU bF a) i<=br bF i/\(i∈a->1000<=br aU i->br (bZ aU bF a) i<br bF i)
 |[],bF,_,i,_=>⟨dN _,sx⟩
 |r::a,bF,h,i,c=>by
  have e:=h r cQ;rw[bZ];split
  .have d:=Kf a (iv bF r (br bF r -1)) (λv b=>by rw[jE];exact h v (aX _ b)) i c;grind [ng]
  .have d:=Kf a bF (λv b=>h v (aX _ b)) i c;constructor<;>grind
def UQ{l:ab}(h:∀o∈l,0<=o)(i:Int):0<=br l i:=by
 unfold br;rw[fG];cases e:l[i.toNat]? with
 |none=>simp
 |some x=>exact h x (ba e)
def UH:∀(a:ab)(k:Kn)(bF:ab),(∀i,0<=i->(k.r i).bF=br bF i)->(∀r∈a,0<=r/\r<k.aU.length/\r<bF.length)->∀i,0<=i->(jC k a).r i={k.r i with bF:=br (fj bF a) i}
 |[],k,bF,h,_,i,b=>by rw[jC,fj,<-h i b]
 |r::a,k,bF,h,d,i,b=>by
  have c:=d r cQ;rw[jC,fj,UH a (k.iA r 1) (iv bF r (br bF r+1)) (λj e=>?_) (λv f=>?_) i b,yY ⟨c.1,c.2.1⟩ b]
  .grind [yY,ng]
  .grind [rl,jE,List.mem_cons_of_mem]
def Pv:∀(a:ab)(k:Kn),(jC k a).aU.length=k.aU.length
 |[],_=>O
 |r::a,k=>by rw[jC,Pv a,rl]
def vB:∀(a:ab)(k:Kn),(jC k a).eM=k.eM
 |[],_=>O
 |r::a,k=>by rw[jC,vB a];rfl
end
end Go.Proofs.YtbbbdejieenniaaGreat
