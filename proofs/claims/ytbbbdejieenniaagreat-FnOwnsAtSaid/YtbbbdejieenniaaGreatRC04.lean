/- Part of a proof. -/
import Derived.Test.YtbbbdejieenniaaGreatRC01
import Derived.Test.YtbbbdejieenniaaGreatRC02
import Derived.Test.YtbbbdejieenniaaGreatRC03
set_option linter.all false
set_option maxHeartbeats 8000000
set_option maxRecDepth 100000
namespace Go.Proofs.YtbbbdejieenniaaGreat
open Go.Vc
section
variable{c:da}
noncomputable def uL (c:da) (s:St) (b:an) (a:bW) (x:Instr):St:=
 if x.op=9 then{s with dg:=s.dg+1,bq:=b++[{a with pc:=a.pc+1},cz c x.cE x.bH (dQ a x.aO)]}
 else if x.op=24 then{s with dg:=s.dg+1,bq:=b++[cz c x.cE a.bH (dQ a x.aO)]}
 else{s with dg:=s.dg+1,aR:=iZ s.aR (bt a.aU (bt x.aO 0)),bq:=b++[{a with pc:=a.pc+1},cz c ((bz s.aR (bt a.aU (bt x.aO 0))).jx -cF c) x.bH ((bz s.aR (bt a.aU (bt x.aO 0))).bJ++[bt a.aU (bt x.aO 1)])]}
variable{t:bh}{j:ag}{m:bh}{n:Nat}{d p cw q e:E}{s:St}{b:an}{a:bW}{r u h:E}{y:List ae}
def ST.rv(S:ST t j m n dC (SB d p s cw q e) cw q e s.cw s.aR b a r u h y)(g:gY t d p c)(k:s.cw.length<=2000000000)(i:s.aR.length<=2000000000)(f:oZ m e (b++[a])):
 RV m n 2 d p cw q e c {s with bq:=b++[a]}:=
 ⟨g.ext S.eH.cV,S.eH.bV.dx 0,S.eH.bV.dx 1,S.eH.bV.dx 2,S.eH.bV.dx 3,S.eH.bV.dx 4,S.eH.bV.dx 5,S.eH.bV.dx 6,S.eH.bV.dx 7,S.eH.bV.dx 8,S.eH.cw.oL V,S.eH.aR.jH V,f⟩
def rP.Mo{b:an}(d:rP j m e b)(A:b.length<=2000000000)(q:∀a∈b,a.aU.length<=1000000/\a.bI.length<=1000000/\a.cC.length<=1000000):oZ m e b:=by
 let⟨y,c,o,f,p⟩:=d;have t:e.len=b.length:=by have:=c.aT;rw[dS f,o]at this;omega
 refine⟨t,c.le,V,λk x i=>?_⟩;let⟨n,g⟩:=dU y k cB;obtain⟨r,u,h,rfl,w,v,d⟩:=p k n x g i;let⟨B,C,D⟩:=q x (aZ i);refine⟨_,⟨r,u,h,O,w.oL V,v.oL V,d.oL V⟩,λz l s=>?_⟩;have:=c.kY (k*6+z) l (js f g s);grind [Nat.add_assoc]
def RD(ai:ST t j m n dC (SB d p s cw q e) cw q e s.cw s.aR b a r u h y)(aB:gY t d p c)(av:iB c){z:Instr}{aa ac:E}(ha:be t aa z.aO)(bb:∀F∈z.aO,0<=F/\F<a.aU.length)(bJ:z.aO.length<=4)
 (bW:z.op=9\/z.op=24\/z.op=11)(aP:(z.op=9\/z.op=24)->rQ c z.cE z.aO.length)(ba:z.op=11->z.aO.length=2/\zO c s.aR (bt a.aU (bt z.aO 0)))
 (bT:a.aU.length=a.bI.length/\a.cC.length=a.bI.length/\a.bI.length<=2000)(a_:∀H∈b,H.aU.length<=1000000/\H.bI.length<=1000000/\H.cC.length<=1000000)(bs:0<=a.pc/\a.pc<=100000)(bQ:b.length<=10000)(bR:s.aR.length<=1000000000)(bX:s.cw.length<=1000000000)(bL:0<=s.dg/\s.dg<=100000)
 {C:Nat->Int}(hI:jd s.aR C):
 bK dO 179 [vp n 0,fv a r u h,xv z aa ac] m λ_ L=>CG t j m n d p (uL c s b a z) L:=by
 apply zD (n,0)
 simp -zeta only[kJ,nO]
 intro I m2
 have bw:D m m2:=((D.cT m).bZ _).bZ _
 have s1:=pz I
 have s2:m2.size=m.size+2:=by simp[m2,s1]
 have B2:=AW.Nj ai.eH.bF s1 s2
 have kB:dF m2 I.size fx [.i z.op,.i z.bH,.i z.cE,.i z.dh,.s aa,.s ac]:=dF.push I _ _
 let⟨S2,t2⟩:=ai.ext bw
 have bg:DH c z:=λC=>let⟨A,Y,G,_⟩:=aP C;⟨Y,A,G⟩
 have bI:(gR c.bT).length<=12:=by
  have:=tE av.mT.dm c.bT.length;rw[qI _ _ bY]at this;exact this
 have bk:∀{j m q lh bx},ST t j m n dC bx cw q e s.cw lh b a r u h y->oZ m e (b++[a]):=λai=>ai.eH.bq.Mo eX (λH B=>by
  rcases bU.1 B with B|B
  .exact a_ H B
  .simp at B;subst B;omega)
 refine(vR (f:=a) (S2.ED V) (ha.ext S2.eH.cV) bb V).aP ?_
 rintro _ m3 ⟨T,rfl,ow,au⟩
 let⟨S3,t3⟩:=S2.ext au
 have B3:=B2.to t3
 have bv:(dQ a z.aO).length=z.aO.length:=by simp[dQ]
 have ak:be m3 T (dQ a z.aO):=be.jA ow V
 have bG:∀{L:bh}{T:E}{ao:ae},jw L m3 bB 1 T ao->m.size<=L.size->T≠.nil->j T.bu=0:=λho hs Z=>by
  rcases ho.bu with C|C
  .exact absurd C Z
  .exact ai.eH.bF _ V
 refine⟨t3.fS B2,T,O,λH wv L=>∃(ax:ag)(aV:E)(af:ah)(B:ab)(A:eE),ST t ax L n dC (SB d p s cw aV e) cw aV e s.cw af b a r u h y/\To j m ax L/\AW ax L [I.size,m.size]/\dF L I.size fx [.i z.op,.i z.bH,.i z.cE,.i z.dh,.s aa,.s ac]/\be L wv B/\(B≠[]->ax wv.bu=0)/\
  0<=H/\c.di[H.toNat]? =some A/\B.length=A.aY.length/\kZ c z 0 B=fI A.df 0 B/\
  (z.op=24->uL c s b a z={s with dg:=s.dg+1,aR:=af,bq:=b++[cz c H a.bH B]})/\(z.op≠24->uL c s b a z={s with dg:=s.dg+1,aR:=af,bq:=b++[{a with pc:=a.pc+1},cz c H z.bH B]}),?_,?_⟩
 .refine⟨λal=>?_,λal=>?_⟩
  .simp at al
   let⟨G,U,aX,bZ,bp,aT,bN⟩:=ba al
   let⟨ap,bu⟩:=dz U
   have aL:=hI.gZ _ (aZ ap)
   have b0:=(aL.wW bu).2
   have aU:=br ap
   have bc:z.aO=[bt z.aO 0,bt z.aO 1]:=by
    cases Q:z.aO with
    |nil=>rw[Q]at G;simp at G
    |cons F ao=>cases ao with
     |nil=>rw[Q]at G;simp at G
     |cons J ao=>cases ao with
      |nil=>rfl
      |cons _ _=>rw[Q]at G;simp at G
   have aY:dQ a z.aO=[bt a.aU (bt z.aO 0),bt a.aU (bt z.aO 1)]:=by rw[bc];rfl
   have b5:=ak.aT
   have b4:=ak.ms
   have gw:aS m3 T.bu (T.off+Int.toNat (0:Int)*1)=some (vi (bt a.aU (bt z.aO 0))):=ak.bt (k:=0) (by rw[aY];rfl)
   have an:=S3.rv aB V V (bk S3)
   generalize hw:bt a.aU (bt z.aO 0)=w at*
   generalize hv:bt a.aU (bt z.aO 1)=v at*
   let⟨A,hq⟩:=dU c.di (((bz s.aR w).jx -cF c).toNat)
   have ad:dG c ((bz s.aR w).jx -cF c)=A:=by simp[dG,hq]
   rw[ad]at bp aT
   refine⟨V,V,w,gw,d,an.bT,(jG an U.1 ap).aP ?_⟩
   rintro _ m4 ⟨f4,rfl,bM,W⟩
   let⟨S4,t4⟩:=S3.ext W
   have B4:=B3.to t4
   have aM:=an.ext W
   refine⟨t4.fS B3,_,_,_,O,W.cZ an.bT,(uC aM.iG.bT av.mT.dm).aP ?_⟩
   rintro _ J ⟨rfl,az⟩
   let⟨M,t5⟩:=S4.ext az
   have B5:=B4.to t5
   have a9:=aM.ext az
   refine⟨t5.fS B4,_,O,V,V,V,(jG a9 U.1 ap).aP ?_⟩
   rintro _ m6 ⟨f6,rfl,bj,aJ⟩
   let⟨S6,t6⟩:=M.ext aJ
   have B6:=B5.to t6
   have ay:=(W.J az).J aJ
   have e1:(Int.toNat (1:Int))=1:=rfl
   have e2:(Int.toNat (T.len:Int))=T.len:=V
   rw[e1,e2]
   have bA:be m6 (E.cut T 1 T.len 1) [v]:=by
    have:=aaF (ak.ext ay) (by rw[bv];omega);rw[aY]at this;exact this
   have bP:=aL.fl
   refine⟨t6.fS B5,_,_,_,O,(QL bj bA eX).aP ?_⟩
   rintro _ m7 ⟨K,rfl,oe,aK⟩
   let⟨S7,t7⟩:=S6.ext aK
   have B7:=B6.to t7
   have ie:be m7 K ((bz s.aR w).bJ++[v]):=be.jA oe eX
   have aq:j K.bu=0:=by
    rcases oe.bu with C|C
    .subst C;have:=ie.aT;simp at this
    .exact ai.eH.bF _ (VE ay.aQ au.aQ)
   have bi:K.bu<m7.size:=lx ie bO
   refine⟨t7.fS B6,K,O,(FE S7.eH U hI V).aP ?_⟩
   rintro _ P ⟨am,rfl,hb,F,bf,bd⟩
   have t8:To j m7 j P:=F.aP λR N=>V
   have B8:=B7.to t8
   have a0:be P K ((bz s.aR w).bJ++[v]):=km ie λ_=>F.fQ _ bi (by rw[aq];decide)
   have a2:To j m j P:=(((((t2.J t3).J t4).J t5).J t6).J t7).J t8
   have a1:dF P I.size fx [.i z.op,.i z.bH,.i z.cE,.i z.dh,.s aa,.s ac]:=(kB.ext (au.J (ay.J aK))).congr (F.fQ _ (B7 I.size bO).1 (by rw[(B7 I.size bO).2];decide))
   have e3:eI ((bz s.aR w).jx -((gR c.bT).length:Int))=(bz s.aR w).jx -cF c:=de V V
   rw[e3]
   have aw:kZ c z 0 ((bz s.aR w).bJ++[v])=fI A.df 0 ((bz s.aR w).bJ++[v]):=by
    rw[KC V,cp.1 aT]
   have aQ:∀af,af=iZ s.aR w->uL c s b a z={s with dg:=s.dg+1,aR:=af,bq:=b++[{a with pc:=a.pc+1},cz c ((bz s.aR w).jx -cF c) z.bH ((bz s.aR w).bJ++[v])]}:=λaf C=>by
    rw[uL,aW V,aW V,hw,hv,C]
   refine⟨t8.fS B7,am,O,λaO=>?_,λaN=>?_⟩
   .have aA:=hb.1 aO
    let⟨S,bH⟩:=S7.jS (F.aP λR N=>bC N) (bf aO)
    have bV:=S.eH.aR.aT
    refine⟨q,S.eH.bV.dx 7,?_⟩
    intro m9
    have a8:=px m9
    let⟨S9,X⟩:=S.ext a8
    have B9:=B8.to X
    have bS:=U.1
    have bm:ix w=(w -1000).toNat:=rfl
    have e5:eI (w -1000)=w -1000:=de V V
    rw[e5,<-bm]
    refine⟨V,V,S9.eH.aR.wr (o:=0) aU cD,?_⟩
    intro b6
    let⟨bl,a6⟩:=S9.eH.aR.pT S9.eH.bF aU 0 0 (f:=.mk P.size 0 0 0) (l:=[]) ⟨O,bO,bO,bO⟩ (λZ=>absurd O Z)
    let⟨ar,aD⟩:=S9.jS (a6.aP λR N=>bC N) bl
    have aH:=B9.to aD
    refine⟨aD.fS B9,q,ar.eH.bV.dx 7,(Ca (ar.eH.aR.jH eX)).aP ?_⟩
    rintro _ b7 ⟨rfl,a7⟩
    let⟨aj,aE⟩:=ar.ext a7
    have aI:=aH.to aE
    refine⟨aE.fS aH,_,O,aj.eH.pQ (i:=7) bO,?_⟩
    intro aC
    obtain⟨a4,b8⟩:=aj.jS (dI.cT _ aj.eH.bF) (aj.eH.aR.ry (xW _ _))
    obtain⟨a5,aF⟩:=a4.lW 7 [.s (q.cut 0 (lK (s.aR.set (ix w) kW) (s.aR.set (ix w) kW).length) 3)]
    have a3:=aI.to aF
    have aG:To j P j aC:=((X.J aD).J aE).J aF
    have bE:be aC K ((bz s.aR w).bJ++[v]):=km a0 λ_=>aG.fQ _ (oh F.aQ) (by rw[aq];simp)
    have bF:dF aC I.size fx [.i z.op,.i z.bH,.i z.cE,.i z.dh,.s aa,.s ac]:=a1.congr (aG.fQ _ (B8 I.size bO).1 (by rw[(B8 I.size bO).2];simp))
    refine⟨aF.fS aI,j,_,_,_,A,a5,a2.J aG,a3,bF,bE,λ_=>aq,aX,hq,eX,aw,λC=>V,λ_=>aQ _ ?_⟩
    rw[iZ,bn aA];rfl
   .have aA:(bz s.aR w).bS≠1:=λC=>by have:=hb.2 C;rw[aN]at this;simp at this
    let⟨S,bH⟩:=S7.jS (F.aP λR N=>bC N) (bd aN)
    refine⟨j,q,_,_,A,S,a2,B8,a1,a0,λ_=>aq,aX,hq,eX,aw,λC=>V,λ_=>aQ _ ?_⟩
    rw[iZ,aW aA]
  .simp at al
   have F:z.op=9\/z.op=24:=V
   let⟨A,N,K,P⟩:=aP F
   have ad:dG c z.cE=A:=by simp[dG,K]
   refine⟨j,q,s.aR,dQ a z.aO,A,S3,t2.J t3,B3,kB.ext au,ak,λZ=>bG ow V (λC=>by subst C;have:=ak.aT;simp at this;exact Z (cp.1 this.symm)),N,K,V,by rw[NF F,ad],λC=>?_,λC=>?_⟩
   .rw[uL,aW V,bn C]
   .rw[uL,bn V]
 .rintro H wv m4 ⟨al,aI,aD,B,A,S4,t4,B4,a2,aJ,a1,aT,hq,a5,aw,aO,aQ⟩
  have ad:dG c H=A:=by simp[dG,hq]
  have a4:=(av.eR A (aZ hq)).aU
  have h3:=(av.mT.eR A (aZ hq)).1
  refine⟨s.dg,S4.eH.bV.dx 4,S4.eH.pQ (i:=4) bO,?_⟩
  have e3:eI (s.dg+1)=s.dg+1:=de V V
  rw[e3]
  intro J
  let⟨M,t5⟩:=S4.lW 4 [.i (s.dg+1)]
  have B5:AW al J [I.size,m.size]:=B4.to t5
  replace t5:To al m4 al J:=t5
  have c5:dI (λR=>R=1) al m4 al J:=dI.aV S4.eH.bF S4.eH.YH _ _
  have aK:be J wv B:=km aJ λZ=>c5.fQ _ (lx aJ Z) (by rw[a1 Z];decide)
  have a3:dF J I.size fx [.i z.op,.i z.bH,.i z.cE,.i z.dh,.s aa,.s ac]:=a2.congr (c5.fQ _ (B4 I.size bO).1 (by rw[(B4 I.size bO).2];decide))
  replace M:ST t al J n dC (SB d p {s with dg:=s.dg+1,aR:=aD} cw aI e) cw aI e s.cw aD b a r u h y:=M
  refine⟨t5.fS B4,d,M.eH.bV.dx 0,p,M.eH.bV.dx 1,?_⟩
  have aM:=t4.J t5
  have a0:(kZ c z 0 B).length=B.length:=IM _ _ _ _
  have aY:(cz c H z.bH B).aU=B++eP (A.aU.toNat -B.length):=by simp[cz,ad]
  have aX:(cz c H z.bH B).bI=kZ c z 0 B++eP (A.aU.toNat -(kZ c z 0 B).length):=by simp[cz,ad,aw,mf]
  have aU:(cz c H z.bH B).cC=eP A.aU.toNat:=by simp[cz,ad]
  have kG:∀(U ar:bh)(nb b1 b2 b3:Nat),D J U->tv U ar b1 b2 b3 A.aU.toNat (B++eP (A.aU.toNat -B.length)) (kZ c z 0 B++eP (A.aU.toNat -(kZ c z 0 B).length)) (eP A.aU.toNat)->U.size<=nb/\nb<ar.size->nb≠b1/\nb≠b2/\nb≠b3->
   RQ n nb [I.size,m.size] z.op a.pc a.bH H 0 z.bH (.mk b1 0 A.aU.toNat A.aU.toNat) (.mk b2 0 A.aU.toNat A.aU.toNat) (.mk b3 0 A.aU.toNat A.aU.toNat) ar (λ_ L=>CG t j m n d p (uL c s b a z) L):=λU ar nb b1 b2 b3 Q N aC Z=>by
   let⟨SM,tM⟩:=M.ext Q
   refine SZ (s:={s with dg:=s.dg+1,aR:=aD}) (j:=cz c H z.bH B) (e:=z) SM (B5.to tM) (by rw[aY,aX,aU];exact N) aC Z V bs (λC L hF=>?_) (λC L hF=>?_)
   .rw[aO C];exact CG.from hF (aM.J tM)
   .rw[aQ C];exact CG.from hF (aM.J tM)
  have ay:∀{U:bh}{os:E},D J U->be U os (kZ c z 0 B)->bK dO 107 [.agg #[E.v d,E.v p],vi H,vi z.bH,E.v wv,E.v os] U _:=λQ ho=>Cw (aB.ext (M.eH.cV.J Q)) aT hq V z.bH (aK.ext Q) ho V a0
  have aq:∀{K S:bh},D J K->D K S->∀an,an<6->aS S I.size an=aS K I.size an:=λY G an hi=>by
   have R:=a3.ext Y;match an,hi with
   |0,_=>exact G.cZ (R.dx 0)
   |1,_=>exact G.cZ (R.dx 1)
   |2,_=>exact G.cZ (R.dx 2)
   |3,_=>exact G.cZ (R.dx 3)
   |4,_=>exact G.cZ (R.dx 4)
   |5,_=>exact G.cZ (R.dx 5)
  have Nj:∀{K S:bh},D J K->D K S->aS S n 0=aS K n 0/\aS S n 1=aS K n 1:=λY G=>⟨G.cZ (Y.aS (M.eH.bV.dx 0)),G.cZ (Y.aS (M.eH.bV.dx 1))⟩
  have oY:∀{U:bh},D J U->sC 218 [vp n 0,xv z aa ac,E.v wv] U (kZ c z 0 B):=λQ=>Jv (aB.ext (M.eH.cV.J Q)) (Q.aS (M.eH.bV.dx 0)) (Q.aS (M.eH.bV.dx 1)) bg aa ac (aK.ext Q) V
  have sm:∀{K S:bh},D J K->D K S->gS [I.size,m.size] K S:=λY G=>G.eW λam hb=>Y.lt (B5 am hb).1
  have aF:∀{K S:bh}{nb:Nat},D J K->D K S->nb<K.size->gS [nb,I.size,m.size] K S:=λY G aC=>G.eW λam hb=>by
   rcases bo.1 hb with rfl|hb
   .exact aC
   .exact Y.lt (B5 am hb).1
  refine⟨(oY cY).aP ?_,?_⟩
  .rintro _ ap ⟨os,rfl,oo,P⟩
   have io:be ap os (kZ c z 0 B):=be.jA oo V
   refine⟨sm cY P,os,O,aq cY P 1 V,(Nj cY P).1,(Nj cY P).2,?_,?_⟩
   .refine(ay P io).aP ?_
    rintro _ aE ⟨b1,b2,b3,rfl,N⟩
    have az:=N.ext
    have aG:=P.J az
    refine⟨sm P az,_,_,_,_,_,_,O,?_⟩
    intro aL
    have aA:=px aL
    have F:=aq aG aA
    have X:=Nj aG aA
    refine⟨F 0 V,F 1 V,F 2 V,F 3 V,F 4 V,F 5 V,F 1 V,X.1,X.2,?_⟩
    intro aj
    have aN:D aE aj:=aA.aV bY _ _
    have a6:aj.size=aE.size+1:=by simp[aj,aL,bD]
    have aH:=N.lo
    exact kG ap aj aE.size b1 b2 b3 P (N.LO aN) ⟨by have:=az.aQ;omega,V⟩ ⟨V,V,V⟩
   .intro aG
    obtain⟨aj,aN⟩:=pu aG
    have F:=aq P aj
    have X:=Nj P aj
    refine⟨F 0 V,F 1 V,F 2 V,F 3 V,F 4 V,F 5 V,F 1 V,X.1,X.2,?_⟩
    refine(ay (P.J aj) (io.ext aj)).aP ?_
    rintro _ aL ⟨b1,b2,b3,rfl,N⟩
    have az:=N.ext
    refine⟨aF (P.J aj) az V,_,_,_,_,_,_,O,?_⟩
    intro aA
    have aH:=N.lo
    have aE:=N.bV aj (nb:=ap.size) bY V 0 [.i H,.i 0,.i z.bH,.s (.mk b1 0 A.aU.toNat A.aU.toNat),.s (.mk b2 0 A.aU.toNat A.aU.toNat),.s (.mk b3 0 A.aU.toNat A.aU.toNat)]
    exact kG ap aA ap.size b1 b2 b3 P aE ⟨bY,by simp only[aA,bD];have:=az.aQ;omega⟩ ⟨V,V,V⟩
  .intro aE
   obtain⟨P,aN⟩:=pu aE
   have F:=aq cY P
   have X:=Nj cY P
   refine⟨F 0 V,F 1 V,F 2 V,F 3 V,F 4 V,F 5 V,F 1 V,X.1,X.2,?_⟩
   refine(oY P).aP ?_
   rintro _ aG ⟨os,rfl,oo,W⟩
   have io:be aG os (kZ c z 0 B):=be.jA oo V
   have aj:=P.J W
   have a6:=W.aQ
   refine⟨aF P W V,os,O,aq P W 1 V,(Nj P W).1,(Nj P W).2,?_⟩
   refine(ay aj io).aP ?_
   rintro _ aL ⟨b1,b2,b3,rfl,N⟩
   have ap:=N.ext
   refine⟨aF aj ap V,_,_,_,_,_,_,O,?_⟩
   intro az
   have aH:=N.lo
   have aA:=N.bV aj (nb:=J.size) bY V 0 [.i H,.i 0,.i z.bH,.s (.mk b1 0 A.aU.toNat A.aU.toNat),.s (.mk b2 0 A.aU.toNat A.aU.toNat),.s (.mk b3 0 A.aU.toNat A.aU.toNat)]
   exact kG J az J.size b1 b2 b3 cY aA ⟨bY,by simp only[az,bD];have:=ap.aQ;omega⟩ ⟨V,V,V⟩
def RH(S:ST t j m n dC (SB d p s cw q e) cw q e s.cw s.aR b a r u h y)(ac:b.length<=100000)(w:Int)(O:∀g,b.getLast?=some g->0<=a.bH/\a.bH<g.aU.length/\a.bH<g.bI.length):
 bK dO 180 [vp n 0,fv a r u h,vi w] m λ_ U=>CG t j m n d p (match b.getLast? with|none=>{s with eC:=0,iQ:=w,bq:=[]}|some g=>{s with bq:=b.dropLast++[g.cG a.bH w (iV w)]}) U:=by
 apply zE (n,0)
 simp -zeta only[dR]
 intro D
 obtain⟨R,s1⟩:=pu D
 let⟨f,t1⟩:=S.ext R
 have K:j m.size=0:=S.eH.bF _ bY
 have o:AW j D [m.size]:=λx A=>by simp at A;subst A;exact⟨V,K⟩
 have B:=f.jN.Eb
 have aa:=f.jN.qB.le
 have I:eI ((e.len:Int) -1)=(b.length:Int):=by grind [de]
 have J:Int.toNat (b.length:Int)=b.length:=V
 have z:=f.eH.bV.dx 8
 refine⟨e,z,e,z,?_⟩
 rw[I,J]
 refine⟨V,V,V,f.eH.pQ bO,?_⟩
 intro W
 let⟨k,t2⟩:=f.eH.lW 8 [.s (e.cut 0 b.length 6)]
 obtain⟨c,_⟩:=k.mE (dI.cT _ k.bF) k.bq.pop
 have i:=o.to t2
 have ab:(e.cut 0 b.length 6).len=b.length:=by
  cases e with
  |nil=>simp at B
  |DG x F sp=>simp at B
  |mk x F v l=>simp[E.cut]
 refine⟨t2.fS o,e.cut 0 b.length 6,c.bV.dx 8,λl=>?_,λl=>?_⟩
 .simp at l
  have L:b=[]:=by grind [List.length_eq_zero_iff]
  subst L
  refine⟨c.pQ (by simp[nU]),?_⟩
  intro X
  let⟨v,t3⟩:=c.lW 2 [.i 0]
  have G:=i.to t3
  refine⟨t3.fS i,v.pQ (by simp[nU]),?_⟩
  intro M
  let⟨H,C⟩:=v.lW 3 [.i w]
  exact⟨C.fS G,j,cw,q,_,H,(((t1.J t2).J t3).J C)⟩
 .simp at l
  have ad:b.length≠0:=V
  have Q:b≠[]:=cB
  obtain⟨g,C⟩:∃g,b.getLast?=some g:=⟨_,rB Q⟩
  let⟨H,L,M⟩:=O g C
  rw[C]
  simp only[]
  have P:b=b.dropLast++[g]:=by
   grind [List.getLast?_eq_some_getLast,List.dropLast_concat_getLast]
  have v:wR t j W n dC (SB d p s cw q (e.cut 0 b.length 6)) cw q (e.cut 0 b.length 6) s.cw s.aR (b.dropLast++[g]):=
   ⟨c.cV,c.mq,c.bF,c.bV,c.YH,c.cw,c.aR,(P▸c.bq)⟩
  let⟨r',F,Z,Y,T⟩:=v.bq.jN
  have N:b.dropLast.length<=100000:=cB
  refine(xO ⟨v,T⟩ N H L M w).aP ?_
  rintro _ X ⟨G,t3⟩
  exact⟨t3.fS i,j,cw,q,_,G.eH,(t1.J t2).J t3⟩
end
section
variable{g:da}{a:Instr}
def vW.HE{b:St}{c:an}{f:bW}(C:vW g b c f a){bI:ab}(j:bI=cL f.aU f.bI (cO g a))(i:∀o∈bI,0<=o):
 jd b.aR (λd=>jX c d+fA f.aU bI d+iW ((cO g a).map (bt f.aU)) d)/\∀d,0<=jX c d+fA f.aU bI d:=by
 have e:=Cf (aU:=f.aU) (cO g a) f.bI C.O8 C.Tk.1
 rw[<-j]at e
 refine⟨C.ok.aR.congr λd=>?_,λd=>?_⟩
 .rw[C.fr,jL,nR,e];omega
 .have:=KF (b:=c) (λh k=>C.ok.bq h cB) d
  have:=vd (aU:=f.aU) i d
  omega
def Iq{a:af}{t jx:Int}(h:jx∈cX a t):1<=t/\t<=a.length/\(tG (cX a t) jx:Int)=jx -fc a (t.toNat -1)/\(fc a (t.toNat -1):Int)<=jx:=by
 unfold cX at h⊢;by_cases d:1<=t/\t<=a.length
 .rw[bn d]at h⊢;let⟨b,hd⟩:=dU a (t.toNat -1);rw[hd]at h⊢;simp only[vx,ui]at h⊢;let⟨i,c,e⟩:=gK.1 h;rw[qY]at c;have f:tG ((List.range b.eB.length).map λi=>((fc a (t.toNat -1)+i:Nat):Int)) jx=i:=by
   unfold tG;rw[List.findIdx_eq cB];constructor<;>grind
  grind
 .grind
def TF{d a b:Int}(i:lg a)(j:lg b)(m:bh):DK dO 176 [vi d,vi a,vi b] m (vi (Tw d a b)):=by
 have k:∀n:Int,-2000000<=n/\n<=2000000->DK dO 212 [vi (eI n)] m (vi (J4 n)):=λn o=>by
  apply MA;grind [de,D.cT,J4]
 unfold lg at i j;have l: -2000000<=a*b/\a*b<=2000000:=by
  have c:(a*b).natAbs<=999*999:=by rw[Int.natAbs_mul];exact Q8 V V
  omega
 apply OI;unfold Tw;refine⟨λc=>?_,λc=>⟨λe=>?_,λe=>⟨λf=>?_,λf=>⟨λg=>⟨λh=>?_,λh=>?_⟩,λg=>?_⟩⟩⟩⟩
 .grind [DK.cg]
 .grind [DK.cg]
 .grind [DK.cg]
 .grind [D.cT]
 .grind [D.cT]
 .grind [D.cT]
variable{q:bh}{j:ag}{m:bh}{t:Nat}{d p cw n k:E}{b:St}{c:an}{f:bW}{r o h:E}{u:List ae}
def OH(C:vW g b c f a){bI:ab}(ap:bI=cL f.aU f.bI (cO g a))(hM:pb g b f a bI)
 (ac:ST q j m t dC (SB d p b cw n k) cw n k b.cw b.aR c {f with bI:=bI} r o h u)(aE:gY q d p g){am aK:E}(ha:be q am a.aO)(hj:be q aK a.gE)(bb:b.aR.length<=900000000)(bl:b.cw.length<=900000000):
 bK dO 119 [vp t 0,fv f r o h,xv a am aK] m λ_ R=>CG q j m t d p (eD g b c f a bI) R:=by
 apply xL (t,0)
 simp -zeta only[dR]
 intro m1 A
 have a6:D m A:=((D.cT m).bZ _).bZ _
 have s1:=pz m1
 have s2:A.size=m.size+2:=by simp[A,s1]
 have B:=AW.Nj ac.eH.bF s1 s2
 have U:dF A m1.size fx [.i a.op,.i a.bH,.i a.cE,.i a.dh,.s am,.s aK]:=dF.push m1 _ _
 have kF:dF A m.size iu [.i f.fP,.i f.pc,.i f.bH,.s r,.s o,.s h]:=(dF.push m _ _).ext (D.push m1 _)
 let⟨y,t2⟩:=ac.ext a6
 have bk:bI.length=f.bI.length:=by rw[ap];exact my _ _ _
 have bc:=C.Tk
 have F:=C.oJ
 have hd:=C.bH
 have a3:=C.F.pc
 obtain⟨pq,_,a4,hP,a9,hI⟩:=C.I
 rw[a4]at a3
 have bm:=hP.aT
 have ak:0<=f.pc/\f.pc<=100000:=V
 have aO:=C.ok.kU
 have a8:=C.ok.dg
 have bf:=C.ok.dL
 rw[C.fr]at aO
 have a_:c.length<=1000:=by simp at aO;omega
 have aF:f.aU.length=bI.length/\f.cC.length=bI.length/\bI.length<=2000:=V
 have bp:r.len=f.aU.length:=by have:=ac.jN.aU.aT;simp at this;omega
 have bi:o.len=bI.length:=by have:=ac.jN.bI.aT;simp at this;omega
 have a7:=ha.aT
 have e4:eI (f.pc+1)=f.pc+1:=iz
 have aa:1<=a.aO.length->0<=bt a.aO 0/\bt a.aO 0<f.aU.length:=λK=>C.arg _ (iS V V)
 have M:∀{R},D q R->1<=a.aO.length->aS R am.bu (am.off+Int.toNat (0:Int)*1)=some (vi (bt a.aO 0)):=λZ K=>(ha.ext Z).tB V V
 have T:∀{j m bx cw n k lo lh o h u own'},ST q j m t dC bx cw n k lo lh c {f with bI:=own'} r o h u->∀{ar:Int},0<=ar->ar<f.aU.length->aS m r.bu (r.off+ar.toNat*1)=some (vi (bt f.aU ar)):=λac ar h0 K=>(ac.ED (by simp only[];omega)).tB h0 K
 have aN:=C.HE ap hM.nn
 have a1:∀{j m n lh bx},ST q j m t dC bx cw n k b.cw lh c {f with bI:=bI} r o h u->oZ m k (c++[{f with bI:=bI}]):=λac=>ac.eH.bq.Mo eX (λaf G=>by
  rcases bU.1 G with G|G
  .have Y:=C.ok.bq af (by rw[C.fr];exact dN _ G);obtain⟨pg,_,av,an,_⟩:=Y.Kw C.ok.iG;have K:=Y.lr;have N:=Y.lo;have h3:=Y.lh;rw[av]at K N h3;have:=an.aU;omega
  .simp at G;subst G;simp only[];omega)
 have aQ:∀r',r'∈a.aO->bt f.aU r'<1000->lg (bt f.aU r'):=λr' a5 bd=>by
  have ao:=C.arg r' a5;rcases C.F.XJ _ (iS ao.1 ao.2)with P|P
  .exact P
  .omega
 have aL:∀{ad:bh}(Z:D A ad)(X:Int)(s':St),s'={b with bq:=c++[bW.cG {f with bI:=bI,pc:=f.pc+1} a.bH X 0]}->
  bK dO 175 [vp t 0,vi a.bH,vi X] ad λ_ R=>gS [m1.size,m.size] ad R/\CG q j m t d p s' R:=λZ X s' v=>by
  let⟨SM,tM⟩:=y.ext Z
  refine(Fx SM V hd.1 (by simp only[];omega) (by simp only[];omega) X ak).aP ?_
  rintro _ R ⟨S',t'⟩
  exact⟨t'.fS (B.to tM),j,cw,n,k,by rw[v];exact S'.eH,(t2.J tM).J t'⟩
 have aD:∀{ad:bh}(Z:D A ad)(aH:Int)(s':St),s'={b with bq:=c++[{f with bI:=bI,pc:=aH}]}->
  bK dO 182 [vp t 0,vi aH] ad λ_ R=>gS [m1.size,m.size] ad R/\CG q j m t d p s' R:=λZ aH s' v=>by
  let⟨SM,tM⟩:=y.ext Z
  refine(mX SM V aH).aP ?_
  rintro _ R ⟨S',t'⟩
  exact⟨t'.fS (B.to tM),j,cw,n,k,by rw[v];exact S'.eH,(t2.J tM).J t'⟩
 refine⟨λv=>?_,λe0=>?_⟩
 .simp at v
  exact aL cY _ _ (by unfold eD;simp only[];rw[bn v])
 simp only[ba]at e0
 refine⟨λv=>?_,λe1=>?_⟩
 .simp only[eG,bP]at v
  have N:=F.2.2.1 V
  have w:=aa V
  have I:0<=bt a.aO 1/\bt a.aO 1<f.aU.length:=C.arg _ (iS V V)
  have J:=hM.oL V
  refine⟨V,V,_,M y.eH.cV V,w.1,V,_,T y w.1 w.2,V,V,_,(ha.ext y.eH.cV).tB (i:=1) V V,I.1,V,_,T y I.1 I.2,?_⟩
  refine(TF (aQ _ (iS V V) (J _ (iS V V))) (aQ _ (iS V V) (J _ (iS V V))) A).aP ?_
  rintro _ H ⟨rfl,z⟩
  refine⟨z.eW (λS hb=>(B S hb).1),_,O,z.cZ (U.dx 1),aL z _ _ ?_⟩
  unfold eD;simp only[];rw[aW e0,bn v]
 simp only[cU,ba]at e1
 have aj:¬(a.op=1\/a.op=2\/a.op=3\/a.op=4):=V
 refine⟨λv=>?_,λe5=>?_⟩
 .simp only[bP]at v
  have N:=F.2.1 V
  have w:=aa V
  have ae:(E.len cw)=b.cw.length:=by have:=y.eH.cw.aT;simp at this;omega
  refine⟨cw,y.eH.bV.dx 6,V,V,_,M y.eH.cV V,w.1,V,_,T y w.1 w.2,?_⟩
  intro H
  have z:=px H
  have mu:jF H A.size 0 [.i (bt f.aU (bt a.aO 0))]:=(dF.push A _ _).kY
  let⟨J,t3⟩:=y.ext z
  have B3:=B.to t3
  refine⟨z.cZ (y.eH.bV.dx 6),iE.fw (f:=[.i 0]) (x:=.mk A.size 0 1 1) (new:=[.i (bt f.aU (bt a.aO 0))]) J.eH.cw J.eH.bF O mu (by simp only[E.ku];omega) λal au m4 q1 q2=>?_⟩
  have Q:iE al m4 bB 1 2 au ((b.cw++[bt f.aU (bt a.aO 0)]).map Ce.i):=sp q1
  let⟨L,I⟩:=J.QB q2 Q
  have B4:=B3.to I
  refine⟨I.fS B3,L.eH.pQ (i:=6) bO,?_⟩
  intro m5
  let⟨S5,W⟩:=L.lW 6 [.s au]
  refine⟨W.fS B4,V,V,_,M S5.eH.cV V,w.1,V,_,T S5 w.1 w.2,?_⟩
  refine(Fx (b:={b with cw:=b.cw++[bt f.aU (bt a.aO 0)]}) S5 V hd.1 (by simp only[];omega) (by simp only[];omega) _ ak).aP ?_
  rintro _ m6 ⟨S6,t6⟩
  refine⟨t6.fS (B4.to W),al,au,n,k,?_,(((t2.J t3).J I).J W).J t6⟩
  unfold eD;simp only[];rw[aW e0,aW aj,bn v];exact S6.eH
 simp only[ba]at e5
 have aT:∀X∈f.cC,X≠0->1000<=X/\ix X<b.aR.length:=λX hw aG=>by
  obtain⟨K,dd,a0,_⟩:=C.P3 X hw aG;exact⟨K,br a0⟩
 refine⟨λv=>?_,λe6=>?_⟩
 .simp only[bP]at v
  have h6:=F.2.2.2.2.1 v
  refine(yU y ha C.arg F.1 a.cE aF (by simp only[];omega) ⟨h6.1,h6.2.1⟩ ak V V aT).aP ?_
  rintro _ H ⟨ai,ah,ag,ae,L3,t3⟩
  refine⟨t3.fS B,ai,ah,ag,ae,?_,t2.J t3⟩
  have:eD g b c f a bI=rE b c {f with bI:=bI} a a.cE:=by
   unfold eD rE;simp only[];rw[aW e0,aW aj,aW e5,bn v];rfl
  rw[this];exact L3
 simp only[ba]at e6
 refine⟨λv=>?_,λaC=>?_⟩
 .simp only[bP]at v
  have ay:=F.2.2.2.2.2.1 v
  have ao:a.dh=0:=by rcases hI.dh with P|P;exact P;omega
  have az:(gR g.bT).length<=12:=by
   have:=tE C.ok.iG.mT.dm g.bT.length;rw[qI _ _ bY]at this;exact this
  refine⟨d,y.eH.bV.dx 0,(uC (aE.ext y.eH.cV).bT C.ok.iG.mT.dm).aP ?_⟩
  rintro _ H ⟨rfl,z⟩
  let⟨J,t3⟩:=y.ext z
  have e3:eI (((gR g.bT).length:Int)+a.cE)=cF g+a.cE:=iz
  refine⟨t3.fS B,_,O,z.cZ (U.dx 2),z.cZ (U.dx 0),z.cZ (U.dx 1),z.cZ (U.dx 2),z.cZ (U.dx 3),z.cZ (U.dx 4),z.cZ (U.dx 5),z.cZ (kF.dx 0),z.cZ (kF.dx 1),z.cZ (kF.dx 2),z.cZ (kF.dx 3),z.cZ (kF.dx 4),z.cZ (kF.dx 5),?_⟩
  rw[e3]
  refine(yU J ha C.arg F.1 (cF g+a.cE) aF (by simp only[];omega) (by rw[ao];omega) ak V V aT).aP ?_
  rintro _ m4 ⟨al,ax,aq,aw,Q,I⟩
  refine⟨I.fS (B.to t3),al,ax,aq,aw,?_,(t2.J t3).J I⟩
  have:eD g b c f a bI=rE b c {f with bI:=bI} a (cF g+a.cE):=by
   unfold eD rE;simp only[];rw[aW e0,aW aj,aW e5,aW e6,bn v,aW (λhh=>hh.1 ao)];rfl
  rw[this];exact Q
 simp only[ba]at aC
 refine⟨λv=>?_,λe9=>?_⟩
 .simp only[eG,bP]at v
  have Q:=hI.op
  unfold mJ at Q
  refine(RD y aE C.ok.iG ha C.arg F.1 V (λe'=>?_) (λe'=>⟨F.2.2.1 V,hM.apply e'⟩) aF (λaf G=>?_) ak V V V V C.ok.aR).aP ?_
  .rw[aW V,aW V,aW V,aW V,bn e']at Q;exact Q
  .have Y:=C.ok.bq af (by rw[C.fr];exact dN _ G)
   obtain⟨pg,_,av,an,_⟩:=Y.Kw C.ok.iG
   have K:=Y.lr
   have N:=Y.lo
   have h3:=Y.lh
   rw[av]at K N h3
   have:=an.aU
   omega
  rintro _ H ⟨ai,ah,ag,ae,L3,t3⟩
  refine⟨t3.fS B,ai,ah,ag,ae,?_,t2.J t3⟩
  have:eD g b c f a bI=uL g b c {f with bI:=bI} a:=by
   unfold eD uL;simp only[];rw[aW e0,aW aj,aW e5,aW e6,aW aC,aW V,aW V,aW V,aW V,aW V,aW V,aW V,aW V];by_cases e9:a.op=9
   .rw[bn e9,bn e9];rfl
   .rw[aW e9,aW e9];by_cases Y:a.op=24
    .rw[bn Y,bn Y];rfl
    .rw[aW Y,aW Y,bn V]
  rw[this];exact L3
 simp only[cU,ba]at e9
 refine⟨λv=>?_,λaV=>?_⟩
 .simp only[bP]at v
  have N:=F.2.1 V
  have w:=aa V
  refine⟨V,V,_,M y.eH.cV V,w.1,V,_,T y w.1 w.2,(RH y V (bt f.aU (bt a.aO 0)) (λaf G=>?_)).aP ?_⟩
  .have aG:c≠[]:=λv=>by rw[v]at G;simp at G
   have Y:c=c.dropLast++[af]:=by
    rw[rB aG]at G;simp at G;rw[<-G];exact(nH aG).symm
   have av:c.length=c.dropLast.length+1:=by
    have:=vv List.length Y;simpa using this
   let⟨q1,q2,q3⟩:=C.ok.uJ c.dropLast.length af f (by rw[C.fr,Y];simp) (by rw[C.fr,<-av];simp)
   have an:=C.ok.bq af (by rw[C.fr,Y];simp)
   have:=an.lr
   have:=an.lo
   exact⟨q1,by show f.bH<_;omega,by show f.bH<_;omega⟩
  rintro _ H ⟨ai,ah,ag,ae,L3,t3⟩
  refine⟨t3.fS B,ai,ah,ag,ae,?_,t2.J t3⟩
  unfold eD
  simp only[]
  rw[aW e0,aW aj,aW e5,aW e6,aW aC,aW V,aW V,aW V,aW V,aW V,aW V,aW V,aW V,aW V,aW V,aW V]
  exact L3
 simp only[ba]at aV
 have a2:∀(af:St),(if a.op=0 then af else af)=af:=λaf=>by split<;>rfl
 have Q9:eD g b c f a bI=(
  if a.op=14 then{b with aR:=qv b.aR (bt f.aU (bt a.aO 0)),bq:=c++[{f with bI:=gX bI (bt a.aO 0) (bt bI (bt a.aO 0)+1),pc:=f.pc+1}]}
  else if a.op=15 then{b with aR:=pG (jK b.aR [bt f.aU (bt a.aO 0)]),bq:=c++[{f with bI:=bI,pc:=f.pc+1}]}
  else if a.op=16\/a.op=17 then xB b c {f with bI:=bI} a
  else if a.op=18 then{b with bq:=c++[bW.cG {f with bI:=bI,pc:=f.pc+1} a.bH (bt f.aU (bt a.aO 0)) (iV (bt f.aU (bt a.aO 0)))]}
  else if a.op=19 then{b with bq:=c++[bW.cG {f with bI:=bI,pc:=f.pc+1} a.bH (bt (bz b.aR (bt f.aU (bt a.aO 0))).bJ a.cE) 0]}
  else if a.op=20 then{b with bq:=c++[{f with bI:=bI,pc:=if bt f.aU (bt a.aO 0)=0 then a.cE else f.pc+1}]}
  else if a.op=21 then{b with bq:=c++[{f with bI:=bI,pc:=bt a.gE (tG (cX g.bT a.cE) (bz b.aR (bt f.aU (bt a.aO 0))).jx)}]}
  else{b with bq:=c++[{f with bI:=bI,pc:=a.cE}]}):=by
  unfold eD
  simp only[]
  rw[aW e0,aW aj,aW e5,aW e6,aW aC]
  by_cases av:a.op=14
  .rw[bn av,bn av]
  rw[aW av,aW av]
  by_cases aw:a.op=15
  .rw[bn aw,bn aw]
  rw[aW aw,aW aw]
  by_cases ax:a.op=16\/a.op=17
  .rw[bn ax,bn ax];rfl
  rw[aW ax,aW ax]
  by_cases ay:a.op=18
  .rw[bn ay,bn ay]
  rw[aW ay,aW ay]
  by_cases az:a.op=19
  .rw[bn az,bn az]
  rw[aW az,aW az]
  by_cases aA:a.op=20
  .rw[bn aA,bn aA]
  rw[aW aA,aW aA]
  by_cases aB:a.op=21
  .rw[bn aB,bn aB]
  rw[aW aB,aW aB]
  have:=C.opc
  rw[bn V]
 rw[Q9]
 clear Q9 a2
 refine⟨λv=>?_,λaM=>?_⟩
 .simp only[bP]at v
  rw[bn v]
  have N:=F.2.1 V
  have w:=aa V
  let⟨Y,bg⟩:=hM.dup v
  let⟨aY,bo⟩:=dz Y
  refine⟨V,V,_,M y.eH.cV V,w.1,V,_,T y w.1 w.2,?_⟩
  intro H
  have z:=px H
  have ow:jw A H bB 1 (.mk A.size 0 1 1) ([bt f.aU (bt a.aO 0)].map Ce.i):=jw.bF (D.cT A) bB 1 _ 1 bO
  let⟨J,t3⟩:=y.ext z
  have B3:=B.to t3
  have hz:j A.size=0:=y.eH.bF _ bY
  refine(Ib J.eH (be.jA ow bO) (λ_=>hz) (λX hw=>?_) (λaU hc=>?_) bO V).aP ?_
  .simp at hw;subst hw;exact⟨Y.1,br aY⟩
  .have:=C.ok.aR.gZ aU hc;have P:=this.lo;have h6:=this.hi;omega
  rintro _ m4 ⟨aI,c4⟩
  let⟨L,I⟩:=J.jS (c4.aP λaf hk=>bC hk) aI
  have B4:=B3.to I
  have an:bt a.aO 0<bI.length:=V
  have bj:0<=bt bI (bt a.aO 0)/\bt bI (bt a.aO 0)<=999999:=by
   refine⟨hM.nn _ (iS (l:=bI) w.1 an),?_⟩;have G:=jT (l:=bI) w.1 an;rw[ap]at G;let⟨qq,aJ,aP⟩:=ou _ _ _ _ G;have:=(C.Tu qq (aZ aJ)).2;rw[<-ap]at aP;omega
  have aX:eI (bt bI (bt a.aO 0)+1)=bt bI (bt a.aO 0)+1:=iz
  refine⟨I.fS B3,V,V,_,M L.eH.cV V,V,V,_,M L.eH.cV V,w.1,V,bt bI (bt a.aO 0),(L.NG (by simp only[];omega)).tB w.1 an,w.1,V,L.jN.bI.SA w.1 an,?_⟩
  rw[aX,e4]
  intro m5
  let⟨S5,W⟩:=L.tV w.1 an (bt bI (bt a.aO 0)+1)
  refine⟨W.fS B4,(mX (b:={b with aR:=kV b.aR [bt f.aU (bt a.aO 0)]}) S5 V (f.pc+1)).aP ?_⟩
  rintro _ m6 ⟨S6,t6⟩
  exact⟨t6.fS (B4.to W),j,cw,n,k,S6.eH,(((t2.J t3).J I).J W).J t6⟩
 simp only[ba]at aM
 rw[aW aM]
 have aU:a.aO.length=1->a.aO=[bt a.aO 0]:=λK=>by
  cases Z:a.aO with
  |nil=>rw[Z]at K;simp at K
  |cons an G=>cases G with
   |nil=>rfl
   |cons aX G=>rw[Z]at K;simp at K
 refine⟨λv=>?_,λan=>?_⟩
 .simp only[bP]at v
  rw[bn v]
  have N:=F.2.1 V
  have w:=aa V
  have ht:cO g a=[bt a.aO 0]:=by unfold cO;rw[bn V];exact aU V
  have G:=aN.1
  rw[ht]at G
  refine⟨n,y.eH.bV.dx 7,V,V,_,M y.eH.cV V,w.1,V,_,T y w.1 w.2,?_⟩
  intro H
  have z:=px H
  have ow:jw A H bB 1 (.mk A.size 0 1 1) ([bt f.aU (bt a.aO 0)].map Ce.i):=jw.bF (D.cT A) bB 1 _ 1 bO
  let⟨J,t3⟩:=y.ext z
  have B3:=B.to t3
  refine⟨z.cZ (y.eH.bV.dx 7),(KT J.eH.aR J.eH.bF (be.jA ow bO) (e:=λS=>jX c S+fA f.aU bI S) (G.congr λS=>O) aN.2 V).aP ?_⟩
  rintro _ m4 ⟨al,aq,rfl,aI,c4⟩
  let⟨L,I⟩:=J.jS c4 aI
  have B4:=B3.to I
  refine⟨I.fS B3,aq,O,L.eH.pQ (i:=7) bO,?_⟩
  intro m5
  let⟨S5,W⟩:=L.lW 7 [.s aq]
  rw[e4]
  refine⟨W.fS B4,(mX (b:={b with aR:=pG (jK b.aR [bt f.aU (bt a.aO 0)])}) S5 V (f.pc+1)).aP ?_⟩
  rintro _ m6 ⟨S6,t6⟩
  exact⟨t6.fS (B4.to W),al,cw,aq,k,S6.eH,(((t2.J t3).J I).J W).J t6⟩
 simp only[ba]at an
 rw[aW an]
 refine⟨λv=>?_,λal=>?_⟩
 .simp only[eG,bP]at v
  rw[bn v]
  refine(MR y ha C.arg ⟨F.2.2.2.1 v,F.1⟩ aF ak V V (λau G=>?_) (hM.Qi v).1 C.ok.aR).aP ?_
  .refine⟨hM.nn au G,?_⟩
   let⟨af,hk⟩:=cH.1 G
   simp only[]at hk
   rw[ap]at hk
   let⟨qq,aJ,aP⟩:=ou _ _ _ _ hk
   have:=(C.Tu qq (aZ aJ)).2
   omega
  rintro _ H ⟨ai,ah,ag,ae,L3,t3⟩
  exact⟨t3.fS B,ai,ah,ag,ae,L3,t2.J t3⟩
 simp only[cU,ba]at al
 rw[aW V]
 refine⟨λv=>?_,λW=>?_⟩
 .simp only[bP]at v
  rw[bn v]
  have N:=F.2.1 V
  have w:=aa V
  refine⟨V,V,_,M y.eH.cV V,w.1,V,_,T y w.1 w.2,(xO y V hd.1 (by simp only[];omega) (by simp only[];omega) _).aP ?_⟩
  rintro _ H ⟨J,t3⟩
  rw[e4]
  refine⟨t3.fS B,(mX J V (f.pc+1)).aP ?_⟩
  rintro _ m4 ⟨L,I⟩
  exact⟨I.fS (B.to t3),j,cw,n,k,L.eH,(t2.J t3).J I⟩
 simp only[ba]at W
 rw[aW W]
 have ag:=y.rv aE V V (a1 y)
 refine⟨λv=>?_,λJ=>?_⟩
 .simp only[bP]at v
  rw[bn v]
  have N:=F.2.1 V
  have w:=aa V
  let⟨Y,G⟩:=hM.tL v
  have Q:=hI.op
  unfold mJ at Q
  simp(disch:=omega) only[aW,bn]at Q
  refine⟨V,V,_,M y.eH.cV V,w.1,V,_,T y w.1 w.2,(jG ag Y.1 (dz Y).1).aP ?_⟩
  rintro _ H ⟨fl,rfl,I,z⟩
  have L:=I.aT
  refine⟨z.eW (λS hb=>(B S hb).1),_,_,_,O,z.cZ (U.dx 2),z.cZ (U.dx 1),Q.2.1,V,_,I.tB Q.2.1 G,aL z _ _ O⟩
 simp only[ba]at J
 rw[aW J]
 refine⟨λv=>?_,λL=>?_⟩
 .simp only[bP]at v
  rw[bn v]
  have N:=F.2.1 V
  have w:=aa V
  refine⟨V,V,_,M y.eH.cV V,w.1,V,_,T y w.1 w.2,λP=>?_,λP=>?_⟩
  .simp at P;exact aD cY _ _ (by rw[bn P])
  .simp at P;rw[e4];exact aD cY _ _ (by rw[aW P])
 simp only[ba]at L
 rw[aW L]
 refine⟨λv=>?_,λae=>?_⟩
 .simp only[bP]at v
  rw[bn v]
  have N:=F.2.1 V
  have w:=aa V
  let⟨Y,ah⟩:=hM.xS v
  let⟨aY,bg,aI,au⟩:=Iq ah
  have Q:=hI.op
  unfold mJ at Q
  simp(disch:=omega) only[aW,bn]at Q
  have aJ:tG (cX g.bT a.cE) (bz b.aR (bt f.aU (bt a.aO 0))).jx<(cX g.bT a.cE).length:=mB ⟨_,ah,bO⟩
  have aX:=hj.aT
  have aP:=Q.2.2.1
  have aq:=(C.ok.aR.gZ _ (aZ (dz Y).1)).wW (dz Y).2
  have bj:=C.ok.iG.mT.dm.aT
  refine⟨V,V,_,M y.eH.cV V,w.1,V,_,T y w.1 w.2,(jG ag Y.1 (dz Y).1).aP ?_⟩
  rintro _ H ⟨fl,rfl,I,z⟩
  have e7:eI (a.cE -1)=((a.cE.toNat -1:Nat):Int):=by rw[iz];omega
  rw[e7]
  have ai:=y.eH.cV.J z
  refine⟨z.eW (λS hb=>(B S hb).1),_,_,_,O,d,z.aS (y.eH.bV.dx 0),(nk (aE.ext ai).bT C.ok.iG.mT.dm V).aP ?_⟩
  rintro _ m4 ⟨rfl,G⟩
  have e8:eI ((bz b.aR (bt f.aU (bt a.aO 0))).jx -((fc g.bT (a.cE.toNat -1):Nat):Int))=((tG (cX g.bT a.cE) (bz b.aR (bt f.aU (bt a.aO 0))).jx:Nat):Int):=by
   rw[iz];omega
  refine⟨G.eW (λS hb=>z.lt (B S hb).1),_,O,G.cZ ((U.ext z).dx 5),?_⟩
  rw[e8]
  refine⟨V,V,_,(hj.ext (ai.J G)).tB V V,aD (z.J G) _ _ O⟩
 simp only[ba]at ae
 rw[aW ae]
 refine⟨λv=>aD cY _ _ O,λw=>?_⟩
 simp only[ba]at w
 have:=C.opc
 omega
end
section
def Z4{l a:ab}(h:a.length=l.length):kH (l.map Ce.i) 0 (a.map Ce.i)=a.map Ce.i:=by
 have:=Gi [] (a.map Ce.i) (l.map Ce.i) cB;grind [List.length_nil,List.drop_of_length_le]
section
variable{j:bh}{c:ag}{a:bh}{g k:Nat}{q:ae}{cw e b:E}{u:ab}{t:ah}{l:an}{f:bW}{r i h:E}{m:List ae}
def ST.aaE(S:ST j c a g k q cw e b u t l f r i h m){bI:ab}(p:bI.length=f.bI.length)(w:0<bI.length):jb a i.bu i.off (bI.map Ce.i).length/\ST j c (aV a i.bu i.off (bI.map Ce.i)) g k q cw e b u t l {f with bI:=bI} r i h m/\To c a c (aV a i.bu i.off (bI.map Ce.i)):=by
 have T:=S.jN;have B:i.cap≠0:=λk=>by have:=(T.bI.zS k).1;simp at this;rw[this]at p;simp at p;rw[p]at w;simp at w
 have A:=T.bI.bu B;have d:dI (λs=>s=11+3*l.length) c a c (aV a i.bu i.off (bI.map Ce.i)):=dI.aV S.eH.bF A.2 _ _;have x:=T.bI.dX (o:=0) (new:=bI.map Ce.i) cB;rw[Z4 p,uh]at x;have v:rK c (aV a i.bu i.off (bI.map Ce.i)) b l {f with bI:=bI} r i h m:=⟨T.qB.fN d V,T.aT,T.aQ,T.Cq d λs _ y=>V,T.aU.fN d V,x,T.cC.fN d V⟩;let⟨y,z⟩:=S.eH.mE (d.aP λs C=>V) v.qe;refine⟨?_,⟨y,v⟩,z⟩;have:=T.bI.wr (o:=0) (n:=(bI.map Ce.i).length) cB;grind
end
variable{j:bh}{c:ag}{a:bh}{g:Nat}{d p cw e b:E}{s:St}
def TG{k:da}(L:wR j c a g dC (SB d p s cw e b) cw e b s.cw s.aR s.bq)(J:gY j d p k)(z:dZ k s)(aC:∀N∈s.bq,∀A∈N.aU,A<=9223372036854775807)(aE:s.aR.length<=900000000)(aJ:s.cw.length<=900000000):
 bK dO 66 [vp g 0] a λ_ m'=>CG j c a g d p (qy k s) m':=by
 apply AG (g,0)
 simp -zeta only[dR]
 refine⟨s.eC,L.bV.dx 2,λR=>?_,λR=>?_⟩
 .simp at R
  rw[tZ R]
  exact⟨c,cw,e,b,L,dI.cT _ L.bF⟩
 have ab:s.eC=3:=sp R
 let⟨n,h,t⟩:=z.split ab
 have aG:s.bq.getLast?=some h:=by rw[t];simp
 have aA:s.bq.dropLast=n:=by rw[t];simp
 have C:vW k s n h (fE k h):=⟨z,ab,t,O,aC⟩
 have aO:qy k s=(open Classical in if qM (fE k h).op/\s.dg=s.dL then{s with eC:=1}else if pb k s h (fE k h) (cL h.aU h.bI (cO k (fE k h)))then eD k s n h (fE k h) (cL h.aU h.bI (cO k (fE k h)))else{s with eC:=2}):=by
  unfold qy;rw[aW (sp ab),aG,aA]
 rw[aO]
 generalize fE k h=x at*
 have L':wR j c a g dC (SB d p s cw e b) cw e b s.cw s.aR (n++[h]):=by rw[<-t];exact L
 let⟨U,K,Q,ar,Z⟩:=L'.bq.jN
 have S:ST j c a g dC (SB d p s cw e b) cw e b s.cw s.aR n h U K Q ar:=⟨L',Z⟩
 have aY:=Z.Eb
 have aj:=z.kU
 have aX:=z.dg
 have a0:=z.dL
 rw[t]at aj
 have aZ:n.length<=1000:=by simp at aj;omega
 have e1:eI ((b.len:Int) -1)=(n.length:Int):=by rw[iz];omega
 have e2:Int.toNat (n.length:Int)=n.length:=V
 have P:aS a g 8=some b.v:=S.eH.bV.dx 8
 let⟨g0,g1,g2,g3,g4,g5⟩:=Z.kY
 refine⟨b,P,b,P,?_⟩
 rw[e1,e2]
 refine⟨V,V,_,g0,_,g1,_,g2,U,g3,K,g4,Q,g5,?_⟩
 intro m1
 have u:=px m1
 refine⟨u.cZ g0,u.cZ g1,u.cZ g2,u.cZ g3,u.cZ g4,u.cZ g5,u.cZ P,u.cZ P,?_⟩
 intro w
 have aP:D a w:=u.aV bY _ _
 have s2:w.size=a.size+1:=by simp[w,m1,bD]
 have kF:dF w a.size iu [.i h.fP,.i h.pc,.i h.bH,.s U,.s K,.s Q]:=dF.aV (m:=m1) (o:=0) (r:=[.i h.fP,.i h.pc,.i h.bH,.s U,.s K,.s Q]) (dF.push a _ _)
 let⟨M,t2⟩:=S.ext aP
 clear_value w
 let⟨a7,hq,aM,hP,az,hI⟩:=C.I
 let⟨pa,pl,pc,a1,a3,al,k0,k1,k2,k3,k4⟩:=J.di.bt hq
 let⟨aq,aQ,ha,hj,i0,i1,i2,i3,i4,i5⟩:=al.bt az
 have a4:=J.di.aT
 have a2:=al.aT
 have hF:=C.F
 have aL:=hF.fP
 have ak:=hF.pc
 rw[aM]at ak
 have l:=M.eH.cV
 refine⟨p,M.eH.bV.dx 1,aL.1,V,pc,l.aS k4,ak.1,V,_,l.aS i0,_,l.aS i1,_,l.aS i2,_,l.aS i3,aq,l.aS i4,aQ,l.aS i5,?_⟩
 intro m3
 have q:=px m3
 refine⟨q.cZ (l.aS i0),q.cZ (l.aS i1),q.cZ (l.aS i2),q.cZ (l.aS i3),q.cZ (l.aS i4),q.cZ (l.aS i5),q.cZ (kF.dx 1),q.cZ (l.aS k4),q.cZ (kF.dx 0),q.cZ (M.eH.bV.dx 1),?_⟩
 intro T
 have ad:D w T:=q.aV bY _ _
 have s4:T.size=w.size+1:=by simp[T,m3,bD]
 let⟨S4,t4⟩:=M.ext ad
 have aR:=kF.ext ad
 have B4:AW c T [w.size,a.size]:=λac I=>by
  simp at I;rcases I with rfl|rfl
  .exact⟨V,S.eH.bF _ V⟩
  .exact⟨V,S.eH.bF _ bY⟩
 have aV:=t2.J t4
 refine(QP).aP ?_
 rintro _ m5 ⟨ac,rfl,I,ae⟩
 let⟨v,t5⟩:=S4.ext ae
 have W:=B4.to t5
 have B:=aR.ext ae
 have am:=aV.J t5
 have aF:=C.Tk
 have h4:=C.oJ
 have aa:(cL h.aU h.bI (cO k x)).length=h.bI.length:=my _ _ _
 refine⟨t5.fS B4,ac,O,λax=>⟨s.dg,v.eH.bV.dx 4,s.dL,v.eH.bV.dx 5,λH=>?_,λH=>?_⟩,λaw=>?_⟩
 .simp at H
  refine⟨v.eH.pQ (i:=2) bO,?_⟩
  intro m6
  let⟨G,E⟩:=v.lW 2 [.i 1]
  refine⟨E.fS W,c,cw,e,b,?_,am.J E⟩
  rw[bn ⟨I.1 ax,H⟩]
  have:=G.eH
  rw[<-t]at this
  exact this
 all_goals
  have ay:¬(qM x.op/\s.dg=s.dL):=by
   first
   |exactλy=>by simp at H;exact H y.2
   |exactλy=>fb I aw y.1
  rw[aW ay]
  have ai:=v.eH.cV
  refine⟨d,v.eH.bV.dx 0,p,v.eH.bV.dx 1,(OQ (J.ext ai) C.jE (ha.ext ai) V h4.2.2.2.1).aP ?_⟩
  rintro _ m6 ⟨ts,rfl,ot,y⟩
  let⟨G,E⟩:=v.ext y
  have B6:=W.to E
  have a5:=Ni k x
  have it:be m6 ts (cO k x):=be.jA ot V
  refine⟨E.fS W,ts,O,y.cZ (B.dx 0),y.cZ (B.dx 1),y.cZ (B.dx 2),y.cZ (B.dx 3),y.cZ (B.dx 4),y.cZ (B.dx 5),?_⟩
  refine(MS (b:=h) (G.ED V) (G.NG V) it C.O8 aF.1 V V (λA F=>oh (C.Tu A F))).aP ?_
  rintro _ m7 ⟨os,rfl,oo,av⟩
  let⟨A,t7⟩:=G.ext av
  have B7:=B6.to t7
  have io:be m7 os (cL h.aU h.bI (cO k x)):=be.jA oo V
  have aD:oZ m7 b (n++[h]):=A.eH.bq.Mo eX (λN Y=>by
   have F:=z.bq N (by rw[t];exact Y);obtain⟨pg,_,af,X,_⟩:=F.Kw z.iG;have q1:=F.lr;have q2:=F.lo;have q3:=F.lh;rw[af]at q1 q2 q3;have:=X.aU;omega)
  have ag:=A.rv J V V aD
  have aN:({s with bq:=n++[h]}:St)=s:=by rw[<-t]
  rw[aN]at ag
  refine⟨t7.fS B6,os,O,(QR ag C (A.ED V) (A.Wo V) (ha.ext A.eH.cV) io aa).aP ?_⟩
  rintro _ m8 ⟨b2,rfl,ah,af⟩
  let⟨N,t8⟩:=A.ext af
  have X:=B7.to t8
  have an:=((am.J E).J t7).J t8
  refine⟨t8.fS B7,b2,O,λh9=>?_,λh9=>?_⟩
  .rw[aW (nb ah h9)]
   refine⟨N.eH.pQ (i:=2) bO,?_⟩
   intro m9
   let⟨Y,F⟩:=N.lW 2 [.i 2]
   refine⟨F.fS X,c,cw,e,b,?_,an.J F⟩
   have:=Y.eH
   rw[<-t]at this
   exact this
  .have hM:=yb ah h9
   rw[bn hM]
   have aI:=io.aT
   have aH:K.len=h.bI.length:=by have:=N.jN.bI.aT;simp at this;omega
   let⟨w1,Y,F⟩:=N.aaE aa V
   refine⟨(cL h.aU h.bI (cO k x)).map Ce.i,by rw[aI,aH,aa];simp;omega,(io.ext af).Mr,w1,?_⟩
   intro m9
   have B9:=X.to F
   refine⟨F.fS X,(OH C O hM Y J ha hj aE aJ).aP ?_⟩
   rintro _ a6 aB
   let⟨aU,aT,aK,au,ap,ao⟩:=aB
   exact⟨ao.fS B9,aU,aT,aK,au,ap,(an.J F).J ao⟩
end
section
variable{a:da}{s:St}{n:Nat}
@[grind cases] structure Sm (n:Nat) (s:St):Prop where
 aR:s.aR.length<=n
 cw:s.cw.length<=n
 JQ:∀g∈s.bq,∀w∈g.aU,w<=9223372036854775807
def FZ:∀(n:Nat)(h:ah)(g:ab),DV h+g.length<=n->(jK h g).length=h.length
 |n,h,[],_=>by rw[uq]
 |0,h,w::r,b=>by simp at b
 |n+1,h,w::r,b=>by
  simp only[dy]at b;rcases gJ (iI h w)with a|a
  .let⟨e,f⟩:=dz a;by_cases c:(bz h w).bS=1
   .have d:=mr (d:=kW) e;simp only[bn f,kW]at d;simp at d;rw[ur a c,FZ n _ _ (by simp[kW];omega)];simp
   .have d:=mr (d:={bz h w with bS:=(bz h w).bS -1}) e;simp only[bn f]at d;rw[bn V]at d;rw[sF a c,FZ n _ _ (by simp only[iU];omega)];simp[iU]
  .rw[sG a,FZ n _ _ V]
theorem Vn(h:ah):(pG h).length<=h.length:=by grind [pG]
theorem Qr:∀(a:ab)(g:ah),(kV g a).length=g.length
 |[],g=>O
 |w::a,g=>by rw[kV,Qr a];simp[qv]
def RX(h:ah)(w:Int):(iZ h w).length<=h.length:=by
 grind [iZ,Vn,Qr,iU]
def Sr(h:ah)(a:Nat)(c:dt):(kC h a c).length<=h.length+1:=by
 grind [kC]
theorem Wz{k:an}{f:bW}{x:Instr}(C:vW a s k f x)(B:Sm n s)(hn:n<=900000000)(bI:ab)(Z:pb a s f x bI):Sm (n+1) (eD a s k f x bI):=by
 have hh:=B.aR;have ho:=B.cw;have v:=B.JQ;rw[C.fr]at v;have Y:=C.oJ;have t:∀r,bt f.aU r<=9223372036854775807:=λr=>by
  rcases dJ r.toNat f.aU.length with m|m
  .let⟨y,b⟩:=gD m;rw[Ps b];exact v f bO y (aZ b)
  .rw[bt,fG,lp m];simp
 have Cq:∀g∈k,∀w∈g.aU,w<=9223372036854775807:=λg p=>v g (by simp[p]);have c:∀{g:bW},(∀w∈g.aU,w<=9223372036854775807)->∀q∈k++[g],∀w∈q.aU,w<=9223372036854775807:=λp q d=>by
  rcases bU.1 d with d|d
  .exact Cq q d
  .simp at d;subst d;exact p
 have e:∀w∈f.aU,w<=9223372036854775807:=v f bO;have j:∀(H:Int),H<=9223372036854775807->∀w∈gX f.aU x.bH H,w<=9223372036854775807:=λH hv w b=>by
  rcases tO b with rfl|b
  .exact hv
  .exact e w b
 have ac:∀{w},lg w\/iI s.aR w->w<=9223372036854775807:=λh=>by
  rcases h with h|h
  .have:=h.2;omega
  .have m:=br (dz h).1;unfold ix at m;omega
 have G:∀(g K:Int)(I:ab),(∀w∈I,w<=9223372036854775807)->∀w∈(cz a g K I).aU,w<=9223372036854775807:=λg K I b w h=>by
  simp only[cz]at h;rcases bU.1 h with h|h
  .exact b w h
  .rw[pR h];omega
 have Nj:∀{g q:bW},(∀w∈g.aU,w<=9223372036854775807)->(∀w∈q.aU,w<=9223372036854775807)->∀J∈k++[g,q],∀w∈J.aU,w<=9223372036854775807:=λp d J o=>by
  rcases bU.1 o with o|o
  .exact Cq J o
  .simp at o;rcases o with rfl|rfl
   .exact p
   .exact d
 have aa:∀w∈dQ f x.aO,w<=9223372036854775807:=λw b=>by
  obtain⟨r,_,rfl⟩:=gK.1 b;exact t r
 have ad:=sV s.aR;unfold eD;simp only[];by_cases y:x.op=0
 .rw[bn y];exact⟨by simp only[];omega,by simp only[];omega,c (j _ (oh (Y.2.2.2.2.2.2 y)))⟩
 rw[aW y];by_cases L:x.op=1\/x.op=2\/x.op=3\/x.op=4
 .rw[bn L];exact⟨by simp only[];omega,by simp only[];omega,c (j _ (oh ((Qn x.op (bt f.aU (bt x.aO 0)) (bt f.aU (bt x.aO 1))).2)))⟩
 rw[aW L];by_cases W:x.op=5
 .rw[bn W];exact⟨by simp only[];omega,eX,c (j _ (t _))⟩
 rw[aW W];by_cases A:x.op=6
 .rw[bn A];split
  .refine⟨eX,by simp only[];omega,c (j _ ?_)⟩;rename_i u;have E:=Y.2.2.2.2.1 A;obtain⟨F,D,z,_⟩:=C.P3 _ (iS (l:=f.cC) (i:=x.dh -1) V V) u.2;have:=br z;unfold ix at this;omega
  .refine⟨?_,by simp only[];omega,c (j _ V)⟩;have:=Sr s.aR (fF s.aR) ⟨1,x.cE,dQ f x.aO⟩;simp only[];omega
 rw[aW A];by_cases M:x.op=10
 .rw[bn M];refine⟨?_,by simp only[];omega,c (j _ V)⟩;have:=Sr s.aR (fF s.aR) ⟨1,cF a+x.cE,dQ f x.aO⟩;simp only[];omega
 rw[aW M];by_cases N:x.op=14
 .rw[bn N];exact⟨by simp[qv];omega,by simp only[];omega,c e⟩
 rw[aW N];by_cases O:x.op=15
 .rw[bn O];refine⟨?_,by simp only[];omega,c e⟩;have m:=Vn (jK s.aR [bt f.aU (bt x.aO 0)]);rw[FZ _ _ _ bY]at m;simp only[];omega
 rw[aW O];by_cases P:x.op=16\/x.op=17
 .rw[bn P];split
  .exact⟨eX,by simp only[];omega,c e⟩
  .refine⟨?_,by simp only[];omega,c e⟩;have:=RX s.aR (bt f.aU (bt x.aO 0));simp only[];omega
 rw[aW P];by_cases Q:x.op=18
 .rw[bn Q];exact⟨by simp only[];omega,by simp only[];omega,c (j _ (t _))⟩
 rw[aW Q];by_cases u:x.op=19
 .rw[bn u];refine⟨by simp only[];omega,by simp only[];omega,c (j _ ?_)⟩;let⟨E,S⟩:=Z.tL u;obtain⟨T,_,_,_,_,R⟩:=C.I;have z:=R.op;unfold mJ at z;rw[aW V,aW V,aW V,aW V,aW V,aW V,aW V,bn u]at z;let⟨D,F⟩:=dz E;exact ac (((C.ok.aR.gZ _ (aZ D)).wW F).1 _ (iS z.2.1 S))
 rw[aW u];by_cases R:x.op=20
 .rw[bn R];exact⟨by simp only[];omega,by simp only[];omega,c e⟩
 rw[aW R];by_cases S:x.op=21
 .rw[bn S];exact⟨by simp only[];omega,by simp only[];omega,c e⟩
 rw[aW S];by_cases T:x.op=22
 .rw[bn T];exact⟨by simp only[];omega,by simp only[];omega,c e⟩
 rw[aW T];by_cases X:x.op=9
 .rw[bn X];exact⟨by simp only[];omega,by simp only[];omega,Nj e (G _ _ _ aa)⟩
 rw[aW X];by_cases U:x.op=24
 .rw[bn U];exact⟨by simp only[];omega,by simp only[];omega,c (G _ _ _ aa)⟩
 rw[aW U];by_cases z:x.op=11
 .rw[bn z];refine⟨?_,by simp only[];omega,Nj e (G _ _ _ λw b=>?_)⟩
  .have:=RX s.aR (bt f.aU (bt x.aO 0));simp only[];omega
  .rcases bU.1 b with b|b
   .obtain⟨E,_⟩:=Z.apply z;let⟨D,F⟩:=dz E;exact ac (((C.ok.aR.gZ _ (aZ D)).wW F).1 _ b)
   .simp at b;subst b;exact t _
 rw[aW z];split
 .exact⟨by simp only[];omega,by simp only[];omega,bO⟩
 .rename_i D E;refine⟨by simp only[];omega,by simp only[];omega,λq d=>?_⟩;have F:D∈k:=List.mem_of_getLast? E;rcases bU.1 d with d|d
  .exact Cq q ((List.dropLast_sublist k).subset d)
  .simp at d;subst d;intro w b;rcases tO b with rfl|b
   .exact t _
   .exact Cq D F w b
def aa0(h:dZ a s)(c:Sm n s)(k:n<=900000000):Sm (n+1) (qy a s):=by
 have b:Sm (n+1) s:=⟨by have:=c.aR;omega,oh c.cw,c.JQ⟩;by_cases e:s.eC=3
 .let⟨d,f,i⟩:=h.split e;have j:s.bq.getLast?=some f:=cB;have g:s.bq.dropLast=d:=cB;have C:vW a s d f (fE a f):=⟨h,e,i,O,c.JQ⟩;unfold qy;rw[aW cB,j,g];simp only[];split
  .exact⟨b.aR,b.cw,b.JQ⟩
  split
  .grind [Wz]
  .exact⟨b.aR,b.cw,b.JQ⟩
 .grind [tZ]
def AQ{a:da}:∀(k:Nat){s:St}{n:Nat},dZ a s->Sm n s->n+k<=900000000->Sm (n+k) (bA a k s)
 |0,s,n,_,b,_=>b
 |k+1,s,n,h,b,c=>by
  have:=AQ k (O1 h) (aa0 h b V) V;grind [bA]
def AP(a:da)(dL:Int):Sm 0 (jC a dL):=⟨by simp[jC],by simp[jC],λg b w c=>by
 simp[jC]at b;subst b;simp only[cz,iA]at c;rw[pR c];omega⟩
end
section
variable{a:da}
section
variable{c:bh}{e:ag}{m:bh}{b:Nat}{d p cw g f:E}{s:St}
def Vf(L:wR c e m b dC (SB d p s cw g f) cw g f s.cw s.aR s.bq)(D:gY c d p a)(w:dZ a s){y:Nat}(C:Sm y s)(h:Nat)(K:h<=100000)(M:y<=500000000):
 bK dO 57 [vp b 0,vi h] m λG t=>(∃i:Int,G=vi i)/\CG c e m b d p (bA a h s) t:=by
 apply BR (b,0)
 refine⟨λo t=>∃k:Nat,o=k/\k<=h/\CG c e m b d p (bA a k s) t,λo _=>((h:Int) -o).toNat,⟨0,O,iD _,e,cw,g,f,L,dI.cT _ L.bF⟩,?_⟩
 rintro o N ⟨k,rfl,J,A,z,x,u,l,t1⟩
 have E:=xQ k w
 have r:=AQ k w C V
 refine dit (λB=>?_) λB=>?_
 .refine⟨_,l.bV.dx 2,λv=>?_,λv=>?_⟩
  .refine(TG l D E r.JQ (oh r.aR) (oh r.cw)).aP ?_
   rintro _ j i
   have q:eI ((k:Int)+1)=((k+1:Nat):Int):=nt (n:=h) V V
   rw[q]
   refine⟨⟨k+1,O,V,by rw[xR];exact i.from t1⟩,?_⟩
   grind
  .simp at v
   have q:bA a h s=bA a k s:=by
    have I:h=k+(h -k):=V;have H:∀(i j:Nat)(s:St),bA a (i+j) s=bA a j (bA a i s):=by
     intro i;induction i with
     |zero=>intro j s;simp[bA]
     |succ i F=>intro j s;rw[Nat.succ_add];simp only[bA];exact F j _
    grind [pV]
   rw[q]
   exact⟨⟨_,O⟩,A,z,x,u,l,t1⟩
 .have:k=h:=V
  subst this
  exact⟨⟨_,O⟩,A,z,x,u,l,t1⟩
end
def JB{m:bh}{t C:E}(J:gY m t C a)(x:iB a)(dL:Int):
 bK dO 56 [.agg #[E.v t,E.v C],vi dL] m λS c=>∃cw i u,S=.agg #[vi 3,vi 0,vi 0,vi dL,E.v cw,E.v i,E.v u]/\D m c/\∃b1 b2 b3 b4 k,cw.cap=0/\cw.len=0/\i.cap=0/\i.len=0/\u=.mk b4 0 1 1/\
  tv m c b1 b2 b3 k (cz a 0 0 []).aU (cz a 0 0 []).bI (cz a 0 0 []).cC/\(b4≠b1/\b4≠b2/\b4≠b3/\m.size<=b4/\b4<c.size)/\dF c b4 iu [.i 0,.i 0,.i 0,.s (.mk b1 0 k k),.s (.mk b2 0 k k),.s (.mk b3 0 k k)]:=by
 apply Dw
 simp -zeta only[kJ]
 intro n z A o p d
 have v:D m d:=((((((D.cT m).bZ _).bZ _).bZ _).bZ _).bZ _).bZ _
 have L:=pz n
 have M:z.size=m.size+2:=by simp[z,L]
 have P:A.size=m.size+3:=by simp[A,M]
 have Q:o.size=m.size+4:=by simp[o,P]
 have R:p.size=m.size+5:=by simp[p,Q]
 have Y:d.size=m.size+6:=by simp[d,R]
 have T:=x.mT.aT
 let⟨q,j⟩:=dU a.di 0
 have W:=(x.eR q (aZ j)).aU
 have l:dG a 0=q:=by simp[dG,j]
 have B:∀b,be d (.mk b 0 0 0) []:=λb=>⟨O,bO,bO,bO⟩
 refine(Cw (J.ext v) (dT 0) j V 0 (B o.size) (B p.size) eX O).aP ?_
 rintro _ r ⟨b1,b2,b3,rfl,N⟩
 have h:=N.ext
 have U:=N.lo
 refine⟨h.eW eX,_,_,_,_,_,_,O,?_⟩
 intro e s
 obtain⟨w,Z⟩:=pu e
 have s9:s.size=e.size:=bD _ _ _ _
 have X:=h.aQ
 have K:dF e r.size iu [.i 0,.i 0,.i 0,.s (.mk b1 0 q.aU.toNat q.aU.toNat),.s (.mk b2 0 q.aU.toNat q.aU.toNat),.s (.mk b3 0 q.aU.toNat q.aU.toNat)]:=dF.push r _ _
 have g:=N.LO w
 have y:D m s:=(v.J (h.J w)).aV (show m.size<=n.size by omega) _ _
 have f:∀b,b≠n.size->s[b]? =e[b]? :=λb I=>cq _ _ _ _ I
 have H:(cz a 0 0 []).aU=[]++eP (q.aU.toNat -([]:ab).length):=by simp[cz,l]
 have G:(cz a 0 0 []).bI=[]++eP (q.aU.toNat -([]:ab).length):=by simp[cz,l,fI]
 have F:(cz a 0 0 []).cC=eP q.aU.toNat:=by simp[cz,l]
 refine⟨_,_,_,O,y,b1,b2,b3,r.size,q.aU.toNat,O,O,O,O,O,?_,V,K.congr (f _ V)⟩
 rw[H,G,F]
 exact⟨y,V,g.kr.congr (f _ V),g.ko.congr (f _ V),g.kh.congr (f _ V),N.aT⟩
def Z8{m j g:bh}{u:Nat}{Q9:ae}{cw i l:E}{dL:Int}{b1 b2 b3 b4 k e:Nat}(c:cw.cap=0/\cw.len=0/\i.cap=0/\i.len=0/\l=.mk b4 0 1 1)
 (N:tv m j b1 b2 b3 k (cz a 0 0 []).aU (cz a 0 0 []).bI (cz a 0 0 []).cC)(C:b4≠b1/\b4≠b2/\b4≠b3/\m.size<=b4/\b4<j.size)(B:dF j b4 iu [.i 0,.i 0,.i 0,.s (.mk b1 0 k k),.s (.mk b2 0 k k),.s (.mk b3 0 k k)])
 (d:D j g)(G:j.size<=e)(kb:dF g e u (Q9++[.i 3,.i 0,.i 0,.i dL,.s cw,.s i,.s l])):
 wR m (oG (oG (qx (λ_=>0) b1 b2 b3 0) b4 4) e 1) g e u (Q9++[.i 3,.i 0,.i 0,.i dL,.s cw,.s i,.s l]) cw i l [] [] [cz a 0 0 []]:=by
 have F:=N.lo
 have A:D m g:=N.ext.J d
 have H:=kb.lt
 have t:∀b,b≠e->b≠b4->(oG (oG (qx (λ_=>0) b1 b2 b3 0) b4 4) e 1) b=qx (λ_=>0) b1 b2 b3 0 b:=λb p q=>by rw[fK p,fK q]
 let⟨y,a2,a3⟩:=(N.LO d).qB (q:=λ_=>0) (v:=0)
 have conv:∀{v:Nat}{s:E}{w:ae},iE (qx (λ_=>0) b1 b2 b3 0) g bB 1 v s w->s.bu≠e->s.bu≠b4->iE (oG (oG (qx (λ_=>0) b1 b2 b3 0) b4 4) e 1) g bB 1 v s w:=λx p q=>x.fQ (λ_=>O) (λ_=>t _ p q)
 refine⟨A,λb z=>?_,λb z=>?_,kb,gU,⟨by simp[c.2.1],by rw[c.1,c.2.1];exact bY,bC c.1⟩,⟨[],⟨by simp[c.2.2.2.1],by rw[c.2.2.1,c.2.2.2.1];exact bY,bC c.2.2.1⟩,iy.gN _ _,Sep.gN⟩,?_⟩
 .rw[t b V V];unfold qx;rw[fK V,fK V,fK V]
 .rw[t b (oh d.aQ) (oh d.aQ)];unfold qx;rw[fK (oh d.aQ),fK (oh d.aQ),fK (oh d.aQ)]
 .refine rK.qe (a:=[]) (f:=cz a 0 0 []) (r:=.mk b1 0 k k) (e:=.mk b2 0 k k) (h:=.mk b3 0 k k) (j:=[]) ⟨?_,O,bO,bO,conv y (by simp only[E.lT];omega) (by simp only[E.lT];omega),conv a2 (by simp only[E.lT];omega) (by simp only[E.lT];omega),conv a3 (by simp only[E.lT];omega) (by simp only[E.lT];omega)⟩
  rw[c.2.2.2.2]
  refine⟨O,bY,bR ⟨b4,1,[],O,?_,?_,O⟩⟩
  .grind [fK,gU]
  .rw[fO];exact B.ext d
end
section
variable{a:da}{b:bh}{d p:E}
def XO(a:da)(dL:Int):∃s,s=bA a 100000 (jC a dL):=⟨_,O⟩
noncomputable def pF (a:da) (dL:Int):St:=Classical.choose (XO a dL)
theorem Gj(a:da)(dL:Int):pF a dL=bA a 100000 (jC a dL):=jD (XO a dL)
theorem O2{dL:Int}(h:iB a)(c:0<=dL/\dL<=40):dZ a (pF a dL)/\Sm 100000 (pF a dL)/\(pF a dL).eC≠3:=by
 have b:=AO h c;rw[Gj];refine⟨xQ _ b,?_,QW _ b (oh (WU h c))⟩;have:=AQ 100000 b (AP a dL) V;grind
def Om(w:gY b d p a)(n:iB a){dL:Int}(x:0<=dL/\dL<=40):
 bK dO 31 [.agg #[E.v d,E.v p],vi dL] b λX A=>∃cw o i,X=.agg #[vi (pF a dL).eC,vi (pF a dL).iQ,vi (pF a dL).dg,vi (pF a dL).dL,E.v cw,E.v o,E.v i]/\be A cw (pF a dL).cw/\D b A:=by
 apply Jh
 simp -zeta only[kJ]
 intro g e
 have q:D b e:=((D.cT b).bZ _).bZ _
 have U:=pz g
 have s2:e.size=b.size+2:=by simp[e,U]
 have z:dF e b.size uS [.s d,.s p]:=(dF.push b _ _).ext (D.push g _)
 have l:∀f∈[g.size,b.size],f<e.size:=eX
 refine(JB (w.ext q) n dL).aP ?_
 rintro _ B ⟨cw,o,i,rfl,j,b1,b2,b3,b4,Z,M,P,Q,R,S,N,T,K⟩
 refine⟨j.eW l,_,_,_,_,_,_,_,O,j.cZ (z.dx 0),j.cZ (z.dx 1),?_⟩
 intro r
 have H:=px r
 have kb:dF r B.size dC ([.s d,.s p]++[.i 3,.i 0,.i 0,.i dL,.s cw,.s o,.s i]):=dF.push B _ _
 have h:=Z8 (m:=e) ⟨M,P,Q,R,S⟩ N T K H bY kb
 have I:AW _ r [g.size,b.size]:=λf v=>⟨h.cV.lt (l f v),h.mq f (l f v)⟩
 refine(Vf (s:=jC a dL) h (w.ext q) (AO n x) (AP a dL) 100000 bY V).aP ?_
 rintro _ m5 ⟨⟨L,rfl⟩,aa,t,y,u,c,W⟩
 rw[<-Gj]at c
 have Y:=(O2 n x).2.1.cw
 refine⟨W.fS I,L,O,_,c.bV.dx 2,_,c.bV.dx 3,_,c.bV.dx 4,_,c.bV.dx 5,t,c.bV.dx 6,y,c.bV.dx 7,u,c.bV.dx 8,?_⟩
 intro m6
 refine⟨t,y,u,O,km (c.cw.oL V) λJ=>cq _ _ _ _ λC=>?_,(q.J c.cV).aV V _ _⟩
 have k:t.cap≠0:=λk=>by have:=(c.cw.zS k).1;simp at this;exact J this
 have F:=(c.cw.bu k).2
 have G:=c.mq g.size V
 rw[C,G]at F
 omega
structure Exe where
 eC:Int
 iQ:Int
 dg:Int
 cw:ab
 ok:Bool
open Classical in
noncomputable def qH (a:da) (dL:Int):Exe:=
 if iB a/\0<=dL/\dL<=40 then⟨(pF a dL).eC,(pF a dL).iQ,(pF a dL).dg,(pF a dL).cw,true⟩else⟨0,0,0,[],false⟩
def aat(b a:bh)(x:Exe)(v:Value):Prop:=∃cw,v=.tuple #[.agg #[vi x.eC,vi x.iQ,vi x.dg,cw.v],vb x.ok]/\jw b a bB 1 cw (x.cw.map Ce.i)/\D b a
def Lf{c d f e:Int}{cw k j:E}{l:ab}(r:be b cw l)(p:l.length<=1000000000):
 bK dO 30 [.agg #[vi c,vi d,vi f,vi e,cw.v,k.v,j.v]] b λv n=>∃q,v=.agg #[vi c,vi d,vi f,q.v]/\jw b n bB 1 q (l.map Ce.i)/\D b n:=by
 apply Fp
 simp -zeta only[dR]
 intro o h
 have m:D b h:=((D.cT b).bZ _).bZ _
 have u:=pz o
 have w:h.size=b.size+2:=cB
 have g:dF h b.size mg [.i c,.i d,.i f,.i e,.s cw,.s k,.s j]:=(dF.push b _ _).ext (D.push o _)
 refine(oQ (r.ext m) p).aP ?_
 rintro _ s ⟨q,rfl,i,a⟩
 refine⟨a.eW cB,q,O,a.cZ (g.dx 2),a.cZ (g.dx 1),a.cZ (g.dx 0),?_⟩
 intro t
 refine⟨q,O,?_,(m.J a).aV V _ _⟩
 rcases i.bu with e|e
 .subst e;exact⟨i.aT,bC O⟩
 .exact(i.congr (cq _ _ _ _ V)).cV V
def Of(x:gY b d p a)(dL:Int):bK dO 9 [.agg #[d.v,p.v],vi dL] b λG C=>aat b C (qH a dL) G:=by
 apply IZ;simp -zeta only[dR];intro j k;have i:D b k:=((D.cT b).bZ _).bZ _;have Q:=pz j;have R:k.size=b.size+2:=cB;have h:∀c∈[j.size,b.size],c<k.size:=cB;have y:∀{r:bh},D k r->¬(iB a/\0<=dL/\dL<=40)->aat b (aV r j.size 0 [.i (0:Int),.i (0:Int),.i (0:Int),.s E.nil]) (qH a dL) (.tuple #[.agg #[vi (0:Int),vi (0:Int),vi (0:Int),E.v E.nil],vb false]):=λg z=>by
  rw[qH,aW z];exact⟨.nil,O,jw.gN _ _ _ _,(i.J g).aV V _ _⟩
 refine(JE (x.ext i)).bL cY h λc r e g _=>⟨c,O,λm=>y g (λl=>nb e m l.1),λm=>?_⟩;have q:=yb e m;refine(dj).bL g h λb2 L w I f=>⟨b2,O,λn=>y f (λl=>nb w n l.2),λn=>?_⟩;have o:=yb w n;refine(Om (x.ext (i.J f)) q o).aP ?_;rintro _ M ⟨cw,J,H,rfl,B,u⟩;have l:=f.J u;have K:=(O2 q o).2.1.cw;refine⟨u.eW (λc e=>f.lt (h c e)),_,_,_,_,_,_,_,O,(Lf B V).aP ?_⟩;rintro _ N ⟨F,rfl,s,v⟩;refine⟨v.eW (λc e=>l.lt (h c e)),_,_,_,_,O,?_⟩;intro P;rw[qH,bn ⟨q,o⟩];have A:b.size<=j.size:=V;generalize pF a dL=st at*;refine⟨F,O,?_,(i.J (l.J v)).aV A _ _⟩;have:=l.aQ;rcases s.bu with t|t
 .subst t;exact⟨s.aT,bC O⟩
 .exact(s.congr (cq _ _ _ _ V)).cV V
end
section
variable{m:bh}{s:E}{l:ab}{h:ah}{w:Int}{a:Nat}
def gT(c:be m s l)(n:l.length<=1000000000):sC 62 [s.v] m l:=by
 apply xF;have b:=c.aT;refine⟨λh=>?_,λh=>?_⟩
 .cases s with
  |nil=>simp at b;have:l=[]:=cp.1 b.symm;subst this;exact⟨.nil,O,jw.gN _ _ _ _,cY⟩
  |mk a o e d=>simp at h
  |DG a o sp=>simp at h
 .intro d;have a:=px d;have f:jw m d bB 1 (.mk m.size 0 0 0) []:=jw.bF (D.cT m) bB 1 [] 0 bO;refine jw.fw (c:=[.i 0]) (i:=l.map Ce.i) f a (by simp[b]) (c.ext a).Mr eX λr o a e g i j k=>⟨r,O,sp a,e⟩
def VX{a:List ae}{n e f:Nat}{b:ae}(d:s.len=n)(i:a.length=n)(o:∀c∈a,c.length=b.length)(k:jF m s.bu s.off a.flatten)(l:n*f<=140737488355328):
 (s.Er=true->∃r,E.v .nil=r.v/\jw m m e b.length r a.flatten/\D m m)/\(s.Er=false->let g:bh:=m.push (.cells (db []) e);mj g e b f (.mk m.size 0 0 0) s λq c=>∃r,q.v=r.v/\jw m c e b.length r a.flatten/\D m c):=by
 refine⟨λh=>?_,λh=>?_⟩
 .cases s with
  |nil=>simp at d;have:a=[]:=cp.1 V;subst this;exact⟨.nil,O,jw.gN _ _ _ _,cY⟩
  |mk c g p j=>simp at h
  |DG c g sp=>simp at h
 .have c:D m (m.push (.cells (db []) e)):=(D.cT m).bZ _
  have j:jw m (m.push (.cells (db []) e)) e b.length (.mk m.size 0 0 0) []:=jw.bF (D.cT m) e _ [] 0 bO
  refine jw.fw (c:=b) (i:=a.flatten) j c (by rw[dS o,i,d]) (c.kY k) (by simp only[E.ku];rw[d,eV];exact l) λr v c g p q t u=>⟨r,O,sp c,g⟩
def wg(g:be m s l)(b:Int):bK dO 99 [s.v,vi b] m λv i=>∃r:Int,v=vi r/\D m i/\((r= -1/\b∉l)\/(b∈l/\r=tG l b)):=by
 apply xH;have j:=g.aT;refine gP (n:=l.length) (j▸g.kM) (λk i=>D m i/\b∉l.take k) ⟨cY,bO⟩ ?_;rintro k u I μ t ⟨f,e⟩ p
 refine dit (λh=>?_) λh=>?_
 .let⟨x,d⟩:=dU l k;refine⟨V,V,x,by simpa using f.aS (g.bt d),λc=>?_,λc=>p V _ ⟨f,?_⟩⟩
  .simp at c;subst c;refine⟨_,O,f,bR ⟨aZ d,?_⟩⟩;have:tG l b=k:=by
    unfold tG;rw[List.findIdx_eq (br d)];refine⟨by have:=(mP.1 d).2;simp[this],λo q=>?_⟩;simp;intro a;apply e;rw[<-a];exact HH.2 ⟨o,V,O⟩
   rw[this]
  .rw[bX d];simp at c;intro a;rcases bU.1 a with a|a
   .exact e a
   .simp at a;exact c a
 .rw[eQ V]at e;exact⟨_,O,f,bC ⟨O,e⟩⟩
def lE(c:be m s l)(n:Int):fX dO 59 [s.v,vi n] m (n∈l):=by
 apply vh;refine(wg c n).aP ?_;rintro _ f ⟨r,rfl,d,h⟩;refine⟨_,O,kX ?_ d⟩;simp only[bg];rcases h with⟨rfl,h⟩|⟨b,e⟩
 .exact⟨λa=>V,λa=>absurd a h⟩
 .exact⟨λ_=>b,λ_=>V⟩
def kA{t:E}{r:ab}(d:be m s l)(i:be m t r):fX dO 141 [s.v,t.v] m (l=r):=by
 apply xG;have j:=d.aT;have q:=i.aT;refine⟨λh=>fy (λe=>by subst e;simp at h;omega) cY,λh=>?_⟩;simp at h;refine gP (n:=l.length) (j▸d.kM) (λk a=>D m a/\l.take k=r.take k) ⟨cY,bO⟩ ?_;rintro k u I μ p ⟨b,g⟩ o
 refine⟨λh=>?_,λh=>oO (by simp at h;rwa[eQ V,eQ V]at g) b⟩;simp only[bg]at h;let⟨x,f⟩:=dU l k;let⟨y,c⟩:=dU r k;refine⟨V,V,x,by simpa using b.aS (d.bt f),V,V,y,by simpa using b.aS (i.bt c),λa=>fy (λe=>?_) b,λa=>o V _ ⟨b,?_⟩⟩
 .subst e;rw[f]at c;simp at c;simp at a;exact a c
 .rw[bX f,bX c,g];simp at a;rw[a]
def kL{a:E}(j:gC m a h)(t:w<=9223372036854775807):
 bK dO 138 [a.v,vi w] m λv p=>∃(i:Int)(e:Bool),v=.tuple #[vi i,vb e]/\(e=true<->iI h w)/\(e=true->i=ix w)/\D m p:=by
 apply Kp
 have k:=j.aT
 refine⟨λc=>?_,λc=>?_⟩
 .simp at c
  have l:eI (w -1000)=w -1000:=iz
  have o:(ix w:Int)=w -1000:=by unfold ix;omega
  rw[l]
  refine⟨λg=>?_,λg=>?_⟩
  .simp at g
   let⟨f,b⟩:=dU h ((w -1000).toNat)
   obtain⟨r,s,n,_⟩:=j.bt b
   refine⟨V,V,f.bS,n,_,_,O,?_,λ_=>o.symm,cY⟩
   simp only[bg]
   refine⟨λa=>⟨c,f,b,a⟩,λ⟨_,q,d,a⟩=>?_⟩
   unfold ix at d
   rw[b]at d;simp at d;subst d;exact a
  .simp at g
   refine⟨_,_,O,⟨sx,λ⟨_,f,b,_⟩=>?_⟩,sx,cY⟩
   have:=br b
   omega
 .simp at c
  exact⟨_,_,O,⟨sx,λk=>oh k.1⟩,sx,cY⟩
def PX{b:E}(f:aS m a 8=some b.v)(g:gC m b h)(i:w<=9223372036854775807):fX dO 86 [vp a 0,vi w] m (iI h w):=by
 apply yo (a,0);refine⟨b,f,(kL g i).aP ?_⟩;rintro _ k ⟨c,d,rfl,e,_,j⟩;exact⟨c,d,O,kX e j⟩
def IK(e:be m s l)(q:l.length<=100000000):sC 142 [s.v] m (oC l):=by
 apply CW;have p:=e.aT;refine gL (n:=l.length) V (λk s a=>D m a/\jw m a bB 1 s ((oC (l.take k)).map Ce.i)) ⟨cY,by simpa[oC]using jw.gN m m bB 1⟩ ?_;rintro k s r I μ o ⟨b,a⟩ f
 refine dit (λh=>?_) λh=>?_
 .let⟨x,c⟩:=dU l k;refine⟨V,V,x,by simpa using b.aS (e.bt c),λd=>?_,λg=>?_⟩
  .intro t;refine rY a b (by have:=rZ (l.take k);simp at this;omega) λv u i j=>f V _ _ ⟨j,?_⟩
   rw[bX c,sY];have:oC [x]=[x]:=by simp at d;simp[oC,d]
   rw[this];exact i
  .refine f V _ _ ⟨b,?_⟩
   rw[bX c,sY];have:oC [x]=[]:=by simp at g;simp[oC];omega
   rw[this,fO];exact a
 .rw[eQ V]at a;exact⟨s,O,a,b⟩
def Cl(g:be m s l):fX dO 88 [s.v] m (Yd l):=by
 apply Iz;refine(jU g 139 #[] #[] cD (λx=>x≠0) (λx _ i d=>?_)).cg λb j f d=>⟨b,O,kX ?_ d⟩
 .simp only[iA,fO];apply Ef;exact kX bO cY
 .have e:(!b)=true<->¬(b=true):=bO;rw[e,f];unfold Yd;constructor
  .intro h n c;exact iC λa=>h ⟨n,c,a⟩
  .rintro h ⟨n,c,a⟩;exact a (h n c)
def zX{ah T:E}{b:da}(ac:gY m ah T b)(g1:aS m a 1=some T.v){x:Instr}(hc:DH b x){g j:E}(w:be m g x.aO)(aB:x.aO.length<=1000000)(ai:(x.op=16\/x.op=17)->1<=x.aO.length):
 bK dO 85 [vp a 0,xv x g j] m λaq S=>∃s l,aq=.tuple #[s.v,l.v]/\be S s (cO b x)/\be S l (if x.op=9\/x.op=24 then fJ b x 0 x.aO else[])/\D m S/\(s=.nil\/s.bu=g.bu\/m.size<=s.bu)/\(l=.nil\/m.size<=l.bu):=by
 apply wB (a,0)
 simp -zeta only[dR]
 intro c
 obtain⟨u,s1⟩:=pu c
 have P:∀o∈[m.size],o<c.size:=by simp[c]
 have aa:=w.aT
 have av:=w.ms
 have M:be c .nil []:=⟨O,bO,bO,bO⟩
 refine⟨λe=>?_,λp=>⟨λe=>?_,λt=>⟨λe=>?_,λq=>?_⟩⟩⟩
 .simp only[eG,bP]at e
  refine⟨g,.nil,O,?_,by rw[aW V];exact M,u,bR (bC O),bC O⟩
  unfold cO;rw[bn V];exact w.ext u
 .simp only[eG,bP]at e
  simp only[cU,ba]at p
  refine⟨V,V,V,_,.nil,O,?_,by rw[aW V];exact M,u,bR (bC ?_),bC O⟩
  .unfold cO;rw[aW V,bn e]
   exact fW.SW (w.ext u) (ai e)
  .cases g with
   |nil=>simp at aa;omega
   |DG o d sp=>simp at aa;omega
   |mk o d l f=>rfl
 .simp only[eG,bP]at e
  simp only[cU,ba]at p t
  let⟨h0,aC,K⟩:=hc e
  have aA:=ac.di.aT
  have az:=br K
  have ap:∃(v:E->E->Int->bh->Prop)(μ0:E->E->Int->bh->Nat),v E.nil E.nil (0:Int) c/\(∀(aU:E)(df:E)(i:Int)(d:bh),v aU df i d->∃k:Nat,i=k/\k<=x.aO.length/\D c d/\jw c d bB 1 aU ((lR b x k).map Ce.i)/\jw c d bB 1 df ((fJ b x 0 (x.aO.take k)).map Ce.i)/\(aU≠.nil->df≠.nil->aU.bu≠df.bu))/\
   (∀(aU df:E)(k:Nat)(d:bh),k<=x.aO.length->D c d->jw c d bB 1 aU ((lR b x k).map Ce.i)->jw c d bB 1 df ((fJ b x 0 (x.aO.take k)).map Ce.i)->(aU≠.nil->df≠.nil->aU.bu≠df.bu)->v aU df k d)/\(∀g o i m,μ0 g o i m=((x.aO.length:Int) -i).toNat):=
   ⟨λaU df i d=>∃k:Nat,i=k/\k<=x.aO.length/\D c d/\jw c d bB 1 aU ((lR b x k).map Ce.i)/\jw c d bB 1 df ((fJ b x 0 (x.aO.take k)).map Ce.i)/\(aU≠.nil->df≠.nil->aU.bu≠df.bu),λ_ _ i _=>((x.aO.length:Int) -i).toNat,
    ⟨0,O,iD _,cY,by simpa[lR,jV]using jw.gN c c bB 1,by simpa[fJ]using jw.gN c c bB 1,λh=>absurd O h⟩,λ_ _ _ _ h=>h,λaU df k d f r y z A=>⟨k,O,f,r,y,z,A⟩,λ_ _ _ _=>O⟩
  let⟨v,μ0,aj,ao,ad,hμ⟩:=ap
  refine⟨v,μ0,aj,?_⟩
  intro aU df i d hI
  obtain⟨k,rfl,hk,Z,o1,o2,J⟩:=ao aU df i d hI
  have L:=u.J Z
  refine dit (λh=>?_) λh=>?_
  .let⟨y,Q⟩:=dU x.aO k
   obtain⟨a',l',c',au,am,aw,k0,k1,_⟩:=(ac.ext L).di.bt K
   have af:(x.aO.take k).length=k:=eX
   have ag:lR b x (k+1)=lR b x k++jV b x k [y]:=by
    unfold lR;rw[bX Q,sg,af,eV]
   have ae:fJ b x 0 (x.aO.take (k+1))=fJ b x 0 (x.aO.take k)++fJ b x k [y]:=by
    rw[bX Q,ln,af,eV]
   have ax:(lR b x k).length<=k:=fC (xX _ _ _ _) eX
   have ay:(fJ b x 0 (x.aO.take k)).length<=k:=by
    have:∀(l:ab)(j:Nat),(fJ b x j l).length<=l.length:=by
     intro l;induction l with
     |nil=>intro j;exact bY
     |cons ar l R=>intro j;have:=R (j+1);simp only[fJ];split<;>simp<;>omega
    have:=this (x.aO.take k) 0;omega
   have Y:eI ((k:Int)+1)=((k+1:Nat):Int):=nt (n:=x.aO.length) V V
   refine⟨V,V,y,by simpa using L.aS (w.bt Q),T,L.aS g1,h0,V,l',k1,(lE am _).bL Z P λo m3 hb G F=>⟨o,O,λal=>?_,λak=>?_⟩⟩
   .have z:=(P5 K k).2 (hb.1 al)
    intro r
    have s4:=pz r
    have N:=o1.ext G
    have an:df.len=(fJ b x 0 (x.aO.take k)).length:=by have:=o2.aT;simp at this;omega
    refine jw.fw (c:=[.i 0]) (i:=[.i y]) ((o2.ext G).ext (D.push _ _)) (F.bZ _) O (dF.push m3 _ _).kY eX λs m5 U C q3 q4 W X=>⟨D.wH (F.bZ _) C P,?_⟩
    rw[Y]
    refine⟨ad _ _ _ _ V C ?_ ?_ ?_,by rw[hμ,hμ];omega⟩
    .rw[ag]
     have:jV b x k [y]=[]:=by simp only[jV];rw[bn z]
     rw[this,fO]
     rcases N.lt with e|e
     .subst e;exact⟨N.aT,bC O⟩
     .refine N.congr ?_
      rw[W _ (show _<r.size by omega) (λB=>?_),uG,aW V]
      by_cases A:aU=.nil
      .subst A
       rcases o2.bu with q|q
       .exact absurd q B
       .simp;omega
      .exact J A B
    .rw[ae]
     have:fJ b x k [y]=[y]:=by simp only[fJ];rw[bn z]
     rw[this];simpa using U
    .intro H I
     rcases X with⟨_,e⟩|⟨p,t,_⟩|e
     .exact absurd e I
     .rw[t];exact J H p
     .rw[e]
      rcases N.lt with f|f
      .exact absurd f H
      .show aU.bu≠r.size;omega
   .have z:¬lA b x k=true:=λhh=>fb hb ak ((P5 K k).1 hh)
    intro r
    have s4:=pz r
    have N:=o2.ext G
    have an:aU.len=(lR b x k).length:=by have:=o1.aT;simp at this;omega
    refine jw.fw (c:=[.i 0]) (i:=[.i y]) ((o1.ext G).ext (D.push _ _)) (F.bZ _) O (dF.push m3 _ _).kY eX λs m5 U C q3 q4 W X=>⟨D.wH (F.bZ _) C P,?_⟩
    rw[Y]
    refine⟨ad _ _ _ _ V C ?_ ?_ ?_,by rw[hμ,hμ];omega⟩
    .rw[ag]
     have:jV b x k [y]=[y]:=by simp only[jV];rw[aW z]
     rw[this];simpa using U
    .rw[ae]
     have:fJ b x k [y]=[]:=by simp only[fJ];rw[aW z]
     rw[this,fO]
     rcases N.lt with e|e
     .subst e;exact⟨N.aT,bC O⟩
     .refine N.congr ?_
      rw[W _ (show _<r.size by omega) (λB=>?_),uG,aW V]
      by_cases A:df=.nil
      .subst A
       rcases o1.bu with q|q
       .exact absurd q B
       .simp;omega
      .exactλe5=>J B A e5.symm
    .intro H I
     rcases X with⟨_,e⟩|⟨p,t,_⟩|e
     .exact absurd e H
     .rw[t];exact J p I
     .rw[e]
      rcases N.lt with f|f
      .exact absurd f I
      .show r.size≠df.bu;omega
  .have r:x.aO.take k=x.aO:=eQ V
   rw[r]at o2
   unfold lR at o1
   rw[r]at o1
   have A:=xX b x x.aO 0
   have y:∀(l:ab)(j:Nat),(fJ b x j l).length<=l.length:=by
    intro l;induction l with
    |nil=>intro j;exact bY
    |cons ar l R=>intro j;have:=R (j+1);simp only[fJ];split<;>simp<;>omega
   have z:=y x.aO 0
   refine⟨aU,df,O,?_,?_,L,?_,?_⟩
   .unfold cO;rw[aW V,aW V,bn e];exact be.jA o1 V
   .rw[bn e];exact be.jA o2 V
   .rcases o1.bu with f|f
    .exact bC f
    .exact bR (bR V)
   .rcases o2.bu with f|f
    .exact bC f
    .exact bR V
 .simp only[cU,ba]at p t q
  refine⟨.nil,.nil,O,?_,by rw[aW V];exact M,u,bC O,bC O⟩
  unfold cO;rw[aW V,aW V,aW V];exact M
end
section
variable{b:bh}{i e:Nat}{d p g k h a j:E}{c:da}{s:St}{l:an}{f:bW}{x:Instr}
theorem Mf:∀(l:aC)(k v j:Int),zr (Oe l k v) j=if j=k then v else zr l j
 |[],k,v,j=>by simp[Oe,zr]
 |(a,b)::g,k,v,j=>by
  simp only[Oe];split
  .grind [zr]
  .rename_i h;simp only[zr];split
   .grind
   .exact Mf g k v j
def UR(l:ab)(k:Nat)(a:Nat):iW (l.take k) a<=iW l a:=by
 have:iW l a=iW (l.take k) a+iW (l.drop k) a:=by rw[<-pB,j8]
 have:=lC (l.drop k) a;omega
def Ac{r:E}{h:ah}(T:aS b i 8=some r.v)(C:gC b r h){o:Nat->Int}(P:jd h o){c:dt}(hc:c∈h){f:E}(R:be b f c.bJ)(av:h.length<=2000000000):
 fX dO 140 [vp i 0,.agg #[vi c.bS,vi c.jx,f.v]] b (c.bS=1\/oH h c.bJ):=by
 apply wE (i,0)
 unfold rU
 simp -zeta only[dR]
 intro d
 obtain⟨I,s1⟩:=pu d
 have U:∀e∈[b.size],e<d.size:=by simp[s1]
 have ar:=(P.gZ c hc).fl
 have au:=R.aT
 have aw:=C.aT
 refine⟨λt=>oO (bC cB) I,λt=>?_⟩
 simp only[ba]at t
 intro K
 have ac:=px K
 have ai:HY K d.size []:=⟨#[],0,by simp[K],O⟩
 refine gP (n:=c.bJ.length) V (λk g=>D d g/\∃l,HY g d.size l/\(∀a:Nat,zr l a=iW (c.bJ.take k) a)/\∀w∈c.bJ.take k,1000<=w->(bz h w).bS+iW (c.bJ.take k) (ix w)<=999999) ⟨ac,[],ai,λa=>by simp[zr,iW],bO⟩ ?_
 rintro k m3 ap μ hk ⟨u,l,Y,X,S⟩ aa
 have s:=I.J u
 refine dit (λh2=>?_) λh2=>?_
 .let⟨w,m⟩:=dU c.bJ k
  have an:1000<=w->iI h w:=by grind [jd.qd,aZ]
  have am:w<=9223372036854775807:=by
   rcases gJ (1000<=w)with N|N
   .have:=br (dz (an N)).1;unfold ix at this;omega
   .omega
  refine⟨V,V,w,by simpa using s.aS (R.bt m),r,s.aS T,(kL (gC.ext s C) am).bL u U ?_⟩
  rintro _ m4 ⟨a,e,rfl,A,ad,x⟩
  have p:=u.J x
  have ag:d.size<m3.size:=by obtain⟨M,L,y,_⟩:=Y;exact(gV.1 y).1
  have G:HY m4 d.size l:=by obtain⟨M,L,y,q⟩:=Y;exact⟨M,L,by rw[x.bG _ ag];exact y,q⟩
  have j:∀a:Nat,iW (c.bJ.take (k+1)) a=iW (c.bJ.take k) a+(if w=1000+(a:Int)then 1 else 0):=λa=>by
   rw[bX m,pB];simp[iW]
  refine⟨x,a,e,O,λQ=>?_,λaq=>?_⟩
  .have F:=A.1 Q
   have z:=ad Q
   subst z
   have ao:=lD F.1
   have aB:=lC (c.bJ.take k) (ix w)
   have aA:=pC (c.bJ.take k) (ix w)
   have ax:(c.bJ.take k).length<=3:=cB
   have e1:eI (zr l (ix w)+1)=iW (c.bJ.take (k+1)) (ix w):=by
    grind [de]
   refine⟨l,G,l,G,?_⟩
   rw[e1]
   intro m5 W ak af
   have v:D d m5:=⟨by rw[ak];exact p.aQ,λe A=>by rw[af e V,p.bG e A]⟩
   have J:=I.J v
   let⟨B,aC⟩:=dz F
   obtain⟨f5,_,k0,_⟩:=(gC.ext J C).bt B
   have ay:=br B
   have az:=(P.gZ _ (aZ B)).hi
   have ae:zr (Oe l (ix w) (iW (c.bJ.take (k+1)) (ix w))) (ix w)=iW (c.bJ.take (k+1)) (ix w):=by grind [Mf]
   have aj:=j (ix w)
   rw[bn ao.symm]at aj
   have e2:eI ((bz h w).bS+iW (c.bJ.take (k+1)) (ix w))=(bz h w).bS+iW (c.bJ.take (k+1)) (ix w):=iz
   refine⟨D.wH p v U,r,J.aS T,V,V,_,sp k0,_,W,trivial,trivial,?_⟩
   rw[ae,e2]
   refine⟨λq=>fy (λg=>?_) J,λq=>aa V _ ⟨v,_,W,λa=>?_,λab H Z=>?_⟩⟩
   .rcases g with g|g
    .exact t g
    .have:=g w (aZ m) F.1
     have:=UR c.bJ (k+1) (ix w)
     simp at q;omega
   .rw[Mf]
    by_cases z:(a:Int)=ix w
    .grind [ix]
    .rw[aW z,X,j,aW V];omega
   .by_cases al:ab=w
    .grind
    .rw[j,aW (λo=>al (by rw[lD Z]at o;exact o.symm))]
     rw[bX m]at H
     grind
  .have g:w<1000:=by
    grind
   refine aa V _ ⟨p,l,G,λa=>by rw[X,j,aW V];omega,λab H Z=>?_⟩
   rw[j,aW V]
   rw[bX m]at H
   grind
 .rw[eQ V]at S
  exact oO (bR S) s
@[grind cases] structure FP (m:bh) (fb fo:Nat) (f:bW) (r o h:E):Prop where
 g3:aS m fb (fo+3)=some r.v
 g4:aS m fb (fo+4)=some o.v
 g5:aS m fb (fo+5)=some h.v
 aU:be m r f.aU
 bI:be m o f.bI
 cC:be m h f.cC
def FP.ext{b c:bh}{fb e:Nat}{f:bW}{g k h:E}(F:FP b fb e f g k h)(a:D b c):FP c fb e f g k h:=⟨a.aS F.g3,a.aS F.g4,a.aS F.g5,F.aU.ext a,F.bI.ext a,F.cC.ext a⟩
def LY{fb:Nat}{cw K fr:E}(m:RV b i 3 d p cw K fr c s)(ag:aS b i 2=some (vi (cF c)))(C:vW c s l f x)(L:FP b fb e f g k h)(u:be b a x.aO)(aA:x.op=11)(ah:s.aR.length<=2000000000):
 fX dO 89 [vp i 0,vp fb e,xv x a j] b (zO c s.aR (bt f.aU (bt x.aO 0))):=by
 apply wD (i,0) (fb,e)
 simp -zeta only[dR]
 intro W
 obtain⟨r,s1⟩:=pu W
 have hl:∀A∈[b.size],A<W.size:=by simp[s1]
 have ap:=u.aT
 have aD:=L.aU.aT
 have h2:=C.oJ.2.2.1 V
 have q:0<=bt x.aO 0/\bt x.aO 0<f.aU.length:=C.arg _ (iS V V)
 have am:=C.F.tS q.1 q.2 C.Rm
 have M:=L.ext r
 have R:=C.ok.aR
 have U:=C.ok.iG
 refine⟨K,r.aS m.wc,g,M.g3,V,V,_,(u.ext r).tB V V,q.1,V,_,M.aU.tB q.1 q.2,?_⟩
 generalize bt f.aU (bt x.aO 0)=w at*
 refine(kL (gC.ext r m.aR) am.2).bL cY hl ?_
 rintro _ X ⟨aa,A,rfl,S,ad,F⟩
 have y:=r.J F
 refine⟨F,aa,A,O,λaf=>fy (λn=>nb S af n.1) y,λae=>?_⟩
 have aj:=yb S ae
 have u:=ad cB
 subst u
 let⟨v,ak⟩:=dz aj
 have Q:=R.gZ _ (aZ v)
 have aF:=(Q.wW ak).2
 have az:=br v
 have ax:=m.aR.aT
 let⟨B,T,k0,k1,k2⟩:=(gC.ext y m.aR).bt v
 refine⟨K,y.aS m.wc,V,V,_,sp k0,_,sp k1,B,sp k2,?_⟩
 intro m3 z
 have N:D X z:=by grind [D.cT,D.bZ,D.aV]
 have s4:z.size=X.size+1:=by grind [bD]
 have o:=y.J N
 have ao:(gR c.bT).length<=12:=by
  have:=tE U.mT.dm c.bT.length;grind [qI]
 have au:(cF c)=((gR c.bT).length:Int):=rfl
 have aC:=m.iG.di.aT
 have aB:=U.mT.aT
 have e1:eI ((bz s.aR w).jx -cF c)=(bz s.aR w).jx -cF c:=by grind [de]
 refine⟨cF c,o.aS ag,?_⟩
 rw[e1]
 refine⟨λG=>fy (λn=>by have:=n.2.1;simp at G;omega) o,λG=>⟨p,o.aS m.di,λH=>fy (λn=>by have:=n.2.2.1;simp at H;omega) o,λH=>?_⟩⟩
 simp at G H
 let⟨an,hq⟩:=dU c.di (((bz s.aR w).jx -cF c).toNat)
 have al:dG c ((bz s.aR w).jx -cF c)=an:=by grind [dG]
 let⟨Z,l',c',ab,ai,ar,j0,j1,j2,j3,j4⟩:=(m.iG.ext o).di.bt hq
 have aq:=ab.aT
 have ay:=ai.aT
 have aw:=T.aT
 have av:=Q.fl
 refine⟨p,o.aS m.di,V,V,Z,j0,l',j1,_,j2,_,j3,c',j4,?_⟩
 intro m5 Y
 have P:D z Y:=by grind [D.cT,D.bZ,D.aV]
 have s6:Y.size=z.size+1:=by grind [bD]
 have t:=o.J P
 have e3:eI ((B.len:Int)+1)=(B.len:Int)+1:=by grind [de]
 rw[e3]
 unfold zO
 rw[al]
 have aE:=F.aQ
 refine⟨λI=>⟨λJ=>?_,λJ=>fy (λn=>by have:=n.2.2.2.1;simp at J;omega) t⟩,λI=>fy (λn=>by have:=n.2.2.2.2.1;simp at I;omega) t⟩
 simp at I J
 refine(Ac (t.aS m.wc) (gC.ext t m.aR) R (aZ v) (T.ext (N.J P)) ah).bL cY cB λb2 m7 ac n _=>⟨b2,O,kX (ac.trans ?_) (t.J n)⟩
 grind
def IJ{fb:Nat}{cw Z fr:E}(u:RV b i 3 d p cw Z fr c s)(C:vW c s l f x)(G:FP b fb e f g k h)(I:be b a x.aO)(aQ:x.op=14\/x.op=19\/x.op=21\/x.op=16\/x.op=17)(aw:s.aR.length<=2000000000):
 fX dO 90 [vp i 0,vp fb e,xv x a j] b ((x.op=14->iI s.aR (bt f.aU (bt x.aO 0))/\(bz s.aR (bt f.aU (bt x.aO 0))).bS<999999)/\(x.op=19->iI s.aR (bt f.aU (bt x.aO 0))/\x.cE<(bz s.aR (bt f.aU (bt x.aO 0))).bJ.length)/\
  (x.op=21->iI s.aR (bt f.aU (bt x.aO 0))/\(bz s.aR (bt f.aU (bt x.aO 0))).jx∈cX c.bT x.cE)/\((x.op=16\/x.op=17)->FX s.aR f x)):=by
 apply uX (i,0) (fb,e)
 simp -zeta only[dR]
 intro m1
 obtain⟨J,s1⟩:=pu m1
 have hl:∀y∈[b.size],y<m1.size:=by simp[s1]
 have aH:=I.aT
 have aG:=I.ms
 have aT:=G.aU.aT
 have aL:=G.cC.aT
 have h4:=C.oJ
 have aO:=C.Tk
 have ax:1<=x.aO.length:=V
 have aD:=h4.1
 clear h4
 have z:0<=bt x.aO 0/\bt x.aO 0<f.aU.length:=C.arg _ (iS V V)
 have ay:=C.F.tS z.1 z.2 C.Rm
 have F1:=G.ext J
 have hI:=C.ok.aR
 have ap:FX s.aR f x<->(iI s.aR (bt f.aU (bt x.aO 0))/\oC (bz s.aR (bt f.aU (bt x.aO 0))).bJ=dQ f (x.aO.drop 1)/\((bz s.aR (bt f.aU (bt x.aO 0))).bS=1\/oH s.aR (bz s.aR (bt f.aU (bt x.aO 0))).bJ)/\(x.op=17->bt f.cC (bt x.aO 0)=0)):=Rb
 rw[ap]
 refine⟨Z,J.aS u.wc,g,F1.g3,V,V,_,(I.ext J).tB V V,z.1,V,_,F1.aU.tB z.1 z.2,?_⟩
 generalize bt f.aU (bt x.aO 0)=w at*
 refine(kL (gC.ext J u.aR) ay.2).bL cY hl ?_
 rintro _ F ⟨ah,y,rfl,W,au,Q⟩
 have N:=J.J Q
 refine⟨Q,ah,y,O,λaI=>fy (λU=>?_) N,λav=>?_⟩
 .grind
 have ac:=yb W av
 have aq:=au cB
 subst aq
 let⟨M,aR⟩:=dz ac
 have ab:=hI.gZ _ (aZ M)
 have aP:=br M
 have aM:=u.aR.aT
 let⟨P,Y,k0,k1,k2⟩:=(gC.ext N u.aR).bt M
 refine⟨Z,N.aS u.wc,V,V,_,sp k0,_,sp k1,P,sp k2,?_⟩
 intro m3 v
 have R:D F v:=by grind [D.cT,D.bZ,D.aV]
 have s4:v.size=F.size+1:=by grind [bD]
 have kB:aS v F.size 1=some (vi (bz s.aR w).jx):=(dF.aV (m:=m3) (o:=0) (r:=[.i (bz s.aR w).bS,.i (bz s.aR w).jx,.s P]) (dF.push F _ _)).dx 1
 have t:=N.J R
 have aU:=Q.aQ
 have B:∀y∈[F.size,b.size],y<v.size:=cB
 have aK:=Y.aT
 refine⟨λA=>?_,λai=>⟨λA=>?_,λak=>⟨λA=>?_,λal=>?_⟩⟩⟩
 .simp at A
  refine kX ?_ t
  simp
  exact⟨λH=>⟨λ_=>⟨ac,H⟩,λq=>V,λq=>V,λq=>V⟩,λH=>(H.1 A).2⟩
 .simp at A
  refine kX ?_ t
  simp
  grind
 .simp at A
  refine⟨d,t.aS u.bT,(xh (u.iG.ext t).bT C.ok.iG.mT.dm _).bL cY B ?_⟩
  rintro _ m5 ⟨K,rfl,L,q⟩
  refine⟨q,K,O,q.cZ kB,(lE L _).bL q B λb2 m6 X T S=>⟨b2,O,kX (X.trans ?_) (t.J S)⟩⟩
  grind
 .simp at ai ak al
  have aj:x.op=16\/x.op=17:=V
  have e1:(Int.toNat (1:Int))=1:=rfl
  have e2:(Int.toNat (a.len:Int))=a.len:=V
  rw[e1,e2]
  have ad:=aaF (I.ext t) ax
  have aN:=ad.aT
  have aJ:(x.aO.drop 1).length<=4:=cB
  refine⟨V,V,V,?_⟩
  refine gL (n:=(x.aO.drop 1).length) V (λaa s' K=>D v K/\jw v K bB 1 s' ((dQ f ((x.aO.drop 1).take aa)).map Ce.i)) ⟨cY,by simpa[dQ]using jw.gN v v bB 1⟩ ?_
  rintro aa s' m5 aC μ hk ⟨q,o5⟩ aA
  have az:=t.J q
  refine dit (λH=>?_) λH=>?_
  .let⟨ae,K⟩:=dU (x.aO.drop 1) aa
   have L:=C.arg ae (ue (aZ K))
   have F5:=G.ext az
   refine⟨V,V,ae,by simpa using(ad.ext q).bt K,g,F5.g3,L.1,V,_,F5.aU.tB L.1 L.2,?_⟩
   intro m6
   refine rY o5 q (by simp[dQ];omega) λaf m7 q1 q2=>⟨D.wH (q.bZ _) q2 B,aA V _ _ ⟨q2,?_⟩⟩
   rw[bX K]
   simpa[dQ]using q1
  .rw[eQ V]at o5
   have i5:be m5 s' (dQ f (x.aO.drop 1)):=by grind [be.jA,dQ]
   refine(IK (Y.ext (R.J q)) (oh ab.fl)).bL (VE (rZ (bz s.aR w).bJ) ab.fl) (λy W=>q.lt (B y W)) λps m6 o6 i6 T=>⟨ps,O,?_⟩
   have S:=q.J T
   refine(kA i6 (i5.ext T)).bL S B λb2 m7 X aE L=>⟨b2,O,λh8=>fy (λU=>nb X h8 (U.2.2.2 aj).2.1) (t.J L),λh8=>?_⟩
   have K:=t.J L
   have ag:bK dO 140 [vp i 0,.agg #[vi (bz s.aR w).bS,vi (bz s.aR w).jx,P.v]] m7 λaB ae=>gS [F.size,b.size] m7 ae/\∃af:Bool,aB=vb af/\((af=true<->((bz s.aR w).bS=1\/oH s.aR (bz s.aR w).bJ))/\D b ae):=
    (Ac (K.aS u.wc) (gC.ext K u.aR) hI (aZ M) (Y.ext (R.J L)) aw).bL L B λb3 m8 ar aF ao=>⟨b3,O,ar,t.J ao⟩
   have F7:=G.ext K
   have am:bt x.aO 0<f.cC.length:=V
   refine⟨λan=>⟨h,F7.g5,V,V,_,(I.ext K).tB V V,z.1,V,_,F7.cC.tB z.1 am,λh9=>fy (λU=>?_) K,λh9=>ag.aP ?_⟩,λan=>ag.aP ?_⟩
   .grind
   .grind
   grind
end
section
variable{b:bh}{c:Nat}{a:bW}{d e h:E}
def zd(aU:ab):∀(b a bI:ab),cL aU bI (b++a)=cL aU (cL aU bI b) a
 |[],a,bI=>O
 |y::b,a,bI=>by simp only[eS,cL,zd aU b a]
def Rt{f fb:Nat}(i:aS b f 0=some (vp fb c))(F:FP b fb c a d e h){x:Int}(g:0<=x/\x<a.aU.length):fX dO 87 [vi x,vp f 0] b (1000<=bt a.aU x):=by
 apply zl (f,0);have j:=F.aU.aT;exact⟨(fb,c),i,d,F.g3,g.1,V,_,F.aU.tB g.1 g.2,kX bO cY⟩
def UL{mb fb:Nat}{aL a7 cw u fr:E}{g:da}{M:St}(Q:RV b mb 3 aL a7 cw u fr g M)(aU:aS b mb 2=some (vi (cF g))){fs:an}{x:Instr}(C:vW g M fs a x){al a4:E}(S:FP b fb c a d e h)(Z:be b al x.aO)(aI:M.aR.length<=2000000000):
 fX dO 50 [vp mb 0,vp fb c,xv x al a4] b (pb g M a x (cL a.aU a.bI (cO g x))):=by
 apply Bn (mb,0) (fb,c)
 simp -zeta only[dR]
 intro m1 P
 have z:D b P:=((D.cT b).bZ _).bZ _
 have s1:=pz m1
 have s2:P.size=b.size+2:=by simp[P,s1]
 have N:∀j∈[m1.size,b.size],j<P.size:=eX
 have kP:aS P b.size 0=some (vp fb c):=((dF.push b [.p fb c] _).ext (D.push m1 _)).dx 0
 have bb:=Z.aT
 have bq:=S.aU.aT
 have bd:=S.cC.aT
 have bj:=C.Tk
 have hd:=C.bH
 have a0:=C.opc
 refine⟨e,z.aS S.g4,(gT (S.bI.ext z) V).bL V N λB m3 oq iq aw=>⟨B,O,?_⟩⟩
 have ap:=iq.aT
 have az:=z.J aw
 refine(zX (Q.iG.ext az) (az.aS Q.di) C.jE (Z.ext az) (oh C.oJ.1) C.oJ.2.2.2.1).bL aw N ?_
 rintro _ U ⟨rs,ls,rfl,ar,aA,ax,aK,aJ⟩
 have aP:=aw.J ax
 have a6:=oq.ext ax
 refine⟨ax,rs,ls,O,?_⟩
 have bu:=Ni g x
 have a_:=C.oJ.1
 have bs:=ar.aT
 have aR:=C.O8
 have a1:∀ad∈a.bI,0<=ad:=λad T=>(C.Tu ad T).1
 have bm:P.size<=B.bu:=by
  rcases oq.bu with k|k
  .subst k;simp at ap;omega
  .exact k
 have bp:B.bu<m3.size:=by
  rcases oq.lt with k|k
  .subst k;simp at ap;omega
  .exact k
 have ay:=C.arg
 have kr:∀{v:bh},(∀j,j<U.size->j≠B.bu->v[j]? =U[j]?)->be v rs (cO g x):=λhk=>km ar λH=>hk _ (lx ar H) λk=>by
  have aT:x.aO≠[]:=λR=>by
   let⟨y,s⟩:=aaq _ H;have:=wS s;rw[R]at this;simp at this
  rcases aK with W|W|W
  .subst W;have:=ar.aT;simp at this;exact H (cp.1 this.symm)
  .rw[W]at k;have:=lx Z aT;omega
  .omega
 have kl:∀{v:bh},(∀j,j<U.size->j≠B.bu->v[j]? =U[j]?)->be v ls (if x.op=9\/x.op=24 then fJ g x 0 x.aO else[]):=λhk=>km aA λH=>hk _ (lx aA H) λk=>by
  rcases aJ with W|W
  .subst W;have:=aA.aT;simp at this;exact H (cp.1 this.symm)
  .omega
 refine gP (n:=(cO g x).length) V (λp v=>D P v/\(∀j,j<U.size->j≠B.bu->v[j]? =U[j]?)/\jw P v bB 1 B ((cL a.aU a.bI ((cO g x).take p)).map Ce.i)/\∀ad∈cL a.aU a.bI ((cO g x).take p),0<=ad) ⟨aP,λ_ _ _=>O,a6,a1⟩ ?_
 rintro p m5 a8 μ hk ⟨ae,ai,au,K⟩ aD
 have F5:=S.ext (z.J ae)
 have aV:=my a.aU ((cO g x).take p) a.bI
 have aq:be m5 B (cL a.aU a.bI ((cO g x).take p)):=be.jA au V
 refine dit (λh6=>?_) λh6=>?_
 .let⟨y,s⟩:=dU (cO g x) p
  have q:=aR y (aZ s)
  have F:cL a.aU a.bI ((cO g x).take (p+1))=if 1000<=bt a.aU y then gX (cL a.aU a.bI ((cO g x).take p)) y (bt (cL a.aU a.bI ((cO g x).take p)) y -1)else cL a.aU a.bI ((cO g x).take p):=by
   rw[bX s,zd];rfl
  have I:y<(cL a.aU a.bI ((cO g x).take p)).length:=V
  have aE:=K _ (iS q.1 I)
  have aF:bt (cL a.aU a.bI ((cO g x).take p)) y<=999999:=by
   let⟨q',L,ah⟩:=ou ((cO g x).take p) a.bI y.toNat _ (jT q.1 I);have:=(C.Tu q' (aZ L)).2;omega
  refine⟨V,V,y,by simpa using(kr ai).bt s,d,F5.g3,q.1,V,_,F5.aU.tB q.1 q.2,λA=>?_,λA=>aD V _ ⟨ae,ai,by rw[F,aW (sp A)];exact au,by rw[F,aW (sp A)];exact K⟩⟩
  simp at A
  rw[bn A]at F
  refine⟨q.1,V,_,aq.tB q.1 I,q.1,V,?_⟩
  have e1:eI (bt (cL a.aU a.bI ((cO g x).take p)) y -1)=bt (cL a.aU a.bI ((cO g x).take p)) y -1:=iz
  rw[e1]
  rcases au.bt with av|⟨X,aj,tail,z1,z2,z3,z4,z5⟩
  .rw[av]at ap;simp at ap;omega
  .have aM:B.off=0:=by rw[z1];rfl
   have aa:B.bu=X:=by rw[z1];rfl
   have ag:B.off+y.toNat*1=y.toNat:=V
   rw[ag,aa]
   have ao:y.toNat<((cL a.aU a.bI ((cO g x).take p)).map Ce.i).length:=eX
   refine⟨z3.jb (by simp only[dH];omega),?_⟩
   intro m6
   have G:D P m6:=ae.aV V _ _
   have ak:∀j,j<U.size->j≠B.bu->m6[j]? =U[j]? :=λj t H=>by rw[cq _ _ _ _ V];exact ai j t H
   have o6:jw P m6 bB 1 B ((cL a.aU a.bI ((cO g x).take (p+1))).map Ce.i):=by
    rw[F];refine⟨by rw[jW,jO,<-jW (f:=Ce.i)];exact au.aT,bR ⟨X,aj,tail,z1,z2,?_,?_,z5⟩⟩
    .have:=dF.aV (m:=m5) (o:=y.toNat) (r:=[.i (bt (cL a.aU a.bI ((cO g x).take p)) y -1)]) z3;have e6:kH ((cL a.aU a.bI ((cO g x).take p)).map Ce.i++tail) y.toNat [.i (bt (cL a.aU a.bI ((cO g x).take p)) y -1)]=(gX (cL a.aU a.bI ((cO g x).take p)) y (bt (cL a.aU a.bI ((cO g x).take p)) y -1)).map Ce.i++tail:=by
      simp only[kH,gX,Nn];rw[aeO _ _ ao]
     rw[e6]at this;exact this
    .simp only[dH,jW,jO]at z4⊢;exact z4
   have aH:=my a.aU ((cO g x).take (p+1)) a.bI
   have aC:be m6 B (cL a.aU a.bI ((cO g x).take (p+1))):=be.jA o6 V
   have Y:bt (cL a.aU a.bI ((cO g x).take (p+1))) y=bt (cL a.aU a.bI ((cO g x).take p)) y -1:=by rw[F,ny q.1 I y q.1,bn O]
   have af:=aC.tB (i:=y) q.1 V
   rw[Y,ag,aa]at af
   refine⟨D.wH ae G N,q.1,V,_,af,λh8=>fy (λw=>?_) (z.J G),λh8=>aD V _ ⟨G,ak,o6,λad T=>?_⟩⟩
   .simp at h8
    have ac:cL a.aU a.bI (cO g x)=cL a.aU (cL a.aU a.bI ((cO g x).take (p+1))) ((cO g x).drop (p+1)):=by rw[<-zd,j8]
    have am:y<(cL a.aU a.bI (cO g x)).length:=by rw[my];omega
    have J:=jT (l:=cL a.aU a.bI (cO g x)) q.1 am
    have aG:=w.nn _ (aZ J)
    rw[ac]at J
    let⟨q',L,ah⟩:=ou _ _ _ _ J
    have aB:=Ps L
    rw[Y]at aB
    rw[<-ac]at ah
    omega
   .rw[F]at T
    rcases tO T with T|T
    .simp at h8;omega
    .exact K ad T
 .have a2:(cO g x).take p=cO g x:=eQ V
  rw[a2]at aq K aV
  have aB:=kl ai
  generalize bl:cL a.aU a.bI (cO g x)=bI at*
  have aY:=aB.aT
  refine⟨λv=>D m5 v/\(lL x.op->bt bI x.bH<=0),?_,?_⟩
  .refine(qL _ _ ⟨V,V⟩).bL ae N λj m6 t af G=>⟨j,O,λI=>⟨hd.1,V,_,(aq.ext af).tB hd.1 V,λA=>fy (λw=>?_) (z.J G),λA=>⟨af,λ_=>by simpa using A⟩⟩,λF=>⟨af,λJ=>absurd J (Go.Vc.fb t F)⟩⟩
   have:=w.bH (t.1 I);simp at A;omega
  .rintro m6 ⟨af,aa⟩
   have a5:∀(ak:ab)(jj:Nat)(y:Int),y∈fJ g x jj ak->y∈ak:=by
    intro ak;induction ak with
    |nil=>intro jj y h;simp[fJ]at h
    |cons F ak A=>
     intro jj y h;simp only[fJ]at h;split at h
     .rcases bo.1 h with rfl|h
      .exact cK
      .exact aX _ (A _ _ h)
     .exact aX _ (A _ _ h)
   generalize ao:(if x.op=9\/x.op=24 then fJ g x 0 x.aO else[])=LL at*
   have aQ:∀y∈LL,0<=y/\y<a.aU.length:=λy s=>by
    rw[<-ao]at s;split at s
    .exact ay y (a5 _ _ _ s)
    .simp at s
   refine gP (n:=LL.length) (aY▸aB.kM) (λp v=>D m5 v/\∀y∈LL.take p,1000<=bt a.aU y->iI M.aR (bt a.aU y)) ⟨af,bO⟩ ?_
   rintro k2 m7 I2 μ2 bi ⟨ag,aj⟩ aC
   have Y:=ae.J ag
   have A:=z.J Y
   have I:=S.ext A
   refine dit (λh8=>?_) λh8=>?_
   .let⟨y,s⟩:=dU LL k2
    have q:=aQ y (aZ s)
    refine⟨V,V,y,by simpa using(aB.ext ag).bt s,d,I.g3,q.1,V,_,I.aU.tB q.1 q.2,λG=>?_,λG=>aC V _ ⟨ag,dK s aj λu=>by simp at G;omega⟩⟩
    simp at G
    refine(PX (A.aS Q.wc) (gC.ext A Q.aR) (C.F.tS q.1 q.2 C.Rm).2).bL Y N λj m8 t ah J=>⟨j,O,λF=>fy (λw=>?_) (z.J J),λF=>aC V _ ⟨ag.J ah,dK s aj λ_=>yb t F⟩⟩
    have L:=aZ s
    rw[<-ao]at L
    split at L
    .rename_i e9;exact nb t F (w.df e9 y L G)
    .simp at L
   .rw[eQ V]at aj
    have ac:(x.op=9\/x.op=24)->Pl g M.aR a x:=λe9=>by rw[bn e9]at ao;rw[<-ao]at aj;exact aj
    have a3:=aq.ext ag
    have hV:=Q.ext A
    have aE:1<=x.aO.length->0<=bt x.aO 0/\bt x.aO 0<a.aU.length:=λX=>ay _ (iS V V)
    have ga:∀{v},D b v->1<=x.aO.length->aS v al.bu (al.off+Int.toNat (0:Int)*1)=some (vi (bt x.aO 0)):=λhx X=>(Z.ext hx).tB V V
    clear aD aC ai kr kl a0 aK aJ
    refine⟨λk=>?_,λe1=>?_⟩
    .simp only[eG,bP]at k
     refine(jU (Z.ext A) 87 #[] #[vp b.size 0] cD (λy=>1000<=bt a.aU y) (λy s v am=>?_)).bL Y (λj t=>N j (by simp at t;simp[t])) λj m8 t ah J=>⟨j,O,kX ?_ (z.J J)⟩
     .simpa using Rt (am.aS (Y.aS kP)) (I.ext am) (ay y s)
     .have av:(!j)=true<->¬(j=true):=bO
      rw[av,t]
      constructor
      .intro aF
       have u:∀y∈x.aO,bt a.aU y<1000:=λy s=>by
        rcases gJ (1000<=bt a.aU y)with X|X
        .exact absurd ⟨y,s,X⟩ aF
        .omega
       have L:x.op≠6/\x.op≠24/\x.op≠23/\x.op≠11/\x.op≠14/\x.op≠15/\x.op≠16/\x.op≠17/\x.op≠19/\x.op≠21:=by rcases k with k|k|k|k|k|k<;>rw[k]<;>decide
       exact⟨K,aa,λ_=>u,λq=>absurd q L.1,ac,λq=>q.elim (λh=>absurd h L.2.1) (λh=>absurd h L.2.2.1),λq=>absurd q L.2.2.1,λq=>absurd q L.2.2.2.1,λq=>absurd q L.2.2.2.2.1,λq=>absurd q L.2.2.2.2.2.1,λq=>q.elim (λh=>absurd h L.2.2.2.2.2.2.1) (λh=>absurd h L.2.2.2.2.2.2.2.1),λq=>absurd q L.2.2.2.2.2.2.2.2.1,λq=>absurd q L.2.2.2.2.2.2.2.2.2⟩
      .rintro w ⟨y,s,X⟩
       have:=w.oL V y s;omega
    simp only[cU,ba]at e1
    refine⟨λk=>?_,λe6=>?_⟩
    .simp only[bP]at k
     have bf:=C.oJ.2.2.2.2.1 k
     have kG:JW M.aR a x->pb g M a x bI:=λu=>by
      refine⟨K,aa,?_,?_,ac,?_,?_,?_,?_,?_,?_,?_,?_⟩<;>intro q<;>first|(exfalso;omega)|exact u
     refine⟨λG=>?_,λG=>oO (kG λH=>absurd (sp G) H) A⟩
     simp at G
     have aG:eI (x.dh -1)=x.dh -1:=iz
     rw[aG]
     have L:0<=x.dh -1/\x.dh -1<a.cC.length:=V
     refine⟨h,I.g5,V,V,_,I.cC.tB L.1 L.2,λF=>?_,λF=>oO (kG λ_ H=>absurd (sp F) H) A⟩
     simp at F
     obtain⟨T,dd,av,_⟩:=C.P3 _ (iS L.1 L.2) F
     have bk:=br av
     have aN:ix (bt a.cC (x.dh -1))=(bt a.cC (x.dh -1) -1000).toNat:=rfl
     have aH:eI (bt a.cC (x.dh -1) -1000)=bt a.cC (x.dh -1) -1000:=iz
     have bc:=Q.aR.aT
     let⟨f9,aM,k0,k1,aO⟩:=(gC.ext A Q.aR).bt av
     have a9:=aM.aT
     have aF:bz M.aR (bt a.cC (x.dh -1))=dd:=by simp[bz,av]
     refine⟨u,hV.wc,h,I.g5,V,V,_,I.cC.tB L.1 L.2,?_⟩
     rw[aH,<-aN]
     refine⟨V,V,f9,aO,kX ?_ A⟩
     simp only[bP]
     refine⟨λam=>kG λ_ _=>by rw[aF];omega,λw=>?_⟩
     have:=w.kC k G F
     rw[aF]at this;omega
    simp only[ba]at e6
    refine⟨λk=>?_,λaN=>?_⟩
    .simp only[eG,bP]at k
     refine(Cl a3).bL Y N λj m8 t ah J=>⟨j,O,λG=>fy (λw=>nb t G (w.ov k).1) (z.J J),λG=>?_⟩
     have F8:=S.ext (z.J J)
     refine⟨h,F8.g5,(Cl F8.cC).bL J N λb2 m9 aH a9 aG=>⟨b2,O,λF=>fy (λw=>nb aH F (w.ov k).2) (z.J aG),λF=>?_⟩⟩
     have L:=z.J aG
     have F9:=S.ext L
     have kG:(x.op=23->1<M.bq.length\/bt a.aU (bt x.aO 0)<1000)->pb g M a x bI:=λu=>by
      refine⟨K,aa,?_,?_,ac,?_,?_,?_,?_,?_,?_,?_,?_⟩<;>intro q<;>first|exact u q|(exfalso;omega)|exact⟨(yb t G),(yb aH F)⟩
     have bc:=Q.bq.aT
     refine⟨λam=>oO (kG λq=>by simp at am;omega) L,λam=>⟨fr,L.aS Q.Tc,λav=>oO (kG λ_=>bC (by simp at av;omega)) L,λav=>?_⟩⟩
     simp at am av
     have aM:x.op=23:=V
     have X:=C.oJ.2.1 V
     have R:=aE V
     refine⟨d,F9.g3,V,V,_,ga L V,R.1,V,_,F9.aU.tB R.1 R.2,kX ?_ L⟩
     simp
     refine⟨λaO=>kG λ_=>bR aO,λw=>?_⟩
     rcases w.tT aM with aF|aF
     .omega
     .exact aF
    simp only[cU,ba]at aN
    refine⟨λk=>?_,λw=>?_⟩
    .simp only[bP]at k
     refine(LY hV (A.aS aU) C I (Z.ext A) k aI).bL Y N λj m8 t ah J=>⟨j,O,kX (t.trans ?_) (z.J J)⟩
     refine⟨λu=>?_,λh=>h.apply k⟩
     refine⟨K,aa,?_,?_,ac,?_,?_,?_,?_,?_,?_,?_,?_⟩<;>intro q<;>first|(exfalso;omega)|exact u
    simp only[ba]at w
    refine⟨λk=>?_,λG=>?_⟩
    .simp only[bP]at k
     have X:=C.oJ.2.1 V
     have R:=aE V
     refine⟨d,I.g3,V,V,_,ga A V,R.1,V,_,I.aU.tB R.1 R.2,kX ?_ A⟩
     simp only[bg]
     refine⟨λu=>?_,λh=>h.Bc k⟩
     refine⟨K,aa,?_,?_,ac,?_,?_,?_,?_,?_,?_,?_,?_⟩<;>intro q<;>first|(exfalso;omega)|exact u
    simp only[ba]at G
    refine⟨λk=>?_,λF=>?_⟩
    .simp only[eG,bP]at k
     refine(IJ hV C I (Z.ext A) V aI).bL Y N λj m8 t ah J=>⟨j,O,kX (t.trans ?_) (z.J J)⟩
     refine⟨λu=>?_,λh=>⟨h.dup,h.tL,h.xS,h.Qi⟩⟩
     refine⟨K,aa,?_,?_,ac,?_,?_,?_,u.1,?_,u.2.2.2,u.2.1,u.2.2.1⟩<;>intro q<;>exfalso<;>omega
    .simp only[cU,ba]at F
     refine oO ?_ A
     refine⟨K,aa,?_,?_,ac,?_,?_,?_,?_,?_,?_,?_,?_⟩<;>intro q<;>exfalso<;>omega
end
section
variable{N c:Nat}{b:ag}{a:bh}{h:ah}
def qK(w:Int)(a:bh):DK dO 98 [vi w] a (vi (iV w)):=by
 apply Ae;unfold iV;exact⟨λh=>by simp at h;rw[bn h];exact⟨O,cY⟩,λh=>by simp at h;rw[aW V];exact⟨O,cY⟩⟩
def yM{d:E}(p:gB N b a d h)(y:∀e,a.size<=e->b e=0)(kb:dF a c ig [.s d])(A:b c=5)(G:h.length<=2000000000):
 bK dO 145 [vp c 0] a λ_ g=>gB N b g (d.cut 0 (lK h h.length) 3) (pG h)/\dF g c ig [.s (d.cut 0 (lK h h.length) 3)]/\HC b a b g:=by
 apply Ej (c,0)
 have F:=p.aT
 have q:=p.jH V
 have C:=q.ms
 have j:=kb.dx 0
 refine⟨d,j,λl g=>g=a/\∃n:Nat,l=n/\n<=h.length/\lK h n=lK h h.length,λl _=>l.toNat,⟨O,h.length,V,bY,O⟩,?_⟩
 rintro l e ⟨rfl,n,rfl,z,r⟩
 have u:Int.toNat 0=0:=rfl
 have en:Int.toNat (n:Int)=n:=V
 have kG:lK h n=n->gB N b (aV e c 0 [.s (d.cut 0 n 3)]) (d.cut 0 (lK h h.length) 3) (pG h)/\dF (aV e c 0 [.s (d.cut 0 n 3)]) c ig [.s (d.cut 0 (lK h h.length) 3)]/\HC b e b (aV e c 0 [.s (d.cut 0 n 3)]):=λt=>by
  have f:dI (λk=>k=5) b e b (aV e c 0 [.s (d.cut 0 n 3)]):=dI.aV y A _ _;have i:lK h h.length=n:=by rw[<-r,t]
  rw[i];refine⟨?_,dF.aV (m:=e) kb,f.aP λk x=>bR (bC x)⟩;have:=(p.fN f cD cD).ry z;unfold pG;rw[i];exact this
 refine dit (λw=>?_) λw=>?_
 .obtain⟨k,rfl⟩:∃k,n=k+1:=⟨n -1,V⟩
  have i:eI (((k+1:Nat):Int) -1)=(k:Int):=by rw[iz];omega
  let⟨s,f⟩:=dU h k
  obtain⟨B,D,v,_⟩:=q.bt f
  refine⟨d,j,?_⟩
  rw[i]
  refine⟨V,V,s.bS,sp v,λo=>⟨⟨O,k,O,V,?_⟩,by show(k:Int).toNat<((k+1:Nat):Int).toNat;omega⟩,λo=>⟨d,j,V,V,V,kb.jb bO,?_⟩⟩
  .rw[<-r,Vm f (sp o)]
  .rw[u,en];exact kG (Q3 f (sp o))
 .have o:n=0:=V
  subst o
  exact⟨d,j,V,V,V,kb.jb bO,kG O⟩
def Km{e:E}(hh:gB N b a e h)(hn:∀g,a.size<=g->b g=0)(kb:dF a c ig [.s e])(hr:b c=5){w:Int}{U:Nat->Int}(hI:jd h (λg=>U g+iW [w] g))(Y:∀g,0<=U g)(aL:h.length<=2000000000):
 bK dO 96 [vp c 0,vi w] a λ_ m=>∃q am,gB N q m am (pG (jK h [w]))/\dF m c ig [.s am]/\HC b a q m:=by
 apply Ei (c,0)
 intro F
 obtain⟨W,s1⟩:=pu F
 have o1:jw a F bB 1 (.mk a.size 0 1 1) ([w].map Ce.i):=jw.bF (D.cT a) bB 1 _ 1 bO
 have c1:HC b a (oG b a.size 6) F:=dI.oG W hn bY V 6
 have a1:iE (oG b a.size 6) F bB 1 6 (.mk a.size 0 1 1) ([w].map Ce.i):=iE.jA o1 λ_=>gU
 have aB:gB N (oG b a.size 6) F e h:=hh.fN (dI.oG (p:=λ_=>False) W hn bY V 6) id id
 have aF:=kb.ext W
 have aC:oG b a.size 6 c=5:=by rw[fK (oh kb.lt)];exact hr
 have aI:=Td λaw d=>(hI.gZ aw d).fl
 have aJ:=hh.aT
 refine Pd (λi G m=>∃q,gB N q m e i.1/\iE q m bB 1 6 G (i.2.reverse.map Ce.i)/\HC b a q m/\jd i.1 (λg=>U g+iW i.2 g)/\jK i.1 i.2=jK h [w]/\i.1.length=h.length/\i.2.length+Gu i.1<=1+Gu h/\dF m c ig [.s e]/\q c=5) (λi=>DV i.1+i.2.length) (h,[w])
  ⟨_,aB,a1,c1,hI,O,O,bO,aF,aC⟩ ?_
 rintro⟨d,st⟩ G m2 aG μ ⟨n,y,a2,i,s,t,J,ag,M,u⟩ ac
 simp only[]at y a2 s t J ag
 have ap:G.len=st.length:=by have:=a2.aT;simp at this;omega
 refine dit (λh3=>?_) λh3=>?_
 .cases st with
  |nil=>simp at ap;omega
  |cons x r=>
   simp only[Vy]at a2
   let⟨p1,p2,p3⟩:=a2.pop
   simp only[dy,qC]at ap p1 p2 p3 ag
   have e1:eI ((G.len:Int) -1)=(r.length:Int):=by rw[iz];omega
   have aH:=a2.le
   have e2:Int.toNat 0=0:=rfl
   have e3:Int.toNat (r.length:Int)=r.length:=V
   have aq:1000<=x->iI d x:=λL=>s.Uq Y L
   have aE:x<=9223372036854775807:=by
    rcases gJ (1000<=x)with j|j
    .have:=br (dz (aq j)).1;unfold ix at this;omega
    .omega
   refine⟨e,M.dx 0,?_⟩
   rw[e1,e2,e3]
   refine⟨V,V,x,p2,(kL (y.jH V) aE).aP ?_⟩
   rintro _ P ⟨av,g,rfl,ae,az,l⟩
   refine⟨av,g,O,V,V,V,λaA=>?_,λaf=>?_⟩
   .have L:=nb ae aA
    have H:HC n m2 n P:=dI.fB l i.bF
    refine ac (d,r) _ _ ⟨n,y.fN (dI.fB (p:=λ_=>False) l i.bF) id id,p3.fN (dI.fB (p:=λ_=>False) l i.bF) id,i.J H,s.Xk ?_,?_,J,by simp only[];omega,M.ext l,u⟩ bO
    .rcases gJ (1000<=x)with j|j
     .exact absurd (aq j) L
     .omega
    .rw[<-sG L];exact t
   .have B:=yb ae af
    have ay:=az (sp af)
    subst ay
    let⟨k,an⟩:=dz B
    have aj:=br k
    have aK:=(s.gZ _ (aZ k)).hi
    have ax:Int.toNat ((ix x:Nat):Int)=ix x:=V
    have H:HC n m2 n P:=dI.fB l i.bF
    have z:gB N n P e d:=y.fN (dI.fB (p:=λ_=>False) l i.bF) id id
    have a3:=p3.fN (dI.fB (p:=λ_=>False) l i.bF) id
    have C:=M.ext l
    obtain⟨f0,g0,_,_,_,_⟩:=z.dx k
    refine⟨e,C.dx 0,?_⟩
    rw[ax]
    refine⟨V,V,_,g0,V,V,z.wr (o:=0) aj cD,?_⟩
    have e5:eI ((bz d x).bS -1)=(bz d x).bS -1:=iz
    rw[e5]
    intro m4
    let⟨aa,S⟩:=z.xE H.bF k ((bz d x).bS -1)
    have a4:=a3.fN S cD
    have v:dF m4 c ig [.s e]:=C.congr (S.fQ _ C.lt (by rw[u];decide))
    have R:=(i.J H).J (S.aP λar A=>bC A)
    have X:=mr (d:=kW) k
    simp only[bn an,kW]at X
    simp at X
    have aD:(d.set (ix x) {bz d x with bS:=(bz d x).bS -1})[ix x]? =some {bz d x with bS:=(bz d x).bS -1}:=lz k
    obtain⟨f1,k0,_,k2,kf,kr⟩:=aa.dx aD
    refine⟨e,v.dx 0,V,V,_,k0,λj=>?_,λj=>?_⟩
    .simp only[bP]at j
     have al:(bz d x).bS=1:=V
     have Z:=kf.aT
     simp only[]at Z kf kr
     have I:=Ed kW k
     simp only[kW,kT]at I
     refine⟨e,v.dx 0,V,V,f1,k2,iE.fw a4 R.bF (by simp[Z]) kf.Mr ?_ λau aM m5 q1 Q=>?_⟩
     .have:(G.cut 0 r.length 1).len=r.length:=by have:=a4.aT;simp at this;omega
      rw[this,Z];omega
     have ah:=aa.fN Q cD cD
     have ad:=R.J (Q.aP λar A=>bR (bR A))
     have ab:dF m5 c ig [.s e]:=v.congr (Q.fQ _ v.lt (by rw[u];decide))
     have ao:au c=5:=((Q.jt _ v.lt)▸u)
     have ak:ix x<(d.set (ix x) {bz d x with bS:=(bz d x).bS -1}).length:=sp aj
     refine⟨e,ab.dx 0,V,V,ah.wr (o:=0) ak cD,?_⟩
     intro m7
     let⟨ai,T⟩:=ah.pT ad.bF ak 0 0 (f:=.nil) ⟨O,bO,bO,bO⟩ (λK=>absurd O K)
     rw[adj]at ai
     refine ac (d.set (ix x) kW,(bz d x).bJ.reverse++r) _ _ ⟨au,ai,?_,ad.J (T.aP λar A=>bC A),s.Xl Y B al,?_,sp J,?_,ab.congr (T.fQ _ ab.lt (by rw[ao];decide)),ao⟩ ?_
     .have:=q1.fN T cD
      simpa using this
     .rw[<-ur B al];exact t
     .simp only[dH,qC]
      have A:Gu (d.set (ix x) kW)+(bz d x).bJ.length=Gu d:=by simpa[kW]using I
      omega
     .simp only[dH,qC,dy]
      have A:DV (d.set (ix x) kW)+((bz d x).bS.toNat+(bz d x).bJ.length)=DV d:=by simpa[kW]using X
      omega
    .simp only[ba]at j
     have K:(bz d x).bS≠1:=V
     have A:=mr (d:={bz d x with bS:=(bz d x).bS -1}) k
     simp only[bn an]at A
     rw[bn V]at A
     have I:=Ed {bz d x with bS:=(bz d x).bS -1} k
     refine ac (iU d x,r) _ _ ⟨n,aa,a4,R,s.Ur Y B K,?_,by simpa[iU]using J,?_,v,u⟩ ?_
     .rw[<-sF B K];exact t
     .simp only[iU];simp only[]at I;omega
     .simp only[iU,dy];omega
 .have j:st=[]:=cp.1 V
  subst j
  rw[uq]at t
  subst t
  refine(yM y i.bF M u V).aP ?_
  rintro _ P ⟨z,C,g⟩
  exact⟨n,_,z,C,i.J g⟩
def UC{i:E}(f:gC a i h):bK dO 203 [i.v,.func (.func 204) #[] #[]] a λA j=>∃r:Int,A=vi r/\D a j/\(if fF h=h.length then r= -1 else r=fF h):=by
 apply pD i (.func 204,#[],#[]);have x:=f.aT;refine gP (x▸f.kM) (λk j=>D a j/\∀b∈h.take k,b.bS≠0) ⟨cY,bO⟩ ?_;rintro k n I μ w ⟨e,g⟩ z
 refine dit (λq=>?_) λq=>?_
 .let⟨b,d⟩:=dU h k;let⟨l,B,p,g1,g2⟩:=(gC.ext e f).bt d;refine⟨V,V,b.bS,sp p,_,sp g1,l,sp g2,204,O,cD,?_⟩;have u:fX dO 204 [.agg #[vi b.bS,vi b.jx,l.v]] n (b.bS=0):=by
   apply zY;simp -zeta only[dR];intro y;exact kX bO ((D.cT n).bZ _)
  refine bK.aP u ?_;rintro _ y ⟨o,rfl,c,m⟩;refine⟨o,O,λt=>⟨_,O,e.J m,?_⟩,λs=>z V _ ⟨e.J m,dK d g (fb c s)⟩⟩;have v:=LQ h k b g d (c.1 t);have:=br d;rw[aW V,v]
 .refine⟨_,O,e,?_⟩;have:=Ec h k w g;have:=sV h;rw[bn V]
def IF{e:E}(k:gB N b a e h)(z:∀q,a.size<=q->b q=0)(kb:dF a c ig [.s e])(L:b c=5)(F:Int){W:E}{C:ab}(hf:be a W C)(an:h.length<=1000000000)(Z:C.length<=1000000000)(Y:N<=a.size):
 bK dO 144 [vp c 0,vi F,W.v] a λaj Q=>∃g aa,aj=vi (1000+fF h)/\gB N g Q aa (kC h (fF h) ⟨1,F,C⟩)/\dF Q c ig [.s aa]/\HC b a g Q:=by
 apply CR (c,0)
 simp -zeta only[dR]
 refine(gT hf Z).cg Z λT m1 o1 i1 X=>⟨T,O,?_⟩
 intro m2 m3
 obtain⟨w,s3⟩:=pv m3
 have M:=X.J w
 have ac:C≠[]->b T.bu=0:=λaf=>by
  rcases o1.bu with i|i
  .subst i;have:=i1.aT;simp at this;exact absurd (cp.1 this.symm) af
  .exact z _ i
 have J:b m1.size=0:=z _ X.aQ
 have al:=k.aT
 have ak:=sV h
 refine⟨e,M.aS (kb.dx 0),(UC (gC.ext M (k.jH V))).aP ?_⟩
 rintro _ v ⟨ai,rfl,n,A⟩
 have u:=M.J n
 have r:HC b a b v:=dI.fB u z
 have K:gB N b v e h:=k.fN (dI.fB (p:=λ_=>False) u z) id id
 have l:=kb.ext u
 have i4:=i1.ext (w.J n)
 have am:=n.aQ
 refine⟨n.eW eX,ai,O,λi=>?_,λi=>?_⟩
 .simp at i
  have y:fF h=h.length:=by
   rcases gJ (fF h=h.length)with s|s
   .exact s
   .rw[aW s]at A;omega
  refine⟨e,l.dx 0,e,l.dx 0,?_⟩
  intro D
  obtain⟨j,s5⟩:=pu D
  have mu:jF D v.size 0 [.i 1,.i F,.s T]:=(dF.push v _ _).kY
  have U:HC b a b D:=r.J (dI.fB j r.bF)
  refine⟨j.cZ (l.dx 0),gB.push (K.fN (dI.fB (p:=λ_=>False) j r.bF) id id) U.bF (x:=.mk v.size 0 1 1) O mu (i4.ext j) (X0.of k (λI=>(u.J j).bG _ (k.bu I).2) (λ_=>o1.ext ((w.J n).J j)) ac Y) V λg ah R S d=>?_⟩
  have P:=l.ext j
  have ad:dF R c ig [.s e]:=P.congr (d.fQ _ P.lt (by rw[L];decide))
  have ag:g c=5:=((d.jt _ P.lt)▸L)
  have ae:g m1.size=0:=by rw[d.jt _ V];exact J
  refine⟨λq f=>?_,ad.jb bO,?_⟩
  .simp at f;subst f
   exact d.fQ _ V (by rw[J];decide)
  intro m7
  have G:dI (λB=>B=5) g R g m7:=dI.aV d.bF ag _ _
  have H:eI (1000+(e.len:Int))=1000+(fF h:Int):=by rw[iz];omega
  rw[H]
  refine⟨λq f=>?_,g,ah,O,?_,dF.aV (m:=R) ad,(U.J (d.aP λB t=>bC t)).J (G.aP λB t=>bR (bC t))⟩
  .simp at f;subst f
   exact G.fQ _ (oh d.aQ) (by rw[ae];decide)
  .rw[kC,bn y];exact S.fN G cD cD
 .simp at i
  have y:fF h≠h.length:=λs=>by rw[bn s]at A;omega
  rw[aW y]at A
  subst A
  have j:fF h<h.length:=V
  have G:Int.toNat ((fF h:Nat):Int)=fF h:=V
  have H:eI (1000+(fF h:Int))=1000+(fF h:Int):=iz
  refine⟨e,l.dx 0,?_⟩
  rw[G,H]
  refine⟨V,V,K.wr (o:=0) j cD,?_⟩
  intro D
  let⟨S,d⟩:=K.pT r.bF j 1 F i4 (X0.of k (λI=>u.bG _ (k.bu I).2) (λ_=>o1.ext (w.J n)) ac Y)
  refine⟨λq f=>?_,b,e,O,?_,l.congr (d.fQ _ l.lt (by rw[L];decide)),r.J (d.aP λB t=>bC t)⟩
  .simp at f;subst f
   exact d.fQ _ V (by rw[J];decide)
  .rw[kC,aW y];exact S
end
section
variable{l:ab}
def Th{f b c:Int}(l:lg b)(m:lg c)(a:bh):DK dO 143 [vi f,vi b,vi c] a (vi (Tw f b c)):=by
 unfold lg at l m;have r: -2000000<=b*c/\b*c<=2000000:=by
  have e:(b*c).natAbs<=999*999:=by rw[Int.natAbs_mul];exact Q8 V V
  omega
 have d:∀n:Int,(if(999:Int)<(if(-999:Int)>n then(-999:Int)else n)then(999:Int)else(if(-999:Int)>n then(-999:Int)else n))=J4 n:=λn=>by
  grind [J4]
 have o:eI (b+c)=b+c:=by grind [de]
 have p:eI (b -c)=b -c:=by grind [de]
 have q:eI (b*c)=b*c:=by grind [de]
 apply NX;rw[o,p,q,d,d,d];unfold Tw;refine⟨λh=>by simp at h;omega,λ_=>⟨λh=>by simp at h;omega,λ_=>⟨λh=>by simp at h;omega,λ_=>⟨λh=>by simp at h;omega,λ_=>⟨λe=>?_,λe=>⟨λg=>?_,λg=>⟨λi=>?_,λi=>⟨λj=>⟨λk=>?_,λk=>?_⟩,λj=>?_⟩⟩⟩⟩⟩⟩⟩⟩
 .grind [D.cT]
 .grind [D.cT]
 .grind [D.cT]
 .grind [D.cT]
 .grind [D.cT]
 .grind [D.cT]
def zp{a:bh}{fb d:Nat}{f:bW}{u:E}(w:aS a fb (d+3)=some u.v)(p:be a u f.aU){s:E}(q:be a s l)(z:∀y∈l,0<=y/\y<f.aU.length)(L:l.length<=100000000):
 sC 95 [vp fb d,s.v] a (dQ f l):=by
 apply Bh (fb,d)
 have K:=q.aT
 have J:=p.aT
 have t:Int.toNat (s.len:Int)=l.length:=V
 rw[t]
 refine⟨V,dT _,V,V,?_⟩
 intro j
 have x:=px j
 have B:dF j a.size bB ((eP l.length).map Ce.i):=by grind [pI,dF.push]
 clear_value j
 simp only[E.lT,E.vL,E.ku,eV]
 refine gP (n:=l.length) V (λk b=>D a b/\dF b a.size bB ((dQ f (l.take k)++eP (l.length -k)).map Ce.i)) ⟨x,by simpa[dQ]using B⟩ ?_
 rintro k C I μ H ⟨b,c⟩ F
 refine dit (λh=>?_) λh=>?_
 .let⟨y,g⟩:=dU l k
  have i:=z y (aZ g)
  have v:Int.toNat (k:Int)*1=k:=V
  refine⟨V,V,y,by simpa using b.aS (q.bt g),u,b.aS w,i.1,V,_,b.aS (p.tB i.1 i.2),V,V,?_⟩
  rw[v]
  have e:(dQ f (l.take k)).length=k:=by grind [dQ]
  refine⟨c.jb (by simp[e,lG];omega),?_⟩
  refine F V _ ⟨b.aV bY _ _,?_⟩
  have:=dF.aV (m:=C) (o:=k) (r:=[.i (bt f.aU y)]) c
  have G:kH ((dQ f (l.take k)++eP (l.length -k)).map Ce.i) k [.i (bt f.aU y)]=(dQ f (l.take (k+1))++eP (l.length -(k+1))).map Ce.i:=by
   have A:eP (l.length -k)=0::eP (l.length -(k+1)):=by
    have:l.length -k=(l.length -(k+1))+1:=V;rw[this];rfl
   rw[A,lH,oP _ _ _ _ (by simp[e])];simp only[jW,e,VA,eK,kH,ni];rw[bX g];simp[dQ]
  grind
 .have e:k=l.length:=V
  subst e
  rw[fu,VA]at c
  simp only[eP,RP,fO]at c
  refine⟨_,O,⟨by simp[dQ],bR ⟨a.size,l.length,[],O,bY,by rw[fO];exact c,by simp[dQ],bY⟩⟩,b⟩
abbrev IB(d p:E)(c:Int)(s:St)(cw g b:E):ae:=[.s d,.s p,.i c,.i s.eC,.i s.iQ,.i s.dg,.i s.dL,.s cw,.s g,.s b]
def Gp(t:bh)(j:ag)(a:bh)(k:Nat)(d p:E)(c:Int)(s:St)(e:bh):Prop:=
 ∃f cw g b,wR t f e k cQ (IB d p c s cw g b) cw g b s.cw s.aR s.bq/\To j a f e
def Gp.from{t:bh}{j i:ag}{a f e:bh}{k:Nat}{d p:E}{c:Int}{s:St}(h:Gp t i f k d p c s e)(n:To j a i f):Gp t j a k d p c s e:=
 let⟨o,cw,g,b,l,m⟩:=h
 ⟨o,cw,g,b,l,n.J m⟩
section
variable{t:bh}{j r:ag}{a i:bh}{k e:Nat}{m:ae}{cw g b:E}{o:ab}{n:ah}{q:an}{f:bW}{u v h:E}{w:List ae}
def ST.afa(S:ST t j a k e m cw g b o n q f u v h w)(c:dI (λ_=>False) j a r i):ST t r i k e m cw g b o n q f u v h w/\To j a r i:=by
 let⟨L,d⟩:=S.eH.jS (c.aP λ_=>False.elim) (S.eH.aR.fN c id id);exact⟨⟨L,S.jN.fN c λ_ _=>id⟩,d⟩
def ST.fp(S:ST t j a k e m cw g b o n q f u v h w)(c:f.aU.length<=1000000/\f.bI.length<=1000000/\f.cC.length<=1000000):FP a b.bu (b.off+q.length*6) f u v h:=by
 obtain⟨_,_,_,d,i,l⟩:=S.jN.kY;exact⟨d,i,l,S.ED c.1,S.NG c.2.1,S.Wo c.2.2⟩
def uY(S:ST t j a k e m cw g b o n q f u v h w){d:Int}(c:0<=d)(r:d<f.aU.length)(z:d<f.bI.length)(l bI:Int):
 bK dO 92 [vp b.bu (b.off+q.length*6),vi d,vi l,vi bI] a λ_ i=>ST t j i k e m cw g b o n q (f.cG d l bI) u v h w/\To j a j i:=by
 apply Ee (b.bu,b.off+q.length*6)
 obtain⟨_,_,_,x,y,A⟩:=S.jN.kY
 have C:u.len=f.aU.length:=by have:=S.jN.aU.aT;simp at this;omega
 have B:v.len=f.bI.length:=by have:=S.jN.bI.aT;simp at this;omega
 let⟨p,t1⟩:=S.IW c r l
 let⟨s,t2⟩:=p.tV c cB bI
 exact⟨u,x,v,y,c,V,S.jN.aU.SA c r,c,V,p.jN.bI.SA c z,s,t1.J t2⟩
end
variable{t:bh}{j:ag}{a:bh}{k:Nat}{d p cw g b:E}{c:Int}{s:St}{q:an}{f:bW}{u v h:E}{w:List ae}
def ST.Te{e:Nat}{c:ae}{i:ab}{d:ah}(S:ST t j a k e c cw g b i d q f u v h w):
 ST t (oG j a.size 5) (aV (a.push (.cells (db [.s E.nil]) ig)) a.size 0 [.s g]) k e c cw g b i d q f u v h w/\To j a (oG j a.size 5) (aV (a.push (.cells (db [.s E.nil]) ig)) a.size 0 [.s g])/\
  dF (aV (a.push (.cells (db [.s E.nil]) ig)) a.size 0 [.s g]) a.size ig [.s g]:=by
 have p:D a (aV (a.push (.cells (db [.s E.nil]) ig)) a.size 0 [.s g]):=by grind [D.cT,D.bZ,D.aV]
 have n:dI (λ_=>False) j a (oG j a.size 5) (aV (a.push (.cells (db [.s E.nil]) ig)) a.size 0 [.s g]):=dI.oG p S.eH.bF bY (by rw[bD];simp) 5
 let⟨l,t1⟩:=S.afa n
 exact⟨l,t1,dF.aV (m:=a.push (.cells (db [.s E.nil]) ig)) (o:=0) (r:=[.s g]) (dF.push a _ _)⟩
def HR(S:ST t j a k cQ (IB d p c s cw g b) cw g b s.cw s.aR q f u v h w)(n:Int){z:E}(F:be a z l)(M:l.length<=1000000)(D:s.aR.length<=1000000000):
 bK dO 94 [vp k 0,vi n,z.v] a λL x=>L=vi (1000+fF s.aR)/\∃y r,ST t y x k cQ (IB d p c s cw r b) cw r b s.cw (kC s.aR (fF s.aR) ⟨1,n,l⟩) q f u v h w/\To j a y x:=by
 apply zj (k,0)
 simp -zeta only[dR]
 refine⟨g,S.eH.bV.dx 8,?_⟩
 intro N I
 let⟨e,t2,kb⟩:=S.Te
 have G:=py I
 refine(IF e.eH.aR e.eH.bF kb gU n (F.ext G) D V e.eH.cV.aQ).aP ?_
 rintro _ P ⟨J,m,rfl,C,H,B⟩
 let⟨o,t3⟩:=e.jS B C
 refine⟨_,O,m,H.dx 0,o.eH.pQ (i:=8) bO,?_⟩
 intro Q
 let⟨A,K⟩:=o.lW 8 [.s m]
 exact⟨O,J,m,A,(t2.J t3).J K⟩
def Kl(S:ST t j a k cQ (IB d p c s cw g b) cw g b s.cw s.aR q f u v h w){x:Instr}{U aq:E}(ha:be t U x.aO)(af:∀y∈x.aO,0<=y/\y<f.aU.length)(ax:x.aO.length<=4)
 (aA:f.aU.length=f.bI.length/\f.cC.length=f.bI.length/\f.bI.length<=2000)(az:0<=x.dh/\x.dh<=f.cC.length)(aj:s.aR.length<=1000000000)(al:∀e∈f.cC,e≠0->1000<=e/\ix e<s.aR.length):
 bK dO 93 [vp k 0,vp b.bu (b.off+q.length*6),xv x U aq] a λav m'=>∃(H:ag)(F:E)(l:Nat)(e:bW),av=vi (1000+l)/\ST t H m' k cQ (IB d p c s cw F b) cw F b s.cw (kC s.aR l ⟨1,x.cE,dQ f x.aO⟩) q e u v h w/\To j a H m'/\
  e.aU=f.aU/\e.bI=f.bI/\e.pc=f.pc/\(∀y,rE s q {f with pc:=y} x x.cE={s with aR:=kC s.aR l ⟨1,x.cE,dQ f x.aO⟩,bq:=q++[bW.cG {e with pc:=y+1} x.bH (1000+l) 1]}):=by
 apply vE (k,0) (b.bu,b.off+q.length*6)
 simp -zeta only[dR]
 intro m1
 obtain⟨ao,s1⟩:=pu m1
 let⟨z,t1⟩:=S.ext ao
 have R:AW j m1 [a.size]:=λaw Z=>by simp at Z;subst Z;exact⟨V,S.eH.bF _ bY⟩
 have T:=z.fp ⟨V,V,V⟩
 have ay:h.len=f.cC.length:=by have:=S.jN.cC.aT;simp at this;omega
 refine(zp T.g3 T.aU (ha.ext z.eH.cV) af V).aP ?_
 rintro _ N ⟨C,rfl,Q,Y⟩
 let⟨m,t2⟩:=z.ext Y
 have J:=R.to t2
 have aC:(dQ f x.aO).length=x.aO.length:=by simp[dQ]
 have G:be N C (dQ f x.aO):=be.jA Q V
 have ad:=t1.J t2
 have none:¬(x.dh≠0/\bt f.cC (x.dh -1)≠0)->bK dO 94 [vp k 0,vi x.cE,C.v] N λar M=>gS [a.size] N M/\∃ac:Int,ar=vi ac/\∃(H:ag)(F:E)(l:Nat)(e:bW),vi ac=vi (1000+l)/\ST t H M k cQ (IB d p c s cw F b) cw F b s.cw (kC s.aR l ⟨1,x.cE,dQ f x.aO⟩) q e u v h w/\To j a H M/\
  e.aU=f.aU/\e.bI=f.bI/\e.pc=f.pc/\(∀y,rE s q {f with pc:=y} x x.cE={s with aR:=kC s.aR l ⟨1,x.cE,dQ f x.aO⟩,bq:=q++[bW.cG {e with pc:=y+1} x.bH (1000+l) 1]}):=λam=>by
  refine(HR m x.cE G V aj).aP ?_
  rintro _ P ⟨rfl,au,an,n,t3⟩
  exact⟨t3.fS J,_,O,au,an,fF s.aR,f,O,n,ad.J t3,O,O,O,λy=>by rw[rE,aW am];rfl⟩
 refine⟨t2.fS R,C,O,λD=>none λK=>by simp at D;exact K.1 D,λD=>?_⟩
 simp at D
 have e1:eI (x.dh -1)=x.dh -1:=iz
 have i:0<=x.dh -1/\x.dh -1<f.cC.length:=V
 have I:=m.fp ⟨V,V,V⟩
 have W:=I.cC.tB i.1 i.2
 refine⟨h,I.g5,?_⟩
 rw[e1]
 refine⟨V,V,_,W,λB=>none λK=>by simp at B;exact K.2 B,λB=>?_⟩
 simp at B
 let⟨aa,ab⟩:=al _ (iS i.1 i.2) B
 have aB:=m.eH.aR.aT
 refine⟨h,I.g5,V,V,_,W,h,I.g5,V,V,m.jN.cC.SA i.1 i.2,?_⟩
 intro P
 let⟨n,t3⟩:=m.Gh i.1 i.2 0
 have B3:=J.to t3
 have ak:ix (bt f.cC (x.dh -1))=(bt f.cC (x.dh -1) -1000).toNat:=rfl
 have e2:eI (bt f.cC (x.dh -1) -1000)=bt f.cC (x.dh -1) -1000:=iz
 refine⟨t3.fS J,g,n.eH.bV.dx 8,?_⟩
 rw[e2,<-ak]
 refine⟨V,V,n.eH.aR.wr (o:=0) ab cD,?_⟩
 intro m4
 have L:dQ f x.aO≠[]->j C.bu=0:=λr=>by
  rcases Q.bu with A|A
  .subst A;have:=G.aT;simp at this;exact absurd (cp.1 this.symm) r
  .exact S.eH.bF _ V
 have ap:be P C (dQ f x.aO):=km G λr=>t3.fQ _ (lx G r) (by rw[L r];simp)
 have ai:h.cap≠0:=λA=>by have:=(m.jN.cC.zS A).1;simp at this;rw[this]at i;simp at i;omega
 have ae:X0 t.size j P g s.aR C (dQ f x.aO):=X0.of z.eH.aR (λX=>(cq _ _ _ _ λA=>by have q1:=(m.jN.cC.bu ai).2;have q2:=(m.eH.aR.bu X).1;rw[A,q1]at q2;omega).trans (Y.bG _ (z.eH.aR.bu X).2)) (λr=>Q.congr (t3.fQ _ (lx G r) (by rw[L r];simp))) L z.eH.cV.aQ
 let⟨ah,c4⟩:=n.eH.aR.pT n.eH.bF ab 1 x.cE ap ae
 let⟨S4,t4⟩:=n.jS (c4.aP λaD X=>bC X) ah
 have X:kC s.aR (ix (bt f.cC (x.dh -1))) ⟨1,x.cE,dQ f x.aO⟩=s.aR.set (ix (bt f.cC (x.dh -1))) ⟨1,x.cE,dQ f x.aO⟩:=by rw[kC,aW V]
 refine⟨t4.fS B3,j,g,ix (bt f.cC (x.dh -1)),{f with cC:=gX f.cC (x.dh -1) 0},by rw[lD aa],by rw[X];exact S4,(ad.J t3).J t4,O,O,O,λy=>?_⟩
 rw[rE,bn ⟨D,B⟩,X,lD aa];rfl
end
section
variable{w:Int}
def P6:∀(b:ab)(g:ah),(∀v∈b,iI g v)->∀x,iI g x->iI (kV g b) x
 |[],g,_,x,c=>c
 |v::b,g,d,x,c=>by
  have e:=d v cK;have up:∀y,iI g y->iI (qv g v) y:=λy a=>⟨a.1,(jq.qv e).2 a.2⟩;exact P6 b (qv g v) (λy a=>up y (d y (aX _ a))) x (up x c)
def Yu{h:ah}(c:iI h w)(d:(bz h w).bS≠1){x:Int}(a:iI h x):iI (iU h w) x:=by
 let⟨f,b⟩:=dz c;refine⟨a.1,?_⟩;by_cases e:ix x=ix w
 .grind [iU,jq.GK]
 .exact(jq.ne e).2 a.2
variable{k:bh}{e:ag}{m:bh}{j:Nat}{d l cw b g:E}{c:Int}{s:St}{i:an}{a:bW}{r t h:E}{q:List ae}
open Classical in
noncomputable def vA (g:ah) (w:Int) (fQ:Bool):ah:=
 if(bz g w).bS=1/\fQ=true then g.set (ix w) ⟨-1,0,eP (bz g w).bJ.length⟩else iZ g w
def HU(S:ST k e m j cQ (IB d l c s cw b g) cw b g s.cw s.aR i a r t h q)(aa:iI s.aR w)(fQ:Bool){ao:Nat->Int}(K:jd s.aR ao)(aF:s.aR.length<=1000000000):
 bK dO 101 [vp j 0,vi w,vb fQ] m λv z=>∃E:Bool,v=vb E/\(E=true<->(bz s.aR w).bS=1/\fQ=true)/\∃am aj,ST k am z j cQ (IB d l c s cw aj g) cw aj g s.cw (vA s.aR w fQ) i a r t h q/\To e m am z:=by
 apply zk (j,0)
 simp -zeta only[dR]
 let⟨A,aM⟩:=dz aa
 have H:=br A
 have aI:=S.eH.aR.aT
 have aH:=aa.1
 have aw:ix w=(w -1000).toNat:=rfl
 have e4:eI (w -1000)=w -1000:=iz
 have ac:=K.gZ _ (aZ A)
 have aJ:=ac.hi
 have aD:=ac.fl
 have g8:=S.eH.bV.dx 8
 let⟨f0,W,g1,g2,gf,gr⟩:=S.eH.aR.dx A
 have aE:=gf.aT
 rw[e4,<-aw]
 refine⟨b,g8,V,V,λz=>z=m/\¬((bz s.aR w).bS=1/\fQ=true),⟨_,W,λx=>⟨λy=>?_,λy=>⟨O,λu=>by rw[y]at u;simp at u⟩⟩,λx=>⟨O,λu=>by simp at x;exact x u.1⟩⟩,?_⟩
 .simp at x
  have T:Int.toNat (f0.len:Int)=(bz s.aR w).bJ.length:=V
  refine⟨f0,g2,V,dT _,V,V,?_⟩
  rw[T]
  intro C
  have I:=px C
  have J:jw m C bB 1 (.mk m.size 0 (bz s.aR w).bJ.length (bz s.aR w).bJ.length) ((eP (bz s.aR w).bJ.length).map Ce.i):=by
   have U:C=m.push (.cells (db ((eP (bz s.aR w).bJ.length).map Ce.i)) bB):=by rw[<-pI]
   rw[U];exact SC _
  let⟨B,t1⟩:=S.ext I
  refine⟨B.eH.aR.wr (o:=0) H cD,?_⟩
  intro m2
  let⟨D,F⟩:=B.eH.aR.pT B.eH.bF H (-1) 0 (be.jA J (by rw[lG];omega)) (X0.of S.eH.aR (λu=>I.bG _ (S.eH.aR.bu u).2) (λ_=>J) (λ_=>S.eH.bF _ bY) S.eH.cV.aQ)
  let⟨G,t2⟩:=B.jS (F.aP λu y=>bC y) D
  refine⟨true,O,by simp[x,y],e,b,?_,t1.J t2⟩
  rw[vA,bn ⟨x,y⟩];exact G
 .rintro C ⟨rfl,ai⟩
  have af:(false=true<->(bz s.aR w).bS=1/\fQ=true):=⟨sx,λh=>absurd h ai⟩
  rw[show vA s.aR w fQ=iZ s.aR w by rw[vA,aW ai]]
  refine⟨_,W,λx=>?_,λx=>?_⟩
  .simp at x
   refine⟨S.eH.aR.wr (o:=0) H cD,?_⟩
   intro m2
   let⟨D,F⟩:=S.eH.aR.pT S.eH.bF H 0 0 (f:=.nil) ⟨O,bO,bO,bO⟩ (λQ=>absurd O Q)
   let⟨G,t2⟩:=S.jS (F.aP λu y=>bC y) D
   refine⟨b,G.eH.bV.dx 8,?_⟩
   intro m3 m4
   let⟨B,N,kb⟩:=G.Te
   refine(yM B.eH.aR B.eH.bF kb gU eX).aP ?_
   rintro _ X ⟨Z,M,J⟩
   let⟨I,P⟩:=B.jS J Z
   refine⟨_,M.dx 0,I.eH.pQ bO,?_⟩
   intro Y
   let⟨L,R⟩:=I.lW 8 [.s (b.cut 0 (lK (s.aR.set (ix w) ⟨0,0,[]⟩) (s.aR.set (ix w) ⟨0,0,[]⟩).length) 3)]
   refine⟨false,O,af,_,b.cut 0 (lK (s.aR.set (ix w) ⟨0,0,[]⟩) (s.aR.set (ix w) ⟨0,0,[]⟩).length) 3,?_,((t2.J N).J P).J R⟩
   rw[iZ,bn x];exact L
  .simp only[ba]at x
   have T:eI ((bz s.aR w).bS -1)=(bz s.aR w).bS -1:=iz
   refine⟨_,W,S.eH.aR.wr (o:=0) H cD,?_⟩
   rw[T]
   intro m2
   let⟨D,F⟩:=S.eH.aR.xE S.eH.bF A ((bz s.aR w).bS -1)
   let⟨f1,k0,k1,k2,kf,kr⟩:=D.dx (lz A)
   simp only[]at kf kr
   have aG:=kf.aT
   refine⟨f1,k2,?_⟩
   have ae:∀{z},dI (λu=>u=3) e C e z->aS z j 8=some b.v:=λhc=>by rw[bE (hc.fQ _ S.eH.bV.lt (by rw[S.eH.YH];decide))];exact g8
   have ah:∀v∈(bz s.aR w).bJ,1000<=v->iI (iU s.aR w) v:=λv B b=>Yu aa x (K.qd (aZ A) B b)
   have av:∀R∈iU s.aR w,-10<=R.bS/\R.bS<=999999:=λR hq=>by
    rcases rW hq with rfl|⟨E,_,L⟩
    .simp only[];omega
    .have:=K.gZ R (aZ L);have h5:=this.lo;have Y:=this.hi;omega
   refine gP (n:=(bz s.aR w).bJ.length) V (λu z=>gB k.size e z b (kV (iU s.aR w) (oC ((bz s.aR w).bJ.take u)))/\dI (λu=>u=3) e C e z/\be z f1 (bz s.aR w).bJ) ⟨D,F,kf⟩ ?_
   rintro u m3 aB μ y ⟨N,G,ak⟩ al
   refine dit (λh5=>?_) λh5=>?_
   .let⟨v,B⟩:=dU ((bz s.aR w).bJ) u
    have aA:v<=9223372036854775807:=by
     rcases gJ (1000<=v)with Y|Y
     .have:=br (dz (K.qd (aZ A) (aZ B) Y)).1;unfold ix at this;omega
     .omega
    have az:(kV (iU s.aR w) (oC ((bz s.aR w).bJ.take u))).length=s.aR.length:=by rw[Al];simp[iU]
    have ax:1000<=v->iI (kV (iU s.aR w) (oC ((bz s.aR w).bJ.take u))) v:=λb=>P6 _ _ (λM I=>ah M (gW (nT.1 I).1) (nT.1 I).2) v (ah v (aZ B) b)
    refine⟨V,V,v,by simpa using ak.bt B,b,ae G,(kL (N.jH (by rw[az];omega)) aA).aP ?_⟩
    rintro _ m4 ⟨an,E,rfl,L,ar,X⟩
    have I:dI (λu=>u=3) e C e m4:=G.J (dI.fB X G.bF)
    have P:=N.fN (dI.fB (p:=λ_=>False) X G.bF) id id
    have ab:=ak.ext X
    refine⟨an,E,O,λad=>?_,λau=>al V _ ⟨?_,I,ab⟩⟩
    .have ag:=L.1 ad
     have aq:=ar ad
     subst aq
     let⟨M,aK⟩:=dz ag
     have ay:=br M
     obtain⟨f4,j0,_⟩:=P.dx M
     have aC:=EB _ _ 999999 av _ (aZ M)
     have aL:=rZ ((bz s.aR w).bJ.take u)
     have aN:((bz s.aR w).bJ.take u).length<=3:=eX
     have U:eI ((bz (kV (iU s.aR w) (oC ((bz s.aR w).bJ.take u))) v).bS+1)=(bz (kV (iU s.aR w) (oC ((bz s.aR w).bJ.take u))) v).bS+1:=iz
     have ap:Int.toNat ((ix v:Nat):Int)=ix v:=V
     refine⟨b,ae I,?_⟩
     rw[ap]
     refine⟨V,V,_,j0,V,V,P.wr (o:=0) ay cD,?_⟩
     rw[U]
     let⟨Z,J⟩:=P.xE I.bF M ((bz (kV (iU s.aR w) (oC ((bz s.aR w).bJ.take u))) v).bS+1)
     refine al V _ ⟨?_,I.J J,km ab λQ=>J.fQ _ (lx ab Q) (by rw[(kr Q).1];decide)⟩
     have:oC [v]=[v]:=by simp[oC,ag.1]
     rw[bX B,sY,this,IS]
     exact Z
    .have J:¬1000<=v:=λb=>fb L au (ax b)
     have:oC [v]=[]:=by simp[oC];omega
     rw[bX B,sY,this,fO];exact P
   .rw[eQ V]at N
    let⟨I,t3⟩:=S.jS (G.aP λu y=>bC y) N
    refine⟨false,O,af,e,b,?_,t3⟩
    rw[iZ,aW x];exact I
def NZ(S:ST k e m j cQ (IB d l c s cw b g) cw b g s.cw s.aR i a r t h q){x:Instr}{U ag:E}(ha:be k U x.aO)(ae:∀y∈x.aO,0<=y/\y<a.aU.length)(ai:x.aO.length<=4)(h5:x.op=5->x.aO.length=1)(h2:x.op≠0->x.op≠5->x.aO.length=2)(X:x.op≠0->∀y∈x.aO,lg (bt a.aU y))
 (aj:a.aU.length=a.bI.length/\a.cC.length=a.bI.length/\a.bI.length<=2000)(hd:0<=x.bH/\x.bH<a.bI.length)(al:s.cw.length<=1000000000):
 bK dO 91 [vp j 0,vp g.bu (g.off+i.length*6),xv x U ag] m λ_ o=>Gp k e m j d l c (if x.op=0 then{s with bq:=i++[a.cG x.bH x.cE 0]}else if x.op=5 then{s with cw:=s.cw++[bt a.aU (bt x.aO 0)],bq:=i++[a.cG x.bH (bt a.aU (bt x.aO 0)) 0]}else{s with bq:=i++[a.cG x.bH (Tw x.op (bt a.aU (bt x.aO 0)) (bt a.aU (bt x.aO 1))) 0]}) o:=by
 apply xk (j,0) (g.bu,g.off+i.length*6)
 simp -zeta only[dR]
 intro Z
 obtain⟨af,s1⟩:=pu Z
 let⟨C,t1⟩:=S.ext af
 have N:AW e Z [m.size]:=λW w=>by simp at w;subst w;exact⟨V,S.eH.bF _ bY⟩
 have R:=C.fp ⟨V,V,V⟩
 refine(zp R.g3 R.aU (ha.ext C.eH.cV) ae V).aP ?_
 rintro _ p ⟨ws,rfl,ow,ad⟩
 let⟨u,t2⟩:=C.ext ad
 have B:=N.to t2
 have am:(dQ a x.aO).length=x.aO.length:=by simp[dQ]
 have y:be p ws (dQ a x.aO):=by grind [be.jA]
 have an:=y.aT
 have ac:=t1.J t2
 have L:∀{z:Nat},z<x.aO.length->(dQ a x.aO)[z]? =some (bt a.aU (bt x.aO z)):=λ{z} hk=>by
  grind [gD,dQ,adB]
 have ab:∀{M:bh}(Y:D p M)(A:Int),bK dO 92 [vp g.bu (g.off+i.length*6),vi x.bH,vi A,vi 0] M λ_ o=>gS [m.size] M o/\Gp k e m j d l c {s with bq:=i++[a.cG x.bH A 0]} o:=λY A=>by
  let⟨SM,tM⟩:=u.ext Y;refine(uY SM hd.1 V hd.2 A 0).aP ?_;rintro _ o ⟨S',t'⟩;exact⟨t'.fS (B.to tM),e,cw,b,g,S'.eH,(ac.J tM).J t'⟩
 refine⟨t2.fS N,ws,O,λn=>?_,λf=>⟨λn=>?_,λG=>?_⟩⟩
 .simp at n;rw[bn n];exact ab cY _
 .simp at f n
  rw[aW f,bn n]
  have h1:=h5 n
  have ak:(E.len cw)=s.cw.length:=by have:=u.eH.cw.aT;simp at this;omega
  refine⟨V,V,_,y.bt (L V),cw,u.eH.bV.dx 7,?_⟩
  intro H
  have v:=px H
  have mu:jF H p.size 0 [.i (bt a.aU (bt x.aO (0:Int)))]:=(dF.push p _ _).kY
  let⟨F,t3⟩:=u.ext v
  have P:=B.to t3
  refine iE.fw F.eH.cw F.eH.bF O mu (by simp only[E.ku];omega) λaa I m4 q1 q2=>?_
  have ah:iE aa m4 bB 1 2 I ((s.cw++[bt a.aU (bt x.aO 0)]).map Ce.i):=sp q1
  let⟨T,J⟩:=F.QB q2 ah
  have Q:=P.to J
  refine⟨J.fS P,T.eH.pQ bO,?_⟩
  intro m5
  let⟨S5,K⟩:=T.lW 7 [.s I]
  refine⟨K.fS Q,(uY S5 hd.1 V hd.2 (bt a.aU (bt x.aO 0)) 0).aP ?_⟩
  rintro _ m6 ⟨S6,t6⟩
  exact⟨t6.fS (Q.to K),aa,I,b,g,S6.eH,(((ac.J t3).J J).J K).J t6⟩
 .simp at f G
  rw[aW f,aW G]
  have h1:=h2 f G
  refine⟨V,V,_,y.bt (L V),V,V,_,y.bt (L V),?_⟩
  refine(Th (X f _ (iS V V)) (X f _ (iS V V)) p).aP ?_
  rintro _ H ⟨rfl,v⟩
  exact⟨v.eW (λW w=>(B W w).1),_,O,ab v _⟩
end
section
variable{b1 b2 b3 t F:Nat}{C:da}{g:Int}{q:eE}{k:bh}{l:ab}
section
variable{z:bh}{u:ag}{e:bh}{v:Nat}{d y cw A j:E}{c:Int}{s:St}{b:an}{a:bW}{B G h:E}{H:List ae}
def Ti(S:ST z u e v cQ (IB d y c s cw A j) cw A j s.cw s.aR b a B G h H){x:Instr}{o an:E}(X:be z o x.aO)(ar:∀f∈x.aO,0<=f/\f<a.aU.length)(ap:1<=x.aO.length/\x.aO.length<=4)
 (ax:a.aU.length=a.bI.length/\a.cC.length=a.bI.length/\a.bI.length<=2000)(ak:s.aR.length<=1000000000)(ad:∀q∈a.bI,0<=q/\q<=999999)
 (al:iI s.aR (bt a.aU (bt x.aO 0))){af:Nat->Int}(hI:jd s.aR af){P:Int}(aA:a.pc=P+1):
 bK dO 97 [vp v 0,vp j.bu (j.off+b.length*6),xv x o an] e λ_ k=>Gp z u e v d y c (xB s b {a with pc:=P} x) k:=by
 apply Aa (v,0) (j.bu,j.off+b.length*6)
 simp -zeta only[dR]
 intro m1
 obtain⟨am,s1⟩:=pu m1
 let⟨N,t1⟩:=S.ext am
 have B1:AW u m1 [e.size]:=λab I=>by simp at I;subst I;exact⟨V,S.eH.bF _ bY⟩
 have aB:B.len=a.aU.length:=by have:=S.jN.aU.aT;simp at this;omega
 have az:G.len=a.bI.length:=by have:=S.jN.bI.aT;simp at this;omega
 have aw:h.len=a.cC.length:=by have:=S.jN.cC.aT;simp at this;omega
 have aq:=X.aT
 have ao:=X.ms
 have F:0<=bt x.aO 0/\bt x.aO 0<a.aU.length:=by grind [iS]
 have ga:∀{k},D z k->aS k o.bu (o.off+Int.toNat (0:Int)*1)=some (vi (bt x.aO 0)):=λhx=>(X.ext hx).tB V V
 obtain⟨_,_,_,g3,_,_⟩:=N.jN.kY
 generalize hw:bt a.aU (bt x.aO 0)=w at*
 refine⟨B,g3,V,V,_,ga N.eH.cV,F.1,V,w,by rw[<-hw];exact(N.ED V).tB F.1 F.2,(HU N al (x.op==17) hI ak).aP ?_⟩
 rintro _ m2 ⟨ab,rfl,I,p,J,L,t2⟩
 have Q:=B1.to t2
 have ag:(x.op==17)=true<->x.op=17:=bO
 rw[ag]at I
 have e1:Int.toNat (1:Int)=1:=rfl
 have e2:Int.toNat (o.len:Int)=o.len:=V
 have Y:∀{k},D z k->be k (E.cut o 1 o.len 1) (x.aO.drop 1):=by grind [aaF,be.ext]
 have au:(E.cut o 1 o.len 1).len=x.aO.length -1:=by have:=(Y (D.cT z)).aT;simp at this;omega
 have av:(x.aO.drop 1).length=x.aO.length -1:=bO
 have ac:∀f∈x.aO.drop 1,0<=f/\f<a.aU.length:=by grind [List.mem_of_mem_drop]
 rw[e1,e2]
 refine⟨t2.fS B1,ab,O,λaj=>?_,λai=>?_⟩
 .obtain⟨_,_,_,_,_,g5⟩:=L.jN.kY
  have hh:=I.1 aj
  refine⟨h,g5,V,V,_,ga L.eH.cV,F.1,V,L.jN.cC.SA F.1 V,?_⟩
  intro m3
  let⟨S3,t3⟩:=L.Gh F.1 V w
  refine⟨t3.fS Q,V,V,V,?_⟩
  refine gP (n:=(x.aO.drop 1).length) V (λg k=>ST z p k v cQ (IB d y c s cw J j) cw J j s.cw (vA s.aR w (x.op==17)) b {a with cC:=gX a.cC (bt x.aO 0) w,bI:=fe a.bI ((x.aO.drop 1).take g)} B G h H/\To u e p k/\AW p k [e.size]) ⟨by rw[List.take_zero];exact S3,(t1.J t2).J t3,(Q.to t3)⟩ ?_
  rintro g m4 ae μ hk ⟨l,M,K⟩ aa
  have Z:∀q∈fe a.bI ((x.aO.drop 1).take g),0<=q/\q<=1000010:=λq hq=>by
   have:=uI _ a.bI 999999 V ad q hq;have h3:((x.aO.drop 1).take g).length<=4:=cB;omega
  refine dit (λW=>?_) λW=>?_
  .let⟨f,r⟩:=dU (x.aO.drop 1) g
   have m:=ac f (aZ r)
   have t:f<(fe a.bI ((x.aO.drop 1).take g)).length:=by grind [uW]
   have ah:=JY (i:=f) Z V
   have T:eI (bt (fe a.bI ((x.aO.drop 1).take g)) f+1)=bt (fe a.bI ((x.aO.drop 1).take g)) f+1:=by grind [de]
   obtain⟨_,_,_,_,U,_⟩:=l.jN.kY
   refine⟨V,V,f,by simpa using(Y l.eH.cV).bt r,G,U,m.1,V,_,(l.NG cB).tB m.1 t,m.1,V,l.jN.bI.SA m.1 t,?_⟩
   rw[T]
   intro m5
   let⟨R,C⟩:=l.tV m.1 t (bt (fe a.bI ((x.aO.drop 1).take g)) f+1)
   refine⟨C.fS K,aa V _ ⟨?_,M.J C,K.to C⟩⟩
   rw[bX r,wu];exact R
  .rw[eQ V]at l
   refine⟨p,cw,J,j,?_,M⟩
   have:xB s b {a with pc:=P} x={s with aR:=vA s.aR w (x.op==17),bq:=b++[{a with cC:=gX a.cC (bt x.aO 0) w,bI:=fe a.bI (x.aO.drop 1)}]}:=by
    grind [xB,vA]
   grind [ST.eH]
 .have ay:¬((bz s.aR w).bS=1/\x.op=17):=λhh=>by have:=I.2 hh;rw[ai]at this;simp at this
  refine⟨V,V,V,?_⟩
  refine gP (n:=(x.aO.drop 1).length) V (λg k=>ST z p k v cQ (IB d y c s cw J j) cw J j s.cw (vA s.aR w (x.op==17)) b {a with bI:=fe a.bI ((x.aO.drop 1).take g)} B G h H/\To u e p k/\AW p k [e.size]) ⟨by simpa[fe]using L,t1.J t2,Q⟩ ?_
  rintro g m4 ae μ hk ⟨l,M,K⟩ aa
  have Z:∀q∈fe a.bI ((x.aO.drop 1).take g),0<=q/\q<=1000010:=λq hq=>by
   have:=uI _ a.bI 999999 V ad q hq;have h3:((x.aO.drop 1).take g).length<=4:=cB;omega
  refine dit (λW=>?_) λW=>?_
  .let⟨f,r⟩:=dU (x.aO.drop 1) g
   have m:=ac f (aZ r)
   have t:f<(fe a.bI ((x.aO.drop 1).take g)).length:=by grind [uW]
   have ah:=JY (i:=f) Z V
   have T:eI (bt (fe a.bI ((x.aO.drop 1).take g)) f+1)=bt (fe a.bI ((x.aO.drop 1).take g)) f+1:=by grind [de]
   obtain⟨_,_,_,_,U,_⟩:=l.jN.kY
   refine⟨V,V,f,by simpa using(Y l.eH.cV).bt r,G,U,m.1,V,_,(l.NG cB).tB m.1 t,m.1,V,l.jN.bI.SA m.1 t,?_⟩
   rw[T]
   intro m5
   let⟨R,C⟩:=l.tV m.1 t (bt (fe a.bI ((x.aO.drop 1).take g)) f+1)
   refine⟨C.fS K,aa V _ ⟨?_,M.J C,K.to C⟩⟩
   rw[bX r,wu];exact R
  .rw[eQ V]at l
   refine⟨p,cw,J,j,?_,M⟩
   have:xB s b {a with pc:=P} x={s with aR:=vA s.aR w (x.op==17),bq:=b++[{a with bI:=fe a.bI (x.aO.drop 1)}]}:=by
    grind [xB,vA]
   grind [ST.eH]
def rP.Qg{u:ag}{e:bh}:rP u e .nil []:=⟨[],iE.jA (jw.gN e e _ _) (λa=>absurd O a),O,bO,bO⟩
def LV(S:ST z u e v cQ (IB d y c s cw A j) cw A j s.cw s.aR b a B G h H)(ae:b.length<=100000)(w:Int)(U:∀g,b.getLast?=some g->0<=a.bH/\a.bH<g.aU.length/\a.bH<g.bI.length):
 bK dO 102 [vp v 0,vi w] e λ_ k=>Gp z u e v d y c (match b.getLast? with|none=>{s with eC:=0,iQ:=w,bq:=[]}|some g=>{s with bq:=b.dropLast++[g.cG a.bH w (iV w)]}) k:=by
 apply wC (v,0)
 simp -zeta only
 have x:=S.jN.Eb
 have ab:=S.jN.qB.le
 have J:eI ((j.len:Int) -1)=(b.length:Int):=by grind [de]
 have K:Int.toNat (b.length:Int)=b.length:=V
 have p:aS e v 9=some j.v:=S.eH.bV.dx 9
 obtain⟨_,_,g2,_,_,_⟩:=S.jN.kY
 refine⟨j,p,j,p,?_⟩
 rw[J,K]
 refine⟨V,V,a.bH,g2,j,p,V,V,V,S.eH.pQ (i:=9) bO,?_⟩
 intro C
 let⟨o,t2⟩:=S.eH.lW 9 [.s (j.cut 0 b.length 6)]
 obtain⟨f,_⟩:=o.mE (dI.cT _ o.bF) o.bq.pop
 have ac:(j.cut 0 b.length 6).len=b.length:=by
  cases j with
  |nil=>simp at x
  |DG n D sp=>simp at x
  |mk n D l c=>simp[E.cut]
 refine⟨λN=>?_,λN=>?_⟩
 .have I:b=[]:=cB
  subst I
  refine⟨f.pQ (i:=3) (by simp[nU]),?_⟩
  intro Y
  let⟨n,t3⟩:=f.lW 3 [.i 0]
  refine⟨n.pQ (i:=4) (by simp[nU]),?_⟩
  intro Z
  let⟨r,q⟩:=n.lW 4 [.i w]
  refine⟨r.pQ (i:=9) (by simp[nU]),?_⟩
  intro L
  let⟨t,M⟩:=r.lW 9 [.s .nil]
  obtain⟨F,_⟩:=t.mE (dI.cT _ t.bF) (rP.Qg (u:=u) (e:=L))
  exact⟨u,cw,A,.nil,F,((t2.J t3).J q).J M⟩
 .have X:b≠[]:=cB
  have af:b.length≠0:=by grind [List.length_eq_zero_iff]
  obtain⟨g,t⟩:∃g,b.getLast?=some g:=⟨_,rB X⟩
  let⟨P,Q,R⟩:=U g t
  rw[t]
  simp only[]
  have W:b=b.dropLast++[g]:=by
   grind [List.getLast?_eq_some_getLast,List.dropLast_concat_getLast]
  have n:wR z u C v cQ (IB d y c s cw A (j.cut 0 b.length 6)) cw A (j.cut 0 b.length 6) s.cw s.aR (b.dropLast++[g]):=
   ⟨f.cV,f.mq,f.bF,f.bV,f.YH,f.cw,f.aR,by rw[<-W];exact f.bq⟩
  let⟨r',D,h',aa,T⟩:=n.bq.jN
  have ad:b.dropLast.length=b.length -1:=bO
  have L:eI ((b.length:Int) -1)=((b.length -1:Nat):Int):=by grind [de]
  have M:Int.toNat ((b.length -1:Nat):Int)=b.dropLast.length:=V
  refine⟨j.cut 0 b.length 6,n.bV.dx 9,?_⟩
  rw[L,M]
  refine⟨V,V,(qK w C).aP ?_⟩
  rintro _ Y ⟨rfl,r⟩
  let⟨F,t3⟩:=(ST.mk n T).ext r
  refine⟨_,O,r.cZ (n.bV.dx 9),(uY F P Q R w (iV w)).aP ?_⟩
  rintro _ Z ⟨I,q⟩
  exact⟨u,cw,A,_,I.eH,(t2.J t3).J q⟩
end
def ad5{e M:bh}(f:D e M){nb:Nat}(j:e.size<=nb)(n:nb<M.size)(t:Nat){d:ae}
 (a:(b1=M.size\/b1=M.size+1\/b1=M.size+2)/\(b2=M.size\/b2=M.size+1\/b2=M.size+2)/\(b3=M.size\/b3=M.size+1\/b3=M.size+2)/\b1≠b2/\b1≠b3/\b2≠b3):
 tv e (aV (((M.push (.cells (db (na [.i (0:Int)] t)) 3)).push (.cells (db (na [.i (0:Int)] t)) 3)).push (.cells (db (na [.i (0:Int)] t)) 3)) nb 0 d) b1 b2 b3 t (eP t) (eP t) (eP t):=by
 rw[pI]
 generalize g:M.push (.cells (db ((eP t).map Ce.i)) 3)=m2
 generalize h:m2.push (.cells (db ((eP t).map Ce.i)) 3)=m3
 generalize i:m3.push (.cells (db ((eP t).map Ce.i)) 3)=m4
 have r:m2.size=M.size+1:=cB
 have s:m3.size=M.size+2:=cB
 have u:m4.size=M.size+3:=cB
 have k:D M m2:=g▸D.push _ _
 have l:D m2 m3:=h▸D.push _ _
 have m:D m3 m4:=i▸D.push _ _
 have o:dF m4 M.size bB ((eP t).map Ce.i):=by grind [dF.push,dF,Array.size,eP,List.map,dF.ext]
 have p:dF m4 m2.size bB ((eP t).map Ce.i):=by grind [dF.push,dF,Array.size,eP,List.map,dF.ext]
 have q:dF m4 m3.size bB ((eP t).map Ce.i):=by grind [dF.push]
 have c:∀b,(b=M.size\/b=M.size+1\/b=M.size+2)->dF (aV m4 nb 0 d) b bB ((eP t).map Ce.i):=λb a=>by
  grind [dF,eP,List.map,dF.congr,cq]
 exact⟨(f.J ((k.J l).J m)).aV j _ _,by have:=f.aQ;rw[bD];omega,c _ a.1,c _ a.2.1,c _ a.2.2.1,by simp[lG]⟩
def Ad{e:bh}{d y:E}(f:gY e d y C)(j:0<=g)(h:C.di[g.toNat]? =some q)(a:0<=q.aU/\q.aU<=2000)(c:Int):
 bK dO 49 [.agg #[d.v,y.v],vi g,vi c] e λv k=>∃b1 b2 b3,v=.agg #[vi g,vi 0,vi c,E.v (.mk b1 0 q.aU.toNat q.aU.toNat),E.v (.mk b2 0 q.aU.toNat q.aU.toNat),E.v (.mk b3 0 q.aU.toNat q.aU.toNat)]/\
  tv e k b1 b2 b3 q.aU.toNat (eP q.aU.toNat) (eP q.aU.toNat) (eP q.aU.toNat):=by
 apply GF
 simp -zeta only[dR]
 intro m b
 have i:D e b:=((D.cT e).bZ _).bZ _
 have z:=pz m
 have A:b.size=e.size+2:=cB
 have t:=f.di.aT
 have s:=br h
 obtain⟨p,u,r,_,_,_,_,_,_,l,_⟩:=(f.ext i).di.bt h
 refine⟨j,V,q.aU,l,⟨a.1,dT _,V,V,?_⟩,⟨a.1,dT _,V,V,?_⟩,⟨a.1,dT _,V,V,?_⟩⟩
 all_goals
  intro n
  refine⟨⟨a.1,dT _,V,V,?_⟩,⟨a.1,dT _,V,V,?_⟩⟩
  all_goals
   intro o
   refine⟨a.1,dT _,V,V,?_⟩
   intro w x
   have B:=pz n
   have F:o.size=b.size+2:=cB
   exact⟨_,_,_,O,ad5 i V V q.aU.toNat V⟩
def tv.IW{e:bh}{aU bI cC:ab}(N:tv e k b1 b2 b3 t aU bI cC)(b:F<t)(v:Int):jb k b1 F 1/\tv e (aV k b1 F [.i v]) b1 b2 b3 t (aU.set F v) bI cC:=by
 have a:=N.lo;refine⟨N.kr.jb cB,N.ext.aV a.1 _ _,by rw[bD];exact a,?_,N.ko.congr (cq _ _ _ _ V),N.kh.congr (cq _ _ _ _ V),by simp[N.aT]⟩;have:=dF.aV (m:=k) (o:=F) (r:=[.i v]) N.kr;grind [Ao]
def tv.tV{e:bh}{aU bI cC:ab}(N:tv e k b1 b2 b3 t aU bI cC)(b:F<t)(v:Int):jb k b2 F 1/\tv e (aV k b2 F [.i v]) b1 b2 b3 t aU (bI.set F v) cC:=by
 have a:=N.lo;refine⟨N.ko.jb cB,N.ext.aV a.2.1 _ _,by rw[bD];exact a,N.kr.congr (cq _ _ _ _ V),?_,N.kh.congr (cq _ _ _ _ V),by simp[N.aT]⟩;have:=dF.aV (m:=k) (o:=F) (r:=[.i v]) N.ko;grind [Ao]
def Cr(df:ab):∀(l B:ab)(k:Nat),fI df k (l++B)=fI df k l++fI df (k+l.length) B
 |[],B,k=>by simp[fI]
 |a::l,B,k=>by
  have:=Cr df l B (k+1);grind [fI,List.length_cons,List.length]
theorem Q7{k:Nat}(h:k<t):eP (t -k)=0::eP (t -(k+1)):=by
 have:t -k=(t -(k+1))+1:=V;rw[this];rfl
theorem abG(h:l.length<t)(v:Int):(l++eP (t -l.length)).set l.length v=(l++[v])++eP (t -(l.length+1)):=by
 grind [Q7]
theorem adQ(h:l.length<t):l++eP (t -l.length)=(l++[0])++eP (t -(l.length+1)):=by
 grind [Q7]
variable{z:bh}{u:ag}{e:bh}{v:Nat}{d y cw A j:E}{c:Int}{s:St}{b:an}{a:bW}{B G h:E}{H:List ae}
def Kg(T:ST z u e v cQ (IB d y c s cw A j) cw A j s.cw s.aR b a B G h H)(av:gY z d y C)(aj:0<=g)(hq:C.di[g.toNat]? =some q)(ax:0<=q.aU/\q.aU<=2000){X:E}{o:ab}(hw:be e X o)(aR:o≠[]->u X.bu=0)(aU:(o.length:Int)<=q.aU)(S:Instr)(aa az:E)
 (aH:b.length<=10000)(aF:0<=s.dg/\s.dg<=100000):
 bK dO 100 [vp v 0,vi g,X.v,xv S aa az] e λ_ k=>Gp z u e v d y c {s with dg:=s.dg+1,bq:=if S.op=24 then b++[cz C g a.bH o]else b++[a,cz C g S.bH o]} k:=by
 apply zZ (v,0)
 simp -zeta only[dR]
 intro m1
 obtain⟨ay,s1⟩:=pu m1
 let⟨Z,t1⟩:=T.ext ay
 have B1:AW u m1 [e.size]:=λr w=>by simp at w;subst w;exact⟨V,T.eH.bF _ bY⟩
 have aG:=T.jN.Eb
 have aE:=T.jN.qB.le
 have e0:eI (s.dg+1)=s.dg+1:=by grind [de]
 have ao:eI ((j.len:Int) -1)=(b.length:Int):=by grind [de]
 have e2:Int.toNat (b.length:Int)=b.length:=V
 refine⟨s.dg,Z.eH.bV.dx 5,Z.eH.pQ (i:=5) bO,?_⟩
 rw[e0]
 intro m2
 let⟨Q,t2⟩:=Z.lW 5 [.i (s.dg+1)]
 replace Q:ST z u m2 v cQ (IB d y c {s with dg:=s.dg+1} cw A j) cw A j s.cw s.aR b a B G h H:=Q
 replace t2:To u m1 u m2:=t2
 have B2:=B1.to t2
 have g9:aS m2 v 9=some j.v:=Q.eH.bV.dx 9
 obtain⟨_,_,g2,_,_,_⟩:=Q.jN.kY
 refine⟨t2.fS B1,j,g9,?_⟩
 rw[ao,e2]
 have aC:=t1.J t2
 refine⟨λI k=>∃J U,wR z u k v cQ (IB d y c {s with dg:=s.dg+1} cw A U) cw A U s.cw s.aR J/\To u e u k/\AW u k [e.size]/\J.length<=10001/\(if S.op=24 then b++[cz C g a.bH o]else b++[a,cz C g S.bH o])=J++[cz C g I o],⟨λac=>?_,λac=>?_⟩,?_⟩
 .simp at ac
  refine⟨j,g9,V,V,a.bH,g2,j,g9,V,V,V,Q.eH.pQ (i:=9) bO,?_⟩
  intro L
  let⟨t,t3⟩:=Q.eH.lW 9 [.s (j.cut 0 b.length 6)]
  obtain⟨m,_⟩:=t.mE (dI.cT _ t.bF) t.bq.pop
  refine⟨t3.fS B2,b,j.cut 0 b.length 6,m,aC.J t3,B2.to t3,V,?_⟩
  rw[bn ac]
 .grind [ST.eH]
 rintro I L ⟨J,U,t,t3,B3,hX,ar⟩
 rw[ar]
 have aQ:dG C g=q:=by grind [dG]
 have af:=av.ext t.cV
 refine⟨d,t.bV.dx 0,y,t.bV.dx 1,(Ad af aj hq ax I).aP ?_⟩
 rintro _ N ⟨b1,b2,b3,rfl,Y⟩
 have aM:=Y.lo
 have aq:∀r∈[e.size],r<L.size:=λr w=>(B3 r w).1
 have aO:e.size<L.size:=cB
 refine⟨Y.ext.eW aq,_,_,_,_,_,_,O,?_⟩
 intro m5 m6
 have ap:D N m6:=by grind [D.cT,D.bZ,D.aV]
 have s6:m6.size=N.size+1:=by grind [bD]
 have N6:=Y.LO ap
 have aT:=hw.aT
 have iw:∀{M},D L M->be M X o:=by grind [km,dI.fQ,lx,be.ext]
 obtain⟨pa,pl,pc,_,au,_,_,k1,_,_,_⟩:=af.di.bt hq
 have aN:=br hq
 have aP:=af.di.aT
 have aL:∀(m:Nat),(q.df.any λF=>F==(m:Int))=true<->(m:Int)∈q.df:=cB
 simp -zeta only[E.lT,E.vL,E.ku,eV]
 refine gP (n:=o.length) V (λm k=>tv L k b1 b2 b3 q.aU.toNat (o.take m++eP (q.aU.toNat -m)) (fI q.df 0 (o.take m)++eP (q.aU.toNat -m)) (eP q.aU.toNat)/\N.size<k.size) ⟨by simpa[fI]using N6,V⟩ ?_
 rintro m P aD μ hk ⟨R,s7⟩ aB
 have wH:∀{ma mc:bh},(∀r,r=N.size\/r=e.size->mc[r]? =ma[r]?)->gS [N.size,e.size] ma mc:=λhh r w=>hh r cB
 have tk:(o.take m).length=m:=cB
 have aW:(fI q.df 0 (o.take m)).length=m:=by rw[mf,tk]
 refine dit (λh1=>?_) λh1=>?_
 .let⟨F,hy⟩:=dU o m
  have ek:Int.toNat (m:Int)*1=m:=V
  have ah:m<q.aU.toNat:=V
  let⟨w8,K⟩:=R.IW ah F
  have er:(o.take m++eP (q.aU.toNat -m)).set m F=o.take (m+1)++eP (q.aU.toNat -(m+1)):=by
   grind [abG,List.take,bX]
  rw[er]at K
  have eo:fI q.df 0 (o.take (m+1))=fI q.df 0 (o.take m)++[if q.df.any (λF=>F==(m:Int))then 0 else iV F]:=by
   rw[bX hy,Cr,tk];simp[fI]
  refine⟨V,V,F,by simpa using(iw R.ext).bt hy,V,V,?_⟩
  rw[ek]
  refine⟨w8,?_⟩
  intro m8
  have s8:m8.size=P.size:=bD _ _ _ _
  refine⟨wH λr w=>cq _ _ _ _ V,?_⟩
  replace K:tv L m8 b1 b2 b3 q.aU.toNat (o.take (m+1)++eP (q.aU.toNat -(m+1))) (fI q.df 0 (o.take m)++eP (q.aU.toNat -m)) (eP q.aU.toNat):=K
  refine⟨y,K.ext.aS (t.bV.dx 1),aj,V,pl,K.ext.aS k1,(lE (au.ext K.ext) _).aP ?_⟩
  rintro _ m9 ⟨r,rfl,w,ad⟩
  have N9:=K.LO ad
  have s9:=ad.aQ
  refine⟨ad.eW cB,r,O,λan=>?_,λam=>?_⟩
  .refine(qK F m9).aP ?_
   rintro _ aw ⟨rfl,W⟩
   have aA:=W.aQ
   let⟨al,ag⟩:=(N9.LO W).tV ah (iV F)
   have ai:(fI q.df 0 (o.take m)++eP (q.aU.toNat -m)).set m (iV F)=fI q.df 0 (o.take (m+1))++eP (q.aU.toNat -(m+1)):=by
    grind [abG,fI,List.take,iV]
   rw[ai]at ag
   refine⟨W.eW cB,_,O,bE (W.bG N.size V) 4,V,V,al,?_⟩
   intro ak
   refine⟨wH λr w=>cq _ _ _ _ V,aB V _ ⟨ag,by simp only[ak,bD];omega⟩⟩
  grind [adQ,fI,List.take]
 .have aw:m=o.length:=V
  subst aw
  rw[fu]at R
  have hc:dI (λ_=>False) u L (qx u b1 b2 b3 J.length) P:=R.fN t.bF
  let⟨a1,a2,a3⟩:=R.qB (q:=u) (v:=J.length)
  let⟨F,t7⟩:=t.jS (hc.aP λ_=>False.elim) (t.aR.fN hc id id)
  have B7:AW (qx u b1 b2 b3 J.length) P [N.size,e.size]:=λr w=>by
   simp at w;refine⟨V,?_⟩;unfold qx;rw[fK V,fK V,fK V];rcases w with rfl|rfl
   .exact t.bF _ V
   .exact(B3 _ bO).2
  refine⟨U,F.bV.dx 9,?_⟩
  intro ad
  have W:=px ad
  have mu:jF ad P.size 0 [.i g,.i 0,.i I,.s (.mk b1 0 q.aU.toNat q.aU.toNat),.s (.mk b2 0 q.aU.toNat q.aU.toNat),.s (.mk b3 0 q.aU.toNat q.aU.toNat)]:=(dF.push P _ _).kY
  let⟨K,al⟩:=F.ext W
  have ah:=B7.to al
  have ch:=λ{m:Nat}{s:E}{l:ae}(aa:iE (qx u b1 b2 b3 J.length) P bB 1 m s l)=>aa.fN (dI.fB (p:=λ_=>False) W F.bF) id
  have aK:(cz C g I o).aU=o++eP (q.aU.toNat -o.length):=by grind [cz]
  have aJ:(cz C g I o).bI=fI q.df 0 o++eP (q.aU.toNat -o.length):=by grind [cz]
  have aI:(cz C g I o).cC=eP q.aU.toNat:=by grind [cz]
  refine⟨W.cZ (F.bV.dx 9),rP.push K.bq K.bF (x:=.mk P.size 0 1 1) O (f:=cz C g I o) mu cB cB cB V λak qs aA q1 q2=>?_⟩
  have ag:To _ ad ak aA:=q2.aP λm hk=>V
  let⟨ai,aX⟩:=K.mE (q2.aP λm hk=>V) q1
  refine⟨ag.fS ah,ai.pQ (i:=9) bO,?_⟩
  intro aV
  let⟨an,am⟩:=ai.lW 9 [.s qs]
  exact⟨am.fS (ah.to ag),ak,cw,A,qs,an,(((t3.J t7).J al).J ag).J am⟩
end
section
def QZ(aU:ab):∀(a bI:ab)(n:Int),(∀q∈bI,n<=q)->∀q∈cL aU bI a,n -a.length<=q
 |[],bI,n,h,q,b=>by have:=h q b;simp;omega
 |r::a,bI,n,h,q,b=>by
  have j:∀d,(∀q∈d,n -1<=q)->q∈cL aU d a->n -(r::a).length<=q:=λd f c=>by
   have:=QZ aU a d (n -1) f q c;grind [List.length_cons]
  rw[cL]at b;refine j _ (λk c=>?_) b;split at c
  .rcases tO c with g|g
   .rcases dJ r.toNat bI.length with e|e
    .let⟨y,i⟩:=gD e;have:=h y (aZ i);grind [Ps]
    grind [gX,bt,List.set_eq_of_length_le]
   grind
  .grind
variable{q:bh}{g:ag}{m:bh}{k:Nat}{d p cw j c:E}{a:St}{b:an}{f:bW}{r t h:E}{u:List ae}
def Wq{y:da}{v:Instr}(C:vW y a b f v){bI:ab}(aE:bI=cL f.aU f.bI (cO y v))(hM:pb y a f v bI)
 (ac:ST q g m k cQ (IB d p (cF y) a cw j c) cw j c a.cw a.aR b f r t h u)(aD:gY q d p y){af az:E}(ha:be q af v.aO)(hj:be q az v.gE)(cm:a.aR.length<=900000000)(cr:a.cw.length<=900000000):
 bK dO 51 [vp k 0,vp c.bu (c.off+b.length*6),xv v af az] m λ_ Q=>Gp q g m k d p (cF y) (eD y a b f v bI) Q:=by
 apply CU (k,0) (c.bu,c.off+b.length*6)
 simp -zeta only[dR]
 intro m1
 obtain⟨b7,s1⟩:=pu m1
 let⟨S1,t1⟩:=ac.ext b7
 have B1:AW g m1 [m.size]:=λP hb=>by simp at hb;subst hb;exact⟨V,ac.eH.bF _ bY⟩
 have cn:=C.Tk
 have cq:bI.length=f.bI.length:=by grind [my]
 have cx:r.len=f.aU.length:=by have:=ac.jN.aU.aT;simp at this;omega
 have co:t.len=f.bI.length:=by have:=ac.jN.bI.aT;simp at this;omega
 have cf:=ha.aT
 have aM:v.aO.length<=4:=C.oJ.1
 have ct:0<=f.pc/\f.pc<=100000:=by
  have cu:=C.F.pc;obtain⟨pq,_,cv,hP,_,_⟩:=C.I;grind [pd.aT]
 have e4:eI (f.pc+1)=f.pc+1:=by grind [de]
 have ck:b.length<=1000:=by
  grind [vW.ok,dZ.kU,dZ.dg,dZ.dL,vW.fr]
 refine(zX (aD.ext S1.eH.cV) (S1.eH.bV.dx 1) C.jE (ha.ext S1.eH.cV) V C.oJ.2.2.2.1).aP ?_
 rintro _ m2 ⟨ts,lt,rfl,bv,_,aJ,bu,_⟩
 let⟨S2,t2⟩:=S1.ext aJ
 have B2:=B1.to t2
 have cA:=Ni y v
 have aQ:=bv.aT
 have b5:cO y v≠[]->g ts.bu=0:=λap=>by
  rcases bu with w|w|w
  .subst w;simp at aQ;exact absurd (cp.1 aQ.symm) ap
  .rw[w];refine ac.eH.mq _ (lx ha λh0=>?_);let⟨R,B⟩:=aaq _ ap;have:=wS B;grind
  .grind [ST.eH,wR.bF]
 refine⟨t2.fS B1,ts,lt,O,?_⟩
 refine gP (n:=(cO y v).length) V (λL Q=>ST q g Q k cQ (IB d p (cF y) a cw j c) cw j c a.cw a.aR b {f with bI:=cL f.aU f.bI ((cO y v).take L)} r t h u/\To g m2 g Q) ⟨S2,dI.cT _ S2.eH.bF⟩ ?_
 rintro L m3 bH μ hk ⟨S3,t3⟩ ca
 have B3:=B2.to t3
 have bU:(cL f.aU f.bI ((cO y v).take L)).length=f.bI.length:=my _ _ _
 refine dit (λh1=>?_) λh1=>?_
 .let⟨R,B⟩:=dU (cO y v) L
  have A:=C.O8 R (aZ B)
  obtain⟨_,_,_,G,H,_⟩:=S3.jN.kY
  have J:be m3 ts (cO y v):=by grind [km,dI.fQ,lx]
  have M:cL f.aU f.bI ((cO y v).take (L+1))=if 1000<=bt f.aU R then gX (cL f.aU f.bI ((cO y v).take L)) R (bt (cL f.aU f.bI ((cO y v).take L)) R -1)else cL f.aU f.bI ((cO y v).take L):=by
   rw[bX B,zd];rfl
  refine⟨V,V,R,by simpa using J.bt B,r,G,A.1,V,_,(S3.ED cB).tB A.1 A.2,λh5=>?_,λh5=>?_⟩
  .simp only[bg]at h5
   have F:R<(cL f.aU f.bI ((cO y v).take L)).length:=V
   have N: -4<=bt (cL f.aU f.bI ((cO y v).take L)) R/\bt (cL f.aU f.bI ((cO y v).take L)) R<=999999:=by
    let⟨qq,ax,a9⟩:=ou _ _ _ _ (jT A.1 F);have h7:=C.Tu qq (aZ ax);have h8:=QZ f.aU ((cO y v).take L) f.bI 0 (λal hq=>(C.Tu al hq).1) _ (iS A.1 F);have K:((cO y v).take L).length<=4:=cB;omega
   have Z:eI (bt (cL f.aU f.bI ((cO y v).take L)) R -1)=bt (cL f.aU f.bI ((cO y v).take L)) R -1:=by grind [de]
   refine⟨t,H,A.1,V,_,(S3.NG cB).tB A.1 F,A.1,V,S3.jN.bI.SA A.1 F,?_⟩
   rw[Z]
   intro I
   let⟨z,t4⟩:=S3.tV A.1 F (bt (cL f.aU f.bI ((cO y v).take L)) R -1)
   constructor<;>grind [dI.fS,dI.J]
  grind [ge_iff_le,decide_eq_false_iff_not]
 rw[eQ V,<-aE]at S3
 clear ca bU hk h1 b5 bv bu aQ
 obtain⟨_,g1,_,_,_,_⟩:=S3.jN.kY
 refine⟨f.pc,g1,S3.jN.abc,?_⟩
 rw[e4]
 intro I
 let⟨z,t4⟩:=S3.Sw (f.pc+1)
 have J:AW g I [m.size]:=B3.to t4
 have bA:gS [m.size] m3 I:=t4.fS B3
 have X:To g m g I:=by grind [dI.J]
 clear t4
 replace z:ST q g I k cQ (IB d p (cF y) a cw j c) cw j c a.cw a.aR b {f with bI:=bI,pc:=f.pc+1} r t h u:=z
 refine⟨bA,?_⟩
 clear bA g1 S3 t3 B3 t2 B2 S2 aJ bH μ
 have T:∀{M M':bh},gS [m.size] M M'->∀ak,aS M' m.size ak=aS M m.size ak:=λh ak=>bE (h _ bO) ak
 have hd:=C.bH
 have aO:f.aU.length=bI.length/\f.cC.length=bI.length/\bI.length<=2000:=V
 have an:1<=v.aO.length->0<=bt v.aO 0/\bt v.aO 0<f.aU.length:=λh1=>C.arg _ (iS V V)
 have ga:∀{Q},D q Q->1<=v.aO.length->aS Q af.bu (af.off+Int.toNat (0:Int)*1)=some (vi (bt v.aO 0)):=λhx h1=>(ha.ext hx).tB V V
 have gr:∀{g m bx cw j c lo am t h u own' pc'},ST q g m k cQ bx cw j c lo am b {f with bI:=own',pc:=pc'} r t h u->∀{ak:Int},0<=ak->ak<f.aU.length->aS m r.bu (r.off+ak.toNat*1)=some (vi (bt f.aU ak)):=λac ak h0 h1=>(ac.ED cB).tB h0 h1
 have ad:∀{g m bx cw j c lo am t h u own' pc'},ST q g m k cQ bx cw j c lo am b {f with bI:=own',pc:=pc'} r t h u->aS m c.bu (c.off+b.length*6+3)=some r.v:=λac=>ac.jN.kY.2.2.2.1
 have b9:∀r',r'∈v.aO->bt f.aU r'<1000->lg (bt f.aU r'):=λr' b2 ay=>by
  have bo:=C.arg r' b2;rcases C.F.XJ _ (iS bo.1 bo.2)with h5|h5
  .exact h5
  .omega
 obtain⟨pq,_,_,_,_,hI⟩:=C.I
 have ai:=hI.op
 clear hI
 have aU:∀{aT:ag}{bp:E}{am:ah}{M:bh}(SM:ST q aT M k cQ (IB d p (cF y) {a with aR:=am} cw bp c) cw bp c a.cw am b {f with bI:=bI,pc:=f.pc+1} r t h u)(tM:To g m aT M)(BM:AW aT M [m.size])(F aG:Int)(s':St),s'={a with aR:=am,bq:=b++[bW.cG {f with bI:=bI,pc:=f.pc+1} v.bH F aG]}->
  bK dO 92 [vp c.bu (c.off+b.length*6),vi v.bH,vi F,vi aG] M λ_ Q=>gS [m.size] M Q/\Gp q g m k d p (cF y) s' Q:=λSM tM BM F aG s' w=>by
  refine(uY SM hd.1 cB cB F aG).aP ?_
  rintro _ Q ⟨S',t'⟩
  exact⟨t'.fS BM,_,cw,_,c,by rw[w];exact S'.eH,tM.J t'⟩
 have aI:∀{M:bh}(hx:D I M)(Y:Int)(s':St),s'={a with bq:=b++[{f with bI:=bI,pc:=Y}]}->
  jb M c.bu (c.off+b.length*6+1) 1/\gS [m.size] M (aV M c.bu (c.off+b.length*6+1) [.i Y])/\Gp q g m k d p (cF y) s' (aV M c.bu (c.off+b.length*6+1) [.i Y]):=λhx Y s' w=>by
  let⟨SM,tM⟩:=z.ext hx
  let⟨S',t'⟩:=SM.Sw Y
  exact⟨SM.jN.abc,t'.fS (J.to tM),g,cw,j,c,by rw[w];exact S'.eH,(X.J tM).J t'⟩
 refine⟨λw=>?_,λe0=>?_⟩
 .simp only[eG,bP]at w
  refine(NZ z ha C.arg aM (λZ=>C.oJ.2.1 (bC Z)) (λe0 Z=>C.oJ.2.2.1 V) (λe0 R B=>b9 R B (hM.oL V R B)) aO ⟨hd.1,by show v.bH<bI.length;omega⟩ V).aP ?_
  rintro _ W ⟨ar,aA,aq,au,L5,B⟩
  refine⟨B.fS J,ar,aA,aq,au,?_,X.J B⟩
  have:eD y a b f v bI=(if v.op=0 then{a with bq:=b++[bW.cG {f with bI:=bI,pc:=f.pc+1} v.bH v.cE 0]}else if v.op=5 then{a with cw:=a.cw++[bt f.aU (bt v.aO 0)],bq:=b++[bW.cG {f with bI:=bI,pc:=f.pc+1} v.bH (bt f.aU (bt v.aO 0)) 0]}else{a with bq:=b++[bW.cG {f with bI:=bI,pc:=f.pc+1} v.bH (Tw v.op (bt f.aU (bt v.aO 0)) (bt f.aU (bt v.aO 1))) 0]}):=by
   unfold eD;simp only[];by_cases A:v.op=0
   .grind
   rw[aW A,aW A];by_cases G:v.op=5
   .rw[aW V,bn G,bn G]
   .grind
  rw[this];exact L5
 simp only[cU,ba]at e0
 have a7:¬(v.op=1\/v.op=2\/v.op=3\/v.op=4):=V
 have b_:∀F∈f.cC,F≠0->1000<=F/\ix F<a.aR.length:=λF hw ap=>by
  obtain⟨h1,dd,bR,_⟩:=C.P3 F hw ap;exact⟨h1,br bR⟩
 refine⟨λw=>?_,λe6=>?_⟩
 .simp only[bP]at w
  have U:=C.oJ.2.2.2.2.1 w
  refine(Kl z ha C.arg aM aO ⟨U.1,U.2.1⟩ V b_).aP ?_
  rintro _ W ⟨ar,aq,A,N,rfl,S,B,er,eo,ep,ec⟩
  refine⟨B.fS J,_,O,T (B.fS J) 1,(uY S hd.1 cB cB (1000+A) 1).aP ?_⟩
  rintro _ K ⟨G,H⟩
  refine⟨H.fS (J.to B),ar,cw,aq,c,?_,(X.J B).J H⟩
  have h7:=ec f.pc
  have aa:N.pc=f.pc+1:=ep
  have h8:({N with pc:=f.pc+1}:bW)=N:=by rw[<-aa]
  rw[h8]at h7
  have:eD y a b f v bI=rE a b {f with bI:=bI} v v.cE:=by
   unfold eD rE;simp only[];rw[aW V,aW a7,aW V,bn w];rfl
  grind [rE,kC,dQ,bW.cG,ST.eH]
 simp only[ba]at e6
 have F4:FP I c.bu (c.off+b.length*6) {f with bI:=bI,pc:=f.pc+1} r t h:=z.fp ⟨by show f.aU.length<=_;omega,by show bI.length<=_;omega,by show f.cC.length<=_;omega⟩
 have bG:∀{aX:aj},(∀ws M,be M ws (dQ f v.aO)->D I M->(dQ f v.aO≠[]->g ws.bu=0)->aX ws.v M)->bK dO 95 [vp c.bu (c.off+b.length*6),af.v] I aX:=λhk=>by
  refine(zp F4.g3 F4.aU (ha.ext z.eH.cV) C.arg V).aP ?_;rintro _ W ⟨ws,rfl,ow,ae⟩;have b6:(dQ f v.aO).length=v.aO.length:=by simp[dQ]
  have iw:be W ws (dQ f v.aO):=be.jA (l:=dQ f v.aO) ow V;refine hk ws W iw ae λap=>?_;rcases ow.bu with w|w
  .subst w;have:=iw.aT;simp at this;exact absurd (cp.1 this.symm) ap
  .exact z.eH.bF _ w
 have aJ:(gR y.bT).length<=12:=by
  have:=tE C.ok.iG.mT.dm y.bT.length;grind [qI]
 have cg:0<=cF y/\cF y<=12:=by grind [cF]
 refine⟨λw=>?_,λa8=>?_⟩
 .simp only[bP]at w
  have aa:=C.oJ.2.2.2.2.2.1 w
  refine⟨cF y,z.eH.bV.dx 2,bG λws W iw ae _=>?_⟩
  let⟨S,B⟩:=z.ext ae
  have A:=J.to B
  have N:=B.fS J
  have U:eI (cF y+v.cE)=cF y+v.cE:=iz
  refine⟨N,ws,O,T N 2,ae.cZ (z.eH.bV.dx 2),T N 1,?_⟩
  rw[U]
  refine(HR S (cF y+v.cE) iw (by simp[dQ];omega) V).aP ?_
  rintro _ K ⟨rfl,bk,aH,G,H⟩
  have aB:=H.fS A
  refine⟨aB,_,O,T aB 1,aU (bp:=aH) (am:=kC a.aR (fF a.aR) ⟨1,cF y+v.cE,dQ f v.aO⟩) G ((X.J B).J H) (A.to H) _ _ _ ?_⟩
  grind [eD]
 simp only[ba]at a8
 have Q9:eD y a b f v bI=(
  if v.op=14 then{a with aR:=qv a.aR (bt f.aU (bt v.aO 0)),bq:=b++[{f with bI:=gX bI (bt v.aO 0) (bt bI (bt v.aO 0)+1),pc:=f.pc+1}]}
  else if v.op=15 then{a with aR:=pG (jK a.aR [bt f.aU (bt v.aO 0)]),bq:=b++[{f with bI:=bI,pc:=f.pc+1}]}
  else if v.op=16\/v.op=17 then xB a b {f with bI:=bI} v
  else if v.op=18 then{a with bq:=b++[bW.cG {f with bI:=bI,pc:=f.pc+1} v.bH (bt f.aU (bt v.aO 0)) (iV (bt f.aU (bt v.aO 0)))]}
  else if v.op=19 then{a with bq:=b++[bW.cG {f with bI:=bI,pc:=f.pc+1} v.bH (bt (bz a.aR (bt f.aU (bt v.aO 0))).bJ v.cE) 0]}
  else if v.op=20 then{a with bq:=b++[{f with bI:=bI,pc:=if bt f.aU (bt v.aO 0)=0 then v.cE else f.pc+1}]}
  else if v.op=22 then{a with bq:=b++[{f with bI:=bI,pc:=v.cE}]}
  else if v.op=21 then{a with bq:=b++[{f with bI:=bI,pc:=bt v.gE (tG (cX y.bT v.cE) (bz a.aR (bt f.aU (bt v.aO 0))).jx)}]}
  else if v.op=9\/v.op=24 then{a with dg:=a.dg+1,bq:=if v.op=24 then b++[cz y v.cE f.bH (dQ f v.aO)]else b++[{f with bI:=bI,pc:=f.pc+1},cz y v.cE v.bH (dQ f v.aO)]}
  else if v.op=11 then{a with dg:=a.dg+1,aR:=iZ a.aR (bt f.aU (bt v.aO 0)),bq:=b++[{f with bI:=bI,pc:=f.pc+1},cz y ((bz a.aR (bt f.aU (bt v.aO 0))).jx -cF y) v.bH ((bz a.aR (bt f.aU (bt v.aO 0))).bJ++[bt f.aU (bt v.aO 1)])]}
  else match b.getLast? with|none=>{a with eC:=0,iQ:=bt f.aU (bt v.aO 0),bq:=[]}|some av=>{a with bq:=b.dropLast++[av.cG f.bH (bt f.aU (bt v.aO 0)) (iV (bt f.aU (bt v.aO 0)))]}):=by
  unfold eD
  simp only[]
  rw[aW V,aW a7,aW V,aW e6,aW a8]
  by_cases a0:v.op=14
  .grind
  rw[aW a0,aW a0]
  by_cases a1:v.op=15
  .grind
  rw[aW a1,aW a1]
  by_cases aC:v.op=16\/v.op=17
  .rw[bn aC,bn aC];rfl
  rw[aW aC,aW aC]
  by_cases a2:v.op=18
  .grind
  rw[aW a2,aW a2]
  by_cases a3:v.op=19
  .grind
  rw[aW a3,aW a3]
  by_cases a4:v.op=20
  .grind
  rw[aW a4,aW a4]
  by_cases a5:v.op=21
  .grind
  rw[aW a5]
  by_cases a6:v.op=22
  .grind
  rw[aW a6,aW a6,aW a5]
  by_cases bL:v.op=9
  .grind
  rw[aW bL]
  by_cases bJ:v.op=24
  .grind
  rw[aW bJ,aW (show¬(v.op=9\/v.op=24)by omega)]
  by_cases aY:v.op=11
  .grind
  rw[aW aY,aW aY]
  cases b.getLast?<;>rfl
 rw[Q9]
 clear Q9
 refine⟨λw=>?_,λa_=>?_⟩
 .simp only[bP]at w
  rw[bn w]
  have h2:=C.oJ.2.1 V
  have A:=an V
  let⟨aa,bb⟩:=hM.dup w
  let⟨U,aF⟩:=dz aa
  have ay:=br U
  have aP:=z.eH.aR.aT
  have aN:=aa.1
  have ao:ix (bt f.aU (bt v.aO 0))=(bt f.aU (bt v.aO 0) -1000).toNat:=rfl
  have Z:eI (bt f.aU (bt v.aO 0) -1000)=bt f.aU (bt v.aO 0) -1000:=by grind [de]
  have aK:eI ((bz a.aR (bt f.aU (bt v.aO 0))).bS+1)=(bz a.aR (bt f.aU (bt v.aO 0))).bS+1:=by grind [de]
  obtain⟨f0,k0,_⟩:=z.eH.aR.dx U
  refine⟨j,z.eH.bV.dx 8,r,ad z,V,V,_,ga z.eH.cV V,A.1,V,_,gr z A.1 A.2,?_⟩
  rw[Z,<-ao]
  refine⟨V,V,_,k0,V,V,z.eH.aR.wr (o:=0) ay cD,?_⟩
  rw[aK]
  intro W
  let⟨aL,c5⟩:=z.eH.aR.xE z.eH.bF U ((bz a.aR (bt f.aU (bt v.aO 0))).bS+1)
  let⟨S,B⟩:=z.jS (c5.aP λL hk=>bC hk) aL
  have aw:bt v.aO 0<bI.length:=V
  have bc:0<=bt bI (bt v.aO 0)/\bt bI (bt v.aO 0)<=999999:=by
   refine⟨hM.nn _ (iS (l:=bI) A.1 aw),?_⟩;have hg:=jT (l:=bI) A.1 aw;rw[aE]at hg;let⟨qq,ax,a9⟩:=ou _ _ _ _ hg;have:=(C.Tu qq (aZ ax)).2;grind
  have e7:eI (bt bI (bt v.aO 0)+1)=bt bI (bt v.aO 0)+1:=by grind [de]
  refine⟨B.fS J,t,S.jN.kY.2.2.2.2.1,V,V,_,ga S.eH.cV V,A.1,V,bt bI (bt v.aO 0),(S.NG cB).tB A.1 aw,A.1,V,S.jN.bI.SA A.1 aw,?_⟩
  rw[e7]
  intro K
  let⟨G,H⟩:=S.tV A.1 aw (bt bI (bt v.aO 0)+1)
  exact⟨H.fS (J.to B),g,cw,j,c,G.eH,(X.J B).J H⟩
 simp only[ba]at a_
 rw[aW a_]
 refine⟨λw=>?_,λbb=>?_⟩
 .simp only[bP]at w
  rw[bn w]
  have h2:=C.oJ.2.1 V
  have A:=an V
  have bi:v.aO=[bt v.aO 0]:=by
   cases hx:v.aO with
   |nil=>rw[hx]at h2;simp at h2
   |cons R aw=>cases aw with
    |nil=>rfl
    |cons aK aw=>rw[hx]at h2;simp at h2
  have aK:=C.HE aE hM.nn
  have ht:cO y v=[bt v.aO 0]:=by grind [cO]
  have aL:=aK.1
  rw[ht]at aL
  refine⟨j,z.eH.bV.dx 8,?_⟩
  intro W K
  let⟨G,H,kb⟩:=z.Te
  have R:AW (oG g I.size 5) K [m.size]:=J.to H
  replace G:ST q (oG g I.size 5) K k cQ (IB d p (cF y) a cw j c) cw j c a.cw a.aR b {f with bI:=bI,pc:=f.pc+1} r t h u:=G
  replace H:To g I (oG g I.size 5) K:=H
  replace kb:dF K I.size ig [.s j]:=kb
  refine⟨r,ad G,V,V,_,ga G.eH.cV V,A.1,V,_,gr G A.1 A.2,(Km G.eH.aR G.eH.bF kb gU (U:=λP=>jX b P+fA f.aU bI P) (aL.congr λP=>O) aK.2 V).aP ?_⟩
  rintro _ m7 ⟨bf,aw,bc,bd,c7⟩
  let⟨S7,t7⟩:=G.jS c7 bc
  refine⟨t7.fS R,aw,bd.dx 0,S7.eH.pQ (i:=8) bO,?_⟩
  intro m8
  let⟨S8,t8⟩:=S7.lW 8 [.s aw]
  exact⟨t8.fS (R.to t7),bf,cw,aw,c,S8.eH,((X.J H).J t7).J t8⟩
 simp only[ba]at bb
 rw[aW bb]
 refine⟨λw=>?_,λbM=>?_⟩
 .simp only[eG,bP]at w
  rw[bn w]
  refine(Ti z ha C.arg ⟨C.oJ.2.2.2.1 w,aM⟩ aO V (λal hq=>?_) (hM.Qi w).1 C.ok.aR (show f.pc+1=f.pc+1 from O)).aP ?_
  .refine⟨hM.nn al hq,?_⟩
   let⟨L,hk⟩:=cH.1 hq
   simp only[]at hk
   rw[aE]at hk
   let⟨qq,ax,a9⟩:=ou _ _ _ _ hk
   have:=(C.Tu qq (aZ ax)).2
   omega
  rintro _ W ⟨ar,aA,aq,au,L5,B⟩
  exact⟨B.fS J,ar,aA,aq,au,L5,X.J B⟩
 simp only[cU,ba]at bM
 rw[aW V]
 refine⟨λw=>?_,λbc=>?_⟩
 .simp only[bP]at w
  rw[bn w]
  have h2:=C.oJ.2.1 V
  have A:=an V
  refine⟨r,ad z,V,V,_,ga z.eH.cV V,A.1,V,_,gr z A.1 A.2,(qK _ _).aP ?_⟩
  rintro _ W ⟨rfl,ae⟩
  let⟨S,B⟩:=z.ext ae
  have N:=B.fS J
  exact⟨N,_,O,T N 1,aU (am:=a.aR) S (X.J B) (J.to B) _ _ _ O⟩
 simp only[ba]at bc
 rw[aW bc]
 refine⟨λw=>?_,λbd=>?_⟩
 .simp only[bP]at w
  rw[bn w]
  have h2:=C.oJ.2.1 V
  have A:=an V
  let⟨aa,aw⟩:=hM.tL w
  let⟨U,aF⟩:=dz aa
  have ay:=br U
  have aP:=z.eH.aR.aT
  have aN:=aa.1
  have ao:ix (bt f.aU (bt v.aO 0))=(bt f.aU (bt v.aO 0) -1000).toNat:=rfl
  have Z:eI (bt f.aU (bt v.aO 0) -1000)=bt f.aU (bt v.aO 0) -1000:=by grind [de]
  obtain⟨f0,_,_,k2,kf,_⟩:=z.eH.aR.dx U
  have ax:=kf.aT
  unfold mJ at ai
  rw[aW V,aW V,aW V,aW V,aW V,aW V,aW V,bn w]at ai
  refine⟨j,z.eH.bV.dx 8,r,ad z,V,V,_,ga z.eH.cV V,A.1,V,_,gr z A.1 A.2,?_⟩
  rw[Z,<-ao]
  exact⟨V,V,f0,k2,ai.2.1,V,_,kf.tB ai.2.1 aw,aU (am:=a.aR) z X J _ _ _ O⟩
 simp only[ba]at bd
 rw[aW bd]
 refine⟨λw=>?_,λbf=>?_⟩
 .simp only[bP]at w
  rw[bn w]
  have h2:=C.oJ.2.1 V
  have A:=an V
  refine⟨r,ad z,V,V,_,ga z.eH.cV V,A.1,V,_,gr z A.1 A.2,λh5=>?_,λh5=>?_⟩
  .simp at h5;exact aI cY _ _ cB
  .simp at h5;exact⟨g,cw,j,c,by rw[aW h5];exact z.eH,X⟩
 simp only[ba]at bf
 rw[aW bf]
 refine⟨λw=>?_,λbj=>?_⟩
 .simp only[bP]at w
  rw[bn w]
  exact aI cY _ _ O
 simp only[ba]at bj
 rw[aW bj]
 refine⟨λw=>?_,λbi=>?_⟩
 .simp only[bP]at w
  rw[bn w]
  have h2:=C.oJ.2.1 V
  have A:=an V
  let⟨aa,bs⟩:=hM.xS w
  let⟨U,aF⟩:=dz aa
  have ay:=br U
  have aP:=z.eH.aR.aT
  have aN:=aa.1
  have ao:ix (bt f.aU (bt v.aO 0))=(bt f.aU (bt v.aO 0) -1000).toNat:=rfl
  have Z:eI (bt f.aU (bt v.aO 0) -1000)=bt f.aU (bt v.aO 0) -1000:=by grind [de]
  obtain⟨f0,_,k1,_⟩:=z.eH.aR.dx U
  unfold mJ at ai
  rw[aW V,aW V,aW V,aW V,aW V,aW V,aW V,aW V,aW V,aW V,bn w]at ai
  have aL:tG (cX y.bT v.cE) (bz a.aR (bt f.aU (bt v.aO 0))).jx<(cX y.bT v.cE).length:=mB ⟨_,bs,bO⟩
  have bl:=hj.aT
  have a9:=ai.2.2.1
  refine⟨j,z.eH.bV.dx 8,r,ad z,V,V,_,ga z.eH.cV V,A.1,V,_,gr z A.1 A.2,?_⟩
  rw[Z,<-ao]
  refine⟨V,V,_,k1,d,z.eH.bV.dx 0,(xh (aD.ext z.eH.cV).bT C.ok.iG.mT.dm v.cE).aP ?_⟩
  rintro _ W ⟨cs,rfl,aK,ae⟩
  let⟨S,B⟩:=z.ext ae
  have N:=B.fS J
  refine⟨N,cs,O,T N 5,(wg aK _).aP ?_⟩
  rintro _ K ⟨ri,rfl,aw,bm⟩
  let⟨G,H⟩:=S.ext aw
  have aB:=H.fS (J.to B)
  have ax:ri=tG (cX y.bT v.cE) (bz a.aR (bt f.aU (bt v.aO 0))).jx:=by
   grind
  subst ax
  exact⟨aB,_,O,T aB 5,V,V,_,(hj.ext G.eH.cV).tB V V,aI (ae.J aw) _ _ O⟩
 simp only[ba]at bi
 rw[aW bi]
 have bm:0<=a.dg/\a.dg<=100000:=by
  grind [vW.ok,dZ.dg,dZ.dL]
 have aB:=C.ok.iG
 refine⟨λw=>?_,λe9=>?_⟩
 .simp only[eG,bP]at w
  rw[bn w]
  unfold mJ at ai
  rw[aW V,aW V,aW V,aW V,bn w]at ai
  let⟨al,aK,aw,bl⟩:=ai
  have b3:=(aB.eR al (aZ aw)).aU
  have h3:=(aB.mT.eR al (aZ aw)).1
  have b6:(dQ f v.aO).length=v.aO.length:=by simp[dQ]
  refine bG λws W iw ae aL=>?_
  let⟨S,B⟩:=z.ext ae
  have N:=B.fS J
  refine⟨N,ws,O,T N 0,T N 1,T N 2,T N 3,T N 4,T N 5,T N 2,(Kg S aD aK aw V iw aL V v af az V bm).aP ?_⟩
  rintro _ K ⟨bk,a9,aH,ax,L6,H⟩
  exact⟨H.fS (J.to B),bk,a9,aH,ax,L6,(X.J B).J H⟩
 simp only[cU,ba]at e9
 rw[aW V]
 refine⟨λw=>?_,λa9=>?_⟩
 .simp only[bP]at w
  rw[bn w]
  have h2:=C.oJ.2.2.1 V
  have A:=an V
  have aL:0<=bt v.aO 1/\bt v.aO 1<f.aU.length:=by grind [vW.arg,iS]
  let⟨aa,b4,cy,b0,bV,ci⟩:=hM.apply w
  let⟨U,aF⟩:=dz aa
  have bl:=C.ok.aR.gZ _ (aZ U)
  have cj:=bl.fl
  have bs:=(bl.wW aF).2
  have ay:=br U
  have aP:=z.eH.aR.aT
  have aN:=aa.1
  have ao:ix (bt f.aU (bt v.aO 0))=(bt f.aU (bt v.aO 0) -1000).toNat:=rfl
  have Z:eI (bt f.aU (bt v.aO 0) -1000)=bt f.aU (bt v.aO 0) -1000:=by grind [de]
  let⟨f0,k0,k1,k2,kf,kr⟩:=z.eH.aR.dx U
  refine⟨r,ad z,V,V,_,ga z.eH.cV V,A.1,V,_,gr z A.1 A.2,j,z.eH.bV.dx 8,?_⟩
  rw[Z,<-ao]
  generalize hw:bt f.aU (bt v.aO 0)=F at*
  have gv:∀{g m bx cw j c lo am t h u own' pc'},ST q g m k cQ bx cw j c lo am b {f with bI:=own',pc:=pc'} r t h u->aS m r.bu (r.off+Int.toNat (bt v.aO 1)*1)=some (vi (bt f.aU (bt v.aO 1))):=λac=>gr ac aL.1 aL.2
  generalize hv:bt f.aU (bt v.aO 1)=Y at*
  let⟨al,hq⟩:=dU y.di (((bz a.aR F).jx -cF y).toNat)
  have b1:dG y ((bz a.aR F).jx -cF y)=al:=by grind [dG]
  rw[b1]at b0 bV
  have b3:=(aB.eR al (aZ hq)).aU
  have h3:=(aB.mT.eR al (aZ hq)).1
  refine⟨V,V,_,k0,_,k1,f0,k2,?_⟩
  intro W K
  have aK:D I K:=by grind [D.cT,D.bZ,D.aV]
  have s6:K.size=I.size+1:=by grind [bD]
  let⟨G,H⟩:=z.ext aK
  have R:AW g K [I.size,m.size]:=λP hb=>by
   simp at hb;rcases hb with rfl|rfl
   .exact⟨V,z.eH.bF _ bY⟩
   .exact J.to H _ bO
  have aH:∀{M},D K M->aS M af.bu (af.off+Int.toNat (1:Int)*1)=some (vi (bt v.aO 1)):=λhx=>(ha.ext (G.eH.cV.J hx)).tB V V
  have ew:eI ((bz a.aR F).jx -cF y)=(bz a.aR F).jx -cF y:=by grind [de]
  have tail:∀{M:bh}{es:E},D K M->jw K M bB 1 es (((bz a.aR F).bJ++[Y]).map Ce.i)->
   bK dO 101 [vp k 0,vi F,vb false] M λcd Q=>gS [I.size,m.size] M Q/\∃cc:Bool,cd=vb cc/\∃bF:Int,aS Q k (0+2)=some (vi bF)/\
    bK dO 100 [vp k 0,vi (eI ((bz a.aR F).jx -bF)),es.v,xv v af az] Q λ_ bw=>gS [I.size,m.size] Q bw/\Gp q g m k d p (cF y) {a with dg:=a.dg+1,aR:=iZ a.aR F,bq:=b++[{f with bI:=bI,pc:=f.pc+1},cz y ((bz a.aR F).jx -cF y) v.bH ((bz a.aR F).bJ++[Y])]} bw:=λ{M}{es} hx oe=>by
   let⟨SM,tM⟩:=G.ext hx
   have BM:=R.to tM
   have ie:be M es ((bz a.aR F).bJ++[Y]):=by grind [be.jA]
   have bT:es.bu<M.size:=by grind [lx]
   have bS:g es.bu=0:=by
    rcases oe.bu with w|w
    .subst w;have:=ie.aT;simp at this
    .exact G.eH.bF _ w
   refine(HU SM aa false C.ok.aR V).aP ?_
   rintro _ m8 ⟨P,rfl,_,cC,cs,S8,t8⟩
   have hK:vA a.aR F false=iZ a.aR F:=by grind [vA]
   rw[hK]at S8
   have b8:be m8 es ((bz a.aR F).bJ++[Y]):=by grind [km,dI.fQ]
   refine⟨t8.fS BM,P,O,cF y,S8.eH.bV.dx 2,?_⟩
   rw[ew]
   refine(Kg (s:={a with aR:=iZ a.aR F}) S8 aD b4 hq V b8 (λ_=>by rw[t8.jt _ bT];exact bS) cB v af az V bm).aP ?_
   rintro _ m9 ⟨ce,cb,bZ,bN,L9,t9⟩
   refine⟨t9.fS (BM.to t8),ce,cb,bZ,bN,?_,(((X.J H).J tM).J t8).J t9⟩
   grind
  refine⟨r,ad G,V,V,_,aH cY,aL.1,V,Y,gv G,?_,?_⟩
  .refine(gT (kf.ext aK) V).aP ?_
   rintro _ m7 ⟨cl,rfl,oc,N⟩
   let⟨S7,t7⟩:=G.ext N
   have B7:=R.to t7
   refine⟨t7.fS R,cl,O,N.cZ (gv G),N.cZ (aH cY),bE (N.bG m.size (R _ bO).1) 4,N.cZ (ad G),?_⟩
   intro m8
   have S:=px m8
   refine⟨bE (S.bG I.size (B7 _ bO).1) 2,rY oc N V λes m9 o9 aw=>⟨?_,tail aw o9⟩⟩
   intro P hb
   have ax:=(R P hb).1
   rw[aw.bG P ax,S.bG P (oh N.aQ),N.bG P ax]
  .intro m7
   obtain⟨N,s7⟩:=pu m7
   have bQ:dF m7 K.size bB [.i Y]:=dF.push K _ _
   let⟨S7,t7⟩:=G.ext N
   have B7:=R.to t7
   refine⟨bE (N.bG I.size (R _ bO).1) 2,(gT (kf.ext (aK.J N)) V).aP ?_⟩
   rintro _ m8 ⟨cl,rfl,oc,S⟩
   let⟨S8,t8⟩:=S7.ext S
   have ch:cl.len=(bz a.aR F).bJ.length:=by have:=oc.aT;simp at this;omega
   refine⟨t8.fS B7,cl,O,S.cZ (gv S7),S.cZ (aH N),bE (S.bG m.size (B7 _ bO).1) 4,S.cZ (ad S7),?_⟩
   have bk:=N.J S
   refine jw.fw (c:=[.i 0]) (x:=.mk K.size 0 1 1) (i:=[.i Y]) (oc.cV V) bk O (bQ.ext S).kY (by simp only[E.ku];omega) λes m9 o9 aw _ _ _ _=>⟨?_,tail aw (sp o9)⟩
   intro P hb
   have ax:=(R P hb).1
   rw[aw.bG P ax,bk.bG P ax]
 simp only[ba]at a9
 rw[aW a9]
 refine⟨λw=>?_,λK=>?_⟩
 .simp only[bP]at w
  have h2:=C.oJ.2.1 V
  have A:=an V
  refine⟨r,ad z,V,V,_,ga z.eH.cV V,A.1,V,_,gr z A.1 A.2,(LV z V (bt f.aU (bt v.aO 0)) (λav hg=>?_)).aP ?_⟩
  .have ap:b≠[]:=cB
   have H:b=b.dropLast++[av]:=by
    grind [List.getLast?_eq_some_getLast,List.dropLast_concat_getLast]
   have N:b.length=b.dropLast.length+1:=by
    grind [List.length]
   let⟨R,S,U⟩:=C.ok.uJ b.dropLast.length av f (by rw[C.fr,H];simp) (by rw[C.fr,<-N];simp)
   have G:=C.ok.bq av (by rw[C.fr,H];simp)
   have:=G.lr
   have:=G.lo
   grind
  rintro _ W ⟨ar,aA,aq,au,L5,B⟩
  exact⟨B.fS J,ar,aA,aq,au,L5,X.J B⟩
 simp only[ba]at K
 have:=C.opc
 omega
end
section
variable{a:da}{b:bh}{e k:Nat}
section
variable{j:bh}{h:ag}{m:bh}{f:Nat}{d p cw g c:E}{s:St}
def Kq(L:wR j h m f cQ (IB d p (cF a) s cw g c) cw g c s.cw s.aR s.bq)(z:gY j d p a)(u:dZ a s)(am:∀t∈s.bq,∀w∈t.aU,w<=9223372036854775807)(ao:s.aR.length<=900000000)(ar:s.cw.length<=900000000):
 bK dO 27 [vp f 0] m λ_ I=>Gp j h m f d p (cF a) (qy a s) I:=by
 apply Ab (f,0)
 simp -zeta only[dR]
 refine⟨s.eC,L.bV.dx 3,λy=>?_,λy=>?_⟩
 .simp at y
  rw[tZ y]
  exact⟨h,cw,g,c,L,dI.cT _ L.bF⟩
 have G:s.eC=3:=sp y
 let⟨l,e,r⟩:=u.split G
 have ap:s.bq.getLast?=some e:=by rw[r];simp
 have al:s.bq.dropLast=l:=by rw[r];simp
 have C:vW a s l e (fE a e):=⟨u,G,r,O,am⟩
 have ax:qy a s=(open Classical in if qM (fE a e).op/\s.dg=s.dL then{s with eC:=1}else if pb a s e (fE a e) (cL e.aU e.bI (cO a (fE a e)))then eD a s l e (fE a e) (cL e.aU e.bI (cO a (fE a e)))else{s with eC:=2}):=by
  unfold qy;rw[aW (sp G),ap,al]
 rw[ax]
 generalize fE a e=x at*
 have M:wR j h m f cQ (IB d p (cF a) s cw g c) cw g c s.cw s.aR (l++[e]):=by rw[<-r];exact L
 let⟨ae,ad,U,af,T⟩:=M.bq.jN
 have S:ST j h m f cQ (IB d p (cF a) s cw g c) cw g c s.cw s.aR l e ae ad U af:=⟨M,T⟩
 have aC:=T.Eb
 have aa:=u.kU
 have aB:=u.dg
 have aF:=u.dL
 rw[r]at aa
 have aD:l.length<=1000:=by simp at aa;omega
 have e1:eI ((c.len:Int) -1)=(l.length:Int):=by rw[iz];omega
 have e2:Int.toNat (l.length:Int)=l.length:=V
 have R:aS m f 9=some c.v:=S.eH.bV.dx 9
 obtain⟨Q,g1,_,_,_,_⟩:=T.kY
 let⟨aK,hq,av,hP,aj,hI⟩:=C.I
 let⟨pa,pl,pc,aG,aI,ac,k0,k1,k2,k3,k4⟩:=z.di.bt hq
 let⟨F,H,X,hj,i0,i1,i2,i3,i4,i5⟩:=ac.bt aj
 have aJ:=z.di.aT
 have aH:=ac.aT
 have W:=C.F
 have au:=W.fP
 have ab:=W.pc
 rw[av]at ab
 have n:=S.eH.cV
 refine⟨c,R,c,R,?_⟩
 rw[e1,e2]
 refine⟨V,V,p,S.eH.bV.dx 1,_,Q,au.1,V,pc,n.aS k4,_,g1,ab.1,V,_,n.aS i0,_,n.aS i1,_,n.aS i2,_,n.aS i3,F,n.aS i4,H,n.aS i5,?_⟩
 intro m1
 have o:=px m1
 refine⟨o.cZ (n.aS i0),o.cZ (n.aS i1),o.cZ (n.aS i2),o.cZ (n.aS i3),o.cZ (n.aS i4),o.cZ (n.aS i5),o.cZ g1,o.cZ (n.aS k4),o.cZ Q,o.cZ (S.eH.bV.dx 1),?_⟩
 intro b
 have ay:D m b:=o.aV bY _ _
 have s2:b.size=m.size+1:=by simp[b,m1,bD]
 let⟨k,t2⟩:=S.ext ay
 have A:AW h b [m.size]:=λN n=>by simp at n;subst n;exact⟨V,S.eH.bF _ bY⟩
 have aE:=C.Tk
 have aw:({s with bq:=l++[e]}:St)=s:=by rw[<-r]
 have an:oZ b c (l++[e]):=k.eH.bq.Mo eX (λt w=>by
  have q:=u.bq t (by rw[r];exact w);obtain⟨P,_,B,v,_⟩:=q.Kw u.iG;have E:=q.lr;have J:=q.lo;have K:=q.lh;rw[B]at E J K;have:=v.aU;omega)
 have ah:RV b f 3 d p cw g c a s:=by
  have:RV b f 3 d p cw g c a {s with bq:=l++[e]}:=⟨z.ext k.eH.cV,k.eH.bV.dx 0,k.eH.bV.dx 1,k.eH.bV.dx 3,k.eH.bV.dx 4,k.eH.bV.dx 5,k.eH.bV.dx 6,k.eH.bV.dx 7,k.eH.bV.dx 8,k.eH.bV.dx 9,k.eH.cw.oL V,k.eH.aR.jH V,an⟩;rw[aw]at this;exact this
 have F2:FP b c.bu (c.off+l.length*6) e ae ad U:=k.fp ⟨V,V,V⟩
 have kN:¬(qM x.op/\s.dg=s.dL)->bK dO 50 [vp f 0,vp c.bu (c.off+l.length*6),xv x F H] b λaz v=>
  gS [m.size] b v/\∃J:Bool,az=vb J/\
  ((!J)=true->jb v f (0+3) 1/\let q:bh:=aV v f (0+3) [.i (2:Int)]
   gS [m.size] v q/\Gp j h m f d p (cF a) (open Classical in if qM x.op/\s.dg=s.dL then{s with eC:=1}else if pb a s e x (cL e.aU e.bI (cO a x))then eD a s l e x (cL e.aU e.bI (cO a x))else{s with eC:=2}) q)/\
  ((!J)=false->bK dO 51 [vp f 0,vp c.bu (c.off+l.length*6),xv x F H] v λt q=>
   gS [m.size] v q/\Gp j h m f d p (cF a) (open Classical in if qM x.op/\s.dg=s.dL then{s with eC:=1}else if pb a s e x (cL e.aU e.bI (cO a x))then eD a s l e x (cL e.aU e.bI (cO a x))else{s with eC:=2}) q):=λaq=>by
  refine(UL ah (k.eH.bV.dx 2) C F2 (X.ext k.eH.cV) V).aP ?_
  rintro _ m3 ⟨N,rfl,Y,ag⟩
  let⟨B,t3⟩:=k.ext ag
  have K:=A.to t3
  rw[aW aq]
  refine⟨t3.fS A,N,O,λq=>?_,λq=>?_⟩
  .rw[aW (nb Y q)]
   refine⟨B.eH.pQ (i:=3) bO,?_⟩
   intro m4
   let⟨E,t⟩:=B.lW 3 [.i 2]
   refine⟨t.fS K,h,cw,g,c,?_,(t2.J t3).J t⟩
   have:=E.eH
   rw[<-r]at this
   exact this
  .have w:=yb Y q
   rw[bn w]
   refine(Wq C O w B z X hj ao ar).aP ?_
   rintro _ m4 ⟨aA,ak,ai,Z,P,t⟩
   exact⟨t.fS K,aA,ak,ai,Z,P,(t2.J t3).J t⟩
 refine⟨λP I=>I=b/\(P=true<->qM x.op),⟨λq=>⟨O,by simp at q;simp[qM,q]⟩,λq=>⟨λw=>⟨O,by simp at w;simp[qM,w]⟩,λw=>⟨O,by simp at q w;simp[qM,q,w]⟩⟩⟩,?_⟩
 rintro P m3 ⟨rfl,Z⟩
 refine⟨λak=>⟨s.dg,k.eH.bV.dx 5,s.dL,k.eH.bV.dx 6,λw=>?_,λw=>?_⟩,λai=>?_⟩
 .simp at w
  refine⟨k.eH.pQ (i:=3) bO,?_⟩
  intro m4
  let⟨E,t⟩:=k.lW 3 [.i 1]
  refine⟨t.fS A,h,cw,g,c,?_,t2.J t⟩
  rw[bn ⟨Z.1 ak,w⟩]
  have:=E.eH
  rw[<-r]at this
  exact this
 .simp at w
  exact kN λt=>w t.2
 .exact kN λt=>by have:=Z.2 t.1;rw[ai]at this;simp at this
end
def pw{m:bh}{p w:E}(B:gY m p w a)(t:iB a)(dL:Int):
 bK dO 26 [.agg #[E.v p,E.v w],vi dL] m λG d=>∃r,G=.agg #[vi 3,vi 0,vi 0,vi dL,E.v .nil,E.v .nil,E.v r]/\D m d/\∃b1 b2 b3 b4 k,r=.mk b4 0 1 1/\
  tv m d b1 b2 b3 k (cz a 0 0 []).aU (cz a 0 0 []).bI (cz a 0 0 []).cC/\(b4≠b1/\b4≠b2/\b4≠b3/\m.size<=b4/\b4<d.size)/\dF d b4 iu [.i 0,.i 0,.i 0,.s (.mk b1 0 k k),.s (.mk b2 0 k k),.s (.mk b3 0 k k)]:=by
 apply CX
 simp -zeta only[kJ]
 intro l b
 have u:D m b:=((D.cT m).bZ _).bZ _
 have F:=pz l
 have L:b.size=m.size+2:=by simp[b,F]
 have H:=t.mT.aT
 let⟨q,i⟩:=dU a.di 0
 have J:=(t.eR q (aZ i)).aU
 have j:dG a 0=q:=by simp[dG,i]
 refine(Ad (B.ext u) (dT 0) i V 0).aP ?_
 rintro _ n ⟨b1,b2,b3,rfl,N⟩
 have h:=N.ext
 have I:=N.lo
 have K:=h.aQ
 refine⟨h.eW eX,_,_,_,_,_,_,O,?_⟩
 intro e o
 obtain⟨s,M⟩:=pu e
 have P:o.size=e.size:=bD _ _ _ _
 have C:dF e n.size iu [.i 0,.i 0,.i 0,.s (.mk b1 0 q.aU.toNat q.aU.toNat),.s (.mk b2 0 q.aU.toNat q.aU.toNat),.s (.mk b3 0 q.aU.toNat q.aU.toNat)]:=dF.push n _ _
 have g:=N.LO s
 have v:D m o:=(u.J (h.J s)).aV (show m.size<=l.size by omega) _ _
 have f:∀c,c≠l.size->o[c]? =e[c]? :=λc A=>cq _ _ _ _ A
 have z:(cz a 0 0 []).aU=eP q.aU.toNat:=by simp[cz,j]
 have y:(cz a 0 0 []).bI=eP q.aU.toNat:=by simp[cz,j,fI]
 have x:(cz a 0 0 []).cC=eP q.aU.toNat:=by simp[cz,j]
 refine⟨_,O,v,b1,b2,b3,n.size,q.aU.toNat,O,?_,V,C.congr (f _ V)⟩
 rw[z,y,x]
 exact⟨v,V,g.kr.congr (f _ V),g.ko.congr (f _ V),g.kh.congr (f _ V),N.aT⟩
def Sy{m:bh}{Q9:ae}{g:E}{dL:Int}{b1 b2 b3 b4 c:Nat}(w:g=.mk b4 0 1 1)
 (N:tv m b b1 b2 b3 k (cz a 0 0 []).aU (cz a 0 0 []).bI (cz a 0 0 []).cC)(z:b4≠b1/\b4≠b2/\b4≠b3/\m.size<=b4/\b4<b.size)(y:dF b b4 iu [.i 0,.i 0,.i 0,.s (.mk b1 0 k k),.s (.mk b2 0 k k),.s (.mk b3 0 k k)])
 (B:m.size<=c/\c≠b1/\c≠b2/\c≠b3/\c≠b4)(kb:dF b c e (Q9++[.i 3,.i 0,.i 0,.i dL,.s .nil,.s .nil,.s g])):
 wR m (oG (oG (qx (λ_=>0) b1 b2 b3 0) b4 4) c 1) b c e (Q9++[.i 3,.i 0,.i 0,.i dL,.s .nil,.s .nil,.s g]) .nil .nil g [] [] [cz a 0 0 []]:=by
 have A:=N.lo
 have x:D m b:=N.ext
 have C:=kb.lt
 have l:∀d,d≠c->d≠b4->(oG (oG (qx (λ_=>0) b1 b2 b3 0) b4 4) c 1) d=qx (λ_=>0) b1 b2 b3 0 d:=λd i j=>by rw[fK i,fK j]
 let⟨u,a2,a3⟩:=N.qB (q:=λ_=>0) (v:=0)
 have conv:∀{p:Nat}{s:E}{q:ae},iE (qx (λ_=>0) b1 b2 b3 0) b bB 1 p s q->s.bu≠c->s.bu≠b4->iE (oG (oG (qx (λ_=>0) b1 b2 b3 0) b4 4) c 1) b bB 1 p s q:=λt i j=>t.fQ (λ_=>O) (λ_=>l _ i j)
 refine⟨x,λd v=>?_,λd v=>?_,kb,gU,⟨bO,bO,bC O⟩,⟨[],⟨bO,bO,bC O⟩,iy.gN _ _,Sep.gN⟩,?_⟩
 .rw[l d V V];unfold qx;rw[fK V,fK V,fK V]
 .rw[l d V V];unfold qx;rw[fK V,fK V,fK V]
 .refine rK.qe (a:=[]) (f:=cz a 0 0 []) (r:=.mk b1 0 k k) (e:=.mk b2 0 k k) (h:=.mk b3 0 k k) (j:=[]) ⟨?_,O,bO,bO,conv u (by simp only[E.lT];omega) (by simp only[E.lT];omega),conv a2 (by simp only[E.lT];omega) (by simp only[E.lT];omega),conv a3 (by simp only[E.lT];omega) (by simp only[E.lT];omega)⟩
  rw[w]
  refine⟨O,bY,bR ⟨b4,1,[],O,?_,?_,O⟩⟩
  .grind [fK,gU]
  .rw[fO];exact y
def ae5(m a:bh)(s:E)(l:ab):Prop:=l.length<=1000000000/\be a s l/\(l≠[]->jw m a bB 1 s (l.map Ce.i))
def XZ(m a:bh)(x:Exe)(v:Value):Prop:=∃cw,v=.tuple #[.agg #[vi x.eC,vi x.iQ,vi x.dg,cw.v],vb x.ok]/\ae5 m a cw x.cw/\D m a
def iE.aeG{d:ag}{c m:bh}{f:Nat}{s:E}{l:ae}(h:iE d m e f k s l)(j:∀b,b<c.size->d b=0)(i:k≠0)(o:l≠[]):jw c m e f s l:=by
 rcases h.bt with a|⟨b,g,tail,a,h2,h3,h4⟩
 .grind [iE.zS]
 .refine⟨h.aT,bR ⟨b,g,tail,a,Nat.le_of_not_lt λn=>i cB,h3,h4,?_⟩⟩;have:=h.le;rw[a]at this;simpa using this
theorem Nf(a:da):∀(c b:Nat)(s:St),bA a (c+b) s=bA a b (bA a c s)
 |0,b,s=>by simp[bA]
 |c+1,b,s=>by rw[Nat.succ_add];simp only[bA];exact Nf a c b _
def T8(b i:Nat)(j:ad)(m:bh)(R:aj):Prop:=
 ∃(c:bh->Prop)(μ0:bh->Nat),c m/\(∀(a:bh),c a->
 ∃e:Int,aS a b 3=some (vi e)/\
 ((e==(3:Int))=true->
 bK dO 27 [vp b 0] a λf d=>
 gS j a d/\
 c d/\μ0 d<μ0 a)/\
 ((e==(3:Int))=false->
 ∃d:Int,aS a b 3=some (vi d)/\
 ∃f:Int,aS a b 4=some (vi f)/\
 ∃g:Int,aS a b 5=some (vi g)/\
 ∃h:E,aS a b 7=some h.v/\
 let k:bh:=aV a i 0 [.i d,.i f,.i g,.s h]
 R (.tuple #[.agg #[vi d,vi f,vi g,h.v],vb true]) k))
def Uy{o M:bh}{j r l:E}{dL:Int}{s:ag}{q h:Nat}{i:ad}(w:iB a)(v:0<=dL/\dL<=40)(H:gY M j r a)(y:D o M)(G:o.size<=h/\h<M.size)(u:∀d∈i,d<M.size)
 (L:wR M s b q cQ (IB j r (cF a) (jC a dL) .nil .nil l) .nil .nil l [] [] [cz a 0 0 []]):
 T8 q h i b (λf c=>XZ o c (qH a dL) f):=by
 have x:=AO w v
 refine aba (λ(k:Nat) c=>k<=100000/\Gp M s b q j r (cF a) (bA a k (jC a dL)) c) (λk=>100000 -k) 0 ⟨iD _,s,.nil,.nil,l,L,dI.cT _ L.bF⟩ ?_
 rintro k z R μ ⟨U,P,g,X,T,c,t3⟩ K
 have I:=xQ k x
 have f:=AQ k x (AP a dL) V
 have B:AW P z i:=λd t=>⟨c.cV.lt (u d t),c.mq d (u d t)⟩
 refine⟨_,c.bV.dx 3,λm=>?_,λm=>?_⟩
 .simp at m
  have W:k<100000:=by
   rcases dJ k 100000 with n|n
   .exact n
   .have F:k=100000:=V;have p:=(O2 w v).2.2;grind [Gj]
  refine(Kq c H I f.JQ (oh f.aR) (oh f.cw)).aP ?_
  rintro _ p ⟨Q,N,J,C,S,A⟩
  refine⟨A.fS B,K (k+1) p ⟨V,Q,N,J,C,?_,t3.J A⟩ cB⟩
  grind [xR]
 .simp at m
  have N:pF a dL=bA a k (jC a dL):=by
   have F:100000=k+(100000 -k):=V;grind [Gj,Nf,pV]
  refine⟨_,c.bV.dx 3,_,c.bV.dx 4,_,c.bV.dx 5,g,c.bV.dx 7,?_⟩
  intro p
  have J:=f.cw
  have C:qH a dL=⟨(bA a k (jC a dL)).eC,(bA a k (jC a dL)).iQ,(bA a k (jC a dL)).dg,(bA a k (jC a dL)).cw,true⟩:=by
   grind [qH]
  rw[C]
  have n:(bA a k (jC a dL)).cw≠[]->p[g.bu]? =z[g.bu]? :=λn=>cq _ _ _ _ λe=>by
   grind [E.cap,wR.cw,iE.zS,iE.bu,wR.mq]
  refine⟨g,O,⟨by show(bA a k (jC a dL)).cw.length<=_;omega,km (c.cw.oL V) n,λA=>?_⟩,(y.J c.cV).aV G.1 _ _⟩
  exact(((c.cw.aeG c.mq cD cB).congr (n A)).cV y.aQ)
def aat.toI{m b:bh}{x:Exe}{v:Value}(h:aat m b x v)(e:x.cw.length<=1000000000):XZ m b x v:=by
 let⟨cw,c,a,d⟩:=h;exact⟨cw,c,⟨e,be.jA a V,λ_=>a⟩,d⟩
def Ux(a:da)(dL:Int):(qH a dL).cw.length<=1000000000:=by
 grind [qH,O2,Sm.cw]
def Mu{m:bh}{d p:E}(b:gY m d p a)(dL:Int):bK dO 9 [.agg #[d.v,p.v],vi dL] m λv c=>XZ m c (qH a dL) v:=
 (Of b dL).aP λ_ _ h=>h.toI (Ux a dL)
def NW{c:bh}{d p:E}(Z:gY c d p a)(dL:Int):bK dO 8 [.agg #[d.v,p.v],vi dL] c λW S=>XZ c S (qH a dL) W:=by
 apply Iv;simp -zeta only[dR];intro n b;have Q:D c b:=((D.cT c).bZ _).bZ _;have s1:=pz n;have s2:b.size=c.size+2:=by simp[b,s1]
 have kI:dF b c.size uS [.s d,.s p]:=(dF.push c _ _).ext (D.push n _);have G:∀l∈[n.size,c.size],l<b.size:=eX;have T:∀{f:bh},D b f->¬(iB a/\0<=dL/\dL<=40)->XZ c (aV f n.size 0 [.i (0:Int),.i (0:Int),.i (0:Int),.s E.nil]) (qH a dL) (.tuple #[.agg #[vi (0:Int),vi (0:Int),vi (0:Int),E.v E.nil],vb false]):=λg aj=>by
  rw[qH,aW aj];exact⟨.nil,O,⟨bO,⟨O,bO,bO,bO⟩,λh=>absurd O h⟩,(Q.J g).aV V _ _⟩
 refine(pt (Z.ext Q)).bL cY G λl f i g _=>⟨l,O,λJ=>T g (λe=>nb i J e.1),λJ=>⟨λK=>T g (λe=>by simp at K;omega),λK=>⟨λL=>T g (λe=>by simp at L;omega),λL=>?_⟩⟩⟩;have A:=yb i J;have hm:0<=dL/\dL<=40:=by simp at K L;omega
 have ab:=Q.J g;have s3:=g.aQ;have z:=Z.ext ab;have ad:=kI.ext g;have ht:=A.mT.dm;have X:∀{M:bh},D f M->DK dO 25 [d.v] M (vi (cF a)):=λx=>rh (z.ext x).bT ht.aT (λe hd=>OT ht e hd);have ks:∀{M j:bh},D f M->D M j->(aS j c.size 0=aS M c.size 0/\aS j c.size 1=aS M c.size 1):=λv w=>⟨w.cZ ((ad.ext v).dx 0),w.cZ ((ad.ext v).dx 1)⟩;have sm:∀{M j:bh},D f M->D M j->gS [n.size,c.size] M j:=λv w=>w.eW λl i=>v.lt (g.lt (G l i));have U:∀{M j:bh}{nb:Nat},D f M->D M j->nb<M.size->gS [nb,n.size,c.size] M j:=λv w ai=>w.eW λl i=>by
  rcases bo.1 i with rfl|i
  .exact ai
  .exact v.lt (g.lt (G l i))
 have R:∀{M q:bh}{e:E}{b1 b2 b3 b4 k u:Nat},D f M->e=.mk b4 0 1 1->tv M q b1 b2 b3 k (cz a 0 0 []).aU (cz a 0 0 []).bI (cz a 0 0 []).cC->(b4≠b1/\b4≠b2/\b4≠b3/\M.size<=b4/\b4<q.size)->dF q b4 iu [.i 0,.i 0,.i 0,.s (.mk b1 0 k k),.s (.mk b2 0 k k),.s (.mk b3 0 k k)]->
  (M.size<=u/\u≠b1/\u≠b2/\u≠b3/\u≠b4)->dF q u cQ ([.s d,.s p,.i (cF a)]++[.i 3,.i 0,.i 0,.i dL,.s .nil,.s .nil,.s e])->T8 u n.size [n.size,c.size] q (λW S=>XZ c S (qH a dL) W):=λx s N F t ah kb=>by
  have:=x.aQ
  exact Uy A hm (z.ext x) (ab.J x) V (λl i=>x.lt (g.lt (G l i))) (Sy s N F t ah kb)
 refine⟨(X cY).aP ?_,?_⟩
 .rintro _ H ⟨rfl,h⟩;have C:=ks cY h;refine⟨sm cY h,_,O,C.1,C.2,C.1,C.2,?_,?_⟩
  .refine(pw (z.ext h) A dL).aP ?_;rintro _ P ⟨e,rfl,B,b1,b2,b3,b4,k,s,N,F,t⟩;have ac:=ks h B;refine⟨sm h B,_,_,_,_,_,_,_,O,ac.1,ac.2,?_⟩;intro m8;have Y:=px m8;have y:=ks (h.J B) Y;refine⟨y.1,y.2,y.1,y.1,y.2,?_⟩;intro q;have I:D P q:=Y.aV bY _ _;have kb:dF q P.size cQ ([.s d,.s p,.i (cF a)]++[.i 3,.i 0,.i 0,.i dL,.s .nil,.s .nil,.s e]):=dF.aV (m:=m8) (o:=0) (r:=[.s d,.s p,.i (cF a),.i 3,.i 0,.i 0,.i dL,.s .nil,.s .nil,.s e]) (dF.push P _ _);have aa:=N.lo;have s9:=I.aQ;have s7:=B.aQ;exact R h s (N.LO I) V (t.ext I) V kb
  .intro ac;obtain⟨P,ak⟩:=pu ac;have I:=h.J P;have y:=ks h P;have kz:dF ac H.size cQ [.s .nil,.s .nil,.i 0,.i 0,.i 0,.i 0,.i 0,.s .nil,.s .nil,.s .nil]:=dF.push H _ _;refine⟨y.1,y.2,y.1,y.1,y.2,?_⟩;refine(pw (z.ext I) A dL).aP ?_;rintro _ ae ⟨e,rfl,B,b1,b2,b3,b4,k,s,N,F,t⟩;have Y:=ks I B;refine⟨U I B V,_,_,_,_,_,_,_,O,Y.1,Y.2,?_⟩;intro af;have aa:=N.lo;have ag:=N.bV P (nb:=H.size) bY V 0 [.s d,.s p,.i (cF a),.i 3,.i 0,.i 0,.i dL,.s .nil,.s .nil,.s e];have kb:dF af H.size cQ ([.s d,.s p,.i (cF a)]++[.i 3,.i 0,.i 0,.i dL,.s .nil,.s .nil,.s e]):=dF.aV (m:=ae) (o:=0) (r:=[.s d,.s p,.i (cF a),.i 3,.i 0,.i 0,.i dL,.s .nil,.s .nil,.s e]) (kz.ext B);have al:af.size=ae.size:=bD _ _ _ _;exact R h s ag V (t.congr (cq _ _ _ _ V)) V kb
 .intro Y;obtain⟨y,ak⟩:=pu Y;have B:=ks cY y;have kz:dF Y f.size cQ [.s .nil,.s .nil,.i 0,.i 0,.i 0,.i 0,.i 0,.s .nil,.s .nil,.s .nil]:=dF.push f _ _;refine⟨B.1,B.2,B.1,B.1,B.2,?_⟩;refine(X y).aP ?_;rintro _ ag ⟨rfl,h⟩;have C:=y.J h;have H:=ks y h;have al:=h.aQ;refine⟨U y h V,_,O,H.1,H.2,H.1,H.2,?_⟩;refine(pw (z.ext C) A dL).aP ?_;rintro _ ac ⟨e,rfl,I,b1,b2,b3,b4,k,s,N,F,t⟩;have P:=ks C I;refine⟨U C I V,_,_,_,_,_,_,_,O,P.1,P.2,?_⟩;intro ae;have aa:=N.lo;have af:=N.bV C (nb:=f.size) bY V 0 [.s d,.s p,.i (cF a),.i 3,.i 0,.i 0,.i dL,.s .nil,.s .nil,.s e];have kb:dF ae f.size cQ ([.s d,.s p,.i (cF a)]++[.i 3,.i 0,.i 0,.i dL,.s .nil,.s .nil,.s e]):=dF.aV (m:=ac) (o:=0) (r:=[.s d,.s p,.i (cF a),.i 3,.i 0,.i 0,.i dL,.s .nil,.s .nil,.s e]) (kz.ext (h.J I));have am:ae.size=ac.size:=bD _ _ _ _;exact R cY s af V (t.congr (cq _ _ _ _ V)) V kb
end
end Go.Proofs.YtbbbdejieenniaaGreat
section
namespace Go.Vc
def zT{m:bh}{b o:Nat}{v:Value}(h:(aS m b o).isSome=true):aS (vf m b o v) b o=some v:=by
 grind [aS,vf,Array.size,Nat.lt_or_ge,Array.getElem?_eq_none]
def PN{m:bh}{c o a b:Nat}{v:Value}(h:a≠c\/b≠o):aS (vf m c o v) a b=aS m a b:=by
 grind [aS,vf,bE,QA]
def Wd{m:bh}{c o:Nat}{v:Value}{a b:Nat}:CJ (vf m c o v) a b=CJ m a b:=by
 grind [CJ,vf,QA]
@[grind cases] structure Rg (m:bh) (k:Int) (pos:ao) (m':bh):Prop where
 aQ:m.size<=m'.size
 bu:∀b,b<m.size->(∀p∈pos,p.1≠b)->m'[b]? =m[b]?
 gZ:∀b o,b<m.size->(b,o)∉pos->aS m' b o=aS m b o
 CJ:∀b o,b<m.size->Vc.CJ m' b o=Vc.CJ m b o
 rV:∀p∈pos,∃n,aS m' p.1 p.2=some (vi n)
 aeJ:pos.Nodup->∀(j:Nat)(p:ai),pos[j]? =some p->aS m' p.1 p.2=some (vi (k+j))
def Rg.gN{m c:bh}(h:D m c)(k:Int):Rg m k [] c:=
 ⟨h.aQ,λb a _=>h.bG b a,λb o a _=>bE (h.bG b a) o,λb o a=>by unfold Vc.CJ;rw[h.bG b a],bO,bO⟩
def Rg.mM{m:bh}{b o:Nat}(h:(aS m b o).isSome=true)(k:Int):Rg m k [(b,o)] (aV m b o [.i k]):=by
 refine⟨No (bD _ _ _ _).symm,λc d f=>cq _ _ _ _ λe=>f (b,o) bO e.symm,λc q d f=>?_,λc q d=>Wd,λp a=>?_,λ_ j p a=>?_⟩
 .refine PN ?_;grind
 .simp at a;subst a;exact⟨k,zT h⟩
 .cases j with
  |zero=>
   simp at a;subst a;have e:k+((0:Nat):Int)=k:=V;rw[e];exact zT h
  |succ j=>simp at a
def Rg.J{m f i:bh}{k:Int}{e p2:ao}(h:Rg m k e f)(g:Rg f (k+e.length) p2 i):Rg m k (e++p2) i:=by
 have j:=h.aQ;refine⟨fC h.aQ g.aQ,λb c d=>?_,λb o c d=>?_,λb o c=>?_,λp a=>?_,λhd l p a=>?_⟩
 .rw[g.bu b V λp a=>d p (mW _ a),h.bu b c λp a=>d p (dN _ a)]
 .grind [Rg.gZ,List.mem_append_right,List.mem_append_left]
 .grind [Rg.CJ]
 .grind [Rg.rV,Rg.gZ,rT]
 .grind [List.nodup_append,List.length,List.getElem?_append_left,List.mem_of_getElem?,Rg.rV,Rg.gZ,rT,Rg.aeJ,List.getElem?_append_right]
inductive Row where
 |nil
 |int (r:Row)
 |sl (e r:Row)
def Row.aQ:Row->Nat
 | .nil=>0
 | .int r=>r.aQ+1
 | .sl _ r=>r.aQ+1
inductive Y2 where
 |kY (r:Row)
 |Mr (e:Row) (n:Nat)
inductive yl(m:bh):Y2->Nat->Nat->ao->Prop where
 |nil (b o:Nat):yl m (.kY .nil) b o []
 |int {b o:Nat} {r:Row} {p:ao} {n:Int} (h:aS m b o=some (vi n)) (hf:Vc.CJ m b o=false) (hr:yl m (.kY r) b (o+1) p):yl m (.kY (.int r)) b o ((b,o)::p)
 |sl {b o:Nat} {e r:Row} {p1 p2:ao} {s:E} (h:aS m b o=some s.v) (hl:s.len<=9223372036854775807) (he:yl m (.Mr e s.len) s.bu s.off p1) (hr:yl m (.kY r) b (o+1) p2):yl m (.kY (.sl e r)) b o (p1++p2)
 |zero (e:Row) (b o:Nat):yl m (.Mr e 0) b o []
 |succ {b o n:Nat} {e:Row} {p1 p2:ao} (he:yl m (.kY e) b o p1) (hr:yl m (.Mr e n) b (o+e.aQ) p2):yl m (.Mr e (n+1)) b o (p1++p2)
def yl.oL{m:bh}{K:Y2}{f o:Nat}{e:ao}(h:yl m K f o e):∀p∈e,∃n,aS m p.1 p.2=some (vi n):=by
 induction h with
 |nil=>simp
 |int h c d b=>
  intro p a;rcases bo.1 a with rfl|a
  .exact⟨_,h⟩
  .exact b p a
 |sl h i g d b c=>
  intro p a;rcases bU.1 a with a|a
  .exact b p a
  .exact c p a
 |zero=>simp
 |succ g d b c=>
  intro p a;rcases bU.1 a with a|a
  .exact b p a
  .exact c p a
def yl.lt{m:bh}{K:Y2}{b o:Nat}{a:ao}(h:yl m K b o a):∀p∈a,p.1<m.size:=λp d=>let⟨_,c⟩:=h.oL p d;rT c
theorem aah(n:Int)(s:E):vi n≠s.v:=by cases s<;>simp[vi,E.v]
def yl.afi{m f:bh}{r:Int}{q:ao}(i:Rg m r q f)(u:∀p∈q,∃n,aS m p.1 p.2=some (vi n)){K:Y2}{b o:Nat}{g:ao}(h:yl m K b o g):yl f K b o g:=by
 induction h with
 |nil=>exact .nil _ _
 | @int b o t p n h a e c=>
  have d:=rT h;by_cases l:(b,o)∈q
  .grind [Rg.rV,yl.int,Rg.CJ]
  .grind [yl.int,Rg.gZ,Rg.CJ]
 | @sl b o p t v p2 n h k j e a c=>
  have d:=rT h;refine .sl (s:=n) ?_ k a c;rw[i.gZ b o d λl=>?_]
  .exact h
  .grind [aah,Option.some.inj]
 |zero=>exact .zero _ _ _
 |succ j e a c=>exact .succ a c
def yl.ext{m a:bh}(d:D m a){K:Y2}{b o:Nat}{c:ao}(h:yl m K b o c):yl a K b o c:=h.afi (Rg.gN d 0) bO
end Go.Vc
namespace Go.Proofs.YtbbbdejieenniaaGreat
open Go.Vc
end Go.Proofs.YtbbbdejieenniaaGreat
end
namespace Go.Proofs.YtbbbdejieenniaaGreat
open Go.Vc
section
section
variable{m:bh}{s t:E}{l r:ab}
def Kx(c:be m s l)(e:be m t r):fX dO 32 [s.v,t.v] m (l=r):=by
 apply Et;have o:=c.aT;have v:=e.aT;refine⟨λi=>fy (λh=>?_) cY,λi=>?_⟩
 .grind
 .have u:l.length=r.length:=cB;refine gP (n:=l.length) (o▸c.kM) (λk a=>D m a/\l.take k=r.take k) ⟨cY,bO⟩ ?_;rintro k w I μ q ⟨a,j⟩ p
  refine⟨λd=>?_,λd=>?_⟩
  .simp only[bg]at d;let⟨y,f⟩:=dU l k;let⟨z,g⟩:=dU r k;refine⟨V,V,y,by simpa using a.aS (c.bt f),V,V,z,by simpa using a.aS (e.bt g),λb=>fy (λh=>?_) a,λb=>p V _ ⟨a,?_⟩⟩
   .grind
   .simp at b;rw[bX f,bX g,j,b]
  grind [decide_eq_false_iff_not,eQ]
def Eu(o:be m s l)(p:be m t r)(c b f d e g:Int):fX dO 10 [.agg #[vi c,vi b,vi f,s.v],.agg #[vi d,vi e,vi g,t.v]] m (c=d/\b=e/\f=g/\l=r):=by
 apply Aj;simp -zeta only[dR];intro q u;let⟨a,n⟩:=fU (a:=q) (c:=u) O O;refine⟨λi=>⟨λj=>⟨λk=>?_,λk=>fy (λh=>by simp[h]at k) a⟩,λj=>fy (λh=>by simp[h]at j) a⟩,λi=>fy (λh=>by simp[h]at i) a⟩;exact(Kx (o.ext a) (p.ext a)).bL cY n λb w v h _=>⟨b,O,kX cB (a.J h)⟩
end
variable{m:bh}{b P:Nat}{c:E}{a:ad}
def OO(d:Rd b c P m)(i:P+2<=10^16):bK dO 46 [vp b 0] m λv f=>(∃k,v=vi k)/\Fz [b] m f:=by
 apply Hx (b,0);refine(dW d V 12).aP λ_ j⟨k,e,_,_,g,a⟩=>⟨k,e,?_⟩;intro l;refine(HZ (Rs.mk a g) V [40,40,k,0,3,20,40,41,-1] O O bO).aP λ_ n⟨t,e,_,h,_⟩=>⟨t,e,⟨t,O⟩,h.f⟩
def JR.ext{a:bh}{eA:E}(h:JR m eA)(x:D m a):JR a eA:=⟨h.1,λk d=>let⟨v,b,c,g⟩:=h.2 k d;⟨v,b,c,x.aS g⟩⟩
def DR(a:ad)(m:bh)(v:Value)(b:bh):Prop:=∃d p c k,v=.tuple #[.agg #[d.v,p.v],vi k]/\gY (dA a b) d p c/\D m b
def De{eA:E}(z:JR m eA)(J:∀l∈a,l<m.size):bK dO 23 [eA.v] m (DR a m):=by
 apply yv;simp -zeta only[dR];intro b;obtain⟨i,P⟩:=pu b;refine(MO (z.ext i)).aP λ_ M⟨c,e,v,j⟩=>⟨j.eW cB,(b.size,0),e,?_⟩;have L:=v.lt;have Q:=j.aQ;refine(Oh (a:=m.size::b.size::a) (λl K=>?_) bO v (by simp[Cg])).aP λ_ h⟨n,u,x,e,w,_,H,g⟩=>⟨g.eW cB,n,u,e,?_⟩
 .grind
 have R:=g.aQ;intro N s;have k:D h s:=by grind [D.push,D.aV]
 have T:s.size=h.size+1:=by grind [bD]
 refine(OO (H.ext k) (by simp[Cg])).aP λ_ t⟨⟨q,e⟩,d⟩=>⟨d.eW cB,q,e,bE (d.bG _ V cB) _,bE (d.bG _ V cB) _,?_⟩;intro F;have r:Le (dA (m.size::b.size::a) h) (dA a F):=λf G I C=>by
  let⟨A,B⟩:=iO.1 C;have:=d.fj (S:=m.size::b.size::a) bO f G I (iO.2 ⟨A,k.aS B⟩);grind [iO,bE,cq]
 have o:Fz [b.size] b t:=(((j.fz _).J g).J (k.fz _)).J d;have y:D m t:=⟨by have:=o.aQ;omega,λf p=>(o.bG f (i.lt p) cB).trans (i.bG f p)⟩;exact⟨n,u,⟨x.1,x.2⟩,q,O,⟨w.1.le r,mh.le r w.2⟩,y.aV bY _ _⟩
def IY{eA:E}(h:JR m eA):bK dO 7 [eA.v] m (DR [] m):=by
 apply BC;simp -zeta only[dR];intro i;obtain⟨c,r⟩:=pu i;refine(De (a:=[m.size]) (h.ext c) cB).aP λ_ j⟨d,p,g,k,f,a,e⟩=>⟨e.eW cB,d,p,k,f,?_⟩;intro l;have b:Le (dA [m.size] j) (dA [] l):=λn q v o=>by
  grind [iO,bE,cq]
 exact⟨d,p,g,k,O,⟨a.bT.le b,mh.le b a.di⟩,(c.J e).aV bY _ _⟩
end
section
variable{n b:Nat}{f:Nat->Int}{d:an}{e:da}{s:St}
def CA(n:Nat)(f:Nat->Int):ab:=(List.range n).map f
theorem zc(n:Nat)(f:Nat->Int):(CA n f).length=n:=by simp[CA]
theorem O6(h:b<n):(CA n f)[b]? =some (f b):=by
 grind [CA,List.getElem?_range]
theorem mF{g:Nat->Int}(h:∀b,b<n->f b=g b):CA n f=CA n g:=by
 grind [CA,List.map_congr_left]
theorem XR(v:Int):(CA n f).set b v=CA n (λa=>if a=b then v else f a):=by
 apply fq;grind [O6,List.getElem?_set_self,zc,List.getElem?_set_ne,List.getElem?_eq_none,List.length_set]
theorem YL(n:Nat):CA n (λ_=>0)=eP n:=by
 unfold CA eP;rw[List.map_const'];simp
@[grind cases] structure VK (h:ah):Prop where
 mG:pZ h
 jH:∀c∈h,sB h c
 jz:∀(a:Nat)(c:dt),h[a]? =some c->0<c.bS->jz h a<=c.bS
 CI:acE h
@[grind cases] structure Pn (h:ah) (f:bW):Prop where
 eR:∀(k:Nat)(w o:Int),f.aU[k]? =some w->f.bI[k]? =some o->(lg w\/1000<=w)/\(0<=o/\o<=999999)/\(0<o->iI h w)
@[grind cases] structure T9 (im:da) (h:ah) (prev:Option bW) (f:bW):Prop where
 fP:0<=f.fP/\f.fP<im.di.length
 pc:0<=f.pc/\f.pc<(dG im f.fP).eA.length
 lr:(f.aU.length:Int)=(dG im f.fP).aU
 lo:(f.bI.length:Int)=(dG im f.fP).aU
 lh:(f.cC.length:Int)=(dG im f.fP).aU
 aU:Pn h f
 first:prev=none->f.bH=0
 xz:∀p,prev=some p->0<=f.bH/\f.bH<p.bI.length/\bt p.bI f.bH=0
def EA(d:an):Nat->Option bW
 |0=>none
 |k+1=>d[k]?
@[grind cases] structure YZ (h:ah) (fs:an):Prop where
 dQ:∀f∈fs,∀w∈f.cC,w=0\/(1000<=w/\ix w<h.length)
 eO:∀(i:Nat)(c:dt),h[i]? =some c->c.bS<0->eU fs i=1
 qV:∀(i:Nat)(c:dt),h[i]? =some c->0<=c.bS->eU fs i=0
@[grind cases] structure Nr (im:da) (s:St):Prop where
 iG:iB im
 eC:0<=s.eC/\s.eC<=3
 cy:s.eC=0<->s.bq=[]
 iQ:lg s.iQ
 Cj:s.iQ≠0->s.eC=0
 dL:0<=s.dL/\s.dL<=40
 dg:0<=s.dg/\s.dg<=s.dL
 kU:(s.bq.length:Int)<=s.dg+1
 cw:∀n∈s.cw,lg n
 aR:VK s.aR
 bq:∀(k:Nat)(f:bW),s.bq[k]? =some f->T9 im s.aR (EA s.bq k) f
 cC:YZ s.aR s.bq
 ZA:∀(a:Nat)(c:dt),s.aR[a]? =some c->0<c.bS->c.bS=jz s.aR a+jX s.bq a
def UU:∀{d:an}{b:Nat},0<jX d b->∃f∈d,0<fA f.aU f.bI b
 |[],b,h=>by simp[jX]at h
 |f::d,b,h=>by
  simp only[jX]at h;by_cases c:0<fA f.aU f.bI b
  .exact⟨f,bO,c⟩
  .let⟨g,e,i⟩:=UU (d:=d) (b:=b) V;grind
def Sp:∀{aU bI:ab}{b:Nat},0<fA aU bI b->∃(k:Nat)(o:Int),aU[k]? =some (1000+(b:Int))/\bI[k]? =some o/\0<o
 |[],bI,b,h=>by simp[fA]at h
 |_::_,[],b,h=>by simp[fA]at h
 |r::i,o::g,b,h=>by
  simp only[fA]at h;by_cases a:r=1000+(b:Int)/\0<o
  .exact⟨0,o,by simp[a.1],O,a.2⟩
  .have:0<fA i g b:=by
    split at h
    .grind
    .omega
   let⟨k,f,c,d,e⟩:=Sp this;exact⟨k+1,f,sp c,sp d,e⟩
def aaV{f:bW}(a:f∈d)(c:∀g∈d,0<=fA g.aU g.bI b):fA f.aU f.bI b<=jX d b:=by
 induction d with
 |nil=>simp at a
 |cons g d e=>
  have k:0<=jX d b:=by
   clear e a;induction d with
   |nil=>simp[jX]
   |cons q d h=>
    have i:=c q bO;have j:=h (λx l=>c x cB);simp only[jX];omega
  simp only[jX];rcases bo.1 a with rfl|a
  .omega
  .grind
def Z0(a:∀g∈d,0<=fA g.aU g.bI b):0<=jX d b:=by
 induction d with
 |nil=>simp[jX]
 |cons q d e=>
  have f:=a q bO;have g:=e λx c=>a x (by simp[c]);simp only[jX];omega
def UJ{f:bW}(a:f∈d):iW f.cC b<=eU d b:=by
 induction d with
 |nil=>simp at a
 |cons g d c=>
  simp only[eU];rcases bo.1 a with rfl|a
  .have:=zU d b;omega
  .have:=c a;have:=lC g.cC b;omega
def PU(h:∀f∈d,∀w∈f.cC,w≠1000+(b:Int)):eU d b=0:=by
 induction d with
 |nil=>rfl
 |cons g d e=>
  simp only[eU];rw[e λf a=>h f (by simp[a]),rX λc=>h g bO _ c O];rfl
def Me{f:bW}(h:f∈d):∃k:Nat,d[k]? =some f:=cH.1 h
def WV(h:Nr e s):dZ e s:=by
 have r:∀f∈s.bq,∃p,T9 e s.aR p f:=λf c=>let⟨k,d⟩:=Me c;⟨_,h.bq k f d⟩;have z:∀b,∀g∈s.bq,0<=fA g.aU g.bI b:=λb g t=>by
  let⟨p,a⟩:=r g t;refine vd (λo n=>?_) b;let⟨k,d⟩:=cH.1 n;have u:=br d;have j:=a.lr;have q:=a.lo;let⟨w,i⟩:=dU g.aU k;grind [T9.aU,Pn.eR]
 refine⟨h.iG,h.eC,h.cy,h.iQ,h.Cj,h.dL,h.dg,h.kU,h.cw,⟨h.aR.jH,h.aR.CI,h.ZA,λb=>Z0 (z b),λb y=>?_⟩,h.aR.mG,λf c=>?_,λf c=>(h.bq 0 f c).first O,λk f g c t=>(h.bq (k+1) g t).xz f c,λb⟨l,m,v⟩=>h.cC.eO b l m v,λb d=>?_⟩
 .let⟨f,c,a⟩:=UU y;let⟨k,o,j,q,x⟩:=Sp a;let⟨p,a⟩:=r f c;have:=((a.aU.eR k _ o j q).2.2 x).2;rwa[sK]at this
 .let⟨p,a⟩:=r f c;refine⟨a.fP,a.pc,a.lr,a.lo,a.lh,λw i=>?_,λk o w n i=>?_,λw i=>?_⟩
  .let⟨k,d⟩:=cH.1 i;have u:=br d;have j:=a.lr;have q:=a.lo;let⟨o,n⟩:=dU f.bI k;grind [T9.aU,Pn.eR]
  .have:=a.aU.eR k w o i n;exact⟨this.2.1.1,λx=>(this.2.2 x).1⟩
  grind [Nr.cC,YZ.dQ]
 .rcases dJ b s.aR.length with u|A
  .let⟨l,m⟩:=gD u;refine h.cC.qV b l m (Int.not_lt.1 λv=>d ⟨l,m,v⟩)
  .refine PU λf c w i x=>?_;rcases h.cC.dQ f c w i with j|j
   .omega
   .have:=j.2;rw[x,sK]at this;omega
theorem Zk(h:dZ e s):Nr e s:=by
 have C:∀b,∀p∈s.bq,0<=fA p.aU p.bI b:=λb p A=>vd (h.bq p A).Ql b;have B:∀f∈s.bq,∀(k:Nat)(w o:Int),f.aU[k]? =some w->f.bI[k]? =some o->0<o->iI s.aR w/\o<=999999:=λf c k w o i n D=>by
  have m:=((h.bq f c).bI k o w n i).2 D;have x:=lD m;have y:=KE (h.bq f c).Ql i n (c:=ix w) x.symm;have z:=aaV c (C (ix w));have r:=h.aR.lv (ix w) V;let⟨j,g,d⟩:=r;have H:=h.aR.ex _ j g d;have I:=yS s.aR (ix w);have J:=(h.aR.gZ j (aZ g)).hi;exact⟨⟨m,j,g,d⟩,V⟩
 refine⟨h.iG,h.eC,h.cy,h.iQ,h.Cj,h.dL,h.dg,h.kU,h.cw,⟨h.mG,h.aR.gZ,λb j g d=>?_,h.aR.CI⟩,λk f c=>?_,⟨λf c w i=>?_,λq j g u=>h.eO q ⟨j,g,u⟩,λq j g u=>h.qV q λ⟨G,K,L⟩=>?_⟩,h.aR.ex⟩
 .grind [dZ.aR,jd.ex]
 .have t:=aZ c;have F:=h.bq f t;refine⟨F.fP,F.pc,F.lr,F.lo,F.lh,⟨λv w o i n=>⟨F.XJ w (aZ i),⟨(F.bI v o w n i).1,?_⟩,λd=>(B f t v w o i n d).1⟩⟩,λd=>?_,λE d=>?_⟩
  .grind [Int.lt_or_le]
  .cases k with
   |zero=>exact h.first f c
   |succ k=>
    simp only[EA]at d;have:=br c;rw[aar]at d;omega
  .cases k with
   |zero=>simp[EA]at d
   |succ k=>exact h.uJ k E f d c
 .rcases(h.bq f c).cC w i with m|m
  .exact bC m
  .refine bR ⟨m,Nat.lt_of_not_le λt=>?_⟩;have y:=h.qV (ix w) λ⟨j,g,_⟩=>by have:=br g;omega
   have z:=UJ c (b:=ix w);have r:=wG (l:=f.cC) (f:=ix w) (by rw[lD m];exact i);omega
 .grind
end
section
variable{M:bh}{b n a:Nat}{f:Nat->Int}
def Re(w:Int):Prop:=-9223372036854775808<=w/\w<=9223372036854775807
def adt(h:ah):Prop:=∀c∈h,∀w∈c.bJ,Re w
def JN(B:dF M b bB ((CA n f).map Ce.i))(h:a<n):aS M b a=some (vi (f a)):=by
 rw[B.dx a,eJ,O6 h];rfl
def WW(B:dF M b bB ((CA n f).map Ce.i))(a:Nat)(v:Int):dF (aV M b a [.i v]) b bB ((CA n (λx=>if x=a then v else f x)).map Ce.i):=by
 have:=B.aV (m:=M) (o:=a) (r:=[.i v]);grind [Ao,XR]
def aac(B:dF M b bB ((CA n f).map Ce.i))(h:a<n):jb M b a 1:=by grind [dF.jb,zc]
def aa1(B:dF M b bB ((CA n f).map Ce.i))(h:n<=9223372036854775807):be M (.mk b 0 n n) (CA n f):=
 ⟨by simp[zc],bY,h,λk x a=>⟨[.i x],O,λi e c=>by
  have d:k<n:=by have:=br a;rwa[zc]at this
  rw[O6 d]at a;simp at a;cases i with
  |zero=>simp at c;subst c;have:=JN B d;rw[a]at this;simpa[Ce.v]using this
  |succ i=>simp at c⟩⟩
def aab(M:bh):dF (M.push (.cells (db (na [.i (0:Int)] n)) bB)) M.size bB ((CA n (λ_=>0)).map Ce.i):=by
 grind [pI,YL,dF.push]
def YD{h:ah}{i:Nat}{c:dt}(b:h[i]? =some c)(a:Nat):jz (h.take (i+1)) a=jz (h.take i) a+iW c.bJ a:=by
 rw[bX b,yR];simp[jz]
def KB{l:ab}{k:Nat}{w:Int}(b:l[k]? =some w)(a:Nat):iW (l.take (k+1)) a=iW (l.take k) a+(if w=1000+(a:Int)then 1 else 0):=by
 rw[bX b,pB];simp[iW]
def O0:∀(h:ah)(a:Nat),(∀c∈h,c.bJ.length<=3)->jz h a<=3*h.length
 |[],a,_=>by simp[jz]
 |c::h,a,b=>by
  have e:=O0 h a λd hd=>b d (by simp[hd]);have f:=pC c.bJ a;have g:=b c bO;grind [jz,List.length_cons]
end
section
variable{a b:Nat}
def vC(mk:Nat->Bool):Nat->Nat
 |0=>0
 |n+1=>vC mk n+(if mk n=true then 1 else 0)
def OS(mk:Nat->Bool):∀n,vC mk n<=n
 |0=>bY
 |n+1=>by have:=OS mk n;simp only[vC];split<;>omega
def Um{mk:Nat->Bool}:∀{a:Nat},(vC mk a=a<->∀i,i<a->mk i=true)
 |0=>by simp[vC]
 |a+1=>by
  have b:=OS mk a;have c:=Um (mk:=mk) (a:=a);grind [vC,Nat.lt_or_ge]
theorem PA{mk a:Nat->Bool}:∀{n:Nat},(∀i,i<n->mk i=a i)->vC mk n=vC a n
 |0,_=>O
 |n+1,h=>by simp only[vC];rw[PA λi b=>h i V,h n V]
def sa(mk:Nat->Bool)(a:Nat):Nat->Bool:=λx=>if x=a then true else mk x
theorem Mt(mk:Nat->Bool)(a:Nat):sa mk a a=true:=bn O
theorem wI{mk:Nat->Bool}(h:b≠a):sa mk a b=mk b:=aW h
theorem Gg{mk:Nat->Bool}(h:mk b=true):sa mk a b=true:=by grind [sa]
def J5{mk:Nat->Bool}{a:Nat}(h:mk a=false):∀{n:Nat},a<n->vC (sa mk a) n=vC mk n+1
 |0,c=>absurd c (mI _)
 |n+1,c=>by
  simp only[vC];rcases dJ a n with b|b
  .rw[J5 h b,wI V];omega
  .grind [Mt,PA,wI]
def Y3(h:ah)(mk:Nat->Bool):Prop:=
 ∃t:ag,(∀j,mk j=true->t j<=vC mk h.length)/\∀(i:Nat)(c:dt),h[i]? =some c->mk i=true->∀w∈c.bJ,1000<=w->mk (ix w)=true/\t (ix w)<t i
def aeT(mk:Nat->Bool)(a:ab):Prop:=∀w∈a,1000<=w->mk (ix w)=true
def Y3.dX{h:ah}{mk:Nat->Bool}(k:Y3 h mk){c:dt}(b:h[a]? =some c)(e:mk a=false)(f:aeT mk c.bJ):Y3 h (sa mk a):=by
 let⟨t,o,p⟩:=k;have j:=br b;have n:=J5 e j;refine⟨λx=>if x=a then vC mk h.length+1 else t x,λv r=>?_,λi d hd q w m l=>?_⟩
 .grind [wI]
 .by_cases g:i=a
  .subst g;rw[b]at hd;simp at hd;subst hd;have u:=f w m l;have s:ix w≠i:=cB;grind [Gg]
  grind [wI,ix,Gg]
end
@[grind cases] structure j9 (m:bh) (cw hp fr:E) (s:St):Prop where
 cw:be m cw s.cw
 aR:gC m hp s.aR
 bq:oZ m fr s.bq
def j9.ext{m d:bh}{cw c b:E}{s:St}(h:j9 m cw c b s)(a:D m d):j9 d cw c b s:=⟨h.cw.ext a,gC.ext a h.aR,oZ.ext a h.bq⟩
def aau(f:bW):Prop:=(∀w∈f.aU,Re w)/\(∀w∈f.bI,Re w)/\(∀w∈f.cC,Re w)
@[grind cases] structure Rc (s:St):Prop where
 dg:Re s.dg
 aR:adt s.aR
 bq:∀f∈s.bq,aau f
 lh:s.aR.length<=10000000
 lf:s.bq.length<=10000000
 lr:∀f∈s.bq,f.aU.length<=10000000/\f.bI.length<=10000000/\f.cC.length<=10000000
def stV(s:St)(cw b a:E):Value:=.agg #[vi s.eC,vi s.iQ,vi s.dg,vi s.dL,cw.v,b.v,a.v]
section
variable{a:an}{i:Nat}{f:bW}
theorem Wp(c:a[i]? =some f)(b:Nat):eU (a.take (i+1)) b=eU (a.take i) b+iW f.cC b:=by
 rw[bX c,iT,lU]
theorem YB(c:a[i]? =some f)(b:Nat):jX (a.take (i+1)) b=jX (a.take i) b+fA f.aU f.bI b:=by
 rw[bX c,jL,nR]
def IN:∀{aU bI:ab}{a:Nat}{w o:Int},aU[a]? =some w->bI[a]? =some o->∀b,fA (aU.take (a+1)) (bI.take (a+1)) b=fA (aU.take a) (bI.take a) b+(if w=1000+(b:Int)then o else 0)
 |[],_,_,_,_,h,_,_=>by simp at h
 |_::_,[],_,_,_,_,h,_=>by simp at h
 |r::f,p::e,0,w,o,c,d,b=>by simp at c d;subst c;subst d;simp[fA]
 |r::f,p::e,a+1,w,o,c,d,b=>by
  have:=IN (aU:=f) (bI:=e) (a:=a) (sp c) (sp d) b;grind [fA]
def UK:∀{a:an}{n:Nat},(∀f∈a,f.cC.length<=n)->∀b,eU a b<=a.length*n
 |[],n,_,b=>by simp[eU]
 |f::a,n,h,b=>by
  have c:=UK (a:=a) λg d=>h g (by simp[d]);have e:=c b;have i:=pC f.cC b;have j:=h f bO;simp only[eU,dy];have:((a.length+1:Nat):Int)*n=a.length*n+n:=by push_cast;rw[aeM];omega
  omega
def Qm:∀{aU bI:ab}{n:Int},0<=n->(∀o∈bI,0<=o/\o<=n)->∀a,0<=fA aU bI a/\fA aU bI a<=bI.length*n
 |[],bI,n,b,h,a=>by simp[fA];exact Int.mul_nonneg V b
 |_::_,[],n,b,h,a=>by simp[fA]
 |r::e,o::c,n,b,h,a=>by
  have f:=Qm (aU:=e) (bI:=c) b (λx d=>h x (by simp[d])) a;have d:=h o bO;have:((c.length+1:Nat):Int)*n=c.length*n+n:=by push_cast;rw[aeM];omega
  grind [fA,List.length_cons]
def XH:∀{a:an}{n:Nat}{k:Int},0<=k->(∀f∈a,f.bI.length<=n/\∀o∈f.bI,0<=o/\o<=k)->∀b,0<=jX a b/\jX a b<=a.length*(n*k)
 |[],n,k,_,_,b=>by simp[jX]
 |f::a,n,k,c,h,b=>by
  have e:=XH (a:=a) c (λg d=>h g (by simp[d])) b;let⟨j,d⟩:=h f bO;have g:=Qm (aU:=f.aU) c d b;have i:(f.bI.length:Int)*k<=n*k:=Int.mul_le_mul_of_nonneg_right V c;have:((a.length+1:Nat):Int)*(n*k)=a.length*(n*k)+n*k:=by push_cast;rw[aeM];omega
  grind [jX,List.length_cons]
variable{m:bh}{d p cw c b:E}{e:da}{s:St}
end
section
variable{m:bh}{d p cw b a:E}{c:da}{s:St}
@[grind cases] structure acK (h:ah) (fs:an):Prop where
 aT:∀f∈fs,f.bI.length=f.aU.length
 aU:∀f∈fs,Pn h f
def acK.bI{h:ah}{a:an}(H:acK h a){f:bW}(b:f∈a):∀o∈f.bI,0<=o/\o<=999999:=λo d=>by
 let⟨k,c⟩:=cH.1 d;let⟨w,e⟩:=dU f.aU k (VE (br c) (H.aT f b));grind [acK.aU,Pn.eR]
end
section
variable{m:bh}{b:ah}{w:Int}{d:dt}{a:Nat}{W:ad}{e:Nat->Int}
def uN(n:Int)(m:bh):fX dO 122 [vi n] m (lg n):=by
 apply LX;refine⟨λb=>kX ?_ cY,λb=>fy (λa=>?_) cY⟩
 .simp at b;simp[lg,b]
 .simp at b;have:=a.1;omega
def Kv{f:E}(d:gC m f b)(j:Re w):fX dO 219 [f.v,vi w] m (vK b w):=by
 apply Ep;refine(kL d j.2).aP ?_;rintro _ k ⟨a,h,rfl,e,_,g⟩;refine⟨a,h,O,λc=>oO (bR (e.1 c)) g,λc=>?_⟩;refine(uN w k).cg λb2 n i l=>⟨b2,O,kX ?_ (g.J l)⟩;rw[i];exact⟨bC,λd=>d.resolve_right (fb e c)⟩
@[grind cases] structure Np (h:ah) (c:dt):Prop where
 lo: -1<=c.bS
 jx:0<=c.jx/\c.jx<=99
 fl:c.bJ.length<=3
 LN:c.bS<1->c.jx=0
 kW:c.bS=0->c.bJ=[]
 dQ:∀w∈c.bJ,vK h w/\(c.bS<0->w=0)
def Np.ok(a:Np b d)(e:d.bS<=999999):sB b d:=
 ⟨a.fl,a.lo,e,λhd=>⟨a.LN hd,λw c=>by
  by_cases f:d.bS<0
  .exact(a.dQ w c).2 f
  .rw[a.kW V]at c;simp at c,a.kW⟩,λ_=>⟨λw c=>(a.dQ w c).1,a.jx⟩⟩
def sB.v(a:sB b d):Np b d:=by
 refine⟨a.lo,?_,a.fl,λhd=>(a.LN hd).1,λe=>(a.LN V).2.2 e,λw c=>⟨?_,λf=>(a.LN V).2.1 w c⟩⟩
 .grind [sB.wW,sB.LN]
 .by_cases g:0<d.bS
  .grind [sB.wW]
  .have:=(a.LN V).2.1 w c;exact bC (by subst this;exact⟨cD,cD⟩)
def Np.cases(c:Np b d)(e:w∈d.bJ):iI b w\/w<1000:=by
 rcases(c.dQ w e).1 with a|a
 .have:=a.2;exact bR V
 .exact bC a
def Kh{z j:E}(G:gC m z b)(x:be m j d.bJ)(I:∀w∈d.bJ,Re w):fX dO 187 [z.v,.agg #[vi d.bS,vi d.jx,j.v]] m (Np b d):=by
 apply Eg;simp -zeta only[dR];intro g;obtain⟨e,P⟩:=pu g;clear_value g;have y:=x.aT;have H:∀C∈[m.size],C<g.size:=eX;refine⟨λk=>fy (λc=>by have:=c.lo;simp at k;omega) e,λk=>⟨λl=>fy (λc=>by have:=c.jx;simp at l;omega) e,λl=>⟨λo=>fy (λc=>by have:=c.jx;simp at o;omega) e,λo=>⟨λr=>fy (λc=>by have:=c.fl;simp at r;omega) e,λr=>?_⟩⟩⟩⟩;simp at k l o r;refine⟨λM=>M=g/\(d.bS<1->d.jx=0)/\(d.bS=0->d.bJ=[]),?_,?_⟩
 .have zero:(d.bS<1->d.jx=0)->((d.bS==(0:Int))=true->((decide ((j.len:Int)>(0:Int)))=true->∃a:Bool,vb false=.bool a/\(a=true<->Np b d)/\D m g)/\
   ((decide ((j.len:Int)>(0:Int)))=false->g=g/\(d.bS<1->d.jx=0)/\(d.bS=0->d.bJ=[])))/\((d.bS==(0:Int))=false->g=g/\(d.bS<1->d.jx=0)/\(d.bS=0->d.bJ=[])):=λh=>
   ⟨λf=>⟨λa=>fy (λc=>by have:=c.kW (sp f);rw[this]at y;simp at a y;omega) e,λa=>⟨O,h,λ_=>cp.1 (by simp at a;omega)⟩⟩,λf=>⟨O,h,λa=>by simp at f;exact absurd a f⟩⟩
  refine⟨λf=>⟨λa=>fy (λc=>by have:=c.LN (sp f);simp at a;exact a this) e,λa=>zero λ_=>by simpa using a⟩,λf=>zero λa=>by simp at f;omega⟩
 .rintro J ⟨rfl,hd,F⟩;refine gP (n:=d.bJ.length) V (λv h=>D J h/\∀w∈d.bJ.take v,vK b w/\(d.bS<0->w=0)) ⟨cY,bO⟩ ?_;rintro v N K μ L ⟨q,u⟩ B
  refine dit (λf=>?_) λf=>?_
  .let⟨w,h⟩:=dU d.bJ v;refine⟨V,V,w,by simpa using(x.ext (e.J q)).bt h,(Kv (gC.ext (e.J q) G) (I w (aZ h))).bL q H λb4 A t Q p=>⟨b4,O,λa=>fy (λc=>nb t a (c.dQ w (aZ h)).1) (e.J p),λa=>⟨λs=>⟨λi=>fy (λc=>?_) (e.J p),λi=>B V A ⟨p,dK h u ⟨yb t a,λ_=>by simpa using i⟩⟩⟩,λs=>B V A ⟨p,dK h u ⟨yb t a,λi=>by simp at s;omega⟩⟩⟩⟩⟩;have:=(c.dQ w (aZ h)).2 (sp s);simp at i;exact i this
  .exact oO ⟨k,⟨l,o⟩,V,hd,F,gH V u⟩ (e.J q)
def kD(mk:Nat->Bool):Nat->ah->Nat->Int
 |_,[],_=>0
 |i,d::b,a=>(if mk i=true then 0 else iW d.bJ a)+kD mk (i+1) b a
def IU:∀(i:Nat)(b:ah)(a:Nat),kD (λ_=>false) i b a=jz b a
 |_,[],_=>O
 |i,d::b,a=>by simp[kD,jz,IU (i+1) b a]
def KG(mk:Nat->Bool):∀(i:Nat)(b:ah)(a:Nat),0<=kD mk i b a
 |_,[],_=>dT 0
 |i,d::b,a=>by have:=KG mk (i+1) b a;have:=lC d.bJ a;simp only[kD];split<;>omega
def UZ(mk:Nat->Bool):∀(i:Nat)(b:ah)(a:Nat),kD mk i b a<=jz b a
 |_,[],_=>dT 0
 |i,d::b,a=>by have:=UZ mk (i+1) b a;have:=lC d.bJ a;simp only[kD,jz];split<;>omega
theorem NK{mk e:Nat->Bool}:∀{i:Nat}{b:ah}{a:Nat},(∀j,i<=j->mk j=e j)->kD mk i b a=kD e i b a
 |_,[],_,_=>O
 |i,d::b,a,c=>by simp only[kD];rw[c i bY,NK λj f=>c j V]
def Su{mk:Nat->Bool}:∀{e:Nat}{b:ah}{f:Nat}{d:dt},b[f]? =some d->mk (e+f)=false->∀a,kD (sa mk (e+f)) e b a=kD mk e b a -iW d.bJ a
 |_,[],_,_,b,_,_=>by simp at b
 |e,g::b,0,d,j,l,a=>by
  grind [NK,sa,wI,kD,Mt]
 |e,g::b,f+1,d,j,l,a=>by
  have m:e+(f+1)=e+1+f:=V;have:=Su (mk:=mk) (e:=e+1) (b:=b) (f:=f) (d:=d) cB cB a;grind [kD,wI]
def UY{mk:Nat->Bool}:∀{e:Nat}{b:ah}{f:Nat}{d:dt},b[f]? =some d->mk (e+f)=false->∀a,iW d.bJ a<=kD mk e b a
 |_,[],_,_,b,_,_=>by simp at b
 |e,j::b,0,d,g,l,a=>by
  simp at g;subst g;have:=KG mk (e+1) b a;grind [kD]
 |e,j::b,f+1,d,g,l,a=>by
  have:=UY (mk:=mk) (e:=e+1) (b:=b) (f:=f) (d:=d) cB cB a;have:=lC j.bJ a;grind [kD]
def Ss{mk:Nat->Bool}:∀{i:Nat}{b:ah}{a:Nat},0<kD mk i b a->∃(k:Nat)(d:dt),b[k]? =some d/\mk (i+k)=false/\(1000+(a:Int))∈d.bJ
 |_,[],_,b=>by simp[kD]at b
 |i,c::b,a,e=>by
  simp only[kD]at e;by_cases f:mk i=false/\0<iW c.bJ a
  .exact⟨0,c,O,f.1,Tq f.2⟩
  .have:0<kD mk (i+1) b a:=by
    have:=lC c.bJ a;split at e
    .omega
    .grind [iW]
   let⟨k,d,g,h,j⟩:=Ss this;exact⟨k+1,d,sp g,by rw[<-h];congr 1;omega,j⟩
def Y4(b:ah)(mk:Nat->Bool):Prop:=
 ∃t:ag,(∀j,mk j=true->t j<=vC mk b.length)/\∀(i:Nat)(d:dt),b[i]? =some d->∀w∈d.bJ,1000<=w->mk (ix w)=true->mk i=true/\t i<t (ix w)
def Y4.dX{mk:Nat->Bool}(v:Y4 b mk)(u:a<b.length)(k:mk a=false)(B:kD mk 0 b a=0):Y4 b (sa mk a):=by
 let⟨t,n,s⟩:=v;have r:=J5 k u;have y:∀(c:Nat)(d:dt),b[c]? =some d->(1000+(a:Int))∈d.bJ->mk c=true:=λc d f g=>by
  cases e:mk c
  .have g1:=UY (mk:=mk) (e:=0) f (by rw[eV];exact e) a;have g2:=wG g;omega
  .rfl
 refine⟨λx=>if x=a then vC mk b.length+1 else t x,λz o=>?_,λc d f w g q p=>?_⟩
 .simp only[r];split
  .omega
  .rename_i h;rw[wI h]at o;have:=n z o;omega
 .by_cases h:ix w=a
  .have e:=y c d f (by rw[<-h,lD q];exact g);have l:c≠a:=λj=>by rw[j,k]at e;cases e
   simp only[bn h,aW l];exact⟨Gg e,oh (n c e)⟩
  .rw[wI h]at p;let⟨m,A⟩:=s c d f w g q p;have l:c≠a:=λj=>by rw[j,k]at m;cases m
   simp only[aW h,aW l];exact⟨Gg m,A⟩
def Uk(f:ag):∀n,∃B,∀i,i<n->f i<=B
 |0=>⟨0,λi a=>absurd a (mI _)⟩
 |n+1=>by
  let⟨B,b⟩:=Uk f n;refine⟨B+f n,λi a=>?_⟩;grind [Nat.lt_or_ge]
def aaU{mk:Nat->Bool}(r:Y4 b mk)(q:∀d∈b,∀w∈d.bJ,1000<=w->ix w<b.length)(o:∀a,a<b.length->kD mk 0 b a=0->mk a=true):
 vC mk b.length=b.length<->acE b:=by
 rw[Um]
 constructor
 .intro g
  let⟨t,e,c⟩:=r
  refine⟨λx=>b.length -t x,λi d h w j f=>?_⟩
  have k:=q d (aZ h) w j f
  have:=(c i d h w j f (g _ k)).2
  have:=e _ (g _ k)
  have:=OS mk b.length
  grind [List.length,ix]
 .rintro⟨h,s⟩
  let⟨B,m⟩:=Uk h b.length
  have u:∀(n i:Nat),B -h i<n->i<b.length->mk i=true:=by
   intro n;induction n with
   |zero=>intro i g;omega
   |succ n t=>
    intro i g p;refine o i p (Int.le_antisymm (Int.not_lt.1 λf=>?_) (KG _ _ _ _));let⟨k,d,e,c,l⟩:=Ss f;rw[eV]at c;have:=s k d e _ l V;rw[sK]at this;have j:=br e;have:=m k j;rw[t k V j]at c;cases c
  exactλi g=>u (B -h i+1) i V g
@[grind cases] structure zh (h:ah) (mk:Nat->Bool) (W:ad) (lf:Nat->Int):Prop where
 Qe:W.Nodup
 un:∀a∈W,a<h.length/\mk a=false
 ov:∀a,a<h.length->(lf a=0<->(mk a=true\/a∈W))
def KA:∀(n:Nat)(W:ad),W.Nodup->(∀a∈W,a<n)->W.length<=n
 |0,[],_,_=>bY
 |0,a::_,_,b=>absurd (b a bO) (mI _)
 |n+1,W,hd,b=>by
  by_cases d:n∈W
  .have e:=KA n (W.erase n) (hd.erase n) λa c=>by
    have:=hd.mem_erase_iff.1 c;have:=b a this.2;omega
   grind [List.length_erase_of_mem]
  .have:=KA n W hd λa c=>by
    have:=b a c;have:a≠n:=λe=>d (e▸c);omega
   omega
def zh.aT{mk:Nat->Bool}(K:zh b mk W e):W.length<=b.length:=KA _ _ K.Qe λa c=>(K.un a c).1
def zh.pop{mk:Nat->Bool}(K:zh b mk (W++[a]) e):zh b (sa mk a) W e:=by
 constructor<;>grind [List.nodup_append,zh.Qe,zh.un,List.mem_append_left,wI,zh.ov,Mt]
theorem zh.qy{mk:Nat->Bool}{lf':Nat->Int}(K:zh b mk W e)(f:a<b.length)(g:∀x,lf' x=if x=a then e x -1 else e x)(i:0<e a):
 (lf' a=0->zh b mk (W++[a]) lf')/\(lf' a≠0->zh b mk W lf'):=by
 have h:mk a≠true/\a∉W:=by
  grind [zh.ov]
 refine⟨λd=>⟨?_,λx c=>?_,λx c=>?_⟩,λd=>⟨K.Qe,K.un,λx c=>?_⟩⟩
 .grind [List.nodup_append,zh.Qe]
 .grind [zh.un]
 .grind [zh.ov]
 .grind [zh.ov]
end
section
variable{b:ag}{m:bh}{k c a:Nat}{s:E}{d:Nat->Int}
def cst(W:ad):ab:=W.map λ(a:Nat)=>(a:Int)
def OU(W:ad):(cst W).length=W.length:=by simp[cst]
def PC(W:ad)(a:Nat):cst (W++[a])=cst W++[(a:Int)]:=by simp[cst]
def abP(h:iE b m bB 1 k s ((CA c d).map Ce.i))(f:c<=9223372036854775807)(e:a<c):aS m s.bu (s.off+Int.toNat (a:Int)*1)=some (vi (d a)):=by
 have:=(h.oL (by rw[zc];exact f)).bt (O6 e);simpa using this
def aaa(h:iE b m bB 1 k s ((CA c d).map Ce.i)):s.len=c:=by grind [iE.aT,zc]
def adf{g:Nat->Int}(h:iE b m bB 1 k s ((CA c d).map Ce.i))(n:a<c){v:Int}(o:∀e,e<c->g e=if e=a then v else d e)(l:∀e,m.size<=e->b e=0):
 jb m s.bu (s.off+Int.toNat (a:Int)*1) 1/\iE b (aV m s.bu (s.off+Int.toNat (a:Int)*1) [.i v]) bB 1 k s ((CA c g).map Ce.i)/\dI (λj=>j=k) b m b (aV m s.bu (s.off+Int.toNat (a:Int)*1) [.i v]):=by
 have e:0<=(a:Int):=V
 have f:(a:Int)<((CA c d).length:Nat):=by grind [zc]
 have i:=h.gX e f v
 have j:gX (CA c d) (a:Int) v=CA c g:=by
  unfold gX;rw[show Int.toNat (a:Int)=a by omega,XR];grind [mF]
 rw[j]at i
 have p:=aaa h
 have q:=h.le
 exact⟨h.SA e f,i,dI.aV l (h.bu V).2 _ _⟩
def adq(m:bh)(h:ah)(v:Value)(c:bh):Prop:=∃(s:E)(b:Bool),v=.tuple #[s.v,vb b]/\(b=true<->VK h)/\
 (b=true->∃a,s=.mk a 0 h.length h.length/\m.size<=a/\dF c a bB ((CA h.length (jz h)).map Ce.i))/\D m c
def Gy{J:E}{h:ah}(t:gC m J h)(aF:adt h)(ba:h.length<=1000000000):bK dO 123 [E.v J] m (adq m h):=by
 apply Bj;simp -zeta only[kJ,nO];have hl:=t.aT;have en:Int.toNat (J.len:Int)=h.length:=V;rw[en];refine⟨V,V,V,V,?_⟩;intro m1;have x1:=px m1;have B1:dF m1 m.size bB ((CA h.length (λ_=>0)).map Ce.i):=aab m;have no:∀{M:bh},D m M->¬VK h->adq m h (.tuple #[E.v E.nil,vb false]) M:=λS G=>⟨.nil,false,O,by simp[G],bO,S⟩;have am:∀c:Nat,Int.toNat (c:Int)=c:=λc=>V;simp -zeta only[E.ku,E.lT,E.vL,eV];refine gP (n:=h.length) V (λr l=>D m l/\dF l m.size bB ((CA h.length (λa=>jz (h.take r) a)).map Ce.i)/\∀e∈h.take r,Np h e) ⟨x1,by simpa[jz]using B1,bO⟩ ?_;rintro r m2 bj μ hi ⟨x2,B2,aj⟩ T
 have bs:=B2.lt;have h3:∀e∈h.take r,e.bJ.length<=3:=λe hm=>(aj e hm).fl;refine dit (λh1=>?_) λh1=>?_
 .let⟨e,p⟩:=dU h r;have ac:=aZ p;let⟨d,hf,g0,g1,g2⟩:=(gC.ext x2 t).bt p;rw[am];refine⟨V,V,e.bS,g0,e.jx,g1,d,g2,?_⟩;intro K m4;obtain⟨o,s4⟩:=pv m4;refine(Kh (gC.ext (x2.J o) t) (hf.ext o) (aF e ac)).bL cY eX λj m5 R q _=>⟨j,O,λh2=>no ((x2.J o).J q) λu=>nb R h2 (u.jH e ac).v,λh2=>?_⟩;have y:=yb R h2;have a4:=y.fl;have z5:=q.aQ;have Y:=hf.aT;refine gP (n:=e.bJ.length) V (λk l=>D m l/\m2.size<l.size/\be l d e.bJ/\dF l m.size bB ((CA h.length (λa=>jz (h.take r) a+iW (e.bJ.take k) a)).map Ce.i)) ⟨((x2.J o).J q),V,(hf.ext (o.J q)),by simpa[iW]using(B2.ext (o.J q))⟩ ?_;rintro k B X ν u ⟨N,z6,A,l⟩ P;refine dit (λh4=>?_) λh4=>?_
  .let⟨w,H⟩:=dU e.bJ k;have ao:=aZ H;refine⟨V,V,w,by simpa using A.bt H,(kL (gC.ext N t) (aF e ac w ao).2).aP ?_⟩;rintro _ C ⟨a,Q,rfl,L,U,F⟩;have z7:=F.aQ;refine⟨F.eW eX,a,Q,O,λI=>?_,λI=>?_⟩
   .have af:=L.1 I;have ae:=br (dz af).1;have e1:=U I;subst e1;have x:=l.ext F;have Z:=O0 (h.take r) (ix w) h3;have q2:=pC (e.bJ.take k) (ix w);have q3:=yS (h.take r) (ix w);have q4:=lC (e.bJ.take k) (ix w);have q5:(h.take r).length<=h.length:=eX;have q6:(e.bJ.take k).length<=3:=eX;rw[am,nu];refine⟨V,V,_,JN x ae,V,V,aac x ae,?_⟩;rw[show eI (jz (h.take r) (ix w)+iW (e.bJ.take k) (ix w)+1)=jz (h.take r) (ix w)+iW (e.bJ.take k) (ix w)+1 from de V V];have z:=WW x (ix w) (jz (h.take r) (ix w)+iW (e.bJ.take k) (ix w)+1);rw[mF (g:=λa=>jz (h.take r) a+iW (e.bJ.take (k+1)) a)]at z
    .refine⟨λj R=>cq _ _ _ _ (by simp at R;omega),P V _ ⟨(N.J F).aV bY _ _,by rw[bD];omega,?_,z⟩⟩;obtain⟨f0,aE,_,_,w2⟩:=t.bt p;have er:f0=d:=by have:=x2.aS w2;rw[g2]at this;exact(E.Lz.1 (sj this)).symm
     subst er;exact aE.ext ((N.J F).aV bY _ _)
    .intro j R;rw[KB H];by_cases s:j=ix w
     .subst s;rw[bn O,bn (lD af.1).symm];omega
     .rw[aW s,aW (λW=>s (by rw[W,sK]))];omega
   .refine P V C ⟨N.J F,V,A.ext F,?_⟩;have a9:w<1000:=(y.cases ao).resolve_left (fb L I);rw[mF (g:=λa=>jz (h.take r) a+iW (e.bJ.take k) a)]
    .exact l.ext F
    .intro j R;rw[KB H,aW V];omega
  .have x:e.bJ.take k=e.bJ:=eQ V;rw[x]at l;refine T V B ⟨N,?_,dK p aj y⟩
   rw[mF (g:=λa=>jz (h.take r) a+iW e.bJ a)]
   .exact l
   .intro j R;exact YD p j
 have ei:h.take r=h:=eQ V;rw[ei]at B2 aj h3;clear T
 have aO:∀e∈h,∀w∈e.bJ,iI h w\/w<1000:=λe q w H=>(aj e q).cases H;have af:∀e∈h,∀w∈e.bJ,1000<=w->ix w<h.length:=λe hm w H J=>by
  rcases aO e hm w H with h1|h1
  .exact br (dz h1).1
  .omega
 refine⟨λM=>m2=M/\pZ h,⟨λh2=>?_,λh2=>⟨O,λe q=>?_⟩⟩,?_⟩
 .simp at h2;rw[de V V];let⟨e,q⟩:=dU h (h.length -1);obtain⟨d,hf,g1,_,_⟩:=(gC.ext x2 t).bt q;have s:Int.toNat ((J.len:Int) -1)=h.length -1:=V;rw[s];refine⟨V,V,e.bS,g1,λh3=>no x2 λu=>u.mG e q (sp h3),λh3=>⟨O,λaa hd=>?_⟩⟩;rw[q]at hd;simp at hd;subst hd;simpa using h3
 .have:=br q;simp at h2;omega
 rintro _ ⟨rfl,bb⟩;refine(gT (aa1 B2 V) (by rw[zc];exact ba)).aP ?_;rintro _ K ⟨y,rfl,or,x3⟩;have z3:=x3.aQ;have B3:=B2.ext x3;obtain⟨z,ax⟩:∃z:ag,z=λj=>if y.Er=false/\j=y.bu then 2 else if j=m.size then 1 else 0:=⟨_,O⟩
 have aw:y.Er=false->m2.size<=y.bu/\y.bu<K.size:=λG=>by
  have ai:y≠.nil:=λs=>by rw[s]at G;simp at G
  exact⟨or.bu.resolve_left ai,or.lt.resolve_left ai⟩
 have aI:∀j,j≠m.size->(y.Er=false->j≠y.bu)->z j=0:=λj h4 I=>by
  rw[ax];exact(aW λt=>I t.1 t.2).trans (aW h4)
 have bi:z m.size=1:=by
  rw[ax];exact(aW λt=>oh (aw t.1)).trans (bn O)
 have bd:∀j,K.size<=j->z j=0:=λj R=>aI j V λG=>by have:=aw G;omega
 have a0:∀j,j<m.size->z j=0:=λj R=>aI j V λG=>by have:=aw G;omega
 have A3:iE z K bB 1 2 y ((CA h.length (jz h)).map Ce.i):=iE.jA or λai=>by
  rw[ax];refine bn ⟨?_,O⟩;cases y with
  |nil=>exact absurd O ai
  |_=>rfl
 have bp:=aaa A3;clear aw aI ax;have aJ:∀{b aU:ag}{M M':bh},dI (λk=>k=2\/k=6) b M aU M'->To b M aU M':=λq=>q.aP λk u=>V;have aB:∀{b:ag}{M:bh},dI (λk=>k=2\/k=6) z K b M->D m M:=λq=>((aJ q).cV (x2.J x3) a0).1;have aT:∀{b:ag}{M:bh},dI (λk=>k=2\/k=6) z K b M->dF M m.size bB ((CA h.length (jz h)).map Ce.i):=λq=>B3.congr (q.fQ _ B3.lt (by rw[bi];decide));have bf:iE z K bB 1 6 .nil (([]:ab).map Ce.i):=⟨bO,bO,bC O⟩;refine⟨y,O,gL (σ:=E) (n:=h.length) V (λk L M=>∃b W,dI (λk=>k=2\/k=6) z K b M/\iE b M bB 1 2 y ((CA h.length (jz h)).map Ce.i)/\iE b M bB 1 6 L ((cst W).map Ce.i)/\W.Nodup/\(∀a∈W,a<k)/\(∀a,a<k->(jz h a=0<->a∈W))/\
  ∀(a:Nat)(e:dt),a<k->h[a]? =some e->0<e.bS->jz h a<=e.bS/\e.bS<=999999) ⟨z,[],dI.cT _ bd,A3,bf,bO,bO,bO,bO⟩ ?_⟩
 rintro k L m4 I2 μ2 u ⟨U,W,C4,A4,W4,an,ak,ay,av⟩ T
 have X4:=aB C4;refine dit (λh4=>?_) λh4=>?_
 .have al:k<h.length:=V;let⟨e,Z⟩:=gD al;let⟨d,hf,g0,g1,g2⟩:=(gC.ext X4 t).bt Z;rw[am];refine⟨V,V,e.bS,g0,e.jx,g1,d,g2,?_⟩;intro m5 B;obtain⟨N,s6⟩:=pv B;have ap:dI (λk=>k=2\/k=6) U m4 U B:=dI.fB N C4.bF;have X:=C4.J ap;have F6:dI (λ_=>False) U m4 U B:=dI.fB N C4.bF;have A6:=A4.fN F6 id;have W6:=W4.fN F6 id;have g6:=JN (aT X) al;have nj:(0<e.bS->jz h k<=e.bS/\e.bS<=999999)->∀(a:Nat)(e:dt),a<k+1->h[a]? =some e->0<e.bS->jz h a<=e.bS/\e.bS<=999999:=λG a aa o hd=>by
   rcases dJ a k with P|P
   .exact av a aa P hd
   .have:a=k:=V;subst this;rw[Z]at hd;simp at hd;subst hd;exact G
  have kN:(0<e.bS->jz h k<=e.bS/\e.bS<=999999)->((0:Int)<=k/\(k:Int)<(h.length:Int)/\∃p:Int,aS B m.size (k*1)=some (vi p)/\
   ((p==(0:Int))=true->let x:bh:=B.push (.cells (db [.i (k:Int)]) 3)
    mj x 3 [.i (0:Int)] 8 L (E.mk B.size 0 1 1) λA l=>gS [m4.size] x l/\I2 A (eI ((k:Int)+(1:Int))) l/\μ2 A (eI ((k:Int)+(1:Int))) l<μ2 L k m4)/\
   ((p==(0:Int))=false->I2 L (eI ((k:Int)+(1:Int))) B/\μ2 L (eI ((k:Int)+(1:Int))) B<μ2 L k m4)):=λG=>by
   refine⟨V,V,_,by rw[nu];exact g6,λA=>?_,λA=>?_⟩
   .intro C
    obtain⟨F,s7⟩:=pu C
    have k7:dF C B.size 3 [.i (k:Int)]:=dF.push B _ _
    have F7:dI (λ_=>False) U B U C:=dI.fB F X.bF
    have C7:dI (λk=>k=2\/k=6) z K U C:=X.J (dI.fB F X.bF)
    have aq:=W6.aT
    simp[OU]at aq
    have ar:W.length<=h.length:=KA _ _ an λa o=>by have:=ak a o;omega
    refine iE.fw (f:=[.i 0]) (new:=[.i (k:Int)]) (W6.fN F7 id) C7.bF bO k7.kY (by simp only[E.ku];omega) λp aR m8 a8 c8=>⟨(aJ (c8.aP λl Y=>bR Y)).eW (by simp;exact⟨V,C4.bF _ bY⟩),?_⟩
    refine T V _ _ ⟨p,W++[k],C7.J (c8.aP λl Y=>bR Y),(A6.fN F7 id).fN c8 cD,by rw[PC];simpa using a8,?_,λa o=>?_,λa o=>?_,nj G⟩
    .rw[List.nodup_append]
     refine⟨an,bO,λx S au Q s=>?_⟩
     simp at Q;subst Q;subst s;have:=ak _ S;omega
    .rcases bU.1 o with o|o
     .have:=ak a o;omega
     .simp at o;omega
    .rcases dJ a k with Q|Q
     .rw[ay a Q];simp;omega
     .have:a=k:=V
      subst this
      simp at A;simp[A]
   .refine T V _ _ ⟨U,W,X,A6,W6,an,λa o=>oh (ak a o),λa o=>?_,nj G⟩
    rcases dJ a k with Q|Q
    .exact ay a Q
    .have:a=k:=V
     subst this
     simp at A
     simp only[A,false_iff]
     intro hm;have:=ak _ hm;omega
  refine⟨λI=>⟨V,V,_,by rw[nu];exact g6,λP=>no (X4.J N) λu=>?_,λP=>⟨λA=>no (X4.J N) λu=>?_,λA=>kN λ_=>by simp at P A;omega⟩⟩,λI=>kN λP=>by simp at I;omega⟩
  .have:=u.jz k e Z (sp I);simp at P;omega
  .have:=(u.jH e (aZ Z)).hi;simp at A;omega
 have a5:k=h.length:=V;subst a5;clear T h4
 have a3:∀e∈h,sB h e:=λe q=>by
  let⟨a,o⟩:=cH.1 q;refine(aj e q).ok ?_;rcases yd 0 e.bS with J|J
  .exact(av a e (br o) o J).2
  .omega
 have a_:∀(a:Nat)(e:dt),h[a]? =some e->0<e.bS->jz h a<=e.bS:=λa e o J=>(av a e (br o) o J).1;have a7:∀mk a,kD mk 0 h a<=3*h.length:=λmk a=>by
  have:=UZ mk 0 h a;have:=O0 h a λe hm=>(aj e hm).fl;omega
 have K0:zh h (λ_=>false) W (kD (λ_=>false) 0 h):=⟨an,λa o=>⟨ak a o,O⟩,λa o=>by rw[IU,ay a o];simp⟩;have c0:vC (λ_=>false) h.length=0:=by
  generalize h.length=c;induction c with
  |zero=>rfl
  |succ c N=>simp[vC,N]
 refine abb (γ:=(Nat->Bool)×ad) (λN L aQ M=>∃b,aQ=(vC N.1 h.length:Nat)/\dI (λk=>k=2\/k=6) z K b M/\iE b M bB 1 2 y ((CA h.length (kD N.1 0 h)).map Ce.i)/\iE b M bB 1 6 L ((cst N.2).map Ce.i)/\zh h N.1 N.2 (kD N.1 0 h)/\Y4 h N.1)
  (λN=>h.length -vC N.1 h.length) (λ_=>false,W) ⟨U,by rw[c0];rfl,C4,by rw[mF (g:=jz h) λj _=>IU 0 h j];exact A4,W4,K0,λ_=>0,bO,bO⟩ ?_
 clear C4 A4 W4 K0 c0 X4 an ak ay av;rintro⟨mk,W⟩ L aQ m5 I3 μ3 ⟨aa,rfl,C5,A5,W5,K5,O5⟩ T
 simp only at A5 W5 K5 O5 T
 have X5:=aB C5;have aq:=W5.aT;simp[OU]at aq;have bk:=K5.aT;refine dit (λI=>?_) λI=>?_
 .have ai:W≠[]:=λs=>by subst s;simp at aq;omega
  obtain⟨W',a,rfl⟩:∃W' a,W=W'++[a]:=⟨W.dropLast,W.getLast ai,(nH ai).symm⟩;rw[PC]at W5;let⟨p1,p2,p3⟩:=W5.pop;rw[OU]at p1 p2 p3;have e1:eI ((L.len:Int) -1)=(W'.length:Int):=by rw[de V V];omega
  let⟨ar,aD⟩:=K5.un a bO;let⟨e,au⟩:=gD ar;have ac:=aZ au;have a4:=(aj e ac).fl;let⟨d,hf,g0,g1,g2⟩:=(gC.ext X5 t).bt au;rw[e1,am];have bq:=W5.le;refine⟨V,V,a,p2,V,V,?_⟩;rw[am];refine⟨e.bS,g0,e.jx,g1,d,g2,?_⟩;intro B C;obtain⟨F,s7⟩:=pv C;have F7:dI (λ_=>False) aa m5 aa C:=dI.fB F C5.bF;have C7:dI (λk=>k=2\/k=6) z K aa C:=C5.J (dI.fB F C5.bF);have bm:=hf.aT;have hz:kD mk 0 h a=0:=(K5.ov a ar).2 (bR bO);have O7:=O5.dX ar aD hz;have aG:=λx=>Su (mk:=mk) (e:=0) au (by rw[eV];exact aD) x;simp only[eV]at aG;have es:=J5 aD ar;have bl:=OS (sa mk a) h.length;have K7:zh h (sa mk a) W' (λx=>kD (sa mk a) 0 h x+iW (e.bJ.drop 0) x):=by
   have:=K5.pop;refine⟨this.Qe,this.un,λx S=>?_⟩;rw[<-this.ov x S,aG,List.drop_zero];constructor<;>intro h<;>omega
  refine⟨V,V,V,gL (σ:=E) (n:=e.bJ.length) V (λl wk M=>∃b X,dI (λk=>k=2\/k=6) aa C b M/\iE b M bB 1 2 y ((CA h.length (λx=>kD (sa mk a) 0 h x+iW (e.bJ.drop l) x)).map Ce.i)/\iE b M bB 1 6 wk ((cst X).map Ce.i)/\zh h (sa mk a) X (λx=>kD (sa mk a) 0 h x+iW (e.bJ.drop l) x))
   ⟨aa,W',dI.cT _ C7.bF,?_,?_,K7⟩ ?_⟩
  .have:=A5.fN F7 id;rw[mF (g:=kD mk 0 h) λj _=>by simp only[aG,List.drop_zero];omega];exact this
  .exact p3.fN F7 id
  rintro l wk m8 I4 μ4 Y ⟨p,X,C8,A8,W8,N⟩ aH;have X8:=aB (C7.J C8);have r7:m5.size<m8.size/\p m5.size=0:=⟨by have:=C8.aQ;omega,by rw[C8.jt _ V];exact C5.bF _ bY⟩;refine dit (λP=>?_) λP=>?_
  .let⟨w,H⟩:=dU e.bJ l;have ao:=aZ H;have a1:=aF e ac w ao;have aP:e.bJ.drop l=w::e.bJ.drop (l+1):=by
    rw[HG (br H)];congr 1;exact(mP.1 H).2
   obtain⟨f0,aE,_,_,w2⟩:=t.bt au;have er:f0=d:=by have:=X5.aS w2;rw[g2]at this;exact(E.Lz.1 (sj this)).symm
   subst er;refine⟨V,V,w,by simpa using(aE.ext X8).bt H,(kL (gC.ext X8 t) a1.2).aP ?_⟩;rintro _ m9 ⟨aR,b9,rfl,aN,a8,x9⟩;have z9:=x9.aQ;have F9:dI (λ_=>False) p m8 p m9:=dI.fB x9 C8.bF;have C9:dI (λk=>k=2\/k=6) aa C p m9:=C8.J (dI.fB x9 C8.bF);have A9:=A8.fN F9 id;have W9:=W8.fN F9 id;refine⟨x9.eW eX,aR,b9,O,λA=>?_,λA=>?_⟩
   .have af:=aN.1 A;have ae:=br (dz af).1;have e9:=a8 A;subst e9;have al:∀x,iW (e.bJ.drop l) x=(if x=ix w then 1 else 0)+iW (e.bJ.drop (l+1)) x:=λx=>by rw[aP,lB af.1]
    have a2:=al (ix w);rw[bn O]at a2;have n1:=KG (sa mk a) 0 h (ix w);have n2:=a7 (sa mk a) (ix w);have n3:=lC (e.bJ.drop (l+1)) (ix w);have n4:=pC (e.bJ.drop (l+1)) (ix w);have n5:(e.bJ.drop (l+1)).length<=3:=eX;let⟨u1,u2,u3⟩:=adf (d:=λx=>kD (sa mk a) 0 h x+iW (e.bJ.drop l) x) (g:=λx=>kD (sa mk a) 0 h x+iW (e.bJ.drop (l+1)) x) A9 ae (v:=kD (sa mk a) 0 h (ix w)+iW (e.bJ.drop (l+1)) (ix w)) (λj _=>by
     rw[al];by_cases s:j=ix w
     .subst s;rw[bn O]
     .rw[aW s,aW s];omega) C9.bF
    refine⟨V,V,_,abP A9 V ae,V,V,u1,?_⟩;rw[show eI (kD (sa mk a) 0 h (ix w)+iW (e.bJ.drop l) (ix w) -1)=kD (sa mk a) 0 h (ix w)+iW (e.bJ.drop (l+1)) (ix w)by rw[de V V];omega];intro Z;have ap:dI (λk=>k=2\/k=6) aa C p Z:=C9.J (u3.aP λk u=>bC u);have bu:Z.size=m9.size:=bD _ _ _ _;have aA:iE p Z bB 1 6 wk ((cst X).map Ce.i):=W9.fN u3 cD;let⟨v1,v2⟩:=N.qy (lf':=λx=>kD (sa mk a) 0 h x+iW (e.bJ.drop (l+1)) x) ae (λx=>by
     rw[al];split<;>omega) (show 0<kD (sa mk a) 0 h (ix w)+iW (e.bJ.drop l) (ix w)by omega)
    have aX:To p m9 p Z:=u3.aP λk u=>V;have aK:iE p Z bB 1 2 y ((CA h.length (λx=>kD (sa mk a) 0 h x+iW (e.bJ.drop (l+1)) x)).map Ce.i):=u2;clear u2;refine⟨aX.eW (by simp;exact⟨V,r7.2⟩),V,V,_,abP aK V ae,λQ=>?_,λQ=>aH V _ _ ⟨p,X,ap,aK,aA,v2 (sp Q)⟩⟩;intro az;obtain⟨aV,bv⟩:=pu az;have bc:dF az Z.size 3 [.i (ix w:Int)]:=dF.push Z _ _;have aM:dI (λ_=>False) p Z p az:=dI.fB aV ap.bF;have aL:dI (λk=>k=2\/k=6) aa C p az:=ap.J (dI.fB aV ap.bF);have a6:=aA.aT;simp[OU]at a6;have bo:=N.aT;exact iE.fw (f:=[.i 0]) (new:=[.i (ix w:Int)]) (aA.fN aM id) aL.bF bO bc.kY (by simp only[E.ku];omega) λbg q2 bt aY aC=>⟨(aJ (aC.aP λl Y=>bR Y)).eW (by simp;exact⟨V,r7.2⟩),aH V _ _ ⟨bg,X++[ix w],aL.J (aC.aP λl Y=>bR Y),(aK.fN aM id).fN aC cD,by rw[PC];simpa using aY,v1 (sp Q)⟩⟩
   .have a9:w<1000:=(aO e ac w ao).resolve_left (fb aN A);have al:∀x,iW (e.bJ.drop (l+1)) x=iW (e.bJ.drop l) x:=λx=>by
     rw[aP];simp only[iW];rw[aW V];omega
    refine aH V _ _ ⟨p,X,C9,?_,W9,⟨N.Qe,N.un,λx S=>by rw[al];exact N.ov x S⟩⟩;rw[mF (g:=λx=>kD (sa mk a) 0 h x+iW (e.bJ.drop l) x) λj _=>by rw[al]];exact A9
  .have Q:e.bJ.drop l=[]:=adh V;have A:∀x,kD (sa mk a) 0 h x+iW (e.bJ.drop l) x=kD (sa mk a) 0 h x:=λx=>by rw[Q];simp[iW]
   rw[show eI ((vC mk h.length:Nat)+1:Int)=((vC (sa mk a) h.length:Nat):Int)by rw[es,de V V];omega];refine T (sa mk a,X) _ _ m8 ⟨p,O,C7.J C8,?_,W8,⟨N.Qe,N.un,λx S=>by have:=N.ov x S;rw[A]at this;exact this⟩,O7⟩ (by simp only[];omega)
   rw[mF (g:=λx=>kD (sa mk a) 0 h x+iW (e.bJ.drop l) x) λj _=>(A j).symm];exact A8
 .have p:W=[]:=cp.1 V;subst p;have x:=aaU O5 af λa o l=>((K5.ov a o).1 l).resolve_right bO;refine⟨_,_,O,?_,λ_=>⟨m.size,O,bY,aT C5⟩,X5⟩;rw[bP,show((vC mk h.length:Nat):Int)=(J.len:Int)<->vC mk h.length=h.length by omega,x];exact⟨λo=>⟨bb,a3,a_,o⟩,λu=>u.CI⟩
end
section
variable{i:da}{f:bW}{m j d:bh}{r o e:E}{a b:Nat}
@[grind cases] structure VI (im:da) (f:bW):Prop where
 fP:0<=f.fP/\f.fP<im.di.length
 pc:0<=f.pc/\f.pc<(dG im f.fP).eA.length
 lr:(f.aU.length:Int)=(dG im f.fP).aU
 lo:(f.bI.length:Int)=(dG im f.fP).aU
 lh:(f.cC.length:Int)=(dG im f.fP).aU
 eR:∀(k:Nat)(w o:Int),f.aU[k]? =some w->f.bI[k]? =some o->(lg w\/1000<=w)/\(0<=o/\o<=999999)
def VI.bI(h:VI i f):∀o∈f.bI,0<=o/\o<=999999:=λo b=>by
 let⟨k,a⟩:=cH.1 b;have:=br a;have c:=h.lr;have d:=h.lo;let⟨w,e⟩:=dU f.aU k;grind [VI.eR]
def IE{P Z:E}(R:gY m P Z i)(K:be m r f.aU)(y:be m o f.bI)(he:be m e f.cC):
 fX dO 125 [.agg #[P.v,Z.v],.agg #[vi f.fP,vi f.pc,vi f.bH,r.v,o.v,e.v]] m (VI i f):=by
 apply CQ
 simp -zeta only[dR]
 intro X j
 have B:D m j:=((D.cT m).bZ _).bZ _
 have s1:=pz X
 have s2:j.size=m.size+2:=by simp[j,s1]
 have ai:=R.di.aT
 have ak:=K.aT
 have af:=y.aT
 have ae:=he.aT
 have al:=K.kM
 refine⟨λx=>fy (λa=>by have:=a.fP;simp at x;omega) B,λx=>⟨λC=>fy (λa=>by have:=a.fP;simp at C;omega) B,λC=>?_⟩⟩
 simp at x C
 let⟨ad,U⟩:=dU i.di f.fP.toNat
 have g:dG i f.fP=ad:=by simp[dG,U]
 let⟨pa,pl,pc,ag,aj,ab,k0,k1,k2,k3,k4⟩:=(R.ext B).di.bt U
 have ah:=ab.aT
 refine⟨x,V,pa,k0,pl,k1,_,k2,_,k3,pc,k4,?_⟩
 intro m3 L
 obtain⟨x4,s4⟩:=pv L
 have c:=B.J x4
 have hl:∀b∈[j.size,X.size,m.size],b<L.size:=eX
 refine⟨λF=>fy (λa=>by have:=a.pc;simp at F;omega) c,λF=>⟨λG=>fy (λa=>by have:=a.pc;rw[g]at this;simp at G;omega) c,λG=>⟨λH=>fy (λa=>by have:=a.lr;rw[g]at this;simp at H;omega) c,λH=>⟨λI=>fy (λa=>by have:=a.lo;rw[g]at this;simp at I;omega) c,λI=>⟨λJ=>fy (λa=>by have:=a.lh;rw[g]at this;simp at J;omega) c,λJ=>?_⟩⟩⟩⟩⟩
 simp at F G H I J
 refine gP (n:=f.aU.length) V (λk m'=>D L m'/\∀(d:Nat)(w o:Int),d<k->f.aU[d]? =some w->f.bI[d]? =some o->(lg w\/1000<=w)/\(0<=o/\o<=999999)) ⟨cY,λd w o S=>absurd S (mI _)⟩ ?_
 rintro k Y aa μ a ⟨N,W⟩ ac
 refine dit (λh8=>?_) λh8=>?_
 .let⟨w,h⟩:=dU f.aU k
  let⟨s,u⟩:=dU f.bI k
  refine⟨V,V,w,by simpa using(K.ext (c.J N)).bt h,(uN w Y).bL N hl λb6 q Q am v=>⟨b6,O,?_⟩⟩
  have T:aS q o.bu (o.off+Int.toNat (k:Int)*1)=some (vi s):=by simpa using(y.ext (c.J v)).bt u
  have kN:(lg w\/1000<=w)->(0:Int)<=k/\(k:Int)<(o.len:Int)/\∃M:Int,aS q o.bu (o.off+Int.toNat (k:Int)*1)=some (vi M)/\((decide (M<(0:Int)))=true->∃l:Bool,vb false=.bool l/\(l=true<->VI i f)/\D m q)/\
   ((decide (M<(0:Int)))=false->(0:Int)<=k/\(k:Int)<(o.len:Int)/\∃p:Int,aS q o.bu (o.off+Int.toNat (k:Int)*1)=some (vi p)/\((decide (p>(999999:Int)))=true->∃l:Bool,vb false=.bool l/\(l=true<->VI i f)/\D m q)/\
   ((decide (p>(999999:Int)))=false->aa (eI ((k:Int)+(1:Int))) q/\μ (eI ((k:Int)+(1:Int))) q<μ k Y)):=λhi=>
   ⟨V,V,s,T,λp=>fy (λa=>by have:=(a.eR k w s h u).2;simp at p;omega) (c.J v),λp=>⟨V,V,s,T,λl=>fy (λa=>by have:=(a.eR k w s h u).2;simp at l;omega) (c.J v),λl=>ac V _ ⟨v,λd w' o' S A z=>by
    rcases dJ d k with t|t
    .exact W d w' o' t A z
    .have:d=k:=V;subst this;rw[h]at A;rw[u]at z;simp at A z;subst A;subst z;simp at p l;exact⟨hi,V⟩⟩⟩⟩
  refine⟨λp=>⟨λl=>fy (λa=>?_) (c.J v),λl=>kN (bR (by simp at l;omega))⟩,λp=>kN (bC (yb Q p))⟩
  rcases(a.eR k w s h u).1 with t|t
  .exact nb Q p t
  .simp at l;omega
 .refine oO ⟨V,by rw[g];omega,by rw[g];omega,by rw[g];omega,by rw[g];omega,λd w o h y=>W d w o (oh (br h)) h y⟩ (c.J N)
@[grind cases] structure DO (a b:Nat) (m m':bh):Prop where
 aQ:m.size<=m'.size
 bG:∀c,c<m.size->c≠a->c≠b->m'[c]? =m[c]?
def DO.cT(a b:Nat)(m:bh):DO a b m m:=by constructor<;>grind
def DO.ext{c:bh}(h:DO a b m c)(d:D c j):DO a b m j:=by constructor<;>grind [DO.aQ,D.aQ,D.bG,DO.bG]
def DO.J{c:bh}(h:DO a b m c)(d:DO a b c j):DO a b m j:=by constructor<;>grind [DO.aQ,DO.bG]
def DO.aV{d:bh}(h:DO a b m d){c:Nat}(e:c=a\/c=b)(o:Nat)(l:ae):DO a b m (aV d c o l):=
 by constructor<;>grind [bD,DO.aQ,cq,DO.bG]
theorem DO.FO{c:bh}(h:DO a b m c)(g:D d m)(e:d.size<=a)(f:d.size<=b):D d c:=
 by constructor<;>grind [D.aQ,DO.aQ,DO.bG,D.lt,D.bG]
@[grind cases] structure acS (h:ah) (f:bW):Prop where
 bI:∀(k:Nat)(w o:Int),f.aU[k]? =some w->f.bI[k]? =some o->0<o->iI h w
 cC:∀w∈f.cC,w≠0->1000<=w/\∃c,h[ix w]? =some c/\c.bS<0
def aa9{w:Int}{n:Nat}(a:Re w)(d:n<=1000000000):(0<=eI (w -1000)/\eI (w -1000)<n)<->(1000<=w/\ix w<n):=by
 let⟨b,c⟩:=a;grind [Int.lt_or_le,eI,Go.IntKind.wrap_i64,ix,de]
@[grind cases] structure SI (m:bh) (ob hb n:Nat) (fo fh:Nat->Int):Prop where
 bI:dF m ob bB ((CA n fo).map Ce.i)
 cC:dF m hb bB ((CA n fh).map Ce.i)
 ne:ob≠hb
def Ru{hp:E}{h:ah}{p c:Nat}{l fh:Nat->Int}(x0:D d m)(hh:gC d hp h)(hr:be d r f.aU)(B:be d o f.bI)(he:be d e f.cC)(ag:d.size<=p)(af:d.size<=c)(T:SI m p c h.length l fh)
 (ae:aau f)(ap:h.length<=1000000000)(an:f.aU.length=f.bI.length/\f.cC.length=f.bI.length/\f.bI.length<=10000000)(ai:∀o∈f.bI,0<=o/\o<=999999)(am:∀a,0<=l a/\l a<=1000000000000000)(al:∀a,0<=fh a/\fh a<=1000000000):
 bK dO 126 [.agg #[vi f.fP,vi f.pc,vi f.bH,r.v,o.v,e.v],hp.v,E.v (.mk p 0 h.length h.length),E.v (.mk c 0 h.length h.length)] m λv F=>
  ∃b:Bool,v=vb b/\(b=true<->acS h f)/\(b=true->SI F p c h.length (λa=>l a+fA f.aU f.bI a) (λa=>fh a+iW f.cC a))/\DO p c m F:=by
 apply Bg
 simp -zeta only[dR]
 intro m1
 obtain⟨x1,s1⟩:=pu m1
 have aA:=hr.aT
 have ay:=B.aT
 have aw:=he.aT
 have ax:=hh.aT
 let⟨ar,au,av⟩:=an
 have aC:=T.bI.lt
 have aB:=T.cC.lt
 simp -zeta only[E.ku,E.lT,E.vL,eV]
 have R:∀ac:Nat,Int.toNat (ac:Int)=ac:=λac=>V
 refine gP (n:=f.bI.length) V (λk F=>DO p c m F/\m.size<F.size/\SI F p c h.length (λa=>l a+fA (f.aU.take k) (f.bI.take k) a) (λa=>fh a+iW (f.cC.take k) a)/\(∀(i:Nat)(w o:Int),i<k->f.aU[i]? =some w->f.bI[i]? =some o->0<o->iI h w)/\
  (∀w∈f.cC.take k,w≠0->1000<=w/\∃s,h[ix w]? =some s/\s.bS<0)) ⟨(DO.cT _ _ _).ext x1,V,by simpa[fA,iW]using(⟨T.bI.ext x1,T.cC.ext x1,T.ne⟩:SI m1 p c h.length l fh),λi w o hj=>absurd hj (mI _),bO⟩ ?_
 rintro k j aq μ hk ⟨t2,z2,q,q2,p2⟩ ak
 have P:=t2.FO x0 ag af
 rw[R,nu]
 refine dit (λh1=>?_) λh1=>?_
 .let⟨w,u⟩:=dU f.aU k
  let⟨t,C⟩:=dU f.bI k
  let⟨v,y⟩:=dU f.cC k
  have gw:∀{M:bh},D d M->aS M r.bu (r.off+k)=some (vi w):=λI=>by simpa using(hr.ext I).bt u
  have gq:∀{M:bh},D d M->aS M o.bu (o.off+k)=some (vi t):=λI=>by simpa using(B.ext I).bt C
  have gv:∀{M:bh},D d M->aS M e.bu (e.off+k)=some (vi v):=λI=>by simpa using(he.ext I).bt y
  have aj:=ae.2.2 v (aZ y)
  have az:=ai t (aZ C)
  refine⟨V,V,t,gq P,λM=>DO p c j M/\m.size<M.size/\SI M p c h.length (λa=>l a+fA (f.aU.take (k+1)) (f.bI.take (k+1)) a) (λa=>fh a+iW (f.cC.take k) a)/\(0<t->iI h w),⟨λU=>?_,λU=>?_⟩,?_⟩
  .have G:0<t:=sp U
   refine⟨V,V,w,gw P,(kL (gC.ext P hh) (ae.1 w (aZ u)).2).aP ?_⟩
   rintro _ m3 ⟨a,b3,rfl,L,S,z⟩
   have z3:=z.aQ
   refine⟨z.eW eX,a,b3,O,λx=>⟨false,O,?_,bO,t2.ext z⟩,λx=>?_⟩
   .simp only[oT,false_iff]
    exactλht=>nb L x (ht.bI k w t u C G)
   have K:=yb L x
   have N:=br (dz K).1
   have J:=S (sp x)
   subst J
   have A:=q.bI.ext z
   have Q:=q.cC.ext z
   have q1:=Qm (aU:=f.aU.take k) (bI:=f.bI.take k) (n:=999999) V (λo B=>ai o (gW B)) (ix w)
   have W:(f.bI.take k).length<=10000000:=eX
   have X:=am (ix w)
   rw[R,nu]
   refine⟨V,V,_,JN A N,V,V,aac A N,?_⟩
   rw[show eI (l (ix w)+fA (f.aU.take k) (f.bI.take k) (ix w)+t)=l (ix w)+fA (f.aU.take k) (f.bI.take k) (ix w)+t from iz]
   have H:=WW A (ix w) (l (ix w)+fA (f.aU.take k) (f.bI.take k) (ix w)+t)
   rw[mF (g:=λa=>l a+fA (f.aU.take (k+1)) (f.bI.take (k+1)) a)]at H
   .exact⟨λb Y=>cq _ _ _ _ (by simp at Y;omega),((DO.cT _ _ _).ext z).aV (bC O) _ _,by rw[bD];omega,⟨H,Q.congr (cq _ _ _ _ λe=>q.ne e.symm),q.ne⟩,λ_=>K⟩
   .intro b c
    rw[IN u C]
    by_cases e:b=ix w
    .subst e;rw[bn O,bn (lD K.1).symm];omega
    .rw[aW e,aW (λab=>e (by rw[ab,sK]))];omega
  .have G:t=0:=by simp at U;omega
   refine⟨DO.cT _ _ _,z2,⟨?_,q.cC,q.ne⟩,λhp=>V⟩
   rw[mF (g:=λa=>l a+fA (f.aU.take k) (f.bI.take k) a)]
   .exact q.bI
   .intro b c;rw[IN u C,G];split<;>omega
  rintro m3 ⟨t3,z3,z,ao⟩
  have G:=t2.J t3
  have Q:=G.FO x0 ag af
  have nj:∀(i:Nat)(w o:Int),i<k+1->f.aU[i]? =some w->f.bI[i]? =some o->0<o->iI h w:=λi w' o' hj N L=>by
   rcases dJ i k with A|A
   .exact q2 i w' o' A N L
   .have:i=k:=V;subst this;rw[u]at N;rw[C]at L;simp at N L;subst N;subst L;exact ao
  have aa:=aa9 (n:=h.length) aj ap
  refine⟨V,V,v,gv Q,λx=>⟨V,V,v,gv Q,?_⟩,λx=>?_⟩
  .have W:v≠0:=sp x
   have ad:∀{M:bh},DO p c m M->¬(1000<=v/\∃s,h[ix v]? =some s/\s.bS<0)->∃b:Bool,vb false=vb b/\(b=true<->acS h f)/\(b=true->SI M p c h.length (λa=>l a+fA f.aU f.bI a) (λa=>fh a+iW f.cC a))/\DO p c m M:=λht hn=>
    ⟨false,O,by simp only[oT,false_iff];exactλhk=>hn (hk.cC v (aZ y) W),bO,ht⟩
   refine⟨λK=>ad G λ⟨g1,s,g2,_⟩=>?_,λK=>⟨λX=>ad G λ⟨g1,s,g2,_⟩=>?_,λX=>?_⟩⟩
   .have:=(aa.2 ⟨g1,br g2⟩).1;simp at K;omega
   .have:=(aa.2 ⟨g1,br g2⟩).2;simp at X;omega
   simp at K X
   let⟨g1,g2⟩:=aa.1 ⟨K,V⟩
   have ew:eI (v -1000)=(ix v:Nat):=by have:=aj.2;unfold ix;rw[iz];omega
   rw[ew,R]
   let⟨s,Z⟩:=gD g2
   obtain⟨cf,_,c0,_,_⟩:=(gC.ext Q hh).bt Z
   refine⟨V,V,s.bS,c0,λA=>ad G λ⟨_,c',S,g4⟩=>?_,λA=>?_⟩
   .rw[Z]at S;simp at S;subst S;simp at A;omega
   have q1:=al (ix v)
   have q2:=pC (f.cC.take k) (ix v)
   have q3:=lC (f.cC.take k) (ix v)
   have q4:(f.cC.take k).length<=10000000:=eX
   rw[nu]
   refine⟨V,V,_,JN z.cC g2,V,V,aac z.cC g2,?_⟩
   rw[show eI (fh (ix v)+iW (f.cC.take k) (ix v)+1)=fh (ix v)+iW (f.cC.take k) (ix v)+1 from iz]
   have H:=WW z.cC (ix v) (fh (ix v)+iW (f.cC.take k) (ix v)+1)
   rw[mF (g:=λa=>fh a+iW (f.cC.take (k+1)) a)]at H
   .refine⟨λb Y=>cq _ _ _ _ (by simp at Y;omega),ak V _ ⟨G.aV (bR O) _ _,by rw[bD];exact z3,⟨z.bI.congr (cq _ _ _ _ q.ne),H,q.ne⟩,nj,dK y p2 λ_=>⟨g1,s,Z,by simp at A;omega⟩⟩⟩
   .intro b c
    rw[KB y]
    by_cases e:b=ix v
    .subst e;rw[bn O,bn (lD g1).symm];omega
    .rw[aW e,aW (λab=>e (by rw[ab,sK]))];omega
  .have W:v=0:=sp x
   refine ak V _ ⟨G,z3,⟨z.bI,?_,q.ne⟩,nj,dK y p2 λH=>absurd W H⟩
   rw[mF (g:=λa=>fh a+iW (f.cC.take k) a)]
   .exact z.cC
   .intro b c;rw[KB y,aW V];omega
 .have t:f.aU.take k=f.aU:=eQ V
  have x:f.bI.take k=f.bI:=eQ V
  have J:f.cC.take k=f.cC:=eQ V
  rw[t,x,J]at q
  rw[J]at p2
  exact⟨true,O,by simp only[true_iff];exact⟨λi w o u B=>q2 i w o (oh (br u)) u B,p2⟩,λ_=>q,t2⟩
end
section
def acI(a:an)(k:Nat)(f:bW):Prop:=(EA a k=none->f.bH=0)/\∀p,EA a k=some p->0<=f.bH/\f.bH<p.bI.length/\bt p.bI f.bH=0
@[grind cases] structure YW (im:da) (s:St) (k:Nat) (f:bW):Prop where
 v:VI im f
 bH:acI s.bq k f
 tal:acS s.aR f
def YW.ok{b:da}{s:St}{k:Nat}{f:bW}(h:YW b s k f):T9 b s.aR (EA s.bq k) f:=
 ⟨h.v.fP,h.v.pc,h.v.lr,h.v.lo,h.v.lh,⟨λj w o c a=>⟨(h.v.eR j w o c a).1,(h.v.eR j w o c a).2,h.tal.bI j w o c a⟩⟩,h.bH.1,h.bH.2⟩
def Nr.w{b:da}{s:St}(h:Nr b s){k:Nat}{f:bW}(e:s.bq[k]? =some f):YW b s k f:=by
 have F:=h.bq k f e;refine⟨⟨F.fP,F.pc,F.lr,F.lo,F.lh,λj w o c d=>⟨(F.aU.eR j w o c d).1,(F.aU.eR j w o c d).2.1⟩⟩,⟨F.first,F.xz⟩,λj w o c d=>(F.aU.eR j w o c d).2.2,λw c q=>?_⟩;let⟨i,n⟩:=(h.cC.dQ f (aZ e) w c).resolve_left q;let⟨g,m⟩:=gD n;refine⟨i,g,m,Int.not_le.1 λp=>?_⟩;have r:=h.cC.qV _ g m p;have t:=UJ (aZ e) (b:=ix w);have u:=wG (l:=f.cC) (f:=ix w) (by rw[lD i];exact c);omega
variable{m:bh}{d p cw e c:E}{b:da}{s:St}
def IL(aD:gY m d p b)(aH:iB b)(L:j9 m cw e c s)(S:Rc s):fX dO 68 [.agg #[d.v,p.v],stV s cw e c] m (dZ b s):=by
 apply CY;simp -zeta only[dR];intro m1 Q;have x2:D m Q:=((D.cT m).bZ _).bZ _;have s1:=pz m1;have s2:Q.size=m.size+2:=cB;have hl:∀F∈[m1.size,m.size],F<Q.size:=cB;have aB:=L.bq.aT;have aU:=L.aR.aT;have aV:=S.lh;have r:∀{M:bh},D Q M->¬Nr b s->∃w:Bool,vb false=.bool w/\(w=true<->dZ b s)/\D m M:=by grind [Zk,D.J]
 have aT:(s.bq=[])<->((c.len:Int)=0):=by rw[aB];simp
 refine⟨λM=>D Q M/\(0<=s.eC/\s.eC<=3)/\(s.eC=0<->s.bq=[])/\lg s.iQ/\(s.iQ≠0->s.eC=0),?_,?_⟩
 .refine⟨λB=>r cY λh=>by have:=h.eC;simp at B;omega,λB=>⟨λx=>r cY λh=>by have:=h.eC;simp at x;omega,λx=>⟨λK=>r cY λh=>?_,λK=>?_⟩⟩⟩
  .grind [Nr.cy]
  have ab:0<=s.eC/\s.eC<=3:=cB;have aa:s.eC=0<->s.bq=[]:=cB;refine(uN _ _).bL cY hl λb3 m3 a A _=>⟨b3,O,λy=>r A λh=>nb a y h.iQ,λy=>⟨λj=>⟨λi=>r A λh=>?_,λi=>⟨A,ab,aa,yb a y,λ_=>by simpa using i⟩⟩,λj=>⟨A,ab,aa,yb a y,λi=>by simp at j;exact absurd j i⟩⟩⟩;have:=h.Cj cB;simp at i;exact i this
 rintro m3 ⟨A,ab,aa,hv,aK⟩;refine⟨λB=>r A λh=>by have:=h.dL;simp at B;omega,λB=>⟨λx=>r A λh=>by have:=h.dL;simp at x;omega,λx=>⟨λK=>r A λh=>by have:=h.dg;simp at K;omega,λK=>⟨λy=>r A λh=>by have:=h.dg;simp at y;omega,λy=>?_⟩⟩⟩⟩;have aF:0<=s.dL/\s.dL<=40:=cB;have ay:0<=s.dg/\s.dg<=s.dL:=cB;rw[iz];refine⟨λj=>r A λh=>by have:=h.kU;simp at j;omega,λj=>?_⟩;have az:(s.bq.length:Int)<=s.dg+1:=cB;clear B x K y j;have X3:=x2.J A;refine(Gy (L.ext X3).aR S.aR V).aP ?_;rintro _ m4 ⟨ct,b4,rfl,ah,aJ,ao⟩;have x4:=A.J ao;have z3:=A.aQ;refine⟨ao.eW λF Y=>A.lt (hl F Y),ct,b4,O,λB=>r x4 λh=>nb ah B h.aR,λB=>?_⟩;have aj:=yb ah B;obtain⟨U,rfl,aW,B4⟩:=aJ cB;have a0:=B4.lt;refine(jU (L.ext (x2.J x4)).cw 124 #[] #[] cD (λan=>¬lg an) (λan _ m' hx=>?_)).bL x4 hl ?_
 .apply Ag;refine(uN _ _).cg λF H Y x5=>⟨F,O,kX ?_ x5⟩;rw[<-Y];simp
 intro b5 H ax ap x5;have z5:=x5.aQ;have a1:=ap.aQ;refine⟨b5,O,λx=>r x5 λh=>?_,λx=>?_⟩
 .grind [Nr.cw]
 have aI:∀T∈s.cw,lg T:=λT Z=>iC λz=>by have:=ax.2 ⟨T,Z,z⟩;rw[x]at this;cases this
 have en:Int.toNat (e.len:Int)=s.aR.length:=V;rw[en];refine⟨V,V,V,V,?_⟩;intro m6;obtain⟨aq,s6⟩:=pu m6;have H6:dF m6 H.size bB ((CA s.aR.length (λ_=>0)).map Ce.i):=aab H;have x6:=x5.J aq;have X6:=x2.J x6;have T6:SI m6 U H.size s.aR.length (jz s.aR) (λ_=>0):=⟨B4.ext (ap.J aq),H6,V⟩;have aG:m.size<=U:=by have:=X3.aQ;omega
 have ae:∀T:Nat,Int.toNat (T:Int)=T:=cB;have aR:s.bq.length<=41:=V;have rb:∀a,0<=jz s.aR a/\jz s.aR a<=3*s.aR.length:=λa=>⟨yS _ _,O0 _ _ λo z=>(aj.jH o z).fl⟩;refine gP (n:=s.bq.length) V (λf M=>DO U H.size m6 M/\SI M U H.size s.aR.length (λa=>jz s.aR a+jX (s.bq.take f) a) (λa=>eU (s.bq.take f) a)/\∀(q:Nat)(l:bW),q<f->s.bq[q]? =some l->YW b s q l)
  ⟨DO.cT _ _ _,by simpa[jX,eU]using T6,λq l G=>absurd G (mI _)⟩ ?_
 rintro f m7 aQ μ h ⟨t7,I,ak⟩ aL
 have x7:D Q m7:=by grind [DO.FO]
 have J:=x2.J x7;have aY:=I.bI.lt;have aX:=I.cC.lt;rw[ae];refine dit (λK=>?_) λK=>?_
 .let⟨l,v⟩:=dU s.bq f;have ai:=aZ v;let⟨aN,aM,W,hr,ho,he,g0,g1,g2,g3,g4,g5⟩:=L.bq.bt v;refine⟨V,V,_,J.aS g0,_,J.aS g1,_,J.aS g2,aN,J.aS g3,aM,J.aS g4,W,J.aS g5,?_⟩;intro m8 m9;have P:D m7 m9:=by grind [D.cT,D.bZ,D.aV]
  have s9:m9.size=m7.size+1:=by grind [bD]
  have X9:=J.J P;have l9:∀F∈[m7.size,m1.size,m.size],F<m9.size:=cB;refine(IE (aD.ext X9) (hr.ext X9) (ho.ext X9) (he.ext X9)).bL cY l9 λau u af C _=>⟨au,O,λy=>r ((x7.J P).J C) λh=>nb af y (h.w v).v,λy=>?_⟩;have X:=yb af y;have N:=(x7.J P).J C;have ad:=x2.J N;refine⟨λM=>u=M/\acI s.bq f l,?_,?_⟩
  .have al:(eI ((f:Int) -1)=((f -1:Nat):Int))\/f=0:=by
    rcases FT f with j|j
    .exact bR j
    .grind [de]
   have kN:0<f->((decide (l.bH<(0:Int)))=true->∃w:Bool,vb false=.bool w/\(w=true<->dZ b s)/\D m u)/\((decide (l.bH<(0:Int)))=false->
    (0:Int)<=(eI ((f:Int) -(1:Int)))/\(eI ((f:Int) -(1:Int)))<(c.len:Int)/\
    ∃R:E,aS u c.bu (c.off+Int.toNat (eI ((f:Int) -(1:Int)))*6+4)=some R.v/\
    ((decide (l.bH>=(R.len:Int)))=true->∃w:Bool,vb false=.bool w/\(w=true<->dZ b s)/\D m u)/\
    ((decide (l.bH>=(R.len:Int)))=false->(0:Int)<=(eI ((f:Int) -(1:Int)))/\(eI ((f:Int) -(1:Int)))<(c.len:Int)/\
    ∃t:E,aS u c.bu (c.off+Int.toNat (eI ((f:Int) -(1:Int)))*6+4)=some t.v/\
    (0:Int)<=l.bH/\l.bH<(t.len:Int)/\∃ac:Int,aS u t.bu (t.off+l.bH.toNat*1)=some (vi ac)/\
    ((ac !=(0:Int))=true->∃w:Bool,vb false=.bool w/\(w=true<->dZ b s)/\D m u)/\((ac !=(0:Int))=false->u=u/\acI s.bq f l))):=λaC=>by
    have e1:=al.resolve_right V
    rw[e1,ae]
    obtain⟨q,rfl⟩:∃q,f=q+1:=⟨f -1,V⟩
    have ej:q+1 -1=q:=V
    rw[ej]
    let⟨R,ag⟩:=dU s.bq q
    let⟨pr,po,pe,aE,ar,aw,y0,y1,y2,y3,y4,y5⟩:=L.bq.bt ag
    have aA:=ar.aT
    have ac:EA s.bq (q+1)=some R:=ag
    refine⟨λj=>r N λh=>?_,λj=>⟨V,V,po,ad.aS y4,λi=>r N λh=>?_,λi=>⟨V,V,po,ad.aS y4,sp j,by simp at i;omega,bt R.bI l.bH,?_,λt=>r N λh=>?_,λt=>⟨O,⟨λZ=>cB,λav hq=>?_⟩⟩⟩⟩⟩
    .have:=((h.w v).bH.2 R ac).1;simp at j;omega
    .have:=((h.w v).bH.2 R ac).2.1;simp at i;omega
    .grind [be.ext,fW.tB]
    .have:=((h.w v).bH.2 R ac).2.2;simp at t;exact t this
    .grind
   refine⟨λj=>⟨λi=>r N λam=>?_,λi=>⟨λt=>by simp at j t;omega,λt=>⟨O,⟨λ_=>by simpa using i,λav hq=>?_⟩⟩⟩⟩,λj=>⟨λi=>kN cB,λi=>by simp at j i;omega⟩⟩
   .simp at j;subst j;have:=(am.w v).bH.1 O;simp at i;exact i this
   .simp at j;subst j;simp[EA]at hq
  .rintro _ ⟨rfl,hD⟩;have aE:=S.lr l ai;have v1:=X.lr;have v2:=X.lo;have v3:=X.lh;have ar:SI u U H.size s.aR.length (λa=>jz s.aR a+jX (s.bq.take f) a) (λa=>eU (s.bq.take f) a):=⟨I.bI.ext (P.J C),I.cC.ext (P.J C),I.ne⟩;have aC:∀a,0<=jz s.aR a+jX (s.bq.take f) a/\jz s.aR a+jX (s.bq.take f) a<=1000000000000000:=λa=>by
    have q1:=rb a;have q2:=XH (a:=s.bq.take f) (n:=10000000) (k:=999999) V (λR t=>⟨(S.lr R (gW t)).2.1,by
     let⟨q,G⟩:=cH.1 t;have ac:q<f:=by have:=br G;simp at this;omega
     rw[nm ac]at G;exact(ak q R ac G).v.bI⟩) a
    have q3:(s.bq.take f).length<=41:=cB;omega
   have aA:∀a,0<=eU (s.bq.take f) a/\eU (s.bq.take f) a<=1000000000:=λa=>by
    have q2:=UK (a:=s.bq.take f) (n:=10000000) (λR t=>(S.lr R (gW t)).2.2) a;have q3:(s.bq.take f).length<=41:=cB;have q4:=zU (s.bq.take f) a;omega
   refine(Ru (d:=m) ad L.aR hr ho he aG V ar (S.bq l ai) V ⟨V,V,aE.2.1⟩ X.bI aC aA).aP ?_;rintro _ al ⟨av,rfl,ag,aw,am⟩;have aO:DO U H.size m6 al:=(t7.ext (P.J C)).J am;have aP:D Q al:=by grind [DO.FO]
   refine⟨λF Y=>am.bG F (C.lt (l9 F Y)) cB cB,av,O,λj=>r aP λh=>nb ag j (h.w v).tal,λj=>aL V _ ⟨aO,?_,λq R G t=>?_⟩⟩
   .have ac:=aw cB;refine⟨?_,?_,ac.ne⟩
    .rw[mF (g:=λa=>jz s.aR a+jX (s.bq.take f) a+fA l.aU l.bI a)]
     .exact ac.bI
     grind [YB]
    .rw[mF (g:=λa=>eU (s.bq.take f) a+iW l.cC a)]
     .exact ac.cC
     grind [Wp]
   .rcases dJ q f with i|i
    .exact ak q R i t
    .have:q=f:=V;subst this;rw[v]at t;simp at t;subst t;exact⟨X,hD,yb ag j⟩
 rw[eQ V]at I;have hW:∀(q:Nat)(l:bW),s.bq[q]? =some l->YW b s q l:=by grind [br]
 refine gP (n:=s.aR.length) V (λf M=>D m7 M/\∀(a:Nat)(o:dt),a<f->s.aR[a]? =some o->(0<o.bS->o.bS=jz s.aR a+jX s.bq a)/\(o.bS<0->eU s.bq a=1)) ⟨cY,λa o ha=>absurd ha (mI _)⟩ ?_;rintro t m8 I2 μ2 al ⟨R,af⟩ ai;have X:=J.J R;rw[ae];refine dit (λy=>?_) λy=>?_
 .have ad:t<s.aR.length:=V;let⟨o,ac⟩:=gD ad;obtain⟨l,_,g0,g1,g2⟩:=L.aR.bt ac;refine⟨λM=>D m8 M/\(0<o.bS->o.bS=jz s.aR t+jX s.bq t)/\(o.bS<0->eU s.bq t=1),?_,?_⟩
  .refine⟨V,V,_,X.aS g0,_,X.aS g1,l,X.aS g2,?_⟩;intro m9 u;have C:D m8 u:=by grind [D.cT,D.bZ,D.aV]
   have N:=(x7.J R).J C;have go:=JN (I.bI.ext (R.J C)) ad;have gh:=JN (I.cC.ext (R.J C)) ad;simp -zeta only[E.ku,E.lT,E.vL,eV,nu];have cC:(0<o.bS->o.bS=jz s.aR t+jX s.bq t)->((decide (o.bS<(0:Int)))=true->(0:Int)<=t/\(t:Int)<(s.aR.length:Int)/\∃ag:Int,aS u H.size t=some (vi ag)/\
    ((ag !=(1:Int))=true->∃w:Bool,vb false=.bool w/\(w=true<->dZ b s)/\D m u)/\((ag !=(1:Int))=false->D m8 u/\(0<o.bS->o.bS=jz s.aR t+jX s.bq t)/\(o.bS<0->eU s.bq t=1)))/\
    ((decide (o.bS<(0:Int)))=false->D m8 u/\(0<o.bS->o.bS=jz s.aR t+jX s.bq t)/\(o.bS<0->eU s.bq t=1)):=λz=>
    ⟨λj=>⟨V,V,_,gh,λi=>r N λh=>by have:=h.cC.eO t o ac cB;simp at i;exact i this,λi=>⟨C,z,λ_=>by simpa using i⟩⟩,λj=>⟨C,z,λi=>by simp at j;omega⟩⟩
   refine⟨λj=>⟨V,V,_,go,λi=>r N λh=>?_,λi=>cC λ_=>by simpa using i⟩,λj=>cC λi=>by simp at j;omega⟩;have:=h.ZA t o ac cB;grind
  .rintro m9 ⟨P,u,C⟩;refine ai V _ ⟨R.J P,λa W ha he=>?_⟩;rcases dJ a t with i|i
   .exact af a W i he
   grind
 .refine oO (WV ⟨aH,ab,aa,hv,aK,aF,ay,az,aI,aj,λq l v=>(hW q l v).ok,⟨λl v i u=>?_,λN o z Z=>(af N o (oh (br z)) z).2 Z,λN o z Z=>?_⟩,λa o z e=>(af a o (oh (br z)) z).1 e⟩) X
  .let⟨q,G⟩:=Me v;by_cases C:i=0
   .exact bC C
   .obtain⟨B,o,x,_⟩:=(hW q l G).tal.cC i u C;grind [br]
  .refine PU λl v i u W=>?_;let⟨q,G⟩:=Me v;let⟨B,C,x,K⟩:=(hW q l G).tal.cC i u V;rw[W,sK,z]at x;simp at x;subst x;omega
def Ix(j:gY m d p b)(r:j9 m cw e c s)(q:Rc s):fX dO 39 [.agg #[d.v,p.v],stV s cw e c] m (dZ b s):=by
 apply CM;simp -zeta only[dR];intro l h;have a:D m h:=((D.cT m).bZ _).bZ _;have w:=pz l;have x:h.size=m.size+2:=cB;have k:∀n∈[l.size,m.size],n<h.size:=cB;refine(pt (j.ext a)).bL cY k λb3 u i f _=>⟨b3,O,λg=>?_,λg=>fy (λo=>fb i g o.iG) (a.J f)⟩;refine(IL (j.ext (a.J f)) (i.1 g) (r.ext (a.J f)) q).bL f k λb4 v o y t=>⟨b4,O,kX o (a.J t)⟩
end
end Go.Proofs.YtbbbdejieenniaaGreat
section
namespace Go.Vc
def jF.nE{m:bh}{b o:Nat}{l r:ae}(h:jF m b o l)(k:jF m b (o+l.length) r):jF m b o (l++r):=λi d a=>by
 rcases dJ i l.length with c|c
 .rw[dY c]at a;exact h i d a
 .rw[dP c]at a;have:=k _ d a;grind [List.length]
def fW.Z3{α:Type}{m:bh}{b:Nat}{R:ae->α->Prop}{s:E}{l:List α}(h:fW m b R s l)(j:∀c x,R c x->c.length=b):∃a,iy b R a l/\jF m s.bu s.off a.flatten:=by
 have:∀k,k<=l.length->∃a,iy b R a (l.take k)/\jF m s.bu s.off a.flatten:=by
  intro k;induction k with
  |zero=>intro _;exact⟨[],by simpa using iy.gN b R,λi e d=>by simp at d⟩
  |succ k o=>
   intro p;let⟨a,d,e⟩:=o V;let⟨x,g⟩:=dU l k;let⟨c,f,i⟩:=h.kY k x g;refine⟨a++[c],by rw[bX g];exact d.Dd (j c x f) f,?_⟩;rw[uH];refine e.nE ?_;have n:a.flatten.length=k*b:=by rw[dS d.aQ,d.aT,qW,mH V]
   rw[n];simpa using i
 let⟨a,d,e⟩:=this l.length bY;grind [List.take_length]
end Go.Vc
namespace Go.Proofs.YtbbbdejieenniaaGreat
open Go.Vc
variable{m:bh}{s:E}{d:ag}
def jw.KJ{a:bh}{l:ae}{f j:Nat}(e:jw m a f j s l)(i:D m a)(g:∀b,m.size<=b->d b=0)(k:Nat):∃c,dI (λ_=>False) d m c a/\iE c a f j k s l/\∀b,c b=d b\/c b=k:=by
 rcases e.bt with h|⟨b,n,tail,h,h2,h3,h4,h5⟩
 .exact⟨d,dI.fB i g,iE.jA e λo=>absurd h o,λb=>bC O⟩
 .refine⟨oG d b k,dI.oG i g h2 h3.lt k,iE.jA e λ_=>by rw[h];exact gU,λn=>?_⟩;grind [gU,fK]
@[grind cases] structure ae0 (N:Nat) (ro:ag) (m:bh) (r:E) (h:ah) (css0 css:List ae) (k:Nat):Prop where
 qB:iE ro m wQ 3 3 r css.flatten
 aT:css.length=h.length
 aQ:∀cs∈css,cs.length=3
 cy:∀(j:Nat)(cs:ae)(c:dt),j<k->css[j]? =some cs->h[j]? =some c->Ck N ro m cs c
 kN:∀j,k<=j->css[j]? =css0[j]?
 sep:∀(i j:Nat)(ci cj:ae)(a b:E),i<k->j<k->css[i]? =some ci->css[j]? =some cj->ci[2]? =some (.s a)->cj[2]? =some (.s b)->i≠j->a.len≠0->b.len≠0->a.bu≠b.bu
def EH{a:List ae}{n:Nat}(e:s.len=n)(c:a.length=n)(f:∀b∈a,b.length=3)(d:jF m s.bu s.off a.flatten)(g:n<=1000000000):
 bK dO 127 [s.v] m λv b=>∃r,v=r.v/\jw m b wQ 3 r a.flatten/\D m b:=by
 apply qP
 exact VX (b:=[.i 0,.i 0,.s .nil]) e c f d V
def Ki{N:Nat}{hp:E}{r:ah}(hn:∀b,m.size<=b->d b=0)(h3:∀b,b<m.size->d b≠3)(Z:gC m hp r)(hN:N<=m.size)(au:∀c∈r,c.bJ.length<=3)(aw:r.length<=1000000000):
 bK dO 69 [hp.v] m λaz m'=>∃T s,az=s.v/\gB N T m' s r/\dI (λk=>k=3) d m T m'/\D m m':=by
 apply Eh
 simp -zeta only[dR]
 have hl:=Z.aT
 let⟨Y,u,mu⟩:=Z.Z3 (λz an⟨ad,e,_⟩=>by rw[e];rfl)
 refine(EH hl u.aT u.aQ mu aw).aP ?_
 rintro _ m1 ⟨y,rfl,or,x1⟩
 obtain⟨g,C1,U,_⟩:=jw.KJ or x1 hn 3
 have aE:y.len=r.length:=by have:=U.aT;rw[dS u.aQ,u.aT]at this;omega
 refine⟨y,O,?_⟩
 have ay:∀{T:ag}{M:bh},dI (λk=>k=3) d m T M->D m M:=λc=>⟨c.aQ,λb i=>c.fQ b i (h3 b i)⟩
 refine gP (n:=r.length) V (λk M=>∃h,ae0 N g M y r Y h k/\dI (λk=>k=3) d m g M) ⟨Y,⟨U,u.aT,u.aQ,λj _ _ l=>absurd l (mI _),λ_ _=>O,λB _ _ _ _ _ F=>absurd F (mI _)⟩,C1.aP λ_=>False.elim⟩ ?_
 rintro k m2 aA μ hk ⟨h,a,v⟩ ax
 have X2:=ay v
 have en:Int.toNat (k:Int)=k:=V
 rw[en]
 refine dit (λP=>?_) λP=>?_
 .have ak:k<r.length:=V
  let⟨c,R⟩:=gD ak
  let⟨ad,hf,g0,g1,g2⟩:=(gC.ext X2 Z).bt R
  have aD:=au c (aZ R)
  refine⟨V,V,c.bS,g0,c.jx,g1,ad,g2,?_⟩
  intro m3 m4
  obtain⟨x4,s4⟩:=pv m4
  refine(gT (hf.ext x4) V).aP ?_
  rintro _ G ⟨q,rfl,oq,x5⟩
  have I:dI (λ_=>False) g m2 g G:=dI.fB (x4.J x5) v.bF
  have W:=a.qB.fN I id
  have aB:=a.aT
  have ai:k*3+2+1<=h.flatten.length:=by rw[dS a.aQ];have:(k+1)*3<=h.length*3:=fD _ V;omega
  let⟨z,S⟩:=dU h k
  let⟨ac,af⟩:=dU Y k (by rw[u.aT];exact ak)
  have ao:z=ac:=by have:=a.kN k bY;rw[S,af]at this;simpa using this
  let⟨f0,ap,aC⟩:=u.eR k ac c af R
  rw[ao,ap]at S
  have ar:y.cap≠0:=λe=>by have:=U.le;omega
  have rb:=W.bu ar
  have c6:∀am,dI (λk=>k=3) g G g (aV G y.bu (y.off+(k*3+2)) am):=λam=>dI.aV I.bF rb.2 _ _
  have aq:g m2.size=0:=v.bF _ bY
  refine⟨x5.eW eX,q,O,V,V,?_⟩
  rw[iv]
  refine⟨W.wr ai,?_⟩
  intro m6
  have H:=c6 [.s q]
  have aa:c.bJ≠[]->g q.bu=0/\m4.size<=q.bu:=λx=>by
   have:=(FB.jA oq x).1;exact⟨v.bF _ V,this⟩
  have iq:be G q c.bJ:=be.jA oq V
  have L6:Ck N g m6 [.i c.bS,.i c.jx,.s q] c:=Ck.fN H cD _ _ ⟨q,O,iq,λx=>⟨(aa x).1,VE ((aa x).2) v.aQ,(FB.jA oq x).2⟩⟩
  have ab:(h.set k [.i c.bS,.i c.jx,.s q])[k]? =some [.i c.bS,.i c.jx,.s q]:=ft (br S)
  refine⟨(H.aP λk hk=>by omega:To g G g m6).eW (by simp;exact⟨by have:=x5.aQ;omega,aq⟩),ax V _ ⟨h.set k [.i c.bS,.i c.jx,.s q],⟨?_,sp a.aT,λX w=>?_,λj X L l w hd=>?_,λj l=>?_,?_⟩,(v.J (I.aP λ_=>False.elim)).J H⟩⟩
  .have:=W.dX (o:=k*3+2) (new:=[.s q]) ai
   rw[An h k _ 2 [.s q] a.aQ S bO]at this
   exact this
  .rcases jc w with f|f
   .exact a.aQ X f
   .rw[f];rfl
  .rcases dJ j k with f|f
   .rw[eu V]at w
    exact Ck.fN H cD _ _ (Ck.fN I id _ _ (a.cy j X L f w hd))
   .have:j=k:=V
    subst this
    rw[ab]at w
    simp at w;subst w
    rw[R]at hd;simp at hd;subst hd;exact L6
  .rw[eu V];exact a.kN j V
  .have al:∀(j:Nat)(p:ae)(b:E),j<k->h[j]? =some p->p[2]? =some (.s b)->q.len≠0->b.len≠0->q.bu≠b.bu:=λj p b l t i f C=>by
    let⟨L,hd⟩:=dU r j;obtain⟨b',e,ib,_⟩:=a.cy j p L l t hd;rw[e]at i;simp at i;subst i;have x:L.bJ≠[]:=λe=>by have:=ib.aT;rw[e]at this;simp at this;exact C this
    have av:c.bJ≠[]:=λe=>by have:=iq.aT;rw[e]at this;simp at this;exact f this
    have:=lx ib x;have:=(aa av).2;omega
   intro B j K p J b F l A t Q i aj f C
   by_cases ik:B=k
   .subst ik
    rw[ab]at A
    rw[eu aj]at t
    simp at A;subst A;simp at Q;subst Q
    exact al j p b V t i f C
   .rw[eu (λe=>ik e.symm)]at A
    by_cases jk:j=k
    .subst jk
     rw[ab]at t
     simp at t;subst t;simp at i;subst i
     exact tf (al B K J V A Q C f)
    .rw[eu (λe=>jk e.symm)]at t
     exact a.sep B j K p J b V V A t Q i aj f C
 .have e:∀{j:Nat}{z:ae},h[j]? =some z->j<k:=λl=>by have:=br l;have:=a.aT;omega
  exact⟨g,y,O,⟨h,a.qB,⟨a.aT,a.aQ,λj z an P f=>a.cy j z an (e P) P f⟩,λB j K p J b F l=>a.sep B j K p J b (e F) (e l) F l⟩,v,X2⟩
end Go.Proofs.YtbbbdejieenniaaGreat
end
namespace Go.Proofs.YtbbbdejieenniaaGreat
open Go.Vc
section
variable{a e:ag}{m h g:bh}{p:Nat->Prop}{s:St}{d:List ae}
@[grind cases] structure Bs (m0:bh) (ro:ag) (m:bh):Prop where
 cV:D m0 m
 mq:∀b,b<m0.size->ro b=0
 bF:∀b,m.size<=b->ro b=0
@[grind cases] structure qZ (m0:bh) (ro:ag) (m:bh) (cw hp fr:E) (s:St):Prop where
 bs:Bs m0 ro m
 cw:iE ro m bB 1 2 cw (s.cw.map Ce.i)
 aR:gB m0.size ro m hp s.aR
 bq:rP ro m fr s.bq
@[grind cases] structure Io (s:St):Prop where
 cw:s.cw.length<=900000000
 fl:∀c∈s.aR,c.bJ.length<=3
 aR:s.aR.length<=900000000
 kU:s.bq.length<=1000
 bq:∀f∈s.bq,f.aU.length<=1000000/\f.bI.length<=1000000/\f.cC.length<=1000000
def adx(g:bh)(a:ag)(m:bh)(s:St)(v:Value)(h:bh):Prop:=∃e cw c b,v=stV s cw c b/\qZ g e h cw c b s/\dI (λ_=>False) a m e h
abbrev Ch2:=dI (λk=>2<=k)
def Ch2.Qg(c:Ch2 a m e h)(d:∀b,b<m.size->a b<=1):dI (λ_=>False) a m e h:=by constructor<;>grind [dI.aQ,dI.jt,dI.bF,dI.fQ]
theorem dI.FO(b:dI (λ_=>False) a m e h):D m h:=⟨b.aQ,λc d=>b.fQ c d id⟩
def Bs.fN(B:Bs g a m)(b:dI (λ_=>False) a m e h):Bs g e h:=by constructor<;>grind [Bs.cV,D.J,dI.FO,dI.jt,D.lt,Bs.mq,dI.bF]
theorem dI.Db(f:dI p a m e h){l:ad}(d:∀b∈l,b<m.size/\¬p (a b)):gS l m h:=λb c=>f.fQ b (d b c).1 (d b c).2
@[grind cases] structure Cpy (m0:bh) (ro:ag) (m:bh) (ro':ag) (M:bh) (q r:E) (s:St):Prop where
 fN:Ch2 ro m ro' M
 cw:iE ro' M bB 1 2 q (s.cw.map Ce.i)
 aR:gB m0.size ro' M r s.aR
theorem Cpy.qy{d e:ag}{b c:bh}{q r:E}(h:Cpy g a m d b q r s)(f:dI p d b e c)(i:∀k,p k->4<=k):Cpy g a m e c q r s:=
 by constructor<;>grind [Cpy.fN,dI.J,dI.aP,Cpy.cw,iE.fN,Cpy.aR,gB.fN]
def Dc{s:E}{n:Nat}(c:s.len=n)(b:d.length=n)(e:∀a∈d,a.length=6)(a:jF m s.bu s.off d.flatten)(f:n<=1000000000):
 bK dO 70 [s.v] m λv h=>∃r,v=r.v/\jw m h iu 6 r d.flatten/\D m h:=by
 apply pY
 exact VX (b:=[.i 0,.i 0,.i 0,.s .nil,.s .nil,.s .nil]) c b e a V
@[grind cases] structure aeZ (ro:ag) (m:bh) (r:E) (fs:an) (css0 css:List ae) (k:Nat):Prop where
 qB:iE ro m iu 6 4 r css.flatten
 aT:css.length=fs.length
 aQ:∀cs∈css,cs.length=6
 cy:∀(j:Nat)(cs:ae)(f:bW),j<k->css[j]? =some cs->fs[j]? =some f->Yb ro m j cs f
 kN:∀j,k<=j->css[j]? =css0[j]?
def WI{k o:Nat}{a:ae}{x:Ce}(e:∀a∈d,a.length=6)(b:d[k]? =some a)(g:o<6):kH d.flatten (k*6+o) [x]=(d.set k (a.set o x)).flatten/\(∀c∈d.set k (a.set o x),c.length=6)/\(d.set k (a.set o x))[k]? =some (a.set o x):=by
 refine⟨An d k a o [x] e b cB,λc f=>?_,ft (br b)⟩;grind [List.mem_or_eq_of_mem_set,List.length_set,aZ]
def ID{cw hp y:E}(ai:Bs g a m)(av:∀c,a c<=1)(S:j9 m cw hp y s)(ad:Io s):bK dO 40 [stV s cw hp y] m (adx g a m s):=by
 apply CP;simp -zeta only[dR];intro h F;have s1:=pz h;have s2:F.size=m.size+2:=by simp[F,s1]
 have x2:D m F:=((D.cT m).bZ _).bZ _;obtain⟨G,ak⟩:∃G,G=oG (oG a m.size 8) h.size 8:=⟨_,O⟩;have C2:dI (λ_=>False) a m G F:=by
  rw[ak];exact(dI.oG (m':=h) (k:=8) ((D.cT m).bZ _) ai.bF bY V).J (dI.oG (m':=F) (k:=8) ((D.cT h).bZ _) (λc hb=>by rw[fK V];exact ai.bF c V) bY V)
 have r0:G m.size=8/\G h.size=8:=(ak▸⟨by rw[fK V,gU],gU⟩);have aU:∀c,G c=8\/G c<=1:=λc=>by
  rw[ak];unfold oG;split
  .exact bC O
  .split
   .exact bC O
   .exact bR (av c)
 have aQ:dF F h.size mg [.i 0,.i 0,.i 0,.i 0,.s .nil,.s .nil,.s .nil]:=dF.push h _ _;clear_value F;clear ak;have hN:=ai.cV.aQ;have bf:=ad.cw;have be:=ad.aR;have bb:=ad.kU;refine(gT (S.cw.ext x2) V).aP ?_;rintro _ m3 ⟨am,rfl,oq,H⟩;let⟨a5,C3,A3,aW⟩:=jw.KJ oq H C2.bF 2;have z3:=H.aQ;have kp:∀{M Y:bh},D M Y->m.size<M.size->∀i,aS Y m.size i=aS M m.size i:=λhx ac i=>bE (hx.bG _ ac) i;have X3:=x2.J H;refine⟨H.eW eX,am,O,kp H V _,kp H V _,(Ki (N:=g.size) C3.bF (λc _=>VE (aW c) (aU c)) (S.ext X3).aR V ad.fl V).aP ?_⟩;rintro _ m4 ⟨a6,an,rfl,H4,W,x4⟩;have z4:=x4.aQ;have X4:=X3.J x4;have K4:Cpy g a m a6 m4 am an s:=⟨((C2.J C3).aP λ_=>False.elim:Ch2 a m a5 m3).J (W.aP λb Q=>V),A3.fN W cD,H4⟩;have aP:=S.bq.aT;let⟨au,p,mu⟩:=(S.ext X4).bq.Z3 (λP ah⟨_,_,_,r,_⟩=>by rw[r];rfl);refine⟨x4.eW eX,an,O,kp x4 V _,(Dc aP p.aT p.aQ mu V).aP ?_⟩;rintro _ m5 ⟨fc,rfl,of,x5⟩;let⟨z,J,A5,bi⟩:=jw.KJ of x5 W.bF 4;have z5:=x5.aQ;have K5:=K4.qy J λ_=>False.elim;refine⟨x5.eW eX,fc,O,?_⟩;intro m6 m7 m8;have r5:z m.size=8/\z h.size=8:=⟨by rw[J.jt _ V,W.jt _ V,C3.jt _ V];exact r0.1,by rw[J.jt _ V,W.jt _ V,C3.jt _ V];exact r0.2⟩;have C8:dI (λb=>b=8) z m5 z m8:=((dI.aV J.bF (show(λb=>b=8) (z m.size)from r5.1) _ _).J (dI.aV (by rw[bD];exact J.bF) (show(λb=>b=8) (z m.size)from r5.1) _ _)).J (dI.aV (by rw[bD,bD];exact J.bF) (show(λb=>b=8) (z m.size)from r5.1) _ _);have K8:=K5.qy C8 λb Q=>V;have A8:=A5.fN C8 cD;have aR:dF m8 h.size mg [.i 0,.i 0,.i 0,.i 0,.s .nil,.s .nil,.s .nil]:=((aQ.ext (H.J (x4.J x5))).congr (by
  show(aV (aV (aV m5 m.size 4 _) m.size 5 _) m.size 6 _)[h.size]? =_;rw[cq _ _ _ _ V,cq _ _ _ _ V,cq _ _ _ _ V]))
 have s8:m8.size=m5.size:=by simp[m8,m7,m6,bD]
 have bd:fc.len=s.bq.length:=by have:=A8.aT;rw[dS p.aQ,p.aT]at this;omega
 refine gP (n:=s.bq.length) V (λb M=>∃e d,Cpy g a m e M am an s/\aeZ e M fc s.bq au d b/\m5.size<=M.size/\e m.size=8/\e h.size=8/\dF M h.size mg [.i 0,.i 0,.i 0,.i 0,.s .nil,.s .nil,.s .nil])
  ⟨z,au,K8,⟨A8,p.aT,p.aQ,λv _ _ hj=>absurd hj (mI _),λ_ _=>O⟩,V,r5.1,r5.2,aR⟩ ?_
 rintro b t a7 μ Q ⟨A,d,X,f,z9,r9,aD,aT⟩ a0
 have en:Int.toNat (b:Int)=b:=V;rw[en];have aJ:∀{e:ag}{M:bh},Ch2 a m e M->D m M:=λaH=>(aH.Qg λc _=>av c).FO;refine dit (λh1=>?_) λh1=>?_
 .have aB:b<s.bq.length:=V;let⟨j,hf⟩:=gD aB;have bc:=ad.bq j (aZ hf);let⟨aI,ab⟩:=dU au b ((p.aT▸aB));let⟨ra,oa,Z,e0,ir,io,ih⟩:=p.eR b aI j ab hf;have aA:d[b]? =some [.i j.fP,.i j.pc,.i j.bH,.s ra,.s oa,.s Z]:=by rw[f.kN b bY,ab,e0]
  have R:∀(i:Nat)(ah:Ce),[Ce.i j.fP,.i j.pc,.i j.bH,.s ra,.s oa,.s Z][i]? =some ah->aS t fc.bu (fc.off+b*6+i)=some ah.v:=λi ah hx=>by
   have:=f.qB.kY (b*6+i) ah (js f.aQ aA hx);rwa[<-iv]at this
  obtain⟨r',o',h',jr,jo,jh,_,_,_,y3,y4,y5⟩:=S.bq.bt hf;have X9:=aJ X.fN;have er:r'=ra/\o'=oa/\h'=Z:=by
   obtain⟨a9,⟨a8,b1,c1,e1,_⟩,bg⟩:=S.bq.kY b j hf;have g3:aS m4 y.bu (y.off+b*6+3)=some ra.v:=by
    have:=mu (b*6+3) (.s ra) (js p.aQ ab (by rw[e0];rfl));rwa[<-iv]at this
   have g4:aS m4 y.bu (y.off+b*6+4)=some oa.v:=by
    have:=mu (b*6+4) (.s oa) (js p.aQ ab (by rw[e0];rfl));rwa[<-iv]at this
   have g5:aS m4 y.bu (y.off+b*6+5)=some Z.v:=by
    have:=mu (b*6+5) (.s Z) (js p.aQ ab (by rw[e0];rfl));rwa[<-iv]at this
   rw[X4.aS y3]at g3;rw[X4.aS y4]at g4;rw[X4.aS y5]at g5;exact⟨E.Lz.1 (sj g3),E.Lz.1 (sj g4),E.Lz.1 (sj g5)⟩
  obtain⟨rfl,rfl,rfl⟩:=er;refine⟨V,V,_,R 0 _ O,_,R 1 _ O,_,R 2 _ O,_,R 3 _ O,_,R 4 _ O,_,R 5 _ O,?_⟩;intro aC aw;obtain⟨ao,bo⟩:=pv aw;have az:dI (λ_=>False) A t (oG A t.size 8) aw:=dI.oG ao X.fN.bF bY V 8;refine(gT (jr.ext (X9.J ao)) V).aP ?_;rintro _ bj ⟨qr,rfl,a1,u⟩;obtain⟨bm,ar,aE,_⟩:=jw.KJ a1 u az.bF (10+3*b);have bq:=u.aQ;have l:∀{M Y:bh}{c:Nat},D M Y->c<M.size->∀i,aS Y c i=aS M c i:=λhx ac i=>bE (hx.bG _ ac) i;have bl:∀{M:bh},aw.size<=M.size->∀c∈[t.size,m.size,h.size],c<M.size:=λa_ c hb=>by simp at hb;omega
  refine⟨u.eW (bl bY),qr,O,l u V _,l u V _,l u V _,l u V _,l u V _,(gT (jo.ext (X9.J (ao.J u))) V).aP ?_⟩;rintro _ bk ⟨qo,rfl,a2,B⟩;obtain⟨bn,aj,aF,_⟩:=jw.KJ a2 B ar.bF (11+3*b);have bs:=B.aQ;refine⟨B.eW (bl V),qo,O,l B V _,l B V _,l B V _,l B V _,(gT (jh.ext (X9.J (ao.J (u.J B)))) V).aP ?_⟩;rintro _ ax ⟨qh,rfl,a3,U⟩;obtain⟨q,C,aG,_⟩:=jw.KJ a3 U aj.bF (12+3*b);have bt:=U.aQ;have K:dI (λ_=>False) A t q ax:=((az.J ar).J aj).J C;have L:q t.size=8/\q m.size=8/\q h.size=8:=⟨by rw[C.jt _ V,aj.jt _ V,ar.jt _ V];exact gU,by rw[K.jt _ V];exact r9,by rw[K.jt _ V];exact aD⟩;have A9:=f.qB.fN K id;have aO:fc.cap≠0:=λr=>by have:=f.qB.le;omega
  have T:=A9.bu aO;have a4:fc.bu≠m.size/\fc.bu≠h.size/\fc.bu≠t.size:=⟨λr=>by have:=T.2;rw[r,L.2.1]at this;omega,λr=>by have:=T.2;rw[r,L.2.2]at this;omega,λr=>by have:=T.2;rw[r,L.1]at this;omega⟩;have ba:=f.aT;have JQ:∀w,w<6->b*6+w+1<=d.flatten.length:=λw ho=>by rw[dS f.aQ];have:(b+1)*6<=d.length*6:=fD _ V;omega
  have sm:∀{M:bh}(w:Nat)(af:ae),gS [t.size,m.size,h.size] M (aV M fc.bu w af):=λw af c hb=>cq _ _ _ _ (by simp at hb;omega);have gg:∀{M:bh}(w:Nat)(af:ae)(i:Nat),aS (aV M fc.bu w af) m.size i=aS M m.size i:=λw af i=>bE (cq _ _ _ _ (λr=>a4.1 r.symm)) i;refine⟨U.eW (bl V),qh,O,l U V _,l U V _,l U V _,V,V,?_⟩;simp -zeta only[iv];refine⟨A9.wr (JQ 3 cD),?_⟩;let⟨e1,f1,aL⟩:=WI (x:=.s qr) (o:=3) f.aQ aA cD;have ap:=A9.dX (new:=[.s qr]) (JQ 3 cD);rw[e1]at ap;intro aX;let⟨e2,f2,aM⟩:=WI (x:=.s qo) (o:=4) f1 aL cD;have aq:=ap.dX (new:=[.s qo]) (by have:=JQ 4 cD;rw[dS f.aQ]at this;rw[dS f1,pJ];exact this);rw[e2]at aq;refine⟨sm _ _,gg _ _ _,gg _ _ _,V,V,ap.wr (by have:=JQ 4 cD;rw[dS f.aQ]at this;rw[dS f1,pJ];exact this),?_⟩;intro aY;let⟨e3,f3,aN⟩:=WI (x:=.s qh) (o:=5) f2 aM cD;have ay:=aq.dX (new:=[.s qh]) (by have:=JQ 5 cD;rw[dS f.aQ]at this;rw[dS f2,pJ,pJ];exact this);rw[e3]at ay;refine⟨sm _ _,gg _ _ _,V,V,aq.wr (by have:=JQ 5 cD;rw[dS f.aQ]at this;rw[dS f2,pJ,pJ];exact this),?_⟩;intro al;have I:dI (λb=>b=4) q ax q al:=((dI.aV C.bF (show(λb=>b=4) (q fc.bu)from T.2) _ _).J (dI.aV (by rw[bD];exact C.bF) (show(λb=>b=4) (q fc.bu)from T.2) _ _)).J (dI.aV (by rw[bD,bD];exact C.bF) (show(λb=>b=4) (q fc.bu)from T.2) _ _);have bp:al.size=ax.size:=by simp[al,aY,aX,bD]
  have qe:Yb q al b [.i j.fP,.i j.pc,.i j.bH,.s qr,.s qo,.s qh] j:=⟨qr,qo,qh,O,(((aE.fN aj id).fN C id).fN I V),(aF.fN C id).fN I V,aG.fN I V⟩;refine⟨sm _ _,a0 V _ ⟨q,_,(X.qy K λ_=>False.elim).qy I λb Q=>V,⟨ay,by simp;exact f.aT,f3,λv P aK hj aa hg=>?_,λv hj=>?_⟩,V,L.2.1,L.2.2,(aT.ext K.FO).congr (I.fQ _ V (by rw[L.2.2];decide))⟩⟩
  .rcases dJ v b with h5|h5
   .rw[eu V,eu V,eu V]at aa;exact((f.cy v P aK h5 aa hg).fN K λ_ _ _=>id).fN I λb Q _=>V
   .have:v=b:=V;subst this;rw[aN]at aa;simp at aa;subst aa;rw[hf]at hg;simp at hg;subst hg;exact qe
  .rw[eu V,eu V,eu V];exact f.kN v V
 .intro aC;have q:dI (λb=>b=8) A t A aC:=dI.aV X.fN.bF (show(λb=>b=8) (A h.size)from aD) _ _;have l:=X.qy q λb Q=>V;have ac:∀{v:Nat}{P:ae},d[v]? =some P->v<b:=λhj=>by have:=br hj;have:=f.aT;omega
  have u:rP A t fc s.bq:=⟨d,f.qB,f.aT,f.aQ,λi P j h1 r=>f.cy i P j (ac h1) h1 r⟩;have j:=l.fN.Qg λc _=>av c;exact⟨A,am,an,fc,O,⟨ai.fN j,l.cw,l.aR,u.fN q λb Q=>V⟩,j⟩
end
section
variable{g:ag}{e:bh}
abbrev z7:ae:=[.i 0,.i 0,.i 0,.i 0,.s .nil,.s .nil,.s .nil]
@[grind cases] structure Uc (m0:bh) (ro:ag) (m m2:bh) (s:St) (ro':ag) (M:bh) (q r:Option E) (ob:Option Nat):Prop where
 fN:Ch2 ro m ro' M
 ext:D m2 M
 no3:r=none->∀b,ro' b≠3
 bV:∀b,m.size<=b->b<m2.size->ro' b=8
 cw:∀x,q=some x->iE ro' M bB 1 2 x (s.cw.map Ce.i)
 aR:∀x,r=some x->gB m0.size ro' M x s.aR
 ob:∀x,ob=some x->m2.size<=x/\ro' x=8/\dF M x mg z7
variable{h:bh}{i:ag}{m f:bh}{s:St}{d:ag}{M:bh}{q r:Option E}{j:Option Nat}
def Uc.nj(k:Uc h i m f s d M q r j)(n:dI (λa=>a=3) d M g e)(p:D M e)(C:∀b,m.size<=b->b<f.size->g b=8){u o:Option E}{t:Option Nat}(z:r=none\/dI (λ_=>False) d M g e)(B:o=none->∀b,g b≠3)
 (w:∀x,u=some x->q=some x\/iE g e bB 1 2 x (s.cw.map Ce.i))(y:∀x,o=some x->r=some x\/gB h.size g e x s.aR)(A:∀x,t=some x->j=some x\/(f.size<=x/\g x=8/\dF e x mg z7)):Uc h i m f s g e u o t:=
 ⟨k.fN.J (n.aP λa c=>V),k.ext.J p,B,C,λx c=>(w x c).elim (λa=>(k.cw x a).fN n cD) id,
  λx c=>(y x c).elim (λa=>z.elim (λl=>by rw[l]at a;cases a) λl=>(k.aR x a).fN l id id) id,
  λx c=>(A x c).elim (λa=>by
   let⟨v,b,l⟩:=k.ob x a;exact⟨v,by rw[n.jt _ l.lt];exact b,l.ext p⟩) id⟩
def Uc.ZM(a:Uc h i m f s d M q r j){p:Nat->Prop}(c:dI p d M g e):∀b,m.size<=b->b<f.size->g b=8:=by grind [dI.jt,Uc.ext,D.lt,Uc.bV]
def Uc.c(b:Uc h i m f s d M none r j){x:E}(n:jw M e bB 1 x (s.cw.map Ce.i))(k:D M e):∃g,Uc h i m f s g e (some x) r j:=by
 let⟨g,C,A,l⟩:=jw.KJ n k b.fN.bF 2;exact⟨g,b.nj (C.aP λ_=>False.elim) k (b.ZM C) (bR C) (λa c=>VE (l c) (b.no3 a c)) (λy a=>bR cB) (λy a=>bC a) λy a=>bC a⟩
def Uc.a(b:Uc h i m f s d M q r j)(c:D M e):Uc h i m f s d e q r j:=
 have C:dI (λ_=>False) d M d e:=dI.fB c b.fN.bF
 b.nj (C.aP λ_=>False.elim) c (b.ZM C) (bR C) b.no3 (λy a=>bC a) (λy a=>bC a) λy a=>bC a
def Uc.b(b:Uc h i m f s d M q r none){e:bh}(a:e=M.push (.cells (db z7) mg)):∃g,Uc h i m f s g e q r (some M.size):=by
 have c:D M e:=by grind [D.push]
 have C:dI (λ_=>False) d M (oG d M.size 8) e:=dI.oG c b.fN.bF bY cB 8;refine⟨_,b.nj (C.aP λ_=>False.elim) c (b.ZM C) (bR C) (λl j=>?_) (λy a=>bC a) (λy a=>bC a) λy k=>bR ?_⟩
 .grind [Array.size,gU,fK]
 .grind [Uc.ext,D.aQ,gU,dF.push]
end
section
variable{n e:Nat}{m2 mx M f:bh}{l:ae}
def Q6:St:=⟨0,0,0,0,[],[],[]⟩
structure Run where
 s:St
 ok:Bool
open Classical in
noncomputable def Qx (g:da) (s:St) (a:Int):Run:=if dZ g s/\0<=a/\a<=100000 then⟨bA g a.toNat s,true⟩else⟨Q6,false⟩
def dZ.pL{g:da}{s:St}(h:dZ g s)(a:Sm n s)(b:n<=900000000):Io s:=by
 constructor<;>grind [Sm.cw,dZ.aR,jd.gZ,sB.fl,Sm.aR,dZ.kU,dZ.dg,dZ.dL,dZ.bq,iH.Kw,dZ.iG,iH.lr,iH.lo,iH.lh,pd.aU]
def Rc.sm{s:St}(h:Rc s)(a:s.aR.length<=n)(b:s.cw.length<=n):Sm n s:=⟨a,b,λg c w d=>((h.bq g c).1 w d).2⟩
section
variable{k:bh}{o:ag}{m:bh}{cw b a:E}{s:St}
def qZ.Mo(h:qZ k o m cw b a s)(c:Io s):j9 m cw b a s:=
 ⟨h.cw.oL (oh c.cw),h.aR.jH (oh c.aR),h.bq.Mo (oh c.kU) c.bq⟩
def qZ.eH(h:qZ k o m cw b a s)(g:D m m2){c:Nat}{d:ae}(f:m.size<=c)(kb:dF m2 c e d):wR k (oG o c 1) m2 c e d cw b a s.cw s.aR s.bq:=by
 have C:dI (λ_=>False) o m (oG o c 1) m2:=dI.oG g h.bs.bF f kb.lt 1;have B:=h.bs.fN C;exact⟨B.cV,B.mq,B.bF,kb,gU,h.cw.fN C id,h.aR.fN C id id,h.bq.fN C λ_ _=>id⟩
def qZ.gN{k m:bh}(a:D k m):qZ k (λ_=>0) m .nil .nil .nil Q6:=
 ⟨⟨a,λ_ _=>O,λ_ _=>O⟩,⟨by simp[Q6],bO,bC O⟩,⟨[],⟨bO,bO,bC O⟩,by simpa[Q6]using iy.gN _ _,Sep.gN⟩,rP.Qg⟩
def wR.Mo{f e:Nat}{d:ae}(L:wR k o m f e d cw b a s.cw s.aR s.bq)(c:Io s):j9 m cw b a s:=
 qZ.Mo (o:=o) ⟨⟨L.cV,L.mq,L.bF⟩,L.cw,L.aR,L.bq⟩ c
end
def acQ(m:bh)(x:Run)(v:Value)(c:bh):Prop:=∃d cw b a,v=.tuple #[stV x.s cw b a,vb x.ok]/\qZ m d c cw b a x.s
theorem iE.up{a:ag}{m c:bh}{d k:Nat}{s:E}(h:iE a m e d k s l)(i:k≠0)(f:∀b,b<mx.size->a b=0)(g:∀b,mx.size<=b->b<m.size->c[b]? =m[b]?):iE a c e d k s l:=
 by grind [iE.fQ,Nat.le_of_not_lt,iE.bu]
theorem qZ.WC{m:bh}{r:ag}{cw b a:E}{s:St}(i:qZ mx r M cw b a s)(c:m.size<=mx.size)(z:M.size<=f.size)(g:∀d,mx.size<=d->d<M.size->f[d]? =M[d]?)(x:D m f):qZ m r f cw b a s:=by
 have h:=i.bs.mq;refine⟨⟨x,λd j=>h d V,λd j=>i.bs.bF d V⟩,i.cw.up cD h g,?_,?_⟩
 .let⟨k,t,a2,a3⟩:=i.aR;refine⟨k,t.up cD h g,a2.aP λn y⟨l,v,o,p⟩=>⟨l,v,km o λj=>g _ (p j).2.1 (lx o j),λj=>?_⟩,a3⟩;let⟨g1,g2,u,tail,w,q⟩:=p j;exact⟨g1,V,u,tail,w,q.congr (g _ g2 q.lt)⟩
 .let⟨k,j⟩:=i.bq;exact⟨k,j.qB.up cD h g,j.aT,j.aQ,λt n l o p=>by
   let⟨v,u,q,e,b1,b2,b3⟩:=j.eR t n l o p;exact⟨v,u,q,e,b1.up V h g,b2.up V h g,b3.up V h g⟩⟩
def qZ.bV{m:bh}{d:ag}{cw b a:E}{s:St}(h:qZ mx d M cw b a s)(c:D m mx){nb:Nat}(e:m.size<=nb)(g:nb<mx.size){o:Nat}:qZ m d (aV M nb o l) cw b a s:=
 h.WC c.aQ (No (bD _ _ _ _).symm) (λf i _=>cq _ _ _ _ V) ((c.J h.bs.cV).aV e _ _)
def qZ.ext{c:bh}{d:ag}{cw b a:E}{s:St}(h:qZ c d M cw b a s)(e:D M f):qZ c d f cw b a s:=by grind [qZ.WC,D.aQ,D.bG,qZ.bs,Bs.cV,D.J]
def Bs.GK(m:bh):Bs m (λ_=>0) m:=by constructor<;>grind [D.cT]
variable{m:bh}{d p cw b a:E}{g:da}{s:St}
def TU{m:bh}{nb:Nat}(c:D m m2)(a:D m2 M)(b:m.size<=nb){x:Run}(d:x=⟨Q6,false⟩):acQ m x (.tuple #[.agg #[vi (0:Int),vi (0:Int),vi (0:Int),vi (0:Int),E.v E.nil,E.v E.nil,E.v E.nil],vb false]) (aV M nb 0 l):=by
 subst d;exact⟨_,.nil,.nil,.nil,O,qZ.gN ((c.J a).aV b _ _)⟩
variable(i:gY m d p g)(c:j9 m cw b a s)(h:Rc s)(j:s.cw.length<=10000000)
include i c h j
omit i c in
theorem ac0:Sm 10000000 s:=h.sm h.lh j
omit i c in
end
section
variable{j:bh}{f:ag}{c e:Nat}{k:ae}
def qZ.abL{b:bh}{cw h g:E}{s:St}(a:qZ j f b cw h g s)(i:f c=1){l:ae}(kb:dF (aV b c 0 l) c e k):wR j f (aV b c 0 l) c e k cw h g s.cw s.aR s.bq:=by
 have C:dI (λd=>d=1) f b f (aV b c 0 l):=dI.aV a.bs.bF i _ _;let⟨b1,b2⟩:=(C.aP λd m=>by omega:To f b f _).cV a.bs.cV a.bs.mq;exact⟨b1,b2,C.bF,kb,i,a.cw.fN C cD,a.aR.fN C cD cD,a.bq.fN C λd m=>V⟩
def wR.afn{b:bh}{cw h g:E}{s:St}(L:wR j f b c e k cw h g s.cw s.aR s.bq):qZ j f b cw h g s:=⟨⟨L.cV,L.mq,L.bF⟩,L.cw,L.aR,L.bq⟩
variable{b:bh}{d p cw h g:E}{a:da}{s:St}
def MkL(b:bh)(d p:E)(a:da)(s:St)(o:ai)(M:bh):Prop:=o.2=0/\∃f cw h g,wR b f M o.1 cQ (IB d p (cF a) s cw h g) cw h g s.cw s.aR s.bq
abbrev AU:ae:=[.s E.nil,.s E.nil,.i 0,.i 0,.i 0,.i 0,.i 0,.s E.nil,.s E.nil,.s E.nil]
variable(i:gY b d p a)(q:j9 b cw h g s)(l:Rc s)(r:s.cw.length<=10000000)
include i q l r
theorem LR(Q:Int):bK dO 18 [.agg #[d.v,p.v],stV s cw h g,vi Q] b (acQ b (Qx a s Q)):=by
 apply Gv;simp -zeta only[dR];intro Z P m3;have s1:=pz Z;have s2:P.size=b.size+2:=by simp[P,s1]
 have s3:m3.size=b.size+3:=by simp[m3,s2]
 have R:D b m3:=(((D.cT b).bZ _).bZ _).bZ _;have L:∀u∈[P.size,Z.size,b.size],u<m3.size:=eX;refine(Ix (i.ext R) (q.ext R) l).bL cY L λb4 J ah H _=>⟨b4,O,λh1=>TU R H V (by unfold Qx;rw[aW λj=>nb ah h1 j.1]),λh1=>?_⟩;have T:=yb ah h1;refine⟨λh2=>TU R H V (by unfold Qx;rw[aW λj=>by simp at h2;omega]),λh2=>⟨λS=>TU R H V (by unfold Qx;rw[aW λj=>by simp at S;omega]),λS=>?_⟩⟩;have hm:0<=Q/\Q<=100000:=by simp at h2 S;omega
 obtain⟨A,rfl⟩:∃A:Nat,Q=A:=⟨Q.toNat,V⟩;have hr:Qx a s (A:Int)=⟨bA a A s,true⟩:=by unfold Qx;rw[bn ⟨T,hm⟩];simp
 rw[hr];have Y:=R.J H;have z4:=H.aQ;have af:=ac0 l r;have aq:=T.pL af V;have ht:=T.iG.mT.dm;have cc:∀{M:bh},D J M->DK dO 25 [d.v] M (vi (cF a)):=λN=>rh (i.ext (Y.J N)).bT ht.aT (λj hd=>OT ht j hd);have j:∀{M x:bh}{u:Nat},D M x->u<M.size->∀I,aS x u I=aS M u I:=λN an I=>bE (N.bG _ an) I;have cl:∀{f:ag}{M:bh}{ae:aj},Bs J f M->(∀u,f u<=1)->(∀aa B z y x,qZ J aa x B z y s->dI (λ_=>False) f M aa x->D M x->M.size<=x.size->ae (stV s B z y) x)->bK dO 40 [stV s cw h g] M ae:=λad ap hK=>
  (ID ad ap (q.ext (Y.J ad.cV)) aq).aP λ_ x⟨aa,B,z,y,e,al,ab⟩=>by rw[e];exact hK aa B z y x al ab ab.FO ab.aQ
 have ai:∀{M x:bh},D J M->x=M.push (.cells (db AU) cQ)->Bs J (oG (λ_=>0) M.size 1) x/\(∀u,oG (λ_=>0) M.size 1 u<=1)/\dF x M.size cQ AU:=λN e=>by
  have hz:=N.aQ;subst e;refine⟨⟨N.bZ _,λu C=>fK V,λu C=>fK (by simp at C;omega)⟩,λu=>?_,dF.push _ _ _⟩;unfold oG;split
  .omega
  .exact iD _
 refine⟨MkL J d p a s,⟨?_,?_⟩,?_⟩
 .refine(cc cY).aP ?_;rintro _ U ⟨rfl,t⟩;have z5:=t.aQ;refine⟨t.eW λu C=>H.lt (L u C),_,O,j t V _,j t V _,j t V _,j t V _,j t V _,j t V _,j t V _,j t V _,j t V _,?_,?_⟩
  .refine cl (f:=λ_=>0) ⟨t,λ_ _=>O,λ_ _=>O⟩ (λ_=>iD _) λG B z y v F X k z6=>?_;refine⟨k.eW λu C=>t.lt (H.lt (L u C)),_,_,_,_,B,z,y,O,j k V _,j k V _,?_⟩;intro K;have w:=px K;have kb:dF K v.size cQ AU:=dF.push v _ _;refine⟨j w V _,j w V _,j w V _,j w V _,j w V _,j w V _,j w V _,j w V _,j w V _,j w V _,O,oG G v.size 1,B,z,y,?_⟩;have W:D v (aV K v.size 0 [.s d,.s p,.i (cF a),.i s.eC,.i s.iQ,.i s.dg,.i s.dL,.s B,.s z,.s y]):=w.aV bY _ _;exact F.eH W bY (dF.aV (m:=K) (o:=0) kb)
  .intro v;obtain⟨k,s6⟩:=pu v;let⟨B6,ac,kb⟩:=ai (x:=v) t O;refine⟨j k V _,j k V _,j k V _,j k V _,j k V _,j k V _,j k V _,j k V _,j k V _,j k V _,cl B6 ac λW B z y K X F w z7=>?_⟩;refine⟨w.eW eX,_,_,_,_,B,z,y,O,j w V _,j w V _,O,W,B,z,y,?_⟩;exact X.abL (by rw[F.jt _ V];exact gU) (dF.aV (m:=K) (o:=0) (kb.ext w))
 .intro U;obtain⟨t,s5⟩:=pu U;let⟨B5,ac,kb⟩:=ai (x:=U) (D.cT J) O;refine⟨j t V _,j t V _,j t V _,j t V _,j t V _,j t V _,j t V _,j t V _,j t V _,j t V _,(cc t).aP ?_⟩;rintro _ v ⟨rfl,k⟩;have z6:=k.aQ;refine⟨k.eW eX,_,O,j k V _,j k V _,j k V _,j k V _,j k V _,j k V _,j k V _,j k V _,j k V _,cl (B5.fN (dI.fB k B5.bF)) ac λW B z y K X F w z7=>?_⟩;refine⟨w.eW eX,_,_,_,_,B,z,y,O,j w V _,j w V _,O,W,B,z,y,?_⟩;exact X.abL (by rw[F.jt _ V];exact gU) (dF.aV (m:=K) (o:=0) (kb.ext (k.J w)))
 .rintro⟨c,mo⟩ U ⟨rfl,ak,o5,h5,f5,X⟩;simp only[]at X;have B5:AW ak U [P.size,Z.size,b.size]:=λu C=>⟨X.cV.lt (H.lt (L u C)),X.mq u (H.lt (L u C))⟩;have kG:∀{k:Nat}{v:bh},bA a A s=bA a k s->(∃G o6 F w,wR J G v c cQ (IB d p (cF a) (bA a k s) o6 F w) o6 F w (bA a k s).cw (bA a k s).aR (bA a k s).bq)->
   ∃v0:Int,aS v c (0+3)=some (vi v0)/\∃v1:Int,aS v c (0+3+1)=some (vi v1)/\∃v2:Int,aS v c (0+3+2)=some (vi v2)/\∃v3:Int,aS v c (0+3+3)=some (vi v3)/\
   ∃v4:E,aS v c (0+3+4)=some v4.v/\∃v5:E,aS v c (0+3+5)=some v5.v/\∃v6:E,aS v c (0+3+6)=some v6.v/\
   acQ b ⟨bA a A s,true⟩ (.tuple #[.agg #[vi v0,vi v1,vi v2,vi v3,v4.v,v5.v,v6.v],vb true]) (aV v P.size 0 [.i v0,.i v1,.i v2,.i v3,.s v4,.s v5,.s v6]):=λ{k v} e⟨G,o6,F,w,t⟩=>by
   rw[e]
   exact⟨_,t.bV.dx 3,_,t.bV.dx 4,_,t.bV.dx 5,_,t.bV.dx 6,o6,t.bV.dx 7,F,t.bV.dx 8,w,t.bV.dx 9,G,o6,F,w,O,t.afn.bV Y V V⟩
  refine⟨λI M=>∃k:Nat,I=k/\k<=A/\∃G o6 F w,wR J G M c cQ (IB d p (cF a) (bA a k s) o6 F w) o6 F w (bA a k s).cw (bA a k s).aR (bA a k s).bq,λI _=>((A:Int) -I).toNat,⟨0,O,iD _,ak,o5,h5,f5,X⟩,?_⟩;rintro I v ⟨k,rfl,hk,G,o6,F,w,t⟩;have ao:=xQ k T;have ac:=AQ k T af V;have B6:AW G v [P.size,Z.size,b.size]:=λu C=>⟨t.cV.lt (H.lt (L u C)),t.mq u (H.lt (L u C))⟩;refine⟨λh7=>⟨_,t.bV.dx 3,λh8=>?_,λh8=>?_⟩,λh7=>?_⟩
  .simp only[bg]at h7;refine(Kq t (i.ext Y) ao ac.JQ (oh ac.aR) (oh ac.cw)).aP ?_;rintro _ K ⟨W,o7,am,f7,L7,t7⟩;have e:eI ((k:Int)+1)=((k+1:Nat):Int):=nt (n:=A) V V;rw[e];refine⟨t7.fS B6,⟨k+1,O,V,W,o7,am,f7,by rw[xR];exact L7⟩,?_⟩;show((A:Int) -((k+1:Nat):Int)).toNat<((A:Int) -(k:Int)).toNat;omega
  .simp at h8;refine kG ?_ ⟨G,o6,F,w,t⟩;have S:A=k+(A -k):=V;rw[S,Nf,pV _ h8]
  .simp only[dk]at h7;have:k=A:=V;subst this;exact kG O ⟨G,o6,F,w,t⟩
end
section
variable{b:bh}{d p:E}{a:da}
def Iw(q:gY b d p a)(k:iB a){dL:Int}(A:0<=dL/\dL<=40):bK dO 17 [.agg #[d.v,p.v],vi dL] b λF t=>∃c,F=.tuple #[stV (jC a dL) .nil .nil c,vb true]/\j9 t .nil .nil c (jC a dL)/\D b t:=by
 apply CK;simp -zeta only[dR];intro e u;have P:=pz e;have C:dF u e.size mg [.i 0,.i 0,.i 0,.i 0,.s .nil,.s .nil,.s .nil]:=dF.push e _ _;let⟨v,j⟩:=fU (a:=e) (c:=u) O O;refine(pt (q.ext v)).bL cY j λg M i f _=>⟨g,O,λh=>absurd k (nb i h),λ_=>⟨λh=>by simp at h;omega,λ_=>⟨λh=>by simp at h;omega,λ_=>?_⟩⟩⟩;have n:=v.J f;have J:=f.aQ;have H:=j e.size bO;refine(pw (q.ext n) k dL).aP λ_ l⟨c,y,w,b1,b2,b3,b4,K,z,N,G,B⟩=>⟨w.eW (λg i=>f.lt (j g i)),_,_,_,_,.nil,.nil,c,y,?_⟩;have I:=N.lo;intro E;have x:=N.bV n (nb:=e.size) V V 0 [.i 3,.i 0,.i 0,.i dL,.s .nil,.s .nil,.s c];have kb:dF E e.size mg ([]++[.i 3,.i 0,.i 0,.i dL,.s .nil,.s .nil,.s c]):=dF.aV (m:=l) (o:=0) (r:=[.i 3,.i 0,.i 0,.i dL,.s .nil,.s .nil,.s c]) (C.ext (f.J w));have Q:(aV l e.size 0 [.i 3,.i 0,.i 0,.i dL,.s .nil,.s .nil,.s c]).size=l.size:=bD _ _ _ _;have L:=Sy z x V (B.congr (cq _ _ _ _ V)) V kb;exact⟨c,O,L.Mo (s:=jC a dL) ((AO k A).pL (AP a dL) V),L.cV⟩
end
section
def qZ.old{mx M a:bh}{f:ag}{cw d c:E}{s:St}(h:qZ mx f M cw d c s)(e:M.size<=a.size)(i:∀b,mx.size<=b->b<M.size->a[b]? =M[b]?):qZ (a.extract 0 mx.size) f a cw d c s:=
 have g:=fC h.bs.cV.aQ e
 h.WC cB e i (D.Q9 g)
def wR.old{d M b:bh}{k:ag}{e g:Nat}{f:ae}{cw j h:E}{a:St}(L:wR d k M e g f cw j h a.cw a.aR a.bq)(l:d.size<=e)(m:M.size<=b.size)(i:∀c,d.size<=c->c<M.size->b[c]? =M[c]?):wR (b.extract 0 d.size) k b e g f cw j h a.cw a.aR a.bq:=
 have N:=qZ.old (s:=a) ⟨⟨L.cV,L.mq,L.bF⟩,L.cw,L.aR,L.bq⟩ m i
 ⟨N.bs.cV,N.bs.mq,N.bs.bF,L.bV.congr (i _ l L.bV.lt),L.YH,N.cw,N.aR,N.bq⟩
variable{S:ad}{m:bh}{c P:Nat}{a d p:E}{b:da}
end
section
variable{q:E}
def dZ.afe{q:da}{s:St}{n:Nat}(h:dZ q s)(c:Sm n s)(x:n<=10000000):Rc s:=by
 have l:=h.pL c V;have i:=h.dg;have v:=h.dL;have u:=c.aR;have C:=Zk h;have t:=l.kU;refine⟨⟨V,V⟩,λd i w a=>?_,λf b=>?_,V,V,λf b=>oh (l.bq f b)⟩
 .have k:=h.aR.gZ d i;rcases yd d.bS 1 with e|e
  .have:=(k.LN e).2.1 w a;exact⟨V,V⟩
  .rcases(k.wW V).1 w a with e|⟨e,j,g,_⟩
   .exact⟨by have:=e.1;omega,oh e.2⟩
   .have:=br g;have:=lD e;exact⟨V,V⟩
 .let⟨k,o⟩:=cH.1 b;have F:=C.bq k f o;refine⟨λw a=>⟨?_,c.JQ f b w a⟩,λr p=>?_,λw a=>?_⟩
  .rcases(h.bq f b).XJ w a with e|e
   .have:=e.1;omega
   .omega
  .let⟨m,j⟩:=cH.1 p;have:=F.lr;have:=F.lo;have:=br j;let⟨w,a⟩:=dU f.aU m;have:=(F.aU.eR m w r a j).2.1;exact⟨V,V⟩
  .rcases C.cC.dQ f b w a with e|⟨e,g⟩
   .exact⟨V,V⟩
   .have:=lD e;exact⟨V,V⟩
@[grind cases] structure Mv (n:Nat) (ro:ag) (M:bh) (ro':ag) (M':bh):Prop where
 aQ:M.size<=M'.size
 fQ:∀b,b<M.size->n<=b->M'[b]? =M[b]?
 jt:∀b,b<M.size->ro' b=ro b
 bF:∀b,M'.size<=b->ro' b=0
 mq:∀b,b<n->ro b=0
section
variable{n:Nat}{a e:ag}{M d:bh}
theorem iE.mv{b c k:Nat}{s:E}{l:ae}(h:iE a M b c k s l)(v:Mv n a M e d)(f:k≠0):iE e d b c k s l:=
 by grind [iE.fQ,Mv.fQ,iE.bu,Nat.le_of_not_lt,Mv.mq,Mv.jt]
theorem gB.mv{h:E}{i:ah}(q:gB n a M h i)(v:Mv n a M e d):gB n e d h i:=by
 let⟨l,j,a2,a3⟩:=q;refine⟨l,j.mv v cD,a2.aP λs r⟨o,m,f,g⟩=>⟨o,m,km f λb=>v.fQ _ (lx f b) (g b).2.1,λb=>?_⟩,a3⟩;let⟨g1,g2,k,tail,p,c⟩:=g b;exact⟨(v.jt _ c.lt).trans g1,g2,k,tail,p,c.congr (v.fQ _ c.lt g2)⟩
theorem Yb.mv{i:Nat}{b:ae}{f:bW}(v:Mv n a M e d):Yb a M i b f->Yb e d i b f:=λ⟨r,o,k,j,c,g,h⟩=>⟨r,o,k,j,c.mv v V,g.mv v V,h.mv v V⟩
def rK.mv{c:E}{g:an}{f:bW}{r o h:E}{b:List ae}(T:rK a M c g f r o h b)(v:Mv n a M e d):rK e d c g f r o h b:=
 by constructor<;>grind [rK.qB,iE.mv,rK.aT,rK.aQ,rK.eR,Yb.mv,rK.aU,rK.bI,rK.cC]
theorem rP.mv{c:E}{b:an}(l:rP a M c b)(v:Mv n a M e d):rP e d c b:=by
 let⟨g,h⟩:=l;exact⟨g,h.qB.mv v cD,h.aT,h.aQ,λm f i j k=>(h.eR m f i j k).mv v⟩
def rK.cG{c:E}{b:an}{f g:bW}{r o n m l j:E}{h:List ae}(T:rK a M c b f r o n h)(t:∀d,M.size<=d->a d=0){i:Nat}(v:i<6){d:Ce}
 (u:kH [.i f.fP,.i f.pc,.i f.bH,.s r,.s o,.s n] i [d]=[.i g.fP,.i g.pc,.i g.bH,.s m,.s l,.s j])(s:iE a M bB 1 (10+3*b.length) m (g.aU.map Ce.i))(p:iE a M bB 1 (11+3*b.length) l (g.bI.map Ce.i))(q:iE a M bB 1 (12+3*b.length) j (g.cC.map Ce.i)):
 jb M c.bu (c.off+b.length*6+i) 1/\rK a (aV M c.bu (c.off+b.length*6+i) [d]) c b g m l j h/\dI (λk=>4<=k/\k≠9) a M a (aV M c.bu (c.off+b.length*6+i) [d]):=by
 have e:dI (λk=>k=4) a M a (aV M c.bu (c.off+b.length*6+i) [d]):=dI.aV t T.bu.1 _ _
 have x:h.flatten.length=b.length*6:=by rw[dS T.aQ,T.aT]
 refine⟨by rw[iv];exact T.qB.wr cB,⟨?_,T.aT,T.aQ,T.Cq e λk p q=>V,s.fN e V,p.fN e V,q.fN e V⟩,e.aP λk w=>V⟩
 have:=T.qB.dX (o:=b.length*6+i) (new:=[d]) cB
 grind [oP,Nat.add_sub_cancel_left,Nat.add_assoc]
end
@[grind cases] structure SO (n:Nat) (ro:ag) (M:bh) (cw hp fr:E) (s:St):Prop where
 le:n<=M.size
 mq:∀b,b<n->ro b=0
 bF:∀b,M.size<=b->ro b=0
 cw:iE ro M bB 1 2 cw (s.cw.map Ce.i)
 aR:gB n ro M hp s.aR
 bq:rP ro M fr s.bq
@[grind cases] structure FS (s:St):Prop where
 JQ:Rc s
 pL:Io s
 lo:s.cw.length<=1000000/\s.aR.length<=1000000
variable{n:Nat}{a e:ag}{M d:bh}{cw h c:E}{s:St}
def SO.of(N:qZ (M.extract 0 n) a M cw h c s)(b:n<=M.size):SO n a M cw h c s:=by constructor<;>grind [qZ.bs,Bs.mq,ve,Bs.bF,qZ.cw,qZ.aR,qZ.bq]
theorem SO.mv(w:SO n a M cw h c s)(v:Mv n a M e d):SO n e d cw h c s:=by constructor<;>grind [SO.le,Mv.aQ,Mv.jt,SO.mq,Mv.bF,SO.cw,iE.mv,SO.aR,gB.mv,SO.bq,rP.mv]
theorem SO.mvF(w:SO n a M cw h c s){b:Nat}(f:Fz [b] M d)(e:b<n):Mv n a M a d:=by constructor<;>grind [Fz.aQ,Fz.bG,SO.bF,SO.mq]
def SO.fN{p:Nat->Prop}(w:SO n a M cw h c s)(C:dI p a M e d):n<=d.size/\(∀b,b<n->e b=0)/\∀b,d.size<=b->e b=0:=by grind [SO.le,dI.aQ,dI.jt,SO.mq,dI.bF]
theorem SO.bV(w:SO n a M cw h c s){b:Nat}(f:a b=1)(o:Nat)(l:ae):SO n a (aV M b o l) cw h c s:=by
 have C:dI (λk=>k=1) a M a (aV M b o l):=dI.aV w.bF f _ _;let⟨d,b,e⟩:=w.fN C;exact⟨d,b,e,w.cw.fN C cD,w.aR.fN C cD cD,w.bq.fN C λk g=>V⟩
def SO.QB(w:SO n a M cw h c s)(C:dI (λk=>k=2) a M e d){l:ab}(A:iE e d bB 1 2 q (l.map Ce.i)):SO n e d q h c {s with cw:=l}:=
 let⟨b,f,g⟩:=w.fN C
 ⟨b,f,g,A,w.aR.fN C cD cD,w.bq.fN C λk i=>V⟩
def SO.jS(w:SO n a M cw h c s)(C:dI (λk=>k=3) a M e d){b:ah}(A:gB n e d q b):SO n e d cw q c {s with aR:=b}:=
 let⟨f,g,i⟩:=w.fN C
 ⟨f,g,i,w.cw.fN C cD,A,w.bq.fN C λk j=>V⟩
def SO.mE(w:SO n a M cw h c s)(C:dI (λk=>4<=k/\k≠9) a M e d){l:an}(A:rP e d q l):SO n e d cw h q {s with bq:=l}:=
 let⟨b,f,g⟩:=w.fN C
 ⟨b,f,g,w.cw.fN C cD,w.aR.fN C cD cD,A⟩
def SO.Mo(w:SO n a M cw h c s)(b:Io s):j9 M cw h c s:=⟨w.cw.oL (oh b.cw),w.aR.jH (oh b.aR),w.bq.Mo (oh b.kU) b.bq⟩
end
section
variable{K:Int->bh->Prop}{p:Nat->Prop}
def SP(n a:Nat)(i:E)(c:bh)(P:Nat)(v:Value)(e:bh):Prop:=∃cw j h s,v=stV s cw j h/\(∀b,e.size<=b.size->(∀d,d<e.size->n<=d->b[d]? =e[d]?)->j9 b cw j h s)/\Rc s/\(s.cw.length<=1000000/\s.aR.length<=1000000)/\Rs a i c P e
@[grind cases] structure SQ (n rb:Nat) (bs:E) (ma:bh) (k1 k2 Q:Nat) (ro:ag) (M:bh) (cw hp fr:E) (s:St):Prop where
 w:SO n ro M cw hp fr s
 r:Rs rb bs ma Q M
 k1:ro k1=1/\k1<M.size/\n<=k1
 k2:ro k2=1/\k2<M.size/\n<=k2
 fs:FS s
variable{n a d e Q t P m:Nat}{i cw j h:E}{c M b:bh}{l o:ag}{s q:St}{L:ad}
def SQ.fz(g:SQ n a i c d e Q l M cw j h s)(k:a<n)(f:Fz [a] M b)(r:Rs a i c t b):SQ n a i c d e t l b cw j h s:=
 by constructor<;>grind [SQ.w,SO.mv,SO.mvF,SQ.k1,Fz.aQ,SQ.k2,SQ.fs]
def SQ.ext(f:SQ n a i c d e Q l M cw j h s)(g:a<n)(x:D M b):SQ n a i c d e Q l b cw j h s:=f.fz g (x.fz _) (f.r.ext x)
def SQ.kv(k:SQ n a i c d e Q l M cw j h s)(p:a<n)(m:∀f∈L,f=d\/f=e)(g:Fz [a] M b):gS L M b:=g.eW λf o=>by
 grind [SQ.k1,SQ.k2,List.mem_singleton]
def SQ.gk(g:SQ n a i c d e Q l M cw j h s)(k:a<n)(f:Fz [a] M b)(o:Nat):aS b e o=aS M e o:=by grind [bE,Fz.bG,SQ.k2,List.mem_singleton]
def SQ.cy(f:SQ n a i c d e Q l M cw j h s)(v:Rd a i m c)(C:c.size<=n)(x:Q<=P){q g o r:Int}(A:Re o)(p:ae):SP n a i c P (.agg #[vi q,vi g,vi o,vi r,cw.v,j.v,h.v]) (aV M d 0 p):=by
 have w:=f.w.bV f.k1.1 0 p;have u:=f.r.cG v (k:=d) (oh f.k1) 0 p;exact⟨cw,j,h,⟨q,g,o,r,s.cw,s.aR,s.bq⟩,O,λb z B=>have t:=(w.mv ⟨z,B,λ_ _=>O,λg y=>w.bF g (fC z y),w.mq⟩).Mo f.fs.pL;⟨t.cw,t.aR,t.bq⟩,⟨A,f.fs.JQ.aR,f.fs.JQ.bq,f.fs.JQ.lh,f.fs.JQ.lf,f.fs.JQ.lr⟩,f.fs.lo,u.f,u.r.aP x⟩
def SQ.bV(f:SQ n a i c d e Q l M cw j h s)(g:Rd a i m c)(k:c.size<=n)(o:Nat)(b:ae):SQ n a i c d e Q l (aV M e o b) cw j h s:=
 by constructor<;>grind [SQ.w,SO.bV,SQ.k2,SQ.r,Rs.cG,bD,SQ.k1,SQ.fs]
def SQ.mM(p:SQ n a i c d e Q l M cw j h s)(m:a<n)(u:Q<=10^16)(r:∀g∈L,g=d\/g=e)(g:ab){k:ae}{o:Nat}(w:k=g.map Ce.i)(v:o=g.length)(z:0<g.length/\g.length<=100)
 (y:∀t b,t∈g->SQ n a i c d e (Q+1) l b cw j h s->Fz [a] (M.push (.cells (db k) bB)) b->K t b):bK dO 77 [vp a 0,E.v (.mk M.size 0 o o)] (M.push (.cells (db k) bB)) λC b=>gS L (M.push (.cells (db k) bB)) b/\∃t:Int,C=vi t/\K t b:=
 have x:=D.push M (.cells (db k) bB)
 (HZ p.r u g w v z).aP λ_ b⟨t,q,A,B,f⟩=>⟨(p.ext m x).kv m r f,t,q,y t b A ((p.ext m x).fz m f B) f⟩
def SQ.lO(g:SQ n a i c d e Q l M cw j h s)(m:a<n)(q:Q<=10^16)(p:∀f∈L,f=d\/f=e)(k:Int)
 (r:∀t b,0<=t->(t<k\/t=0)->SQ n a i c d e (Q+1) l b cw j h s->Fz [a] M b->K t b):bK dO 74 [vp a 0,vi k] M λw b=>gS L M b/\∃t:Int,w=vi t/\K t b:=
 (dW g.r.r q k).aP λ_ b⟨t,o,v,t1,u,f⟩=>⟨g.kv m p f,t,o,r t b v t1 (g.fz m f (g.r.to f u)) f⟩
def SQ.fN(f:SQ n a i c d e Q l M cw j h s)(u:Rd a i m c)(F:c.size<=n)(C:dI p l M o b)(j:∀k,p k->2<=k){x v t:E}(B:SO n o b x v t q)(z:FS q):SQ n a i c d e Q o b x v t q:=
 have D:=u.lt
 have w:∀g,g<n->b[g]? =M[g]? :=λg k=>C.fQ g (cr k f.w.le) λy=>by have:=j _ y;have:=f.w.mq g k;omega
 have r:Fz [a] c b:=⟨fC f.r.f.aQ C.aQ,λg k A=>(w g V).trans (f.r.f.bG g k A)⟩
 ⟨B,⟨r,u.Bp f.r.r r (w a V)⟩,⟨(C.jt _ f.k1.2.1).trans f.k1.1,cr f.k1.2.1 C.aQ,f.k1.2.2⟩,⟨(C.jt _ f.k2.2.1).trans f.k2.1,cr f.k2.2.1 C.aQ,f.k2.2.2⟩,z⟩
def SQ.eW(g:SQ n a i c d e Q l M cw j h s)(m:∀f∈L,f=d\/f=e)(C:dI p l M o b)(j:∀k,p k->2<=k):gS L M b:=λf k=>by
 grind [SQ.k1,SQ.k2,dI.fQ]
def SQ.jN(m:SQ n a i c d e Q l M cw j h s)(u:eI ((h.len:Int) -1)>=0):∃b f r p q g,s.bq=b++[f]/\rK l M h b f r p q g/\eI ((h.len:Int) -1)=(b.length:Int)/\h.len=b.length+1:=by
 have F:=m.w.bq;have t:=m.fs.pL.kU;rcases adm s.bq with k|⟨b,f,k⟩
 .rw[k]at F;let⟨g,o⟩:=F;have:=o.qB.aT;grind [dS,acL.aQ,acL.aT,List.length_nil,de]
 .grind [rP.jN,rK.Eb,de]
def FS.jN(h:FS s){d:an}{i g:bW}(f:s.bq=d++[i])(k:aau g)(l:g.aU.length<=1000000/\g.bI.length<=1000000/\g.cC.length<=1000000):FS {s with bq:=d++[g]}:=by
 have b:=h.JQ;have c:=h.pL;have j:∀x∈d,x∈s.bq:=cB;have e:=c.kU;rw[f]at e;simp at e;refine⟨⟨b.dg,b.aR,λx a=>?_,b.lh,eX,λx a=>?_⟩,⟨c.cw,c.fl,c.aR,eX,λx a=>?_⟩,h.lo⟩<;>rcases bU.1 a with a|a
 .grind [Rc.bq]
 .grind
 .exact b.lr x (j x a)
 .grind
 .grind [Io.bq]
 .grind
def SQ.qe(k:SQ n a i c d e Q l M cw j h s)(r:Rd a i m c)(t:c.size<=n){q:an}{z g:bW}(y:s.bq=q++[z]){K I J:E}{w:List ae}(T:rK l b h q g K I J w)(C:dI (λo=>4<=o/\o≠9) l M l b)(F:aau g)(H:g.aU.length<=1000000/\g.bI.length<=1000000/\g.cC.length<=1000000)
 (A:∀f∈L,f=d\/f=e)(B:Q<=P){v f p x:Int}(D:Re p)(u:ae):gS L M b/\SP n a i c P (.agg #[vi v,vi f,vi p,vi x,cw.v,j.v,h.v]) (aV b d 0 u):=
 ⟨k.eW A C λo G=>V,(k.fN r t C (λo G=>V) (k.w.mE C T.qe) (k.fs.jN y F H)).cy r t B D u⟩
end
section
variable{S:ad}{m:bh}{b P:Nat}{a:E}
end
section
def Xg(f:ag):∀n,∃B,∀i,i<n->f i<=B
 |0=>⟨0,bO⟩
 |n+1=>let⟨B,h⟩:=Xg f n;⟨B+f n,λi a=>by
  rcases dJ i n with e|e
  .have:=h i e;omega
  .have:i=n:=V;subst this;omega⟩
def dZ.zS{c:da}{s:St}(i:dZ c s)(n:s.eC=0):s.aR=[]:=by
 have q:=i.cy.1 n;let⟨m,u⟩:=i.aR.CI;let⟨B,o⟩:=Xg m s.aR.length;apply iC;intro t;have y:0<s.aR.length:=List.length_pos_iff.2 t;have iI:∀k,∃(f:Nat)(e:dt),s.aR[f]? =some e/\0<e.bS/\k<=m f:=λk=>by
  induction k with
  |zero=>
   let⟨e,g⟩:=dU s.aR (s.aR.length -1);refine⟨_,e,g,?_,iD _⟩;have l:=i.mG e g;rcases yd e.bS 0 with j|j
   .have:=i.eO _ ⟨e,g,j⟩;grind [eU]
   .omega
  |succ k w=>
   let⟨f,e,g,b,r⟩:=w;have:=i.aR.ex f e g b;rw[q]at this;simp only[jX]at this;let⟨d,p,j⟩:=Qs (h:=s.aR) (f:=f) V;let⟨l,hd⟩:=cH.1 p;have v:=u l d hd _ j V;rw[sK]at v;refine⟨l,d,hd,?_,V⟩;apply iC;intro x;have:=((i.aR.gZ d (aZ hd)).LN V).2.1 _ j;omega
 obtain⟨f,e,g,_,r⟩:=iI (B+1);have:=o f (br g);omega
def dZ.nj{c:da}{s:St}(h:dZ c s):dZ c {s with dL:=40}:=⟨h.iG,h.eC,h.cy,h.iQ,h.Cj,bO,⟨h.dg.1,by have:=h.dg;have:=h.dL;show s.dg<=40;omega⟩,h.kU,h.cw,h.aR,h.mG,h.bq,h.first,h.uJ,h.eO,h.qV⟩
theorem j9.le{m g:bh}{cw b e:E}{s:St}(f:j9 m cw b e s)(a:Le m g):j9 g cw b e s:=⟨f.cw.le a,fW.le f.aR a λl k⟨n,c,h⟩=>⟨n,c,h.le a⟩,fW.le f.bq a λl k⟨r,o,h,c,i,j,d⟩=>⟨r,o,h,c,i.le a,j.le a,d.le a⟩⟩
def LwR(m:bh)(v:Value)(a:bh):Prop:=v=vb true/\D m a
variable{m:bh}{d p cw b e:E}{c:da}{s:St}
end
section
def St.kM(s:St)(n:Int):St:={s with dL:=n}
variable{a:da}{s:St}{f:bW}{x:Instr}{o:ab}{b:an}
def pb.kM{n:Int}(h:pb a s f x o):pb a (s.kM n) f x o:=⟨h.nn,h.bH,h.oL,h.kC,h.df,h.ov,h.tT,h.apply,h.dup,h.Bc,h.Qi,h.tL,h.xS⟩
@[grind cases] structure afr (s t:St):Prop where
 dL:t.dL=s.dL
 dg:s.dg<=t.dg
 cw:s.cw<+:t.cw
 eC:t.eC=s.eC\/t.eC=0
def acZ{dL:Int}(h:(qH a dL).ok=true):(iB a/\0<=dL/\dL<=40)/\qH a dL=⟨(pF a dL).eC,(pF a dL).iQ,(pF a dL).dg,(pF a dL).cw,true⟩:=by
 have b:iB a/\0<=dL/\dL<=40:=by
  apply iC;intro c;rw[qH,aW c]at h;simp at h
 exact⟨b,bn b⟩
end
structure ady where
 bA:Int
 VT:Int
 WE:Int
 acX:Int
 Zo:Int
 ad4:Int
 kU:Int
 WK:Int
def mx(a b:Int):Int:=if b>a then b else a
def abM:ah->Int
 |[]=>0
 |c::h=>(if 0<c.bS then 1 else 0)+abM h
def aeH(n:Int):ah->Int
 |[]=>n
 |c::h=>aeH (mx n c.bS) h
theorem jq.pG{h:ah}{b:Nat}(d:jq (pG h) b):jq h b:=by
 let⟨c,a,e⟩:=d;unfold Go.Proofs.YtbbbdejieenniaaGreat.pG at a;rw[lP]at a;split at a
 .exact⟨c,a,e⟩
 .simp at a
theorem jq.KN{h:ah}{w:Int}(d:iI h w)(c:dt){b:Nat}(e:jq (h.set (ix w) c) b):jq h b:=by
 by_cases a:b=ix w
 .subst a;exact d.2
 .grind [jq.ne]
def jq.kV:∀(c:ab)(h:ah)(a:Nat),(∀w∈c,iI h w)->jq (kV h c) a->jq h a
 |[],_,_,_,d=>d
 |w::c,h,a,e,d=>by
  have f:=e w cK;exact(jq.qv f (b:=a)).1 (jq.kV c _ a (λv g=>⟨(e v (aX _ g)).1,(jq.qv f).2 (e v (aX _ g)).2⟩) d)
theorem jq.jK:∀(n:Nat)(h:ah)(j:ab),DV h+j.length<=n->∀b,jq (jK h j) b->jq h b
 |n,h,[],_,b,a=>by rw[uq]at a;exact a
 |0,h,w::r,d,b,_=>by simp at d
 |n+1,h,w::r,d,b,a=>by
  simp only[dy]at d;rcases gJ (iI h w)with c|c
  .let⟨g,i⟩:=dz c;by_cases e:(bz h w).bS=1
   .have f:=mr (d:=kW) g;simp only[bn i,kW]at f;simp at f;rw[ur c e]at a;exact jq.KN c _ (jq.jK n _ _ (by simp[kW];omega) b a)
   .have f:=mr (d:={bz h w with bS:=(bz h w).bS -1}) g;simp only[bn i]at f;rw[bn V]at f;rw[sF c e]at a;exact jq.KN c _ (jq.jK n _ _ cB b a)
  .rw[sG c]at a;exact jq.jK n _ _ V b a
theorem jq.iZ{h:ah}{e:Nat->Int}(g:jd h e){w:Int}(d:iI h w){b:Nat}(a:jq (iZ h w) b):jq h b:=by
 let⟨f,l⟩:=dz d;unfold Go.Proofs.YtbbbdejieenniaaGreat.iZ at a;split at a
 .grind [jq.KN,jq.pG]
 .rename_i k;refine jq.KN d {bz h w with bS:=(bz h w).bS -1} (jq.kV _ _ _ (λv i=>?_) a);let⟨j,c⟩:=nT.1 i;have:=g.qd (kQ f) j c;refine⟨c,?_⟩;by_cases e:ix v=ix w
  .grind [jq.GK,bz]
  .rw[jq.ne e];exact this.2
@[grind cases] structure aft (c:ady) (s:St):Prop where
 ad4:abM s.aR<=c.ad4
 kU:(s.bq.length:Int)<=c.kU
 WK:aeH c.WK s.aR=c.WK
@[grind cases] structure afu (n:Nat) (c:ady):Prop where
 bA:0<=c.bA/\c.bA<=n
 VT:0<=c.VT/\c.VT<=n
 WE:0<=c.WE/\c.WE<=n
 acX:0<=c.acX/\c.acX<=n
 Zo:0<=c.Zo/\c.Zo<=n
section
variable{a:da}{s:St}{f:bW}{x:Instr}{bI:ab}{b:an}
section
variable(h:dZ a s)(e:s.eC=3)(c:(qy a s).eC=3)(d:s.bq=b++[f])
include h e c d
end
def Px{r:Int}(c:0<=r):∀(a bI:ab),(∀v∈a,0<=v/\v<bI.length/\v≠r)->bt (fe bI a) r=bt bI r
 |[],_,_=>O
 |v::a,bI,h=>by
  have b:=h v cK;simp only[fe];rw[Px c a _ λu d=>by rw[jO];exact h u (aX _ d),ny b.1 b.2.1 _ c,aW (λe=>b.2.2 e.symm)]
end
section
variable{b:da}{s:St}{f:bW}{a:an}
def aaY{l:ab}{i:Int}(h:0<=i/\i<l.length)(v:Int):bt (gX l i v) i=v:=by grind [ny]
end
end Go.Proofs.YtbbbdejieenniaaGreat
