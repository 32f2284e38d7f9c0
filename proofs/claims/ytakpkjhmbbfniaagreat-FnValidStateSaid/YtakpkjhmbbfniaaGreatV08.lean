/- Part of a proof, joined by a program. -/
import Derived.Test.YtakpkjhmbbfniaaGreatV07
set_option linter.unusedVariables false
set_option linter.unusedSimpArgs false
set_option linter.defProp false
set_option maxHeartbeats 8000000
set_option maxRecDepth 100000
namespace Go.Proofs.YtakpkjhmbbfniaaGreat
open Go.Vc
structure J4(ds:List aS)(ps:List bY):Prop where
 types:cE ds
 len:1<=ps.length/\ps.length<=4
 cq:∀p∈ps,p.params.length<=3/\El ds.length p.params/\yL ds.length p.aH
 first:∀p,ps[0]? =some p->p.params.length=0/\p.aH=0
def mB(m:ah)(cs:List Ce)(p:bY):Prop:=∃a,cs=[.s a,.i p.aH,.i 0,.i 0,.s .nil]/\aj m a p.params
theorem mB.ext{m m':ah}(hm:af m m')(cs:List Ce)(c:bY):mB m cs c->mB m' cs c:=λ⟨f,h1,h2⟩=>⟨f,h1,h2.ext hm⟩
theorem WJ.aE{m:ah}{s:Sl}{l:List bY}(h:cY m 5 (mB m) s l){k:Nat}{x:bY}(hk:l[k]? =some x):
 ∃a,aj m a x.params/\ad m s.ao (s.off+k*5)=some (Sl.v a)/\ad m s.ao (s.off+k*5+1)=some (vi x.aH)/\ad m s.ao (s.off+k*5+2)=some (vi 0)/\ad m s.ao (s.off+k*5+3)=some (vi 0)/\ad m s.ao (s.off+k*5+4)=some (Sl.v .nil):=by
 obtain⟨cs,⟨a,rfl,ha⟩,hr⟩:=h.iu k x hk
 exact⟨a,ha,hr 0 (.s a) rfl,hr 1 (.i x.aH) rfl,hr 2 (.i 0) rfl,hr 3 (.i 0) rfl,hr 4 (.s .nil) rfl⟩
theorem sK{m:ah}{d f:Sl}{ds:List aS}{ps:List bY}(hd:br m d ds)(hf:cY m 5 (mB m) f ps):
 cB Tryz.prog 37 [.agg #[Sl.v d,Sl.v f]] m (J4 ds ps):=by
 apply xR
 simp -zeta only[aw,ax]
 intro m1
 have lM:af m m1:=(af.av m).aC _
 have hl:∀b∈[m.size],b<m1.size:=by simp[m1]
 have kU:=hd.len
 have gL:=hf.len
 refine(CJ (br.ext lM hd)).ay (af.av _) hl λb m2 hb h1 h2=>⟨_,rfl,λh3=>?_,λh3=>?_⟩
 ·exact bC (λhp=>nb hb h3 hp.types) (lM.trans h1)
 have ht:=yb hb h3
 refine(aJ _ _ _ _).ay h2 hl λb m3 hb h4 h5=>⟨_,rfl,λh6=>?_,λh6=>?_⟩
 ·exact bC (λhp=>nb hb h6 (by have:=hp.len;omega)) (lM.trans h5)
 have hlen:=yb hb h6
 refine dg (n:=ps.length) ab (λj m'=>af m1 m'/\∀p∈ps.take j,p.params.length<=3/\El ds.length p.params/\yL ds.length p.aH) ⟨h5,az⟩ ?_
 rintro j m4 I μ hj ⟨hx,hn⟩ next
 have tD:=lM.trans hx
 refine⟨λh7=>?_,λh7=>?_⟩
 ·simp only[aFP]at h7
  obtain⟨p,sX⟩:=ae (l:=ps) (k:=j) ab
  obtain⟨a,ha,g0,g1,g2,g3,g4⟩:=WJ.aE (hf.mono tD (mB.ext tD)) sX
  have jK:=ha.len
  refine⟨ab,ab,_,g0,_,g1,_,g2,_,g3,_,g4,?_⟩
  intro m5 m6
  have Fw:af m4 m6:=((af.av m4).aC _).ag (aFR _) _ _
  have Lp:∀b∈[m4.size,m.size],b<m6.size:=by
   have:=hx.lt (hl m.size az);have:=Fw.size;simp[m6,m5,aq];simp[m6,m5,aq]at this;omega
  refine⟨λh8=>?_,λh8=>?_⟩
  ·simp only[aFP]at h8
   exact bC (λhp=>by have:=(hp.cq p (ak sX)).1;omega) (tD.trans Fw)
  simp only[aFQ]at h8
  refine(tY (ha.ext Fw) _).ay (af.av _) Lp λb m7 hb h9 ln=>⟨_,rfl,λjV=>?_,λjV=>?_⟩
  ·exact bC (λhp=>nb hb jV (kU▸(hp.cq p (ak sX)).2.1)) ((tD.trans Fw).trans h9)
  have hty:=yb hb jV
  refine(aJ _ _ _ _).ay ln Lp λb m8 hb nJ uJ=>⟨_,rfl,λxh=>?_,λxh=>?_⟩
  ·refine bC (λhp=>nb hb xh ?_) ((tD.trans Fw).trans uJ)
   rw[kU];exact(hp.cq p (ak sX)).2.2
  ·refine next ab _ ⟨(hx.trans Fw).trans uJ,aZ sX hn ⟨ab,kU▸hty,?_⟩⟩
   have:=yb hb xh
   rw[kU]at this;exact this
 ·simp only[aFQ]at h7
  have gZ:=bM ab hn
  obtain⟨p,sX⟩:=ae (l:=ps) (k:=0) ab
  obtain⟨a,ha,g0,g1,g2,g3,g4⟩:=WJ.aE (hf.mono tD (mB.ext tD)) sX
  have jK:=ha.len
  refine⟨ab,ab,_,g0,λh8=>?_,λh8=>?_⟩
  ·simp only[aFZ]at h8
   refine⟨ab,ab,_,g1,ez ?_ tD⟩
   simp only[aFZ]
   refine⟨λh9=>⟨ht,ab,gZ,λq hq=>?_⟩,λhp=>(hp.first p sX).2⟩
   rw[sX]at hq;simp at hq;subst hq
   exact⟨ab,h9⟩
  ·simp only[aFU]at h8
   exact bC (λhp=>h8 (by have:=(hp.first p sX).1;omega)) tD
theorem Ba{m:ah}{d p:Sl}{im:bq}(h:dU m d p im)(Pe:im.bJ.length<=4):
 aD Tryz.prog 38 [.agg #[Sl.v d,Sl.v p]] m λv m'=>∃f,v=.agg #[Sl.v d,Sl.v f]/\cY m' 5 (mB m') f im.bJ/\af m m':=by
 apply uW
 simp -zeta only[aw,ax]
 intro m1 m2 m3 m4 m5
 have tA:=h.bJ.len
 have kK:af m m4:=(((af.av m).aC _).aC _|>.aC _).aC _
 have s3:m3.size=m.size+3:=by simp[m3,m2,m1]
 have s2:m2.size=m.size+2:=by simp[m2,m1]
 have s1:m1.size=m.size+1:=by simp[m1]
 have s5:m5.size=m.size+4:=by simp[m5,m4,aq,s3]
 have vP:af m m5:=kK.ag ab _ _
 have BR:bK m5 m3.size iB [.s d,.s (.mk m2.size 0 0 0)]:=bK.ag (m:=m4) (o:=0) (r:=[.s d,.s (.mk m2.size 0 0 0)]) (bK.push m3 _ _)
 have apZ:af m3 m5:=((af.av m3).aC _).ag (aFR _) _ _
 have ho5:gQ m m5 dt 5 (.mk m2.size 0 0 0) ([]:List (List Ce)).flatten:=
  (gQ.new (((af.av m).aC _).aC _:af m m2) dt 5 [] 0 az:gQ m m3 dt 5 (.mk m2.size 0 0 0) []).ext apZ
 clear_value m5
 refine dg (n:=im.bJ.length) ab (λk m'=>af m m'/\m5.size<=m'.size/\∃r css,bK m' m3.size iB [.s d,.s r]/\gQ m m' dt 5 r css.flatten/\eQ 5 (mB m) css (im.bJ.take k)/\r≠.nil/\m1.size<r.ao/\r.ao≠m3.size/\r.len=k)
  ⟨vP,aFR _,_,[],BR,ho5,by simpa using eQ.nil 5 (mB m),az,bg,bg,rfl⟩ ?_
 rintro k m6 I μ hk ⟨hx,vK,r,css,BQ,pN,Ih,hrn,QB,hr3,nL⟩ next
 refine⟨λh1=>?_,λh1=>?_⟩
 ·simp only[aFP]at h1
  obtain⟨q,hq⟩:=ae (l:=im.bJ) (k:=k) ab
  obtain⟨a,b,c,ha,hb,hc,g0,g1,g2,g3,g4⟩:=h.bJ.aE hq
  refine⟨r,BQ.bH 1,ab,ab,a,by simpa using hx.ad g0,ab,ab,_,by simpa using hx.ad g2,?_⟩
  intro m7
  have aaW:af m6 m7:=af.push _ _
  refine⟨aaW.cr (BQ.bH 1),?_⟩
  have ji:eK m7 m6.size 0 [.s a,.i q.aH,.i 0,.i 0,.s .nil]:=(bK.push m6 _ _).iu
  have ap1:=BQ.ext aaW
  have hs7:m7.size=m6.size+1:=by simp[m7]
  clear_value m7
  refine gQ.append (zs:=[.s .nil,.i 0,.i 0,.i 0,.s .nil]) (new:=[.s a,.i q.aH,.i 0,.i 0,.s .nil]) (pN.ext aaW) (hx.trans aaW) rfl ji (by simp[nL];omega) ?_
  intro r' m8 h7 h8 h9 ln jV nJ
  have afL:∀b,b<m7.size->b≠r.ao->m8[b]? =m7[b]? :=λb hb cx=>jV b hb (λ_=>cx)
  have YO:m1.size<r'.ao/\r'.ao≠m3.size:=by
   rcases nJ with⟨_,e⟩|⟨_,e,_⟩|e
   ·rw[e]at h9;simp at h9
   ·rw[e];constructor<;>omega
   ·rw[e];constructor<;>omega
  have akp:bK m8 m3.size iB [.s d,.s r]:=ap1.congr (afL _ ab (λe=>hr3 e.symm))
  refine⟨λb hb=>?_,akp.dW az,?_⟩
  ·simp at hb
   rcases hb with rfl|rfl
   ·exact afL _ ab ab
   ·exact afL _ ab ab
  intro m9
  have hs9:m9.size=m8.size:=by simp[m9,aq]
  have LQ:bK m9 m3.size iB [.s d,.s r']:=bK.ag (m:=m8) (o:=1) (r:=[.s r']) akp
  have afM:∀b,b≠m3.size->m9[b]? =m8[b]? :=λb hb=>aP _ _ _ _ hb
  have Jw:af m m9:=h8.ag ab _ _
  clear_value m9
  refine⟨λb hb=>?_,?_⟩
  ·simp at hb
   rcases hb with rfl|rfl
   ·exact afM _ ab
   ·exact afM _ ab
  refine next ab _ ⟨Jw,ab,r',css++[[.s a,.i q.aH,.i 0,.i 0,.s .nil]],LQ,?_,?_,?_,YO.1,YO.2,by simp[h9,nL]⟩
  ·rw[aHr]
   exact(by simpa using h7:gQ m m8 dt 5 r' (css.flatten++[[.s a,.i q.aH,.i 0,.i 0,.s .nil]].flatten)).congr (afM _ YO.2)
  ·rw[bn hq]
   exact Ih.xI rfl ⟨a,rfl,ha⟩
  ·intro e
   rw[e]at YO;simp at YO
 ·simp only[aFQ]at h1
  refine⟨d,BQ.bH 0,r,BQ.bH 1,?_⟩
  intro m7
  have cx:∀b,b≠m1.size->m7[b]? =m6[b]? :=λb hb=>aP _ _ _ _ hb
  have T9:af m m7:=hx.ag ab _ _
  refine⟨r,rfl,?_,T9⟩
  rw[bL ab]at Ih
  exact(cY.fQ (pN.congr (cx _ ab)) Ih ab ab).mono (af.av _) (mB.ext T9)
structure Gm(im:bq)(p:bY):Prop where
 bX:CI p.params p.bX
 an:(p.params.length:Int)<=p.an/\1<=p.an/\p.an<=2000
 len:1<=p.bP.length/\p.bP.length<=2000
 cq:∀(k:Nat)(i:Instr),p.bP[k]? =some i->fe im p k i
 Mg:∀i,p.bP[p.bP.length -1]? =some i->i.op=23\/i.op=24
theorem Er{m:ah}{d p:Sl}{im:bq}(h:dU m d p im)(ht:cE im.aI){a l c:Sl}{q:bY}(hq:PQ m a l c q):
 cB Tryz.prog 39 [.agg #[Sl.v d,Sl.v p],.agg #[Sl.v a,Sl.v l,vi q.aH,vi q.an,Sl.v c]] m (Gm im q):=by
 apply xS
 simp -zeta only[aw,ax]
 intro m1 m2
 have lM:af m m2:=((af.av m).aC _).aC _
 have hl:∀b∈[m1.size,m.size],b<m2.size:=by simp[m2,m1];omega
 clear_value m2
 have jK:=hq.params.len
 have pt:=hq.bP.len
 refine(sG (hq.params.ext lM) (hq.bX.ext lM)).ay (af.av _) hl λb m3 hb h1 h2=>⟨_,rfl,λh3=>?_,λh3=>?_⟩
 ·exact bC (λhp=>nb hb h3 hp.bX) (lM.trans h1)
 have Lq:=yb hb h3
 refine(aJ _ _ _ _).ay h2 hl λb m4 hb h4 h5=>⟨_,rfl,λh6=>?_,λh6=>?_⟩
 ·refine bC (λhp=>nb hb h6 ?_) (lM.trans h5)
  have:=hp.an
  split<;>omega
 have akq:=yb hb h6
 refine(aJ _ _ _ _).ay h5 hl λb m5 hb h7 h8=>⟨_,rfl,λh9=>?_,λh9=>?_⟩
 ·exact bC (λhp=>nb hb h9 (by have:=hp.len;omega)) (lM.trans h8)
 have hlen:=yb hb h9
 have Ss:(q.params.length:Int)<=q.an/\1<=q.an/\q.an<=2000:=by
  split at akq<;>omega
 refine dg (n:=q.bP.length) ab (λj m'=>af m2 m'/\∀(k:Nat)(i:Instr),k<j->q.bP[k]? =some i->fe im q k i) ⟨h8,az⟩ ?_
 rintro j m6 I μ hj ⟨hx,hn⟩ next
 have tD:=lM.trans hx
 refine⟨λln=>?_,λln=>?_⟩
 ·simp only[aFP]at ln
  obtain⟨i,hi⟩:=ae (l:=q.bP) (k:=j) ab
  refine(CK (dU.ext tD h) ht (hq.ext tD) Ss.2 hi).ay hx hl λb m7 hb jV nJ=>⟨_,rfl,λuJ=>?_,λuJ=>?_⟩
  ·exact bC (λhp=>nb hb uJ (hp.cq j i hi)) (lM.trans nJ)
  ·refine next ab _ ⟨nJ,λk i' hk iy=>?_⟩
   by_cases e:k=j
   ·subst e
    rw[hi]at iy;simp at iy;subst iy
    exact yb hb uJ
   ·exact hn k i' ab iy
 ·simp only[aFQ]at ln
  obtain⟨i,hi⟩:=ae (l:=q.bP) (k:=q.bP.length -1) ab
  obtain⟨xa,xj,ha,NB,g0,g1,g2,g3,g4,g5⟩:=(dq.ext tD hq.bP).aE hi
  have e1:bS ((c.len:Int) -1)=((q.bP.length -1:Nat):Int):=by rw[aF ab ab];omega
  rw[e1]
  have gZ:∀(k:Nat)(i:Instr),q.bP[k]? =some i->fe im q k i:=λk i' iy=>hn k i' (by have:=ap iy;omega) iy
  refine⟨ab,ab,_,by simpa using g0,λjV=>?_,λjV=>?_⟩
  ·simp only[aFZ]at jV
   refine gP ⟨Lq,Ss,ab,gZ,λi' iy=>?_⟩ tD
   rw[hi]at iy;simp at iy;subst iy
   exact Or.inl jV
  ·simp only[aFU]at jV
   refine⟨ab,ab,_,by simpa using g0,ez ?_ tD⟩
   simp only[aFZ]
   refine⟨λnJ=>⟨Lq,Ss,ab,gZ,λi' iy=>?_⟩,λhp=>?_⟩
   ·rw[hi]at iy;simp at iy;subst iy
    exact Or.inr nJ
   ·rcases hp.Mg i hi with nJ|nJ
    ·exact absurd nJ jV
    ·exact nJ
structure kN(im:bq):Prop where
 oQ:J4 im.aI im.bJ
 cq:∀p∈im.bJ,Gm im p
theorem qR{m:ah}{d p:Sl}{im:bq}(h:dU m d p im):cB Tryz.prog 16 [.agg #[Sl.v d,Sl.v p]] m (kN im):=by
 apply wy;simp -zeta only[aw,ax];intro m1;have lM:af m m1:=(af.av m).aC _;have hl:∀b∈[m.size],b<m1.size:=by simp[m1]
 clear_value m1;have tA:=h.bJ.len;refine⟨λh1=>?_,λh1=>?_⟩
 ·simp only[aFP]at h1;exact bC (λhp=>by have:=hp.oQ.len;omega) lM
 simp only[aFQ]at h1;refine(Ba (dU.ext lM h) ab).ay (af.av _) hl ?_;rintro _ m2 ⟨f,rfl,hf,h2⟩;refine⟨h2,d,f,rfl,?_⟩;refine(sK (br.ext (lM.trans h2) h.aI) hf).ay h2 hl λb m3 hb h3 h4=>⟨_,rfl,λh5=>?_,λh5=>?_⟩
 ·exact bC (λhp=>nb hb h5 hp.oQ) (lM.trans h4)
 have ad9:=yb hb h5;refine dg (n:=im.bJ.length) ab (λj m'=>af m1 m'/\∀q∈im.bJ.take j,Gm im q) ⟨h4,az⟩ ?_;rintro j m4 I μ hj ⟨hx,hn⟩ next
 have tD:=lM.trans hx;refine⟨λh6=>?_,λh6=>?_⟩
 ·simp only[aFP]at h6;obtain⟨q,hq⟩:=ae (l:=im.bJ) (k:=j) ab;obtain⟨a,b,c,ha,hb,hc,g0,g1,g2,g3,g4⟩:=(eV.ext tD h.bJ).aE hq;refine⟨ab,ab,_,g0,_,g1,_,g2,_,g3,_,g4,?_⟩;refine(Er (dU.ext tD h) ad9.types ⟨ha,hb,hc⟩).ay hx hl λb m5 hb h7 h8=>⟨_,rfl,λh9=>?_,λh9=>?_⟩
  ·exact bC (λhp=>nb hb h9 (hp.cq q (ak hq))) (lM.trans h8)
  ·exact next ab _ ⟨h8,aZ hq hn (yb hb h9)⟩
 ·simp only[aFQ]at h6;exact gP ⟨ad9,bM ab hn⟩ tD
theorem cY.aaj{α:Type}{m:ah}{sz:Nat}{R:List Ce->α->Prop}{s:Sl}{l:List α}(h:cY m sz R s l){k:Nat}(hk:k<=l.length):cY m sz R (s.cut 0 k sz) (l.take k):=by
 have hl:=h.len;have hc:=h.cap;have hm:=h.eP;cases s with
 |nil=>
  simp at hl;have:k=0:=ab;subst this;exact⟨by simp[Sl.cut],by simp[Sl.cut],by simp[Sl.cut],az⟩
 |BV b o sp=>
  simp at hl;have:k=0:=ab;subst this;exact⟨by simp[Sl.cut],by simp[Sl.cut],by simp[Sl.cut],az⟩
 |mk b o n c=>
  simp only[Sl.eO,Sl.NU]at hl hc hm;refine⟨by simp[Sl.cut];omega,by simp[Sl.cut];omega,by simp[Sl.cut];omega,λj x hj=>?_⟩;have NB:j<k:=by have:=ap hj;simp at this;omega
  rw[aHb,aFW NB]at hj;have:=h.iu j x hj;simpa[Sl.cut]using this
theorem nk(aI:Sl)(t:Int)(m:ah):cB Tryz.prog 78 [Sl.v aI,vi t] m (yL aI.len t):=by
 apply DU;refine⟨λh=>ez ?_ (af.av _),λh=>bC ?_ (af.av _)⟩<;>simp at h
 ·simp[yL,h]
 ·unfold yL;omega
theorem ub{m:ah}{list:Sl}{l:List Int}(hl:aj m list l)(aI:Sl):cB Tryz.prog 77 [Sl.v aI,Sl.v list] m (El aI.len l):=by
 apply Ak;have ly:=hl.len;refine dg (n:=l.length) (ly▸hl.eP) (λk m'=>af m m'/\∀t∈l.take k,yL aI.len t) ⟨af.av _,az⟩ ?_;rintro k m1 I μ hk ⟨hx,hn⟩ next
 refine⟨λh=>?_,λh=>?_⟩
 ·simp only[aFP]at h;obtain⟨x,dF⟩:=ae (l:=l) (k:=k) ab;refine⟨ab,ab,x,by simpa using hx.ad (hl.aE dF),?_⟩;refine(nk _ _ _).then λb m2 hb h2=>⟨_,rfl,λh=>?_,λh=>?_⟩
  ·exact bC (λhp=>nb hb h (hp x (ak dF))) (hx.trans h2)
  ·exact next ab _ ⟨hx.trans h2,aZ dF hn (yb hb h)⟩
 ·simp only[aFQ]at h;exact gP (bM ab hn) hx
theorem yQ(op:Int)(m:ah)(h7:op≠7/\op≠8):cB Tryz.prog 46 [vi op] m (jA op):=by
 apply tL;refine⟨λh=>⟨λh2=>gP ?_ (af.av _),λh2=>⟨λh3=>gP ?_ (af.av _),λh3=>ez ?_ (af.av _)⟩⟩,λh=>⟨λh3=>gP ?_ (af.av _),λh3=>ez ?_ (af.av _)⟩⟩<;>simp[jA]at* <;>omega
theorem uc{m:ah}{aI:Sl}{ds:List aS}(hd:br m aI ds)(hlen:ds.length<=4)(hb:∀d∈ds,d.cons.length<=3):Mc Tryz.prog 79 [Sl.v aI] m (vi (dv ds).length):=by
 apply Al;simp -zeta only[aw,ax];have kU:=hd.len;refine cN (n:=ds.length) ab (λj n m'=>af m m'/\n=(fc ds j:Nat)/\fc ds j<=3*j) ⟨af.av _,by cases ds<;>rfl,by cases ds<;>simp[fc]⟩ ?_;rintro j n m1 I μ hj ⟨hx,rfl,h3⟩ next
 refine⟨λh=>?_,λh=>?_⟩
 ·simp only[aFP]at h;obtain⟨d,nK⟩:=ae (l:=ds) (k:=j) ab;obtain⟨f,hf,g0,g1,g2⟩:=(br.ext hx hd).aE nK;refine⟨ab,ab,_,g0,_,g1,f,g2,?_⟩;intro m2 m3;have h2:=hb d (ak nK);refine next ab _ _ ⟨(hx.aC _).ag hx.size _ _,?_,?_⟩
  ·rw[aF ab (by have:=hf.len;omega),qu nK,hf.len];rfl
  ·rw[qu nK];omega
 ·simp only[aFQ]at h;refine⟨?_,hx⟩;rw[lY ds j ab]
theorem Tl{ds:List aS}(h:cE ds):∀d∈ds,d.cons.length<=3:=λd hd=>by
 obtain⟨k,hk⟩:=List.mem_iff_getElem?.1 hd;exact je h hk
theorem Tm:∀(ds:List aS)(k:Nat),(dv (ds.take k)).length=fc ds k
 |[],k=>by simp[dv,RB]
 |d::ds,0=>by simp[dv,fc]
 |d::ds,k+1=>by
  have:=Tm ds k;simp only[aHJ,dv,aG5,aF4,fc]at this⊢;omega
theorem J5{m:ah}{aI:Sl}{ds:List aS}(hd:br m aI ds)(ht:cE ds)(t:Int):aD Tryz.prog 80 [Sl.v aI,vi t] m λv m'=>∃s,v=Sl.v s/\aj m' s (bB ds t)/\af m m':=by
 apply DV;have kU:=hd.len;have Hx:=hd.cap;have OS:∀(h:¬(1<=t/\t<=ds.length)),aj m .nil (bB ds t):=λh=>by
  unfold bB;rw[aFS h];exact⟨rfl,aFR _,az,az⟩
 have:=ht.len;refine⟨λh=>?_,λh=>?_⟩
 ·simp only[aFP]at h;exact⟨_,rfl,OS ab,af.av _⟩
 simp only[aFQ]at h;refine⟨λh1=>?_,λh1=>?_⟩
 ·simp only[aFP]at h1;exact⟨_,rfl,OS ab,af.av _⟩
 simp only[aFQ]at h1;have e1:bS (t -1)=((t.toNat -1:Nat):Int):=by rw[aF ab ab];omega
 rw[e1];obtain⟨d,nK⟩:=ae (l:=ds) (k:=t.toNat -1) ab;have e2:bB ds t=(List.range d.cons.length).map λi=>((fc ds (t.toNat -1)+i:Nat):Int):=by
  unfold bB;rw[aFW ab,nK];rfl
 rw[e2];have nJ:=qL ht (t.toNat -1);have h6:=je ht nK;refine⟨ab,ab,ab,?_⟩;have Jf:br m (aI.cut 0 (t.toNat -1) 3) (ds.take (t.toNat -1)):=cY.aaj hd ab;have pw:=uc Jf bg (λd hd=>Tl ht d (aGk hd));rw[Tm]at pw;refine pw.then λm1 dF=>⟨_,rfl,?_⟩;obtain⟨f,hf,g0,g1,g2⟩:=(br.ext dF hd).aE nK;have gL:=hf.len;refine⟨ab,ab,f,by simpa using g2,?_⟩;refine cN (n:=d.cons.length) ab (λj s m'=>af m m'/\gQ m m' au 1 s (((List.range j).map λi=>((fc ds (t.toNat -1)+i:Nat):Int)).map Ce.i)/\s.len=j) ⟨dF,by simpa using gQ.nil m m1 au 1,rfl⟩ ?_;rintro j s m3 I μ hj ⟨hx,hs,kQ⟩ next
 refine⟨λh3=>?_,λh3=>?_⟩
 ·simp only[aFP]at h3;intro m5;have e3:bS (((fc ds (t.toNat -1):Nat):Int)+(j:Int))=((fc ds (t.toNat -1)+j:Nat):Int):=by rw[aF ab ab];omega
  have hm5:m5=m3.push (.cells (aU [.i (((fc ds (t.toNat -1)+j:Nat):Int))]) au):=by rw[<-e3]
  clear_value m5;subst hm5;refine gQ.append (zs:=[.i 0]) (new:=[.i ((fc ds (t.toNat -1)+j:Nat):Int)]) (hs.ext (af.push _ _)) (hx.aC _) rfl (bK.push _ _ _).iu (by simp[kQ];omega) ?_;intro r m' h7 h8 h9 ln jV _;refine next ab _ _ ⟨h8,?_,by simp[h9,kQ]⟩
  rw[aH6,aGz,aGz];exact h7
 ·simp only[aFQ]at h3;have:j=d.cons.length:=ab;subst this;exact⟨_,rfl,aj.fQ hs bg,hx⟩
theorem PR{ds:List aS}{i j:Nat}{d:aS}{f:List Int}(h:ds[i]? =some d)(hj:d.cons[j]? =some f):bz ds ((fc ds i+j:Nat):Int)=f:=by
 unfold bz;rw[aFW ab,aHo,oW ds i j d h (ap hj),hj];rfl
theorem Mh{m:ah}{aI:Sl}{ds:List aS}(hd:br m aI ds)(ht:cE ds)(c:Int)(hc: -1000000<=c/\c<=1000000):aD Tryz.prog 114 [Sl.v aI,vi c] m λv m'=>∃t s,v=.tuple #[vi t,.agg #[Sl.v s]]/\aj m' s (bz ds c)/\af m m':=by
 apply Gc;simp -zeta only[aw,ax];intro m1;have lM:af m m1:=(af.av m).aC _;have hs1:m.size<m1.size:=by simp[m1]
 clear_value m1;have kU:=hd.len;have:=ht.len;refine cN (n:=ds.length) ab (λj c' m'=>af m m'/\m1.size<=m'.size/\c'=c -(fc ds j:Nat)/\¬(0<=c/\c<fc ds j)) ⟨lM,aFR _,by cases ds<;>simp[fc],by cases ds<;>simp[fc]⟩ ?_;rintro j c' m2 I μ hj ⟨hx,vK,rfl,LO⟩ next
 refine⟨λh=>?_,λh=>?_⟩
 ·simp only[aFP]at h;obtain⟨d,nK⟩:=ae (l:=ds) (k:=j) ab;obtain⟨f,hf,g0,g1,g2⟩:=(br.ext hx hd).aE nK;have gL:=hf.len;have nJ:=qL ht j;have h6:=je ht nK;refine⟨ab,ab,_,g0,_,g1,f,g2,?_⟩;intro m3 m4;have kK:af m2 m4:=((af.av m2).aC _).ag (aFR _) _ _;have sW:¬(0<=c -(fc ds j:Nat)/\c -(fc ds j:Nat)<d.cons.length)->I (bS (c -(fc ds j:Nat) -(f.len:Int))) (bS ((j:Int)+1)) m4/\μ (bS (c -(fc ds j:Nat) -(f.len:Int))) (bS ((j:Int)+1)) m4<μ (c -(fc ds j:Nat)) j m2:=by
   intro hq;refine next ab _ _ ⟨hx.trans kK,aF8 vK kK.size,?_,?_⟩
   ·rw[aF ab ab,qu nK];omega
   ·rw[qu nK];omega
  refine⟨λh1=>⟨λh2=>?_,λh2=>sW ?_⟩,λh1=>sW ?_⟩
  ·simp only[aFP]at h1 h2;obtain⟨x,dF⟩:=ae (l:=d.cons) (k:=(c -(fc ds j:Nat)).toNat) ab;obtain⟨g,hg,gg⟩:=(mV.ext kK hf).aE dF;refine⟨ab,ab,g,gg,?_⟩;intro m5;have vP:af m m5:=(hx.trans kK).ag (aFR _) _ _;refine⟨_,g,rfl,?_,vP⟩;have e:bz ds c=x:=by
    have:=PR nK dF;rw[<-this];congr 1;omega
   rw[e];obtain⟨f',OO,_,_,g2'⟩:=hd.aE nK;have hff:f=f':=by
    have:=hx.ad g2';rw[g2]at this;exact Sl.HN.1 (by simpa using this)
   subst hff;obtain⟨g',hg',gg'⟩:=OO.aE dF;have hgg:g=g':=by
    have:=(hx.trans kK).ad gg';rw[gg]at this;exact Sl.HN.1 (by simpa using this)
   subst hgg;exact hg'.ext vP
  ·simp at h1 h2;omega
  ·simp at h1;omega
 ·simp only[aFQ]at h;intro m5;have vP:af m m5:=hx.ag (aFR _) _ _;refine⟨_,.nil,rfl,?_,vP⟩;have e:bz ds c=[]:=by
   unfold bz;split
   ·rw[aGc (by rw[<-lY ds j ab];omega)];rfl
   ·rfl
  rw[e];exact⟨rfl,aFR _,az,az⟩
theorem Gn{m:ah}{aI:Sl}{ds:List aS}(hd:br m aI ds)(ht:cE ds)(c:Int)(hc: -1000000<=c/\c<=1000000):aD Tryz.prog 81 [Sl.v aI,vi c] m λv m'=>∃s,v=Sl.v s/\aj m' s (bz ds c)/\af m m':=by
 apply Am;simp -zeta only[aw,ax];refine(Mh hd ht c hc).mono ?_;rintro _ m1 ⟨t,s,rfl,hs,hx⟩;refine⟨t,s,rfl,?_⟩;intro m2 m3;have lO:af m1 m3:=((af.av m1).aC _).ag (aFR _) _ _;exact⟨s,rfl,hs.ext lO,hx.trans lO⟩
theorem ud{m:ah}{s:Sl}{l:List Int}(hl:aj m s l)(g:Nat)(fs cs:Array Value)(hg:GL.elem g=true)(q:Int->Prop)
 (hf:∀x∈l,∀m',af m m'->cB Tryz.prog g (fs.toList++[vi x]++cs.toList) m' (q x)):
 aD Tryz.prog 54 [Sl.v s,.func (.func g) fs cs] m λv m'=>∃r:Int,v=vi r/\af m m'/\
  ((r= -1/\∀x∈l,¬q x)\/∃(k:Nat)(x:Int),r=k/\l[k]? =some x/\q x/\∀y∈l.take k,¬q y):=by
 apply nT s (.func g,fs,cs)
 have ly:=hl.len
 refine dg (n:=l.length) (ly▸hl.eP) (λk m'=>af m m'/\∀y∈l.take k,¬q y) ⟨af.av _,az⟩ ?_
 rintro k m1 I μ hk ⟨hx,hn⟩ next
 refine⟨λh=>?_,λh=>?_⟩
 ·simp only[aFP]at h
  obtain⟨x,dF⟩:=ae (l:=l) (k:=k) ab
  refine⟨ab,ab,x,by simpa using hx.ad (hl.aE dF),g,rfl,hg,?_⟩
  refine(hf x (ak dF) m1 hx).then λb m2 hb h2=>⟨_,rfl,λh=>?_,λh=>?_⟩
  ·exact⟨_,rfl,hx.trans h2,Or.inr ⟨k,x,rfl,dF,hb.1 h,hn⟩⟩
  ·exact next ab _ ⟨hx.trans h2,aZ dF hn (fb hb h)⟩
 ·simp only[aFQ]at h
  exact⟨_,rfl,hx,Or.inl ⟨rfl,bM ab hn⟩⟩
theorem km{m:ah}{s:Sl}{l:List Int}(hl:aj m s l)(g:Nat)(fs cs:Array Value)(hg:GL.elem g=true)(q:Int->Prop)
 (hf:∀x∈l,∀m',af m m'->cB Tryz.prog g (fs.toList++[vi x]++cs.toList) m' (q x)):
 cB Tryz.prog 23 [Sl.v s,.func (.func g) fs cs] m (∃x∈l,q x):=by
 apply mI s (.func g,fs,cs)
 refine(ud hl g fs cs hg q hf).mono ?_
 rintro _ m1 ⟨r,rfl,hx,h⟩
 refine⟨_,rfl,ez ?_ hx⟩
 simp only[aHK,aFP]
 rcases h with⟨rfl,h⟩|⟨k,x,rfl,h1,h2,h3⟩
 ·exact⟨λh'=>ab,λ⟨x,h1,h2⟩=>absurd h2 (h x h1)⟩
 ·exact⟨λ_=>⟨x,ak h1,h2⟩,λ_=>ab⟩
section
structure _root_.Go.Vc.di where
 params:List Int
 bX:List Int
 aH:Int
 body:Bk
def fg(m:ah)(cs:List Ce)(r:di):Prop:=∃p l s,cs=[.s p,.s l,.i r.aH,.s s,.i r.body.aH]/\aj m p r.params/\aj m l r.bX/\cU m s r.body.ar
abbrev yR(m:ah)(s:Sl)(l:List di):Prop:=cY m 5 (fg m) s l
structure cR(m:ah)(d r:Sl)(ds:List aS)(rs:List di):Prop where
 aI:br m d ds
 fj:yR m r rs
 types:cE ds
 lZ:rs.length<=4
theorem fg.le{m m':ah}(h:Le m m'){cs:List Ce}{x:di}:fg m cs x->fg m' cs x:=λ⟨p,l,s,h1,h2,h3,h4⟩=>⟨p,l,s,h1,h2.le h,h3.le h,h4.le h⟩
theorem fg.mono:lV 5 fg:=⟨λh=>fg.le h,λh=>by obtain⟨_,_,_,rfl,_⟩:=h;rfl⟩
theorem yR.le{m m':ah}(hm:Le m m'){s:Sl}{l:List di}(h:yR m s l):yR m' s l:=cY.le h hm λ_ _=>fg.le hm
theorem yR.aE{m:ah}{s:Sl}{l:List di}(h:yR m s l){k:Nat}{x:di}(hk:l[k]? =some x):
 ∃p t b,aj m p x.params/\aj m t x.bX/\cU m b x.body.ar/\ad m s.ao (s.off+k*5)=some (Sl.v p)/\ad m s.ao (s.off+k*5+1)=some (Sl.v t)/\ad m s.ao (s.off+k*5+2)=some (vi x.aH)/\ad m s.ao (s.off+k*5+3)=some (Sl.v b)/\ad m s.ao (s.off+k*5+4)=some (vi x.body.aH):=by
 obtain⟨cs,⟨p,t,b,rfl,h1,h2,h3⟩,hr⟩:=h.iu k x hk
 exact⟨p,t,b,h1,h2,h3,hr 0 _ rfl,hr 1 _ rfl,hr 2 _ rfl,hr 3 _ rfl,hr 4 _ rfl⟩
theorem cR.le{m m':ah}{d r:Sl}{ds:List aS}{rs:List di}(h:cR m d r ds rs)(hm:Le m m'):cR m' d r ds rs:=⟨h.aI.le hm,h.fj.le hm,h.types,h.lZ⟩
theorem yS(m:ah):Le m (aY [] m):=λb o v h=>cT.2 ⟨az,h⟩
theorem Es{ds:List aS}(h:cE ds)(c:Int):(bz ds c).length<=3:=by
 unfold bz;split
 ·rcases aF1 c.toNat (dv ds).length with hc|hc
  ·obtain⟨i,d,h1,h2,h3⟩:=tr ds c.toNat hc;have h4:=oW ds i (c.toNat -fc ds i) d h1 ab;rw[show fc ds i+(c.toNat -fc ds i)=c.toNat by omega]at h4;obtain⟨x,hx⟩:=ae (l:=d.cons) (k:=c.toNat -fc ds i) ab;rw[h4,hx];exact(((h.cq i d h1).eZ ab).2.2.2 x (ak hx)).1
  ·rw[aGc hc];simp
 ·simp
theorem ajn{ds:List aS}(h:cE ds)(t:Int):(bB ds t).length<=3:=by
 unfold bB;split
 ·cases hk:ds[t.toNat -1]? with
  |none=>simp
  |some d=>simpa using je h hk
 ·simp
theorem RD{ds:List aS}(h:cE ds)(op bh:Int)(k:Nat):zT ds op bh k<=3:=by
 unfold zT;split
 ·exact Es h _
 ·omega
abbrev Et(f:Nat)(args:List Value)(m:ah):Prop:=qM f args m λ_=>True
def mC(f:Nat)(args:List Value)(m:ah):Prop:=aD Tryz.prog f args m λv m'=>∃b:Bool,v=.bool b/\af m m'
theorem rN{m m':ah}{n:Int}(h:af m m'):∃k:Int,vi n=vi k/\True/\af m m':=⟨n,rfl,trivial,h⟩
theorem rA{m m':ah}{b:Bool}(h:af m m'):∃k:Bool,vb b=.bool k/\af m m':=⟨b,rfl,h⟩
theorem _root_.Go.Vc.cB.any{f:Nat}{args:List Value}{m:ah}{p:Prop}(h:cB Tryz.prog f args m p):mC f args m:=h.mono λ_ _⟨b,e,_,x⟩=>⟨b,e,x⟩
section
variable{f:Nat}{args:List Value}{a m:ah}{K:Value->ah->Prop}{l:List Nat}
theorem Et.ay(h:Et f args m)(hx:af a m)(hl:∀b∈l,b<a.size)(hk:∀(n:Int) m',af m m'->af a m'->K (vi n) m'):aD Tryz.prog f args m λv m'=>da l m m'/\K v m':=
 h.mono λ_ m'⟨n,e,_,h3⟩=>⟨h3.cg λb hb=>hx.lt (hl b hb),e▸hk n m' h3 (hx.trans h3)⟩
theorem mC.ay(h:mC f args m)(hx:af a m)(hl:∀b∈l,b<a.size)(hk:∀(b:Bool) m',af m m'->af a m'->K (vb b) m'):aD Tryz.prog f args m λv m'=>da l m m'/\K v m':=
 h.mono λ_ m'⟨n,e,h3⟩=>⟨h3.cg λb hb=>hx.lt (hl b hb),e▸hk n m' h3 (hx.trans h3)⟩
theorem qM.ay{Q:Int->Prop}(h:qM f args m Q)(hx:af a m)(hl:∀b∈l,b<a.size)(hk:∀(n:Int) m',Q n->af m m'->af a m'->K (vi n) m'):aD Tryz.prog f args m λv m'=>da l m m'/\K v m':=
 h.mono λ_ m'⟨n,e,q,h3⟩=>⟨h3.cg λb hb=>hx.lt (hl b hb),e▸hk n m' q h3 (hx.trans h3)⟩
theorem Eo.ay{S:List Nat}{Q:List Int->Prop}(h:Eo f args m S Q)(hx:af a m)(hl:∀b∈l,b<a.size)(hk:∀s l' m',aj (aY S m') s l'->Q l'->af m m'->af a m'->K (Sl.v s) m'):aD Tryz.prog f args m λv m'=>da l m m'/\K v m':=
 h.mono λ_ m'⟨s,l',e,h1,q,h3⟩=>⟨h3.cg λb hb=>hx.lt (hl b hb),e▸hk s l' m' h1 q h3 (hx.trans h3)⟩
theorem iV.ay{S:List Nat}{Q:List Int->Prop}(h:iV f args m S Q)(hx:af a m)(hl:∀b∈l,b<a.size)(hk:∀s l' m',GI S m m' s l'->Q l'->af m m'->af a m'->K (Sl.v s) m'):aD Tryz.prog f args m λv m'=>da l m m'/\K v m':=
 h.mono λ_ m'⟨s,l',e,h1,q,h3⟩=>⟨h3.cg λb hb=>hx.lt (hl b hb),e▸hk s l' m' h1 q h3 (hx.trans h3)⟩
end
theorem _root_.Go.Vc.af.aak{a m m':ah}(hx:af a m){l:List Nat}(hl:∀b∈l,b<a.size)(h:af m m'):da l m m':=h.cg λb hb=>hx.lt (hl b hb)
theorem cw{S:List Nat}{m:ah}(hS:∀b∈S,b<m.size){aI:Sl}{ds:List aS}(hd:br (aY S m) aI ds)(ht:cE ds)(c:Int):Eo 104 [Sl.v aI,vi c] m S (bz ds c=·):=by
 apply oT;have LP:br m aI ds:=hd.le (aV _ _);have kU:=hd.len;have:=ht.len;refine(jB LP ht c).mono ?_;rintro _ m1 ⟨t,rfl,hct,hx⟩;refine⟨_,rfl,λh=>?_,λh=>?_⟩
 ·simp only[aFP]at h;refine⟨_,_,rfl,?_,rfl,hx.aC _⟩;have e:bz ds c=[]:=by
   rcases hct with⟨i,d,h1,_⟩|⟨_,h2⟩
   ·omega
   ·unfold bz;split
    ·rw[aGc ab];rfl
    ·rfl
  rw[e];exact⟨rfl,aFR _,az,az⟩
 ·simp only[aFQ]at h;rcases hct with⟨i,d,rfl,h2,h3,h4⟩|⟨h1,_⟩
  ·have hil:=ap h2;obtain⟨f,hf,g0,g1,g2⟩:=(hd.le (hx.bO S)).aE h2;have e1:bS ((i:Int)+1 -1)=i:=by rw[aF ab ab];omega
   rw[e1];have g2:=(cT.1 g2).2;refine⟨ab,ab,f,by simpa using g2,?_⟩;refine(gY (br.ext hx LP) ht ab).then λm2 h5=>⟨_,rfl,h5.cr (by simpa using g2),?_⟩;have nJ:=qL ht i;have h6:=je ht h2;have gL:=hf.len;obtain⟨x,dF⟩:=ae (l:=d.cons) (k:=(c -fc ds i).toNat) ab;obtain⟨g,hg,gg⟩:=mV.aE (cY.le hf (h5.bO S) (ka.le (h5.bO S))) dF;have e2:bS (c -(fc ds i:Int))=c -fc ds i:=aF ab ab;rw[e2];refine⟨ab,ab,g,(cT.1 gg).2,g,_,rfl,?_,rfl,hx.trans h5⟩;have e3:bz ds c=x:=by
    unfold bz;rw[aFW ab];have:=oW ds i (c -fc ds i).toNat d h2 ab;rw[show c.toNat=fc ds i+(c -fc ds i).toNat by omega,this,dF];rfl
   rw[e3];exact hg
  ·omega
theorem eL{S:List Nat}{m:ah}(hS:∀b∈S,b<m.size){aI:Sl}{ds:List aS}(hd:br m aI ds)(ht:cE ds)(t:Int):Eo 106 [Sl.v aI,vi t] m S (bB ds t=·):=by
 apply sE;intro m1;have kU:=hd.len;have:=ht.len;have dF:af m m1:=(af.av m).aC _;refine(aJ _ _ _ _).then λb m2 hb h2=>⟨_,rfl,λh=>?_,λh=>?_⟩
 ·refine⟨_,_,rfl,?_,rfl,dF.trans h2⟩;have e:bB ds t=[]:=by
   unfold bB;rw[aFS (by have:=nb hb h;omega)]
  rw[e];exact⟨rfl,aFR _,az,az⟩
 ·have h:=yb hb h;have e1:bS (t -1)=((t.toNat -1:Nat):Int):=by rw[aF ab ab];omega
  rw[e1];obtain⟨d,nK⟩:=ae (l:=ds) (k:=t.toNat -1) ab;have e2:bB ds t=(List.range d.cons.length).map λi=>((fc ds (t.toNat -1)+i:Nat):Int):=by
   unfold bB;rw[aFW ab,nK];rfl
  rw[e2];have nJ:=qL ht (t.toNat -1);have h6:=je ht nK;refine cN (n:=d.cons.length) ab (λj s m'=>af m m'/\GI S m m' s ((List.range j).map λi=>((fc ds (t.toNat -1)+i:Nat):Int))) ⟨dF.trans h2,(GI.nil S m).ext h2⟩ ?_;rintro j s m3 I μ hj ⟨hx,hs⟩ next
  obtain⟨f,hf,g0,g1,g2⟩:=(br.ext hx hd).aE nK;have gL:=hf.len;refine⟨ab,ab,f,by simpa using g2,λh3=>?_,λh3=>?_⟩
  ·simp only[aFP]at h3;refine(gY (br.ext hx hd) ht ab).then λm4 h4=>⟨_,rfl,?_⟩;have e3:bS (((fc ds (t.toNat -1):Nat):Int)+(j:Int))=((fc ds (t.toNat -1)+j:Nat):Int):=by rw[aF ab ab];omega
   rw[e3];intro m5;refine GI.iN (hs.ext h4) ((hx.trans h4).fz []) hS bg λr m' g f _ _=>next ab _ _ ⟨f.ext,?_⟩
   rw[aH6,aGz];exact g
  ·simp only[aFQ]at h3;have:j=d.cons.length:=ab;subst this;exact⟨_,_,rfl,hs.done hS bg,rfl,hx⟩
theorem ku{m:ah}{aI:Sl}{ds:List aS}(hd:br m aI ds)(ht:cE ds)(t:Int):cB Tryz.prog 232 [Sl.v aI,vi t] m (∃d,1<=t/\ds[t.toNat -1]? =some d/\d.cons.length=0):=by
 apply Cz;have kU:=hd.len;have:=ht.len;refine(aJ _ _ _ _).then λb m1 hb x1=>⟨_,rfl,λh=>?_,λh=>?_⟩
 ·have h:=hb.1 h;obtain⟨d,nK⟩:=ae (l:=ds) (k:=t.toNat -1) ab;obtain⟨f,hf,g0,g1,g2⟩:=(br.ext x1 hd).aE nK;have e1:bS (t -1)=((t.toNat -1:Nat):Int):=by rw[aF ab ab];omega
  rw[e1];refine⟨ab,ab,f,g2,ez ?_ x1⟩;rw[hf.len];simp only[aFZ];exact⟨λh=>⟨d,ab,nK,ab⟩,λ⟨d',_,h1,h2⟩=>by rw[nK]at h1;simp at h1;subst h1;omega⟩
 ·refine bC (λ⟨d,h1,h2,_⟩=>fb hb h ⟨h1,?_⟩) x1;have:=ap h2;omega
theorem yT{m:ah}{aI:Sl}{ds:List aS}(hd:br m aI ds)(ht:cE ds)(u t:Int):
 qM 254 [Sl.v aI,vi u,vi t] m λk=>k= -1\/∃(i:Nat)(d:aS),k=i+1/\ds[i]? =some d/\d.cons.length=0/\d.rH=u/\d.to=t:=by
 apply CD
 have kU:=hd.len
 have:=ht.len
 refine dg (n:=ds.length) ab (λ_ m'=>af m m') (af.av _) ?_
 rintro k m1 I μ hk hx next
 refine⟨λh=>?_,λh=>⟨_,rfl,Or.inl rfl,hx⟩⟩
 simp only[aFP]at h
 obtain⟨d,nK⟩:=ae (l:=ds) (k:=k) ab
 obtain⟨f,hf,g0,g1,g2⟩:=(br.ext hx hd).aE nK
 have n:=next ab m1 hx
 refine⟨ab,ab,f,g2,λh1=>⟨ab,ab,_,g0,λh2=>⟨ab,ab,_,g1,λh3=>?_,λ_=>n⟩,λ_=>n⟩,λ_=>n⟩
 rw[hf.len]at h1
 simp only[aFZ]at h1 h2 h3
 refine⟨_,rfl,Or.inr ⟨k,d,?_,nK,ab,h2,h3⟩,hx⟩
 rw[aF ab ab]
theorem qv{m:ah}{vars args types:Sl}{v a t:List Int}(hv:aj m vars v)(ha:aj m args a)(ht:aj m types t):mC 229 [Sl.v vars,Sl.v args,Sl.v types] m:=by
 apply Gh;have h1:=hv.len;have h2:=ha.len;have h3:=ht.len;have h4:=hv.eP;refine⟨λ_=>rA (af.av _),λh=>?_⟩;simp only[aGF]at h;refine dg (n:=a.length) (h2▸ha.eP) (λ_ m'=>af m m') (af.av _) ?_;rintro k m1 I μ hk hx next
 refine⟨λh=>?_,λh=>rA hx⟩;simp only[aFP]at h;obtain⟨x,dF⟩:=ae (l:=a) (k:=k) ab;refine⟨ab,ab,x,(ha.ext hx).aE dF,?_⟩;have e1:bS ((vars.len:Int) -1)=(v.length:Int) -1:=by rw[aF ab ab];omega
 rw[e1];refine(aJ _ _ _ _).then λb m2 hb x2=>⟨_,rfl,λ_=>rA (hx.trans x2),λh5=>?_⟩;have h5:=yb hb h5;obtain⟨y,hy⟩:=ae (l:=v) (k:=x.toNat) ab;obtain⟨z,hz⟩:=ae (l:=t) (k:=k) ab;exact⟨ab,ab,x,(ha.ext (hx.trans x2)).aE dF,ab,ab,y,(hv.ext (hx.trans x2)).aE hy,ab,ab,z,(ht.ext (hx.trans x2)).aE hz,λ_=>rA (hx.trans x2),λ_=>next ab _ (hx.trans x2)⟩
theorem Mi(op:Int)(m:ah):mC 227 [vi op] m:=by
 apply Eg;have r:∀b:Bool,∃k:Bool,vb b=.bool k/\af m m:=λb=>rA (af.av m);exact⟨λ_=>r _,λ_=>⟨λ_=>r _,λ_=>⟨λ_=>r _,λ_=>⟨λ_=>r _,λ_=>r _⟩⟩⟩⟩
def mJ(x:bu)(a k:Sl):Value:=.agg #[vi x.op,vi x.bh,vi x.bA,Sl.v a,Sl.v k]
theorem ue{m:ah}{vars a k:Sl}{v:List Int}(hv:aj m vars v)(x:bu):mC 228 [Sl.v vars,.agg #[vi x.op,vi x.bh,vi x.bA,Sl.v a,Sl.v k]] m:=by
 apply yI;simp -zeta only[aw,ax];intro m1;have x1:af m m1:=af.push _ _;have hl:∀b∈[m.size],b<m1.size:=by simp[m1]
 clear_value m1;have h1:=hv.len;have h2:=hv.eP;refine⟨λ_=>rA x1,λ_=>⟨λ_=>?_,λ_=>rA x1⟩⟩;refine(aJ _ _ _ _).ay (af.av m1) hl λb m2 hb _ x2=>⟨_,rfl,λh=>?_,λ_=>rA (x1.trans x2)⟩;have h:=hb.1 h;have e1:bS (x.bA -1)=((x.bA.toNat -1:Nat):Int):=by rw[aF ab ab];omega
 rw[e1];obtain⟨y,hy⟩:=ae (l:=v) (k:=x.bA.toNat -1) ab;exact⟨ab,ab,y,(hv.ext (x1.trans x2)).aE hy,rA (x1.trans x2)⟩
theorem Bb{m:ah}{d r vars a k:Sl}{ds:List aS}{rs:List di}{v:List Int}(hn:cR m d r ds rs)(hv:aj m vars v){x:bu}(ha:aj m a x.args):Et 233 [.agg #[Sl.v d,Sl.v r],Sl.v vars,mJ x a k] m:=by
 apply tU;simp -zeta only[aw,ax];intro m0 m1;have x1:af m m1:=(af.push _ _).trans (af.push _ _);have hl:∀b∈[m0.size,m.size],b<m1.size:=by simp[m1,m0];omega
 clear_value m1;have h1:=hv.len;have h2:=hv.eP;have h3:=ha.len;refine⟨λ_=>rN x1,λh=>?_⟩;simp only[aGF]at h;obtain⟨y,hy⟩:=ae (l:=x.args) (k:=0) ab;refine⟨ab,ab,y,(ha.ext x1).aE hy,?_⟩;have e1:bS ((vars.len:Int) -1)=(v.length:Int) -1:=by rw[aF ab ab];omega
 rw[e1];refine(aJ _ _ _ _).ay (af.av m1) hl λb m2 hb _ x2=>⟨_,rfl,λ_=>rN (x1.trans x2),λh=>?_⟩;have h:=yb hb h;have u2:=x1.trans x2;obtain⟨z,hz⟩:=ae (l:=v) (k:=y.toNat) ab;have g1:=(ha.ext u2).aE hy;have g2:=(hv.ext u2).aE hz;refine⟨ab,ab,y,g1,ab,ab,z,g2,λ_=>rN u2,λ_=>⟨λ_=>⟨λ_=>⟨ab,ab,y,g1,ab,ab,z,g2,?_⟩,λ_=>rN u2⟩,λ_=>rN u2⟩⟩;exact(ku ((hn.le u2.le).aI) hn.types z).any.ay x2 hl λb m3 x3 u3=>⟨_,rfl,λ_=>rN (x1.trans u3),λ_=>rN (x1.trans u3)⟩
theorem CL{m:ah}{d r vars a k:Sl}{ds:List aS}{rs:List di}{v:List Int}(hn:cR m d r ds rs)(hv:aj m vars v){x:bu}(ha:aj m a x.args):Et 231 [.agg #[Sl.v d,Sl.v r],Sl.v vars,mJ x a k] m:=by
 apply vt;simp -zeta only[aw,ax];intro m0 m1;have x1:af m m1:=(af.push _ _).trans (af.push _ _);have hl:∀b∈[m0.size,m.size],b<m1.size:=by simp[m1,m0];omega
 clear_value m1;have h1:=hn.fj.len;have h2:=hn.lZ;have h3:=ha.len;have e1:bS ((r.len:Int) -1)=(rs.length:Int) -1:=by rw[aF ab ab];omega
 rw[e1];refine(aJ _ _ _ _).ay (af.av m1) hl λb m2 hb _ x2=>⟨_,rfl,λ_=>rN (x1.trans x2),λh=>?_⟩;have h:=yb hb h;have u2:=x1.trans x2;obtain⟨q,hq⟩:=ae (l:=rs) (k:=x.bh.toNat) ab;obtain⟨p,t,s,c1,c2,c3,g0,g1,g2,g3,g4⟩:=(hn.le u2.le).fj.aE hq;refine⟨ab,ab,_,g0,_,g1,_,g2,_,g3,_,g4,?_⟩;intro m3 m4;have x4:af m2 m4:=((af.av m2).aC _).ag (aFR _) _ _;have xr:∀b∈[m2.size,m0.size,m.size],b<m4.size:=by
  have h5:=hl m0.size az;have h6:=hl m.size az;have h7:=x2.size;have h8:m4.size=m2.size+1:=by simp[m4,m3,aq]
  simp;omega
 clear_value m4;have u4:=u2.trans x4;have hv4:=hv.ext u4;have ha4:=ha.ext u4;have p4:=c1.ext x4;have h5:=c1.len;have h6:=c1.cap;have h7:=c1.eP;refine⟨λ_=>(qv hv4 ha4 p4).ay (af.av m4) xr λb m5 x5 _=>⟨_,rfl,λ_=>rN (u4.trans x5),λ_=>rN (u4.trans x5)⟩,λ_=>⟨λ_=>rN u4,λh8=>⟨λ_=>rN u4,λ_=>?_⟩⟩⟩;simp only[aFU]at h8;have e2:bS ((p.len:Int) -1)=((q.params.length -1:Nat):Int):=by rw[aF ab ab];omega
 rw[e2];obtain⟨z,hz⟩:=ae (l:=q.params) (k:=q.params.length -1) ab;refine⟨ab,ab,ab,(qv hv4 ha4 (cY.aaj p4 ab)).ay (af.av m4) xr λb m5 x5 _=>⟨_,rfl,λ_=>rN (u4.trans x5),λ_=>⟨ab,ab,z,(p4.ext x5).aE hz,?_⟩⟩⟩;exact(yT (hn.le (u4.trans x5).le).aI hn.types _ _).ay x5 xr λn m6 _ x6 u6=>⟨_,rfl,rN (u4.trans u6)⟩
def ae8(ds:List aS)(rs:List di)(b:Bk):Prop:=∀(m:ah)(d r vars t:Sl)(v:List Int),cR m d r ds rs->aj m vars v->cU m t b.ar->v.length+4*b.w<=1000000000000->Et 193 [.agg #[Sl.v d,Sl.v r],Sl.v vars,.agg #[Sl.v t,vi b.aH]] m
theorem ID{m:ah}{d r vars a k:Sl}{ds:List aS}{rs:List di}{v:List Int}(hn:cR m d r ds rs)(hv:aj m vars v){x:bu}(hk:lA m k x.aW)(hb:v.length+4*x.w<=1000000000000)(ih:∀b∈x.aW,ae8 ds rs b):Et 230 [.agg #[Sl.v d,Sl.v r],Sl.v vars,mJ x a k] m:=by
 apply AO;simp -zeta only[aw,ax];intro m0 m1;have x1:af m m1:=(af.push _ _).trans (af.push _ _);have hl:∀b∈[m0.size,m.size],b<m1.size:=by simp[m1,m0];omega
 clear_value m1;have jk:=hk.len;have hw:=bu.jD x;refine(eL (S:=[]) az (hn.le x1.le).aI hn.types x.bh).ay (af.av m1) hl λc cl m2 hc q x2 _=>⟨_,rfl,?_⟩;subst q;have hc:=hc.le (aV _ _);have pt:=hc.len;have h3:=ajn hn.types x.bh;refine⟨λmany M=>M=m2/\0<=many/\(x.op=8->many=(bB ds x.bh).length),⟨λh=>?_,λh=>?_⟩,?_⟩
 ·simp only[aFZ]at h;exact⟨rfl,ab,λh=>ab⟩
 ·exact⟨rfl,ab,λ_=>ab⟩
 rintro many m2' ⟨e,h4,h5⟩;have e:=e.symm;subst e;refine⟨λ_=>rN (x1.trans x2),λ_=>⟨λ_=>rN (x1.trans x2),λh6=>?_⟩⟩;simp only[aGF]at h6;subst h6;refine cN (n:=x.aW.length) (jk▸hk.eP) (λ_ _ m'=>af m2 m') (af.av _) ?_;rintro j t m3 I μ hj y3 next
 have u3:=x2.trans y3;have z3:=x1.trans u3;refine⟨λh=>?_,λ_=>rN z3⟩;simp only[aFP]at h;obtain⟨b,Ji⟩:=ae (l:=x.aW) (k:=j) ab;have ihb:=ih b (ak Ji);have NF:=vx Ji;have tl:∀(n:Int)(m4:ah),af m2 m4->((decide (n<(0:Int)))=true->∃k:Int,vi (-1)=vi k/\True/\af m m4)/\((decide (n<(0:Int)))=false->((decide ((j:Int)>(0:Int)))=true->((n !=t)=true->∃k:Int,vi (-1)=vi k/\True/\af m m4)/\((n !=t)=false->I n (bS ((j:Int)+1)) m4/\μ n (bS ((j:Int)+1)) m4<μ t j m3))/\((decide ((j:Int)>(0:Int)))=false->I n (bS ((j:Int)+1)) m4/\μ n (bS ((j:Int)+1)) m4<μ t j m3)):=λn m4 h=>by
  have e:=rN (n:=-1) ((x1.trans x2).trans h);have f:=next ab n m4 h
  exact⟨λ_=>e,λ_=>⟨λ_=>⟨λ_=>e,λ_=>f⟩,λ_=>f⟩⟩
 refine⟨λh=>?_,λh=>?_⟩
 ·simp only[aFZ]at h;have h7:=h5 h;obtain⟨y,hy⟩:=ae (l:=bB ds x.bh) (k:=j) ab;refine⟨ab,ab,y,(hc.ext y3).aE hy,?_⟩;refine(cw (S:=[]) az (hn.le (z3.le.trans (yS _))).aI hn.types y).ay u3 hl λf fl m4 hf q x4 u4=>⟨_,rfl,?_⟩;subst q;have h8:=Es hn.types y;refine(cS (S:=[]) az (hv.le ((x1.trans u4).le.trans (yS _))) hf ab).ay u4 hl λe el m5 he q x5 u5=>⟨_,rfl,?_⟩;subst q;obtain⟨b0,lz,g0,g1⟩:=(hk.le (x1.trans u5).le).aE Ji;refine⟨ab,ab,_,g0,_,g1,?_⟩;exact(ihb m5 d r e b0 _ (hn.le (x1.trans u5).le) ((he.done az bg).le (aV _ _)) lz bg).ay u5 hl λn m6 x6 _=>⟨_,rfl,tl n m6 (((y3.trans x4).trans x5).trans x6)⟩
 ·obtain⟨b0,lz,g0,g1⟩:=(hk.le z3.le).aE Ji;refine⟨ab,ab,_,g0,_,g1,?_⟩;exact(ihb m3 d r vars b0 _ (hn.le z3.le) (hv.ext z3) lz ab).ay u3 hl λn m6 x6 _=>⟨_,rfl,tl n m6 (y3.trans x6)⟩
theorem PT{m m1:ah}(h:af m m1)(l:List Int){n:Nat}(hn:n=l.length)(hl:l.length<=9223372036854775807):aj (m1.push (.cells (aU (l.map Ce.i)) au)) (.mk m1.size 0 n n) l:=
 (aj.lit (S:=[]) au l az rfl hn hl).le (aV _ _)
theorem _root_.Go.Vc.cY.J6{α:Type}{m:ah}{sz:Nat}{R:List Ce->α->Prop}{s:Sl}{l:List α}(h:cY m sz R s l){i j:Nat}(hi:i<=j)(hj:j<=l.length):cY m sz R (s.cut i j sz) ((l.take j).drop i):=by
 have hl:=h.len;have hc:=h.cap;have hm:=h.eP;have e:(s.cut i j sz).len=j -i/\(s.cut i j sz).len<=(s.cut i j sz).cap:=by
  cases s with
  |nil=>simp at hl;simp[Sl.cut];omega
  |BV b o sp=>simp at hl;simp[Sl.cut];omega
  |mk b o n c=>simp at hl hc;simp[Sl.cut];omega
 refine⟨by simp[e.1];omega,e.2,ab,λk x hk=>?_⟩;rw[aHk,aHb]at hk;split at hk
 ·rename_i XO;obtain⟨cs,h1,h2⟩:=h.iu _ x hk;refine⟨cs,h1,?_⟩;cases s with
  |nil=>simp at hl;omega
  |BV b o sp=>simp at hl;omega
  |mk b o n c=>
   simp at hl hc;have:¬c=i:=ab;simp only[Sl.cut,this,aHA,Sl.gN,Sl.lQ]at h2⊢;rw[aGE,<-aGm]at h2;exact h2
 ·simp at hk
theorem lJ{m:ah}{d r vars a k:Sl}{ds:List aS}{rs:List di}{v:List Int}(hn:cR m d r ds rs)(hv:aj m vars v){x:bu}(ha:aj m a x.args)(hk:lA m k x.aW)(hb:v.length+4*x.w<=1000000000000)(ih:∀b∈x.aW,ae8 ds rs b):Et 188 [.agg #[Sl.v d,Sl.v r],Sl.v vars,mJ x a k] m:=by
 apply AF;simp -zeta only[aw,ax];intro m0 m1;have x1:af m m1:=(af.push _ _).trans (af.push _ _);have hl:∀b∈[m0.size,m.size],b<m1.size:=by simp[m1,m0];omega
 clear_value m1;have h1:=ha.len;have h2:=ha.cap;have V:∀{m2:ah},af m1 m2->aj m2 vars v:=λh=>hv.ext (x1.trans h);have A:∀{m2:ah},af m1 m2->aj m2 a x.args:=λh=>ha.ext (x1.trans h);have N:∀{m2:ah},af m1 m2->cR m2 d r ds rs:=λh=>hn.le (x1.trans h).le;have ret:∀{m2:ah}{n:Int},af m1 m2->∃k:Int,vi n=vi k/\True/\af m m2:=λh=>rN (x1.trans h);have rb:∀{m2:ah}{n k:Int}{b:Bool},af m1 m2->(b=true->∃k:Int,vi n=vi k/\True/\af m m2)/\(b=false->∃j:Int,vi k=vi j/\True/\af m m2):=λh=>⟨λ_=>ret h,λ_=>ret h⟩;refine⟨λM=>af m1 M,⟨λ_=>?_,λ_=>?_⟩,?_⟩
 ·exact(Mi x.op m1).ay (af.av m1) hl λb m2 x2 _=>⟨_,rfl,λ_=>ret x2,λ_=>(ue (V x2) x).ay x2 hl λb m3 x3 u3=>⟨_,rfl,λ_=>ret u3,λ_=>⟨λ_=>⟨λ_=>⟨λ_=>ret u3,λ_=>u3⟩,λ_=>u3⟩,λ_=>u3⟩⟩⟩
 ·exact(ue (V (af.av _)) x).ay (af.av m1) hl λb m3 u3 _=>⟨_,rfl,λ_=>ret u3,λ_=>⟨λ_=>⟨λ_=>⟨λ_=>ret u3,λ_=>u3⟩,λ_=>u3⟩,λ_=>u3⟩⟩
 intro m2 x2;have T:∀{m3:ah}{t:Sl}{l:List Int}(h:af m1 m3),aj m3 t l->mC 229 [Sl.v vars,Sl.v a,Sl.v t] m3:=λh ht=>qv (V h) (A h) ht;have Kt:∀{m3:ah}(h:af m1 m3),aD Tryz.prog 230 [.agg #[Sl.v d,Sl.v r],Sl.v vars,.agg #[vi x.op,vi x.bh,vi x.bA,Sl.v a,Sl.v k]] m3 λv m'=>da [m0.size,m.size] m3 m'/\∃n:Int,v=vi n/\∃k:Int,vi n=vi k/\True/\af m m':=λh=>
  (ID (N h) (V h) (hk.le (x1.trans h).le) hb ih).ay h hl λn m4 x4 u4=>⟨n,rfl,ret u4⟩
 refine⟨λ_=>⟨λ_=>(aJ _ _ _ _).any.ay x2 hl λb m3 x3 u3=>⟨_,rfl,rb u3⟩,λ_=>ret x2⟩,λ_=>⟨λ_=>?_,λ_=>⟨λ_=>?_,λ_=>⟨λ_=>?_,λ_=>⟨λ_=>?_,λ_=>⟨λ_=>?_,λ_=>⟨λ_=>?_,λ_=>⟨λ_=>?_,λ_=>⟨λ_=>?_,λ_=>ret x2⟩⟩⟩⟩⟩⟩⟩⟩⟩
 ·intro m3;exact(T (x2.aC _) (PT x2 [0,0] rfl az)).ay (x2.aC _) hl λb m3 x3 u3=>⟨_,rfl,rb u3⟩
 ·intro m3;exact(T (x2.aC _) (PT x2 [0] rfl az)).ay (x2.aC _) hl λb m3 x3 u3=>⟨_,rfl,rb u3⟩
 ·refine(jB (N x2).aI hn.types x.bh).mono λ_ m3⟨t,e,_,x3⟩=>?_;subst e;have u3:=x2.trans x3;refine⟨x2.aak hl x3,_,rfl,λ_=>?_,λ_=>ret u3⟩;refine(cw (S:=[]) az ((N u3).aI.le (yS _)) hn.types x.bh).ay u3 hl λf fl m4 hf q x4 u4=>⟨_,rfl,?_,?_⟩
  ·exact aA (x4.same m0.size (u3.lt (hl _ az))) _
  refine(T u4 (hf.le (aV _ _))).ay u4 hl λb m5 x5 u5=>⟨_,rfl,λ_=>?_,λ_=>ret u5⟩;refine(jB (N u5).aI hn.types x.bh).mono λ_ m6⟨t,e,_,x6⟩=>?_;subst e;exact⟨u5.aak hl x6,_,rfl,ret (u5.trans x6)⟩
 ·intro m3;exact(T (x2.aC _) (PT x2 [0] rfl az)).ay (x2.aC _) hl λb m3 x3 u3=>⟨_,rfl,λ_=>Kt u3,λ_=>ret u3⟩
 ·intro m3;exact(T (x2.aC _) (PT x2 [x.bh] rfl az)).ay (x2.aC _) hl λb m3 x3 u3=>⟨_,rfl,λ_=>Kt u3,λ_=>ret u3⟩
 ·exact(CL (N x2) (V x2) (A x2)).ay x2 hl λn m3 x3 u3=>⟨_,rfl,ret u3⟩
 ·have h3:=hv.len;have h4:=hv.eP;refine⟨λb M=>af m1 M/\(b=true->x.args.length=2/\∃y z dd,x.args[0]? =some y/\0<=y/\v[y.toNat]? =some z/\1<=z/\ds[z.toNat -1]? =some dd),⟨λh=>?_,λ_=>⟨x2,λh=>by simp at h⟩⟩,?_⟩
  ·simp only[aFZ]at h;obtain⟨y,hy⟩:=ae (l:=x.args) (k:=0) ab;refine⟨ab,ab,y,(A x2).aE hy,?_⟩;have e1:bS ((vars.len:Int) -1)=(v.length:Int) -1:=by rw[aF ab ab];omega
   rw[e1];refine(aJ _ _ _ _).ay (af.av m2) (λb hb=>x2.lt (hl b hb)) λb m3 jx _ x3=>⟨_,rfl,λh=>?_,λh=>⟨x2.trans x3,λh=>by simp at h⟩⟩;have h:=jx.1 h;have u3:=x2.trans x3;obtain⟨z,hz⟩:=ae (l:=v) (k:=y.toNat) ab;refine⟨ab,ab,y,(A u3).aE hy,ab,ab,z,(V u3).aE hz,?_⟩;refine(ku (N u3).aI hn.types z).ay (af.av m3) (λb hb=>u3.lt (hl b hb)) λb m4 xt _ x4=>⟨_,rfl,u3.trans x4,λh=>?_⟩;obtain⟨dd,h5,h6,_⟩:=xt.1 h;exact⟨ab,y,z,dd,hy,ab,hz,h5,h6⟩
  ·rintro b m3 ⟨x3,uD⟩;refine⟨λh=>?_,λ_=>ret x3⟩;obtain⟨h5,y,z,dd,hy,h6,hz,h7,Hy⟩:=uD h;obtain⟨f,hf,g0,g1,g2⟩:=(N x3).aI.aE Hy;have kU:=hn.aI.len;have h8:=hn.types.len;have h9:=ap Hy;have ln:=ap hz;have e1:bS (z -1)=((z.toNat -1:Nat):Int):=by rw[aF ab ab];omega
   have lj:=(A x3).aE hy;have hz':=(V x3).aE hz;refine⟨ab,ab,y,lj,ab,ab,z,hz',?_⟩;rw[e1];refine⟨ab,ab,_,g0,_,g1,_,g2,?_⟩;intro m4;have x4:af m3 m4:=af.push _ _;have zy:m0.size<m3.size:=x3.lt (hl _ az);have Ji:m.size<m3.size:=x3.lt (hl _ az);refine⟨x4.cr g0,x4.cr g1,x4.cr g2,x4.cr hz',x4.cr lj,aA (x4.same _ zy) _,aA (x4.same _ Ji) _,?_⟩;intro m5;have x5:af m3 m5:=x4.ag (aFR _) _ _;have jV:m5.size=m3.size+1:=by simp[m5,m4,aq]
   clear_value m5;refine⟨ab,ab,ab,?_⟩;intro m6;have x6:af m3 m6:=x5.trans (af.push _ _);have u6:=x3.trans x6;have Lp:∀b∈[m3.size,m0.size,m.size],b<m6.size:=by simp[m6];omega
   refine⟨aA ((af.push m5 _).same _ ab) _,?_⟩;have Jf:aj m6 (a.cut 1 a.len 1) (x.args.drop 1):=by
    have:=(cY.J6 (A u6) (i:=1) (j:=x.args.length) ab (aFR _));rw[aGG]at this;rw[h1];exact this
   exact(qv (V u6) Jf (PT x5 [dd.rH] rfl az)).ay (af.av m6) Lp λb m7 x7 _=>⟨_,rfl,rb (u6.trans x7)⟩
 ·exact(Bb (N x2) (V x2) (A x2)).ay x2 hl λn m3 x3 u3=>⟨_,rfl,ret u3⟩
theorem _root_.Go.Vc.af.me{a m m':ah}(h:af a m)(k:af a m'){l:List Nat}(hl:∀b∈l,b<a.size):da l m m':=λb hb=>by rw[k.same b (hl b hb),h.same b (hl b hb)]
theorem qS(x:bu)(b:Bool)(hb:b=true<->0<=x.op/\x.op<=11):dn x=if b=true then 1 else 0:=by
 unfold dn;by_cases h:b=true
 ·rw[aFW h];exact aFW (hb.1 h)
 ·rw[aFS h];exact aFS λh2=>h (hb.2 h2)
theorem kO{ds:List aS}{rs:List di}:∀b:Bk,ae8 ds rs b:=by
 refine Bk.ind ?_;intro ar kV ih m d r vars t v hn hv hs hb;simp only[Bk.gH,Bk.fH,Bk.nV]at*;apply yD;simp -zeta only[aw,ax];intro m0 m1;have x1:af m m1:=(af.push _ _).trans (af.push _ _);have hl:∀b∈[m0.size,m.size],b<m1.size:=by simp[m1,m0];omega
 clear_value m1;have kQ:=hs.len;refine(jC (S:=[]) az (hv.le (x1.le.trans (yS _))) ab).ay (af.av m1) hl λs0 _ m2 g0 e x2 _=>⟨_,rfl,?_⟩;subst e;have Jj:=yP ar;refine cN (n:=ar.length) (kQ▸hs.eP) (λk s m'=>af m1 m'/\∃l,GI [] m1 m' s l/\l.length=v.length+dc (ar.take k)) ⟨x2,_,g0,az⟩ ?_;rintro k s m3 I μ hk ⟨x3,l,hg,hc⟩ next
 have u3:=x1.trans x3;have hdk:=qQ (ar.take k);have Pf:=aHj k ar;have hsk:=dN (ar.take k);have hlen:=hg.len aO;have hL:=(hg.done az (by have:=Jj k;omega)).le (aV _ _);refine⟨λh=>?_,λh=>?_⟩
 ·simp only[aFP]at h;obtain⟨x,hx⟩:=ae (l:=ar) (k:=k) ab;obtain⟨a,kk,ha,oO,g0,g1,g2,g3,g4⟩:=(hs.le u3.le).aE hx;have Ua:=nh hx;have Su:=Jj (k+1);have hdx:=oG hx;refine⟨ab,ab,_,g0,_,g1,_,g2,_,g3,_,g4,?_⟩;refine(lJ (hn.le u3.le) hL ha oO ab (ih x (ak hx))).ay x3 hl λn m4 x4 u4=>⟨_,rfl,λ_=>rN (x1.trans u4),λ_=>⟨ab,ab,_,x4.ad g0,?_⟩⟩;refine(gD _ _).ay (af.av m4) (λb hb=>u4.lt (hl b hb)) λb m5 BR _ x5=>⟨_,rfl,?_⟩;have hd:=qS x b BR;have u5:=u4.trans x5;refine⟨λh=>?_,λh=>?_⟩
  ·rw[aFW h]at hd;intro m6;refine GI.iN ((hg.ext x4).ext x5) (u5.fz []) az ab λr m7 g f z q=>⟨?_,next ab _ _ ⟨f.ext,_,g,bg⟩⟩;exact af.me (u5.aC _) f.ext hl
  ·rw[aFS (by simp[h])]at hd;exact next ab _ _ ⟨u5,l,(hg.ext x4).ext x5,ab⟩
 ·refine(aJ _ _ _ _).ay (af.av m3) (λb hb=>x3.lt (hl b hb)) λb m4 xt _ x4=>⟨_,rfl,λ_=>rN (u3.trans x4),λh=>?_⟩;have h:=yb xt h;have h9:=hL.eP;rw[aF ab ab]at h;obtain⟨z,hz⟩:=ae (l:=l) (k:=kV.toNat) ab;exact⟨ab,ab,z,(hL.ext x4).aE hz,rN (u3.trans x4)⟩
end
theorem _root_.Go.Vc.bt{S S':List Nat}{m:ah}{b o:Nat}{l:List Ce}(hb:b∈S)(hS:∀c∈S',c∈S):Le (aY S m) (aY S' (ag m b o l)):=
 mW λc _ hn=>⟨λh=>hn (hS c h),aP _ _ _ _ λe=>hn (e▸hb)⟩
def aoR(b:Bk):Prop:=∀(m:ah)(t:Sl),cU m t b.ar->∀left:Int,-1<=left->left<=600->qM 236 [.agg #[Sl.v t,vi b.aH],vi left] m λk=>-1<=k/\k<=600
theorem Gp:∀b:Bk,aoR b:=by
 refine Bk.ind ?_;intro ar kV ih m t hs left h0 ap4;simp only[Bk.gH,Bk.fH]at*;apply yJ;simp -zeta only[aw,ax];intro m1;have x1:af m m1:=af.push _ _;have hl:∀b∈[m.size],b<m1.size:=by simp[m1]
 clear_value m1;have kQ:=hs.len;have ret:∀{m':ah}{n:Int},af m1 m'->-1<=n/\n<=600->∃k:Int,vi n=vi k/\(-1<=k/\k<=600)/\af m m':=λh hn=>⟨_,rfl,hn,x1.trans h⟩;refine cN (n:=ar.length) (kQ▸hs.eP) (λ_ n m'=>af m1 m'/\-1<=n/\n<=600) ⟨af.av _,h0,ap4⟩ ?_;rintro k n m2 I μ hk ⟨x2,hn⟩ next
 refine⟨λh=>⟨λ_=>ret x2 ab,λh1=>?_⟩,λ_=>ret x2 hn⟩;simp only[aFP]at h;simp only[aFQ]at h1;obtain⟨x,hx⟩:=ae (l:=ar) (k:=k) ab;obtain⟨a,kk,ha,oO,g0,g1,g2,g3,g4⟩:=(hs.le (x1.trans x2).le).aE hx;have jk:=oO.len;rw[aF (x:=n -1) ab ab];refine cN (n:=x.aW.length) (jk▸oO.eP) (λ_ n m'=>af m2 m'/\-1<=n/\n<=600) ⟨af.av _,ab,ab⟩ ?_;rintro j q m3 I2 μ2 hj ⟨x3,hq⟩ eN;refine⟨ab,ab,kk,x3.ad g4,λh=>?_,λ_=>next ab _ _ ⟨x2.trans x3,hq⟩⟩;simp only[aFP]at h;obtain⟨b,hb⟩:=ae (l:=x.aW) (k:=j) ab;obtain⟨s,ZG,f0,f1⟩:=(oO.le x3.le).aE hb;refine⟨ab,ab,kk,x3.ad g4,ab,ab,_,f0,_,f1,?_⟩;exact(ih x (ak hx) b (ak hb) m3 s ZG q hq.1 hq.2).ay (x2.trans x3) hl λr m4 hr x4 u4=>⟨_,rfl,λ_=>ret u4 ab,λh=>eN ab _ _ ⟨x3.trans x4,hr⟩⟩
theorem J7{m:ah}{t:Sl}{b:Bk}(hs:cU m t b.ar):Et 192 [.agg #[Sl.v t,vi b.aH]] m:=by
 apply Cs;simp -zeta only[aw,ax];intro m1;have x1:af m m1:=af.push _ _;have hl:∀b∈[m.size],b<m1.size:=by simp[m1]
 clear_value m1;exact(Gp b m1 t (hs.le x1.le) 600 ab ab).ay (af.av m1) hl λn m2 _ _ u2=>⟨_,rfl,λ_=>rN (x1.trans u2),λ_=>rN (x1.trans u2)⟩
def pOf(r:di):bY:=⟨r.params,[],r.aH,0,[]⟩
theorem mB.mono:lV 5 mB:=⟨λh⟨a,h1,h2⟩=>⟨a,h1,h2.le h⟩,λ⟨a,h1,_⟩=>by rw[h1];rfl⟩
theorem Mj{m:ah}{d r:Sl}{ds:List aS}{rs:List di}(hn:cR m d r ds rs):aD Tryz.prog 235 [.agg #[Sl.v d,Sl.v r]] m λv m'=>∃f,v=.agg #[Sl.v d,Sl.v f]/\cY m' 5 (mB m') f (rs.map pOf)/\af m m':=by
 apply Eh;simp -zeta only[aw,ax];intro a1 a2 a3 a4 a5;have nL:=hn.fj.len;have hf:=hn.lZ;have x2:af m a2:=(af.push _ _).trans (af.push _ _);have s1:a1.size=m.size+1:=by simp[a1]
 have s2:a2.size=m.size+2:=by simp[a2,s1]
 have s3:a3.size=m.size+3:=by simp[a3,s2]
 have ZJ:af a3 a5:=(af.push a3 _).ag (aFR _) _ _;have g0:Gr [a3.size,a1.size] a2 a5 dt 5 mB (.mk a2.size 0 0 0) []:=(Gr.new _ (aFR _) _ _ _).ext mB.mono ZJ;have B0:bK a5 a3.size iB [.s d,.s (.mk a2.size 0 0 0)]:=bK.ag (m:=a4) (o:=0) (r:=[.s d,.s (.mk a2.size 0 0 0)]) (bK.push a3 _ _);have Ii:af a2 a5:=(af.push a2 _).trans ZJ;clear_value a5;have hL:∀b∈[a1.size,m.size],b<a2.size/\b∉([]:List Nat):=bg;refine dg (n:=rs.length) ab (λk m'=>af a2 m'/\∃s,Gr [a3.size,a1.size] a2 m' dt 5 mB s ((rs.take k).map pOf)/\bK m' a3.size iB [.s d,.s s]) ⟨Ii,_,g0,B0⟩ ?_;rintro k m6 I μ hk ⟨x6,s,g,B⟩ next
 have u6:=x2.trans x6;refine⟨λh=>?_,λh=>?_⟩
 ·simp only[aFP]at h;obtain⟨q,hq⟩:=ae (l:=rs) (k:=k) ab;have hq6:yR (aY (s.ao::[a3.size,a1.size]) m6) r rs:=hn.fj.le ((yS m).trans ((u6.fz []).aY az λb hb=>Or.inr ?_))
  ·obtain⟨p,t,b,c1,c2,c3,e0,e1,e2,e3,e4⟩:=hq6.aE hq;refine⟨s,B.bH 1,ab,ab,p,(cT.1 e0).2,ab,ab,_,(cT.1 e2).2,?_⟩;intro m7;refine Gr.box (zs:=[.s .nil,.i 0,.i 0,.i 0,.s .nil]) (i:=1) (bc:=[.s d,.s s]) (a:=pOf q) mB.mono aO g (x6.fz []) ⟨p,rfl,c1⟩ bg B az aO ⟨ab,az⟩ (λb hb=>by have h1:=hL b hb;have h2:=g.aN;have h3:=x6.size;omega) λr' m' g' B' f' z' q'=>next ab _ ⟨f'.ext,r',?_,B'⟩
   rw[bn hq,aGz];exact g'
  ·have:=g.aN;simp at hb;omega
 ·simp only[aFQ]at h;refine⟨d,B.bH 0,s,B.bH 1,?_⟩;intro m7;have cx:=g.ne B aO;have hy:=g.aN;rw[bL ab]at g;refine⟨s,rfl,?_,u6.ag ab _ _⟩;have h3:=g.lB mB.mono bg aO bg;exact cY.le h3 ((bt (S':=[]) az az).trans (aV _ _)) λcs x=>mB.mono.le ((bt (S':=[]) az az).trans (aV _ _))
theorem vy{m:ah}{d r:Sl}{ds:List aS}{rs:List di}(hn:cR m d r ds rs):mC 191 [.agg #[Sl.v d,Sl.v r]] m:=by
 apply qJ;simp -zeta only[aw,ax];intro m1;have x1:af m m1:=af.push _ _;have hl:∀b∈[m.size],b<m1.size:=by simp[m1]
 clear_value m1;have nL:=hn.fj.len;have hf:=hn.lZ;refine⟨λ_=>rA x1,λ_=>?_⟩;refine(Mj (hn.le x1.le)).mono λ_ m2⟨f,e,hf2,x2⟩=>?_;subst e;refine⟨x2.cg hl,_,_,rfl,?_⟩;have u2:=x1.trans x2;refine(sK (hn.le u2.le).aI hf2).any.ay x2 hl λb m3 x3 u3=>⟨_,rfl,λ_=>rA (x1.trans u3),λ_=>?_⟩;refine dg (n:=rs.length) ab (λ_ m'=>af m1 m') u3 ?_;rintro k m4 I μ hk x4 next
 refine⟨λh=>?_,λ_=>rA (x1.trans x4)⟩;simp only[aFP]at h;obtain⟨q,hq⟩:=ae (l:=rs) (k:=k) ab;obtain⟨p,t,b,c1,c2,c3,e0,e1,e2,e3,e4⟩:=(hn.le (x1.trans x4).le).fj.aE hq;refine⟨ab,ab,p,e0,ab,ab,t,e1,?_⟩;exact(sG c1 c2).any.ay x4 hl λb m5 x5 u5=>⟨_,rfl,λ_=>rA (x1.trans u5),λ_=>next ab _ u5⟩
theorem CM{m:ah}{d r:Sl}{ds:List aS}{rs:List di}(hn:cR m d r ds rs)(hw:∀q∈rs,q.params.length+4*q.body.w<=1000000000000):mC 162 [.agg #[Sl.v d,Sl.v r]] m:=by
 apply vk;simp -zeta only[aw,ax];intro m1;have x1:af m m1:=af.push _ _;have hl:∀b∈[m.size],b<m1.size:=by simp[m1]
 clear_value m1;have nL:=hn.fj.len;have hf:=hn.lZ;refine(vy (hn.le x1.le)).ay (af.av m1) hl λb m2 x2 _=>⟨_,rfl,λ_=>rA (x1.trans x2),λ_=>?_⟩;refine dg (n:=rs.length) ab (λ_ m'=>af m1 m') x2 ?_;rintro k m4 I μ hk x4 next
 refine⟨λh=>?_,λ_=>rA (x1.trans x4)⟩;simp only[aFP]at h;obtain⟨q,hq⟩:=ae (l:=rs) (k:=k) ab;have u4:=x1.trans x4;obtain⟨p,t,b,c1,c2,c3,e0,e1,e2,e3,e4⟩:=(hn.le u4.le).fj.aE hq;refine⟨ab,ab,_,e0,_,e1,_,e2,_,e3,_,e4,?_⟩;intro m5 m6;have x6:af m4 m6:=(af.push m4 _).ag (aFR _) _ _;have Lp:∀b∈[m4.size,m.size],b<m6.size:=by
  have:=x4.lt (hl m.size az);have:m6.size=m4.size+1:=by simp[m6,m5,aq]
  simp;omega
 clear_value m6;have u6:=u4.trans x6;refine(J7 (c3.le x6.le)).ay (af.av m6) Lp λn m7 x7 _=>⟨_,rfl,λ_=>rA (u6.trans x7),λ_=>?_⟩;refine(kO q.body m7 d r p b q.params (hn.le (u6.trans x7).le) (c1.ext (x6.trans x7)) (c3.le (x6.trans x7).le) (hw q (ak hq))).ay x7 Lp λn m8 x8 u8=>⟨_,rfl,aA (x8.same _ (x7.lt (Lp _ az))) _,λ_=>rA (u6.trans u8),λ_=>next ab _ ((x4.trans x6).trans u8)⟩
theorem vR(op:Int)(m:ah):mC 133 [vi op] m:=by
 apply pS;have r:∀b:Bool,∃k:Bool,vb b=.bool k/\af m m:=λb=>rA (af.av m);exact⟨λ_=>r _,λ_=>⟨λ_=>r _,λ_=>⟨λ_=>r _,λ_=>r _⟩⟩⟩
def ae9(rs:List di)(x:bu):Prop:=x.op=9->0<=x.bh/\x.bh<rs.length
structure At(m:ah)(d r a k:Sl)(ds:List aS)(rs:List di)(x:bu):Prop where
 RE:cR m d r ds rs
 args:aj m a x.args
 call:ae9 rs x
theorem At.le{m m':ah}{d r a k:Sl}{ds:List aS}{rs:List di}{x:bu}(h:At m d r a k ds rs x)(hm:Le m m'):At m' d r a k ds rs x:=⟨h.RE.le hm,h.args.le hm,h.call⟩
theorem cv{m:ah}{o1 o2:Obj}{m1 m2:ah}(h1:m1=m.push o1)(h2:m2=m1.push o2):af m m2/\∀b∈[m1.size,m.size],b<m2.size:=by
 subst h1 h2;exact⟨(af.push _ _).trans (af.push _ _),bg⟩
theorem lC{m:ah}{d r a k:Sl}{ds:List aS}{rs:List di}{x:bu}(h:At m d r a k ds rs x)(i:Int):mC 238 [.agg #[Sl.v d,Sl.v r],mJ x a k,vi i] m:=by
 apply Ei;simp -zeta only[aw,ax];intro m0 m1;obtain⟨x1,hl⟩:=cv (m1:=m0) (m2:=m1) rfl rfl;clear_value m1;have nL:=h.RE.fj.len;refine⟨λh9=>?_,λ_=>rA x1⟩;simp only[aFZ]at h9;have hc:=h.call h9;obtain⟨q,hq⟩:=ae (l:=rs) (k:=x.bh.toNat) ab;obtain⟨p,t,b,c1,c2,c3,e0,e1,e2,e3,e4⟩:=(h.RE.le x1.le).fj.aE hq;exact⟨ab,ab,t,e1,(bW c2 i).any.ay (af.av m1) hl λb m2 x2 _=>⟨_,rfl,rA (x1.trans x2)⟩⟩
theorem jS{m:ah}{d r a k vars:Sl}{ds:List aS}{rs:List di}{x:bu}(h:At m d r a k ds rs x){v:List Int}(hv:aj m vars v)(hr:∀y∈x.args,0<=y/\y<(v.length:Int)){i:Nat}(hi:i<x.args.length):mC 234 [.agg #[Sl.v d,Sl.v r],Sl.v vars,mJ x a k,vi i] m:=by
 apply wU;simp -zeta only[aw,ax];intro m0 m1;obtain⟨x1,hl⟩:=cv (m1:=m0) (m2:=m1) rfl rfl;clear_value m1;have jK:=h.args.len;have Vl:=hv.len;obtain⟨y,hy⟩:=ae hi;have hry:=hr y (ak hy);obtain⟨z,hz⟩:=ae (l:=v) (k:=y.toNat) ab;refine(vR x.op m1).ay (af.av m1) hl λb m2 x2 _=>⟨_,rfl,λ_=>?_,λ_=>rA (x1.trans x2)⟩;have u2:=x1.trans x2;refine⟨ab,ab,y,(h.args.ext u2).aE hy,ab,ab,z,(hv.ext u2).aE hz,λ_=>?_,λ_=>rA u2⟩;exact(lC (h.le u2.le) i).ay x2 hl λb m3 x3 u3=>⟨_,rfl,rA (x1.trans u3)⟩
theorem Bc{m:ah}{d r a k:Sl}{ds:List aS}{rs:List di}{x:bu}(h:At m d r a k ds rs x){i:Nat}(hi:i<x.args.length):mC 266 [.agg #[Sl.v d,Sl.v r],mJ x a k,vi i] m:=by
 apply tX;simp -zeta only[aw,ax];intro m0 m1;obtain⟨x1,hl⟩:=cv (m1:=m0) (m2:=m1) rfl rfl;clear_value m1;have jK:=h.args.len;obtain⟨y,hy⟩:=ae hi;refine dg (n:=x.args.length) (jK▸h.args.eP) (λ_ m'=>af m1 m') (af.av _) ?_;rintro j m2 I μ hj x2 next
 have u2:=x1.trans x2;refine⟨λh1=>⟨λ_=>?_,λ_=>?_⟩,λ_=>rA u2⟩<;>simp only[aFP]at h1<;>have n:=next ab
 ·obtain⟨z,hz⟩:=ae (l:=x.args) (k:=j) ab;refine⟨ab,ab,z,(h.args.ext u2).aE hz,ab,ab,y,(h.args.ext u2).aE hy,λ_=>⟨λ_=>rA u2,λ_=>?_⟩,λ_=>n _ x2⟩;exact(lC (h.le u2.le) j).ay x2 hl λb m3 x3 u3=>⟨_,rfl,λ_=>rA (x1.trans u3),λ_=>n _ u3⟩
 ·exact n _ x2
theorem yU{m:ah}{d r a k owned dV:Sl}{ds:List aS}{rs:List di}{x:bu}(h:At m d r a k ds rs x){lo ll:List Int}(ho:aj m owned lo)(BP:aj m dV ll){i:Nat}(hi:i<x.args.length):mC 251 [.agg #[Sl.v d,Sl.v r],mJ x a k,vi i,Sl.v owned,Sl.v dV] m:=by
 apply CC;simp -zeta only[aw,ax];intro m0 m1;obtain⟨x1,hl⟩:=cv (m1:=m0) (m2:=m1) rfl rfl;clear_value m1;have jK:=h.args.len;obtain⟨y,hy⟩:=ae hi;refine⟨ab,ab,y,(h.args.ext x1).aE hy,?_⟩;refine(bW (BP.ext x1) y).any.ay (af.av m1) hl λb m2 x2 _=>⟨_,rfl,λ_=>rA (x1.trans x2),λ_=>?_⟩;have u2:=x1.trans x2;refine⟨ab,ab,y,(h.args.ext u2).aE hy,?_⟩;refine(bW (ho.ext u2) y).any.ay x2 hl λb m3 x3 u3=>⟨_,rfl,λ_=>rA (x1.trans u3),λ_=>?_⟩;exact(Bc (h.le (x1.trans u3).le) hi).ay u3 hl λb m4 x4 u4=>⟨_,rfl,rA (x1.trans u4)⟩
section
def ajo(b:Bk):Prop:=∀(S:List Nat)(m:ah),(∀c∈S,c<m.size)->∀(t list:Sl)(l:List Int)(n:Int)(k:Nat),cU m t b.ar->aj (aY S m) list l->k<=b.ar.length->l.length+b.w<=1000000000000->
 Eo 220 [.agg #[Sl.v t,vi b.aH],vi n,vi k,Sl.v list] m S λl'=>l'.length<=l.length+b.w
theorem _root_.Go.Vc.afa{σ:Type}{n a:Nat}(ha:a<=n)(hn:n<=9223372036854775807){m:ah}{s0:σ}{Body:(σ->Int->ah->Prop)->(σ->Int->ah->Nat)->σ->Int->ah->Prop}(Q:Nat->σ->ah->Prop)(h0:Q a s0 m)
 (h:∀(k:Nat)(s:σ)(m1:ah)(I:σ->Int->ah->Prop)(μ:σ->Int->ah->Nat),a<=k->k<=n->Q k s m1->
  (k<n->∀s' m',Q (k+1) s' m'->I s' (bS ((k:Int)+1)) m'/\μ s' (bS ((k:Int)+1)) m'<μ s k m1)->Body I μ s k m1):
 ∃(I:σ->Int->ah->Prop)(μ:σ->Int->ah->Nat),I s0 a m/\∀s i m1,I s i m1->Body I μ s i m1:=by
 refine⟨λs i m'=>∃k:Nat,i=k/\a<=k/\k<=n/\Q k s m',λ_ i _=>(n -i).toNat,⟨a,rfl,aFR _,ha,h0⟩,?_⟩
 rintro s i m1 ⟨k,rfl,hak,hk,hq⟩
 refine h k s m1 _ _ hak hk hq λcA s' m' zB=>?_
 rw[iG cA hn]
 exact⟨⟨k+1,rfl,ab,cA,zB⟩,Bw cA⟩
theorem CO{S:List Nat}{m:ah}(hS:∀c∈S,c<m.size){a k list:Sl}{l:List Int}{x:bu}(n:Int)(ha:aj m a x.args)(hk:lA m k x.aW)(hl:aj (aY S m) list l)(hb:l.length+x.w<=1000000000000)(ih:∀b∈x.aW,ajo b):
 Eo 250 [mJ x a k,vi n,Sl.v list] m S λl'=>l'.length<=l.length+x.w:=by
 apply vu
 simp -zeta only[aw,ax]
 intro m1
 have x1:af m m1:=af.push _ _
 have QC:∀b∈[m.size],b<m1.size:=by simp[m1]
 clear_value m1
 have jK:=ha.len
 have jk:=hk.len
 have hw:=bu.jD x
 have H:∀{m':ah},af m1 m'->∀c∈S,c<m'.size:=λh c hc=>aFY (hS c hc) (x1.trans h).size
 refine(qO x.op m1).any.ay (af.av m1) QC λb m2 x2 _=>⟨_,rfl,λ_=>⟨_,_,rfl,hl.le ((x1.trans x2).bO S),ab,x1.trans x2⟩,λ_=>?_⟩
 refine cN (n:=x.args.length) (jK▸ha.eP) (λj s m'=>af m1 m'/\∃l',aj (aY S m') s l'/\l'.length<=l.length+j) ⟨x2,l,hl.le ((x1.trans x2).bO S),aFR _⟩ ?_
 rintro j s m3 I μ hj ⟨x3,l',g,hc⟩ next
 have u3:=x1.trans x3
 refine⟨λh=>?_,λh=>?_⟩
 ·simp only[aFP]at h
  obtain⟨y,hy⟩:=ae (l:=x.args) (k:=j) ab
  have g1:=(ha.ext u3).aE hy
  refine⟨ab,ab,y,g1,λ_=>⟨ab,ab,y,g1,λ_=>⟨ab,ab,y,g1,?_⟩,λ_=>next ab _ _ ⟨x3,l',g,ab⟩⟩,λ_=>next ab _ _ ⟨x3,l',g,ab⟩⟩
  exact(jH (H x3) g y ab).ay x3 QC λr l2 m4 g2 q x4 u4=>⟨_,rfl,next ab _ _ ⟨u4,l2,g2.done (H x3) (by have:=q.2;omega),by have:=q.2;omega⟩⟩
 ·simp only[aFQ]at h
  refine cN (n:=x.aW.length) (jk▸hk.eP) (λi s m'=>af m1 m'/\∃l',aj (aY S m') s l'/\l'.length<=l.length+x.args.length+bw (x.aW.take i)) ⟨x3,l',g,bg⟩ ?_
  rintro i s2 m4 I2 μ2 hi ⟨x4,l2,g2,ME⟩ eN
  have u4:=x1.trans x4
  have NF:=J3 x.aW
  refine⟨λh=>?_,λh=>⟨_,_,rfl,g2,by have:=NF i;omega,u4⟩⟩
  simp only[aFP]at h
  obtain⟨b,Ji⟩:=ae (l:=x.aW) (k:=i) ab
  obtain⟨t,ht,e0,e1⟩:=(hk.le u4.le).aE Ji
  have nH:=sJ Ji
  refine⟨ab,ab,_,e0,_,e1,?_⟩
  exact(ih b (ak Ji) S m4 (H x4) t s2 l2 n 0 ht g2 (aGq _) (by have:=NF (i+1);omega)).ay x4 QC λr l3 m5 g3 q x5 u5=>⟨_,rfl,eN ab _ _ ⟨u5,l3,g3,ab⟩⟩
theorem yV:∀b:Bk,ajo b:=by
 refine Bk.ind ?_;intro ar kV ih S m hS t list l n k0 hs hl hk0 hb;simp only[Bk.gH,Bk.fH,Bk.nV]at*;apply Cx;simp -zeta only[aw,ax];intro m1;have x1:af m m1:=af.push _ _;have QC:∀b∈[m.size],b<m1.size:=by simp[m1]
 clear_value m1;have kQ:=hs.len;have H:∀{m':ah},af m1 m'->∀c∈S,c<m'.size:=λh c hc=>aFY (hS c hc) (x1.trans h).size;refine afa (n:=ar.length) hk0 (kQ▸hs.eP) (λj s m'=>af m1 m'/\∃l',aj (aY S m') s l'/\l'.length<=l.length+sw (ar.take j)) ⟨af.av _,l,hl.le (x1.bO S),ab⟩ ?_;rintro j s m2 I μ _ hj ⟨x2,l',g,hc⟩ next
 have u2:=x1.trans x2;have Jj:=yP ar;refine⟨λh=>?_,λh=>?_⟩
 ·simp only[aFP]at h;obtain⟨x,hx⟩:=ae (l:=ar) (k:=j) ab;obtain⟨a,kk,ha,oO,g0,g1,g2,g3,g4⟩:=(hs.le u2.le).aE hx;have Ua:=nh hx;refine⟨ab,ab,_,g0,_,g1,_,g2,_,g3,_,g4,?_⟩;exact(CO (H x2) n ha oO g (by have:=Jj (j+1);omega) (ih x (ak hx))).ay x2 QC λr l2 m3 g5 q x3 u3=>⟨_,rfl,next ab _ _ ⟨u3,l2,g5,ab⟩⟩
 ·have h5:=Jj j;have ret:∃s0 l0,Sl.v s=Sl.v s0/\aj (aY S m2) s0 l0/\l0.length<=l.length+(1+sw ar)/\af m m2:=⟨_,_,rfl,g,ab,u2⟩;refine⟨λ_=>⟨λ_=>?_,λ_=>ret⟩,λ_=>ret⟩;exact(jH (H x2) g kV ab).ay x2 QC λr l2 m4 g2 q x4 u4=>⟨_,rfl,_,_,rfl,g2.done (H x2) (by have:=q.2;omega),by have:=q.2;omega,x1.trans u4⟩
theorem Bz{S:List Nat}{m:ah}(hS:∀c∈S,c<m.size){t:Sl}{b:Bk}(hs:cU m t b.ar)(n:Int)(hb:b.w<=1000000000000):Eo 185 [.agg #[Sl.v t,vi b.aH],vi n] m S λl'=>l'.length<=b.w:=by
 apply Ec;simp -zeta only[aw,ax];intro m0 m1;obtain⟨x1,hl⟩:=cv (m1:=m0) (m2:=m1) rfl rfl;have g:aj (aY S m1) (.mk m0.size 0 0 0) []:=⟨rfl,aFR _,az,az⟩;clear_value m1;exact(yV b S m1 (λc hc=>x1.lt (hS c hc)) t _ _ n 0 (hs.le x1.le) g (aGq _) (by simpa using hb)).ay (af.av m1) (λb hb=>hl b (by simp at hb⊢;exact Or.inr hb)) λr l' m2 g2 q x2 _=>⟨_,rfl,_,_,rfl,g2,by simpa using q,x1.trans x2⟩
section
variable{S:List Nat}{m:ah}(hS:∀c∈S,c<m.size){d r a k vars owned dV:Sl}{ds:List aS}{rs:List di}{x:bu}(h:At m d r a k ds rs x){v lo ll:List Int}(hv:aj m vars v)(hr:∀y∈x.args,0<=y/\y<(v.length:Int))(ho:aj m owned lo)(ly:aj m dV ll)
include hS h hv hr
theorem wZ(hb:x.args.length<=1000000000000):iV 189 [.agg #[Sl.v d,Sl.v r],Sl.v vars,mJ x a k] m S (ng x.args):=by
 apply rX;simp -zeta only[aw,ax];intro m0 m1 m2;obtain⟨x1,hl⟩:=cv (m1:=m0) (m2:=m1) rfl rfl;clear_value m1;have jK:=h.args.len;refine cN (n:=x.args.length) (jK▸h.args.eP) (λj s m'=>af m1 m'/\∃l',GI S m1 m' s l'/\(∀y∈l',y∈x.args)/\l'.length<=j) ⟨af.push _ _,[],GI.nil S m1,az,aFR _⟩ ?_;rintro j s m3 I μ hj ⟨x3,l',g,hn,hc⟩ next
 have u3:=x1.trans x3;refine⟨λh1=>?_,λh1=>?_⟩
 ·simp only[aFP]at h1;obtain⟨y,hy⟩:=ae (l:=x.args) (k:=j) ab;refine(jS (h.le u3.le) (hv.ext u3) hr (i:=j) ab).ay x3 hl λb m4 x4 u4=>⟨_,rfl,λ_=>⟨ab,ab,y,(h.args.ext (x1.trans u4)).aE hy,?_⟩,λ_=>next ab _ _ ⟨u4,l',g.ext x4,hn,ab⟩⟩;intro m5;exact GI.iN (g.ext x4) (u4.fz []) (λc hc=>x1.lt (hS c hc)) ab λr m6 g2 f _ _=>⟨af.me (u4.aC _) f.ext hl,next ab _ _ ⟨f.ext,_,g2,my hn (ak hy),bg⟩⟩
 ·simp only[aFQ]at h1;exact⟨s,l',rfl,g.bN (λ_ h=>h) x1.size,⟨hn,ab⟩,u3⟩
include ho ly
theorem Eu(hb:x.args.length<=1000000000000):iV 222 [.agg #[Sl.v d,Sl.v r],Sl.v vars,mJ x a k,Sl.v owned,Sl.v dV] m S (ng x.args):=by
 apply wT;simp -zeta only[aw,ax];intro m0 m1 m2;obtain⟨x1,hl⟩:=cv (m1:=m0) (m2:=m1) rfl rfl;clear_value m1;have jK:=h.args.len;refine cN (n:=x.args.length) (jK▸h.args.eP) (λj s m'=>af m1 m'/\∃l',GI S m1 m' s l'/\(∀y∈l',y∈x.args)/\l'.length<=j) ⟨af.push _ _,[],GI.nil S m1,az,aFR _⟩ ?_;rintro j s m3 I μ hj ⟨x3,l',g,hn,hc⟩ next
 have u3:=x1.trans x3;refine⟨λh1=>?_,λh1=>?_⟩
 ·simp only[aFP]at h1;obtain⟨y,hy⟩:=ae (l:=x.args) (k:=j) ab;refine(jS (h.le u3.le) (hv.ext u3) hr (i:=j) ab).ay x3 hl λb m4 x4 u4=>⟨_,rfl,λ_=>?_,λ_=>next ab _ _ ⟨u4,l',g.ext x4,hn,ab⟩⟩;have v4:=x1.trans u4;refine(yU (h.le v4.le) (ho.ext v4) (ly.ext v4) (i:=j) ab).ay u4 hl λb m5 x5 u5=>⟨_,rfl,λ_=>⟨ab,ab,y,(h.args.ext (x1.trans u5)).aE hy,?_⟩,λ_=>next ab _ _ ⟨u5,l',(g.ext x4).ext x5,hn,ab⟩⟩;intro m6;exact GI.iN ((g.ext x4).ext x5) (u5.fz []) (λc hc=>x1.lt (hS c hc)) ab λr m6 g2 f _ _=>⟨af.me (u5.aC _) f.ext hl,next ab _ _ ⟨f.ext,_,g2,my hn (ak hy),bg⟩⟩
 ·simp only[aFQ]at h1;exact⟨s,l',rfl,g.bN (λ_ h=>h) x1.size,⟨hn,ab⟩,u3⟩
theorem Gq(hb:lo.length<=1000000000000):iV 224 [.agg #[Sl.v d,Sl.v r],Sl.v vars,mJ x a k,Sl.v owned,Sl.v dV] m S (ng lo):=by
 apply yG;simp -zeta only[aw,ax];intro m0 m1;obtain⟨x1,hl⟩:=cv (m1:=m0) (m2:=m1) rfl rfl;clear_value m1;have jK:=h.args.len;have H:∀{m':ah},af m1 m'->∀c∈S,c<m'.size:=λh c hc=>aFY (hS c hc) (x1.trans h).size;have X:aD Tryz.prog 253 [Sl.v owned,Sl.v dV] m1 λv m'=>da [m0.size,m.size] m1 m'/\∃r23:Sl,v=Sl.v r23/\∃s l,Sl.v r23=Sl.v s/\GI S m m' s l/\ng lo l/\af m m':=by
  refine(Mf (S:=[]) az (ho.le (x1.le.trans (yS _))) (ly.le (x1.le.trans (yS _))) hb).ay (af.av m1) hl λs l' m2 g q x2 _=>⟨_,rfl,s,l',rfl,?_,q,x1.trans x2⟩;obtain⟨g0,css,g1,g2⟩:=g;exact⟨g0,css,g1.bN x1.size,g2.mono λ_ _ h=>h⟩
 refine⟨λ_=>X,λ_=>⟨λ_=>X,λ_=>?_⟩⟩;refine(jC (S:=[]) az (ho.le (x1.le.trans (yS _))) hb).ay (af.av m1) hl λs0 _ m2 g0 e x2 _=>⟨_,rfl,?_⟩;subst e;refine cN (n:=x.args.length) (jK▸h.args.eP) (λj s m'=>af m1 m'/\∃l',GI S m m' s l'/\ng lo l') ⟨x2,lo,?_,λ_ h=>h,aFR _⟩ ?_
 ·obtain⟨g0,css,g1,g2⟩:=g0;exact⟨g0,css,g1.bN x1.size,g2.mono λ_ _ h=>h⟩
 rintro j s m3 I μ hj ⟨x3,l',g,hn⟩ next
 have u3:=x1.trans x3;refine⟨λh1=>?_,λh1=>⟨s,l',rfl,g,hn,u3⟩⟩;simp only[aFP]at h1;obtain⟨y,hy⟩:=ae (l:=x.args) (k:=j) ab;refine(jS (h.le u3.le) (hv.ext u3) hr (i:=j) ab).ay x3 hl λb m4 x4 u4=>⟨_,rfl,λ_=>?_,λ_=>next ab _ _ ⟨u4,l',g.ext x4,hn⟩⟩;have v4:=x1.trans u4;refine(yU (h.le v4.le) (ho.ext v4) (ly.ext v4) (i:=j) ab).ay u4 hl λb m5 x5 u5=>⟨_,rfl,λ_=>⟨ab,ab,y,(h.args.ext (x1.trans u5)).aE hy,?_⟩,λ_=>next ab _ _ ⟨u5,l',(g.ext x4).ext x5,hn⟩⟩;refine(yN (S:=S) (H u5) (((g.ext x4).ext x5).done hS (by have:=hn.2;omega)) y (by have:=hn.2;omega)).ay u5 hl λr l2 m6 g2 q x6 u6=>⟨_,rfl,next ab _ _ ⟨u6,l2,g2.bN (λ_ h=>h) (x1.trans u5).size,λz hz=>hn.1 z (q.1 z hz),aF8 q.2 hn.2⟩⟩
omit hv hr
theorem Gs(hb:x.args.length<1000000000000):iV 225 [.agg #[Sl.v d,Sl.v r],mJ x a k,Sl.v owned,Sl.v dV] m S (ng x.args):=by
 apply yH;simp -zeta only[aw,ax];intro m0 m1 m2;obtain⟨x1,hl⟩:=cv (m1:=m0) (m2:=m1) rfl rfl;clear_value m1;have jK:=h.args.len;have H:∀{m':ah},af m1 m'->∀c∈S,c<m'.size:=λh c hc=>aFY (hS c hc) (x1.trans h).size;refine cN (n:=x.args.length) (jK▸h.args.eP) (λj s m'=>af m1 m'/\∃l',GI S m1 m' s l'/\(∀y∈l',y∈x.args)/\l'.length<=j) ⟨af.push _ _,[],GI.nil S m1,az,aFR _⟩ ?_;rintro j s m3 I μ hj ⟨x3,l',g,hn,hc⟩ next
 have u3:=x1.trans x3;refine⟨λh1=>?_,λh1=>?_⟩
 ·simp only[aFP]at h1;obtain⟨y,hy⟩:=ae (l:=x.args) (k:=j) ab;refine(lC (h.le u3.le) j).ay x3 hl λb m4 x4 u4=>⟨_,rfl,λ_=>⟨ab,ab,y,(h.args.ext (x1.trans u4)).aE hy,?_⟩,λ_=>next ab _ _ ⟨u4,l',g.ext x4,hn,ab⟩⟩;refine(bW (ho.ext (x1.trans u4)) y).any.ay u4 hl λb m5 x5 u5=>⟨_,rfl,λ_=>⟨ab,ab,y,(h.args.ext (x1.trans u5)).aE hy,?_⟩,λ_=>next ab _ _ ⟨u5,l',(g.ext x4).ext x5,hn,ab⟩⟩;refine(bW (ly.ext (x1.trans u5)) y).any.ay u5 hl λb m6 x6 u6=>⟨_,rfl,λ_=>⟨ab,ab,y,(h.args.ext (x1.trans u6)).aE hy,?_⟩,λ_=>next ab _ _ ⟨u6,l',((g.ext x4).ext x5).ext x6,hn,ab⟩⟩;refine(jH (H u6) ((((g.ext x4).ext x5).ext x6).done (λc hc=>x1.lt (hS c hc)) ab) y ab).ay u6 hl λr l2 m7 g2 q x7 u7=>⟨_,rfl,next ab _ _ ⟨u7,l2,g2.bN (λ_ h=>h) u6.size,λz hz=>?_,by have:=q.2;omega⟩⟩;rcases q.1 z hz with h2|h2
  ·exact hn z h2
  ·subst h2;exact ak hy
 ·simp only[aFQ]at h1;exact⟨s,l',rfl,g.bN (λ_ h=>h) x1.size,⟨hn,ab⟩,u3⟩
end
end
theorem nX{m:ah}{o1 o2 o3:Obj}{m1 m2 m3:ah}(h1:m1=m.push o1)(h2:m2=m1.push o2)(h3:m3=m2.push o3):af m m3/\(∀b∈[m2.size,m1.size,m.size],b<m3.size)/\m1.size=m.size+1/\m2.size=m.size+2/\m3.size=m.size+3:=by
 subst h1 h2 h3;exact⟨((af.push _ _).trans (af.push _ _)).trans (af.push _ _),bg,az,az,az⟩
theorem GI.UO{S S' X:List Nat}{m0 m1 m:ah}{s s':Sl}{l l':List Int}{a:Int}{K:Sl->ah->Prop}(h:GI S m0 m s l)(h':GI S' m1 m s' l')(cx:s.ao≠s'.ao)(hf:Fz X m0 m)(hb:l.length<=1000000000000)
 (hk:∀r m',GI S m0 m' r (l++[a])->GI S' m1 m' s' l'->r.ao≠s'.ao->Fz X m0 m'->K r m'):gA (m.push (.cells (aU [.i a]) au)) au [.i 0] 8 s (.mk m.size 0 1 1) K:=by
 have hy:=h'.aN
 refine Gr.iN (zs:=[.i 0]) rP.mono aO h hf rfl ab λr m' g f z q=>hk r m' g (h'.fK (q _ hy.2 (aHh cx))) ?_ f
 rcases z.2 with e|e
 ·rw[e];exact cx
 ·omega
theorem GI.any{S S':List Nat}{m0 m:ah}{s:Sl}{l:List Int}(h:GI S m0 m s l):GI S' m0 m s l:=by
 obtain⟨h0,css,h1,h2⟩:=h;exact⟨h0,css,h1,h2.mono λ_ _ h=>h⟩
def de(op v:Int):bu:=⟨op,0,0,[v],[]⟩
abbrev GS(S:List Nat)(m0 m:ah)(s:Sl)(l:List bu):Prop:=Gr S m0 m dQ 5 eu s l
theorem GS.new(S:List Nat)(m:ah):GS S m (m.push (.cells (aU []) dQ)) (.mk m.size 0 0 0) []:=Gr.new S (aFR _) _ _ _
theorem GS.iN{S X:List Nat}{m0 m:ah}{s a k:Sl}{l:List bu}{x:bu}{K:Sl->ah->Prop}(h:GS S m0 m s l)(hf:Fz X m0 m)(ha:aj (aY (s.ao::S) m) a x.args)(hk:lA (aY (s.ao::S) m) k x.aW)(hb:l.length<=1000000000000)
 (hK:∀r m',GS S m0 m' r (l++[x])->Fz X m0 m'->m.size<=m'.size/\(r.ao=s.ao\/m.size<=r.ao)->(∀b,b<m.size->b≠s.ao->m'[b]? =m[b]?)->K r m'):
 gA (m.push (.cells (aU [.i x.op,.i x.bh,.i x.bA,.s a,.s k]) dQ)) dQ [.i 0,.i 0,.i 0,.s .nil,.s .nil] 72 s (.mk m.size 0 1 1) K:=
 Gr.iN (zs:=[.i 0,.i 0,.i 0,.s .nil,.s .nil]) eu.mono aO h hf ⟨a,k,rfl,ha,hk⟩ ab hK
theorem GS.all{S X:List Nat}{m0 m:ah}{s x:Sl}{l l':List bu}{K:Sl->ah->Prop}(h:GS S m0 m s l)(hf:Fz X m0 m)(hx:cU (aY (s.ao::S) m) x l')(hb:l.length+l'.length<=1000000000000)
 (hK:∀r m',GS S m0 m' r (l++l')->Fz X m0 m'->m.size<=m'.size/\(r.ao=s.ao\/m.size<=r.ao)->(∀b,b<m.size->b≠s.ao->m'[b]? =m[b]?)->K r m'):
 gA m dQ [.i 0,.i 0,.i 0,.s .nil,.s .nil] 72 s x K:=
 Gr.all (zs:=[.i 0,.i 0,.i 0,.s .nil,.s .nil]) eu.mono aO h hf hx ab hK
theorem jM{α:Type}(m:ah)(sz:Nat)(R:List Ce->α->Prop)(b o c:Nat):cY m sz R (.mk b o 0 c) []:=⟨rfl,aGq _,az,az⟩
theorem fA{S:List Nat}{m:ah}(hS:∀c∈S,c<m.size)(op v:Int):aD Tryz.prog 125 [vi op,vi v] m λr m'=>∃a k,r=mJ (de op v) a k/\aj (aY S m') a [v]/\lA (aY S m') k []/\af m m':=by
 apply Ar;simp -zeta only[aw,ax];intro m1 m2 m3 m4;have x1:af m m1:=af.push _ _;have x2:af m1 m2:=af.push _ _;have x3:af m2 m3:=af.push _ _;have s1:m1.size=m.size+1:=by simp[m1]
 have hx:af m m4:=((x1.trans x2).trans x3).ag (aFR _) _ _;refine⟨_,_,rfl,?_,jM _ _ _ _ _ _,hx⟩;have h1:aj (aY (m.size::S) m2) (.mk m1.size 0 1 1) [v]:=aj.lit au [v] (λb hb=>by
  rcases List.mem_cons.1 hb with h|h
  ·omega
  ·have:=hS b h;omega) rfl rfl az
 exact(h1.le (x3.bO _)).le (bt aF3 λc hc=>aFT _ hc)
def Tn(f:Nat)(args:List Value)(m:ah)(S:List Nat)(Q:List bu->Prop):Prop:=aD Tryz.prog f args m λv m'=>∃s l,v=Sl.v s/\GS S m m' s l/\Q l/\af m m'
theorem Tn.ay{f:Nat}{args:List Value}{a m:ah}{K:Value->ah->Prop}{l:List Nat}{S:List Nat}{Q:List bu->Prop}(h:Tn f args m S Q)(hx:af a m)(hl:∀b∈l,b<a.size)(hk:∀s l' m',GS S m m' s l'->Q l'->af m m'->af a m'->K (Sl.v s) m'):aD Tryz.prog f args m λv m'=>da l m m'/\K v m':=
 h.mono λ_ m'⟨s,l',e,h1,q,h3⟩=>⟨h3.cg λb hb=>hx.lt (hl b hb),e▸hk s l' m' h1 q h3 (hx.trans h3)⟩
theorem cZ{S:List Nat}{m:ah}(hS:∀c∈S,c<m.size)(op:Int){list:Sl}{l:List Int}(hl:aj m list l)(hb:l.length<=1000000000000):Tn 187 [vi op,Sl.v list] m S (l.map (de op)=·):=by
 apply yC;intro m1;have ly:=hl.len;refine cN (n:=l.length) (ly▸hl.eP) (λk s m'=>af m m'/\GS S m m' s ((l.take k).map (de op))) ⟨af.push m _,by simpa using GS.new S m⟩ ?_;rintro k s m2 I μ hk ⟨hx,hg⟩ next
 refine⟨λh=>?_,λh=>?_⟩
 ·simp only[aFP]at h;obtain⟨x,dF⟩:=ae (l:=l) (k:=k) ab;refine⟨ab,ab,x,(hl.ext hx).aE dF,?_⟩;refine(fA (S:=s.ao::S) (λc hc=>?_) op x).mono λv m3⟨a,kk,e,h1,h2,x3⟩=>?_
  ·have:=hg.aN;rcases List.mem_cons.1 hc with h|h
   ·omega
   ·exact hx.lt (hS c h)
  subst e;refine⟨_,_,_,_,_,rfl,?_⟩;intro m4;refine GS.iN (x:=de op x) (hg.ext eu.mono x3) ((hx.trans x3).fz []) h1 h2 bg λr m5 g f z q=>next ab _ _ ⟨f.ext,?_⟩
  rw[bn dF,aGz];exact g
 ·simp only[aFQ]at h;rw[bL ab]at hg;exact⟨s,_,rfl,hg,rfl,hx⟩
theorem mf(op:Int):∀l:List Int,sw (l.map (de op))=2*l.length
 |[]=>rfl
 |v::l=>by rw[aGf,jR,mf op l,bu.jD];simp[de];omega
theorem gS{op:Int}(h:14<=op):∀l:List Int,dc (l.map (de op))=0
 |[]=>rfl
 |v::l=>by
  rw[aGf,iH,gS h l];unfold dn;rw[aFS (λh2:nj (de op v).op=>by have:=h2.2;simp only[de]at this;omega)]
theorem CP{ds:List aS}{nr:Nat}{a:Nat}{op v:Int}(h:14<=op/\op<=17)(hv:0<=v/\v<(a:Int)):WS ds nr True a (de op v):=
 ⟨⟨Or.inr ⟨trivial,h⟩,λx hx=>by simp[de]at hx;subst hx;exact hv,λ_=>rfl,by simp[de],λh2=>by simp only[de]at h2;omega,λh2=>by simp only[de]at h2;omega,λh2=>by simp only[de]at h2;omega⟩,λk b hb=>by simp[de]at hb⟩
theorem pF{ds:List aS}{nr:Nat}{a:Nat}{op:Int}(h:14<=op/\op<=17){l:List Int}(hl:∀v∈l,0<=v/\v<(a:Int)):WL ds nr True a (l.map (de op)):=λi s hs=>by
 rw[aGb,aGN]at hs;obtain⟨v,hv,rfl⟩:=hs;rw[<-aHY,gS h.1];exact CP h (hl v (ak hv))
def k8(f:Nat)(args:List Value)(m:ah)(S:List Nat)(Q:Bk->Prop):Prop:=aD Tryz.prog f args m λv m'=>∃s b,v=.agg #[Sl.v s,vi b.aH]/\cU (aY S m') s b.ar/\Q b/\af m m'
theorem k8.ay{f:Nat}{args:List Value}{a m:ah}{K:Value->ah->Prop}{l:List Nat}{S:List Nat}{Q:Bk->Prop}(h:k8 f args m S Q)(hx:af a m)(hl:∀b∈l,b<a.size)(hk:∀s b m',cU (aY S m') s b.ar->Q b->af m m'->af a m'->K (.agg #[Sl.v s,vi b.aH]) m'):aD Tryz.prog f args m λv m'=>da l m m'/\K v m':=
 h.mono λ_ m'⟨s,b,e,h1,q,h3⟩=>⟨h3.cg λc hc=>hx.lt (hl c hc),e▸hk s b m' h1 q h3 (hx.trans h3)⟩
def J8(f:Nat)(args:List Value)(m:ah)(S:List Nat)(Q:bu->Prop):Prop:=aD Tryz.prog f args m λv m'=>∃a k x,v=mJ x a k/\aj (aY S m') a x.args/\lA (aY S m') k x.aW/\Q x/\af m m'
theorem J8.ay{f:Nat}{args:List Value}{a m:ah}{K:Value->ah->Prop}{l:List Nat}{S:List Nat}{Q:bu->Prop}(h:J8 f args m S Q)(hx:af a m)(hl:∀b∈l,b<a.size)(hk:∀p k x m',aj (aY S m') p x.args->lA (aY S m') k x.aW->Q x->af m m'->af a m'->K (mJ x p k) m'):aD Tryz.prog f args m λv m'=>da l m m'/\K v m':=
 h.mono λ_ m'⟨p,k,x,e,h1,h2,q,h3⟩=>⟨h3.cg λc hc=>hx.lt (hl c hc),e▸hk p k x m' h1 h2 q h3 (hx.trans h3)⟩
theorem bd{S:List Nat}{m m':ah}(hS:∀c∈S,c<m.size)(hx:m.size<=m'.size){b:Nat}(hb:b<m'.size):∀c∈b::S,c<m'.size:=λc hc=>by
 rcases List.mem_cons.1 hc with h|h
 ·omega
 ·have:=hS c h;omega
structure aoT(ds:List aS)(nr:Nat)(v lo la:List Int)(b:Bk):Prop where
 aL:∀o∈lo,0<=o/\o<(v.length:Int)
 lo5:lo.length+5*b.w<=500
 laN:la.length+1000*b.w<=1000000
 vN:v.length+5*b.w<=1000000
 wb:WB ds nr False v.length b
def afb(ds:List aS)(rs:List di)(b:Bk):Prop:=∀(S:List Nat)(m:ah),(∀c∈S,c<m.size)->∀(d r vars t owned after:Sl)(v lo la:List Int),cR m d r ds rs->aj m vars v->cU m t b.ar->aj m owned lo->aj m after la->aoT ds rs.length v lo la b->
 k8 186 [.agg #[Sl.v d,Sl.v r],Sl.v vars,.agg #[Sl.v t,vi b.aH],Sl.v owned,Sl.v after] m S λb'=>WB ds rs.length True v.length b'/\b'.w+1050<=1100*b.w
structure aoU(ds:List aS)(nr:Nat)(v fl lo la:List Int)(b:Bk):Prop where
 aL:∀o∈lo,0<=o/\o<(v.length:Int)
 fl3:fl.length<=3
 lo5:lo.length+3+5*b.w<=500
 laN:la.length+1000*b.w<=1000000
 vN:v.length+3+5*b.w<=1000000
 wb:WB ds nr False (v.length+fl.length) b
theorem IE{S:List Nat}{m:ah}(hS:∀c∈S,c<m.size){d r vars aB t owned dV:Sl}{ds:List aS}{rs:List di}{v fl lo la:List Int}{b:Bk}(hn:cR m d r ds rs)(hv:aj m vars v)(hf:aj m aB fl)(hs:cU m t b.ar)(ho:aj m owned lo)(hla:aj m dV la)
 (hp:aoU ds rs.length v fl lo la b)(ih:afb ds rs b):k8 252 [.agg #[Sl.v d,Sl.v r],Sl.v vars,Sl.v aB,.agg #[Sl.v t,vi b.aH],Sl.v owned,Sl.v dV] m S λb'=>WB ds rs.length True (v.length+fl.length) b'/\b'.w<=1100*b.w:=by
 apply AU
 simp -zeta only[aw,ax]
 intro m0 m1 m2
 obtain⟨x2,hl,s0,s1,s2⟩:=nX (m1:=m0) (m2:=m1) (m3:=m2) rfl rfl rfl
 clear_value m2
 have Vl:=hv.len;have gL:=hf.len;have If:=ho.len;have hf3:=hp.fl3;have NF:=b.Ep;have Dz:=hp.lo5;have hvN:=hp.vN;have ax6:=hp.laN
 refine(cS (S:=[]) az (hv.le (x2.le.trans (yS _))) (hf.le (x2.le.trans (yS _))) ab).ay (af.av m2) hl λjP _ m3 gi e x3 _=>⟨_,rfl,?_⟩
 subst e
 refine(Bz (S:=[]) az (hs.le (x2.trans x3).le) _ ab).ay x3 hl λused ul m4 hu hul x4 u4=>⟨_,rfl,?_⟩
 intro m5 m6
 have hu0:aj m4 used ul:=hu.le (aV _ _)
 have x46:af m4 m6:=(af.push m4 _).trans (af.push m5 _)
 have u6:=u4.trans x46
 have s5:m5.size=m4.size+1:=by simp[m5]
 have gm:GI S m4 m6 (.mk m4.size 0 0 0) []:=(GI.nil S m4).ext (af.push m5 _)
 have gd:GI S m4 m6 (.mk m5.size 0 0 0) []:=(GI.nil S m5).bN (λ_ h=>h) ab
 clear_value m6
 have z4:=u4.size
 refine vw (n:=lo.length) (If▸ho.eP) (λk sm sd M=>af m4 M/\∃lm ld,GI S m4 M sm lm/\GI S m4 M sd ld/\sm.ao≠sd.ao/\(∀o∈lm,o∈lo)/\(∀o∈ld,o∈lo)/\lm.length<=k/\ld.length<=k) ⟨x46,[],[],gm,gd,bg,az,az,aFR _,aFR _⟩ ?_
 rintro k sm sd m7 I μ hk ⟨x7,lm,ld,gm,gd,cx,VP,hld,cm,cd⟩ next
 have u7:=u4.trans x7
 have v7:=x2.trans u7
 refine⟨λh=>?_,λh=>?_⟩
 ·simp only[aFP]at h
  obtain⟨y,hy⟩:=ae (l:=lo) (k:=k) ab
  have hyl:=ak hy
  have A:∀M,af m7 M->gA (M.push (.cells (aU [.i y]) au)) au [.i 0] 8 sm (.mk M.size 0 1 1) λr60 m'=>da [m1.size,m0.size,m.size] (M.push (.cells (aU [.i y]) au)) m'/\I r60 sd (bS ((k:Int)+1)) m'/\μ r60 sd (bS ((k:Int)+1)) m'<μ sm sd k m7:=λM x=>
   GI.UO (gm.ext x) (gd.ext x) cx ((x7.trans x).fz []) ab λr m' g g' n f=>⟨af.me ((u7.trans x).aC _) (u4.trans f.ext) hl,next ab _ _ _ ⟨f.ext,_,_,g,g',n,my VP hyl,hld,bg,ab⟩⟩
  refine⟨ab,ab,y,(ho.ext v7).aE hy,?_⟩
  refine(bW (hu0.ext x7) y).any.ay u7 hl λc m8 x8 u8=>⟨_,rfl,λ_=>⟨ab,ab,y,(ho.ext (x2.trans u8)).aE hy,A m8 x8⟩,λ_=>⟨ab,ab,y,(ho.ext (x2.trans u8)).aE hy,?_⟩⟩
  refine(bW (hla.ext (x2.trans u8)) y).any.ay u8 hl λc m9 x9 u9=>⟨_,rfl,λ_=>⟨ab,ab,y,(ho.ext (x2.trans u9)).aE hy,A m9 (x8.trans x9)⟩,λ_=>⟨ab,ab,y,(ho.ext (x2.trans u9)).aE hy,?_⟩⟩
  intro cK
  have x:=x8.trans x9
  exact GI.UO (gd.ext x) (gm.ext x) cx.symm ((x7.trans x).fz []) ab λr m' g g' n f=>⟨af.me ((u7.trans x).aC _) (u4.trans f.ext) hl,next ab _ _ _ ⟨f.ext,_,_,g',g,n.symm,VP,my hld hyl,ab,bg⟩⟩
 simp only[aFQ]at h
 have cm:lm.length<=lo.length:=ab
 have cd:ld.length<=lo.length:=ab
 intro m8
 have hmb:=gm.aN
 have hdb:=gd.aN
 refine cN (n:=fl.length) (gL▸hf.eP) (λk s M=>af m7 M/\∃l,GI S m7 M s l/\(∀o∈l,0<=o/\o<((v.length+fl.length:Nat):Int))/\l.length<=k) ⟨af.push _ _,[],GI.nil S m7,az,aFR _⟩ ?_
 rintro j su m9 I2 μ2 hj ⟨x9,lu,gu,hlu,cu⟩ eN
 have u9:=u7.trans x9
 have v9:=x2.trans u9
 refine⟨λh2=>?_,λh2=>?_⟩
 ·simp only[aFP]at h2
  obtain⟨y,hy⟩:=ae (l:=fl) (k:=j) ab
  refine⟨ab,ab,y,(hf.ext v9).aE hy,λ_=>?_,λ_=>eN ab _ _ ⟨x9,lu,gu,hlu,ab⟩⟩
  rw[aF (x:=(vars.len:Int)+j) ab ab]
  refine(bW ((hu0.ext x7).ext x9) _).any.ay u9 hl λc cK cO xu=>⟨_,rfl,λ_=>?_,λ_=>eN ab _ _ ⟨x9.trans cO,lu,gu.ext cO,hlu,ab⟩⟩
  intro dm
  refine GI.iN (gu.ext cO) ((x9.trans cO).fz []) (λc hc=>aFY (hS c hc) (x2.trans u7).size) ab λr m' g f z q=>⟨af.me ((u9.trans cO).aC _) (u7.trans f.ext) hl,eN ab _ _ ⟨f.ext,_,g,λo ho=>?_,bg⟩⟩
  rcases List.mem_append.1 ho with ho|ho
  ·exact hlu o ho
  ·simp at ho;omega
 simp only[aFQ]at h2
 have hub:=gu.aN
 have gm9:=gm.ext x9
 have xk:∀{M:ah},af m2 M->∀c∈m1.size::S,c<M.size:=λh=>bd hS (x2.trans h).size (h.lt (hl _ az))
 have lG:∀{M:ah},af m2 M->sm.ao<M.size->∀c∈sm.ao::m1.size::S,c<M.size:=λh hb c hc=>by
  rcases List.mem_cons.1 hc with e|e
  ·omega
  ·exact xk h c e
 refine(cZ (S:=sm.ao::m1.size::S) (lG u9 gm9.aN.2) 14 ((gu.done (S:=S) (λc hc=>aFY (hS c hc) (x2.trans u7).size) ab).le (aV _ _)) ab).ay u9 hl λs1 _ cK g1 e cO xu=>⟨_,rfl,?_⟩
 subst e
 have afO:sm.ao<cK.size:=cO.lt gm9.aN.2
 refine(cZ (S:=s1.ao::sm.ao::m1.size::S) (λc hc=>?_) 15 ((((gd.done (S:=S) (λc hc=>aFY (hS c hc) (x2.trans u4).size) ab).le (aV _ _)).ext x9).ext cO) ab).ay xu hl λs2 _ dm g2 e eB Pg=>⟨_,rfl,?_⟩
 ·rcases List.mem_cons.1 hc with e|e
  ·have:=g1.aN;omega
  ·exact lG xu afO c e
 subst e
 have ax7:sm.ao<dm.size:=eB.lt afO
 have ax8:=(g1.ext eu.mono eB).aN
 have e2:=g2.lB eu.mono (λhc=>by
  have hy:=g2.aN;rcases List.mem_cons.1 hc with e|e
  ·have:=g1.aN;omega
  ·have:=lG xu afO _ e;omega) aO bg
 refine GS.all (g1.ext eu.mono eB) ((cO.trans eB).fz []) e2 bg λs3 df g3 f3 z3 q3=>⟨af.me Pg (u9.trans f3.ext) hl,?_⟩
 have fW:af m9 df:=f3.ext
 have VQ:=u9.trans fW
 have w12:=x2.trans VQ
 have Pb:WL ds rs.length True (v.length+fl.length) (lu.map (de 14)++ld.map (de 15)):=by
  refine(pF ab hlu).append ?_;rw[gS ab];refine pF ab λo ho=>?_;have:=hp.aL o (hld o ho);omega
 have pdc:dc (lu.map (de 14)++ld.map (de 15))=0:=by rw[bD,gS ab,gS ab]
 have psw:sw (lu.map (de 14)++ld.map (de 15))<=1006:=by rw[cb,mf,mf];omega
 have YP:GI S m4 df sm lm:=(gm.ext x9).ext fW
 have QD:s3.ao≠sm.ao:=g3.JZ YP aO
 have E:∀{M M':ah},af m2 M->af m2 M'->∀b∈[m1.size,m0.size,m.size],∀o,ad M' b o=ad M b o:=λh h' b hb o=>aA (by rw[h'.same b (hl b hb),h.same b (hl b hb)]) o
 have E4:∀{M M':ah},af m2 M->af m2 M'->∀{p:Prop},p->ad M' m0.size 0=ad M m0.size 0/\ad M' m0.size 1=ad M m0.size 1/\ad M' m.size 0=ad M m.size 0/\ad M' m.size 1=ad M m.size 1/\p:=λh h' _ hp=>⟨E h h' _ az _,E h h' _ az _,E h h' _ az _,E h h' _ az _,hp⟩
 have F4:∀{M:ah},Fz [sm.ao] m9 M->af m4 M:=λh=>Fz.ext ((((x7.trans x9).fz [sm.ao]).trans h).By λb hb=>Or.inr (by simp at hb;omega))
 have ax9:sm.ao<m9.size:=gm9.aN.2
 have z3:=x3.size
 have tail:∀(M:ah)(bb:Nat)(ss:Sl)(b':Bk),GS (bb::sm.ao::m1.size::S) m9 M s3 (lu.map (de 14)++ld.map (de 15))->Fz [sm.ao] m9 M->m9.size<=bb->bb<M.size->bb≠s3.ao->cU (aY (bb::s3.ao::sm.ao::m1.size::S) M) ss b'.ar->WB ds rs.length True (v.length+fl.length) b'/\b'.w+1050<=1100*b.w->
  let M1:ah:=ag M bb 0 [.s ss,.i b'.aH]
  gA M1 dQ [.i 0,.i 0,.i 0,.s .nil,.s .nil] 72 s3 ss λYQ M2=>da [bb,m1.size,m0.size,m.size] M1 M2/\ad M2 bb 1=ad M1 bb 1/\
   let M3:ah:=ag M2 m1.size 0 [.s YQ,.i b'.aH]
   ∃s nF,Value.agg #[Sl.v YQ,vi b'.aH]=.agg #[Sl.v s,vi nF.aH]/\cU (aY S M3) s nF.ar/\(WB ds rs.length True (v.length+fl.length) nF/\nF.w<=1100*b.w)/\af m M3:=by
  intro M bb ss b' g Vj XN ap8 aku sk lP M1
  have z01:M1.size=M.size:=aq _ _ _ _
  have hy:=g.aN
  have afP:cU (aY (s3.ao::sm.ao::m1.size::S) M1) ss b'.ar:=sk.le (bt az λc hc=>aFT _ hc)
  have hbs:=Bk.jD b'
  have kQ:=dN b'.ar
  have hF:=F4 Vj
  have zF:=hF.size
  have z9:=Vj.size
  have g1:GS (sm.ao::m1.size::S) m9 M1 s3 _:=g.re eu.mono (Y:=[bb]) ((Fz.av [bb] M).ag (Or.inl az) _ _) az (by simpa using aHh aku) λc hc=>Or.inl (aFT _ hc)
  have f1:Fz [sm.ao] m9 M1:=Vj.ag (Or.inr XN) _ _
  have hw:=lP.2
  refine GS.all g1 f1 afP bg λr M2 g2 f z q=>⟨λc hc=>?_,aA (q bb ab aku) _,?_⟩
  ·simp at hc
   refine q c ?_ ?_<;>rcases hc with rfl|rfl|rfl|rfl<;>omega
  intro M3
  have Vm:af m M2:=Fz.ext (((v9.fz [sm.ao]).trans f).By λb hb=>Or.inr (by simp at hb;omega))
  have hy2:=g2.aN
  have h5:=g2.lB eu.mono (λhc=>by
   rcases List.mem_cons.1 hc with e|e
   ·omega
   ·rcases List.mem_cons.1 e with e|e
    ·omega
    ·have:=hS _ e;omega) aO bg
  refine⟨r,.mk _ b'.aH,rfl,cU.le (bt az λc hc=>aFT _ (aFT _ hc)) h5,⟨WB.of (Pb.append ?_) ?_,?_⟩,Vm.ag ab _ _⟩
  ·rw[pdc];exact lP.1.aT.1
  ·rw[bD,pdc,aGa];exact lP.1.aT.2
  ·rw[Bk.nV,cb];omega
 have aL:∀(M:ah)(S':List Nat)(K:Sl->ah->Prop),af df M->GS S' m9 M s3 (lu.map (de 14)++ld.map (de 15))->sm.ao∈S'->(∀r M',GI S m4 M' r (lm++lu)->GS S' m9 M' s3 (lu.map (de 14)++ld.map (de 15))->Fz [sm.ao] m9 M'->M.size<=M'.size->(∀b,b<M.size->b≠sm.ao->M'[b]? =M[b]?)->K r M')->gA M au [.i 0] 8 sm su K:=by
  intro M S' K hx g OP hK;have XA:aj (aY (sm.ao::S) M) su lu:=by
   refine aj.le ((fW.trans hx).bO _) (Gr.lB (S:=sm.ao::S) rP.mono gu.any (λhc=>?_) aO ab);rcases List.mem_cons.1 hc with e|e
   ·omega
   ·have:=hS _ e;have:=x2.size;omega
  refine GI.all (YP.ext hx) ((((x7.trans x9).trans fW).trans hx).fz []) (λc hc=>aFY (hS c hc) (x2.trans u4).size) XA ab λr M' g' f z q=>hK r M' g' ?_ ?_ z.1 q
  ·exact g.Nb eu.mono (Y:=[sm.ao]) ⟨z.1,λb hb hn=>q b hb (by simpa using hn)⟩ (by simpa using OP) (by simpa using QD)
  ·exact(((fW.trans hx).fz [sm.ao]).trans ⟨z.1,λb hb hn=>q b hb (by simpa using hn)⟩)
 have ao:∀(M:ah)(S':List Nat)(mn la':Sl)(ll:List Int),(∀c∈S',c<M.size)->Fz [sm.ao] m9 M->aj M mn (lm++lu)->aj M la' ll->ng la ll->k8 186 [.agg #[Sl.v d,Sl.v r],Sl.v jP,.agg #[Sl.v t,vi b.aH],Sl.v mn,Sl.v la'] M S' λb'=>WB ds rs.length True (v.length+fl.length) b'/\b'.w+1050<=1100*b.w:=by
  intro M S' mn la' ll Q3 Vj h1 h2 h3;have hF:=F4 Vj;have hm:=(x2.trans u4).trans hF;have rI:aj M jP (v++fl):=(((gi.done az bg).le (aV _ _)).ext x4).ext hF;have:=ih S' M Q3 d r jP t mn la' (v++fl) (lm++lu) ll (hn.le hm.le) rI (hs.le hm.le) h1 h2 ⟨λo ho=>?_,bg,by have:=h3.2;omega,bg,by simpa using hp.wb⟩
  ·simpa using this
  ·simp;rcases List.mem_append.1 ho with ho|ho
   ·have:=hp.aL o (VP o ho);omega
   ·have:=hlu o ho;omega
 have auA:=fW.size
 have auB:sm.ao<df.size:=ab
 have ayb:s3.ao<df.size:=g3.aN.2
 have YR:∀{M:ah},af m2 M->df.size<=M.size->∀c∈s3.ao::sm.ao::m1.size::S,c<M.size:=λh hz c hc=>by
  rcases List.mem_cons.1 hc with e|e
  ·omega
  ·exact lG h ab c e
 have fG:∀(M:ah)(bb:Nat)(mn la':Sl)(ll:List Int),GS (bb::sm.ao::m1.size::S) m9 M s3 (lu.map (de 14)++ld.map (de 15))->Fz [sm.ao] m9 M->df.size<=bb->bb<M.size->aj M mn (lm++lu)->aj M la' ll->ng la ll->
  aD Tryz.prog 186 [.agg #[Sl.v d,Sl.v r],Sl.v jP,.agg #[Sl.v t,vi b.aH],Sl.v mn,Sl.v la'] M λrv M'=>da [bb,m1.size,m0.size,m.size] M M'/\∃Bl:Sl,∃zC:Int,rv=.agg #[Sl.v Bl,vi zC]/\
   let M1:ah:=ag M' bb 0 [.s Bl,.i zC]
   gA M1 dQ [.i 0,.i 0,.i 0,.s .nil,.s .nil] 72 s3 Bl λYQ M2=>da [bb,m1.size,m0.size,m.size] M1 M2/\ad M2 bb 1=ad M1 bb 1/\
    let M3:ah:=ag M2 m1.size 0 [.s YQ,.i zC]
    ∃s nF,Value.agg #[Sl.v YQ,vi zC]=.agg #[Sl.v s,vi nF.aH]/\cU (aY S M3) s nF.ar/\(WB ds rs.length True (v.length+fl.length) nF/\nF.w<=1100*b.w)/\af m M3:=by
  intro M bb mn la' ll g Vj h1 h2 h3 h4 h5
  have hM:af m2 M:=u4.trans (F4 Vj)
  refine(ao M (bb::s3.ao::sm.ao::m1.size::S) mn la' ll (λc hc=>?_) Vj h3 h4 h5).ay (af.av M) (λc hc=>?_) λss b' M' sk hq hx _=>⟨_,_,rfl,?_⟩
  ·rcases List.mem_cons.1 hc with e|e
   ·omega
   ·exact YR hM ab c e
  ·rcases List.mem_cons.1 hc with e|e
   ·omega
   ·exact hM.lt (hl c e)
  ·exact tail M' bb ss b' (g.ext eu.mono hx) (Vj.then hx) ab (hx.lt h2) ab sk hq
 have push:∀(M:ah)(o:Obj),GS (sm.ao::m1.size::S) m9 M s3 (lu.map (de 14)++ld.map (de 15))->GS (M.size::sm.ao::m1.size::S) m9 (M.push o) s3 (lu.map (de 14)++ld.map (de 15)):=λM o g=>
  g.re eu.mono (Y:=[]) ((af.push M o).fz []) az az λc hc=>by
   rcases List.mem_cons.1 hc with e|e
   ·exact Or.inr ab
   ·exact Or.inl e
 have f12:Fz [sm.ao] m9 df:=fW.fz _
 have bel:∀(M:ah)(L:List Nat)(K:Value->ah->Prop),af m2 M->(∀c∈L,c<M.size)->(∀s ll M',aj M' s ll->ng la ll->af M M'->K (Sl.v s) M')->aD Tryz.prog 267 [Sl.v dV,vi (vars.len:Int)] M λv m'=>da L M m'/\K v m':=λM L K hM hL hK=>
  (Ok (S:=[]) az (hla.le ((x2.trans hM).le.trans (yS _))) _ ab).ay (af.av M) hL λs ll M' g p x _=>hK s ll M' ((g.done az (by have:=p.2;omega)).le (aV _ _)) p x
 have gin:∀{M:ah}{s:Sl},GI S m4 M s (lm++lu)->aj M s (lm++lu):=λg=>(g.done (λc hc=>aFY (hS c hc) (x2.trans u4).size) bg).le (aV _ _)
 have cA:∀{M:ah}{bb:Nat},af m2 M->bb<M.size->∀c∈[bb,m1.size,m0.size,m.size],c<M.size:=λh hb c hc=>by
  rcases List.mem_cons.1 hc with e|e
  ·omega
  ·exact h.lt (hl c e)
 refine⟨aL df _ _ (af.av _) g3 az λQE Ph ga gs fz z q=>⟨λc hc=>q c (VQ.lt (hl c hc)) (by have:=hl c hc;omega),E4 VQ (u4.trans (F4 fz)) ⟨?_,?_⟩⟩,?_⟩
 ·have u24:=u4.trans (F4 fz)
  refine bel Ph _ _ u24 (λc hc=>u24.lt (hl c hc)) λVn ll Jk g25 p25 Ii=>⟨_,rfl,E4 u24 (u24.trans Ii) ⟨?_,?_⟩⟩
  ·have u25:=u24.trans Ii
   have z25:=Ii.size
   refine(ao Jk (s3.ao::sm.ao::m1.size::S) QE Vn ll (YR u25 ab) (fz.then Ii) ((gin ga).ext Ii) g25 p25).ay u25 hl λss b' NG sk hq Ub u26=>⟨_,_,rfl,?_⟩
   intro Q4
   have z26:=Ub.size
   have f26:=(fz.then Ii).then Ub
   exact E4 u26 (u26.aC _) (tail Q4 NG.size ss b' (push NG _ ((gs.ext eu.mono Ii).ext eu.mono Ub)) (f26.push _) ab (by simp[Q4]) ab (sk.le (qN (af.push NG _) (aFR _))) hq)
  ·intro m31
   have z25:=Ii.size
   have u25:=u24.trans Ii
   exact E4 u25 (u25.aC _) (fG m31 Jk.size QE Vn ll (push Jk _ (gs.ext eu.mono Ii)) ((fz.then Ii).push _) ab (by simp[m31]) (((gin ga).ext Ii).ext (af.push _ _)) (g25.ext (af.push _ _)) p25)
 ·intro m36
  have u24:=u4.trans (F4 fz)
  have u36:af m2 m36:=u24.aC _
  have x36:af Ph m36:=af.push _ _
  refine E4 u24 u36 (bel m36 _ _ u36 (cA u36 (by simp[m36])) λVn ll m37 g37 p37 x37=>⟨_,rfl,E4 u36 (u36.trans x37) ?_⟩)
  exact fG m37 Ph.size QE Vn ll ((push Ph _ gs).ext eu.mono x37) ((fz.then x36).then x37) ab (x37.lt (by simp[m36])) (((gin ga).ext x36).ext x37) g37 p37
 ·intro m42
  have u42:af m2 m42:=VQ.aC _
  have x42:af df m42:=af.push _ _
  refine E4 VQ u42 (aL m42 _ _ x42 (push df _ g3) az λQE m43 ga gs fz z q=>⟨λc hc=>q c (cA u42 (by simp[m42]) c hc) ?_,E4 u42 (u4.trans (F4 fz)) ?_⟩)
  ·rcases List.mem_cons.1 hc with e|e
   ·omega
   ·have:=hl c e;omega
  have u43:=u4.trans (F4 fz)
  have s42:m42.size=df.size+1:=by simp[m42]
  refine bel m43 _ _ u43 (cA u43 ab) λVn ll m44 g44 p44 x44=>⟨_,rfl,E4 u43 (u43.trans x44) ?_⟩
  exact fG m44 df.size QE Vn ll (gs.ext eu.mono x44) (fz.then x44) (aFR _) (x44.lt ab) ((gin ga).ext x44) g44 p44
end Go.Proofs.YtakpkjhmbbfniaaGreat
