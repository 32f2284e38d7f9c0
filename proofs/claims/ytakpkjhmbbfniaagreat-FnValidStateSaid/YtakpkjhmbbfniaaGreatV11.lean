/- Part of a proof, joined by a program. -/
import Derived.Test.YtakpkjhmbbfniaaGreatV10
set_option linter.unusedVariables false
set_option linter.unusedSimpArgs false
set_option linter.defProp false
set_option maxHeartbeats 8000000
set_option maxRecDepth 100000
namespace Go.Proofs.YtakpkjhmbbfniaaGreat
open Go.Vc
theorem EG{m:ah}{d p:Sl}{im:bq}(h:dU m d p im):
 aD Tryz.prog 19 [.agg #[Sl.v d,Sl.v p]] m λv m'=>∃d' f b,v=.tuple #[.agg #[Sl.v d',Sl.v f],vb b]/\(b=true<->J4 im.aI im.bJ/\∀p∈im.bJ,CI p.params p.bX)/\
  (b=true->d'=d/\np m' f im.bJ)/\af m m':=by
 apply xN
 simp -zeta only[aw,ax]
 intro m1 m2
 have tA:=h.bJ.len
 have s1:m1.size=m.size+1:=by simp[m1]
 have s2:m2.size=m.size+2:=by simp[m2,m1]
 have dA:af m m2:=((af.av m).aC _).aC _
 refine⟨λh1=>?_,λh1=>?_⟩
 ·simp only[aFP]at h1
  intro m3
  exact⟨_,_,_,rfl,⟨λh=>by simp at h,λh=>by have:=h.1.len;omega⟩,λh=>by simp at h,dA.ag ab _ _⟩
 simp only[aFQ]at h1
 intro m4 m5
 have s5:m5.size=m.size+3:=by simp[m5,m4,aq,s2]
 have vP:af m m5:=(dA.aC _).ag ab _ _
 have BR:bK m5 m2.size js [.s d,.s .nil]:=bK.ag (m:=m4) (o:=0) (r:=[.s d,.s .nil]) (bK.push m2 _ _)
 clear_value m5
 refine dg (n:=im.bJ.length) ab (λk m'=>af m m'/\m5.size<=m'.size/\∃r css,bK m' m2.size js [.s d,.s r]/\gQ m m' mX 3 r css.flatten/\eQ 3 (Ox m) css (im.bJ.take k)/\(r≠.nil->m2.size<r.ao)/\r.len=k)
  ⟨vP,aFR _,.nil,[],BR,gQ.nil _ _ _ _,by simpa using eQ.nil 3 (Ox m),az,rfl⟩ ?_
 rintro k m6 I μ hk ⟨hx,vK,r,css,BQ,pN,Ih,hr2,nL⟩ next
 refine⟨λh2=>?_,λh2=>?_⟩
 ·simp only[aFP]at h2
  obtain⟨q,hq⟩:=ae (l:=im.bJ) (k:=k) ab
  obtain⟨a,b,c,ha,hb,hc,g0,g1,g2,g3,g4⟩:=h.bJ.aE hq
  refine⟨ab,ab,a,by simpa using hx.ad g0,b,by simpa using hx.ad g1,_,by simpa using hx.ad g2,_,by simpa using hx.ad g3,c,by simpa using hx.ad g4,?_⟩
  intro m7 m8
  have xg:af m6 m8:=((af.av m6).aC _).ag (aFR _) _ _
  have s8:m8.size=m6.size+1:=by simp[m8,m7,aq]
  clear_value m8
  refine⟨r,(BQ.ext xg).bH 1,?_⟩
  intro m9
  have Jw:af m6 m9:=xg.aC _
  have s9:m9.size=m6.size+2:=by simp[m9,s8]
  have ji:eK m9 m8.size 0 [.s a,.s b,.i q.aH]:=(bK.push m8 _ _).iu
  clear_value m9
  refine gQ.append (zs:=[.s .nil,.s .nil,.i 0]) (new:=[.s a,.s b,.i q.aH]) (pN.ext Jw) (hx.trans Jw) rfl ji (by simp[nL];omega) ?_
  intro r' cK h7 h8 h9 ln jV nJ
  have OX:r'≠.nil->m2.size<r'.ao:=by
   intro cx;rcases nJ with⟨_,e⟩|⟨hrn,e,_⟩|e
   ·exact absurd e cx
   ·have:=hr2 hrn;omega
   ·omega
  have OR:∀b',b'<m9.size->b'<=m2.size\/b'=m6.size/\(r=.nil\/r.ao<m6.size)->cK[b']? =m9[b']? :=by
   intro b' jx hc;refine jV b' jx λcx=>?_;have:=hr2 cx;rcases hc with hc|⟨rfl,hc|hc⟩
   ·omega
   ·exact absurd hc cx
   ·omega
  have ari:r=.nil\/r.ao<m6.size:=pN.lt
  have aeu:bK cK m2.size js [.s d,.s r]:=(BQ.ext Jw).congr (OR _ ab (Or.inl (aFR _)))
  refine⟨λb' jx=>?_,aeu.dW az,?_⟩
  ·simp at jx
   rcases jx with rfl|rfl|rfl
   ·exact OR _ ab (Or.inr ⟨rfl,ari⟩)
   ·exact OR _ ab (Or.inl ab)
   ·exact OR _ ab (Or.inl ab)
  intro dm
  have DE:dm.size=cK.size:=by simp[dm,aq]
  have Vx:bK dm m2.size js [.s d,.s r']:=bK.ag (m:=cK) (o:=1) (r:=[.s r']) aeu
  have aev:∀b,b≠m2.size->dm[b]? =cK[b]? :=λb hb=>aP _ _ _ _ hb
  have MM:af m dm:=h8.ag ab _ _
  clear_value dm
  refine⟨λb' jx=>?_,?_⟩
  ·simp at jx
   rcases jx with rfl|rfl|rfl<;>exact aev _ ab
  refine next ab _ ⟨MM,ab,r',css++[[.s a,.s b,.i q.aH]],Vx,?_,?_,OX,by simp[h9,nL]⟩
  ·rw[aHr]
   have h7':gQ m cK mX 3 r' (css.flatten++[[.s a,.s b,.i q.aH]].flatten):=by simpa using h7
   rcases h7'.lt with e|e
   ·subst e;exact⟨h7'.len,Or.inl rfl⟩
   ·refine h7'.congr (aev _ λe2=>?_)
    by_cases hn:r'=.nil
    ·subst hn
     have:=h9
     simp at this
    ·have:=OX hn;omega
  ·rw[bn hq]
   exact Ih.xI rfl ⟨a,b,rfl,ha,hb⟩
 ·simp only[aFQ]at h2
  rw[bL ab]at Ih
  have Jl:np m6 r im.bJ:=(cY.fQ pN Ih ab ab).mono (af.av _) (Ox.ext hx)
  refine⟨d,BQ.bH 0,r,BQ.bH 1,r,BQ.bH 1,?_⟩
  have hl:∀b∈[m1.size,m.size],b<m6.size:=bg
  refine(EF (br.ext hx h.aI) Jl).ay (af.av _) hl λb m7 hb h3 _=>⟨_,rfl,h3.cr (BQ.bH 0),h3.cr (BQ.bH 1),?_⟩
  intro m8
  have cx:∀b,b≠m1.size->m8[b]? =m7[b]? :=λb hb=>aP _ _ _ _ hb
  have xg:af m m8:=(hx.trans h3).ag ab _ _
  refine⟨d,r,b,rfl,hb,λ_=>⟨rfl,?_⟩,xg⟩
  have aew:=pN.ext h3
  have ak4:gQ m m8 mX 3 r css.flatten:=by
   by_cases hn:r=.nil
   ·subst hn;exact⟨aew.len,Or.inl rfl⟩
   ·exact aew.congr (cx _ (by have:=hr2 hn;omega))
  exact(cY.fQ ak4 Ih ab ab).mono (af.av _) (Ox.ext xg)
def eA(im:bq)(i:Instr)(dV:Int->Prop):Prop:=
 if i.op=0 then -999<=i.bh/\i.bh<=999
 else if i.op=6 then 0<=i.bh/\i.bh<(dv im.aI).length
 else if i.op=9\/i.op=24 then 0<=i.bh/\i.bh<im.bJ.length
 else if i.op=10 then 0<=i.bh/\∃q,im.bJ[i.bh.toNat]? =some q/\q.bX.length=0
 else if i.op=19 then 0<=i.bh/\i.bh<3
 else if i.op=20\/i.op=22 then dV i.bh
 else if i.op=21 then 0<(bB im.aI i.bh).length/\i.cW.length=(bB im.aI i.bh).length
 else i.bh=0
theorem GK{m:ah}{d f:Sl}{im:bq}(hd:br m d im.aI)(ht:cE im.aI)(hf:np m f im.bJ){i:Instr}{a j:Sl}(ha:aj m a i.args)(hj:aj m j i.cW)(g:Nat)(fs cs:Array Value)(hg:GL.elem g=true)(dV:Int->Prop)
 (agh:∀m',af m m'->cB Tryz.prog g (fs.toList++[vi i.bh]++cs.toList) m' (dV i.bh)):
 cB Tryz.prog 49 [.agg #[Sl.v d,Sl.v f],.agg #[vi i.op,vi i.dst,vi i.bh,vi i.bA,Sl.v a,Sl.v j],.func (.func g) fs cs] m (eA im i dV):=by
 apply nR d f i.op i.dst i.bh i.bA a j (.func g,fs,cs)
 simp -zeta only[aw,ax]
 intro m1 m2
 have dA:af m m2:=((af.av m).aC _).aC _
 have hl:∀b∈[m1.size,m.size],b<m2.size:=by simp[m2,m1];omega
 have gL:=hf.len
 have hjl:=hj.len
 have hB:bK m2 m1.size cI [.i i.op,.i i.dst,.i i.bh,.i i.bA,.s a,.s j]:=bK.push _ _ _
 clear_value m2
 refine⟨λe0=>?_,λe0=>?_⟩
 ·simp only[aFZ]at e0
  rw[show eA im i dV<->-999<=i.bh/\i.bh<=999 by rw[eA,aFW e0]]
  refine⟨λh=>ez ?_ dA,λh=>bC ?_ dA⟩<;>simp at h
  ·simp;omega
  ·omega
 simp only[aFU]at e0
 refine⟨λe1=>?_,λe1=>?_⟩
 ·simp only[aFZ]at e1
  rw[show eA im i dV<->0<=i.bh/\i.bh<(dv im.aI).length by rw[eA,aFS e0,aFW e1]]
  refine⟨λh=>?_,λh=>bC ?_ dA⟩<;>simp at h
  ·refine(uc (br.ext dA hd) ht.len (Tl ht)).ay (af.av _) hl λm3 h3 _=>⟨_,rfl,h3.cr (hB.bH 2),ez ?_ (dA.trans h3)⟩
   simp;omega
  ·omega
 simp only[aFU]at e1
 refine⟨λe2=>?_,λe2=>?_⟩
 ·simp only[aGe,aFZ]at e2
  rw[show eA im i dV<->0<=i.bh/\i.bh<im.bJ.length by rw[eA,aFS e0,aFS e1,aFW e2]]
  refine⟨λh=>ez ?_ dA,λh=>bC ?_ dA⟩<;>simp at h
  ·simp;omega
  ·omega
 simp only[aF9,aFU]at e2
 replace e2:¬(i.op=9\/i.op=24):=ab
 refine⟨λe3=>?_,λe3=>?_⟩
 ·simp only[aFZ]at e3
  rw[show eA im i dV<->0<=i.bh/\∃q,im.bJ[i.bh.toNat]? =some q/\q.bX.length=0 by rw[eA,aFS e0,aFS e1,aFS e2,aFW e3]]
  refine⟨λh=>⟨λh1=>?_,λh1=>?_⟩,λh=>bC ?_ dA⟩<;>simp at h
  ·simp at h1
   obtain⟨q,hq⟩:=ae (l:=im.bJ) (k:=i.bh.toNat) ab
   obtain⟨a',l',FH,BP,g0,g1,g2⟩:=(np.ext dA hf).aE hq
   have:=BP.len
   refine⟨ab,ab,l',g1,ez ?_ dA⟩
   simp only[aFZ]
   refine⟨λh2=>⟨h,q,hq,ab⟩,λ⟨_,q',h3,h4⟩=>?_⟩
   rw[hq]at h3;simp at h3;subst h3;omega
  ·simp at h1
   exact bC (λ⟨_,q,h3,_⟩=>by have:=ap h3;omega) dA
  ·omega
 simp only[aFU]at e3
 refine⟨λe4=>?_,λe4=>?_⟩
 ·simp only[aFZ]at e4
  rw[show eA im i dV<->0<=i.bh/\i.bh<3 by rw[eA,aFS e0,aFS e1,aFS e2,aFS e3,aFW e4]]
  refine⟨λh=>ez ?_ dA,λh=>bC ?_ dA⟩<;>simp at h
  ·simp;omega
  ·omega
 simp only[aFU]at e4
 refine⟨λe5=>?_,λe5=>?_⟩
 ·simp only[aGe,aFZ]at e5
  rw[show eA im i dV<->dV i.bh by rw[eA,aFS e0,aFS e1,aFS e2,aFS e3,aFS e4,aFW e5]]
  exact⟨g,rfl,hg,(agh m2 dA).ay (af.av _) hl λb m3 hb h3 _=>⟨_,rfl,ez hb (dA.trans h3)⟩⟩
 simp only[aF9,aFU]at e5
 replace e5:¬(i.op=20\/i.op=22):=ab
 refine⟨λe6=>?_,λe6=>?_⟩
 ·simp only[aFZ]at e6
  rw[show eA im i dV<->0<(bB im.aI i.bh).length/\i.cW.length=(bB im.aI i.bh).length by rw[eA,aFS e0,aFS e1,aFS e2,aFS e3,aFS e4,aFS e5,aFW e6]]
  refine(J5 (br.ext dA hd) ht _).ay (af.av _) hl ?_
  rintro _ m3 ⟨s,rfl,hs,h3⟩
  have:=hs.len
  refine⟨h3,_,rfl,λh=>ez ?_ (dA.trans h3),λh=>bC ?_ (dA.trans h3)⟩<;>simp at h
  ·simp only[aFZ];omega
  ·omega
 ·simp only[aFU]at e6
  rw[show eA im i dV<->i.bh=0 by rw[eA,aFS e0,aFS e1,aFS e2,aFS e3,aFS e4,aFS e5,aFS e6]]
  exact ez az dA
def eH(im:bq)(i:Instr)(lo hi:Int):Prop:=
 if i.op=0\/i.op=22 then lo=0/\hi=0
 else if i.op=1\/i.op=2\/i.op=3\/i.op=4\/i.op=11 then lo=2/\hi=2
 else if i.op=6 then lo=(bz im.aI i.bh).length/\hi=(bz im.aI i.bh).length
 else if i.op=9\/i.op=24 then∃q,im.bJ[i.bh.toNat]? =some q/\lo=q.params.length/\hi=q.params.length
 else if i.op=10 then∃q,im.bJ[i.bh.toNat]? =some q/\lo=(q.params.length:Int) -1/\hi=(q.params.length:Int) -1
 else if i.op=16\/i.op=17 then lo=1/\hi=4
 else lo=1/\hi=1
theorem Km{m:ah}{d f:Sl}{im:bq}(hd:br m d im.aI)(ht:cE im.aI)(hf:np m f im.bJ){i:Instr}{a j:Sl}{dV:Int->Prop}(hn:eA im i dV):
 aD Tryz.prog 50 [.agg #[Sl.v d,Sl.v f],.agg #[vi i.op,vi i.dst,vi i.bh,vi i.bA,Sl.v a,Sl.v j]] m λv m'=>∃lo hi:Int,v=.tuple #[vi lo,vi hi]/\eH im i lo hi/\af m m':=by
 apply pB
 simp -zeta only[aw,ax]
 intro m1 m2
 have dA:af m m2:=((af.av m).aC _).aC _
 have hl:∀b∈[m1.size,m.size],b<m2.size:=by simp[m2,m1];omega
 have gL:=hf.len
 clear_value m2
 refine⟨λe0=>?_,λe0=>?_⟩
 ·simp only[aGe,aFZ]at e0
  exact⟨_,_,rfl,by rw[eH,aFW e0];exact⟨rfl,rfl⟩,dA⟩
 simp only[aF9,aFU]at e0
 have e0':¬(i.op=0\/i.op=22):=ab
 refine⟨λe1=>?_,λe1=>?_⟩
 ·simp only[aGe,aFZ]at e1
  exact⟨_,_,rfl,by rw[eH,aFS e0',aFW e1];exact⟨rfl,rfl⟩,dA⟩
 simp only[aF9,aFU]at e1
 have V1:¬(i.op=1\/i.op=2\/i.op=3\/i.op=4\/i.op=11):=ab
 refine⟨λe2=>?_,λe2=>?_⟩
 ·simp only[aFZ]at e2
  rw[eA,aFS e0.1,aFW e2]at hn
  have nJ:=qL ht im.aI.length
  rw[lY _ _ (aFR _)]at nJ
  refine(Gn (br.ext dA hd) ht _ ab).ay (af.av _) hl ?_
  rintro _ m3 ⟨s,rfl,hs,h3⟩
  have:=hs.len
  exact⟨h3,_,rfl,_,_,rfl,by rw[eH,aFS e0',aFS V1,aFW e2];omega,dA.trans h3⟩
 simp only[aFU]at e2
 refine⟨λe3=>?_,λe3=>?_⟩
 ·simp only[aGe,aFZ]at e3
  rw[eA,aFS e0.1,aFS e2,aFW e3]at hn
  obtain⟨q,hq⟩:=ae (l:=im.bJ) (k:=i.bh.toNat) ab
  obtain⟨a',l',FH,BP,g0,g1,g2⟩:=(np.ext dA hf).aE hq
  have:=FH.len
  exact⟨ab,ab,a',g0,_,_,rfl,by rw[eH,aFS e0',aFS V1,aFS e2,aFW e3];exact⟨q,hq,ab,ab⟩,dA⟩
 simp only[aF9,aFU]at e3
 have e3':¬(i.op=9\/i.op=24):=ab
 refine⟨λe4=>?_,λe4=>?_⟩
 ·simp only[aFZ]at e4
  rw[eA,aFS e0.1,aFS e2,aFS e3',aFW e4]at hn
  obtain⟨h0,q,hq,_⟩:=hn
  obtain⟨a',l',FH,BP,g0,g1,g2⟩:=(np.ext dA hf).aE hq
  have:=FH.len
  have:=FH.eP
  have:=ap hq
  have e:bS ((a'.len:Int) -1)=(q.params.length:Int) -1:=by rw[aF ab ab];omega
  exact⟨ab,ab,a',g0,_,_,rfl,by rw[eH,aFS e0',aFS V1,aFS e2,aFS e3',aFW e4];exact⟨q,hq,e,e⟩,dA⟩
 simp only[aFU]at e4
 refine⟨λe5=>?_,λe5=>?_⟩
 ·simp only[aGe,aFZ]at e5
  exact⟨_,_,rfl,by rw[eH,aFS e0',aFS V1,aFS e2,aFS e3',aFS e4,aFW e5];exact⟨rfl,rfl⟩,dA⟩
 ·simp only[aF9,aFU]at e5
  have e5':¬(i.op=16\/i.op=17):=ab
  exact⟨_,_,rfl,by rw[eH,aFS e0',aFS V1,aFS e2,aFS e3',aFS e4,aFS e5'];exact⟨rfl,rfl⟩,dA⟩
theorem vW{m:ah}{x k:Int}{b0 b1:Nat}{c:Sl}(h0:ad m b0 0=some (vi k))(h1:ad m b1 4=some (Sl.v c)):
 cB Tryz.prog 47 [vi x,vp b0 0,vp b1 0] m (k+1<=x/\x<=(c.len:Int) -1):=by
 apply lW x (b0,0) (b1,0)
 refine⟨k,h0,λh=>⟨c,h1,ez ?_ (af.av _)⟩,λh=>bC ?_ (af.av _)⟩<;>simp at h
 ·simp;omega
 ·omega
theorem IL{m:ah}{x k:Int}{b0 b1 b2:Nat}{c:Sl}(h0:ad m b0 0=some (vi k))(h1:ad m b1 4=some (Sl.v c))
 (h2:ad m b2 0=some (.func (.func 47) #[] #[vp b0 0,vp b1 0])):
 cB Tryz.prog 48 [vi x,vp b2 0] m (¬(k+1<=x/\x<=(c.len:Int) -1)):=by
 apply lX x (b2,0)
 refine⟨(.func 47,#[],#[vp b0 0,vp b1 0]),h2,_,rfl,rfl,?_⟩
 refine(vW h0 h1).then λb m1 hb hx=>⟨_,rfl,ez ?_ hx⟩
 rw[<-hb];simp
theorem HT{im:bq}{p:bY}{k:Nat}{i:Instr}(hr:p.an<=2000)(Pe:im.bJ.length<=4)(h3:∀q∈im.bJ,q.params.length<=3):
 fe im p k i<->((0<=i.op/\i.op<=24/\i.op≠7/\i.op≠8/\i.op≠12/\i.op≠13)/\(0<=i.dst/\i.dst<p.an/\(i.dst=0\/jA i.op)/\0<=i.bA/\i.bA<=p.an/\(i.bA=0\/i.op=6))/\
  (∀a∈i.args,0<=a/\a<p.an)/\(i.cW.length=0\/i.op=21)/\(∀t∈i.cW,(k:Int)+1<=t/\t<=(p.bP.length:Int) -1)/\
  eA im i (λt=>(k:Int)+1<=t/\t<=(p.bP.length:Int) -1)/\∀lo hi,eH im i lo hi->lo<=i.args.length/\(i.args.length:Int)<=hi):=by
 have qB:(0<=i.dst/\i.dst<p.an)->0<p.an:=λh=>ab
 constructor
 ·intro h
  have pu:=h.op
  have hd:=h.dst
  have fV:∀a∈i.args,0<=a/\a<p.an:=λa ha=>by have:=h.args a ha;omega
  have TZ:i.op≠21->∀t∈i.cW,(k:Int)+1<=t/\t<=(p.bP.length:Int) -1:=λcx t ht=>by
   rcases h.cW with h5|h5
   ·exact absurd h5 cx
   ·rw[List.length_eq_zero_iff.1 h5]at ht;cases ht
  have hjj:i.cW.length=0\/i.op=21:=h.cW.symm
  have Je:0<=i.dst/\i.dst<p.an:=ab
  have fG:∀(_:0<=i.op/\i.op<=24/\i.op≠7/\i.op≠8/\i.op≠12/\i.op≠13)(_:0<=i.bA/\i.bA<=p.an)(_:∀t∈i.cW,(k:Int)+1<=t/\t<=(p.bP.length:Int) -1)
   (_:eA im i (λt=>(k:Int)+1<=t/\t<=(p.bP.length:Int) -1))(_:∀lo hi,eH im i lo hi->lo<=i.args.length/\(i.args.length:Int)<=hi),_:=
   λh1 h2 h3 h4 h5=>(⟨h1,⟨Je.1,Je.2,h.ajm,h2.1,h2.2,h.bA⟩,fV,hjj,h3,h4,h5⟩:(0<=i.op/\i.op<=24/\i.op≠7/\i.op≠8/\i.op≠12/\i.op≠13)/\(0<=i.dst/\i.dst<p.an/\(i.dst=0\/jA i.op)/\0<=i.bA/\i.bA<=p.an/\(i.bA=0\/i.op=6))/\
   (∀a∈i.args,0<=a/\a<p.an)/\(i.cW.length=0\/i.op=21)/\(∀t∈i.cW,(k:Int)+1<=t/\t<=(p.bP.length:Int) -1)/\
   eA im i (λt=>(k:Int)+1<=t/\t<=(p.bP.length:Int) -1)/\∀lo hi,eH im i lo hi->lo<=i.args.length/\(i.args.length:Int)<=hi)
  have MN:i.op≠6->0<=i.bA/\i.bA<=p.an:=λcx=>by rcases h.bA with h5|h5<;>omega
  unfold kj at pu
  by_cases e0:i.op=0
  ·rw[aFW e0]at pu
   refine fG ab (MN ab) (TZ ab) (by rw[eA,aFW e0];exact pu.2) (λlo hi ha=>?_)
   rw[eH,aFW (Or.inl e0)]at ha;omega
  rw[aFS e0]at pu
  by_cases e1:i.op=1\/i.op=2\/i.op=3\/i.op=4\/i.op=11
  ·rw[aFW e1]at pu
   refine fG ab (MN ab) (TZ ab) ?_ (λlo hi ha=>?_)
   ·rw[eA,aFS e0,aFS ab,aFS ab,aFS ab,aFS ab,aFS ab,aFS ab];exact pu.2
   ·rw[eH,aFS ab,aFW e1]at ha;omega
  rw[aFS e1]at pu
  by_cases e2:i.op=5\/i.op=14\/i.op=15\/i.op=18\/i.op=23
  ·rw[aFW e2]at pu
   refine fG ab (MN ab) (TZ ab) ?_ (λlo hi ha=>?_)
   ·rw[eA,aFS e0,aFS ab,aFS ab,aFS ab,aFS ab,aFS ab,aFS ab];exact pu.2
   ·rw[eH,aFS ab,aFS e1,aFS ab,aFS ab,aFS ab,aFS ab]at ha;omega
  rw[aFS e2]at pu
  by_cases e3:i.op=6
  ·rw[aFW e3]at pu
   refine fG ab pu.2.2 (TZ ab) ?_ (λlo hi ha=>?_)
   ·rw[eA,aFS e0,aFW e3];exact pu.1
   ·rw[eH,aFS ab,aFS e1,aFW e3]at ha;omega
  rw[aFS e3]at pu
  by_cases e4:i.op=9\/i.op=24
  ·rw[aFW e4]at pu
   obtain⟨q,h5,h6,h7⟩:=pu
   have:=ap h6
   refine fG ab (MN ab) (TZ ab) ?_ (λlo hi ha=>?_)
   ·rw[eA,aFS e0,aFS e3,aFW e4];omega
   ·rw[eH,aFS ab,aFS e1,aFS e3,aFW e4]at ha
    obtain⟨q',h8,h9,ln⟩:=ha
    rw[h6]at h8;simp at h8;subst h8;omega
  rw[aFS e4]at pu
  by_cases e5:i.op=10
  ·rw[aFW e5]at pu
   obtain⟨⟨q,h5,h6,h7⟩,h8⟩:=pu
   have:=ap h6
   refine fG ab (MN ab) (TZ ab) ?_ (λlo hi ha=>?_)
   ·rw[eA,aFS e0,aFS e3,aFS e4,aFW e5];exact⟨h5,q,h6,h8 q h6⟩
   ·rw[eH,aFS ab,aFS e1,aFS e3,aFS e4,aFW e5]at ha
    obtain⟨q',h8,h9,ln⟩:=ha
    rw[h6]at h8;simp at h8;subst h8;omega
  rw[aFS e5]at pu
  by_cases e6:i.op=16\/i.op=17
  ·rw[aFW e6]at pu
   refine fG ab (MN ab) (TZ ab) ?_ (λlo hi ha=>?_)
   ·rw[eA,aFS e0,aFS e3,aFS e4,aFS e5,aFS ab,aFS ab,aFS ab];exact pu.2
   ·rw[eH,aFS ab,aFS e1,aFS e3,aFS e4,aFS e5,aFW e6]at ha;omega
  rw[aFS e6]at pu
  by_cases e7:i.op=19
  ·rw[aFW e7]at pu
   refine fG ab (MN ab) (TZ ab) ?_ (λlo hi ha=>?_)
   ·rw[eA,aFS e0,aFS e3,aFS e4,aFS e5,aFW e7];omega
   ·rw[eH,aFS ab,aFS e1,aFS e3,aFS e4,aFS e5,aFS e6]at ha;omega
  rw[aFS e7]at pu
  by_cases e8:i.op=20
  ·rw[aFW e8]at pu
   refine fG ab (MN ab) (TZ ab) ?_ (λlo hi ha=>?_)
   ·rw[eA,aFS e0,aFS e3,aFS e4,aFS e5,aFS e7,aFW (Or.inl e8)];exact pu.2
   ·rw[eH,aFS ab,aFS e1,aFS e3,aFS e4,aFS e5,aFS e6]at ha;omega
  rw[aFS e8]at pu
  by_cases e9:i.op=22
  ·rw[aFW e9]at pu
   refine fG ab (MN ab) (TZ ab) ?_ (λlo hi ha=>?_)
   ·rw[eA,aFS e0,aFS e3,aFS e4,aFS e5,aFS e7,aFW (Or.inr e9)];exact pu.2
   ·rw[eH,aFW (Or.inr e9)]at ha;omega
  rw[aFS e9]at pu
  by_cases tE:i.op=21
  ·rw[aFW tE]at pu
   refine fG ab (MN ab) pu.2.2.2 ?_ (λlo hi ha=>?_)
   ·rw[eA,aFS e0,aFS e3,aFS e4,aFS e5,aFS e7,aFS ab,aFW tE]
    have:=pu.2.2.1
    exact⟨pu.2.1,ab⟩
   ·rw[eH,aFS ab,aFS e1,aFS e3,aFS e4,aFS e5,aFS e6]at ha;omega
  rw[aFS tE]at pu
  exact pu.elim
 ·rintro⟨h1,h2,fV,hjj,hjs,mK,hA⟩
  refine⟨λa ha=>by have:=fV a ha;omega,ab,h2.2.2.1,h2.2.2.2.2.2,hjj.symm,?_⟩
  unfold kj
  by_cases e0:i.op=0
  ·rw[aFW e0]
   rw[eA,aFW e0]at mK
   have:=hA 0 0 (by rw[eH,aFW (Or.inl e0)];exact⟨rfl,rfl⟩)
   exact⟨ab,mK⟩
  rw[aFS e0]
  by_cases e1:i.op=1\/i.op=2\/i.op=3\/i.op=4\/i.op=11
  ·rw[aFW e1]
   rw[eA,aFS e0,aFS ab,aFS ab,aFS ab,aFS ab,aFS ab,aFS ab]at mK
   have:=hA 2 2 (by rw[eH,aFS ab,aFW e1];exact⟨rfl,rfl⟩)
   exact⟨ab,mK⟩
  rw[aFS e1]
  by_cases e2:i.op=5\/i.op=14\/i.op=15\/i.op=18\/i.op=23
  ·rw[aFW e2]
   rw[eA,aFS e0,aFS ab,aFS ab,aFS ab,aFS ab,aFS ab,aFS ab]at mK
   have:=hA 1 1 (by rw[eH,aFS ab,aFS e1,aFS ab,aFS ab,aFS ab,aFS ab];exact⟨rfl,rfl⟩)
   exact⟨ab,mK⟩
  rw[aFS e2]
  by_cases e3:i.op=6
  ·rw[aFW e3]
   rw[eA,aFS e0,aFW e3]at mK
   have:=hA _ _ (by rw[eH,aFS ab,aFS e1,aFW e3];exact⟨rfl,rfl⟩)
   exact⟨mK,ab,ab⟩
  rw[aFS e3]
  by_cases e4:i.op=9\/i.op=24
  ·rw[aFW e4]
   rw[eA,aFS e0,aFS e3,aFW e4]at mK
   obtain⟨q,hq⟩:=ae (l:=im.bJ) (k:=i.bh.toNat) ab
   have:=hA _ _ (by rw[eH,aFS ab,aFS e1,aFS e3,aFW e4];exact⟨q,hq,rfl,rfl⟩)
   exact⟨q,mK.1,hq,ab⟩
  rw[aFS e4]
  by_cases e5:i.op=10
  ·rw[aFW e5]
   rw[eA,aFS e0,aFS e3,aFS e4,aFW e5]at mK
   obtain⟨h5,q,hq,h6⟩:=mK
   have:=hA _ _ (by rw[eH,aFS ab,aFS e1,aFS e3,aFS e4,aFW e5];exact⟨q,hq,rfl,rfl⟩)
   refine⟨⟨q,h5,hq,ab⟩,λq' zB=>?_⟩
   rw[hq]at zB;simp at zB;subst zB;exact h6
  rw[aFS e5]
  by_cases e6:i.op=16\/i.op=17
  ·rw[aFW e6]
   rw[eA,aFS e0,aFS e3,aFS e4,aFS e5,aFS ab,aFS ab,aFS ab]at mK
   have:=hA 1 4 (by rw[eH,aFS ab,aFS e1,aFS e3,aFS e4,aFS e5,aFW e6];exact⟨rfl,rfl⟩)
   exact⟨ab,mK⟩
  have hA1:i.op≠22->∀(e0:¬i.op=0)(e1:¬(i.op=1\/i.op=2\/i.op=3\/i.op=4\/i.op=11))(e3:¬i.op=6)(e4:¬(i.op=9\/i.op=24))(e5:¬i.op=10)(e6:¬(i.op=16\/i.op=17)),i.args.length=1:=λh22 e0 e1 e3 e4 e5 e6=>by
   have:=hA 1 1 (by rw[eH,aFS ab,aFS e1,aFS e3,aFS e4,aFS e5,aFS e6];exact⟨rfl,rfl⟩);omega
  rw[aFS e6]
  by_cases e7:i.op=19
  ·rw[aFW e7]
   rw[eA,aFS e0,aFS e3,aFS e4,aFS e5,aFW e7]at mK
   exact⟨hA1 ab e0 e1 e3 e4 e5 e6,ab,ab⟩
  rw[aFS e7]
  by_cases e8:i.op=20
  ·rw[aFW e8]
   rw[eA,aFS e0,aFS e3,aFS e4,aFS e5,aFS e7,aFW (Or.inl e8)]at mK
   exact⟨hA1 ab e0 e1 e3 e4 e5 e6,mK⟩
  rw[aFS e8]
  by_cases e9:i.op=22
  ·rw[aFW e9]
   rw[eA,aFS e0,aFS e3,aFS e4,aFS e5,aFS e7,aFW (Or.inr e9)]at mK
   have:=hA 0 0 (by rw[eH,aFW (Or.inr e9)];exact⟨rfl,rfl⟩)
   exact⟨ab,mK⟩
  rw[aFS e9]
  by_cases tE:i.op=21
  ·rw[aFW tE]
   rw[eA,aFS e0,aFS e3,aFS e4,aFS e5,aFS e7,aFS ab,aFW tE]at mK
   exact⟨hA1 ab e0 e1 e3 e4 e5 e6,mK.1,ab,hjs⟩
  rw[aFS tE]
  omega
theorem CV{m:ah}{d f a l c:Sl}{im:bq}(hd:br m d im.aI)(ht:cE im.aI)(hf:np m f im.bJ)(Pe:im.bJ.length<=4)(h3:∀q∈im.bJ,q.params.length<=3)
 {q:bY}(hc:dq m c q.bP)(hr:q.an<=2000){k:Nat}{i:Instr}{xa xj:Sl}(ha:aj m xa i.args)(hj:aj m xj i.cW):
 cB Tryz.prog 20 [.agg #[Sl.v d,Sl.v f],.agg #[Sl.v a,Sl.v l,vi q.aH,vi q.an,Sl.v c],vi k,.agg #[vi i.op,vi i.dst,vi i.bh,vi i.bA,Sl.v xa,Sl.v xj]] m (fe im q k i):=by
 apply na
 simp -zeta only[aw,ax]
 intro m1 m2 m3 m4
 have s1:m1.size=m.size+1:=by simp[m1]
 have s2:m2.size=m.size+2:=by simp[m2,s1]
 have s3:m3.size=m.size+3:=by simp[m3,s2]
 have s4:m4.size=m.size+4:=by simp[m4,s3]
 have kK:af m m4:=((((af.av m).aC _).aC _).aC _).aC _
 have SE:bK m4 m2.size au [.i k]:=(bK.push m2 _ _).ext (af.push _ _)
 have hbp:bK m4 m1.size fN [.s a,.s l,.i q.aH,.i q.an,.s c]:=(bK.push m1 _ _).ext ((af.push m2 _).aC _)
 have Bm:=HT (im:=im) (p:=q) (k:=k) (i:=i) hr Pe h3
 have pt:=hc.len
 have jK:=ha.len
 have hjl:=hj.len
 clear_value m4
 clear_value m3
 clear_value m2
 clear_value m1
 refine⟨λh=>bC (λho=>?_) kK,λc0=>⟨λh=>bC (λho=>?_) kK,λc1=>⟨λh=>bC (λho=>?_) kK,λc2=>⟨λh=>bC (λho=>?_) kK,λc3=>⟨λh=>bC (λho=>?_) kK,λc4=>⟨λh=>bC (λho=>?_) kK,λc5=>?_⟩⟩⟩⟩⟩⟩
 any_goals (have:=(Bm.1 ho).1;simp at h;omega)
 simp at c0 c1 c2 c3 c4 c5
 have f1:0<=i.op/\i.op<=24/\i.op≠7/\i.op≠8/\i.op≠12/\i.op≠13:=ab
 refine⟨λm5=>af m4 m5/\(0<=i.dst/\i.dst<q.an/\(i.dst=0\/jA i.op)/\0<=i.bA/\i.bA<=q.an/\(i.bA=0\/i.op=6)),?_,?_⟩
 ·refine⟨λh=>bC (λho=>?_) kK,λc6=>⟨λh=>bC (λho=>?_) kK,λc7=>?_⟩⟩
  ·have:=(Bm.1 ho).2.1;simp at h;omega
  ·have:=(Bm.1 ho).2.1;simp at h;omega
  simp at c6 c7
  have tail:∀m5,af m4 m5->(i.dst=0\/jA i.op)->((decide (i.bA<(0:Int)))=true->∃b':Bool,Value.bool false=.bool b'/\(b'=true<->fe im q k i)/\af m m5)/\((decide (i.bA<(0:Int)))=false->
   ((decide (i.bA>q.an))=true->∃b':Bool,Value.bool false=.bool b'/\(b'=true<->fe im q k i)/\af m m5)/\((decide (i.bA>q.an))=false->
   ((i.bA !=(0:Int))=true->((i.op !=(6:Int))=true->∃b':Bool,Value.bool false=.bool b'/\(b'=true<->fe im q k i)/\af m m5)/\((i.op !=(6:Int))=false->af m4 m5/\(0<=i.dst/\i.dst<q.an/\(i.dst=0\/jA i.op)/\0<=i.bA/\i.bA<=q.an/\(i.bA=0\/i.op=6))))/\
   ((i.bA !=(0:Int))=false->af m4 m5/\(0<=i.dst/\i.dst<q.an/\(i.dst=0\/jA i.op)/\0<=i.bA/\i.bA<=q.an/\(i.bA=0\/i.op=6))))):=by
   intro m5 h5 hs
   have vP:=kK.trans h5
   refine⟨λh=>bC (λho=>?_) vP,λc8=>⟨λh=>bC (λho=>?_) vP,λc9=>⟨λc10=>⟨λh=>bC (λho=>?_) vP,λc11=>⟨h5,?_⟩⟩,λc10=>⟨h5,?_⟩⟩⟩⟩
   ·have:=(Bm.1 ho).2.1;simp at h;omega
   ·have:=(Bm.1 ho).2.1;simp at h;omega
   ·have:=(Bm.1 ho).2.1.2.2.2.2.2;simp at h c10;omega
   ·simp at c8 c9 c11;exact⟨c6,c7,hs,c8,c9,Or.inr c11⟩
   ·simp at c8 c9 c10;exact⟨c6,c7,hs,c8,c9,Or.inl c10⟩
  refine⟨λh=>?_,λh=>tail m4 (af.av _) (Or.inl (by simpa using h))⟩
  refine(yQ i.op m4 ⟨ab,ab⟩).ay (af.av _) bg λb m5 hb h5 _=>⟨b,rfl,λh6=>bC (λho=>?_) (kK.trans h5),λh6=>tail m5 h5 (Or.inr (yb hb h6))⟩
  have:=(Bm.1 ho).2.1.2.2.1
  simp at h
  rcases this with h7|h7
  ·exact h h7
  ·exact nb hb h6 h7
 ·rintro m5 ⟨h5,f2⟩
  refine dg (n:=i.args.length) (by have:=ha.eP;omega) (λn m'=>af m4 m'/\∀x∈i.args.take n,0<=x/\x<q.an) ⟨h5,az⟩ ?_
  rintro n m6 I μ hn ⟨h6,gZ⟩ next
  have Fw:=kK.trans h6
  refine⟨λh=>?_,λh=>?_⟩
  ·simp only[aFP]at h
   obtain⟨x,hx⟩:=ae (l:=i.args) (k:=n) ab
   refine⟨ab,ab,x,by simpa using(ha.ext Fw).aE hx,λh7=>bC (λho=>?_) Fw,λh7=>⟨λh8=>bC (λho=>?_) Fw,λh8=>next ab _ ⟨h6,aZ hx gZ ?_⟩⟩⟩
   ·have:=(Bm.1 ho).2.2.1 x (ak hx);simp at h7;omega
   ·have:=(Bm.1 ho).2.2.1 x (ak hx);simp at h8;omega
   ·simp at h7 h8;omega
  ·simp only[aFQ]at h
   have fV:∀x∈i.args,0<=x/\x<q.an:=bM ab gZ
   intro m7 m8
   have s8:m8.size=m6.size+1:=by simp[m8,m7,aq]
   have h8:af m6 m8:=((af.av m6).aC _).ag (aFR _) _ _
   have xg:=Fw.trans h8
   have hb8:ad m8 m6.size 0=some (.func (.func 47) #[] #[vp m2.size 0,vp m1.size 0]):=
    (bK.ag (m:=m7) (o:=0) (r:=[.fn (.func 47) #[] #[vp m2.size 0,vp m1.size 0]]) (bK.push m6 _ _)).bH 0
   have vK:=h6.size
   clear_value m8
   have dV:∀m9,af m8 m9->∀t,cB Tryz.prog 47 [vi t,vp m2.size 0,vp m1.size 0] m9 ((k:Int)+1<=t/\t<=(q.bP.length:Int) -1):=λm9 h9 t=>by
    rw[<-pt];exact vW (SE.ext (h6.trans (h8.trans h9))|>.bH 0) (hbp.ext (h6.trans (h8.trans h9))|>.bH 4)
   have iE:(i.cW.length=0\/i.op=21)->aD Tryz.prog 23 [Sl.v xj,.func (.func 48) #[] #[vp m6.size 0]] m8 λzC OV=>
    da [m3.size,m.size] m8 OV/\∃agj:Bool,zC=vb agj/\(agj=true->∃b':Bool,Value.bool false=.bool b'/\(b'=true<->fe im q k i)/\af m OV)/\
    (agj=false->∃Vy:Fn×Array Value×Array Value,ad OV m6.size 0=some (.func Vy.1 Vy.2.1 Vy.2.2)/\
    aD Tryz.prog 49 [.agg #[Sl.v d,Sl.v f],.agg #[vi i.op,vi i.dst,vi i.bh,vi i.bA,Sl.v xa,Sl.v xj],.func Vy.1 Vy.2.1 Vy.2.2] OV λNC zD=>
    da [m3.size,m.size] OV zD/\∃agk:Bool,NC=vb agk/\((!agk)=true->∃b':Bool,Value.bool false=.bool b'/\(b'=true<->fe im q k i)/\af m zD)/\
    ((!agk)=false->aD Tryz.prog 50 [.agg #[Sl.v d,Sl.v f],.agg #[vi i.op,vi i.dst,vi i.bh,vi i.bA,Sl.v xa,Sl.v xj]] zD λJg Lm=>
    da [m3.size,m.size] zD Lm/\∃agl:Int,∃Zb:Int,Jg=.tuple #[vi agl,vi Zb]/\
    ((decide ((xa.len:Int)>=agl))=true->∃b':Bool,Value.bool (decide ((xa.len:Int)<=Zb))=.bool b'/\(b'=true<->fe im q k i)/\af m Lm)/\
    ((decide ((xa.len:Int)>=agl))=false->∃b':Bool,Value.bool false=.bool b'/\(b'=true<->fe im q k i)/\af m Lm))):=by
    intro TZ
    have hl:∀b∈[m3.size,m.size],b<m8.size:=bg
    refine(km (hj.ext xg) 48 #[] #[vp m6.size 0] aO (λt=>¬((k:Int)+1<=t/\t<=(c.len:Int) -1)) (λt _ m9 h9=>?_)).ay (af.av _) hl ?_
    ·exact IL (SE.ext (h6.trans (h8.trans h9))|>.bH 0) (hbp.ext (h6.trans (h8.trans h9))|>.bH 4) (h9.ad hb8)
    intro b m9 hb h9 _
    have Jw:=xg.trans h9
    refine⟨b,rfl,λnH=>bC (λho=>?_) Jw,λmF=>?_⟩
    ·obtain⟨t,Vv,ht2⟩:=hb.1 nH
     have:=(Bm.1 ho).2.2.2.2.1 t Vv
     exact ht2 ab
    have hjs:∀t∈i.cW,(k:Int)+1<=t/\t<=(q.bP.length:Int) -1:=λt Vv=>by
     rcases aGM ((k:Int)+1<=t/\t<=(c.len:Int) -1)with h|h
     ·omega
     ·exact absurd (hb.2 ⟨t,Vv,h⟩) (by simp[mF])
    refine⟨(.func 47,#[],#[vp m2.size 0,vp m1.size 0]),h9.ad hb8,?_⟩
    have O2:∀b∈[m3.size,m.size],b<m9.size:=λb hb=>h9.lt (hl b hb)
    refine(GK (br.ext Jw hd) ht (np.ext Jw hf) (ha.ext Jw) (hj.ext Jw) 47 #[] #[vp m2.size 0,vp m1.size 0] aO (λt=>(k:Int)+1<=t/\t<=(q.bP.length:Int) -1) (λm' h'=>by simpa using dV m' (h9.trans h') i.bh)).ay (af.av _) O2 ?_
    intro b2 cK lz ln _
    have abd:=Jw.trans ln
    refine⟨b2,rfl,λh=>bC (λho=>nb lz h (Bm.1 ho).2.2.2.2.2.1) abd,λh=>?_⟩
    have mK:=yb lz h
    have Jm:∀b∈[m3.size,m.size],b<cK.size:=λb hb=>ln.lt (O2 b hb)
    refine(Km (br.ext abd hd) ht (np.ext abd hf) (a:=xa) (j:=xj) mK).ay (af.av _) Jm ?_
    rintro _ dm ⟨lo,hi,rfl,hA,jV⟩
    have MM:=abd.trans jV
    have ak5:∀Zc iy,eH im i Zc iy->Zc=lo/\iy=hi:=λZc iy h'=>by
     unfold eH at hA h';repeat' (split at hA);all_goals simp_all
     all_goals (obtain⟨q1,e1,e2,e3⟩:=hA;simp_all)
    refine⟨jV,lo,hi,rfl,λh=>ez ?_ MM,λh=>bC (λho=>?_) MM⟩
    ·rw[Bm]
     simp only[aFP]at h⊢
     refine⟨λh'=>⟨f1,f2,fV,TZ,hjs,mK,λZc iy h2=>?_⟩,λh'=>?_⟩
     ·obtain⟨rfl,rfl⟩:=ak5 Zc iy h2;omega
     ·have:=h'.2.2.2.2.2.2 lo hi hA;omega
    ·have:=(Bm.1 ho).2.2.2.2.2.2 lo hi hA
     simp at h;omega
   refine⟨λh9=>⟨λln=>bC (λho=>?_) xg,λln=>iE (Or.inr (by simpa using ln))⟩,λh9=>iE (Or.inl (by simp at h9;omega))⟩
   have:=(Bm.1 ho).2.2.2.1
   simp at h9 ln;omega
theorem CW{m:ah}{d p:Sl}{im:bq}(h:dU m d p im):cB Tryz.prog 12 [.agg #[Sl.v d,Sl.v p]] m (kN im):=by
 apply wq;simp -zeta only[aw,ax];intro m1;have dF:af m m1:=(af.av m).aC _;have s1:m1.size=m.size+1:=by simp[m1]
 clear_value m1;refine(EG (h.ext dF)).ay (af.av _) bg ?_;rintro _ m2 ⟨d',f,b,rfl,hb,lx,h2⟩;refine⟨h2,d',f,b,rfl,?_⟩;intro m3 m4;have s4:m4.size=m2.size+1:=by simp[m4,m3,aq]
 have h4:af m2 m4:=((af.av m2).aC _).ag (aFR _) _ _;have kK:af m m4:=(dF.trans h2).trans h4;have:=h2.size;have tA:=h.bJ.len;have YN:=h.bJ.eP;clear_value m4;refine⟨λhn=>bC (λho=>nb hb hn ⟨ho.oQ,λq hq=>(ho.cq q hq).bX⟩) kK,λhy=>?_⟩;obtain⟨Jl,Lq⟩:=yb hb hy;obtain⟨rfl,hf⟩:=lx (by simpa using hy);refine dg (n:=im.bJ.length) ab (λn m'=>af m4 m'/\∀q∈im.bJ.take n,Gm im q) ⟨af.av _,az⟩ ?_;rintro n m5 I μ hn ⟨h5,gZ⟩ next
 have vP:=kK.trans h5;refine⟨λcA=>?_,λFG=>?_⟩
 ·simp only[aFP]at cA;obtain⟨q,hq⟩:=ae (l:=im.bJ) (k:=n) ab;obtain⟨a,l,c,ha,hl,hc,g0,g1,g2,g3,g4⟩:=(h.ext vP).bJ.aE hq;refine⟨ab,ab,a,by simpa using g0,l,by simpa using g1,_,by simpa using g2,_,by simpa using g3,c,by simpa using g4,?_⟩;intro m6 m7;have s7:m7.size=m5.size+1:=by simp[m7,m6,aq]
  have h7:af m5 m7:=((af.av m5).aC _).ag (aFR _) _ _;have T9:=vP.trans h7;have jK:=ha.len;have pt:=hc.len;have akm:=hc.eP;have hqm:=ak hq;clear_value m7;refine⟨λe=>bC (λho=>?_) T9,λe1=>⟨λe=>bC (λho=>?_) T9,λe2=>⟨λe=>bC (λho=>?_) T9,λe3=>⟨λe=>bC (λho=>?_) T9,λe4=>?_⟩⟩⟩⟩
  ·have:=(ho.cq q hqm).an;simp at e;split at e<;>omega
  ·have:=(ho.cq q hqm).an;simp at e;omega
  ·have:=(ho.cq q hqm).len;simp at e;omega
  ·have:=(ho.cq q hqm).len;simp at e;omega
  have DA:(q.params.length:Int)<=q.an/\1<=q.an/\q.an<=2000:=by
   simp at e1 e2;split at e1<;>omega
  have hlen:1<=q.bP.length/\q.bP.length<=2000:=by simp at e3 e4;omega
  obtain⟨i0,V2⟩:=ae (l:=q.bP) (k:=q.bP.length -1) ab;obtain⟨a0,j0,_,_,k0,_⟩:=(dq.ext h7 hc).aE V2;refine⟨λm'=>af m7 m'/\(i0.op=23\/i0.op=24),?_,?_⟩
  ·have e:bS ((c.len:Int) -1)=((q.bP.length -1:Nat):Int):=by rw[aF ab ab];omega
   rw[e];refine⟨ab,ab,i0.op,by simpa using k0,λe5=>⟨λe6=>bC (λho=>?_) T9,λe6=>⟨af.av _,Or.inr (by simpa using e6)⟩⟩,λe5=>⟨af.av _,Or.inl (by simpa using e5)⟩⟩;have:=(ho.cq q hqm).Mg i0 V2;simp at e5 e6;omega
  ·rintro m8 ⟨h8,uF⟩;refine dg (n:=q.bP.length) ab (λk m'=>af m7 m'/\∀(j:Nat)(i:Instr),j<k->q.bP[j]? =some i->fe im q j i) ⟨h8,λj i hj=>ab⟩ ?_;rintro k m9 I2 μ2 hk ⟨h9,ak6⟩ eN;have Jw:=T9.trans h9;refine⟨λaa8=>?_,λarl=>?_⟩
   ·simp only[aFP]at aa8;obtain⟨i,hi⟩:=ae (l:=q.bP) (k:=k) ab;obtain⟨xa,xj,hxa,hxj,k0,k1,k2,k3,k4,k5⟩:=(dq.ext (h7.trans h9) hc).aE hi;refine⟨ab,ab,_,by simpa using k0,_,by simpa using k1,_,by simpa using k2,_,by simpa using k3,xa,by simpa using k4,xj,by simpa using k5,?_⟩;intro cK dm;have DE:dm.size=m9.size+1:=by simp[dm,cK,aq]
    have jV:af m9 dm:=((af.av m9).aC _).ag (aFR _) _ _;have MM:=Jw.trans jV;have q1:=h9.size;have q2:=h5.size;clear_value dm;refine(CV (a:=a) (l:=l) (br.ext MM h.aI) Jl.types (np.ext (h4.trans (h5.trans (h7.trans (h9.trans jV)))) hf) Jl.len.2 (λq' zB=>(Jl.cq q' zB).1) (dq.ext (h7.trans (h9.trans jV)) hc) DA.2.2 (k:=k) (i:=i) (hxa.ext jV) (hxj.ext jV)).ay (af.av _) bg ?_;intro b' df jx nJ _;refine⟨b',rfl,λe=>bC (λho=>nb jx e ((ho.cq q hqm).cq k i hi)) (MM.trans nJ),λe=>eN ab _ ⟨h9.trans (jV.trans nJ),λj i' hj iy=>?_⟩⟩;rcases Nat.lt_succ_iff_lt_or_eq.1 hj with hj|rfl
    ·exact ak6 j i' hj iy
    ·rw[hi]at iy;simp at iy;subst iy;exact yb jx e
   ·simp only[aFQ]at arl;refine next ab _ ⟨h5.trans (h7.trans h9),aZ hq gZ ⟨Lq q hqm,DA,hlen,λj i hi=>ak6 j i (by have:=ap hi;omega) hi,λi hi=>?_⟩⟩
    rw[V2]at hi;simp at hi;subst hi;exact uF
 ·simp only[aFQ]at FG;exact gP ⟨Jl,bM ab gZ⟩ vP
def P3(m:ah)(cs:List Ce)(c:aR):Prop:=∃f,cs=[.i c.aG,.i c.jW,.s f]/\aj m f c.aB
def Kn(m:ah)(cs:List Ce)(f:aM):Prop:=∃r o h,cs=[.i f.dJ,.i f.pc,.i f.dst,.s r,.s o,.s h]/\aj m r f.an/\aj m o f.aL/\aj m h f.aQ
abbrev cy(m:ah)(s:Sl)(l:List aR):Prop:=cY m 3 (P3 m) s l
abbrev jU(m:ah)(s:Sl)(l:List aM):Prop:=cY m 6 (Kn m) s l
theorem P3.ext{m m':ah}(hm:af m m')(cs:List Ce)(c:aR):P3 m cs c->P3 m' cs c:=λ⟨f,h1,h2⟩=>⟨f,h1,h2.ext hm⟩
theorem cy.ext{m m':ah}(hm:af m m'){s:Sl}{l:List aR}(h:cy m s l):cy m' s l:=h.mono hm (P3.ext hm)
theorem Kn.ext{m m':ah}(hm:af m m')(cs:List Ce)(c:aM):Kn m cs c->Kn m' cs c:=λ⟨r,o,h,h1,h2,h3,h4⟩=>⟨r,o,h,h1,h2.ext hm,h3.ext hm,h4.ext hm⟩
theorem jU.ext{m m':ah}(hm:af m m'){s:Sl}{l:List aM}(h:jU m s l):jU m' s l:=h.mono hm (Kn.ext hm)
theorem cy.aE{m:ah}{s:Sl}{l:List aR}(h:cy m s l){k:Nat}{x:aR}(hk:l[k]? =some x):
 ∃f,aj m f x.aB/\ad m s.ao (s.off+k*3)=some (vi x.aG)/\ad m s.ao (s.off+k*3+1)=some (vi x.jW)/\ad m s.ao (s.off+k*3+2)=some (Sl.v f):=by
 obtain⟨cs,⟨f,rfl,hf⟩,hr⟩:=h.iu k x hk
 exact⟨f,hf,hr 0 (.i x.aG) rfl,hr 1 (.i x.jW) rfl,hr 2 (.s f) rfl⟩
theorem jU.aE{m:ah}{s:Sl}{l:List aM}(h:jU m s l){k:Nat}{x:aM}(hk:l[k]? =some x):
 ∃r o e,aj m r x.an/\aj m o x.aL/\aj m e x.aQ/\ad m s.ao (s.off+k*6)=some (vi x.dJ)/\ad m s.ao (s.off+k*6+1)=some (vi x.pc)/\ad m s.ao (s.off+k*6+2)=some (vi x.dst)/\
  ad m s.ao (s.off+k*6+3)=some (Sl.v r)/\ad m s.ao (s.off+k*6+4)=some (Sl.v o)/\ad m s.ao (s.off+k*6+5)=some (Sl.v e):=by
 obtain⟨cs,⟨r,o,e,rfl,hr,ho,he⟩,ji⟩:=h.iu k x hk
 exact⟨r,o,e,hr,ho,he,ji 0 (.i x.dJ) rfl,ji 1 (.i x.pc) rfl,ji 2 (.i x.dst) rfl,ji 3 (.s r) rfl,ji 4 (.s o) rfl,ji 5 (.s e) rfl⟩
theorem _root_.Go.Vc.cY.GM{m:ah}{s:Sl}{l:List Int}(h:cY m 1 aae s l){i:Int}(h0:0<=i)(h1:i<l.length):ad m s.ao (s.off+i.toNat*1)=some (vi (aE l i)):=aj.aE h (qW h0 h1)
structure RV(m:ah)(mb o:Nat)(d p aT hp fr:Sl)(im:bq)(s:St):Prop where
 eG:dU m d p im
 aI:ad m mb 0=some (Sl.v d)
 bJ:ad m mb 1=some (Sl.v p)
 bT:ad m mb o=some (vi s.bT)
 value:ad m mb (o+1)=some (vi s.value)
 be:ad m mb (o+2)=some (vi s.be)
 cV:ad m mb (o+3)=some (vi s.cV)
 ao3:ad m mb (o+4)=some (Sl.v aT)
 EH:ad m mb (o+5)=some (Sl.v hp)
 Tt:ad m mb (o+6)=some (Sl.v fr)
 aT:aj m aT s.aT
 heap:cy m hp s.heap
 ai:jU m fr s.ai
theorem RV.ext{m m':ah}{mb o:Nat}{d p aT hp fr:Sl}{im:bq}{s:St}(h:RV m mb o d p aT hp fr im s)(hx:af m m'):RV m' mb o d p aT hp fr im s:=
 ⟨h.eG.ext hx,hx.ad h.aI,hx.ad h.bJ,hx.ad h.bT,hx.ad h.value,hx.ad h.be,hx.ad h.cV,hx.ad h.ao3,hx.ad h.EH,hx.ad h.Tt,h.aT.ext hx,cy.ext hx h.heap,jU.ext hx h.ai⟩
theorem afd(P:Nat->Prop):∀(n:Nat),P n->∃k,P k/\∀j,P j->k<=j:=by
 intro n;induction n using Nat.strongRecOn with
 |_ n ih=>
  intro hn;rcases aGM (∃j,j<n/\P j)with⟨j,hj,hp⟩|LO
  ·exact ih j hj hp
  ·exact⟨n,hn,λj hj=>aGo λh=>LO ⟨j,ab,hj⟩⟩
theorem Tu{γ σ:Type}{m:ah}{s0:σ}{Body:(σ->ah->Prop)->(σ->ah->Nat)->σ->ah->Prop}(J:γ->σ->ah->Prop)(ν:γ->Nat)(g0:γ)(h0:J g0 s0 m)
 (h:∀(g:γ)(s:σ)(m1:ah)(I:σ->ah->Prop)(μ:σ->ah->Nat),J g s m1->(∀g' s' m',J g' s' m'->ν g'<ν g->I s' m'/\μ s' m'<μ s m1)->Body I μ s m1):
 ∃(I:σ->ah->Prop)(μ:σ->ah->Nat),I s0 m/\∀s m1,I s m1->Body I μ s m1:=by
 classical
 let I:σ->ah->Prop:=λs m=>∃g,J g s m
 have hex:∀s m,I s m->∃k,(∃g,J g s m/\ν g=k)/\∀j,(∃g,J g s m/\ν g=j)->k<=j:=λs m⟨g,hg⟩=>afd _ (ν g) ⟨g,hg,rfl⟩
 let μ:σ->ah->Nat:=λs m=>if hI:I s m then Classical.choose (hex s m hI)else 0
 refine⟨I,μ,⟨g0,h0⟩,λs m1 hI=>?_⟩
 obtain⟨g,hg,hn⟩:=(aGt (hex s m1 hI)).1
 refine h g s m1 I μ hg λg' s' m' hJ cA=>⟨⟨g',hJ⟩,?_⟩
 have hI':I s' m':=⟨g',hJ⟩
 simp only[μ,aIF hI,aIF hI']
 exact aG9 ((aGt (hex s' m' hI')).2 _ ⟨g',hJ,rfl⟩) (hn▸cA)
theorem Tv{γ σ τ:Type}{m:ah}{s0:σ}{t0:τ}{Body:(σ->τ->ah->Prop)->(σ->τ->ah->Nat)->σ->τ->ah->Prop}(J:γ->σ->τ->ah->Prop)(ν:γ->Nat)(g0:γ)(h0:J g0 s0 t0 m)
 (h:∀(g:γ)(s:σ)(t:τ)(m1:ah)(I:σ->τ->ah->Prop)(μ:σ->τ->ah->Nat),J g s t m1->(∀g' s' t' m',J g' s' t' m'->ν g'<ν g->I s' t' m'/\μ s' t' m'<μ s t m1)->Body I μ s t m1):
 ∃(I:σ->τ->ah->Prop)(μ:σ->τ->ah->Nat),I s0 t0 m/\∀s t m1,I s t m1->Body I μ s t m1:=by
 obtain⟨I,μ,h1,h2⟩:=Tu (σ:=σ×τ) (s0:=(s0,t0)) (Body:=λI μ st m1=>Body (λs t=>I (s,t)) (λs t=>μ (s,t)) st.1 st.2 m1) (λg st m=>J g st.1 st.2 m) ν g0 h0 (λg st m1 I μ hJ hn=>h g st.1 st.2 m1 (λs t=>I (s,t)) (λs t=>μ (s,t)) hJ λg' s' t' m'=>hn g' (s',t') m')
 exact⟨λs t=>I (s,t),λs t=>μ (s,t),h1,λs t=>h2 (s,t)⟩
theorem _root_.Go.Vc.cY.RI{m:ah}{s:Sl}{l:List Int}(h:cY m 1 aae s l):eK m s.ao s.off (l.map Ce.i):=λi c hc=>by
 rw[aGb]at hc;obtain⟨x,hx,rfl⟩:=Option.map_eq_some_iff.1 hc;have:=aj.aE h hx;rw[aGr]at this;exact this
def od(f:Nat)(args:List Value)(m:ah)(l:List Int):Prop:=aD Tryz.prog f args m λv m'=>∃s,v=Sl.v s/\gQ m m' au 1 s (l.map Ce.i)/\af m m'
theorem od.then{f:Nat}{args:List Value}{m:ah}{l:List Int}{K:Value->ah->Prop}(h:od f args m l)(hl:l.length<=1000000000)(hk:∀s m',gQ m m' au 1 s (l.map Ce.i)->aj m' s l->af m m'->K (Sl.v s) m'):aD Tryz.prog f args m K:=
 h.mono λ_ _⟨s,he,ho,hx⟩=>he▸hk s _ ho (aj.fQ ho ab) hx
theorem od.ay{f:Nat}{args:List Value}{m:ah}{l:List Int}{K:Value->ah->Prop}{bs:List Nat}(h:od f args m l)(hl:l.length<=1000000000)(hb:∀b∈bs,b<m.size)(hk:∀s m',gQ m m' au 1 s (l.map Ce.i)->aj m' s l->af m m'->K (Sl.v s) m'):aD Tryz.prog f args m λv m'=>da bs m m'/\K v m':=
 h.mono λ_ _⟨s,he,ho,hx⟩=>⟨hx.cg hb,he▸hk s _ ho (aj.fQ ho ab) hx⟩
theorem cG(w:Int)(m:ah):cB Tryz.prog 59 [vi w] m (1000<=w):=by
 apply xZ;exact ez az (af.av _)
theorem ft{m:ah}{hp:Sl}{h:List aR}(hh:cy m hp h){w:Int}(hw: -9223372036854775808<=w/\w<=9223372036854775807):cB Tryz.prog 85 [Sl.v hp,vi w] m (gJ h w):=by
 apply DX;have hl:=hh.len;have zG:=hh.eP;have e1:bS ((hp.len:Int) -1)=(hp.len:Int) -1:=aF ab ab;rw[e1];have e2:bS (w -1000)=w -1000\/(w<1000/\¬(0<=bS (w -1000)/\bS (w -1000)<=(hp.len:Int) -1))\/(w<1000/\bS (w -1000)=w -1000+18446744073709551616):=by
  rcases aGM (-9223372036854775808<=w -1000)with h1|h1
  ·exact Or.inl (aF h1 ab)
  ·refine Or.inr (Or.inr ⟨ab,?_⟩);simp only[bS,IntKind.wrap,IntKind.signed,IntKind.bits];simp;omega
 refine(aJ _ _ _ _).then λb m1 hb h1=>⟨b,rfl,λnH=>?_,λmF=>?_⟩
 ·refine(cG _ _).then λb2 m2 lz h2=>⟨b2,rfl,λLy=>?_,λHz=>?_⟩
  ·have aey:=lz.1 Ly;have e3:bS (w -1000)=w -1000:=aF ab ab;rw[e3]at hb⊢;have hr:=hb.1 nH;obtain⟨c,hc⟩:=ae (l:=h) (k:=(w -1000).toNat) ab;obtain⟨f,hf,g0,_⟩:=(cy.ext (h1.trans h2) hh).aE hc;refine⟨ab,ab,c.aG,g0,ez ?_ (h1.trans h2)⟩;simp only[aHn,aFP];refine⟨λhp=>⟨aey,c,hc,hp⟩,λ⟨_,c',uI,hp⟩=>?_⟩;unfold ix at uI;rw[hc]at uI;simp at uI;subst uI;exact hp
  ·exact bC (λiO=>fb lz Hz iO.1) (h1.trans h2)
 ·refine bC (λ⟨aey,c,hc,_⟩=>fb hb mF ?_) h1;have:=ap hc;unfold ix at this;rw[aF ab ab];omega
theorem Ko(op:Int)(m:ah):cB Tryz.prog 109 [vi op] m (vB op):=by
 apply D0;refine⟨λh=>gP ?_ (af.av _),λh=>⟨λh2=>gP ?_ (af.av _),λh2=>ez ?_ (af.av _)⟩⟩<;>simp[vB]at* <;>omega
theorem WR{im:bq}{x:Instr}{q:bY}(hq:im.bJ[x.bh.toNat]? =some q)(k:Nat):mg im x k=true<->(k:Int)∈q.bX:=by
 simp[mg,cP,hq,List.any_eq_true]
def CX(im:bq)(x:Instr):Prop:=(x.op=9\/x.op=24)->0<=x.bh/\∃q,im.bJ[x.bh.toNat]? =some q
theorem fe.call{im:bq}{p:bY}{k:Nat}{x:Instr}(h:fe im p k x):CX im x:=λe=>by
 have iX:=h.op;unfold kj at iX;rw[aFS ab,aFS ab,aFS ab,aFS ab,aFW e]at iX;obtain⟨q,h0,h1,_⟩:=iX;exact⟨h0,q,h1⟩
theorem pJ{m:ah}{d p:Sl}{im:bq}(h:dU m d p im){x:Instr}(hc:CX im x)(a j:Sl)(k:Nat):
 cB Tryz.prog 134 [.agg #[Sl.v d,Sl.v p],.agg #[vi x.op,vi x.dst,vi x.bh,vi x.bA,Sl.v a,Sl.v j],vi k] m ((x.op=9\/x.op=24)/\mg im x k=true):=by
 apply Cp
 simp -zeta only[aw,ax]
 intro m1 m2
 have dA:af m m2:=((af.av m).aC _).aC _
 have hl:∀b∈[m1.size,m.size],b<m2.size:=by simp[m2,m1];omega
 have tA:=h.bJ.len
 clear_value m2
 have key:∀e:x.op=9\/x.op=24,(0:Int)<=x.bh/\x.bh<(p.len:Int)/\∃v22:Sl,ad m2 p.ao (p.off+Int.toNat x.bh*5+1)=some (Sl.v v22)/\
  aD Tryz.prog 142 [Sl.v v22,vi k] m2 λr aaU=>da [m1.size,m.size] m2 aaU/\∃r24:Bool,r=vb r24/\∃b:Bool,vb r24=.bool b/\(b=true<->((x.op=9\/x.op=24)/\mg im x k=true))/\af m aaU:=λe=>by
  obtain⟨h0,q,hq⟩:=hc e
  obtain⟨a',l',c',ha,BP,uI,g0,g1,g2,g3,g4⟩:=(h.ext dA).bJ.aE hq
  have:=ap hq
  refine⟨h0,ab,l',g1,(bW BP _).ay (af.av _) hl λb m3 hb h3 _=>⟨b,rfl,ez ?_ (dA.trans h3)⟩⟩
  rw[hb,WR hq]
  exact⟨λh=>⟨e,h⟩,λh=>h.2⟩
 refine⟨λh9=>key (Or.inl (by simpa using h9)),λh9=>⟨λmH=>key (Or.inr (by simpa using mH)),λmH=>bC (λ⟨e,_⟩=>?_) dA⟩⟩
 simp at h9 mH;omega
theorem GN(op:Int)(m:ah):cB Tryz.prog 133 [vi op] m (op=6\/op=9\/op=10\/op=11):=by
 apply pS;refine⟨λh=>gP ?_ (af.av _),λh=>⟨λh2=>gP ?_ (af.av _),λh2=>⟨λh3=>gP ?_ (af.av _),λh3=>ez ?_ (af.av _)⟩⟩⟩<;>simp at* <;>omega
def oZ(im:bq)(x:Instr)(n:Nat):List Int:=gE im x 0 (x.args.take n)
theorem BC(im:bq)(x:Instr):∀(l r:List Int)(k:Nat),gE im x k (l++r)=gE im x k l++gE im x (k+l.length) r
 |[],r,k=>by simp[gE]
 |a::l,r,k=>by
  have:=BC im x l r (k+1);simp only[aGg,gE,this,aF5];have e:k+(l.length+1)=k+1+l.length:=ab;rw[e];split<;>simp
theorem CY(im:bq)(x:Instr):∀(l:List Int)(k:Nat),(gE im x k l).length<=l.length
 |[],k=>aFR _
 |a::l,k=>by
  have:=CY im x l (k+1);simp only[gE];split<;>simp<;>omega
theorem UQ(im:bq)(x:Instr):(cz im x).length<=x.args.length:=by
 unfold cz;split
 ·exact aFR _
 split
 ·simp;omega
 split
 ·exact CY _ _ _ _
 ·simp
theorem af.CZ{m0 a b:ah}(ha:af m0 a)(hb:af m0 b){l:List Nat}(hl:∀x∈l,x<m0.size):da l a b:=λx hx=>by rw[ha.same x (hl x hx),hb.same x (hl x hx)]
theorem rf{m0 m:ah}{s:Sl}{l:List Int}{v:Int}{K:Sl->ah->Prop}(ho:gQ m0 m au 1 s (l.map Ce.i))(hx:af m0 m)(hl:l.length<1000000000)
 (hk:∀r m',gQ m0 m' au 1 r ((l++[v]).map Ce.i)->af m0 m'->K r m'):
 gA (m.push (.cells (aU [.i v]) au)) au [.i (0:Int)] 8 s (Sl.mk m.size 0 1 1) K:=by
 have hlen:s.len=l.length:=by have:=ho.len;simp at this;omega
 refine gQ.append (zs:=[.i 0]) (new:=[.i v]) (ho.ext (af.push _ _)) (hx.aC _) rfl (bK.push m _ _).iu bg λr m' h1 h2 h3 h4 h5 h6=>?_
 exact hk r m' (by simpa using h1) h2
theorem IM{m:ah}{d p:Sl}{im:bq}(h:dU m d p im){x:Instr}(hc:CX im x){a j:Sl}(ha:aj m a x.args)(xp:x.args.length<=1000000)(FI:(x.op=16\/x.op=17)->1<=x.args.length):
 od 111 [.agg #[Sl.v d,Sl.v p],.agg #[vi x.op,vi x.dst,vi x.bh,vi x.bA,Sl.v a,Sl.v j]] m (cz im x):=by
 apply Cl
 simp -zeta only[aw,ax]
 intro m1 m2 m3
 have dA:af m m2:=((af.av m).aC _).aC _
 have s2:m2.size=m.size+2:=by simp[m2,m1]
 have h3:af m2 m3:=(af.av m2).aC _
 have ho:gQ m2 m3 au 1 (.mk m2.size 0 0 0) []:=gQ.new (af.av m2) au 1 [] 0 az
 have s1:m1.size=m.size+1:=by simp[m1]
 have jK:=ha.len
 have hl:∀b∈[m1.size,m.size],b<m2.size:=λb hb=>by simp at hb;omega
 clear_value m3
 clear_value m2
 have Zd:∀{m' s l},gQ m2 m' au 1 s l->gQ m m' au 1 s l:=λho=>ho.bN dA.size
 refine⟨λv m'=>af m2 m'/\gQ m2 m' au 1 (.mk m2.size 0 0 0) []/\(v=true<->(x.op=15\/x.op=6\/x.op=10\/x.op=11\/x.op=18\/x.op=23\/x.op=9\/x.op=24)),?_,?_⟩
 ·refine(GN _ _).ay h3 hl λb m4 hb h4 kK=>⟨b,rfl,λnH=>⟨kK,ho.ext h4,by have:=hb.1 nH;simp;omega⟩,λmF=>?_⟩
  have hn:=fb hb mF
  refine⟨λe=>⟨kK,ho.ext h4,by simp at e;simp;omega⟩,λe1=>⟨λe=>⟨kK,ho.ext h4,by simp at e;simp;omega⟩,λe2=>⟨λe=>⟨kK,ho.ext h4,by simp at e;simp;omega⟩,λe3=>⟨kK,ho.ext h4,by simp at e1 e2 e3;simp;omega⟩⟩⟩⟩
 ·rintro v m4 ⟨h4,ho4,hv⟩
  refine⟨λhvt=>?_,λhvf=>?_⟩
  ·have hT:=hv.1 hvt
   refine cN (n:=x.args.length) ab (λk s m'=>af m2 m'/\gQ m2 m' au 1 s ((if x.op=9\/x.op=24 then oZ im x k else x.args.take k).map Ce.i)) ⟨h4,by simpa[oZ,gE]using ho4⟩ ?_
   rintro k s m5 I μ hk ⟨h5,ho5⟩ next
   have vP:=dA.trans h5
   refine⟨λcA=>?_,λFG=>?_⟩
   ·simp only[aFP]at cA
    obtain⟨y,hy⟩:=ae (l:=x.args) (k:=k) ab
    have hun:oZ im x (k+1)=oZ im x k++gE im x k [y]:=by
     unfold oZ;rw[bn hy,BC];simp;congr 2;omega
    refine(pJ (h.ext vP) hc a j k).ay h5 hl λb m6 hb h6 h62=>⟨b,rfl,λnH=>?_,λmF=>?_⟩
    ·have Ju:=nb hb nH
     refine⟨ab,ab,y,by simpa using(ha.ext (dA.trans h62)).aE hy,?_⟩
     intro m7
     have avr:(if x.op=9\/x.op=24 then oZ im x k else x.args.take k).length<=k:=by
      split
      ·refine aF8 (CY _ _ _ _) ?_;simp;omega
      ·simp;omega
     refine rf (ho5.ext h6) h62 ab λr m8 q1 q2=>?_
     refine⟨af.CZ (h62.aC _) q2 hl,next ab _ _ ⟨q2,?_⟩⟩
     by_cases e:x.op=9\/x.op=24
     ·rw[aFW e]at q1⊢
      rw[hun]
      have:gE im x k [y]=[y]:=by
       simp only[gE];rw[aFS (λhl=>Ju ⟨e,hl⟩)]
      rw[this];exact q1
     ·rw[aFS e]at q1⊢
      rw[bn hy];exact q1
    ·have Ju:=yb hb mF
     refine next ab _ _ ⟨h62,?_⟩
     have ho6:=ho5.ext h6
     rw[aFW Ju.1]at ho6⊢
     rw[hun]
     have:gE im x k [y]=[]:=by
      simp only[gE];rw[aFW Ju.2]
     rw[this,aGP];exact ho6
   ·simp only[aFQ]at FG
    refine⟨s,rfl,?_,vP⟩
    have e2:cz im x=if x.op=9\/x.op=24 then oZ im x k else x.args.take k:=by
     have e3:x.args.take k=x.args:=bL ab;unfold cz oZ;rw[e3];by_cases e:x.op=9\/x.op=24
     ·rw[aFS ab,aFS ab,aFW e,aFW e]
     ·rw[aFW ab,aFS e]
    rw[e2];exact Zd ho5
  ·have hT:¬(x.op=15\/x.op=6\/x.op=10\/x.op=11\/x.op=18\/x.op=23\/x.op=9\/x.op=24):=λe=>by have:=hv.2 e;rw[hvf]at this;simp at this
   have kK:=dA.trans h4
   have jm:∀e:x.op=16\/x.op=17,(0:Int)<=(0:Int)/\(0:Int)<(a.len:Int)/\∃v63:Int,ad m4 a.ao (a.off+Int.toNat (0:Int)*1)=some (vi v63)/\
    gA (m4.push (.cells (aU [.i v63]) 3)) 3 [.i (0:Int)] 8 (Sl.mk m2.size 0 0 0) (Sl.mk m4.size 0 1 1) λr65 zD=>da [m1.size,m.size] (m4.push (.cells (aU [.i v63]) 3)) zD/\∃s,Sl.v r65=Sl.v s/\gQ m zD au 1 s ((cz im x).map Ce.i)/\af m zD:=λe=>by
    have h1:=FI e
    obtain⟨y,hy⟩:=ae (l:=x.args) (k:=0) ab
    refine⟨ab,ab,y,by simpa using(ha.ext kK).aE hy,rf (l:=[]) ho4 h4 az λr m8 q1 q2=>⟨af.CZ (h4.aC _) q2 hl,r,rfl,?_,dA.trans q2⟩⟩
    have e2:cz im x=[y]:=by
     unfold cz;rw[aFS ab,aFW e];cases fV:x.args with
     |nil=>rw[fV]at hy;simp at hy
     |cons z l=>rw[fV]at hy;simp at hy;subst hy;rfl
    rw[e2];exact Zd q1
   refine⟨λe=>jm (Or.inl (by simpa using e)),λe1=>⟨λe=>jm (Or.inr (by simpa using e)),λe2=>⟨_,rfl,?_,kK⟩⟩⟩
   have e3:cz im x=[]:=by
    simp at e1 e2;unfold cz;rw[aFS ab,aFS ab,aFS ab]
   rw[e3];exact Zd ho4
theorem eC{m:ah}{s:Sl}{l:List Int}(hl:aj m s l)(xp:l.length<=1000000000):od 72 [Sl.v s] m l:=by
 apply kZ;intro m1;have h1:af m m1:=(af.av m).aC _;have ho:gQ m m1 au 1 (.mk m.size 0 0 0) []:=gQ.new (af.av m) au 1 [] 0 az;have ly:=hl.len;refine gQ.append (zs:=[.i 0]) (new:=l.map Ce.i) ho h1 (by simp[ly]) (hl.ext h1).RI bg λr m' h1 h2 h3 h4 h5 h6=>⟨r,rfl,by simpa using h1,h2⟩
theorem Kp{m:ah}{s t:Sl}{l r:List Int}(hl:aj m s l)(hr:aj m t r)(xp:l.length+r.length<=1000000000):od 116 [Sl.v s,Sl.v t] m (l++r):=by
 apply sF;refine(eC hl ab).then ab λq m1 h1 h2 h3=>⟨q,rfl,?_⟩;have nL:=hr.len;have hql:=h2.len;refine gQ.append (zs:=[.i 0]) (new:=r.map Ce.i) h1 h3 (by simp[nL]) (hr.ext h3).RI ab λu m' h4 h5 h6 h7 h8 h9=>⟨u,rfl,by simpa using h4,h5⟩
theorem jE{m:ah}{s:Sl}{l:List Int}(hl:aj m s l):cB Tryz.prog 83 [Sl.v s] m (aal l):=by
 apply Cj;have ly:=hl.len;refine dg (n:=l.length) (ly▸hl.eP) (λk m'=>af m m'/\∀y∈l.take k,y=0) ⟨af.av _,az⟩ ?_;rintro k m1 I μ hk ⟨hx,hn⟩ next
 refine⟨λh=>?_,λh=>gP (bM (by simp at h;omega) hn) hx⟩;simp only[aFP]at h;obtain⟨x,dF⟩:=ae (l:=l) (k:=k) ab;refine⟨ab,ab,x,by simpa using hx.ad (hl.aE dF),λh2=>bC (λhz=>?_) hx,λh2=>next ab _ ⟨hx,aZ dF hn (by simpa using h2)⟩⟩;have:=hz x (ak dF);simp at h2;omega
theorem y9{m:ah}{s:Sl}{l:List Int}(hl:aj m s l):cB Tryz.prog 135 [Sl.v s] m (∀o∈l,0<=o):=by
 apply tS;have ly:=hl.len;refine dg (n:=l.length) (ly▸hl.eP) (λk m'=>af m m'/\∀y∈l.take k,0<=y) ⟨af.av _,az⟩ ?_;rintro k m1 I μ hk ⟨hx,hn⟩ next
 refine⟨λh=>?_,λh=>gP (bM (by simp at h;omega) hn) hx⟩;simp only[aFP]at h;obtain⟨x,dF⟩:=ae (l:=l) (k:=k) ab;refine⟨ab,ab,x,by simpa using hx.ad (hl.aE dF),λh2=>bC (λhz=>?_) hx,λh2=>next ab _ ⟨hx,aZ dF hn (by simpa using h2)⟩⟩;have:=hz x (ak dF);simp at h2;omega
theorem oh{m:ah}{s t:Sl}{l r:List Int}(hl:aj m s l)(hr:aj m t r):cB Tryz.prog 171 [Sl.v s,Sl.v t] m (l=r):=by
 apply AA;have ly:=hl.len;have nL:=hr.len;refine⟨λh=>bC (λe=>by subst e;simp at h;omega) (af.av _),λh=>?_⟩;simp at h;refine dg (n:=l.length) (ly▸hl.eP) (λk m'=>af m m'/\l.take k=r.take k) ⟨af.av _,az⟩ ?_;rintro k m1 I μ hk ⟨hx,hn⟩ next
 refine⟨λh=>?_,λh=>gP (by simp at h;rwa[bL ab,bL ab]at hn) hx⟩;simp only[aFP]at h;obtain⟨x,dF⟩:=ae (l:=l) (k:=k) ab;obtain⟨y,Uf⟩:=ae (l:=r) (k:=k) ab;refine⟨ab,ab,x,by simpa using hx.ad (hl.aE dF),ab,ab,y,by simpa using hx.ad (hr.aE Uf),λh2=>bC (λe=>?_) hx,λh2=>next ab _ ⟨hx,?_⟩⟩
 ·subst e;rw[dF]at Uf;simp at Uf;simp at h2;exact h2 Uf
 ·rw[bn dF,bn Uf,hn];simp at h2;rw[h2]
abbrev fv(f:aM)(r o h:Sl):Value:=.agg #[vi f.dJ,vi f.pc,vi f.dst,Sl.v r,Sl.v o,Sl.v h]
abbrev xv(x:Instr)(a j:Sl):Value:=.agg #[vi x.op,vi x.dst,vi x.bh,vi x.bA,Sl.v a,Sl.v j]
theorem C0{m:ah}{f:aM}{r o e:Sl}(hr:aj m r f.an){x:Instr}{a j:Sl}(ha:aj m a x.args)(rI:∀y∈x.args,0<=y/\y<f.an.length):
 cB Tryz.prog 136 [fv f r o e,xv x a j] m (∀y∈x.args,aE f.an y<1000):=by
 apply wM
 simp -zeta only[aw,ax]
 intro m1 m2
 have dA:af m m2:=((af.av m).aC _).aC _
 have hl:∀b∈[m1.size,m.size],b<m2.size:=by simp[m2,m1];omega
 have jK:=ha.len
 have nL:=hr.len
 clear_value m2
 refine dg (n:=x.args.length) (jK▸ha.eP) (λk m'=>af m2 m'/\∀y∈x.args.take k,aE f.an y<1000) ⟨af.av _,az⟩ ?_
 rintro k m3 I μ hk ⟨hx,hn⟩ next
 have lO:=dA.trans hx
 refine⟨λh=>?_,λh=>gP (bM (by simp at h;omega) hn) lO⟩
 simp only[aFP]at h
 obtain⟨y,hy⟩:=ae (l:=x.args) (k:=k) ab
 have Ad:=rI y (ak hy)
 refine⟨ab,ab,y,by simpa using lO.ad (ha.aE hy),Ad.1,ab,aE f.an y,by simpa using lO.ad (hr.GM Ad.1 Ad.2),?_⟩
 refine(cG _ _).ay hx hl λb m4 hb h4 SI=>⟨b,rfl,λnH=>bC (λhz=>?_) (dA.trans SI),λmF=>next ab _ ⟨SI,aZ hy hn ?_⟩⟩
 ·have:=hz y (ak hy);have:=hb.1 nH;omega
 ·have:=fb hb mF;omega
theorem HU(l r:List Int):pG (l++r)=pG l++pG r:=by simp[pG]
theorem rh(l:List Int):(pG l).length<=l.length:=List.length_filter_le _ _
theorem mo{m:ah}{s:Sl}{l:List Int}(hl:aj m s l)(xp:l.length<=100000000):od 170 [Sl.v s] m (pG l):=by
 apply wO;intro m1;have h1:af m m1:=(af.av m).aC _;have ho:gQ m m1 au 1 (.mk m.size 0 0 0) []:=gQ.new (af.av m) au 1 [] 0 az;have ly:=hl.len;clear_value m1;refine cN (n:=l.length) ab (λk s m'=>af m m'/\gQ m m' au 1 s ((pG (l.take k)).map Ce.i)) ⟨h1,by simpa[pG]using ho⟩ ?_;rintro k s m2 I μ hk ⟨hx,Q1⟩ next
 refine⟨λh=>?_,λh=>?_⟩
 ·simp only[aFP]at h;obtain⟨x,dF⟩:=ae (l:=l) (k:=k) ab;refine⟨ab,ab,x,by simpa using hx.ad (hl.aE dF),?_⟩;refine(cG _ _).then λb m3 hb h3=>⟨b,rfl,λnH=>?_,λmF=>?_⟩
  ·have lO:=hx.trans h3;refine⟨ab,ab,x,by simpa using lO.ad (hl.aE dF),?_⟩;intro m4;refine rf (Q1.ext h3) lO (by have:=rh (l.take k);simp at this;omega) λr m5 q1 q2=>next ab _ _ ⟨q2,?_⟩
   rw[bn dF,HU];have:pG [x]=[x]:=by simp[pG,hb.1 nH]
   rw[this];exact q1
  ·refine next ab _ _ ⟨hx.trans h3,?_⟩
   rw[bn dF,HU];have:pG [x]=[]:=by simp[pG];have:=fb hb mF;omega
   rw[this,aGP];exact Q1.ext h3
 ·simp only[aFQ]at h;rw[bL ab]at Q1;exact⟨s,rfl,Q1,hx⟩
theorem pK{m:ah}{f:aM}{r o e:Sl}(hr:aj m r f.an){s:Sl}{l:List Int}(hs:aj m s l)(rI:∀y∈l,0<=y/\y<f.an.length)(xp:l.length<=100000000):
 od 172 [fv f r o e,Sl.v s] m (cp f l):=by
 apply Cr
 simp -zeta only[aw,ax]
 intro m1 m2
 have dF:af m m1:=(af.av m).aC _
 have h2:af m1 m2:=(af.av m1).aC _
 have ho:gQ m1 m2 au 1 (.mk m1.size 0 0 0) []:=gQ.new (af.av m1) au 1 [] 0 az
 have hl:∀b∈[m.size],b<m1.size:=by simp[m1]
 have kQ:=hs.len
 have nL:=hr.len
 clear_value m2
 clear_value m1
 refine cN (n:=l.length) ab (λk s m'=>af m1 m'/\gQ m1 m' au 1 s ((cp f (l.take k)).map Ce.i)) ⟨h2,by simpa[cp]using ho⟩ ?_
 rintro k s m3 I μ hk ⟨hx,Q1⟩ next
 have lO:=dF.trans hx
 refine⟨λh=>?_,λh=>?_⟩
 ·simp only[aFP]at h
  obtain⟨y,hy⟩:=ae (l:=l) (k:=k) ab
  have Ad:=rI y (ak hy)
  refine⟨ab,ab,y,by simpa using lO.ad (hs.aE hy),Ad.1,ab,aE f.an y,by simpa using lO.ad (hr.GM Ad.1 Ad.2),?_⟩
  intro m4
  refine rf Q1 hx (by simp[cp];omega) λq m5 q1 q2=>⟨af.CZ (hx.aC _) q2 hl,next ab _ _ ⟨q2,?_⟩⟩
  rw[bn hy]
  simpa[cp]using q1
 ·simp only[aFQ]at h
  rw[bL ab]at Q1
  exact⟨s,rfl,Q1.bN dF.size,lO⟩
theorem GO{m:ah}{f:aM}{r o e:Sl}(hr:aj m r f.an)(ho:aj m o f.aL){s:Sl}{l:List Int}(hs:aj m s l)(rI:∀y∈l,0<=y/\y<f.an.length)(hlen:f.an.length=f.aL.length)(xp:f.aL.length<=1000000)(kQ:l.length<=1000000)
 (hb:∀w∈f.aL,-1000000000<=w/\w<=1000000000):od 110 [fv f r o e,Sl.v s] m (cF f.an f.aL l):=by
 apply Ap
 simp -zeta only[aw,ax]
 intro m1
 have dF:af m m1:=(af.av m).aC _
 have hl:∀b∈[m.size],b<m1.size:=by simp[m1]
 have aqD:=hs.len
 have nL:=hr.len
 clear_value m1
 refine(eC (ho.ext dF) ab).ay ab hl λq m2 o2 i2 h2=>⟨q,rfl,?_⟩
 have hql:=i2.len
 have iN:∀(l1 l2 aL:List Int),cF f.an aL (l1++l2)=cF f.an (cF f.an aL l1) l2:=by
  intro l1;induction l1 with
  |nil=>intro l2 aL;rfl
  |cons y l1 ih=>intro l2 aL;simp only[aGg,cF,ih]
 have lo:∀(l1 aL:List Int)(n:Int),(∀w∈aL,n<=w)->∀w∈cF f.an aL l1,n -l1.length<=w:=by
  intro l1;induction l1 with
  |nil=>intro aL n h w hw;have:=h w hw;simp;omega
  |cons y l1 ih=>
   intro aL n h w hw;simp only[cF]at hw;have:=ih _ (n -1) (λv hv=>by
    split at hv
    ·rcases aGM (y.toNat<aL.length)with h1|h1
     ·rcases qX hv with hv|hv
      ·have:=h _ (aGW (i:=y.toNat) (a:=aE aL y) (by obtain⟨z,hz⟩:=ae h1;rw[Ow hz];exact hz));omega
      ·have:=h v hv;omega
     ·have e1:fx aL y (aE aL y -1)=aL:=by unfold fx;rw[aHs ab]
      rw[e1]at hv;have:=h v hv;omega
    ·have:=h v hv;omega) w hw
   simp only[aF5];omega
 refine dg (n:=l.length) ab (λk m'=>af m1 m'/\gQ m1 m' au 1 q ((cF f.an f.aL (l.take k)).map Ce.i)) ⟨h2,o2⟩ ?_
 rintro k m3 I μ hk ⟨hx,ho3⟩ next
 have lO:=dF.trans hx
 refine⟨λh=>?_,λh=>?_⟩
 ·simp only[aFP]at h
  obtain⟨y,hy⟩:=ae (l:=l) (k:=k) ab
  have Ad:=rI y (ak hy)
  have avt:=oY f.an (l.take k) f.aL
  refine⟨ab,ab,y,by simpa using lO.ad (hs.aE hy),Ad.1,ab,aE f.an y,by simpa using lO.ad (hr.GM Ad.1 Ad.2),?_⟩
  refine(cG _ _).ay hx hl λb m4 xt h4 SI=>⟨b,rfl,λnH=>?_,λmF=>?_⟩
  ·have kK:=dF.trans SI
   have ho4:=ho3.ext h4
   have i4:aj m4 q (cF f.an f.aL (l.take k)):=aj.fQ ho4 ab
   refine⟨ab,ab,y,by simpa using kK.ad (hs.aE hy),ab,ab,y,by simpa using kK.ad (hs.aE hy),Ad.1,ab,aE (cF f.an f.aL (l.take k)) y,i4.GM Ad.1 ab,Ad.1,ab,?_⟩
   have Dz:=lo (l.take k) f.aL (-1000000000) (λw hw=>(hb w hw).1) _ (fI (l:=cF f.an f.aL (l.take k)) Ad.1 ab)
   have hhi:aE (cF f.an f.aL (l.take k)) y<=1000000000:=by
    obtain⟨q',zB,hle⟩:=rc (l.take k) f.aL y.toNat _ (qW (l:=cF f.an f.aL (l.take k)) Ad.1 ab);have:=(hb q' (ak zB)).2;omega
   have Pf:(l.take k).length<=1000000:=bg
   rw[aF ab ab]
   rcases ho4.aE with aaQ|⟨bb,c,tail,e1,e2,e3,e4,e5⟩
   ·rw[aaQ]at hql;simp at hql;omega
   ·have OM:q.off=0:=by rw[e1];rfl
    have XB:q.ao=bb:=by rw[e1];rfl
    rw[OM,XB]
    have abe:0+y.toNat*1=y.toNat:=ab
    rw[abe]
    have cA:y.toNat<((cF f.an f.aL (l.take k)).map Ce.i).length:=bg
    refine⟨e3.dW (by simp only[aF4];omega),?_⟩
    intro m5
    have q1:af m1 m5:=SI.ag e2 _ _
    refine⟨af.CZ SI q1 hl,next ab _ ⟨q1,?_⟩⟩
    rw[bn hy,iN]
    simp only[cF,aFW (xt.1 nH)]
    refine⟨by rw[aGy,iK,<-aGy (f:=Ce.i)];exact ho4.len,Or.inr ⟨bb,c,tail,e1,e2,?_,?_,e5⟩⟩
    ·have:=bK.ag (m:=m4) (o:=y.toNat) (r:=[.i (aE (cF f.an f.aL (l.take k)) y -1)]) e3
     have e6:fP ((cF f.an f.aL (l.take k)).map Ce.i++tail) y.toNat [.i (aE (cF f.an f.aL (l.take k)) y -1)]=(fx (cF f.an f.aL (l.take k)) y (aE (cF f.an f.aL (l.take k)) y -1)).map Ce.i++tail:=by
      simp only[fP,fx,aHE];rw[aIa _ _ cA]
     rw[e6]at this;exact this
    ·simp only[aF4,aGy,iK]at e4⊢;exact e4
  ·refine next ab _ ⟨SI,?_⟩
   rw[bn hy,iN]
   simp only[cF,aFS (fb xt mF)]
   exact ho3.ext h4
 ·simp only[aFQ]at h
  rw[bL ab]at ho3
  exact⟨q,rfl,ho3.bN dF.size,lO⟩
theorem dH{m:ah}{mb:Nat}{d p aT hp fr:Sl}{im:bq}{s:St}(V:RV m mb 2 d p aT hp fr im s){w:Int}(hw:1000<=w){c:aR}(hc:s.heap[ix w]? =some c):
 aD Tryz.prog 140 [vp mb 0,vi w] m λv m'=>∃f,v=.agg #[vi c.aG,vi c.jW,Sl.v f]/\aj m' f c.aB/\af m m':=by
 apply rT (mb,0)
 simp -zeta only[aw,ax]
 intro m1
 have dF:af m m1:=(af.av m).aC _
 have hh:=cy.ext dF V.heap
 obtain⟨f,hf,g0,g1,g2⟩:=hh.aE hc
 have hl:=hh.len
 have zG:=hh.eP
 have cA:=ap hc
 unfold ix at cA g0 g1 g2
 have e:bS (w -1000)=w -1000:=aF ab ab
 rw[e]
 refine⟨hp,dF.ad V.EH,ab,ab,c.aG,g0,c.jW,g1,f,g2,?_⟩
 intro m2
 have dA:af m m2:=dF.ag (aFR _) _ _
 obtain⟨f',OO,k0,k1,k2⟩:=(cy.ext dA V.heap).aE hc
 unfold ix at k2
 have hff:f'=f:=by
  have h1:=dF.ad (V.EH);obtain⟨f0,ZC,_,_,q2⟩:=V.heap.aE hc;unfold ix at q2;have e1:=dF.ad q2;have e2:=dA.ad q2;rw[g2]at e1;rw[k2]at e2;simp at e1 e2;rw[Sl.HN]at e1 e2;rw[e1,e2]
 subst hff
 exact⟨f',rfl,OO,dA⟩
theorem sP{m:ah}{mb:Nat}{d p aT hp fr:Sl}{im:bq}{s:St}(V:RV m mb 2 d p aT hp fr im s){e:Nat->Int}(hI:dZ s.heap e){ws:Sl}{l:List Int}(hs:aj m ws l)(hl:∀w∈l,gJ s.heap w)(xp:l.length<=1000000):
 cB Tryz.prog 169 [vp mb 0,Sl.v ws] m (mD s.heap l):=by
 apply pD (mb,0)
 have kQ:=hs.len
 refine dg (n:=l.length) ab (λk m'=>af m m'/\∀w∈l.take k,1000<=w->(aK s.heap w).aG+cX l (ix w)<=999999) ⟨af.av _,az⟩ ?_
 rintro k m1 I μ hk ⟨hx,hn⟩ next
 refine⟨λh=>?_,λh=>gP (bM (by simp at h;omega) hn) hx⟩
 simp only[aFP]at h
 obtain⟨x,dF⟩:=ae (l:=l) (k:=k) ab
 have hlx:=hl x (ak dF)
 have hpx:=fD hlx.1
 refine cN (n:=l.length) ab (λj(many:Int) m'=>af m m'/\many=cX (l.take j) (ix x)) ⟨hx,by simp[cX]⟩ ?_
 rintro j many m2 I2 μ2 hj ⟨dA,rfl⟩ eN
 refine⟨λh2=>?_,λh2=>?_⟩
 ·simp only[aFP]at h2
  obtain⟨y,hy⟩:=ae (l:=l) (k:=j) ab
  have hle:=iS (l.take j) (ix x)
  have FG:=fp (l.take j) (ix x)
  have cA:(l.take j).length<=1000000:=bg
  have hoc:cX (l.take (j+1)) (ix x)=cX (l.take j) (ix x)+if y=x then 1 else 0:=by
   rw[bn hy,mh];simp only[cX,hpx];omega
  refine⟨ab,ab,y,by simpa using dA.ad (hs.aE hy),ab,ab,x,by simpa using dA.ad (hs.aE dF),λh3=>eN ab _ _ ⟨dA,?_⟩,λh3=>eN ab _ _ ⟨dA,?_⟩⟩
  ·simp at h3;rw[hoc,aFW h3];exact aF ab ab
  ·simp at h3;rw[hoc,aFS h3];omega
 ·simp only[aFQ]at h2
  rw[bL ab]
  have hle:=iS l (ix x)
  have FG:=fp l (ix x)
  obtain⟨hc,sX⟩:=bE hlx
  have hmx:=(hI.cell _ (ak hc)).hi
  refine⟨ab,ab,x,by simpa using dA.ad (hs.aE dF),?_⟩
  refine(dH (V.ext dA) hlx.1 hc).mono ?_
  rintro _ m3 ⟨f,rfl,hf,h3⟩
  have e1:bS ((aK s.heap x).aG+cX l (ix x))=(aK s.heap x).aG+cX l (ix x):=aF ab ab
  refine⟨_,_,_,rfl,λh4=>bC (λhF=>?_) (dA.trans h3),λh4=>next ab _ ⟨dA.trans h3,aZ dF hn λ_=>?_⟩⟩
  ·have:=hF x (ak dF) hlx.1
   rw[e1]at h4;simp at h4;omega
  ·rw[e1]at h4;simp at h4;omega
theorem rj{h:List aR}{l:List Int}:mD h (pG l)<->mD h l:=by
 unfold mD;constructor
 ·intro hf w hw hp;have:=hf w (lE.2 ⟨hw,hp⟩) hp;rwa[ui]at this
 ·intro hf w hw hp;rw[ui];exact hf w (lE.1 hw).1 hp
theorem ajs{m:ah}{s:Sl}{l:List Int}(h:aj m s l)(h1:1<=l.length):aj m (Sl.cut s 1 s.len 1) (l.drop 1):=by
 have hl:=h.len;have hc:=h.cap;have zG:=h.eP;cases s with
 |nil=>simp at hl;omega
 |BV b o sp=>simp at hl;omega
 |mk b o len cap=>
  simp at hl hc zG;refine⟨by simp[Sl.cut];omega,by simp[Sl.cut];omega,by simp[Sl.cut];omega,λk x hk=>?_⟩;rw[aHk]at hk;have cA:=ap hk;obtain⟨cs,kJ,ji⟩:=h.iu (1+k) x hk;refine⟨cs,kJ,λi c hic=>?_⟩;have:=ji i c hic;simp only[Sl.cut,Sl.gN,Sl.lQ]at this⊢;rw[aFS ab];rw[<-this];congr 1;omega
theorem eM.uo{im:bq}{f:aM}(h:eM im f){r:Int}(h0:0<=r)(h1:r<f.an.length)(dp:∀w∈f.an,w<=9223372036854775807): -9223372036854775808<=aE f.an r/\aE f.an r<=9223372036854775807:=by
 have hm:=fI (l:=f.an) h0 h1;refine⟨?_,dp _ hm⟩;rcases h.Rz _ hm with h2|h2
 ·have:=h2.1;omega
 ·omega
theorem IN{m:ah}{mb:Nat}{d p aT hp fr:Sl}{im:bq}{s:St}(V:RV m mb 2 d p aT hp fr im s){e:Nat->Int}(hI:dZ s.heap e){f:aM}{r o h:Sl}(hr:aj m r f.an)(hh:aj m h f.aQ){x:Instr}{a j:Sl}(ha:aj m a x.args)
 (hF:eM im f)(dp:∀w∈f.an,w<=9223372036854775807)(rI:∀y∈x.args,0<=y/\y<f.an.length)(hlen:1<=x.args.length/\x.args.length<=4)(pu:x.op=16\/x.op=17):
 cB Tryz.prog 141 [vp mb 0,fv f r o h,xv x a j] m (Ot s.heap f x):=by
 apply qI (mb,0)
 simp -zeta only[aw,ax]
 intro m1 m2
 have dA:af m m2:=((af.av m).aC _).aC _
 have hl:∀b∈[m1.size,m.size],b<m2.size:=by simp[m2,m1];omega
 have jK:=ha.len
 have nL:=hr.len
 have Up:=hh.len
 have hac:=ha.cap
 clear_value m2
 have h0:0<=aE x.args 0/\aE x.args 0<f.an.length:=rI _ (fI ab ab)
 have h0h:aE x.args 0<f.aQ.length:=by have:=hF.lr;have:=hF.lh;omega
 have hrg:=hF.uo h0.1 h0.2 dp
 refine⟨ab,ab,aE x.args 0,(ha.ext dA).GM ab ab,h0.1,ab,aE f.an (aE x.args 0),(hr.ext dA).GM h0.1 h0.2,hp,dA.ad V.EH,?_⟩
 unfold Ot
 simp only[]
 generalize avw:aE f.an (aE x.args 0)=w at*
 refine(ft (cy.ext dA V.heap) hrg).ay (af.av _) hl λb m3 hb h3 _=>⟨b,rfl,λnH=>bC (λhM=>nb hb nH hM.1) (dA.trans h3),λmF=>?_⟩
 have iz:=yb hb mF
 obtain⟨hc,qB⟩:=bE iz
 have Vz:=(hI.cell _ (ak hc)).fl
 have lO:=dA.trans h3
 refine((dH (V.ext lO) iz.1 hc)).ay h3 hl ?_
 rintro _ m4 ⟨fl,rfl,gL,h4⟩
 have mH:=h3.trans h4
 refine⟨h4,_,_,_,rfl,(mo gL ab).ay (by have:=rh (aK s.heap w).aB;omega) (λb hb=>mH.lt (hl b hb)) λps m5 o5 i5 h5=>⟨ps,rfl,ab,ab,ab,?_⟩⟩
 have Lz:=mH.trans h5
 have vP:=dA.trans Lz
 have e1:(Int.toNat (1:Int))=1:=rfl
 have e2:(Int.toNat (a.len:Int))=a.len:=ab
 rw[e1,e2]
 refine(pK (hr.ext vP) (ajs (ha.ext vP) ab) (λy hy=>rI y (aH9 hy)) bg).ay (by simp[cp];omega) (λb hb=>Lz.lt (hl b hb)) λqs m6 o6 i6 h6=>⟨qs,rfl,?_⟩
 have V3:=Lz.trans h6
 refine(oh (i5.ext h6) i6).ay V3 hl λb2 m7 lz h7 h27=>⟨b2,rfl,λLy=>?_,λHz=>bC (λhM=>fb lz Hz hM.2.1) (dA.trans h27)⟩
 have NK:=lz.1 Ly
 refine(dH (V.ext (dA.trans h27)) iz.1 hc).ay h27 hl ?_
 rintro _ m8 ⟨fl8,rfl,azK,h8⟩
 have h28:=h27.trans h8
 refine⟨h8,_,_,_,rfl,λh1=>?_,λh1=>?_⟩
 ·simp at h1
  have xg:=dA.trans h28
  refine⟨λFI=>gP ⟨iz,NK,Or.inl h1,λe=>by simp at FI;omega⟩ xg,λFI=>⟨ab,ab,aE x.args 0,(ha.ext xg).GM ab ab,h0.1,ab,aE f.aQ (aE x.args 0),(hh.ext xg).GM h0.1 h0h,ez ?_ xg⟩⟩
  simp only[aFZ,aFU,ne_eq]at FI⊢
  exact⟨λhz=>⟨iz,NK,Or.inl h1,λ_=>hz⟩,λhM=>hM.2.2.2 ab⟩
 ·simp at h1
  refine(sP (V.ext (dA.trans h28)) hI (i5.ext ((h6.trans h7).trans h8)) (λv hv=>hI.field (ak hc) (lE.1 hv).1 (lE.1 hv).2) (by have:=rh (aK s.heap w).aB;omega)).ay h28 hl λb3 m9 uD h9 h29=>⟨b3,rfl,λagq=>?_,λagr=>bC (λhM=>?_) (dA.trans h29)⟩
  ·have hcf:=rj.1 (uD.1 agq)
   have Jw:=dA.trans h29
   refine⟨λFI=>gP ⟨iz,NK,Or.inr hcf,λe=>by simp at FI;omega⟩ Jw,λFI=>⟨ab,ab,aE x.args 0,(ha.ext Jw).GM ab ab,h0.1,ab,aE f.aQ (aE x.args 0),(hh.ext Jw).GM h0.1 h0h,ez ?_ Jw⟩⟩
   simp only[aFZ,aFU,ne_eq]at FI⊢
   exact⟨λhz=>⟨iz,NK,Or.inr hcf,λ_=>hz⟩,λhM=>hM.2.2.2 ab⟩
  ·rcases hM.2.2.1 with h2|h2
   ·exact h1 h2
   ·exact fb uD agr (rj.2 h2)
theorem GQ{m:ah}{mb:Nat}{d p aT hp fr:Sl}{im:bq}{s:St}(V:RV m mb 2 d p aT hp fr im s)(qD:kN im){e:Nat->Int}(hI:dZ s.heap e){w:Int}(hw: -9223372036854775808<=w/\w<=9223372036854775807):
 cB Tryz.prog 139 [vp mb 0,vi w] m (Ey im s.heap w):=by
 apply ql (mb,0)
 simp -zeta only[aw,ax]
 refine⟨hp,V.EH,(ft V.heap hw).then λb m1 hb h1=>⟨b,rfl,λnH=>bC (λhM=>nb hb nH hM.1) h1,λmF=>?_⟩⟩
 have iz:=yb hb mF
 obtain⟨hc,qB⟩:=bE iz
 have hCO:=hI.cell _ (ak hc)
 have ML:=(hCO.nM qB).2
 refine(dH (V.ext h1) iz.1 hc).mono ?_
 rintro _ m2 ⟨fl,rfl,gL,h2⟩
 refine⟨_,_,_,rfl,?_⟩
 intro m3 m4
 have dA:=h1.trans h2
 have mH:af m2 m4:=((af.av m2).aC _).ag (aFR _) _ _
 have s4:m4.size=m2.size+1:=by simp[m4,m3,aq]
 have hB:ad m4 m2.size 1=some (vi (aK s.heap w).jW):=(bK.ag (m:=m3) (o:=0) (r:=[.i (aK s.heap w).aG,.i (aK s.heap w).jW,.s fl]) (bK.push m2 _ _)).bH 1
 have hl:∀b∈[m2.size],b<m4.size:=by simp[s4]
 clear_value m4
 have kK:=dA.trans mH
 have hV4:=V.ext kK
 have tA:=V.eG.bJ.len
 have Pe:=qD.oQ.len
 have nJ:(dv im.aI).length<=12:=by
  have:=qL qD.oQ.types im.aI.length;rw[lY _ _ (aFR _)]at this;exact this
 refine⟨d,hV4.aI,(nU hV4.eG.aI qD.oQ.types).ay (af.av _) hl λm5 h5 _=>⟨_,rfl,h5.cr hB,p,(V.ext (kK.trans h5)).bJ,?_⟩⟩
 have vP:=kK.trans h5
 have e1:bS ((aK s.heap w).jW -((dv im.aI).length:Int))=(aK s.heap w).jW -eD im:=aF ab ab
 have e2:bS ((p.len:Int) -1)=(p.len:Int) -1:=aF ab ab
 rw[e1,e2]
 refine(aJ _ _ _ _).ay h5 hl λb2 m6 lz h6 h46=>⟨b2,rfl,λLy=>?_,λHz=>bC (λhM=>fb lz Hz ⟨hM.2.1,by have:=hM.2.2.1;omega⟩) (kK.trans h46)⟩
 have hrg:=lz.1 Ly
 have Fw:=kK.trans h46
 have hV6:=V.ext Fw
 obtain⟨q,hq⟩:=ae (l:=im.bJ) (k:=((aK s.heap w).jW -eD im).toNat) ab
 have xy:cP im ((aK s.heap w).jW -eD im)=q:=by simp[cP,hq]
 obtain⟨a',l',c',FH,BP,uI,g0,g1,_⟩:=hV6.eG.bJ.aE hq
 have jK:=FH.len
 have ly:=BP.len
 have QP:=gL.len
 have Vz:=hCO.fl
 have e3:bS ((fl.len:Int)+1)=(fl.len:Int)+1:=aF ab ab
 rw[e3]
 unfold Ey
 rw[xy]
 refine⟨p,hV6.bJ,ab,ab,a',g0,λh7=>⟨p,hV6.bJ,ab,ab,l',g1,λh8=>⟨λh9=>?_,λh9=>?_⟩,λh8=>bC (λhM=>?_) Fw⟩,λh7=>bC (λhM=>?_) Fw⟩
 ·simp at h7 h8 h9
  exact gP ⟨iz,hrg.1,ab,ab,ab,Or.inl h9⟩ Fw
 ·simp at h7 h8 h9
  refine(mo (gL.ext (mH.trans h46)) ab).ay (by have:=rh (aK s.heap w).aB;omega) (λb hb=>h46.lt (hl b hb)) λps m7 o7 i7 ln=>⟨ps,rfl,?_⟩
  have h47:=h46.trans ln
  refine(sP (V.ext (kK.trans h47)) hI i7 (λv hv=>hI.field (ak hc) (lE.1 hv).1 (lE.1 hv).2) (by have:=rh (aK s.heap w).aB;omega)).ay h47 hl λb3 m8 uD jV h48=>⟨b3,rfl,ez ?_ (kK.trans h48)⟩
  rw[uD,rj]
  refine⟨λhcf=>⟨iz,hrg.1,ab,ab,ab,Or.inr hcf⟩,λhM=>?_⟩
  rcases hM.2.2.2.2.2 with h2|h2
  ·exact absurd h2 h9
  ·exact h2
 ·have:=hM.2.2.2.2.1;simp at h8;omega
 ·have:=hM.2.2.2.1;simp at h7;omega
theorem GU{m:ah}{mb:Nat}{d p aT hp fr:Sl}{im:bq}{s:St}(V:RV m mb 2 d p aT hp fr im s){f:aM}{r o h:Sl}(hh:aj m h f.aQ){x:Instr}{a j:Sl}(ha:aj m a x.args)(ak9:0<=x.bA/\x.bA<=f.aQ.length)(zG:f.aQ.length<=1000000)
 (Y9:∀w∈f.aQ,w≠0->1000<=w/\∃c,s.heap[ix w]? =some c):
 cB Tryz.prog 137 [vp mb 0,fv f r o h,xv x a j] m (Kc s.heap f x):=by
 apply qe (mb,0)
 simp -zeta only[aw,ax]
 intro m1 m2
 have dA:af m m2:=((af.av m).aC _).aC _
 have hl:∀b∈[m1.size,m.size],b<m2.size:=by simp[m2,m1];omega
 have hB:ad m2 m1.size 4=some (Sl.v a):=(bK.push m1 _ _).bH 4
 have jK:=ha.len
 have Up:=hh.len
 clear_value m2
 unfold Kc
 refine⟨λh0=>gP (λcx=>absurd (by simpa using h0) cx) dA,λh0=>?_⟩
 simp at h0
 have e:bS (x.bA -1)=x.bA -1:=aF ab ab
 rw[e]
 have hg:=(hh.ext dA).GM (i:=x.bA -1) ab ab
 refine⟨ab,ab,aE f.aQ (x.bA -1),hg,λh1=>gP (λ_ cx=>absurd (by simpa using h1) cx) dA,λh1=>?_⟩
 simp at h1
 obtain⟨hw,c,hc⟩:=Y9 _ (fI (l:=f.aQ) (i:=x.bA -1) ab ab) h1
 refine⟨ab,ab,aE f.aQ (x.bA -1),hg,(dH (V.ext dA) hw hc).ay (af.av _) hl ?_⟩
 rintro _ m3 ⟨fl,rfl,gL,h3⟩
 have QP:=gL.len
 have hce:aK s.heap (aE f.aQ (x.bA -1))=c:=by simp[aK,hc]
 refine⟨h3,_,_,_,rfl,h3.cr hB,ez ?_ (dA.trans h3)⟩
 rw[hce]
 simp
 exact⟨λh2 _ _=>ab,λh2=>by have:=h2 h0 h1;omega⟩
theorem tz(im:bq)(x:Instr):∀(l r:List Int)(k:Nat),kv im x k (l++r)=kv im x k l++kv im x (k+l.length) r
 |[],r,k=>by simp[kv]
 |a::l,r,k=>by
  have:=tz im x l r (k+1);simp only[aGg,kv,this,aF5];have e:k+(l.length+1)=k+1+l.length:=ab;rw[e];split<;>simp
theorem uq{m:ah}{mb:Nat}{d p aT hp fr:Sl}{im:bq}{s:St}(V:RV m mb 2 d p aT hp fr im s){f:aM}{r o h:Sl}(hr:aj m r f.an){x:Instr}{a j:Sl}(ha:aj m a x.args)(hF:eM im f)(dp:∀w∈f.an,w<=9223372036854775807)
 (rI:∀y∈x.args,0<=y/\y<f.an.length)(hc:CX im x)(pu:x.op=9\/x.op=24):
 cB Tryz.prog 138 [vp mb 0,fv f r o h,xv x a j] m (PY im s.heap f x):=by
 apply qj (mb,0)
 simp -zeta only[aw,ax]
 intro m1 m2
 have dA:af m m2:=((af.av m).aC _).aC _
 have hl:∀b∈[m1.size,m.size],b<m2.size:=by simp[m2,m1];omega
 have jK:=ha.len
 have nL:=hr.len
 clear_value m2
 refine dg (n:=x.args.length) (jK▸ha.eP) (λk m'=>af m2 m'/\∀y∈kv im x 0 (x.args.take k),1000<=aE f.an y->gJ s.heap (aE f.an y)) ⟨af.av _,by simp[kv]⟩ ?_
 rintro k m3 I μ hk ⟨hx,hn⟩ next
 have lO:=dA.trans hx
 refine⟨λh=>?_,λh=>gP (by simp at h;rwa[bL ab]at hn) lO⟩
 simp only[aFP]at h
 obtain⟨y,hy⟩:=ae (l:=x.args) (k:=k) ab
 have Ad:=rI y (ak hy)
 have hV3:=V.ext lO
 have LA:kv im x 0 (x.args.take (k+1))=kv im x 0 (x.args.take k)++kv im x k [y]:=by
  rw[bn hy,tz];congr 2;simp;omega
 have Ze:(mg im x k=true->1000<=aE f.an y->gJ s.heap (aE f.an y))->∀z∈kv im x 0 (x.args.take (k+1)),1000<=aE f.an z->gJ s.heap (aE f.an z):=λhh z hz=>by
  rw[LA]at hz;rcases List.mem_append.1 hz with hz|hz
  ·exact hn z hz
  ·simp only[kv]at hz;split at hz
   ·rename_i hli;simp at hz;subst hz;exact hh hli
   ·simp at hz
 have OP:mg im x k=true->y∈kv im x 0 x.args:=λhli=>by
  have e1:x.args=x.args.take (k+1)++x.args.drop (k+1):=(aGi _ _).symm;rw[e1,tz,LA];refine aF7 _ (aGu _ ?_);simp only[kv];rw[aFW hli];simp
 refine⟨ab,ab,y,by simpa using lO.ad (ha.aE hy),Ad.1,ab,aE f.an y,by simpa using lO.ad (hr.GM Ad.1 Ad.2),d,hV3.aI,p,hV3.bJ,?_⟩
 refine(pJ hV3.eG hc a j k).ay hx hl λb m4 hb h4 SI=>⟨b,rfl,λnH=>?_,λmF=>next ab _ ⟨SI,Ze λhli=>absurd ⟨pu,hli⟩ (fb hb mF)⟩⟩
 have hli:=(hb.1 nH).2
 refine(cG _ _).ay SI hl λb2 m5 lz h5 h52=>⟨b2,rfl,λLy=>?_,λHz=>next ab _ ⟨h52,Ze λ_ hp=>absurd hp (fb lz Hz)⟩⟩
 have vP:=dA.trans h52
 refine⟨hp,(V.ext vP).EH,(ft (cy.ext vP V.heap) (hF.uo Ad.1 Ad.2 dp)).ay h52 hl λb3 m6 uD h6 h62=>⟨b3,rfl,λh7=>bC (λhM=>nb uD h7 (hM y (OP hli) (lz.1 Ly))) (dA.trans h62),λh7=>next ab _ ⟨h62,Ze λ_ _=>yb uD h7⟩⟩⟩
section
structure C1(im:bq)(s:St)(fs:List aM)(f:aM)(x:Instr):Prop where
 ok:bR im s
 run:s.bT=3
 fr:s.ai=fs++[f]
 cur:dR im f=x
 zc:∀g∈s.ai,∀w∈g.an,w<=9223372036854775807
section
variable{im:bq}{s:St}{fs:List aM}{f:aM}{x:Instr}
theorem C1.F(c:C1 im s fs f x):eM im f:=c.ok.ai f (by rw[c.fr];simp)
theorem C1.RJ(c:C1 im s fs f x):∀w∈f.an,w<=9223372036854775807:=c.zc f (by rw[c.fr];simp)
theorem C1.I(c:C1 im s fs f x):∃p,im.bJ[f.dJ.toNat]? =some p/\cP im f.dJ=p/\Gm im p/\p.bP[f.pc.toNat]? =some x/\fe im p f.pc.toNat x:=by
 have:=c.F.Ki c.ok.eG;rwa[c.cur]at this
theorem C1.Mm(c:C1 im s fs f x):f.an.length=f.aL.length/\f.aQ.length=f.aL.length/\1<=f.aL.length/\f.aL.length<=2000:=by
 obtain⟨p,_,e,hp,_,_⟩:=c.I;have h1:=c.F.lr;have h2:=c.F.lo;have h3:=c.F.lh;rw[e]at h1 h2 h3;have:=hp.an;omega
theorem C1.arg(c:C1 im s fs f x):∀y∈x.args,0<=y/\y<f.an.length:=λy hy=>by
 obtain⟨p,_,e,_,_,hI⟩:=c.I;have h1:=c.F.lr;rw[e]at h1;have:=hI.args y hy;omega
theorem C1.dst(c:C1 im s fs f x):0<=x.dst/\x.dst<f.aL.length:=by
 obtain⟨p,_,e,_,_,hI⟩:=c.I;have h1:=c.F.lo;rw[e]at h1;have:=hI.dst;omega
theorem C1.call(c:C1 im s fs f x):CX im x:=let⟨_,_,_,_,_,hI⟩:=c.I;hI.call
theorem C1.opc(c:C1 im s fs f x):0<=x.op/\x.op<=24/\x.op≠7/\x.op≠8/\x.op≠12/\x.op≠13:=by
 obtain⟨p,_,_,hP,_,hI⟩:=c.I;exact((HT hP.an.2.2 c.ok.eG.oQ.len.2 λq hq=>(c.ok.eG.oQ.cq q hq).1).1 hI).1
theorem C1.Tw(c:C1 im s fs f x):x.args.length<=4/\((x.op=5\/x.op=14\/x.op=15\/x.op=18\/x.op=23\/x.op=19\/x.op=20\/x.op=21)->x.args.length=1)/\((x.op=1\/x.op=2\/x.op=3\/x.op=4\/x.op=11)->x.args.length=2)/\
 ((x.op=16\/x.op=17)->1<=x.args.length)/\(x.op=6->0<=x.bA/\x.bA<=f.aQ.length/\0<=x.bh/\x.bh<12/\x.args.length<=3)/\(x.op=10->0<=x.bh/\x.bh<4/\x.args.length<=3)/\(x.op=0->-999<=x.bh/\x.bh<=999):=by
 obtain⟨p,_,e,hP,_,hI⟩:=c.I
 have iX:=hI.op
 have h1:=c.F.lh
 rw[e]at h1
 have Jl:=c.ok.eG.oQ
 have nJ:(dv im.aI).length<=12:=by
  have:=qL Jl.types im.aI.length;rw[lY _ _ (aFR _)]at this;exact this
 have h3:=HP Jl.types x.bh
 unfold kj at iX
 by_cases e0:x.op=0
 ·rw[aFW e0]at iX;omega
 rw[aFS e0]at iX
 by_cases e1:x.op=1\/x.op=2\/x.op=3\/x.op=4\/x.op=11
 ·rw[aFW e1]at iX;omega
 rw[aFS e1]at iX
 by_cases e2:x.op=5\/x.op=14\/x.op=15\/x.op=18\/x.op=23
 ·rw[aFW e2]at iX;omega
 rw[aFS e2]at iX
 by_cases e3:x.op=6
 ·rw[aFW e3]at iX;omega
 rw[aFS e3]at iX
 by_cases e4:x.op=9\/x.op=24
 ·rw[aFW e4]at iX
  obtain⟨q,h5,h6,h7⟩:=iX
  have:=(Jl.cq q (ak h6)).1;omega
 rw[aFS e4]at iX
 by_cases e5:x.op=10
 ·rw[aFW e5]at iX
  obtain⟨⟨q,h5,h6,h7⟩,_⟩:=iX
  have:=(Jl.cq q (ak h6)).1
  have:=ap h6
  have:=Jl.len;omega
 rw[aFS e5]at iX
 by_cases e6:x.op=16\/x.op=17
 ·rw[aFW e6]at iX;omega
 rw[aFS e6]at iX
 by_cases e7:x.op=19
 ·rw[aFW e7]at iX;omega
 rw[aFS e7]at iX
 by_cases e8:x.op=20
 ·rw[aFW e8]at iX;omega
 rw[aFS e8]at iX
 by_cases e9:x.op=22
 ·rw[aFW e9]at iX;omega
 rw[aFS e9]at iX
 by_cases tE:x.op=21
 ·rw[aFW tE]at iX
  have:=iX.1;omega
 rw[aFS tE]at iX;exact iX.elim
theorem C1.RK(c:C1 im s fs f x):∀w∈f.aQ,w≠0->1000<=w/\∃d,s.heap[ix w]? =some d/\d.aG<0:=λw hw cx=>by
 have hp:1000<=w:=by have:=c.F.aQ w hw;omega
 refine⟨hp,?_⟩;have hh1:0<holds s.ai (ix w):=by
  rw[c.fr,cQ,fw];have:=uj fs (ix w);have:=sL (l:=f.aQ) (a:=ix w) (by rw[fD hp];exact hw);omega
 exact aGo λhn=>by have:=c.ok.jN (ix w) hn;omega
theorem C1.afe(c:C1 im s fs f x):∀o∈f.aL,0<=o/\o<=999999:=λo ho=>by
 have MO:=c.F.PZ o ho;refine⟨MO,?_⟩;rcases aGM (0<o)with hp|hp
 ·obtain⟨k,hk⟩:=List.mem_iff_getElem?.1 ho;have:=c.Mm;obtain⟨w,hw⟩:=ae (l:=f.an) (k:=k) (by have:=ap hk;omega);have h1:=(c.F.aL k o w hk hw).2 hp;have h2:=Kg c.F.PZ hw hk (a:=ix w) (by rw[fD h1]);have h3:o<=dz s.ai (ix w):=by
   rw[c.fr,dL,iL];have:=Jr (fs:=fs) (λg hg=>c.ok.ai g (by rw[c.fr];exact aF7 _ hg)) (ix w);omega
  obtain⟨d,hd,hdp⟩:=c.ok.heap.lv (ix w) ab;have h4:=c.ok.heap.ex _ d hd hdp;have h5:=oH s.heap (ix w);have h6:=(c.ok.heap.cell d (ak hd)).hi;omega
 ·omega
theorem C1.Tx(c:C1 im s fs f x):∀r∈cz im x,0<=r/\r<f.an.length:=λr hr=>c.arg r (Ng hr)
end
theorem Kq{m:ah}{mb:Nat}{d p aT hp fr:Sl}{im:bq}{s:St}(V:RV m mb 2 d p aT hp fr im s){fs:List aM}{f:aM}{x:Instr}(C:C1 im s fs f x){r o h a j ow:Sl}(hr:aj m r f.an)(hh:aj m h f.aQ)(ha:aj m a x.args){aL:List Int}(ZR:aj m ow aL)(If:aL.length=f.aL.length):
 cB Tryz.prog 112 [vp mb 0,fv f r o h,xv x a j,Sl.v ow] m (tx im s f x aL):=by
 apply rR (mb,0)
 simp -zeta only[aw,ax]
 intro m1 m2
 have dA:af m m2:=((af.av m).aC _).aC _
 have hl:∀b∈[m1.size,m.size],b<m2.size:=by simp[m2,m1];omega
 have ON:bK m2 m1.size cI [.i x.op,.i x.dst,.i x.bh,.i x.bA,.s a,.s j]:=bK.push m1 _ _
 have hB0:bK m2 m.size dh [.i f.dJ,.i f.pc,.i f.dst,.s r,.s o,.s h]:=(bK.push m _ _).ext (af.push m1 _)
 have jK:=ha.len
 have nL:=hr.len
 have Up:=hh.len
 have azN:=ZR.len
 have hd:=C.dst
 have Uq:=C.Mm
 have h4:=C.Tw
 have hI:=C.ok.heap
 clear_value m2
 refine⟨λm'=>af m2 m'/\(∀o∈aL,0<=o)/\(jA x.op->aE aL x.dst<=0),?_,?_⟩
 ·refine(y9 (ZR.ext dA)).ay (af.av _) hl λb m3 hb h3 _=>⟨b,rfl,λnH=>bC (λhM=>nb hb nH hM.nn) (dA.trans h3),λmF=>?_⟩
  refine(vv _ _).ay h3 hl λb2 m4 lz h5 mH=>⟨b2,rfl,λnH=>?_,λHz=>⟨mH,yb hb mF,λhs=>absurd hs (fb lz Hz)⟩⟩
  refine⟨hd.1,ab,aE aL x.dst,(ZR.ext (dA.trans mH)).GM hd.1 ab,λh6=>bC (λhM=>?_) (dA.trans mH),λh6=>⟨mH,yb hb mF,λ_=>by simpa using h6⟩⟩
  have:=hM.dst (lz.1 nH);simp at h6;omega
 ·rintro m3 ⟨h3,MO,nG⟩
  have lO:=dA.trans h3
  have hV:=V.ext lO
  have mk:∀{P:Prop},(tx im s f x aL->P)->(P->tx im s f x aL)->(tx im s f x aL<->P):=λh1 h2=>⟨h1,h2⟩
  have pO:1<=x.args.length->0<=aE x.args 0/\aE x.args 0<f.an.length:=λh1=>C.arg _ (fI ab ab)
  have ga:∀{m'},af m m'->1<=x.args.length->ad m' a.ao (a.off+Int.toNat (0:Int)*1)=some (vi (aE x.args 0)):=λhx h1=>(ha.ext hx).GM ab ab
  have gr:∀{m'},af m m'->1<=x.args.length->ad m' r.ao (r.off+Int.toNat (aE x.args 0)*1)=some (vi (aE f.an (aE x.args 0))):=λhx h1=>(hr.ext hx).GM (pO h1).1 (pO h1).2
  refine⟨λe=>?_,λe1=>?_⟩
  ·simp only[aGe,aFZ]at e
   refine(C0 (hr.ext lO) (ha.ext lO) C.arg).ay h3 hl λb m4 hb h5 mH=>⟨b,rfl,ez (hb.trans ?_) (dA.trans mH)⟩
   refine⟨λhp=>?_,λh=>h.oX ab⟩
   refine⟨MO,nG,?_,?_,?_,?_,?_,?_,?_,?_,?_,?_,?_⟩<;>intro e'<;>first|(exfalso;omega)|exact hp
  simp only[aF9,aFU]at e1
  refine⟨λe=>?_,λe2=>?_⟩
  ·simp only[aFZ]at e
   have rI:=h4.2.2.2.2.1 e
   refine(GU hV (hh.ext lO) (ha.ext lO) ⟨rI.1,rI.2.1⟩ ab (λw hw cx=>by obtain⟨h1,d',Je,_⟩:=C.RK w hw cx;exact⟨h1,d',Je⟩)).ay h3 hl λb m4 hb h5 mH=>⟨b,rfl,ez (hb.trans ?_) (dA.trans mH)⟩
   refine⟨λhp=>?_,λh=>h.jQ e⟩
   refine⟨MO,nG,?_,?_,?_,?_,?_,?_,?_,?_,?_,?_,?_⟩<;>intro e'<;>first|(exfalso;omega)|exact hp
  simp only[aFU]at e2
  refine⟨λe=>?_,λe3=>?_⟩
  ·simp only[aFZ]at e
   refine(uq hV (hr.ext lO) (ha.ext lO) C.F C.RJ C.arg C.call (Or.inl e)).ay h3 hl λb m4 hb h5 mH=>⟨b,rfl,ez (hb.trans ?_) (dA.trans mH)⟩
   refine⟨λhp=>?_,λh=>h.bX (Or.inl e)⟩
   refine⟨MO,nG,?_,?_,?_,?_,?_,?_,?_,?_,?_,?_,?_⟩<;>intro e'<;>first|(exfalso;omega)|exact hp
  simp only[aFU]at e3
  refine⟨λe=>?_,λe4=>?_⟩
  ·simp only[aFZ]at e
   refine(uq hV (hr.ext lO) (ha.ext lO) C.F C.RJ C.arg C.call (Or.inr e)).ay h3 hl λb m4 hb h5 mH=>⟨b,rfl,λnH=>?_,λmF=>bC (λhM=>fb hb mF (hM.bX (Or.inr e))) (dA.trans mH)⟩
   refine(jE (ZR.ext (dA.trans mH))).ay mH hl λb2 m5 lz h6 Lz=>⟨b2,rfl,λLy=>?_,λHz=>bC (λhM=>fb lz Hz (hM.zero (Or.inl e)).1) (dA.trans Lz)⟩
   refine(jE (hh.ext (dA.trans Lz))).ay Lz hl λb3 m6 uD h7 V3=>⟨b3,rfl,ez (uD.trans ?_) (dA.trans V3)⟩
   refine⟨λhp=>?_,λh=>(h.zero (Or.inl e)).2⟩
   refine⟨MO,nG,?_,?_,?_,?_,?_,?_,?_,?_,?_,?_,?_⟩<;>intro e'<;>first|(exfalso;omega)|exact hb.1 nH|exact⟨lz.1 Ly,hp⟩
  simp only[aFU]at e4
  refine⟨λe=>?_,λe5=>?_⟩
  ·simp only[aFZ]at e
   have oD:=h4.2.1 ab
   refine(jE (ZR.ext lO)).ay h3 hl λb2 m5 lz h6 Lz=>⟨b2,rfl,λLy=>?_,λHz=>bC (λhM=>fb lz Hz (hM.zero (Or.inr e)).1) (dA.trans Lz)⟩
   refine(jE (hh.ext (dA.trans Lz))).ay Lz hl λb3 m6 uD h7 V3=>⟨b3,rfl,λagq=>?_,λagr=>bC (λhM=>fb uD agr (hM.zero (Or.inr e)).2) (dA.trans V3)⟩
   have Fw:=dA.trans V3
   have hV6:=V.ext Fw
   have gL:=hV6.ai.len
   have fG:∀hp:1<s.ai.length\/aE f.an (aE x.args 0)<1000,tx im s f x aL:=λhp=>by
    refine⟨MO,nG,?_,?_,?_,?_,?_,?_,?_,?_,?_,?_,?_⟩<;>intro e'<;>first|(exfalso;omega)|exact⟨lz.1 Ly,uD.1 agq⟩|exact hp
   refine⟨fr,hV6.Tt,λh8=>gP (fG (Or.inl (by simp at h8;omega))) Fw,λh8=>?_⟩
   refine⟨ab,ab,_,ga Fw ab,(pO ab).1,by have:=(pO ab).2;omega,_,gr Fw ab,(cG _ _).ay V3 hl λb4 m7 xt h9 h27=>⟨b4,rfl,ez ?_ (dA.trans h27)⟩⟩
   simp at h8
   constructor
   ·intro BR
    exact fG (Or.inr (by have:=nb xt BR;omega))
   ·intro hM
    rcases hM.ret e with ln|ln
    ·omega
    ·have:¬b4=true:=λPn=>by have:=xt.1 Pn;omega
     simpa using this
  simp only[aFU]at e5
  refine⟨λe=>?_,λe6=>?_⟩
  ·simp only[aFZ]at e
   have oD:=h4.2.2.1 ab
   have h0:=pO ab
   refine⟨ab,ab,_,ga lO ab,h0.1,ab,_,gr lO ab,(GQ hV C.ok.eG hI (C.F.uo h0.1 h0.2 C.RJ)).ay h3 hl λb m4 hb h5 mH=>⟨b,rfl,ez (hb.trans ?_) (dA.trans mH)⟩⟩
   refine⟨λhp=>?_,λh=>h.apply e⟩
   refine⟨MO,nG,?_,?_,?_,?_,?_,?_,?_,?_,?_,?_,?_⟩<;>intro e'<;>first|(exfalso;omega)|exact hp
  simp only[aFU]at e6
  refine⟨λe=>?_,λe7=>?_⟩
  ·simp only[aFZ]at e
   have oD:=h4.2.1 ab
   have h0:=pO ab
   refine⟨ab,ab,_,ga lO ab,h0.1,ab,_,gr lO ab,hp,hV.EH,(ft hV.heap (C.F.uo h0.1 h0.2 C.RJ)).ay h3 hl λb m4 hb h5 mH=>⟨b,rfl,λnH=>?_,λmF=>bC (λhM=>fb hb mF (hM.dup e).1) (dA.trans mH)⟩⟩
   have iO:=hb.1 nH
   refine(dH (V.ext (dA.trans mH)) iO.1 (bE iO).1).ay mH hl ?_
   rintro _ m5 ⟨fl,rfl,gL,h6⟩
   refine⟨h6,_,_,_,rfl,ez ?_ (dA.trans (mH.trans h6))⟩
   simp only[aFP]
   refine⟨λhp=>?_,λh=>(h.dup e).2⟩
   refine⟨MO,nG,?_,?_,?_,?_,?_,?_,?_,?_,?_,?_,?_⟩<;>intro e'<;>first|(exfalso;omega)|exact⟨iO,hp⟩
  simp only[aFU]at e7
  refine⟨λe=>?_,λe8=>?_⟩
  ·simp only[aFZ]at e
   have oD:=h4.2.1 ab
   have h0:=pO ab
   refine⟨ab,ab,_,ga lO ab,h0.1,ab,_,gr lO ab,(cG _ _).ay h3 hl λb m4 hb h5 mH=>⟨b,rfl,ez (hb.trans ?_) (dA.trans mH)⟩⟩
   refine⟨λhp=>?_,λh=>h.drop e⟩
   refine⟨MO,nG,?_,?_,?_,?_,?_,?_,?_,?_,?_,?_,?_⟩<;>intro e'<;>first|(exfalso;omega)|exact hp
  simp only[aFU]at e8
  refine⟨λe=>?_,λe9=>?_⟩
  ·simp only[aGe,aFZ]at e
   refine(IN hV hI (hr.ext lO) (hh.ext lO) (ha.ext lO) C.F C.RJ C.arg ⟨h4.2.2.2.1 e,h4.1⟩ e).ay h3 hl λb m4 hb h5 mH=>⟨b,rfl,ez (hb.trans ?_) (dA.trans mH)⟩
   refine⟨λhp=>?_,λh=>h.WK e⟩
   refine⟨MO,nG,?_,?_,?_,?_,?_,?_,?_,?_,?_,?_,?_⟩<;>intro e'<;>first|(exfalso;omega)|exact hp
  simp only[aF9,aFU]at e9
  refine⟨λe=>?_,λtE=>?_⟩
  ·simp only[aFZ]at e
   have oD:=h4.2.1 ab
   have h0:=pO ab
   refine⟨hp,hV.EH,ab,ab,_,ga lO ab,h0.1,ab,_,gr lO ab,(ft hV.heap (C.F.uo h0.1 h0.2 C.RJ)).ay h3 hl λb m4 hb h5 mH=>⟨b,rfl,λnH=>?_,λmF=>bC (λhM=>fb hb mF (hM.load e).1) (dA.trans mH)⟩⟩
   have iO:=hb.1 nH
   have kK:=dA.trans mH
   refine⟨ab,ab,_,ga kK ab,h0.1,ab,_,gr kK ab,(dH (V.ext kK) iO.1 (bE iO).1).ay mH hl ?_⟩
   rintro _ m5 ⟨fl,rfl,gL,h6⟩
   have QP:=gL.len
   refine⟨h6,_,_,_,rfl,h6.cr ((ON.ext mH).bH 2),ez ?_ (dA.trans (mH.trans h6))⟩
   simp only[aFP]
   refine⟨λhp=>?_,λh=>by have:=(h.load e).2;omega⟩
   refine⟨MO,nG,?_,?_,?_,?_,?_,?_,?_,?_,?_,?_,?_⟩<;>intro e'<;>first|(exfalso;omega)|exact⟨iO,ab⟩
  simp only[aFU]at tE
  refine⟨λe=>?_,λO1=>?_⟩
  ·simp only[aFZ]at e
   have oD:=h4.2.1 ab
   have h0:=pO ab
   refine⟨hp,hV.EH,ab,ab,_,ga lO ab,h0.1,ab,_,gr lO ab,(ft hV.heap (C.F.uo h0.1 h0.2 C.RJ)).ay h3 hl λb m4 hb h5 mH=>⟨b,rfl,λnH=>?_,λmF=>bC (λhM=>fb hb mF (hM.Ou e).1) (dA.trans mH)⟩⟩
   have iO:=hb.1 nH
   have kK:=dA.trans mH
   have hV4:=V.ext kK
   refine⟨d,hV4.aI,ab,ab,_,ga kK ab,h0.1,ab,_,gr kK ab,(yM hV4.eG.aI C.ok.eG.oQ.types _).ay mH hl ?_⟩
   rintro _ m5 ⟨cs,rfl,kJ,h6⟩
   have Lz:=mH.trans h6
   refine⟨h6,cs,rfl,h6.cr (gr kK ab),h6.cr (ga kK ab),h6.cr ((ON.ext mH).bH 4),h6.cr ((hB0.ext mH).bH 3),(dH (V.ext (dA.trans Lz)) iO.1 (bE iO).1).ay Lz hl ?_⟩
   rintro _ m6 ⟨fl,rfl,gL,h7⟩
   refine⟨h7,_,_,_,rfl,(bW (kJ.ext h7) _).ay (Lz.trans h7) hl λb2 m7 lz h8 h27=>⟨b2,rfl,ez (lz.trans ?_) (dA.trans h27)⟩⟩
   refine⟨λhp=>?_,λh=>(h.Ou e).2⟩
   refine⟨MO,nG,?_,?_,?_,?_,?_,?_,?_,?_,?_,?_,?_⟩<;>intro e'<;>first|(exfalso;omega)|exact⟨iO,hp⟩
  ·simp only[aFU]at O1
   refine gP ?_ lO
   refine⟨MO,nG,?_,?_,?_,?_,?_,?_,?_,?_,?_,?_,?_⟩<;>intro e'<;>exfalso<;>omega
end
section
structure cJ(p:Nat->Prop)(ro:Nat->Nat)(m:ah)(bG:Nat->Nat)(m':ah):Prop where
 size:m.size<=m'.size
 gG:∀b,b<m.size->bG b=ro b
 new:∀b,m'.size<=b->bG b=0
 eg:∀b,b<m.size->¬p (ro b)->m'[b]? =m[b]?
theorem cJ.av(p:Nat->Prop){ro:Nat->Nat}{m:ah}(h:∀b,m.size<=b->ro b=0):cJ p ro m ro m:=⟨aFR _,λ_ _=>rfl,h,λ_ _ _=>rfl⟩
theorem cJ.trans{p:Nat->Prop}{r1 r2 r3:Nat->Nat}{m1 m2 m3:ah}(h:cJ p r1 m1 r2 m2)(k:cJ p r2 m2 r3 m3):cJ p r1 m1 r3 m3:=
 ⟨aF8 h.size k.size,λb hb=>by rw[k.gG b (aFY hb h.size),h.gG b hb],k.new,λb hb hp=>by
  rw[k.eg b (aFY hb h.size) (by rw[h.gG b hb];exact hp),h.eg b hb hp]⟩
theorem cJ.mono{p q:Nat->Prop}{ro bG:Nat->Nat}{m m':ah}(h:cJ p ro m bG m')(hpq:∀k,p k->q k):cJ q ro m bG m':=⟨h.size,h.gG,h.new,λb hb hq=>h.eg b hb λhp=>hq (hpq _ hp)⟩
theorem cJ.dS(p:Nat->Prop){ro:Nat->Nat}{m m':ah}(h:af m m')(hn:∀b,m.size<=b->ro b=0):cJ p ro m ro m':=⟨h.size,λ_ _=>rfl,λb hb=>hn b (aF8 h.size hb),λb hb _=>h.same b hb⟩
theorem cJ.ag{p:Nat->Prop}{ro:Nat->Nat}{m:ah}(hn:∀b,m.size<=b->ro b=0){b:Nat}(hb:p (ro b))(o:Nat)(l:List Ce):cJ p ro m ro (ag m b o l):=
 ⟨aHD (aq _ _ _ _).symm,λ_ _=>rfl,λc hc=>hn c (by rw[aq]at hc;exact hc),λc _ hp=>aP _ _ _ _ λe=>hp (e▸hb)⟩
abbrev HC:=cJ (λk=>k=3\/k=5\/k=6)
abbrev To:=cJ (λk=>k≠0/\k≠9)
theorem cJ.bN{ro bG:Nat->Nat}{m0 m m':ah}(h:To ro m bG m')(hx:af m0 m)(h0:∀b,b<m0.size->ro b=0):af m0 m'/\∀b,b<m0.size->bG b=0:=by
 have hs:=hx.size;exact⟨⟨aF8 hs h.size,λb hb=>by rw[h.eg b ab (by simp[h0 b hb]),hx.same b hb]⟩,λb hb=>by rw[h.gG b ab,h0 b hb]⟩
theorem cJ.cg{ro bG:Nat->Nat}{m m':ah}(h:To ro m bG m'){l:List Nat}(hl:∀b∈l,b<m.size/\ro b=0):da l m m':=λb hb=>h.eg b (hl b hb).1 (by simp[(hl b hb).2])
structure fB(ro:Nat->Nat)(m:ah)(e sz k:Nat)(s:Sl)(l:List Ce):Prop where
 len:l.length=s.len*sz
 le:s.len<=s.cap
 aE:s.cap=0\/∃b c tail,s=.mk b 0 s.len c/\ro b=k/\bK m b e (l++tail)/\(l++tail).length=c*sz
section
variable{ro bG:Nat->Nat}{m m':ah}{e sz k:Nat}{s:Sl}{l:List Ce}
theorem fB.BD(h:fB ro m e sz k s l)(h0:s.cap=0):l=[]/\s.len=0:=by
 have:=h.le;have h1:s.len=0:=ab;exact⟨List.length_eq_zero_iff.1 (by rw[h.len,h1];simp),h1⟩
theorem fB.iu(h:fB ro m e sz k s l):eK m s.ao s.off l:=by
 rcases h.aE with h0|⟨b,c,tail,h1,h2,h3,h4⟩
 ·rw[(h.BD h0).1];intro i c hc;simp at hc
 ·rw[h1];exact h3.iu.Pb
theorem fB.wr(h:fB ro m e sz k s l){o n:Nat}(hn:o+n<=l.length):dW m s.ao (s.off+o) n:=by
 rcases h.aE with h0|⟨b,c,tail,h1,h2,h3,h4⟩
 ·rw[(h.BD h0).1]at hn;intro j hj;simp at hn;omega
 ·rw[h1];simp only[Sl.gN,Sl.lQ,aGa];exact h3.dW bg
theorem fB.eg(h:fB ro m e sz k s l)(hb:s.cap≠0->m'[s.ao]? =m[s.ao]?)(hr:s.cap≠0->bG s.ao=ro s.ao):fB bG m' e sz k s l:=by
 refine⟨h.len,h.le,?_⟩;rcases h.aE with h0|⟨b,c,tail,h1,h2,h3,h4⟩
 ·exact Or.inl h0
 ·by_cases hc:s.cap=0
  ·exact Or.inl hc
  ·have e1:=hb hc;have e2:=hr hc;rw[h1]at e1 e2;exact Or.inr ⟨b,c,tail,h1,e2.trans h2,h3.congr e1,h4⟩
theorem fB.ao(h:fB ro m e sz k s l)(hc:s.cap≠0):s.ao<m.size/\ro s.ao=k:=by
 rcases h.aE with h0|⟨b,c,tail,h1,h2,h3,h4⟩
 ·exact absurd h0 hc
 ·rw[h1];exact⟨h3.lt,h2⟩
theorem fB.dT{p:Nat->Prop}(h:fB ro m e sz k s l)(hc:cJ p ro m bG m')(hk:¬p k):fB bG m' e sz k s l:=
 h.eg (λh0=>hc.eg _ (h.ao h0).1 (by rw[(h.ao h0).2];exact hk)) (λh0=>hc.gG _ (h.ao h0).1)
theorem fB.set(h:fB ro m e sz k s l){o:Nat}{new:List Ce}(hn:o+new.length<=l.length):fB ro (ag m s.ao (s.off+o) new) e sz k s (fP l o new):=by
 refine⟨by rw[mu];exact h.len,h.le,?_⟩;rcases h.aE with h0|⟨b,c,tail,h1,h2,h3,h4⟩
 ·exact Or.inl h0
 ·refine Or.inr ⟨b,c,tail,h1,h2,?_,by simp only[aF4,mu]at h4⊢;exact h4⟩;have e1:s.ao=b:=by rw[h1];rfl
  have e2:s.off=0:=by rw[h1];rfl
  rw[e1,e2,aGa];have:=bK.ag (m:=m) (o:=o) (r:=new) h3;have e3:fP (l++tail) o new=fP l o new++tail:=by
   have BP:(fP l o new).length=l.length:=mu _ _ _;apply aGC;intro i;rcases aF1 i l.length with hi|hi
   ·have r1:(fP l o new++tail)[i]? =(fP l o new)[i]? :=aFV (by rw[BP];exact hi);rw[r1,tI,tI];simp only[aF4];by_cases h5:o<=i/\i<o+new.length
    ·rw[aFW ab,aFW ab]
    ·rw[aFS ab,aFS ab,aFV hi]
   ·have r1:(fP l o new++tail)[i]? =tail[i -l.length]? :=by rw[aFX (by rw[BP];exact hi),BP]
    rw[r1,tI,aFS ab,aFX hi]
  rw[e3]at this;exact this
theorem fB.cut(h:fB ro m e sz k s l){n:Nat}(hn:n<=s.len):fB ro m e sz k (s.cut 0 n sz) (l.take (n*sz)):=by
 have hle:=h.le;have hlen:=h.len;rcases h.aE with h0|⟨b,c,tail,h1,h2,h3,h4⟩
 ·have OS:n=0:=ab;cases s with
  |nil=>exact⟨by simp[OS,Sl.cut],by simp[Sl.cut],Or.inl rfl⟩
  |BV b o sp=>exact⟨by simp[OS,Sl.cut],by simp[Sl.cut],Or.inl rfl⟩
  |mk b o len cap=>simp at h0;subst h0;exact⟨by simp[OS,Sl.cut],by simp[OS,Sl.cut],Or.inl (by simp[Sl.cut])⟩
 ·rw[h1];have hlc:s.len<=c:=by rw[h1]at hle;exact hle
  refine⟨?_,by simp[Sl.cut];omega,Or.inr ⟨b,c,l.drop (n*sz)++tail,?_,h2,?_,?_⟩⟩
  ·simp only[Sl.cut,Sl.eO,aGH,aIp];have:n*sz<=s.len*sz:=aGh _ hn;omega
  ·simp[Sl.cut]
  ·rw[<-aGs,aGi];exact h3
  ·rw[<-aGs,aGi];exact h4
end
theorem fB.append{ro:Nat->Nat}{m:ah}{e k:Nat}{zs:List Ce}{bytes:Nat}{s x:Sl}{l new:List Ce}{K:Sl->ah->Prop}(h:fB ro m e zs.length k s l)(zw:∀b,m.size<=b->ro b=0)
 (hn:new.length=x.len*zs.length)(hr:eK m x.ao x.off new)(hb:(s.len+x.len)*bytes<=140737488355328)
 (hk:∀bG r m',fB bG m' e zs.length k r (l++new)->cJ (λj=>j=k) ro m bG m'->K r m'):gA m e zs bytes s x K:=by
 have hle:=h.le
 refine⟨new,hn,hr,λdp=>?_,λhgt=>⟨hb,l,h.len,h.iu,λc hc=>?_⟩⟩
 ·rcases h.aE with h0|⟨b,c,tail,h1,h2,h3,h4⟩
  ·have lM:x.len=0:=ab
   have OS:new=[]:=List.length_eq_zero_iff.1 (by rw[hn,lM];simp)
   subst OS
   refine⟨λj hj=>by simp at hj,?_⟩
   have hK:=hk ro s _ (by rw[aGP];exact h) (cJ.av _ zw)
   cases s with
   |nil=>exact hK
   |BV b o sp=>exact hK
   |mk b o l1 c=>simp only[lM,aGX];exact hK
  ·have hlen:=h.len
   have Vi:s.cap=c:=by rw[h1];rfl
   rw[h1]
   simp only[Sl.gN,Sl.lQ,Sl.eO,aGa]
   simp only[aF4]at h4
   have ala:new.length<=tail.length:=by
    have h6:(s.len+x.len)*zs.length<=c*zs.length:=aGh _ ab;rw[aGE]at h6;omega
   refine⟨h3.dW (by simp only[aF4];omega),?_⟩
   have hB:=bK.ag (m:=m) (b:=b) (e:=e) (r:=new) (o:=s.len*zs.length) h3
   rw[<-hlen,zQ l new tail ala]at hB
   refine hk ro _ _ ⟨?_,?_,Or.inr ⟨b,c,tail.drop new.length,rfl,h2,?_,?_⟩⟩ (cJ.ag zw h2 _ _)
   ·simp only[aF4,Sl.eO,aGE];omega
   ·simp only[Sl.eO,Sl.NU];omega
   ·rw[<-hlen];exact hB
   ·simp only[aF4,List.length_drop];omega
 ·refine hk (λb=>if b=m.size then k else ro b) _ _ ⟨?_,?_,Or.inr ⟨m.size,c,kL zs (c -(s.len+x.len)),rfl,az,bK.push _ _ _,?_⟩⟩ ⟨az,λb hb=>aFS ab,λb hb=>?_,λb hb _=>by rw[aHq,aFS ab]⟩
  ·simp only[aF4,Sl.eO,aGE,h.len,hn]
  ·simpa using hc
  ·simp only[aF4,oP,h.len,hn]
   rw[Nat.sub_mul,<-aGE]
   have:(s.len+x.len)*zs.length<=c*zs.length:=aGh _ hc
   omega
  ·simp at hb;rw[aFS ab];exact zw b ab
theorem fB.fQ{ro:Nat->Nat}{m0 m:ah}{e sz k:Nat}{s:Sl}{l:List Ce}(h:gQ m0 m e sz s l)(hr:s≠.nil->ro s.ao=k):fB ro m e sz k s l:=by
 refine⟨h.len,?_,?_⟩
 ·rcases h.aE with h1|⟨b,c,tail,h1,h2,h3,h4,h5⟩
  ·rw[h1];exact aFR _
  ·rw[h1];exact h5
 ·rcases h.aE with h1|⟨b,c,tail,h1,h2,h3,h4,h5⟩
  ·rw[h1];exact Or.inl rfl
  ·refine Or.inr ⟨b,c,tail,h1,?_,h3,h4⟩;have:=hr (by rw[h1];simp);rw[h1]at this;exact this
theorem fB.oX{ro:Nat->Nat}{m:ah}{k:Nat}{s:Sl}{l:List Int}(h:fB ro m au 1 k s (l.map Ce.i))(hl:l.length<=9223372036854775807):aj m s l:=by
 have hlen:s.len=l.length:=by have:=h.len;simp at this;omega
 refine⟨hlen,h.le,ab,λj x hk=>⟨[.i x],rfl,λi c hc=>?_⟩⟩;have hi:i=0:=by have:=ap hc;simp at this;omega
 subst hi;simp at hc;subst hc;have:=h.iu j (.i x) (by simp[hk]);simpa using this
theorem zd(l:List Int)(i:Nat)(v:Int):fP (l.map Ce.i) i [.i v]=(l.set i v).map Ce.i:=by simp[fP,aHE]
theorem fB.fx{ro:Nat->Nat}{m:ah}{k:Nat}{s:Sl}{l:List Int}(h:fB ro m au 1 k s (l.map Ce.i)){i:Int}(h0:0<=i)(h1:i<l.length)(v:Int):fB ro (ag m s.ao (s.off+i.toNat*1) [.i v]) au 1 k s ((Go.Proofs.YtakpkjhmbbfniaaGreat.fx l i v).map Ce.i):=by
 have:=h.set (o:=i.toNat) (new:=[.i v]) bg;rw[zd]at this;rw[aGr];exact this
theorem fB.VK{ro:Nat->Nat}{m:ah}{k:Nat}{s:Sl}{l:List Int}(h:fB ro m au 1 k s (l.map Ce.i)){i:Int}(h0:0<=i)(h1:i<l.length):dW m s.ao (s.off+i.toNat*1) 1:=by
 rw[aGr];exact h.wr bg
def FB(m:ah)(f:Sl)(l:List Int):Prop:=∃c tail,f=.mk f.ao 0 f.len c/\bK m f.ao au (l.map Ce.i++tail)
def FN(N:Nat)(ro:Nat->Nat)(m:ah)(f:Sl)(l:List Int):Prop:=l≠[]->ro f.ao=0/\N<=f.ao/\FB m f l
def HV(N:Nat)(ro:Nat->Nat)(m:ah)(cs:List Ce)(c:aR):Prop:=∃f,cs=[.i c.aG,.i c.jW,.s f]/\aj m f c.aB/\FN N ro m f c.aB
def Sep(css:List (List Ce)):Prop:=∀(i j:Nat)(ci cj:List Ce)(a b:Sl),css[i]? =some ci->css[j]? =some cj->ci[2]? =some (.s a)->cj[2]? =some (.s b)->i≠j->a.len≠0->b.len≠0->a.ao≠b.ao
theorem Sep.nil:Sep []:=λi j ci cj a b h=>by simp at h
def dk(N:Nat)(ro:Nat->Nat)(m:ah)(hp:Sl)(h:List aR):Prop:=∃css,fB ro m qb 3 3 hp css.flatten/\eQ 3 (HV N ro m) css h/\Sep css
def Zz(ro:Nat->Nat)(m:ah)(i:Nat)(cs:List Ce)(f:aM):Prop:=
 ∃r o h,cs=[.i f.dJ,.i f.pc,.i f.dst,.s r,.s o,.s h]/\fB ro m au 1 (10+3*i) r (f.an.map Ce.i)/\fB ro m au 1 (11+3*i) o (f.aL.map Ce.i)/\fB ro m au 1 (12+3*i) h (f.aQ.map Ce.i)
structure ao4(ro:Nat->Nat)(m:ah)(fr:Sl)(fs:List aM)(css:List (List Ce)):Prop where
 rm:fB ro m dh 6 4 fr css.flatten
 len:css.length=fs.length
 size:∀cs∈css,cs.length=6
 cq:∀(i:Nat)(cs:List Ce)(f:aM),css[i]? =some cs->fs[i]? =some f->Zz ro m i cs f
def ns(ro:Nat->Nat)(m:ah)(fr:Sl)(fs:List aM):Prop:=∃css,ao4 ro m fr fs css
theorem mq{m m':ah}{f:Sl}{l:List Int}(h:aj m f l)(hb:l≠[]->m'[f.ao]? =m[f.ao]?):aj m' f l:=by
 by_cases hl:l=[]
 ·subst hl;exact⟨h.len,h.cap,h.eP,az⟩
 ·exact⟨h.len,h.cap,h.eP,λk x hk=>let⟨cs,h1,h2⟩:=h.iu k x hk;⟨cs,h1,λi c hc=>by rw[aA (hb hl)];exact h2 i c hc⟩⟩
theorem nt{m:ah}{f:Sl}{l:List Int}(h:aj m f l)(hl:l≠[]):f.ao<m.size:=by
 cases l with
 |nil=>exact absurd rfl hl
 |cons x l=>exact tH (h.aE (k:=0) (x:=x) rfl)
theorem HV.dT{N:Nat}{p:Nat->Prop}{ro bG:Nat->Nat}{m m':ah}(hc:cJ p ro m bG m')(h0:¬p 0)(cs:List Ce)(c:aR):HV N ro m cs c->HV N bG m' cs c:=λ⟨f,h1,h2,h3⟩=>
 ⟨f,h1,mq h2 λcx=>hc.eg _ (nt h2 cx) (by rw[(h3 cx).1];exact h0),λcx=>by
  obtain⟨g1,g2,cc,tail,g3,g4⟩:=h3 cx;exact⟨by rw[hc.gG _ (nt h2 cx)];exact g1,g2,cc,tail,g3,g4.congr (hc.eg _ g4.lt (by rw[g1];exact h0))⟩⟩
theorem dk.dT{N:Nat}{p:Nat->Prop}{ro bG:Nat->Nat}{m m':ah}{hp:Sl}{h:List aR}(hh:dk N ro m hp h)(hc:cJ p ro m bG m')(h0:¬p 0)(h3:¬p 3):dk N bG m' hp h:=by
 obtain⟨css,h1,h2,h4⟩:=hh;exact⟨css,h1.dT hc h3,h2.mono (HV.dT hc h0),h4⟩
theorem Zz.dT{p:Nat->Prop}{ro bG:Nat->Nat}{m m':ah}(hc:cJ p ro m bG m'){i:Nat}(hp:∀k,10+3*i<=k->k<=12+3*i->¬p k){cs:List Ce}{f:aM}:Zz ro m i cs f->Zz bG m' i cs f:=λ⟨r,o,h,h1,h2,h3,h4⟩=>
 ⟨r,o,h,h1,h2.dT hc (hp _ ab ab),h3.dT hc (hp _ ab ab),h4.dT hc (hp _ ab ab)⟩
theorem ns.dT{p:Nat->Prop}{ro bG:Nat->Nat}{m m':ah}{fr:Sl}{fs:List aM}(hh:ns ro m fr fs)(hc:cJ p ro m bG m')(hp:∀k,(k=4\/10<=k)->¬p k):ns bG m' fr fs:=by
 obtain⟨css,h⟩:=hh;exact⟨css,h.rm.dT hc (hp 4 ab),h.len,h.size,λi cs f h1 h2=>(h.cq i cs f h1 h2).dT hc λk hk _=>hp k ab⟩
structure BE(m0:ah)(ro:Nat->Nat)(m:ah)(mb e:Nat)(bx:List Ce)(aT hp fr:Sl)(lo:List Int)(lh:List aR)(lf:List aM):Prop where
 bN:af m0 m
 jh:∀b,b<m0.size->ro b=0
 new:∀b,m.size<=b->ro b=0
 box:bK m mb e bx
 Tz:ro mb=1
 aT:fB ro m au 1 2 aT (lo.map Ce.i)
 heap:dk m0.size ro m hp lh
 ai:ns ro m fr lf
section
variable{m0:ah}{ro bG:Nat->Nat}{m m':ah}{mb e:Nat}{bx:List Ce}{aT hp fr:Sl}{lo:List Int}{lh:List aR}{lf:List aM}
theorem BE.ext(L:BE m0 ro m mb e bx aT hp fr lo lh lf)(hx:af m m'):BE m0 ro m' mb e bx aT hp fr lo lh lf/\To ro m ro m':=by
 have hc:∀p,cJ p ro m ro m':=λp=>cJ.dS p hx L.new;exact⟨⟨L.bN.trans hx,L.jh,(hc (λ_=>False)).new,L.box.ext hx,L.Tz,L.aT.dT (hc (λ_=>False)) id,L.heap.dT (hc (λ_=>False)) id id,L.ai.dT (hc (λ_=>False)) λ_ _=>id⟩,hc _⟩
theorem BE.nu(L:BE m0 ro m mb e bx aT hp fr lo lh lf)(i:Nat)(cs:List Ce):BE m0 ro (ag m mb i cs) mb e (fP bx i cs) aT hp fr lo lh lf/\To ro m ro (ag m mb i cs):=by
 have hc:cJ (λk=>k=1) ro m ro (ag m mb i cs):=cJ.ag L.new L.Tz _ _;have QO:To ro m ro (ag m mb i cs):=hc.mono λk hk=>ab;obtain⟨b1,b2⟩:=QO.bN L.bN L.jh;exact⟨⟨b1,b2,hc.new,bK.ag (m:=m) L.box,L.Tz,L.aT.dT hc aO,L.heap.dT hc aO aO,L.ai.dT hc λk hk=>ab⟩,QO⟩
theorem BE.vX(L:BE m0 ro m mb e bx aT hp fr lo lh lf){i n:Nat}(hi:i+n<=bx.length):dW m mb i n:=L.box.dW hi
theorem BE.gU(L:BE m0 ro m mb e bx aT hp fr lo lh lf)(hc:cJ (λk=>k=3\/k=5\/k=6) ro m bG m'){Ac:Sl}{VA:List aR}(hh:dk m0.size bG m' Ac VA):BE m0 bG m' mb e bx aT Ac fr lo VA lf/\To ro m bG m':=by
 have QO:To ro m bG m':=hc.mono λk hk=>ab;obtain⟨b1,b2⟩:=QO.bN L.bN L.jh;exact⟨⟨b1,b2,hc.new,L.box.congr (hc.eg _ L.box.lt (by rw[L.Tz];decide)),by rw[hc.gG _ L.box.lt];exact L.Tz,L.aT.dT hc aO,hh,L.ai.dT hc λk hk=>ab⟩,QO⟩
theorem BE.Kr(L:BE m0 ro m mb e bx aT hp fr lo lh lf)(hc:cJ (λk=>k=2) ro m bG m'){Fy:Sl}{Zc:List Int}(hh:fB bG m' au 1 2 Fy (Zc.map Ce.i)):BE m0 bG m' mb e bx Fy hp fr Zc lh lf/\To ro m bG m':=by
 have QO:To ro m bG m':=hc.mono λk hk=>ab;obtain⟨b1,b2⟩:=QO.bN L.bN L.jh;exact⟨⟨b1,b2,hc.new,L.box.congr (hc.eg _ L.box.lt (by rw[L.Tz];decide)),by rw[hc.gG _ L.box.lt];exact L.Tz,hh,L.heap.dT hc aO aO,L.ai.dT hc λk hk=>ab⟩,QO⟩
theorem BE.jJ(L:BE m0 ro m mb e bx aT hp fr lo lh lf)(hc:cJ (λk=>4<=k/\k≠9) ro m bG m'){fr':Sl}{lf':List aM}(hh:ns bG m' fr' lf'):BE m0 bG m' mb e bx aT hp fr' lo lh lf'/\To ro m bG m':=by
 have QO:To ro m bG m':=hc.mono λk hk=>ab;obtain⟨b1,b2⟩:=QO.bN L.bN L.jh;exact⟨⟨b1,b2,hc.new,L.box.congr (hc.eg _ L.box.lt (by rw[L.Tz];decide)),by rw[hc.gG _ L.box.lt];exact L.Tz,L.aT.dT hc aO,L.heap.dT hc aO aO,hh⟩,QO⟩
end
end
section
def up{α:Type}(f:Nat->α)(k:Nat)(x:α):Nat->α:=λj=>if j=k then x else f j
@[simp] theorem EI {α:Type} (f:Nat->α) (k:Nat) (x:α):up f k x k=x:=aFW rfl
theorem P4{α:Type}(f:Nat->α)(k:Nat)(x:α){j:Nat}(h:j≠k):up f k x j=f j:=aFS h
def P5(sl:Nat->Sl):List Ce:=[.s (sl 0),.s (sl 1),.s (sl 2),.s (sl 3),.s (sl 4),.s (sl 5),.s (sl 6)]
theorem UR(sl:Nat->Sl){k:Nat}(hk:k<7):(P5 sl)[k]? =some (.s (sl k)):=by
 rcases k with _|_|_|_|_|_|_|k<;>first|rfl|omega
theorem Nh(sl:Nat->Sl){k:Nat}(hk:k<7)(r:Sl):fP (P5 sl) k [.s r]=P5 (up sl k r):=by
 rcases k with _|_|_|_|_|_|_|k<;>first|rfl|omega
structure fJ(ro:Nat->Nat)(m:ah)(lb:Nat)(sl:Nat->Sl)(L:Nat->List Int):Prop where
 new:∀b,m.size<=b->ro b=0
 gG:ro lb=8
 box:bK m lb xJ (P5 sl)
 rm:∀k,k<7->fB ro m au 1 (k+1) (sl k) ((L k).map Ce.i)
section
variable{ro bG:Nat->Nat}{m m':ah}{lb:Nat}{sl:Nat->Sl}{L:Nat->List Int}
theorem fJ.bH(h:fJ ro m lb sl L){k:Nat}(hk:k<7):ad m lb k=some (Sl.v (sl k)):=by
 rw[h.box.bH,UR sl hk];rfl
theorem fJ.oX(h:fJ ro m lb sl L){k:Nat}(hk:k<7)(hl:(L k).length<=1000000000000):aj m (sl k) (L k):=(h.rm k hk).oX ab
theorem fJ.len(h:fJ ro m lb sl L){k:Nat}(hk:k<7):(sl k).len=(L k).length:=by have:=(h.rm k hk).len;simp at this;omega
theorem fJ.to(h:fJ ro m lb sl L):To ro m ro m:=cJ.av _ h.new
theorem fJ.ext(h:fJ ro m lb sl L)(hx:af m m'):fJ ro m' lb sl L:=
 ⟨λb hb=>h.new b (aF8 hx.size hb),h.gG,h.box.congr (hx.same lb h.box.lt),λk hk=>(h.rm k hk).eg (λh0=>hx.same _ ((h.rm k hk).ao h0).1) λ_=>rfl⟩
theorem fJ.iN(h:fJ ro m lb sl L){k:Nat}(hk:k<7)(hl:(L k).length<=1000000000000)(a:Int){K:Sl->ah->Prop}
 (hK:∀bG r m',To ro m bG (ag m' lb k [.s r])->fJ bG (ag m' lb k [.s r]) lb (up sl k r) (up L k (L k++[a]))->K r m'):
 gA (m.push (.cells (aU [.i a]) au)) au [.i 0] 8 (sl k) (.mk m.size 0 1 1) λr m'=>dW m' lb k 1/\K r m':=by
 have x1:=af.push m (.cells (aU [.i a]) au)
 have h1:=h.ext x1
 have hlen:=h.len hk
 refine fB.append (zs:=[.i 0]) (new:=[.i a]) (h1.rm k hk) h1.new az ?_ (by simp only[Sl.eO];omega) λbG r m' g c=>?_
 ·exact(bK.push m (e:=au) (l:=[.i a])).iu
 have hB:bK m' lb xJ (P5 sl):=h1.box.congr (c.eg lb h1.box.lt (by simp only[h1.gG];omega))
 have nL:bG lb=8:=by rw[c.gG lb h1.box.lt,h1.gG]
 have c1:To ro m bG m':=(cJ.dS _ x1 h.new).trans (c.mono λj hj=>ab)
 have c2:To ro m bG (ag m' lb k [.s r]):=c1.trans (cJ.ag c.new (by simp only[nL];omega) _ _)
 refine⟨hB.dW (by show k+1<=7;omega),hK bG r m' c2 ⟨c2.new,nL,Nh sl hk r▸bK.ag (m:=m') hB,λj hj=>?_⟩⟩
 by_cases e:j=k
 ·subst e
  rw[EI,EI,aGz]
  refine g.eg (λh0=>aP _ _ _ _ λe=>?_) λ_=>rfl
  have:=(g.ao h0).2
  rw[e,nL]at this;omega
 ·rw[P4 _ _ _ e,P4 _ _ _ e]
  have g':=(h1.rm j hj).dT c ab
  refine g'.eg (λh0=>aP _ _ _ _ λe=>?_) λ_=>rfl
  have:=(g'.ao h0).2
  rw[e,nL]at this;omega
theorem fJ.put(h:fJ ro m lb sl L){k i:Nat}(hk:k<7)(hi:i<(L k).length)(x:Int):
 dW m (sl k).ao ((sl k).off+i*1) 1/\fJ ro (ag m (sl k).ao ((sl k).off+i*1) [.i x]) lb sl (up L k ((L k).set i x))/\To ro m ro (ag m (sl k).ao ((sl k).off+i*1) [.i x]):=by
 have g:=h.rm k hk
 have cx:(L k).map Ce.i≠[]:=λe=>by simp at e;rw[e]at hi;simp at hi
 have h0:(sl k).cap≠0:=λh0=>cx (g.BD h0).1
 obtain⟨hb,hr⟩:=g.ao h0
 have c:To ro m ro (ag m (sl k).ao ((sl k).off+i*1) [.i x]):=cJ.ag h.new (by simp only[hr];omega) _ _
 refine⟨g.wr bg,⟨c.new,h.gG,h.box.congr (aP _ _ _ _ λe=>by have:=h.gG;rw[e,hr]at this;omega),λj hj=>?_⟩,c⟩
 by_cases e:j=k
 ·subst e
  rw[EI]
  have:=g.set (o:=i*1) (new:=[.i x]) bg
  rw[zd,aGr]at this
  rw[aGr];exact this
 ·rw[P4 _ _ _ e]
  have g':=h.rm j hj
  refine g'.eg (λh0=>aP _ _ _ _ λe=>?_) λ_=>rfl
  have:=(g'.ao h0).2
  rw[e,hr]at this;omega
theorem fJ.aff(h:fJ ro m lb sl L){k:Nat}(hk:k<7){r:Sl}{l:List Int}(g:fB ro m au 1 (k+1) r (l.map Ce.i)):
 dW m lb k 1/\fJ ro (ag m lb k [.s r]) lb (up sl k r) (up L k l)/\To ro m ro (ag m lb k [.s r]):=by
 have c:To ro m ro (ag m lb k [.s r]):=cJ.ag h.new (by simp only[h.gG];omega) _ _
 refine⟨h.box.dW (by show k+1<=7;omega),⟨c.new,h.gG,Nh sl hk r▸bK.ag (m:=m) h.box,λj hj=>?_⟩,c⟩
 have K:∀{i s l},fB ro m au 1 (i+1) s l->i<7->fB ro (ag m lb k [.s r]) au 1 (i+1) s l:=λ{i s l} g' sa=>by
  refine g'.eg (λh0=>aP _ _ _ _ λe=>?_) λ_=>rfl;have:=(g'.ao h0).2;rw[e,h.gG]at this;omega
 by_cases e:j=k
 ·subst e
  rw[EI,EI];exact K g hk
 ·rw[P4 _ _ _ e,P4 _ _ _ e];exact K (h.rm j hj) hj
theorem fJ.cut(h:fJ ro m lb sl L){k n:Nat}(hk:k<7)(hn:n<=(L k).length):
 n<=(sl k).cap/\dW m lb k 1/\fJ ro (ag m lb k [.s ((sl k).cut 0 n 1)]) lb (up sl k ((sl k).cut 0 n 1)) (up L k ((L k).take n))/\To ro m ro (ag m lb k [.s ((sl k).cut 0 n 1)]):=by
 have g:=h.rm k hk
 have hl:=h.len hk
 have hle:=g.le
 have gc:=g.cut (n:=n) ab
 rw[aGr,<-aHY]at gc
 exact⟨ab,h.aff hk gc⟩
end
structure nN(ds:List aS)(n b:Nat)(L:Nat->List Int):Prop where
 len:∀k,k<6->(L k).length=n
 par:∀(v:Nat)(p:Int),(L 2)[v]? =some p->p<v
 Pc:∀(v:Nat)(c f:Int),(L 3)[v]? =some c->(L 4)[v]? =some f->0<=c->0<=f/\f+((bz ds c).length:Int)<=b
 bX:(L 6).length<=1000000000000
abbrev qx(ds:List aS)(n:Nat)(L:Nat->List Int):Prop:=nN ds n n L
def Ku(L:Nat->List Int)(t o p:Int):Nat->List Int:=up (up (up (up (up (up L 0 (L 0++[t])) 1 (L 1++[o])) 2 (L 2++[p])) 3 (L 3++[-1])) 4 (L 4++[-1])) 5 (L 5++[-1])
theorem ze{ro:Nat->Nat}{m:ah}{lb:Nat}{sl:Nat->Sl}{L:Nat->List Int}(h:fJ ro m lb sl L)(hl:∀k,k<6->(L k).length<=1000000000000)(t o p:Int):
 aD Tryz.prog 194 [vp lb 0,vi t,vi o,vi p] m λ_ m'=>∃bG Bo,To ro m bG m'/\fJ bG m' lb Bo (Ku L t o p):=by
 apply vn (lb,0)
 simp -zeta only[aGa]
 refine⟨_,h.bH (k:=0) aO,?_⟩
 intro m1
 refine h.iN (k:=0) aO (hl 0 aO) t λr1 s1 n1 c1 h1=>⟨_,h1.bH (k:=1) aO,?_⟩
 intro m2
 refine h1.iN (k:=1) aO (hl 1 aO) o λr2 s2 n2 c2 h2=>⟨_,h2.bH (k:=2) aO,?_⟩
 intro m3
 refine h2.iN (k:=2) aO (hl 2 aO) p λr3 s3 n3 c3 h3=>⟨_,h3.bH (k:=3) aO,?_⟩
 intro m4
 refine h3.iN (k:=3) aO (hl 3 aO) (-1) λr4 s4 n4 c4 h4=>⟨_,h4.bH (k:=4) aO,?_⟩
 intro m5
 refine h4.iN (k:=4) aO (hl 4 aO) (-1) λr5 s5 n5 c5 h5=>⟨_,h5.bH (k:=5) aO,?_⟩
 intro m6
 exact h5.iN (k:=5) aO (hl 5 aO) (-1) λr6 s6 n6 c6 h6=>⟨_,_,((((c1.trans c2).trans c3).trans c4).trans c5).trans c6,h6⟩
end
end Go.Proofs.YtakpkjhmbbfniaaGreat
