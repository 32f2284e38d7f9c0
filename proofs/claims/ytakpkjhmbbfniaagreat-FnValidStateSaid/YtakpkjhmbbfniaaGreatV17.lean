/- Part of a proof, joined by a program. -/
import Derived.Test.YtakpkjhmbbfniaaGreatV11
import Derived.Test.YtakpkjhmbbfniaaGreatV16
set_option linter.unusedVariables false
set_option linter.unusedSimpArgs false
set_option linter.defProp false
set_option maxHeartbeats 8000000
set_option maxRecDepth 100000
namespace Go.Proofs.YtakpkjhmbbfniaaGreat
open Go.Vc
structure eu(m:ah)(aT hp fr:Sl)(s:St):Prop where
 aT:aj m aT s.aT
 heap:cy m hp s.heap
 ai:jU m fr s.ai
theorem eu.ext{m m':ah}{aT hp fr:Sl}{s:St}(h:eu m aT hp fr s)(hx:af m m'):eu m' aT hp fr s:=⟨h.aT.ext hx,cy.ext hx h.heap,jU.ext hx h.ai⟩
def U0(f:aM):Prop:=(∀w∈f.an,Hk w)/\(∀w∈f.aL,Hk w)/\(∀w∈f.aQ,Hk w)
structure Dg(s:St):Prop where
 be:Hk s.be
 heap:UY s.heap
 ai:∀f∈s.ai,U0 f
 lh:s.heap.length<=10000000
 lf:s.ai.length<=10000000
 lr:∀f∈s.ai,f.an.length<=10000000/\f.aL.length<=10000000/\f.aQ.length<=10000000
def TP(s:St)(aT hp fr:Sl):Value:=.agg #[vi s.bT,vi s.value,vi s.be,vi s.cV,Sl.v aT,Sl.v hp,Sl.v fr]
theorem Dh{m:ah}{f:Sl}{l:List Int}(hf:aj m f l):cB Tryz.prog 28 [Sl.v f] m (∀n∈l,eT n):=by
 apply wB;have hl:=hf.len;have zG:=hf.eP;refine dg (n:=l.length) ab (λk m'=>af m m'/\∀n∈l.take k,eT n) ⟨af.av _,az⟩ ?_;rintro k m1 I μ hk ⟨x1,hq⟩ next
 refine⟨λh1=>?_,λh1=>?_⟩
 ·simp only[aFP]at h1;obtain⟨w,hw⟩:=ae (l:=l) (k:=k) ab;exact⟨ab,ab,w,by simpa using(hf.ext x1).aE hw,(aJ _ _ _ _).then λb m2 hb x2=>⟨b,rfl,λh2=>bC (λha=>nb hb h2 (ha w (ak hw))) (x1.trans x2),λh2=>next ab m2 ⟨x1.trans x2,aZ hw hq (yb hb h2)⟩⟩⟩
 ·simp only[aFQ]at h1;exact gP (bM ab hq) x1
def TQ(h:List aR)(w o:Int):Prop:=(eT w\/1000<=w)/\(0<=o/\o<=999999)/\(0<o->gJ h w)
theorem Fb{m:ah}{hp r o e:Sl}{h:List aR}{f:aM}(hh:cy m hp h)(hr:aj m r f.an)(ho:aj m o f.aL)(hlen:f.aL.length=f.an.length)(dp:U0 f)(a b c:Int):
 cB Tryz.prog 58 [Sl.v hp,.agg #[vi a,vi b,vi c,Sl.v r,Sl.v o,Sl.v e]] m (Hh h f):=by
 apply xY
 simp -zeta only[aw,ax]
 intro m1
 have x1:af m m1:=(af.av m).aC _
 have s1:m1.size=m.size+1:=by simp[m1]
 clear_value m1
 have hl:∀b∈[m.size],b<m1.size:=bg
 have nL:=hr.len
 have If:=ho.len
 have zG:=hr.eP
 refine dg (n:=f.an.length) ab (λk m'=>af m1 m'/\∀(j:Nat)(w o:Int),j<k->f.an[j]? =some w->f.aL[j]? =some o->TQ h w o) ⟨af.av _,λj w o hj=>absurd hj (aGB _)⟩ ?_
 rintro k m2 I μ hk ⟨x2,hq⟩ next
 refine⟨λh1=>?_,λh1=>?_⟩
 ·simp only[aFP]at h1
  obtain⟨w,hw⟩:=ae (l:=f.an) (k:=k) ab
  obtain⟨q,Wa⟩:=ae (l:=f.aL) (k:=k) ab
  have gw:∀{M:ah},af m1 M->ad M r.ao (r.off+Int.toNat (k:Int)*1)=some (vi w):=λhx=>by simpa using(hr.ext (x1.trans hx)).aE hw
  have gq:∀{M:ah},af m1 M->ad M o.ao (o.off+Int.toNat (k:Int)*1)=some (vi q):=λhx=>by simpa using(ho.ext (x1.trans hx)).aE Wa
  have dY:TQ h w q->∀(j:Nat)(w o:Int),j<k+1->f.an[j]? =some w->f.aL[j]? =some o->TQ h w o:=λhn j w' o' hj rJ Lj=>by
   rcases aF1 j k with h6|h6
   ·exact hq j w' o' h6 rJ Lj
   ·have:j=k:=ab;subst this;rw[hw]at rJ;rw[Wa]at Lj;simp at rJ Lj;subst rJ;subst Lj;exact hn
  have no:¬TQ h w q->¬Hh h f:=λhn hk=>hn (hk.cq k w q hw Wa)
  have iE:∀{M:ah},af m1 M->(eT w\/1000<=w)->(0:Int)<=(k:Int)/\(k:Int)<(o.len:Int)/\∃v32:Int,ad M o.ao (o.off+Int.toNat (k:Int)*1)=some (vi v32)/\
   aD Tryz.prog 27 [vi v32,vi (0:Int),vi (999999:Int)] M λJg MG=>da [m.size] M MG/\∃r33:Bool,Jg=vb r33/\
   ((!r33)=true->∃b':Bool,vb false=.bool b'/\(b'=true<->Hh h f)/\af m MG)/\
   ((!r33)=false->(0:Int)<=(k:Int)/\(k:Int)<(o.len:Int)/\∃v41:Int,ad MG o.ao (o.off+Int.toNat (k:Int)*1)=some (vi v41)/\
   ((decide (v41>(0:Int)))=true->aD Tryz.prog 85 [Sl.v hp,vi w] MG λLl Hv=>da [m.size] MG Hv/\∃r46:Bool,Ll=vb r46/\
    ((!r46)=true->∃b':Bool,vb false=.bool b'/\(b'=true<->Hh h f)/\af m Hv)/\((!r46)=false->I (bS ((k:Int)+(1:Int))) Hv/\μ (bS ((k:Int)+(1:Int))) Hv<μ k m2))/\
   ((decide (v41>(0:Int)))=false->I (bS ((k:Int)+(1:Int))) MG/\μ (bS ((k:Int)+(1:Int))) MG<μ k m2)):=λ{M} xM hi=>by
   refine⟨ab,ab,q,gq xM,(aJ _ _ _ _).ay xM hl λb3 m3 uD x3 fF=>⟨b3,rfl,λh3=>bC (no λhn=>nb uD h3 hn.2.1) (x1.trans fF),λh3=>?_⟩⟩
   have hr3:=yb uD h3
   refine⟨ab,ab,q,gq fF,λh4=>?_,λh4=>next ab _ ⟨fF,dY ⟨hi,hr3,λhp=>by simp at h4;omega⟩⟩⟩
   refine(ft (cy.ext (x1.trans fF) hh) (dp.1 w (ak hw))).ay fF hl λb4 m4 xt x4 eU=>⟨b4,rfl,λh5=>bC (no λhn=>nb xt h5 (hn.2.2 (by simpa using h4))) (x1.trans eU),λh5=>next ab _ ⟨eU,dY ⟨hi,hr3,λ_=>yb xt h5⟩⟩⟩
  refine⟨ab,ab,w,gw x2,(aJ _ _ _ _).ay x2 hl λb3 m3 uD x3 fF=>⟨b3,rfl,λh3=>?_,λh3=>iE fF (Or.inl (yb uD h3))⟩⟩
  refine(cG _ _).ay fF hl λb4 m4 xt x4 eU=>⟨b4,rfl,λh4=>bC (no λhn=>?_) (x1.trans eU),λh4=>iE eU (Or.inr (yb xt h4))⟩
  rcases hn.1 with h5|h5
  ·exact nb uD h3 h5
  ·exact nb xt h4 h5
 ·simp only[aFQ]at h1
  exact gP ⟨λj w o' hw Lj=>hq j w o' (by have:=ap hw;omega) hw Lj⟩ (x1.trans x2)
theorem Di{m:ah}{d p aT hp fr:Sl}{im:bq}{s:St}(qD:dU m d p im)(hs:eu m aT hp fr s)(dp:Dg s){k:Nat}{f:aM}(hf:s.ai[k]? =some f):
 cB Tryz.prog 30 [.agg #[Sl.v d,Sl.v p],TP s aT hp fr,vi k] m (KP im s.heap (lg s.ai k) f):=by
 apply wC
 simp -zeta only[aw,ax]
 intro m1 m2
 have x2:af m m2:=((af.av m).aC _).aC _
 have s1:m1.size=m.size+1:=by simp[m1]
 have s2:m2.size=m.size+2:=by simp[m2,s1]
 clear_value m2
 have gL:=hs.ai.len
 have awK:=hs.ai.eP
 have jk:=ap hf
 have tA:=qD.bJ.len
 have YN:=qD.bJ.eP
 obtain⟨r,o,e,hr,ho,he,g0,g1,g2,g3,g4,g5⟩:=(hs.ext x2).ai.aE hf
 have ek:Int.toNat (k:Int)=k:=ab
 rw[ek]
 refine⟨ab,ab,_,g0,_,g1,_,g2,r,g3,o,g4,e,g5,?_⟩
 intro m3 m4
 have x4:af m2 m4:=((af.av m2).aC _).ag (aFR _) _ _
 have s4:m4.size=m2.size+1:=by simp[m4,m3,aq]
 clear_value m4
 have hl:∀b∈[m2.size,m1.size,m.size],b<m4.size:=bg
 have X4:=x2.trans x4
 rw[aF ab ab]
 refine(aJ _ _ _ _).ay (af.av _) hl λb5 m5 BR x5 _=>⟨b5,rfl,λh1=>bC (λhk=>nb BR h1 ⟨hk.dJ.1,by have:=hk.dJ.2;omega⟩) (X4.trans x5),λh1=>?_⟩
 have sX:=yb BR h1
 have X5:=X4.trans x5
 obtain⟨q,hq⟩:=ae (l:=im.bJ) (k:=f.dJ.toNat) ab
 have xy:cP im f.dJ=q:=by unfold cP;rw[hq];rfl
 obtain⟨pa,pl,pc,hpa,alV,Jz,k0,k1,k2,k3,k4⟩:=(qD.ext X5).bJ.aE hq
 have amp:=Jz.len
 have asI:=Jz.eP
 refine⟨ab,ab,pa,k0,pl,k1,_,k2,_,k3,pc,k4,?_⟩
 intro m6 m7
 have x7:af m5 m7:=((af.av m5).aC _).ag (aFR _) _ _
 have s7:m7.size=m5.size+1:=by simp[m7,m6,aq]
 have z5:=x5.size
 clear_value m7
 have hl7:∀b∈[m5.size,m2.size,m1.size,m.size],b<m7.size:=bg
 have X7:=X5.trans x7
 rw[aF ab ab]
 refine(aJ _ _ _ _).ay (af.av _) hl7 λb8 m8 hb8 x8 _=>⟨b8,rfl,λh2=>bC (λhk=>nb hb8 h2 ⟨hk.pc.1,by have:=hk.pc.2;rw[xy]at this;omega⟩) (X7.trans x8),λh2=>?_⟩
 have Q7:=yb hb8 h2
 have X8:=X7.trans x8
 have nL:=hr.len
 have If:=ho.len
 have Q0:=he.len
 refine⟨λh3=>bC (λhk=>by have:=hk.lr;rw[xy]at this;simp at h3;omega) X8,λh3=>?_⟩
 have q1:(f.an.length:Int)=q.an:=by simp at h3;omega
 refine⟨λh4=>bC (λhk=>by have:=hk.lo;rw[xy]at this;simp at h4;omega) X8,λh4=>?_⟩
 have q2:(f.aL.length:Int)=q.an:=by simp at h4;omega
 refine⟨λh5=>bC (λhk=>by have:=hk.lh;rw[xy]at this;simp at h5;omega) X8,λh5=>?_⟩
 have q3:(f.aQ.length:Int)=q.an:=by simp at h5;omega
 have BU:=dp.ai f (ak hf)
 have x28:=((x4.trans x5).trans x7).trans x8
 refine(Fb (hs.ext X8).heap (hr.ext x28) (ho.ext x28) ab BU _ _ _).ay x8 hl7 λb9 m9 LQ x9 x79=>⟨b9,rfl,λh6=>bC (λhk=>nb LQ h6 hk.an) (X8.trans x9),λh6=>?_⟩
 have hrg:=yb LQ h6
 have X9:=X8.trans x9
 have mk:(lg s.ai k=none->f.dst=0)->(∀p,lg s.ai k=some p->0<=f.dst/\f.dst<p.aL.length/\aE p.aL f.dst=0)->KP im s.heap (lg s.ai k) f:=λha hb=>
  ⟨⟨sX.1,ab⟩,⟨Q7.1,by rw[xy];omega⟩,by rw[xy];exact q1,by rw[xy];exact q2,by rw[xy];exact q3,hrg,ha,hb⟩
 refine⟨λh7=>ez ?_ X9,λh7=>?_⟩
 ·have hk0:k=0:=by simp at h7;omega
  subst hk0
  refine⟨λh8=>mk (λ_=>by simpa using h8) (λp hp=>by simp[lg]at hp),λhk=>by simpa using hk.first rfl⟩
 ·have Bj:k≠0:=by simp at h7;omega
  obtain⟨j,rfl⟩:∃j,k=j+1:=⟨k -1,ab⟩
  have ej:bS (((j+1:Nat):Int) -1)=(j:Int):=by rw[aF ab ab];omega
  have ej2:Int.toNat (j:Int)=j:=ab
  rw[ej,ej2]
  obtain⟨g,hg⟩:=ae (l:=s.ai) (k:=j) ab
  have hpv:lg s.ai (j+1)=some g:=hg
  obtain⟨r',o',e',OX,Lj,MF,_,_,_,_,y4,_⟩:=(hs.ext X9).ai.aE hg
  have aCz:=Lj.len
  have asJ:=Lj.eP
  refine⟨ab,ab,o',y4,?_⟩
  rw[aF ab ab]
  refine(aJ _ _ _ _).ay x79 hl7 λNO cK SS cO _=>⟨NO,rfl,λh8=>?_,λh8=>bC (λhk=>?_) (X9.trans cO)⟩
  ·have hd:=SS.1 h8
   obtain⟨v,hv⟩:=ae (l:=g.aL) (k:=f.dst.toNat) ab
   have ev:aE g.aL f.dst=v:=Ow hv
   refine⟨ab,ab,o',cO.ad y4,ab,ab,v,(Lj.ext cO).aE hv,ez ?_ (X9.trans cO)⟩
   refine⟨λh9=>mk (λhn=>by rw[hpv]at hn;cases hn) (λp hp=>by rw[hpv]at hp;simp at hp;subst hp;exact⟨hd.1,ab,by rw[ev];simpa using h9⟩),λhk=>?_⟩
   have:=(hk.next g hpv).2.2
   rw[ev]at this;simpa using this
  ·have:=hk.next g hpv
   exact fb SS h8 ⟨this.1,ab⟩
section
theorem K6{fs:List aM}{i:Nat}{f:aM}(hf:fs[i]? =some f)(a:Nat):holds (fs.take (i+1)) a=holds (fs.take i) a+cX f.aQ a:=by
 rw[bn hf,cQ,fw]
theorem Nu{fs:List aM}{i:Nat}{f:aM}(hf:fs[i]? =some f)(a:Nat):dz (fs.take (i+1)) a=dz (fs.take i) a+bQ f.an f.aL a:=by
 rw[bn hf,dL,iL]
theorem rC:∀{an aL:List Int}{k:Nat}{w o:Int},an[k]? =some w->aL[k]? =some o->∀a,bQ (an.take (k+1)) (aL.take (k+1)) a=bQ (an.take k) (aL.take k) a+(if w=1000+(a:Int)then o else 0)
 |[],_,_,_,_,h,_,_=>by simp at h
 |_::_,[],_,_,_,_,h,_=>by simp at h
 |r::rs,p::ps,0,w,o,h1,h2,a=>by simp at h1 h2;subst h1;subst h2;simp[bQ]
 |r::rs,p::ps,k+1,w,o,h1,h2,a=>by
  have:=rC (an:=rs) (aL:=ps) (k:=k) (by simpa using h1) (by simpa using h2) a;simp only[aHJ,bQ]at this⊢;omega
theorem La:∀{fs:List aM}{n:Nat},(∀f∈fs,f.aQ.length<=n)->∀a,holds fs a<=fs.length*n
 |[],n,_,a=>by simp[holds]
 |f::fs,n,h,a=>by
  have h1:=La (fs:=fs) λg hg=>h g (by simp[hg]);have h2:=h1 a;have h3:=iS f.aQ a;have h4:=h f az;simp only[holds,aF5];have:((fs.length+1:Nat):Int)*n=fs.length*n+n:=by push_cast;rw[aII];omega
  omega
theorem Fc:∀{an aL:List Int}{n:Int},0<=n->(∀o∈aL,0<=o/\o<=n)->∀a,0<=bQ an aL a/\bQ an aL a<=aL.length*n
 |[],aL,n,hn,h,a=>by simp[bQ];exact Int.mul_nonneg ab hn
 |_::_,[],n,hn,h,a=>by simp[bQ]
 |r::rs,o::os,n,hn,h,a=>by
  have h1:=Fc (an:=rs) (aL:=os) hn (λx hx=>h x (by simp[hx])) a;have h2:=h o az;have:((os.length+1:Nat):Int)*n=os.length*n+n:=by push_cast;rw[aII];omega
  simp only[bQ,aF5];split<;>omega
theorem Js:∀{fs:List aM}{n:Nat}{k:Int},0<=k->(∀f∈fs,f.aL.length<=n/\∀o∈f.aL,0<=o/\o<=k)->∀a,0<=dz fs a/\dz fs a<=fs.length*(n*k)
 |[],n,k,_,_,a=>by simp[dz]
 |f::fs,n,k,hk,h,a=>by
  have h1:=Js (fs:=fs) hk (λg hg=>h g (by simp[hg])) a;obtain⟨q1,q2⟩:=h f az;have h2:=Fc (an:=f.an) hk q2 a;have h3:(f.aL.length:Int)*k<=n*k:=Int.mul_le_mul_of_nonneg_right ab hk;have:((fs.length+1:Nat):Int)*(n*k)=fs.length*(n*k)+n*k:=by push_cast;rw[aII];omega
  simp only[dz,aF5];omega
section
variable{m:ah}{d p aT hp fr:Sl}{im:bq}{s:St}
theorem Hm(hs:eu m aT hp fr s)(dp:Dg s)(hd:s.ai.length<=41):cB Tryz.prog 31 [TP s aT hp fr] m (OC s.heap s.ai):=by
 apply Af;simp -zeta only[aw,ax];intro m1;have x1:af m m1:=(af.av m).aC _;have s1:m1.size=m.size+1:=by simp[m1]
 clear_value m1;have hl:=hs.heap.len;have ly:=dp.lh;have gL:=hs.ai.len;have en:Int.toNat (hp.len:Int)=s.heap.length:=ab;rw[en];refine⟨ab,ab,ab,ab,?_⟩;intro m2;have x2:af m1 m2:=(af.av m1).aC _;have B2:bK m2 m1.size au ((qA s.heap.length (λ_=>0)).map Ce.i):=KX m1 _;clear_value m2;have hb:∀{M M':ah},af m1 M->af M M'->da [m.size] M M':=λh1 h2=>h2.cg λb hb=>h1.lt (by simp at hb;omega);have hlen:=λf hf=>(dp.lr f hf).2.2;refine dg (n:=s.ai.length) ab (λi m'=>af m1 m'/\bK m' m1.size au ((qA s.heap.length (λa=>holds (s.ai.take i) a)).map Ce.i)/\∀f∈s.ai.take i,∀w∈f.aQ,w=0\/(1000<=w/\ix w<s.heap.length)) ⟨x2,by simpa[holds]using B2,az⟩ ?_;rintro i m3 I μ hi ⟨x3,B3,hq⟩ next
 refine⟨λh1=>?_,λh1=>?_⟩
 ·simp only[aFP]at h1;obtain⟨f,hf⟩:=ae (l:=s.ai) (k:=i) ab;have BU:=ak hf;have Up:=hlen f BU;have LO:(∃w∈f.aQ,¬(w=0\/(1000<=w/\ix w<s.heap.length)))->¬OC s.heap s.ai:=λ⟨w,hw,hn⟩ hk=>hn (hk.cp f BU w hw);refine dg (n:=f.aQ.length) ab (λk m'=>af m1 m'/\bK m' m1.size au ((qA s.heap.length (λa=>holds (s.ai.take i) a+cX (f.aQ.take k) a)).map Ce.i)/\∀w∈f.aQ.take k,w=0\/(1000<=w/\ix w<s.heap.length)) ⟨x3,by simpa[cX]using B3,az⟩ ?_;rintro k m4 J ν hk ⟨x4,B4,Zm⟩ zI;obtain⟨r,o,e,_,_,he,_,_,_,_,_,g5⟩:=(hs.ext (x1.trans x4)).ai.aE hf;have Q0:=he.len;refine⟨ab,ab,e,by simpa using g5,λh2=>?_,λh2=>?_⟩
  ·simp only[aFP]at h2;obtain⟨w,hw⟩:=ae (l:=f.aQ) (k:=k) ab;have Rf:=ak hw;have h64:=(dp.ai f BU).2.2 w Rf;refine⟨ab,ab,e,by simpa using g5,ab,ab,w,by simpa using he.aE hw,λh3=>?_,λh3=>?_⟩
   ·have hw0:w≠0:=by simpa using h3
    refine(cG _ _).mono ?_;rintro _ m5 ⟨b5,rfl,BR,x5⟩;have lp:=x4.trans x5;refine⟨hb x4 x5,b5,rfl,λh4=>bC (LO ⟨w,Rf,λhn=>?_⟩) (x1.trans lp),λh4=>?_⟩
    ·rcases hn with hn|hn
     ·exact hw0 hn
     ·exact nb BR h4 hn.1
    have sX:=yb BR h4;have aCA:=h64.2;have e1:bS (w -1000)=(ix w:Nat):=by unfold ix;rw[aF ab ab];omega
    have e2:Int.toNat ((ix w:Nat):Int)=ix w:=ab;rw[e1,e2,show bS ((hp.len:Int) -1)=(hp.len:Int) -1 from aF ab ab];refine(aJ _ _ _ _).mono ?_;rintro _ m6 ⟨b6,rfl,Pn,x6⟩;have kW:=lp.trans x6;refine⟨hb lp x6,b6,rfl,λh5=>bC (LO ⟨w,Rf,λhn=>?_⟩) (x1.trans kW),λh5=>?_⟩
    ·rcases hn with hn|hn
     ·exact hw0 hn
     ·exact nb Pn h5 ⟨ab,ab⟩
    have Q7:=yb Pn h5;have cA:ix w<s.heap.length:=ab;have B6:=B4.ext (x5.trans x6);simp only[Sl.eO,Sl.gN,Sl.lQ,aGa,aGr];have q1:=La (fs:=s.ai.take i) (n:=10000000) (λg hg=>hlen g (aGk hg)) (ix w);have q2:=iS (f.aQ.take k) (ix w);have q3:=uj (s.ai.take i) (ix w);have q4:=fp (f.aQ.take k) (ix w);have q5:(s.ai.take i).length<=41:=bg;have q6:(f.aQ.take k).length<=10000000:=bg;refine⟨ab,ab,_,rB B6 cA,ab,ab,Nr B6 cA,?_⟩;rw[show bS (holds (s.ai.take i) (ix w)+cX (f.aQ.take k) (ix w)+1)=holds (s.ai.take i) (ix w)+cX (f.aQ.take k) (ix w)+1 from aF ab ab];have B7:=Hl B6 (ix w) (holds (s.ai.take i) (ix w)+cX (f.aQ.take k) (ix w)+1);rw[dy (g:=λa=>holds (s.ai.take i) a+cX (f.aQ.take (k+1)) a)]at B7
    ·refine⟨λb hb=>aP _ _ _ _ (by simp at hb;omega),zI ab _ ⟨kW.ag (aFR _) _ _,B7,aZ hw Zm (Or.inr ⟨sX,cA⟩)⟩⟩
    ·intro b hb;rw[pd hw];by_cases e:b=ix w
     ·subst e;rw[aFW rfl,aFW (fD sX).symm];omega
     ·rw[aFS e,aFS (λPq=>e (by rw[Pq,jg]))];omega
   ·have hw0:w=0:=by simpa using h3
    refine zI ab m4 ⟨x4,?_,aZ hw Zm (Or.inl hw0)⟩;rw[dy (g:=λa=>holds (s.ai.take i) a+cX (f.aQ.take k) a)]
    ·exact B4
    ·intro b hb;rw[pd hw,aFS ab];omega
  ·simp only[aFQ]at h2;have ee:f.aQ.take k=f.aQ:=bL ab;rw[ee]at B4 Zm;refine next ab m4 ⟨x4,?_,aZ hf hq Zm⟩
   rw[dy (g:=λa=>holds (s.ai.take i) a+cX f.aQ a)]
   ·exact B4
   ·intro b hb;exact K6 hf b
 ·simp only[aFQ]at h1;have ee:s.ai.take i=s.ai:=bL ab;rw[ee]at B3 hq;simp only[Sl.eO,Sl.gN,Sl.lQ,aGa,aGr];refine dg (n:=s.heap.length) ab (λk m'=>m'=m3/\∀(a:Nat)(c:aR),a<k->s.heap[a]? =some c->(c.aG<0->holds s.ai a=1)/\(0<=c.aG->holds s.ai a=0)) ⟨rfl,λa c ha=>absurd ha (aGB _)⟩ ?_;rintro k m4 J ν hk ⟨rfl,Zm⟩ zI;refine⟨λh2=>?_,λh2=>?_⟩
  ·have jk:k<s.heap.length:=by first|omega|(simp at h2;omega)
   obtain⟨c,hc⟩:=ae jk;obtain⟨f,_,g1,_,_⟩:=(hs.ext (x1.trans x3)).heap.aE hc;have ek:Int.toNat (k:Int)=k:=ab;rw[ek];have gh:=rB B3 jk;have dY:(c.aG<0->holds s.ai k=1)/\(0<=c.aG->holds s.ai k=0)->∀(a:Nat)(c:aR),a<k+1->s.heap[a]? =some c->(c.aG<0->holds s.ai a=1)/\(0<=c.aG->holds s.ai a=0):=λhn a d ha hd=>by
    rcases aF1 a k with h6|h6
    ·exact Zm a d h6 hd
    ·have:a=k:=ab;subst this;rw[hc]at hd;simp at hd;subst hd;exact hn
   have Mg:(c.aG<0->holds s.ai k=1)->(0:Int)<=(k:Int)/\(k:Int)<(hp.len:Int)/\∃v90:Int,ad m4 hp.ao (hp.off+k*3)=some (vi v90)/\
    ((decide (v90>=(0:Int)))=true->(0:Int)<=(k:Int)/\(k:Int)<(s.heap.length:Int)/\∃Z0:Int,ad m4 m1.size k=some (vi Z0)/\
    ((Z0 !=(0:Int))=true->∃b':Bool,vb false=.bool b'/\(b'=true<->OC s.heap s.ai)/\af m m4)/\((Z0 !=(0:Int))=false->J (bS ((k:Int)+1)) m4/\ν (bS ((k:Int)+1)) m4<ν k m4))/\
    ((decide (v90>=(0:Int)))=false->J (bS ((k:Int)+1)) m4/\ν (bS ((k:Int)+1)) m4<ν k m4):=λhn=>by
    refine⟨ab,ab,_,g1,λh3=>⟨ab,ab,_,gh,λh4=>bC (λhk=>?_) (x1.trans x3),λh4=>zI ab _ ⟨rfl,dY ⟨hn,λ_=>by simpa using h4⟩⟩⟩,λh3=>zI ab _ ⟨rfl,dY ⟨hn,λh5=>by simp at h3;omega⟩⟩⟩
    have:=hk.jN k c hc (by simpa using h3)
    simp at h4;exact h4 this
   refine⟨ab,ab,_,g1,λh3=>⟨ab,ab,_,gh,λh4=>bC (λhk=>?_) (x1.trans x3),λh4=>Mg λ_=>by simpa using h4⟩,λh3=>Mg λh5=>by simp at h3;omega⟩;have:=hk.ic k c hc (by simpa using h3);simp at h4;exact h4 this
  ·have FG:s.heap.length<=k:=by first|omega|(simp at h2;omega)
   exact gP ⟨hq,λa c hc hn=>(Zm a c (by have:=ap hc;omega) hc).1 hn,λa c hc hn=>(Zm a c (by have:=ap hc;omega) hc).2 hn⟩ (x1.trans x3)
end
end
section
theorem Ql(a:Int):(a==(0:Int))=decide (a=0):=by by_cases h:a=0<;>simp[h]
theorem Fe(a b:Int):(!((a==(0:Int))==(b==(0:Int))))=false<->(a=0<->b=0):=by
 rw[Ql,Ql];by_cases h1:a=0<;>by_cases h2:b=0<;>simp[h1,h2]
section
variable{m:ah}{d p aT hp fr:Sl}{im:bq}{s:St}
structure Xp(h:List aR)(fs:List aM):Prop where
 len:∀f∈fs,f.aL.length=f.an.length
 an:∀f∈fs,Hh h f
theorem Xp.aL{h:List aR}{fs:List aM}(H:Xp h fs){f:aM}(hf:f∈fs):∀o∈f.aL,0<=o/\o<=999999:=λo ho=>by
 obtain⟨k,hk⟩:=List.mem_iff_getElem?.1 ho;obtain⟨w,hw⟩:=ae (l:=f.an) (k:=k) (by have:=ap hk;have:=H.len f hf;omega);exact((H.an f hf).cq k w o hw hk).2.1
theorem Ho(hs:eu m aT hp fr s)(dp:Dg s)(hd:s.ai.length<=41)(H:Xp s.heap s.ai):Xo 60 [TP s aT hp fr] m (qA s.heap.length (dz s.ai)):=by
 apply Ag;simp -zeta only[aw,ax];intro m1;have x1:af m m1:=(af.av m).aC _;have s1:m1.size=m.size+1:=by simp[m1]
 clear_value m1;have hl:=hs.heap.len;have ly:=dp.lh;have gL:=hs.ai.len;have en:Int.toNat (hp.len:Int)=s.heap.length:=ab;rw[en];refine⟨ab,ab,ab,ab,?_⟩;intro m2;have x2:af m1 m2:=(af.av m1).aC _;have B2:bK m2 m1.size au ((qA s.heap.length (λ_=>0)).map Ce.i):=KX m1 _;have s2:m2.size=m1.size+1:=by simp[m2]
 clear_value m2;refine dg (n:=s.ai.length) ab (λi m'=>af m1 m'/\m1.size<m'.size/\bK m' m1.size au ((qA s.heap.length (λa=>dz (s.ai.take i) a)).map Ce.i)) ⟨x2,ab,by simpa[dz]using B2⟩ ?_;rintro i m3 I μ hi ⟨x3,z3,B3⟩ next
 refine⟨λh1=>?_,λh1=>?_⟩
 ·simp only[aFP]at h1;obtain⟨f,hf⟩:=ae (l:=s.ai) (k:=i) ab;have BU:=ak hf;have hlr:=dp.lr f BU;obtain⟨r,o,e,hr,ho,he,g0,g1,g2,g3,g4,g5⟩:=(hs.ext (x1.trans x3)).ai.aE hf;have nL:=hr.len;have If:=ho.len;have hlen:=H.len f BU;have ei:Int.toNat (i:Int)=i:=ab;rw[ei];refine⟨ab,ab,_,g0,_,g1,_,g2,r,g3,o,g4,e,g5,?_⟩;intro m4 m5;have x5:af m3 m5:=((af.av m3).aC _).ag (aFR _) _ _;have s5:m5.size=m3.size+1:=by simp[m5,m4,aq]
  clear_value m5;have B5:=B3.ext x5;have lp:=x3.trans x5;refine dg (n:=f.aL.length) ab (λk m'=>af m1 m'/\m5.size<=m'.size/\(∀b,b<m5.size->b≠m1.size->m'[b]? =m5[b]?)/\bK m' m1.size au ((qA s.heap.length (λa=>dz (s.ai.take i) a+bQ (f.an.take k) (f.aL.take k) a)).map Ce.i)) ⟨lp,aFR _,λ_ _ _=>rfl,by simpa[bQ]using B5⟩ ?_;rintro k m6 J ν hk ⟨x6,z6,e6,B6⟩ Lv;refine⟨λh2=>?_,λh2=>?_⟩
  ·simp only[aFP]at h2;obtain⟨w,hw⟩:=ae (l:=f.an) (k:=k) ab;obtain⟨q,Wa⟩:=ae (l:=f.aL) (k:=k) ab;have R:=(H.an f BU).cq k w q hw Wa;obtain⟨r',o',e',OX,Lj,MF,_,_,_,_,y4,_⟩:=(hs.ext (x1.trans x6)).ai.aE hf;have lb:∀{sl:Sl}{l:List Int},aj m sl l->l≠[]->sl.ao<m.size:=λh cx=>nt h cx;obtain⟨r0,o0,e0,VO,ho0,_,_,_,_,w3,w4,_⟩:=hs.ai.aE hf;have er:r0=r:=by have:=(x1.trans x3).ad w3;rw[g3]at this;exact(Sl.HN.1 (aHv this)).symm
   have eo:o0=o:=by have:=(x1.trans x3).ad w4;rw[g4]at this;exact(Sl.HN.1 (aHv this)).symm
   subst er;subst eo;have gq:ad m6 o0.ao (o0.off+Int.toNat (k:Int)*1)=some (vi q):=by simpa using(ho0.ext (x1.trans x6)).aE Wa
   have gw:ad m6 r0.ao (r0.off+Int.toNat (k:Int)*1)=some (vi w):=by simpa using(VO.ext (x1.trans x6)).aE hw
   refine⟨ab,ab,q,gq,λh3=>?_,λh3=>?_⟩
   ·have Pl:0<q:=by simpa using h3
    have iO:=R.2.2 Pl;have cA:=ap (bE iO).1;have h64:=(dp.ai f BU).1 w (ak hw);have e1:bS (w -1000)=(ix w:Nat):=by have:=iO.1;have:=h64.2;unfold ix;rw[aF ab ab];omega
    have e2:Int.toNat ((ix w:Nat):Int)=ix w:=ab;refine⟨ab,ab,w,gw,ab,ab,w,gw,?_⟩;rw[e1,e2];simp only[Sl.eO,Sl.gN,Sl.lQ,aGa,aGr];have q1:=Js (fs:=s.ai.take i) (n:=10000000) (k:=999999) ab (λg hg=>⟨(dp.lr g (aGk hg)).2.1,H.aL (aGk hg)⟩) (ix w);have q2:=Fc (an:=f.an.take k) (aL:=f.aL.take k) (n:=999999) ab (λo ho=>H.aL BU o (aGk ho)) (ix w);have q5:(s.ai.take i).length<=41:=bg;have q6:(f.aL.take k).length<=10000000:=bg;have q7:=R.2.1;refine⟨ab,ab,_,rB B6 cA,ab,ab,q,by simpa using gq,ab,ab,Nr B6 cA,?_⟩;rw[show bS (dz (s.ai.take i) (ix w)+bQ (f.an.take k) (f.aL.take k) (ix w)+q)=dz (s.ai.take i) (ix w)+bQ (f.an.take k) (f.aL.take k) (ix w)+q from aF ab ab];have B7:=Hl B6 (ix w) (dz (s.ai.take i) (ix w)+bQ (f.an.take k) (f.aL.take k) (ix w)+q);rw[dy (g:=λa=>dz (s.ai.take i) a+bQ (f.an.take (k+1)) (f.aL.take (k+1)) a)]at B7
    ·refine⟨λb hb=>aP _ _ _ _ (by simp at hb;omega),Lv ab _ ⟨x6.ag (aFR _) _ _,by rw[aq];exact z6,λb hb cx=>by rw[aP _ _ _ _ cx];exact e6 b hb cx,B7⟩⟩
    ·intro b hb;rw[rC hw Wa];by_cases e:b=ix w
     ·subst e;rw[aFW rfl,aFW (fD iO.1).symm];omega
     ·rw[aFS e,aFS (λPq=>e (by rw[Pq,jg]))];omega
   ·have Pl:q=0:=by have:=R.2.1.1;simp at h3;omega
    refine Lv ab m6 ⟨x6,z6,e6,?_⟩;rw[dy (g:=λa=>dz (s.ai.take i) a+bQ (f.an.take k) (f.aL.take k) a)]
    ·exact B6
    ·intro b hb;rw[rC hw Wa,Pl];split<;>omega
  ·simp only[aFQ]at h2;have e1:f.an.take k=f.an:=bL ab;have e2:f.aL.take k=f.aL:=bL ab;rw[e1,e2]at B6;refine next ab m6 ⟨x6,ab,?_⟩
   rw[dy (g:=λa=>dz (s.ai.take i) a+bQ f.an f.aL a)]
   ·exact B6
   ·intro b hb;exact Nu hf b
 ·simp only[aFQ]at h1;have ee:s.ai.take i=s.ai:=bL ab;rw[ee]at B3;exact⟨_,rfl,OF B3 ab,x1.trans x3⟩
theorem Bg(hs:eu m aT hp fr s)(dp:Dg s)(hd:s.ai.length<=41)(H:Xp s.heap s.ai)(hc:∀c∈s.heap,mj s.heap c):
 cB Tryz.prog 32 [TP s aT hp fr] m (∀(a:Nat)(c:aR),s.heap[a]? =some c->0<c.aG->c.aG=cL s.heap a+dz s.ai a):=by
 apply uU
 simp -zeta only[aw,ax]
 intro m1
 have x1:af m m1:=(af.av m).aC _
 have s1:m1.size=m.size+1:=by simp[m1]
 clear_value m1
 have hl:=hs.heap.len
 have ly:=dp.lh
 refine(zp (hs.ext x1).heap hc dp.heap ab).mono ?_
 rintro _ m2 ⟨r,rfl,hr,x2⟩
 have z2:=x2.size
 refine⟨x2.cg bg,r,rfl,(Ho (hs.ext (x1.trans x2)) dp hd H).mono ?_⟩
 rintro _ m3 ⟨o,rfl,ho,x3⟩
 have nL:=hr.len
 have If:=ho.len
 rw[lL]at nL If
 have X3:=(x1.trans x2).trans x3
 refine⟨x3.cg bg,o,rfl,?_⟩
 refine dg (n:=s.heap.length) ab (λk m'=>m'=m3/\∀(a:Nat)(c:aR),a<k->s.heap[a]? =some c->0<c.aG->c.aG=cL s.heap a+dz s.ai a) ⟨rfl,λa c ha=>absurd ha (aGB _)⟩ ?_
 rintro k m4 I μ hk ⟨rfl,hq⟩ next
 refine⟨λh2=>?_,λh2=>?_⟩
 ·simp only[aFP]at h2
  have jk:k<s.heap.length:=ab
  obtain⟨c,BT⟩:=ae jk
  obtain⟨f,_,g1,_,_⟩:=(hs.ext X3).heap.aE BT
  have ek:Int.toNat (k:Int)=k:=ab
  rw[ek]
  have dY:(0<c.aG->c.aG=cL s.heap k+dz s.ai k)->∀(a:Nat)(c:aR),a<k+1->s.heap[a]? =some c->0<c.aG->c.aG=cL s.heap a+dz s.ai a:=λhn a d ha hd=>by
   rcases aF1 a k with h6|h6
   ·exact hq a d h6 hd
   ·have:a=k:=ab;subst this;rw[BT]at hd;simp at hd;subst hd;exact hn
  have q1:=zY s.heap k λc hm=>(hc c hm).fl
  have q2:=oH s.heap k
  have q3:=Js (fs:=s.ai) (n:=10000000) (k:=999999) ab (λg hg=>⟨(dp.lr g hg).2.1,H.aL hg⟩) k
  refine⟨ab,ab,_,g1,λh3=>?_,λh3=>next ab _ ⟨rfl,dY λh4=>by simp at h3;omega⟩⟩
  refine⟨ab,ab,_,g1,ab,ab,_,(hr.ext x3).aE (sT jk),ab,ab,_,ho.aE (sT jk),?_⟩
  rw[show bS (cL s.heap k+dz s.ai k)=cL s.heap k+dz s.ai k from aF ab ab]
  refine⟨λh4=>bC (λhk=>?_) X3,λh4=>next ab _ ⟨rfl,dY λ_=>by simpa using h4⟩⟩
  have:=hk k c BT (by simpa using h3)
  simp at h4;exact h4 this
 ·simp only[aFQ]at h2
  exact gP (λa c hc hn=>hq a c (by have:=ap hc;omega) hc hn) X3
theorem Dj(qD:dU m d p im)(hs:eu m aT hp fr s)(dp:Dg s):cB Tryz.prog 14 [.agg #[Sl.v d,Sl.v p],TP s aT hp fr] m (bR im s):=by
 apply wu;simp -zeta only[aw,ax];intro m1 m2;have x2:af m m2:=((af.av m).aC _).aC _;have s1:m1.size=m.size+1:=by simp[m1]
 have s2:m2.size=m.size+2:=by simp[m2,s1]
 clear_value m2;have hl:∀b∈[m1.size,m.size],b<m2.size:=bg;have gL:=hs.ai.len;have no:∀{M:ah},af m2 M->¬Nn im s->∃b':Bool,vb false=.bool b'/\(b'=true<->bR im s)/\af m M:=λhx hn=>bC (λh=>hn (OD h)) (x2.trans hx);refine(qR (qD.ext x2)).ay (af.av _) hl λb3 m3 uD x3 _=>⟨b3,rfl,λh1=>no x3 λhk=>nb uD h1 hk.eG,λh1=>?_⟩;have hi:=yb uD h1;refine(aJ _ _ _ _).ay x3 hl λb4 m4 xt x34 x4=>⟨b4,rfl,λh2=>no x4 λhk=>nb xt h2 hk.bT,λh2=>?_⟩;have vL:=yb xt h2;have ZW:(s.ai=[])<->((fr.len:Int)=0):=by rw[gL];simp
 refine⟨λh3=>no x4 λhk=>?_,λh3=>?_⟩
 ·have:=hk.done;rw[ZW,<-Fe]at this;rw[this]at h3;cases h3
 have NP:s.bT=0<->s.ai=[]:=by rw[ZW];exact(Fe _ _).1 h3
 refine⟨λM=>af m2 M/\eT s.value/\(s.value≠0->s.bT=0)/\(0<=s.cV/\s.cV<=40)/\(0<=s.be/\s.be<=s.cV),?_,?_⟩
 ·refine(aJ _ _ _ _).ay x4 hl λb5 m5 BR x45 x5=>⟨b5,rfl,λh4=>no x5 λhk=>nb BR h4 hk.value,λh4=>?_⟩;have hv:=yb BR h4;have tail:(s.value≠0->s.bT=0)->aD Tryz.prog 27 [vi s.cV,vi (0:Int),vi (40:Int)] m5 λJg Hv=>da [m1.size,m.size] m5 Hv/\∃r42:Bool,Jg=vb r42/\
   ((!r42)=true->∃b':Bool,vb false=.bool b'/\(b'=true<->bR im s)/\af m Hv)/\((!r42)=false->aD Tryz.prog 27 [vi s.be,vi (0:Int),vi s.cV] Hv λLl Vk=>
   da [m1.size,m.size] Hv Vk/\∃r50:Bool,Ll=vb r50/\((!r50)=true->∃b':Bool,vb false=.bool b'/\(b'=true<->bR im s)/\af m Vk)/\
   ((!r50)=false->af m2 Vk/\eT s.value/\(s.value≠0->s.bT=0)/\(0<=s.cV/\s.cV<=40)/\(0<=s.be/\s.be<=s.cV))):=λhv0=>
   (aJ _ _ _ _).ay x5 hl λb6 m6 Pn x56 x6=>⟨b6,rfl,λh6=>no x6 λhk=>nb Pn h6 hk.cV,λh6=>
    (aJ _ _ _ _).ay x6 hl λb7 m7 ZZ x67 x7=>⟨b7,rfl,λh7=>no x7 λhk=>nb ZZ h7 hk.be,λh7=>⟨x7,hv,hv0,yb Pn h6,yb ZZ h7⟩⟩⟩
  refine⟨λh5=>⟨λh6=>no x5 λhk=>?_,λh6=>tail λ_=>by simpa using h6⟩,λh5=>tail λh6=>absurd (by simpa using h5) h6⟩;have:=hk.pI (by simpa using h5);simp at h6;exact h6 this
 ·rintro m5 ⟨x5,hv,hv0,Im,LG⟩;rw[aF ab ab];refine⟨λh4=>no x5 λhk=>by have:=hk.jT;simp at h4;omega,λh4=>?_⟩;have tC:(s.ai.length:Int)<=s.be+1:=by simp at h4;omega
  have ag8:s.ai.length<=41:=ab;refine(Dh (hs.ext (x2.trans x5)).aT).ay x5 hl λb6 m6 Pn x56 x6=>⟨b6,rfl,λh5=>no x6 λhk=>nb Pn h5 hk.aT,λh5=>?_⟩;have SU:=yb Pn h5;refine(Fa (hs.ext (x2.trans x6)).heap dp.heap (by have:=dp.lh;omega)).ay x6 hl λb7 m7 ZZ x67 x7=>⟨b7,rfl,λh6=>no x7 λhk=>nb ZZ h6 hk.heap,λh6=>?_⟩;have QU:=yb ZZ h6;refine dg (n:=s.ai.length) ab (λk m'=>af m2 m'/\∀(j:Nat)(f:aM),j<k->s.ai[j]? =some f->KP im s.heap (lg s.ai j) f) ⟨x7,λj f hj=>absurd hj (aGB _)⟩ ?_;rintro k m8 I μ hk ⟨x8,hq⟩ next
  refine⟨λh7=>?_,λh7=>?_⟩
  ·simp only[aFP]at h7;obtain⟨f,hf⟩:=ae (l:=s.ai) (k:=k) ab;refine(Di (qD.ext (x2.trans x8)) (hs.ext (x2.trans x8)) dp hf).ay x8 hl λb9 m9 LQ x89 x9=>⟨b9,rfl,λh8=>no x9 λhk=>nb LQ h8 (hk.ai k f hf),λh8=>next ab _ ⟨x9,λj g hj hg=>?_⟩⟩;rcases aF1 j k with ln|ln
   ·exact hq j g ln hg
   ·have:j=k:=ab;subst this;rw[hf]at hg;simp at hg;subst hg;exact yb LQ h8
  ·simp only[aFQ]at h7;have OR:∀(j:Nat)(f:aM),s.ai[j]? =some f->KP im s.heap (lg s.ai j) f:=λj f hf=>hq j f (by have:=ap hf;omega) hf;have HF:Xp s.heap s.ai:=⟨λf hf=>by
    obtain⟨j,hj⟩:=uA hf;have h1:=(OR j f hj).lr;have h2:=(OR j f hj).lo;omega,λf hf=>let⟨j,hj⟩:=uA hf;(OR j f hj).an⟩
   refine(Hm (hs.ext (x2.trans x8)) dp ag8).ay x8 hl λb9 m9 LQ x89 x9=>⟨b9,rfl,λh8=>?_,λh8=>no x9 λhk=>fb LQ h8 hk.aQ⟩;refine(Bg (hs.ext (x2.trans x9)) dp ag8 HF QU.cells).ay x9 hl λNO cK SS aCD cO=>⟨NO,rfl,ez ?_ (x2.trans cO)⟩;rw[SS];exact⟨λhx=>KR ⟨hi,vL,NP,hv,hv0,Im,LG,tC,SU,QU,OR,LQ.1 h8,hx⟩,λhk=>(OD hk).Sa⟩
end
end
section
def eW(im:bq)(x:Instr):Nat->List Int->List Int
 |_,[]=>[]
 |k,w::ws=>(if(x.op=9\/x.op=24)/\mg im x k=true then 0 else gF w)::eW im x (k+1) ws
theorem BN(im:bq)(x:Instr):∀(l r:List Int)(k:Nat),eW im x k (l++r)=eW im x k l++eW im x (k+l.length) r
 |[],r,k=>by simp[eW]
 |a::l,r,k=>by
  have:=BN im x l r (k+1);simp only[aGg,eW,this,aF5];have e:k+(l.length+1)=k+1+l.length:=ab;rw[e]
theorem Dk(im:bq)(x:Instr):∀(l:List Int)(k:Nat),(eW im x k l).length=l.length
 |[],k=>rfl
 |a::l,k=>by simp only[eW,aF5,Dk im x l]
theorem Ib{im:bq}{x:Instr}(hx:x.op=9\/x.op=24):∀(l:List Int)(k:Nat),eW im x k l=fm (cP im x.bh).bX k l
 |[],k=>rfl
 |a::l,k=>by
  simp only[eW,fm,Ib hx l];congr 1;unfold mg;by_cases h:((cP im x.bh).bX.any λy=>y==(k:Int))=true
  ·rw[aFW ⟨hx,h⟩,aFW h]
  ·rw[aFS (λhh=>h hh.2),aFS h]
theorem Ff{im:bq}{x:Instr}(hx:¬(x.op=9\/x.op=24)):∀(l:List Int)(k:Nat),eW im x k l=fm [] k l
 |[],k=>rfl
 |a::l,k=>by
  simp only[eW,fm,Ff hx l,aH5,aGU,aHA];rw[aFS (λhh=>hx hh.1)]
theorem Dl{m:ah}{mb:Nat}{d p:Sl}{im:bq}(qD:dU m d p im)(g0:ad m mb 0=some (Sl.v d))(g1:ad m mb 1=some (Sl.v p)){x:Instr}(hc:CX im x)(a j:Sl){ws:Sl}{l:List Int}(hw:aj m ws l)(xp:l.length<=1000000):
 od 178 [vp mb 0,xv x a j,Sl.v ws] m (eW im x 0 l):=by
 apply oU (mb,0)
 simp -zeta only[aw,ax]
 intro m1 m2
 have dF:af m m1:=(af.av m).aC _
 have h2:af m1 m2:=(af.av m1).aC _
 have ho:gQ m1 m2 au 1 (.mk m1.size 0 0 0) []:=gQ.new (af.av m1) au 1 [] 0 az
 have hl:∀b∈[m.size],b<m1.size:=by simp[m1]
 have uB:=hw.len
 clear_value m2
 clear_value m1
 refine cN (n:=l.length) ab (λk s m'=>af m1 m'/\gQ m1 m' au 1 s ((eW im x 0 (l.take k)).map Ce.i)) ⟨h2,by simpa[eW]using ho⟩ ?_
 rintro k s m3 I μ hk ⟨hx,Q1⟩ next
 have lO:=dF.trans hx
 refine⟨λh=>?_,λh=>?_⟩
 ·simp only[aFP]at h
  obtain⟨y,hy⟩:=ae (l:=l) (k:=k) ab
  have Pf:(l.take k).length=k:=bg
  have Zn:eW im x 0 (l.take (k+1))=eW im x 0 (l.take k)++[if(x.op=9\/x.op=24)/\mg im x k=true then 0 else gF y]:=by
   rw[bn hy,BN,Pf];simp[eW]
  have kQ:(eW im x 0 (l.take k)).length<1000000000:=by rw[Dk,Pf];omega
  refine⟨ab,ab,y,by simpa using lO.ad (hw.aE hy),(cG _ _).ay hx hl λb m4 hb h4 SI=>⟨b,rfl,λnH=>?_,λmF=>?_⟩⟩
  ·have kK:=dF.trans SI
   refine⟨d,kK.ad g0,p,kK.ad g1,(pJ (qD.ext kK) hc a j k).ay SI hl λb2 m5 lz h5 h52=>⟨b2,rfl,λh6=>?_,λh6=>?_⟩⟩
   ·intro m6
    refine rf ((Q1.ext h4).ext h5) h52 kQ λr m7 q1 q2=>⟨af.CZ (h52.aC _) q2 hl,next ab _ _ ⟨q2,?_⟩⟩
    rw[Zn,aFS (nb lz h6),gF,aFW (hb.1 nH)];exact q1
   ·intro m6
    refine rf ((Q1.ext h4).ext h5) h52 kQ λr m7 q1 q2=>⟨af.CZ (h52.aC _) q2 hl,next ab _ _ ⟨q2,?_⟩⟩
    rw[Zn,aFW (yb lz h6)];exact q1
  ·intro m6
   refine rf (Q1.ext h4) SI kQ λr m7 q1 q2=>⟨af.CZ (SI.aC _) q2 hl,next ab _ _ ⟨q2,?_⟩⟩
   rw[Zn]
   have e:(if(x.op=9\/x.op=24)/\mg im x k=true then 0 else gF y)=0:=by
    rw[gF,aFS (fb hb mF)];split<;>rfl
   rw[e];exact q1
 ·simp only[aFQ]at h
  rw[bL ab]at Q1
  exact⟨s,rfl,Q1.bN dF.size,lO⟩
structure rZ(m m':ah)(b1 b2 b3 n:Nat)(an aL aQ:List Int):Prop where
 ext:af m m'
 lo:m.size<=b1/\m.size<=b2/\m.size<=b3/\b1≠b2/\b1≠b3/\b2≠b3/\b1<m'.size/\b2<m'.size/\b3<m'.size
 kr:bK m' b1 au (an.map Ce.i)
 ko:bK m' b2 au (aL.map Ce.i)
 kh:bK m' b3 au (aQ.map Ce.i)
 len:an.length=n/\aL.length=n/\aQ.length=n
theorem Lb{m:ah}{b:Nat}{n:Nat}{l:List Int}(hb:bK m b au ((eF n).map Ce.i))(hl:l.length<=n):bK (ag m b 0 (l.map Ce.i)) b au ((l++eF (n -l.length)).map Ce.i):=by
 have:=bK.ag (m:=m) (o:=0) (r:=l.map Ce.i) hb;have e:fP ((eF n).map Ce.i) 0 (l.map Ce.i)=(l++eF (n -l.length)).map Ce.i:=by
  have h1:=zQ [] (l.map Ce.i) ((eF n).map Ce.i) (by simp[jI];omega);simp only[aGp,aGv]at h1;rw[h1];simp[eF,List.drop_replicate]
 rw[e]at this;exact this
theorem we{m:ah}{d p:Sl}{im:bq}(qD:dU m d p im){g:Int}(h0:0<=g){q:bY}(hq:im.bJ[g.toNat]? =some q)(DA:0<=q.an/\q.an<=2000)(dst:Int){ws os:Sl}{wl ol:List Int}(hw:aj m ws wl)(ho:aj m os ol)(uB:(wl.length:Int)<=q.an)(If:ol.length=wl.length):
 aD Tryz.prog 73 [.agg #[Sl.v d,Sl.v p],vi g,vi dst,Sl.v ws,Sl.v os] m λv m'=>∃b1 b2 b3,v=.agg #[vi g,vi 0,vi dst,Sl.v (.mk b1 0 q.an.toNat q.an.toNat),Sl.v (.mk b2 0 q.an.toNat q.an.toNat),Sl.v (.mk b3 0 q.an.toNat q.an.toNat)]/\
  rZ m m' b1 b2 b3 q.an.toNat (wl++eF (q.an.toNat -wl.length)) (ol++eF (q.an.toNat -ol.length)) (eF q.an.toNat):=by
 apply Ci
 simp -zeta only[aw,ax]
 intro m1 m2
 have dA:af m m2:=((af.av m).aC _).aC _
 have s1:m1.size=m.size+1:=by simp[m1]
 have s2:m2.size=m.size+2:=by simp[m2,s1]
 have hl:∀b∈[m1.size,m.size],b<m2.size:=bg
 have tA:=qD.bJ.len
 have cA:=ap hq
 have amr:=hw.len
 have ag9:=ho.len
 clear_value m2
 obtain⟨a',l',c',_,_,_,_,_,_,k3,_⟩:=(qD.ext dA).bJ.aE hq
 refine⟨h0,ab,q.an,k3,(oK DA.1 ab).mono ?_⟩
 rintro _ m3 ⟨rfl,e3⟩
 have mL:af m2 m3:=by rw[e3];exact af.push _ _
 have s3:m3.size=m2.size+1:=by rw[e3];simp
 have k1:bK m3 m2.size au ((eF q.an.toNat).map Ce.i):=by rw[e3];exact bK.push _ _ _
 clear e3
 refine⟨mL.cg hl,_,rfl,(oK DA.1 ab).mono ?_⟩
 rintro _ m4 ⟨rfl,e4⟩
 have FJ:af m3 m4:=by rw[e4];exact af.push _ _
 have s4:m4.size=m3.size+1:=by rw[e4];simp
 have k2:bK m4 m3.size au ((eF q.an.toNat).map Ce.i):=by rw[e4];exact bK.push _ _ _
 clear e4
 have mH:=mL.trans FJ
 have kK:=dA.trans mH
 have ams:min ws.len q.an.toNat=wl.length:=by rw[amr];exact aGV ab
 have amt:min os.len q.an.toNat=ol.length:=by rw[ag9];exact aGV ab
 refine⟨FJ.cg (λb hb=>mL.lt (hl b hb)),_,rfl,wl.map Ce.i,by simp only[Sl.eO];rw[ams];simp,(hw.ext kK).RI,(k1.ext FJ).dW (by simp[jI];omega),?_⟩
 intro m5
 have k5:bK m5 m2.size au ((wl++eF (q.an.toNat -wl.length)).map Ce.i):=Lb (k1.ext FJ) ab
 have k52:bK m5 m3.size au ((eF q.an.toNat).map Ce.i):=k2.congr (aP _ _ _ _ (show m3.size≠m2.size by omega))
 have Lz:af m2 m5:=mH.ag (aFR _) _ _
 have s5:m5.size=m4.size:=aq _ _ _ _
 clear_value m5
 have vP:=dA.trans Lz
 refine⟨af.CZ mH Lz hl,ol.map Ce.i,by simp only[Sl.eO];rw[amt];simp,(ho.ext vP).RI,k52.dW (by simp[jI];omega),?_⟩
 intro m6
 have k6:bK m6 m3.size au ((ol++eF (q.an.toNat -ol.length)).map Ce.i):=Lb k52 ab
 have k61:bK m6 m2.size au ((wl++eF (q.an.toNat -wl.length)).map Ce.i):=k5.congr (aP _ _ _ _ (show m2.size≠m3.size by omega))
 have V3:af m2 m6:=Lz.ag (show m2.size<=m3.size by omega) _ _
 have s6:m6.size=m5.size:=aq _ _ _ _
 clear_value m6
 refine⟨af.CZ Lz V3 hl,(oK DA.1 ab).mono ?_⟩
 rintro _ m7 ⟨rfl,e7⟩
 have SR:af m6 m7:=by rw[e7];exact af.push _ _
 have s7:m7.size=m6.size+1:=by rw[e7];simp
 have k7:bK m7 m6.size au ((eF q.an.toNat).map Ce.i):=by rw[e7];exact bK.push _ _ _
 clear e7
 refine⟨af.CZ V3 (V3.trans SR) hl,_,rfl,?_⟩
 intro m8
 have xg:af m m8:=(dA.trans (V3.trans SR)).ag ab _ _
 have s8:m8.size=m7.size:=aq _ _ _ _
 have ne:∀b,b≠m1.size->m8[b]? =m7[b]? :=λb hb=>aP _ _ _ _ hb
 refine⟨m2.size,m3.size,m6.size,rfl,xg,ab,(k61.ext SR).congr (ne _ ab),(k6.ext SR).congr (ne _ ab),k7.congr (ne _ ab),by simp[jI];omega⟩
def pM(ro:Nat->Nat)(b1 b2 b3 n:Nat):Nat->Nat:=uG (uG (uG ro b1 (10+3*n)) b2 (11+3*n)) b3 (12+3*n)
theorem rZ.dT{p:Nat->Prop}{ro:Nat->Nat}{m m':ah}{b1 b2 b3 k n:Nat}{an aL aQ:List Int}(N:rZ m m' b1 b2 b3 k an aL aQ)(hn:∀b,m.size<=b->ro b=0):cJ p ro m (pM ro b1 b2 b3 n) m':=by
 have Dz:=N.lo;refine⟨N.ext.size,λb hb=>?_,λb hb=>?_,λb hb _=>N.ext.same b hb⟩
 ·unfold pM;rw[dO ab,dO ab,dO ab]
 ·unfold pM;rw[dO ab,dO ab,dO ab];exact hn b (by have:=N.ext.size;omega)
theorem rZ.rm{ro:Nat->Nat}{m m':ah}{b1 b2 b3 k n:Nat}{an aL aQ:List Int}(N:rZ m m' b1 b2 b3 k an aL aQ):
 fB (pM ro b1 b2 b3 n) m' au 1 (10+3*n) (.mk b1 0 k k) (an.map Ce.i)/\fB (pM ro b1 b2 b3 n) m' au 1 (11+3*n) (.mk b2 0 k k) (aL.map Ce.i)/\fB (pM ro b1 b2 b3 n) m' au 1 (12+3*n) (.mk b3 0 k k) (aQ.map Ce.i):=by
 have Dz:=N.lo
 obtain⟨l1,l2,l3⟩:=N.len
 refine⟨⟨by simp[l1],az,Or.inr ⟨b1,k,[],rfl,?_,by rw[aGP];exact N.kr,by simp[l1]⟩⟩,⟨by simp[l2],az,Or.inr ⟨b2,k,[],rfl,?_,by rw[aGP];exact N.ko,by simp[l2]⟩⟩,⟨by simp[l3],az,Or.inr ⟨b3,k,[],rfl,?_,by rw[aGP];exact N.kh,by simp[l3]⟩⟩⟩
 ·unfold pM;rw[dO ab,dO ab,fU]
 ·unfold pM;rw[dO ab,fU]
 ·unfold pM;rw[fU]
theorem rZ.box{m m':ah}{b1 b2 b3 k:Nat}{an aL aQ:List Int}(N:rZ m m' b1 b2 b3 k an aL aQ){m1:ah}(hx:af m1 m){nb:Nat}(h1:m1.size<=nb)(h2:nb<m.size)(i:Nat)(cs:List Ce):rZ m1 (ag m' nb i cs) b1 b2 b3 k an aL aQ:=by
 have Dz:=N.lo;have hs:=hx.size;exact⟨(hx.trans N.ext).ag h1 _ _,by rw[aq];omega,N.kr.congr (aP _ _ _ _ ab),N.ko.congr (aP _ _ _ _ ab),N.kh.congr (aP _ _ _ _ ab),N.len⟩
theorem rZ.afn{m m' m2:ah}{b1 b2 b3 k:Nat}{an aL aQ:List Int}(N:rZ m m' b1 b2 b3 k an aL aQ)(hx:af m' m2):rZ m m2 b1 b2 b3 k an aL aQ:=by
 have Dz:=N.lo;have:=hx.size;exact⟨N.ext.trans hx,ab,N.kr.ext hx,N.ko.ext hx,N.kh.ext hx,N.len⟩
section
variable{m0:ah}{ro:Nat->Nat}{m:ah}{mb:Nat}{d p aT hp fr:Sl}{s:St}{fs:List aM}{f:aM}{r o h:Sl}{css:List (List Ce)}
theorem ru.replace{bG:Nat->Nat}{m':ah}(T:ru ro m fr fs f r o h css)(hc:cJ (λ_=>False) ro m bG m'){f':aM}{r' o' h':Sl}(h1:fB bG m' au 1 (10+3*fs.length) r' (f'.an.map Ce.i))(h2:fB bG m' au 1 (11+3*fs.length) o' (f'.aL.map Ce.i))(h3:fB bG m' au 1 (12+3*fs.length) h' (f'.aQ.map Ce.i)):
 dW m' fr.ao (fr.off+fs.length*6) 6/\ns bG (ag m' fr.ao (fr.off+fs.length*6) [.i f'.dJ,.i f'.pc,.i f'.dst,.s r',.s o',.s h']) fr (fs++[f'])/\cJ (λk=>k=4) bG m' bG (ag m' fr.ao (fr.off+fs.length*6) [.i f'.dJ,.i f'.pc,.i f'.dst,.s r',.s o',.s h']):=by
 have T':ru bG m' fr fs f r o h css:=T.dT hc λ_ _=>id
 have hb:=T'.ao
 have hl:css.flatten.length=fs.length*6:=by rw[bZ T.size,T.len]
 have hc4:cJ (λk=>k=4) bG m' bG (ag m' fr.ao (fr.off+fs.length*6) [.i f'.dJ,.i f'.pc,.i f'.dst,.s r',.s o',.s h']):=cJ.ag hc.new hb.1 _ _
 refine⟨T'.rm.wr (by simp[hl]),ru.rH (f:=f') (fs:=fs) (css:=css) (r:=r') (o:=o') (h:=h') ⟨?_,T.len,T.size,T'.wc hc4 λk h2 h3=>ab,h1.dT hc4 ab,h2.dT hc4 ab,h3.dT hc4 ab⟩,hc4⟩
 have:=T'.rm.set (o:=fs.length*6) (new:=[.i f'.dJ,.i f'.pc,.i f'.dst,.s r',.s o',.s h']) (by simp[hl])
 rw[kE _ _ _ _ ab,hl,Nat.sub_self]at this
 exact this
def Nv(mb nb:Nat)(bs:List Nat)(op pc dst:Int)(g0 g1 g2:Int)(r' o' h':Sl)(oB:ah)(R:Value->ah->Prop):Prop:=
 ((op==(24:Int))=true->
 let sY:ah:=ag oB nb 2 [.i dst]
 ∃Z0:Sl,ad sY mb 8=some (Sl.v Z0)/\
 ∃Zo:Sl,ad sY mb 8=some (Sl.v Zo)/\
 (0:Int)<=(bS ((Zo.len:Int) -(1:Int)))/\(bS ((Zo.len:Int) -(1:Int)))<(Z0.len:Int)/\
 dW sY Z0.ao (Z0.off+Int.toNat (bS ((Zo.len:Int) -(1:Int)))*6) 6/\
 let Pj:ah:=ag sY Z0.ao (Z0.off+Int.toNat (bS ((Zo.len:Int) -(1:Int)))*6) [.i g0,.i g1,.i dst,.s r',.s o',.s h']
 da (nb::bs) sY Pj/\
 R (.tuple #[]) Pj)/\
 ((op==(24:Int))=false->
 aD Tryz.prog 150 [vp mb 0,vi (bS (pc+(1:Int)))] oB λ_ Jy=>
 da (nb::bs) oB Jy/\
 ∃amv:Sl,ad Jy mb 8=some (Sl.v amv)/\
 let NI:ah:=Jy.push (.cells (aU [.i g0,.i g1,.i g2,.s r',.s o',.s h']) dh)
 ad NI mb 8=ad Jy mb 8/\
 gA NI dh [.i (0:Int),.i (0:Int),.i (0:Int),.s Sl.nil,.s Sl.nil,.s Sl.nil] 96 amv (Sl.mk Jy.size 0 1 1) λaa5 QG=>
 da (nb::bs) NI QG/\
 dW QG mb 8 1/\
 let Vp:ah:=ag QG mb 8 [.s aa5]
 da (nb::bs) QG Vp/\
 R (.tuple #[]) Vp)
theorem OG(S:ST m0 ro m mb a9 (SB d p s aT hp fr) aT hp fr s.aT s.heap fs f r o h css){bs:List Nat}(B:OE ro m bs){nb b1 b2 b3 k:Nat}{oB:ah}{g:aM}{x:Instr}(N:rZ m oB b1 b2 b3 k g.an g.aL g.aQ)(XQ:m.size<=nb/\nb<oB.size)(cx:nb≠b1/\nb≠b2/\nb≠b3)
 (Dr:fs.length<=100000)(Jz:0<=f.pc/\f.pc<=100000){R:Value->ah->Prop}
 (TX:x.op=24->∀m',xe m0 ro m mb d p {s with ai:=fs++[{g with dst:=f.dst}]} m'->R (.tuple #[]) m')
 (VN:x.op≠24->∀m',xe m0 ro m mb d p {s with ai:=fs++[{f with pc:=f.pc+1},g]} m'->R (.tuple #[]) m'):
 Nv mb nb bs x.op f.pc f.dst g.dJ g.pc g.dst (.mk b1 0 k k) (.mk b2 0 k k) (.mk b3 0 k k) oB R:=by
 have Dz:=N.lo
 have gL:=S.fC.EQ
 have e:bS ((fr.len:Int) -1)=(fs.length:Int):=by rw[aF ab ab];omega
 have e2:Int.toNat (fs.length:Int)=fs.length:=ab
 have e4:bS (f.pc+1)=f.pc+1:=aF ab ab
 have amw:ro nb=0:=S.dj.new _ XQ.1
 have alo:=N.ext.size
 refine⟨λmH=>?_,λmH=>?_⟩
 ·intro sY
  have N18:rZ m sY b1 b2 b3 k g.an g.aL g.aQ:=⟨N.ext.ag XQ.1 _ _,by simp only[sY,aq];omega,N.kr.congr (aP _ _ _ _ (λe=>cx.1 e.symm)),N.ko.congr (aP _ _ _ _ (λe=>cx.2.1 e.symm)),N.kh.congr (aP _ _ _ _ (λe=>cx.2.2 e.symm)),N.len⟩
  have s18:sY.size=oB.size:=aq _ _ _ _
  clear_value sY
  have hc:cJ (λ_=>False) ro m (pM ro b1 b2 b3 fs.length) sY:=N18.dT S.dj.new
  obtain⟨a1,a2,a3⟩:=N18.rm (ro:=ro) (n:=fs.length)
  obtain⟨w1,w2,w3⟩:=S.fC.replace hc (f':={g with dst:=f.dst}) a1 a2 a3
  obtain⟨L18,t18⟩:=S.dj.gU (hc.mono λ_=>False.elim) (S.dj.heap.dT hc id id)
  have g8:ad sY mb 8=some (Sl.v fr):=L18.box.bH 8
  refine⟨fr,g8,fr,g8,?_⟩
  rw[e,e2]
  refine⟨ab,ab,w1,?_⟩
  intro Pj
  obtain⟨L19,t19⟩:=L18.jJ (w3.mono λk hk=>ab) w2
  refine⟨?_,TX (by simpa using mH) _ ⟨_,aT,hp,fr,L19,t18.trans t19⟩⟩
  intro b hb
  rcases List.mem_cons.1 hb with rfl|hb
  ·refine w3.eg _ ab ?_
   unfold pM;rw[dO cx.2.2,dO cx.2.1,dO cx.1,amw];decide
  ·refine w3.eg _ (by have:=(B b hb).1;omega) ?_
   rw[hc.gG b (B b hb).1,(B b hb).2];decide
 ·simp only[aFU]at mH
  rw[e4]
  have hc:cJ (λ_=>False) ro m (pM ro b1 b2 b3 (fs.length+1)) oB:=N.dT S.dj.new
  obtain⟨a1,a2,a3⟩:=N.rm (ro:=ro) (n:=fs.length+1)
  obtain⟨L17,t17⟩:=S.dj.gU (hc.mono λ_=>False.elim) (S.dj.heap.dT hc id id)
  have S17:ST m0 (pM ro b1 b2 b3 (fs.length+1)) oB mb a9 (SB d p s aT hp fr) aT hp fr s.aT s.heap fs f r o h css:=⟨L17,S.fC.dT hc λ_ _=>id⟩
  have amy:OE (pM ro b1 b2 b3 (fs.length+1)) oB (nb::bs):=λb hb=>by
   rcases List.mem_cons.1 hb with rfl|hb
   ·refine⟨ab,?_⟩;unfold pM;rw[dO cx.2.2,dO cx.2.1,dO cx.1,amw]
   ·exact⟨by have:=(B b hb).1;omega,by rw[hc.gG b (B b hb).1];exact(B b hb).2⟩
  apply mw (mb,0)
  have g8:ad oB mb 8=some (Sl.v fr):=S17.dj.box.bH 8
  refine⟨fr,g8,fr,g8,?_⟩
  rw[e,e2]
  refine⟨ab,ab,S17.fC.ajG,?_⟩
  intro Jy
  obtain⟨S20,t20⟩:=S17.TM (f.pc+1)
  have c20:cJ (λk=>k=4) (pM ro b1 b2 b3 (fs.length+1)) oB (pM ro b1 b2 b3 (fs.length+1)) Jy:=cJ.ag S17.dj.new S17.fC.ao.1 _ _
  have B20:=amy.to t20
  refine⟨t20.eS amy,fr,S20.dj.box.bH 8,?_⟩
  intro NI
  have Zp:af Jy NI:=(af.av Jy).aC _
  obtain⟨S21,t21⟩:=S20.ext Zp
  have B21:=B20.to t21
  have ji:eK NI Jy.size 0 [.i g.dJ,.i g.pc,.i g.dst,.s (.mk b1 0 k k),.s (.mk b2 0 k k),.s (.mk b3 0 k k)]:=(bK.push Jy _ _).iu
  have UA:(fs++[{f with pc:=f.pc+1}]).length=fs.length+1:=az
  have ch:=λ{k:Nat}{s:Sl}{l:List Ce}(a:fB (pM ro b1 b2 b3 (fs.length+1)) oB au 1 k s l)(hk:k≠4)=>(a.dT c20 hk).dT (cJ.dS (λ_=>False) Zp S20.dj.new) id
  refine⟨Zp.cr (S20.dj.box.bH 8),ns.push S21.dj.ai S21.dj.new (x:=.mk Jy.size 0 1 1) rfl (f:=g) ji (by rw[UA];exact ch a1 ab) (by rw[UA];exact ch a2 ab) (by rw[UA];exact ch a3 ab) (by rw[UA];omega) λamz q QG q1 q2=>?_⟩
  have t22:To _ NI amz QG:=q2.mono λk hk=>ab
  obtain⟨L22,aCI⟩:=S21.dj.jJ (q2.mono λk hk=>ab) q1
  have B22:=B21.to t22
  refine⟨t22.eS B21,L22.vX (i:=8) az,?_⟩
  intro Vp
  obtain⟨L23,t23⟩:=L22.nu 8 [.s q]
  refine⟨t23.eS B22,VN mH _ ⟨amz,aT,hp,q,?_,(((t17.trans t20).trans t21).trans t22).trans t23⟩⟩
  have e9:fs++[{f with pc:=f.pc+1}]++[g]=fs++[{f with pc:=f.pc+1},g]:=az
  rw[e9]at L23
  exact L23
end
end
section
noncomputable def oL (im:bq) (s:St) (fs:List aM) (f:aM) (x:Instr):St:=
 if x.op=9 then{s with be:=s.be+1,ai:=fs++[{f with pc:=f.pc+1},bF im x.bh x.dst (cp f x.args)]}
 else if x.op=24 then{s with be:=s.be+1,ai:=fs++[bF im x.bh f.dst (cp f x.args)]}
 else{s with be:=s.be+1,heap:=apart s.heap (aE f.an (aE x.args 0)),ai:=fs++[{f with pc:=f.pc+1},bF im ((aK s.heap (aE f.an (aE x.args 0))).jW -eD im) x.dst ((aK s.heap (aE f.an (aE x.args 0))).aB++[aE f.an (aE x.args 1)])]}
section
variable{m0:ah}{ro:Nat->Nat}{m:ah}{mb:Nat}{d p aT hp fr:Sl}{s:St}{fs:List aM}{f:aM}{r o h:Sl}{css:List (List Ce)}
theorem ST.rv{im:bq}(S:ST m0 ro m mb a9 (SB d p s aT hp fr) aT hp fr s.aT s.heap fs f r o h css)(qD:dU m0 d p im)(ho:s.aT.length<=2000000000)(hh:s.heap.length<=2000000000)(OR:jU m fr (fs++[f])):
 RV m mb 2 d p aT hp fr im {s with ai:=fs++[f]}:=
 ⟨qD.ext S.dj.bN,S.dj.box.bH 0,S.dj.box.bH 1,S.dj.box.bH 2,S.dj.box.bH 3,S.dj.box.bH 4,S.dj.box.bH 5,S.dj.box.bH 6,S.dj.box.bH 7,S.dj.box.bH 8,S.dj.aT.oX ab,S.dj.heap.cells ab,OR⟩
theorem ns.Lc{fs:List aM}(hh:ns ro m fr fs)(hl:fs.length<=2000000000)(hb:∀f∈fs,f.an.length<=1000000/\f.aL.length<=1000000/\f.aQ.length<=1000000):jU m fr fs:=by
 obtain⟨css,h1,h2,h3,h4⟩:=hh;have gL:fr.len=fs.length:=by have:=h1.len;rw[bZ h3,h2]at this;omega
 refine⟨gL,h1.le,ab,λk x hk=>?_⟩;obtain⟨cs,kJ⟩:=ae (l:=css) (k:=k) (by rw[h2];exact ap hk);obtain⟨r,o,h,rfl,hr,ho,hh⟩:=h4 k cs x kJ hk;obtain⟨q1,q2,q3⟩:=hb x (ak hk);refine⟨_,⟨r,o,h,rfl,hr.oX ab,ho.oX ab,hh.oX ab⟩,λi c hc=>?_⟩;have:=h1.iu (k*6+i) c (fy h3 kJ hc);rwa[<-aGm]at this
theorem MA{im:bq}(S:ST m0 ro m mb a9 (SB d p s aT hp fr) aT hp fr s.aT s.heap fs f r o h css)(qD:dU m0 d p im)(lx:kN im){x:Instr}{a j:Sl}(ha:aj m0 a x.args)(fV:∀y∈x.args,0<=y/\y<f.an.length)(jK:x.args.length<=4)
 (pu:x.op=9\/x.op=24\/x.op=11)(wg:(x.op=9\/x.op=24)->tZ im x.bh x.args.length)(hap:x.op=11->x.args.length=2/\Ey im s.heap (aE f.an (aE x.args 0)))
 (hlen:f.an.length=f.aL.length/\f.aQ.length=f.aL.length/\f.aL.length<=2000)(gZ:∀g∈fs,g.an.length<=1000000/\g.aL.length<=1000000/\g.aQ.length<=1000000)(Jz:0<=f.pc/\f.pc<=100000)(Dr:fs.length<=10000)(Up:s.heap.length<=1000000000)(SU:s.aT.length<=1000000000)(pt:0<=s.be/\s.be<=100000)
 {e:Nat->Int}(hI:dZ s.heap e):
 aD Tryz.prog 147 [vp mb 0,fv f r o h,xv x a j] m λ_ m'=>xe m0 ro m mb d p (oL im s fs f x) m':=by
 apply th (mb,0)
 simp -zeta only[aw,ax]
 intro m1 m2
 have dA:af m m2:=((af.av m).aC _).aC _
 have s1:m1.size=m.size+1:=by simp[m1]
 have s2:m2.size=m.size+2:=by simp[m2,s1]
 have B2:=OE.IC S.dj.new s1 s2
 have kB:bK m2 m1.size cI [.i x.op,.i x.dst,.i x.bh,.i x.bA,.s a,.s j]:=bK.push m1 _ _
 obtain⟨S2,t2⟩:=S.ext dA
 clear_value m2
 have hcO:CX im x:=λe=>let⟨q,h1,h2,_⟩:=wg e;⟨h1,q,h2⟩
 have nJ:(dv im.aI).length<=12:=by
  have:=qL lx.oQ.types im.aI.length;rw[lY _ _ (aFR _)]at this;exact this
 have SG:∀{ro m hp lh bx},ST m0 ro m mb a9 bx aT hp fr s.aT lh fs f r o h css->jU m fr (fs++[f]):=λS=>S.dj.ai.Lc bg (λg hg=>by
  rcases List.mem_append.1 hg with hg|hg
  ·exact gZ g hg
  ·simp at hg;subst hg;omega)
 refine(pK (f:=f) (S2.KU ab) (ha.ext S2.dj.bN) fV ab).mono ?_
 rintro _ m3 ⟨ws,rfl,ow,mL⟩
 obtain⟨S3,t3⟩:=S2.ext mL
 have B3:=B2.to t3
 have uB:(cp f x.args).length=x.args.length:=by simp[cp]
 have iw3:aj m3 ws (cp f x.args):=aj.fQ ow ab
 have asO:∀{m':ah}{ws:Sl}{l:List Ce},gQ m' m3 au 1 ws l->m.size<=m'.size->ws≠.nil->ro ws.ao=0:=λho hs cx=>by
  rcases ho.ao with e|e
  ·exact absurd e cx
  ·exact S.dj.new _ ab
 refine⟨t3.eS B2,ws,rfl,λg wv m'=>∃(bG:Nat->Nat)(Ac:Sl)(VA:List aR)(wl:List Int)(q:bY),ST m0 bG m' mb a9 (SB d p s aT Ac fr) aT Ac fr s.aT VA fs f r o h css/\To ro m bG m'/\OE bG m' [m1.size,m.size]/\bK m' m1.size cI [.i x.op,.i x.dst,.i x.bh,.i x.bA,.s a,.s j]/\aj m' wv wl/\(wl≠[]->bG wv.ao=0)/\
  0<=g/\im.bJ[g.toNat]? =some q/\wl.length=q.params.length/\eW im x 0 wl=fm q.bX 0 wl/\
  (x.op=24->oL im s fs f x={s with be:=s.be+1,heap:=VA,ai:=fs++[bF im g f.dst wl]})/\(x.op≠24->oL im s fs f x={s with be:=s.be+1,heap:=VA,ai:=fs++[{f with pc:=f.pc+1},bF im g x.dst wl]}),?_,?_⟩
 ·refine⟨λjV=>?_,λjV=>?_⟩
  ·simp at jV
   obtain⟨h2,iO,ZD,Vv,agc,Lq,dp⟩:=hap jV
   obtain⟨pw,qB⟩:=bE iO
   have hCO:=hI.cell _ (ak pw)
   have ML:=(hCO.nM qB).2
   have cA:=ap pw
   have aha:x.args=[aE x.args 0,aE x.args 1]:=by
    cases hx:x.args with
    |nil=>rw[hx]at h2;simp at h2
    |cons y l=>cases l with
     |nil=>rw[hx]at h2;simp at h2
     |cons z l=>cases l with
      |nil=>rfl
      |cons _ _=>rw[hx]at h2;simp at h2
   have Pq:cp f x.args=[aE f.an (aE x.args 0),aE f.an (aE x.args 1)]:=by rw[aha];rfl
   have amr:=iw3.len
   have aCL:=iw3.cap
   have gw:ad m3 ws.ao (ws.off+Int.toNat (0:Int)*1)=some (vi (aE f.an (aE x.args 0))):=iw3.aE (k:=0) (by rw[Pq];rfl)
   have hV3:=S3.rv qD ab ab (SG S3)
   generalize hw:aE f.an (aE x.args 0)=w at*
   generalize hv:aE f.an (aE x.args 1)=v at*
   obtain⟨q,hq⟩:=ae (l:=im.bJ) (k:=((aK s.heap w).jW -eD im).toNat) ab
   have xy:cP im ((aK s.heap w).jW -eD im)=q:=by simp[cP,hq]
   rw[xy]at agc Lq
   refine⟨ab,ab,w,gw,d,hV3.aI,(dH hV3 iO.1 pw).mono ?_⟩
   rintro _ m4 ⟨f4,rfl,hf4,FJ⟩
   obtain⟨S4,t4⟩:=S3.ext FJ
   have B4:=B3.to t4
   have hV4:=hV3.ext FJ
   refine⟨t4.eS B3,_,_,_,rfl,FJ.cr hV3.aI,(nU hV4.eG.aI lx.oQ.types).mono ?_⟩
   rintro _ m5 ⟨rfl,LF⟩
   obtain⟨S5,t5⟩:=S4.ext LF
   have B5:=B4.to t5
   have hV5:=hV4.ext LF
   refine⟨t5.eS B4,_,rfl,ab,ab,ab,(dH hV5 iO.1 pw).mono ?_⟩
   rintro _ m6 ⟨f6,rfl,hf6,Uy⟩
   obtain⟨S6,t6⟩:=S5.ext Uy
   have B6:=B5.to t6
   have h36:=(FJ.trans LF).trans Uy
   have e1:(Int.toNat (1:Int))=1:=rfl
   have e2:(Int.toNat (ws.len:Int))=ws.len:=ab
   rw[e1,e2]
   have asQ:aj m6 (Sl.cut ws 1 ws.len 1) [v]:=by
    have:=ajs (iw3.ext h36) (by rw[uB];omega);rw[Pq]at this;exact this
   have Vz:=hCO.fl
   refine⟨t6.eS B5,_,_,_,rfl,(Kp hf6 asQ bg).mono ?_⟩
   rintro _ m7 ⟨es,rfl,oe,SR⟩
   obtain⟨S7,t7⟩:=S6.ext SR
   have B7:=B6.to t7
   have ie:aj m7 es ((aK s.heap w).aB++[v]):=aj.fQ oe bg
   have aby:ro es.ao=0:=by
    rcases oe.ao with e|e
    ·subst e;have:=ie.len;simp at this
    ·exact S.dj.new _ (by have:=h36.size;have:=mL.size;omega)
   have asR:es.ao<m7.size:=nt ie az
   refine⟨t7.eS B6,es,rfl,(zo S7.dj iO hI ab).mono ?_⟩
   rintro _ m8 ⟨b,rfl,hb,c8,asS,asT⟩
   have t8:To ro m7 ro m8:=c8.mono λk hk=>ab
   have B8:=B7.to t8
   have ie8:aj m8 es ((aK s.heap w).aB++[v]):=mq ie λ_=>c8.eg _ asR (by rw[aby];decide)
   have t38:To ro m ro m8:=(((((t2.trans t3).trans t4).trans t5).trans t6).trans t7).trans t8
   have kB8:bK m8 m1.size cI [.i x.op,.i x.dst,.i x.bh,.i x.bA,.s a,.s j]:=(kB.ext (mL.trans (h36.trans SR))).congr (c8.eg _ (B7 m1.size az).1 (by rw[(B7 m1.size az).2];decide))
   have e3:bS ((aK s.heap w).jW -((dv im.aI).length:Int))=(aK s.heap w).jW -eD im:=aF ab ab
   rw[e3]
   have pN:eW im x 0 ((aK s.heap w).aB++[v])=fm q.bX 0 ((aK s.heap w).aB++[v]):=by
    rw[Ff ab,List.length_eq_zero_iff.1 Lq]
   have amA:∀VA,VA=apart s.heap w->oL im s fs f x={s with be:=s.be+1,heap:=VA,ai:=fs++[{f with pc:=f.pc+1},bF im ((aK s.heap w).jW -eD im) x.dst ((aK s.heap w).aB++[v])]}:=λVA e=>by
    rw[oL,aFS ab,aFS ab,hw,hv,e]
   refine⟨t8.eS B7,b,rfl,λnH=>?_,λmF=>?_⟩
   ·have oD:=hb.1 nH
    obtain⟨S8,t8'⟩:=S7.gU (c8.mono λk hk=>Or.inl hk) (asS nH)
    have awU:=S8.dj.heap.len
    refine⟨hp,S8.dj.box.bH 7,?_⟩
    intro m9
    have h89:af m8 m9:=(af.av m8).aC _
    obtain⟨S9,t9⟩:=S8.ext h89
    have B9:=B8.to t9
    clear_value m9
    have QC:=iO.1
    have Uo:ix w=(w -1000).toNat:=rfl
    have e5:bS (w -1000)=w -1000:=aF ab ab
    rw[e5,<-Uo]
    refine⟨ab,ab,S9.dj.heap.wr (o:=0) cA aO,?_⟩
    intro cK
    obtain⟨asU,c10⟩:=S9.dj.heap.setCell S9.dj.new cA 0 0 (f:=.mk m8.size 0 0 0) (l:=[]) ⟨rfl,az,az,az⟩ (λcx=>absurd rfl cx)
    obtain⟨S10,t10⟩:=S9.gU (c10.mono λk hk=>Or.inl hk) asU
    have V8:=B9.to t10
    refine⟨t10.eS B9,hp,S10.dj.box.bH 7,(vI (S10.dj.heap.cells bg)).mono ?_⟩
    rintro _ dm ⟨rfl,amB⟩
    obtain⟨S11,t11⟩:=S10.ext amB
    have ZX:=V8.to t11
    refine⟨t11.eS V8,_,rfl,S11.dj.vX (i:=7) az,?_⟩
    intro df
    obtain⟨asW,aCP⟩:=S11.gU (cJ.av _ S11.dj.new) (S11.dj.heap.cut (qU _ _))
    obtain⟨S12,t12⟩:=asW.nu 7 [.s (hp.cut 0 (iW (s.heap.set (ix w) iv) (s.heap.set (ix w) iv).length) 3)]
    have VV:=ZX.to t12
    have ahb:To ro m8 ro df:=((t9.trans t10).trans t11).trans t12
    have asX:aj df es ((aK s.heap w).aB++[v]):=mq ie8 λ_=>ahb.eg _ (by have:=c8.size;omega) (by rw[aby];simp)
    have asY:bK df m1.size cI [.i x.op,.i x.dst,.i x.bh,.i x.bA,.s a,.s j]:=kB8.congr (ahb.eg _ (B8 m1.size az).1 (by rw[(B8 m1.size az).2];simp))
    refine⟨t12.eS ZX,ro,_,_,_,q,S12,t38.trans ahb,VV,asY,asX,λ_=>aby,ZD,hq,bg,pN,λe=>ab,λ_=>amA _ ?_⟩
    rw[apart,aFW oD];rfl
   ·have oD:(aK s.heap w).aG≠1:=λe=>by have:=hb.2 e;rw[mF]at this;simp at this
    obtain⟨S8,t8'⟩:=S7.gU (c8.mono λk hk=>Or.inl hk) (asT mF)
    refine⟨ro,hp,_,_,q,S8,t38,B8,kB8,ie8,λ_=>aby,ZD,hq,bg,pN,λe=>ab,λ_=>amA _ ?_⟩
    rw[apart,aFS oD]
  ·simp at jV
   have hc9:x.op=9\/x.op=24:=ab
   obtain⟨q,Pl,VX,YZ⟩:=wg hc9
   have xy:cP im x.bh=q:=by simp[cP,VX]
   refine⟨ro,hp,s.heap,cp f x.args,q,S3,t2.trans t3,B3,kB.ext mL,iw3,λcx=>asO ow ab (λe=>by subst e;have:=iw3.len;simp at this;exact cx (List.length_eq_zero_iff.1 this.symm)),Pl,VX,ab,by rw[Ib hc9,xy],λe=>?_,λe=>?_⟩
   ·rw[oL,aFS ab,aFW e]
   ·rw[oL,aFW ab]
 ·rintro g wv m4 ⟨JC,Pe,lh4,wl,q,S4,t4,B4,kB4,iw4,hw0,hg0,hq,hwq,pN,hE1,hE2⟩
  have xy:cP im g=q:=by simp[cP,hq]
  have DA:=(lx.cq q (ak hq)).an
  have h3:=(lx.oQ.cq q (ak hq)).1
  refine⟨s.be,S4.dj.box.bH 4,S4.dj.vX (i:=4) az,?_⟩
  have e3:bS (s.be+1)=s.be+1:=aF ab ab
  rw[e3]
  intro m5
  obtain⟨S5,t5⟩:=S4.nu 4 [.i (s.be+1)]
  have B5:OE JC m5 [m1.size,m.size]:=B4.to t5
  replace t5:To JC m4 JC m5:=t5
  have c5:cJ (λk=>k=1) JC m4 JC m5:=cJ.ag S4.dj.new S4.dj.Tz _ _
  have iw5:aj m5 wv wl:=mq iw4 λcx=>c5.eg _ (nt iw4 cx) (by rw[hw0 cx];decide)
  have kB5:bK m5 m1.size cI [.i x.op,.i x.dst,.i x.bh,.i x.bA,.s a,.s j]:=kB4.congr (c5.eg _ (B4 m1.size az).1 (by rw[(B4 m1.size az).2];decide))
  replace S5:ST m0 JC m5 mb a9 (SB d p {s with be:=s.be+1,heap:=lh4} aT Pe fr) aT Pe fr s.aT lh4 fs f r o h css:=S5
  refine⟨t5.eS B4,d,S5.dj.box.bH 0,p,S5.dj.box.bH 1,?_⟩
  clear_value m5
  have t05:=t4.trans t5
  have kg:∀{ma mb':ah},af ma mb'->∀{b i:Nat}{v:Value},ad ma b i=some v->ad mb' b i=ad ma b i:=λhx=>hx.cr
  have If:(eW im x 0 wl).length=wl.length:=Dk _ _ _ _
  have hgr:(bF im g x.dst wl).an=wl++eF (q.an.toNat -wl.length):=by simp[bF,xy]
  have ZA:(bF im g x.dst wl).aL=eW im x 0 wl++eF (q.an.toNat -(eW im x 0 wl).length):=by simp[bF,xy,pN,kP]
  have hgh:(bF im g x.dst wl).aQ=eF q.an.toNat:=by simp[bF,xy]
  have fG:∀(M M17:ah)(nb b1 b2 b3:Nat),af m5 M->rZ M M17 b1 b2 b3 q.an.toNat (wl++eF (q.an.toNat -wl.length)) (eW im x 0 wl++eF (q.an.toNat -(eW im x 0 wl).length)) (eF q.an.toNat)->M.size<=nb/\nb<M17.size->nb≠b1/\nb≠b2/\nb≠b3->
   Nv mb nb [m1.size,m.size] x.op f.pc f.dst g 0 x.dst (.mk b1 0 q.an.toNat q.an.toNat) (.mk b2 0 q.an.toNat q.an.toNat) (.mk b3 0 q.an.toNat q.an.toNat) M17 (λ_ m'=>xe m0 ro m mb d p (oL im s fs f x) m'):=λM M17 nb b1 b2 b3 hx N XQ cx=>by
   obtain⟨SM,tM⟩:=S5.ext hx
   refine OG (s:={s with be:=s.be+1,heap:=lh4}) (g:=bF im g x.dst wl) (x:=x) SM (B5.to tM) (by rw[hgr,ZA,hgh];exact N) XQ cx ab Jz (λe m' hF=>?_) (λe m' hF=>?_)
   ·rw[hE1 e];exact xe.from hF (t05.trans tM)
   ·rw[hE2 e];exact xe.from hF (t05.trans tM)
  have frame:∀{M:ah}{os:Sl},af m5 M->aj M os (eW im x 0 wl)->aD Tryz.prog 73 [.agg #[Sl.v d,Sl.v p],vi g,vi x.dst,Sl.v wv,Sl.v os] M _:=λhx ho=>we (qD.ext (S5.dj.bN.trans hx)) hg0 hq ab x.dst (iw5.ext hx) ho ab If
  have nine:∀{ma mc:ah},af m5 ma->af ma mc->∀i,i<6->ad mc m1.size i=ad ma m1.size i:=λh1 h2 i hi=>by
   have k:=kB5.ext h1;match i,hi with
   |0,_=>exact h2.cr (k.bH 0)
   |1,_=>exact h2.cr (k.bH 1)
   |2,_=>exact h2.cr (k.bH 2)
   |3,_=>exact h2.cr (k.bH 3)
   |4,_=>exact h2.cr (k.bH 4)
   |5,_=>exact h2.cr (k.bH 5)
  have IC:∀{ma mc:ah},af m5 ma->af ma mc->ad mc mb 0=ad ma mb 0/\ad mc mb 1=ad ma mb 1:=λh1 h2=>⟨h2.cr (h1.ad (S5.dj.box.bH 0)),h2.cr (h1.ad (S5.dj.box.bH 1))⟩
  have owned:∀{M:ah},af m5 M->od 178 [vp mb 0,xv x a j,Sl.v wv] M (eW im x 0 wl):=λhx=>Dl (qD.ext (S5.dj.bN.trans hx)) (hx.ad (S5.dj.box.bH 0)) (hx.ad (S5.dj.box.bH 1)) hcO a j (iw5.ext hx) ab
  have sm:∀{ma mc:ah},af m5 ma->af ma mc->da [m1.size,m.size] ma mc:=λh1 h2=>h2.cg λb hb=>h1.lt (B5 b hb).1
  have sm3:∀{ma mc:ah}{nb:Nat},af m5 ma->af ma mc->nb<ma.size->da [nb,m1.size,m.size] ma mc:=λh1 h2 XQ=>h2.cg λb hb=>by
   rcases List.mem_cons.1 hb with rfl|hb
   ·exact XQ
   ·exact h1.lt (B5 b hb).1
  refine⟨(owned (af.av _)).mono ?_,?_⟩
  ·rintro _ gK ⟨os,rfl,oo,xh⟩
   have io:aj gK os (eW im x 0 wl):=aj.fQ oo ab
   refine⟨sm (af.av _) xh,os,rfl,nine (af.av _) xh 1 ab,(IC (af.av _) xh).1,(IC (af.av _) xh).2,?_,?_⟩
   ·refine(frame xh io).mono ?_
    rintro _ kT ⟨b1,b2,b3,rfl,N⟩
    have JB:=N.ext
    have amD:=xh.trans JB
    refine⟨sm xh JB,_,_,_,_,_,_,rfl,?_⟩
    intro pV
    have Zq:af kT pV:=(af.av kT).aC _
    have n9:=nine amD Zq
    have t9:=IC amD Zq
    refine⟨n9 0 ab,n9 1 ab,n9 2 ab,n9 3 ab,n9 4 ab,n9 5 ab,n9 1 ab,t9.1,t9.2,?_⟩
    intro oB
    have amE:af kT oB:=Zq.ag (aFR _) _ _
    have s17:oB.size=kT.size+1:=by simp[oB,pV,aq]
    have Dz:=N.lo
    exact fG gK oB kT.size b1 b2 b3 xh (N.afn amE) ⟨by have:=JB.size;omega,ab⟩ ⟨ab,ab,ab⟩
   ·intro Ph
    have NQ:af gK Ph:=(af.av gK).aC _
    have s24:Ph.size=gK.size+1:=by simp[Ph]
    have n9:=nine xh NQ
    have t9:=IC xh NQ
    refine⟨n9 0 ab,n9 1 ab,n9 2 ab,n9 3 ab,n9 4 ab,n9 5 ab,n9 1 ab,t9.1,t9.2,?_⟩
    clear_value Ph
    refine(frame (xh.trans NQ) (io.ext NQ)).mono ?_
    rintro _ Jk ⟨b1,b2,b3,rfl,N⟩
    have Lz:=N.ext
    refine⟨sm3 (xh.trans NQ) Lz ab,_,_,_,_,_,_,rfl,?_⟩
    intro NG
    have Dz:=N.lo
    have N26:=N.box NQ (nb:=gK.size) (aFR _) ab 0 [.i g,.i 0,.i x.dst,.s (.mk b1 0 q.an.toNat q.an.toNat),.s (.mk b2 0 q.an.toNat q.an.toNat),.s (.mk b3 0 q.an.toNat q.an.toNat)]
    exact fG gK NG gK.size b1 b2 b3 xh N26 ⟨aFR _,by simp only[NG,aq];have:=Lz.size;omega⟩ ⟨ab,ab,ab⟩
  ·intro m33
   have h33:af m5 m33:=(af.av m5).aC _
   have s33:m33.size=m5.size+1:=by simp[m33]
   have n9:=nine (af.av _) h33
   have t9:=IC (af.av _) h33
   refine⟨n9 0 ab,n9 1 ab,n9 2 ab,n9 3 ab,n9 4 ab,n9 5 ab,n9 1 ab,t9.1,t9.2,?_⟩
   clear_value m33
   refine(owned h33).mono ?_
   rintro _ m34 ⟨os,rfl,oo,FJ⟩
   have io:aj m34 os (eW im x 0 wl):=aj.fQ oo ab
   have ahc:=h33.trans FJ
   have s34:=FJ.size
   refine⟨sm3 h33 FJ ab,os,rfl,nine h33 FJ 1 ab,(IC h33 FJ).1,(IC h33 FJ).2,?_⟩
   refine(frame ahc io).mono ?_
   rintro _ m35 ⟨b1,b2,b3,rfl,N⟩
   have h35:=N.ext
   refine⟨sm3 ahc h35 ab,_,_,_,_,_,_,rfl,?_⟩
   intro m36
   have Dz:=N.lo
   have N36:=N.box ahc (nb:=m5.size) (aFR _) ab 0 [.i g,.i 0,.i x.dst,.s (.mk b1 0 q.an.toNat q.an.toNat),.s (.mk b2 0 q.an.toNat q.an.toNat),.s (.mk b3 0 q.an.toNat q.an.toNat)]
   exact fG m5 m36 m5.size b1 b2 b3 (af.av _) N36 ⟨aFR _,by simp only[m36,aq];have:=h35.size;omega⟩ ⟨ab,ab,ab⟩
theorem MB(S:ST m0 ro m mb a9 (SB d p s aT hp fr) aT hp fr s.aT s.heap fs f r o h css)(Dr:fs.length<=100000)(w:Int)(nG:∀g,fs.getLast?=some g->0<=f.dst/\f.dst<g.an.length/\f.dst<g.aL.length):
 aD Tryz.prog 148 [vp mb 0,fv f r o h,vi w] m λ_ m'=>xe m0 ro m mb d p (match fs.getLast? with|none=>{s with bT:=0,value:=w,ai:=[]}|some g=>{s with ai:=fs.dropLast++[g.put f.dst w (gF w)]}) m':=by
 apply tj (mb,0)
 simp -zeta only[aw,ax]
 intro m1
 have dF:af m m1:=(af.av m).aC _
 have s1:m1.size=m.size+1:=by simp[m1]
 obtain⟨S1,t1⟩:=S.ext dF
 have zy:ro m.size=0:=S.dj.new _ (aFR _)
 have B1:OE ro m1 [m.size]:=λb hb=>by simp at hb;subst hb;exact⟨ab,zy⟩
 clear_value m1
 have gL:=S1.fC.EQ
 have Vi:=S1.fC.rm.le
 have e:bS ((fr.len:Int) -1)=(fs.length:Int):=by rw[aF ab ab];omega
 have e2:Int.toNat (fs.length:Int)=fs.length:=ab
 have g8:ad m1 mb 8=some (Sl.v fr):=S1.dj.box.bH 8
 refine⟨fr,g8,fr,g8,?_⟩
 rw[e,e2]
 refine⟨ab,ab,ab,S1.dj.vX (i:=8) az,?_⟩
 intro m2
 obtain⟨L2,t2⟩:=S1.dj.nu 8 [.s (fr.cut 0 fs.length 6)]
 obtain⟨Zr,_⟩:=L2.jJ (cJ.av _ L2.new) (L2.ai.pop)
 have B2:=B1.to t2
 have pt:(fr.cut 0 fs.length 6).len=fs.length:=by
  cases fr with
  |nil=>simp at gL
  |BV b o' sp=>simp at gL
  |mk b o' l c=>simp[Sl.cut]
 have e3:Int.toNat (0:Int)=0:=rfl
 refine⟨t2.eS B1,fr.cut 0 fs.length 6,Zr.box.bH 8,λh1=>?_,λh1=>?_⟩
 ·simp at h1
  have as1:fs=[]:=List.length_eq_zero_iff.1 ab
  subst as1
  refine⟨Zr.vX (i:=2) (by simp[mu]),?_⟩
  intro m3
  obtain⟨L3,t3⟩:=Zr.nu 2 [.i 0]
  have B3:=B2.to t3
  refine⟨t3.eS B2,L3.vX (i:=3) (by simp[mu]),?_⟩
  intro m4
  obtain⟨L4,t4⟩:=L3.nu 3 [.i w]
  exact⟨t4.eS B3,ro,aT,hp,_,L4,(((t1.trans t2).trans t3).trans t4)⟩
 ·simp at h1
  have OS:fs.length≠0:=ab
  have cx:fs≠[]:=λe=>OS (by rw[e];rfl)
  obtain⟨g,hg⟩:∃g,fs.getLast?=some g:=⟨_,aG3 cx⟩
  obtain⟨LP,nK,Us⟩:=nG g hg
  rw[hg]
  simp only[]
  have Zs:fs=fs.dropLast++[g]:=by
   rw[aG3 cx]at hg;simp at hg;rw[<-hg];exact(aGD cx).symm
  have amF:BE m0 ro m2 mb a9 (SB d p s aT hp (fr.cut 0 fs.length 6)) aT hp (fr.cut 0 fs.length 6) s.aT s.heap (fs.dropLast++[g]):=
   ⟨Zr.bN,Zr.jh,Zr.new,Zr.box,Zr.Tz,Zr.aT,Zr.heap,by rw[<-Zs];exact Zr.ai⟩
  obtain⟨r',o',h',aC0,T⟩:=amF.ai.fC
  have kU:fs.dropLast.length<=100000:=bg
  refine(ry (s:=s) ⟨amF,T⟩ kU LP nK Us w).mono ?_
  rintro _ m3 ⟨S3,t3⟩
  exact⟨t3.eS B2,ro,aT,hp,_,S3.dj,(t1.trans t2).trans t3⟩
end
end
section
theorem C1.HE{im:bq}{s:St}{fs:List aM}{f:aM}{x:Instr}(C:C1 im s fs f x){aL:List Int}(ho:aL=cF f.an f.aL (cz im x))(MO:∀o∈aL,0<=o):
 dZ s.heap (λb=>dz fs b+bQ f.an aL b+cX ((cz im x).map (aE f.an)) b)/\∀b,0<=dz fs b+bQ f.an aL b:=by
 have ZR:=vD (an:=f.an) (cz im x) f.aL C.Tx C.Mm.1
 rw[<-ho]at ZR
 refine⟨C.ok.heap.congr λb=>?_,λb=>?_⟩
 ·rw[C.fr,dL,iL,ZR];omega
 ·have:=Jr (fs:=fs) (λg hg=>C.ok.ai g (by rw[C.fr];exact aF7 _ hg)) b
  have:=qY (an:=f.an) MO b
  omega
theorem Sd{ds:List aS}{t jW:Int}(h:jW∈bB ds t):1<=t/\t<=ds.length/\(Ez (bB ds t) jW:Int)=jW -fc ds (t.toNat -1)/\(fc ds (t.toNat -1):Int)<=jW:=by
 unfold bB at h⊢;by_cases ht:1<=t/\t<=ds.length
 ·rw[aFW ht]at h⊢;obtain⟨dd,hd⟩:=ae (l:=ds) (k:=t.toNat -1) ab;rw[hd]at h⊢;simp only[aHe,aHp]at h⊢;obtain⟨i,hi,he⟩:=List.mem_map.1 h;rw[List.mem_range]at hi;have abe:Ez ((List.range dd.cons.length).map λi=>((fc ds (t.toNat -1)+i:Nat):Int)) jW=i:=by
   unfold Ez;rw[List.findIdx_eq (by simpa using hi)];refine⟨by simp[<-he],λj hj=>?_⟩;simp;omega
  rw[abe];exact⟨ht.1,ht.2,ab,ab⟩
 ·rw[aFS ht]at h;simp at h
theorem OH{op a b:Int}(ha:eT a)(hb:eT b)(m:ah):Mc Tryz.prog 144 [vi op,vi a,vi b] m (vi (WM op a b)):=by
 have pt:∀n:Int,-2000000<=n/\n<=2000000->Mc Tryz.prog 173 [vi (bS n)] m (vi (Kd n)):=λn hn=>by
  apply Gd;rw[aF ab ab];refine⟨?_,af.av _⟩;unfold Kd;congr 1;repeat' split;all_goals omega
 unfold eT at ha hb;have hm: -2000000<=a*b/\a*b<=2000000:=by
  have h1:(a*b).natAbs<=999*999:=by rw[Int.natAbs_mul];exact aId ab ab
  omega
 apply Ix;unfold WM;refine⟨λh1=>?_,λh1=>⟨λh2=>?_,λh2=>⟨λh3=>?_,λh3=>⟨λh4=>⟨λh5=>?_,λh5=>?_⟩,λh4=>?_⟩⟩⟩⟩
 ·simp at h1;rw[aFW h1];exact(pt _ ab).then λm' hx=>⟨_,rfl,rfl,hx⟩
 ·simp at h1 h2;rw[aFS h1,aFW h2];exact(pt _ ab).then λm' hx=>⟨_,rfl,rfl,hx⟩
 ·simp at h1 h2 h3;rw[aFS h1,aFS h2,aFW h3];exact(pt _ hm).then λm' hx=>⟨_,rfl,rfl,hx⟩
 ·simp at h1 h2 h3 h4 h5;rw[aFS h1,aFS h2,aFS h3,aFW ⟨h4,h5⟩];exact⟨rfl,af.av _⟩
 ·simp at h1 h2 h3 h4 h5;rw[aFS h1,aFS h2,aFS h3,aFS ab];exact⟨rfl,af.av _⟩
 ·simp at h1 h2 h3 h4;rw[aFS h1,aFS h2,aFS h3,aFS ab];exact⟨rfl,af.av _⟩
section
variable{m0:ah}{ro:Nat->Nat}{m:ah}{mb:Nat}{d p aT hp fr:Sl}{s:St}{fs:List aM}{f:aM}{r o h:Sl}{css:List (List Ce)}
theorem Jc{im:bq}{x:Instr}(C:C1 im s fs f x){aL:List Int}(pN:aL=cF f.an f.aL (cz im x))(hM:tx im s f x aL)
 (S:ST m0 ro m mb a9 (SB d p s aT hp fr) aT hp fr s.aT s.heap fs {f with aL:=aL} r o h css)(qD:dU m0 d p im){a j:Sl}(ha:aj m0 a x.args)(hj:aj m0 j x.cW)(Up:s.heap.length<=900000000)(SU:s.aT.length<=900000000):
 aD Tryz.prog 113 [vp mb 0,fv f r o h,xv x a j] m λ_ m'=>xe m0 ro m mb d p (gT im s fs f x aL) m':=by
 apply qH (mb,0)
 simp -zeta only[aw,ax]
 intro m1 m2
 have dA:af m m2:=((af.av m).aC _).aC _
 have s1:m1.size=m.size+1:=by simp[m1]
 have s2:m2.size=m.size+2:=by simp[m2,s1]
 have B2:=OE.IC S.dj.new s1 s2
 have kB:bK m2 m1.size cI [.i x.op,.i x.dst,.i x.bh,.i x.bA,.s a,.s j]:=bK.push m1 _ _
 have kF:bK m2 m.size dh [.i f.dJ,.i f.pc,.i f.dst,.s r,.s o,.s h]:=(bK.push m _ _).ext (af.push m1 _)
 obtain⟨S2,t2⟩:=S.ext dA
 clear_value m2
 have If:aL.length=f.aL.length:=by rw[pN];exact oY _ _ _
 have Uq:=C.Mm
 have h4:=C.Tw
 have hd:=C.dst
 have as2:=C.F.pc
 obtain⟨pq,_,ZQ,hP,QL,hI⟩:=C.I
 rw[ZQ]at as2
 have tA:=hP.len
 have Jz:0<=f.pc/\f.pc<=100000:=ab
 have tC:=C.ok.jT
 have LG:=C.ok.be
 have Im:=C.ok.cV
 rw[C.fr]at tC
 have Dr:fs.length<=1000:=by simp at tC;omega
 have LD:f.an.length=aL.length/\f.aQ.length=aL.length/\aL.length<=2000:=ab
 have nL:r.len=f.an.length:=by have:=S.fC.an.len;simp at this;omega
 have hoL:o.len=aL.length:=by have:=S.fC.aL.len;simp at this;omega
 have jK:=ha.len
 have e4:bS (f.pc+1)=f.pc+1:=aF ab ab
 have pO:1<=x.args.length->0<=aE x.args 0/\aE x.args 0<f.an.length:=λh1=>C.arg _ (fI ab ab)
 have ga:∀{m'},af m0 m'->1<=x.args.length->ad m' a.ao (a.off+Int.toNat (0:Int)*1)=some (vi (aE x.args 0)):=λhx h1=>(ha.ext hx).GM ab ab
 have gr:∀{ro m bx aT hp fr lo lh o h css ag6},ST m0 ro m mb a9 bx aT hp fr lo lh fs {f with aL:=ag6} r o h css->∀{i:Int},0<=i->i<f.an.length->ad m r.ao (r.off+Int.toNat i*1)=some (vi (aE f.an i)):=λS i h0 h1=>(S.KU (by simp only[];omega)).GM h0 h1
 have hHE:=C.HE pN hM.nn
 have SG:∀{ro m hp lh bx},ST m0 ro m mb a9 bx aT hp fr s.aT lh fs {f with aL:=aL} r o h css->jU m fr (fs++[{f with aL:=aL}]):=λS=>S.dj.ai.Lc bg (λg hg=>by
  rcases List.mem_append.1 hg with hg|hg
  ·have hF:=C.ok.ai g (by rw[C.fr];exact aF7 _ hg);obtain⟨pg,_,FG,hPg,_⟩:=hF.Ki C.ok.eG;have h1:=hF.lr;have h2:=hF.lo;have h3:=hF.lh;rw[FG]at h1 h2 h3;have:=hPg.an;omega
  ·simp at hg;subst hg;simp only[];omega)
 have amG:∀r',r'∈x.args->aE f.an r'<1000->eT (aE f.an r'):=λr' OX cA=>by
  have rI:=C.arg r' OX;rcases C.F.Rz _ (fI rI.1 rI.2)with h5|h5
  ·exact h5
  ·omega
 have ahd:∀{M:ah}(hx:af m2 M)(w:Int)(s':St),s'={s with ai:=fs++[aM.put {f with aL:=aL,pc:=f.pc+1} x.dst w 0]}->
  aD Tryz.prog 143 [vp mb 0,vi x.dst,vi w] M λ_ m'=>da [m1.size,m.size] M m'/\xe m0 ro m mb d p s' m':=λhx w s' e=>by
  obtain⟨SM,tM⟩:=S2.ext hx
  refine(zn SM ab hd.1 (by simp only[];omega) (by simp only[];omega) w Jz).mono ?_
  rintro _ m' ⟨S',t'⟩
  exact⟨t'.eS (B2.to tM),ro,aT,hp,fr,by rw[e];exact S'.dj,(t2.trans tM).trans t'⟩
 have goR:∀{M:ah}(hx:af m2 M)(v:Int)(s':St),s'={s with ai:=fs++[{f with aL:=aL,pc:=v}]}->
  aD Tryz.prog 150 [vp mb 0,vi v] M λ_ m'=>da [m1.size,m.size] M m'/\xe m0 ro m mb d p s' m':=λhx v s' e=>by
  obtain⟨SM,tM⟩:=S2.ext hx
  refine(gV SM ab v).mono ?_
  rintro _ m' ⟨S',t'⟩
  exact⟨t'.eS (B2.to tM),ro,aT,hp,fr,by rw[e];exact S'.dj,(t2.trans tM).trans t'⟩
 refine⟨λe=>?_,λe0=>?_⟩
 ·simp at e
  exact ahd (af.av _) _ _ (by unfold gT;simp only[];rw[aFW e])
 simp only[aFU]at e0
 refine⟨λe=>?_,λe1=>?_⟩
 ·simp only[aGe,aFZ]at e
  have h2:=h4.2.2.1 ab
  have pP:=pO ab
  have ha1:0<=aE x.args 1/\aE x.args 1<f.an.length:=C.arg _ (fI ab ab)
  have hi:=hM.oX ab
  refine⟨ab,ab,_,ga S2.dj.bN ab,pP.1,ab,_,gr S2 pP.1 pP.2,ab,ab,_,(ha.ext S2.dj.bN).GM (i:=1) ab ab,ha1.1,ab,_,gr S2 ha1.1 ha1.2,?_⟩
  refine(OH (amG _ (fI ab ab) (hi _ (fI ab ab))) (amG _ (fI ab ab) (hi _ (fI ab ab))) m2).mono ?_
  rintro _ m3 ⟨rfl,mL⟩
  refine⟨mL.cg (λb hb=>(B2 b hb).1),_,rfl,mL.cr (kB.bH 1),ahd mL _ _ ?_⟩
  unfold gT;simp only[];rw[aFS e0,aFW e]
 simp only[aF9,aFU]at e1
 have V1:¬(x.op=1\/x.op=2\/x.op=3\/x.op=4):=ab
 refine⟨λe=>?_,λe5=>?_⟩
 ·simp only[aFZ]at e
  have h2:=h4.2.1 ab
  have pP:=pO ab
  have Dz:(Sl.len aT)=s.aT.length:=by have:=S2.dj.aT.len;simp at this;omega
  refine⟨aT,S2.dj.box.bH 6,ab,ab,_,ga S2.dj.bN ab,pP.1,ab,_,gr S2 pP.1 pP.2,?_⟩
  intro m3
  have mL:af m2 m3:=(af.av m2).aC _
  have ji:eK m3 m2.size 0 [.i (aE f.an (aE x.args 0))]:=(bK.push m2 _ _).iu
  obtain⟨S3,t3⟩:=S2.ext mL
  have B3:=B2.to t3
  clear_value m3
  refine⟨mL.cr (S2.dj.box.bH 6),fB.append (zs:=[.i 0]) (x:=.mk m2.size 0 1 1) (new:=[.i (aE f.an (aE x.args 0))]) S3.dj.aT S3.dj.new rfl ji (by simp only[Sl.eO];omega) λJC q m4 q1 q2=>?_⟩
  have q1':fB JC m4 au 1 2 q ((s.aT++[aE f.an (aE x.args 0)]).map Ce.i):=by simpa using q1
  obtain⟨S4,t4⟩:=S3.Kr q2 q1'
  have B4:=B3.to t4
  refine⟨t4.eS B3,S4.dj.vX (i:=6) az,?_⟩
  intro m5
  obtain⟨S5,t5⟩:=S4.nu 6 [.s q]
  have B5:=B4.to t5
  refine⟨t5.eS B4,ab,ab,_,ga S5.dj.bN ab,pP.1,ab,_,gr S5 pP.1 pP.2,?_⟩
  refine(zn (s:={s with aT:=s.aT++[aE f.an (aE x.args 0)]}) S5 ab hd.1 (by simp only[];omega) (by simp only[];omega) _ Jz).mono ?_
  rintro _ m6 ⟨S6,t6⟩
  refine⟨t6.eS B5,JC,q,hp,fr,?_,(((t2.trans t3).trans t4).trans t5).trans t6⟩
  unfold gT;simp only[];rw[aFS e0,aFS V1,aFW e];exact S6.dj
 simp only[aFU]at e5
 have aeR:∀w∈f.aQ,w≠0->1000<=w/\ix w<s.heap.length:=λw hw cx=>by
  obtain⟨h1,dd,Hy,_⟩:=C.RK w hw cx;exact⟨h1,ap Hy⟩
 refine⟨λe=>?_,λe6=>?_⟩
 ·simp only[aFZ]at e
  have h6:=h4.2.2.2.2.1 e
  refine(sU S2 ha C.arg h4.1 x.bh LD (by simp only[];omega) ⟨h6.1,h6.2.1⟩ Jz ab ab aeR).mono ?_
  rintro _ m3 ⟨pX,SW,Bn,Q2,L3,t3⟩
  refine⟨t3.eS B2,pX,SW,Bn,Q2,?_,t2.trans t3⟩
  have:gT im s fs f x aL=vJ s fs {f with aL:=aL} x x.bh:=by
   unfold gT vJ;simp only[];rw[aFS e0,aFS V1,aFS e5,aFW e];rfl
  rw[this];exact L3
 simp only[aFU]at e6
 refine⟨λe=>?_,λtE=>?_⟩
 ·simp only[aFZ]at e
  have ln:=h4.2.2.2.2.2.1 e
  have rI:x.bA=0:=by rcases hI.bA with h5|h5;exact h5;omega
  have nJ:(dv im.aI).length<=12:=by
   have:=qL C.ok.eG.oQ.types im.aI.length;rw[lY _ _ (aFR _)]at this;exact this
  refine⟨d,S2.dj.box.bH 0,(nU (qD.ext S2.dj.bN).aI C.ok.eG.oQ.types).mono ?_⟩
  rintro _ m3 ⟨rfl,mL⟩
  obtain⟨S3,t3⟩:=S2.ext mL
  have B3:=B2.to t3
  have e3:bS (((dv im.aI).length:Int)+x.bh)=eD im+x.bh:=aF ab ab
  refine⟨t3.eS B2,_,rfl,mL.cr (kB.bH 2),mL.cr (kB.bH 0),mL.cr (kB.bH 1),mL.cr (kB.bH 2),mL.cr (kB.bH 3),mL.cr (kB.bH 4),mL.cr (kB.bH 5),mL.cr (kF.bH 0),mL.cr (kF.bH 1),mL.cr (kF.bH 2),mL.cr (kF.bH 3),mL.cr (kF.bH 4),mL.cr (kF.bH 5),?_⟩
  rw[e3]
  refine(sU S3 ha C.arg h4.1 (eD im+x.bh) LD (by simp only[];omega) (by rw[rI];omega) Jz ab ab aeR).mono ?_
  rintro _ m4 ⟨JC,as3,Pe,fr4,L4,t4⟩
  refine⟨t4.eS B3,JC,as3,Pe,fr4,?_,(t2.trans t3).trans t4⟩
  have:gT im s fs f x aL=vJ s fs {f with aL:=aL} x (eD im+x.bh):=by
   unfold gT vJ;simp only[];rw[aFS e0,aFS V1,aFS e5,aFS e6,aFW e,aFS (λhh=>hh.1 rI)];rfl
  rw[this];exact L4
 simp only[aFU]at tE
 refine⟨λe=>?_,λe9=>?_⟩
 ·simp only[aGe,aFZ]at e
  have iX:=hI.op
  unfold kj at iX
  refine(MA S2 qD C.ok.eG ha C.arg h4.1 ab (λe'=>?_) (λe'=>⟨h4.2.2.1 ab,hM.apply e'⟩) LD (λg hg=>?_) Jz ab ab ab ab C.ok.heap).mono ?_
  ·rw[aFS ab,aFS ab,aFS ab,aFS ab,aFW e']at iX;exact iX
  ·have hF:=C.ok.ai g (by rw[C.fr];exact aF7 _ hg)
   obtain⟨pg,_,FG,hPg,_⟩:=hF.Ki C.ok.eG
   have h1:=hF.lr
   have h2:=hF.lo
   have h3:=hF.lh
   rw[FG]at h1 h2 h3
   have:=hPg.an
   omega
  rintro _ m3 ⟨pX,SW,Bn,Q2,L3,t3⟩
  refine⟨t3.eS B2,pX,SW,Bn,Q2,?_,t2.trans t3⟩
  have:gT im s fs f x aL=oL im s fs {f with aL:=aL} x:=by
   unfold gT oL;simp only[];rw[aFS e0,aFS V1,aFS e5,aFS e6,aFS tE,aFS ab,aFS ab,aFS ab,aFS ab,aFS ab,aFS ab,aFS ab,aFS ab];by_cases e9:x.op=9
   ·rw[aFW e9,aFW e9];rfl
   ·rw[aFS e9,aFS e9];by_cases V0:x.op=24
    ·rw[aFW V0,aFW V0];rfl
    ·rw[aFS V0,aFS V0,aFW ab]
  rw[this];exact L3
 simp only[aF9,aFU]at e9
 refine⟨λe=>?_,λe23=>?_⟩
 ·simp only[aFZ]at e
  have h2:=h4.2.1 ab
  have pP:=pO ab
  refine⟨ab,ab,_,ga S2.dj.bN ab,pP.1,ab,_,gr S2 pP.1 pP.2,(MB S2 ab (aE f.an (aE x.args 0)) (λg hg=>?_)).mono ?_⟩
  ·have cx:fs≠[]:=λe=>by rw[e]at hg;simp at hg
   have Zs:fs=fs.dropLast++[g]:=by
    rw[aG3 cx]at hg;simp at hg;rw[<-hg];exact(aGD cx).symm
   have kU:fs.length=fs.dropLast.length+1:=by
    have:=aHB List.length Zs;simpa using this
   obtain⟨q1,q2,q3⟩:=C.ok.chain fs.dropLast.length g f (by rw[C.fr,Zs];simp) (by rw[C.fr,<-kU];simp)
   have hGF:=C.ok.ai g (by rw[C.fr,Zs];simp)
   have:=hGF.lr
   have:=hGF.lo
   exact⟨q1,by show f.dst<_;omega,by show f.dst<_;omega⟩
  rintro _ m3 ⟨pX,SW,Bn,Q2,L3,t3⟩
  refine⟨t3.eS B2,pX,SW,Bn,Q2,?_,t2.trans t3⟩
  unfold gT
  simp only[]
  rw[aFS e0,aFS V1,aFS e5,aFS e6,aFS tE,aFS ab,aFS ab,aFS ab,aFS ab,aFS ab,aFS ab,aFS ab,aFS ab,aFS ab,aFS ab,aFS ab]
  exact L3
 simp only[aFU]at e23
 have hp5:∀(k:St),(if x.op=0 then k else k)=k:=λk=>by split<;>rfl
 have Pb:gT im s fs f x aL=(
  if x.op=14 then{s with heap:=nl s.heap (aE f.an (aE x.args 0)),ai:=fs++[{f with aL:=fx aL (aE x.args 0) (aE aL (aE x.args 0)+1),pc:=f.pc+1}]}
  else if x.op=15 then{s with heap:=pH (fR s.heap [aE f.an (aE x.args 0)]),ai:=fs++[{f with aL:=aL,pc:=f.pc+1}]}
  else if x.op=16\/x.op=17 then KV s fs {f with aL:=aL} x
  else if x.op=18 then{s with ai:=fs++[aM.put {f with aL:=aL,pc:=f.pc+1} x.dst (aE f.an (aE x.args 0)) (gF (aE f.an (aE x.args 0)))]}
  else if x.op=19 then{s with ai:=fs++[aM.put {f with aL:=aL,pc:=f.pc+1} x.dst (aE (aK s.heap (aE f.an (aE x.args 0))).aB x.bh) 0]}
  else if x.op=20 then{s with ai:=fs++[{f with aL:=aL,pc:=if aE f.an (aE x.args 0)=0 then x.bh else f.pc+1}]}
  else if x.op=21 then{s with ai:=fs++[{f with aL:=aL,pc:=aE x.cW (Ez (bB im.aI x.bh) (aK s.heap (aE f.an (aE x.args 0))).jW)}]}
  else{s with ai:=fs++[{f with aL:=aL,pc:=x.bh}]}):=by
  unfold gT
  simp only[]
  rw[aFS e0,aFS V1,aFS e5,aFS e6,aFS tE]
  by_cases a14:x.op=14
  ·rw[aFW a14,aFW a14]
  rw[aFS a14,aFS a14]
  by_cases a15:x.op=15
  ·rw[aFW a15,aFW a15]
  rw[aFS a15,aFS a15]
  by_cases a16:x.op=16\/x.op=17
  ·rw[aFW a16,aFW a16];rfl
  rw[aFS a16,aFS a16]
  by_cases a18:x.op=18
  ·rw[aFW a18,aFW a18]
  rw[aFS a18,aFS a18]
  by_cases a19:x.op=19
  ·rw[aFW a19,aFW a19]
  rw[aFS a19,aFS a19]
  by_cases a20:x.op=20
  ·rw[aFW a20,aFW a20]
  rw[aFS a20,aFS a20]
  by_cases a21:x.op=21
  ·rw[aFW a21,aFW a21]
  rw[aFS a21,aFS a21]
  have:=C.opc
  rw[aFW ab]
 rw[Pb]
 clear Pb hp5
 refine⟨λe=>?_,λQ9=>?_⟩
 ·simp only[aFZ]at e
  rw[aFW e]
  have h2:=h4.2.1 ab
  have pP:=pO ab
  obtain⟨iO,hmx⟩:=hM.dup e
  obtain⟨pw,qB⟩:=bE iO
  refine⟨ab,ab,_,ga S2.dj.bN ab,pP.1,ab,_,gr S2 pP.1 pP.2,?_⟩
  intro m3
  have mL:af m2 m3:=(af.av m2).aC _
  have ow:gQ m2 m3 au 1 (.mk m2.size 0 1 1) ([aE f.an (aE x.args 0)].map Ce.i):=gQ.new (af.av m2) au 1 _ 1 az
  obtain⟨S3,t3⟩:=S2.ext mL
  have B3:=B2.to t3
  have hz:ro m2.size=0:=S2.dj.new _ (aFR _)
  clear_value m3
  refine(BL S3.dj (aj.fQ ow az) (λ_=>hz) (λw hw=>?_) (λc hc=>?_) az ab).mono ?_
  ·simp at hw;subst hw;exact⟨iO.1,ap pw⟩
  ·have:=C.ok.heap.cell c hc;have h5:=this.lo;have h6:=this.hi;omega
  rintro _ m4 ⟨hh4,c4⟩
  obtain⟨S4,t4⟩:=S3.gU (c4.mono λk hk=>Or.inl hk) hh4
  have B4:=B3.to t4
  have hao:aE x.args 0<aL.length:=ab
  have hob:0<=aE aL (aE x.args 0)/\aE aL (aE x.args 0)<=999999:=by
   have hm:=fI (l:=aL) pP.1 hao;refine⟨hM.nn _ hm,?_⟩;have hg:=qW (l:=aL) pP.1 hao;rw[pN]at hg;obtain⟨qq,hqq,hle⟩:=rc _ _ _ _ hg;have:=(C.afe qq (ak hqq)).2;rw[<-pN]at hle;omega
  have e6':bS (aE aL (aE x.args 0)+1)=aE aL (aE x.args 0)+1:=aF ab ab
  refine⟨t4.eS B3,ab,ab,_,ga S4.dj.bN ab,ab,ab,_,ga S4.dj.bN ab,pP.1,ab,aE aL (aE x.args 0),(S4.Xm (by simp only[];omega)).GM pP.1 hao,pP.1,ab,S4.fC.aL.VK pP.1 hao,?_⟩
  rw[e6',e4]
  intro m5
  obtain⟨S5,t5⟩:=S4.zm pP.1 hao (aE aL (aE x.args 0)+1)
  have B5:=B4.to t5
  refine⟨t5.eS B4,(gV (s:={s with heap:=jf s.heap [aE f.an (aE x.args 0)]}) S5 ab (f.pc+1)).mono ?_⟩
  rintro _ m6 ⟨S6,t6⟩
  exact⟨t6.eS B5,ro,aT,hp,fr,S6.dj,(((t2.trans t3).trans t4).trans t5).trans t6⟩
 simp only[aFU]at Q9
 rw[aFS Q9]
 have QM:x.args.length=1->x.args=[aE x.args 0]:=λh1=>by
  cases hx:x.args with
  |nil=>rw[hx]at h1;simp at h1
  |cons y l=>cases l with
   |nil=>rfl
   |cons z l=>rw[hx]at h1;simp at h1
 refine⟨λe=>?_,λPm=>?_⟩
 ·simp only[aFZ]at e
  rw[aFW e]
  have h2:=h4.2.1 ab
  have pP:=pO ab
  have ht:cz im x=[aE x.args 0]:=by unfold cz;rw[aFW ab];exact QM ab
  have amI:=hHE.1
  rw[ht]at amI
  refine⟨hp,S2.dj.box.bH 7,ab,ab,_,ga S2.dj.bN ab,pP.1,ab,_,gr S2 pP.1 pP.2,?_⟩
  intro m3
  have mL:af m2 m3:=(af.av m2).aC _
  have ow:gQ m2 m3 au 1 (.mk m2.size 0 1 1) ([aE f.an (aE x.args 0)].map Ce.i):=gQ.new (af.av m2) au 1 _ 1 az
  obtain⟨S3,t3⟩:=S2.ext mL
  have B3:=B2.to t3
  clear_value m3
  refine⟨mL.cr (S2.dj.box.bH 7),(EU S3.dj.heap S3.dj.new (aj.fQ ow az) (e:=λb=>dz fs b+bQ f.an aL b) (amI.congr λb=>rfl) hHE.2 ab).mono ?_⟩
  rintro _ m4 ⟨JC,Pe,rfl,hh4,c4⟩
  obtain⟨S4,t4⟩:=S3.gU c4 hh4
  have B4:=B3.to t4
  refine⟨t4.eS B3,Pe,rfl,S4.dj.vX (i:=7) az,?_⟩
  intro m5
  obtain⟨S5,t5⟩:=S4.nu 7 [.s Pe]
  have B5:=B4.to t5
  rw[e4]
  refine⟨t5.eS B4,(gV (s:={s with heap:=pH (fR s.heap [aE f.an (aE x.args 0)])}) S5 ab (f.pc+1)).mono ?_⟩
  rintro _ m6 ⟨S6,t6⟩
  exact⟨t6.eS B5,JC,aT,Pe,fr,S6.dj,(((t2.trans t3).trans t4).trans t5).trans t6⟩
 simp only[aFU]at Pm
 rw[aFS Pm]
 refine⟨λe=>?_,λSF=>?_⟩
 ·simp only[aGe,aFZ]at e
  rw[aFW e]
  refine(Hj S2 ha C.arg ⟨h4.2.2.2.1 e,h4.1⟩ e LD Jz ab ab (λq hq=>?_) (hM.WK e).1 C.ok.heap).mono ?_
  ·refine⟨hM.nn q hq,?_⟩
   obtain⟨k,hk⟩:=List.mem_iff_getElem?.1 hq
   simp only[]at hk
   rw[pN]at hk
   obtain⟨qq,hqq,hle⟩:=rc _ _ _ _ hk
   have:=(C.afe qq (ak hqq)).2
   omega
  rintro _ m3 ⟨pX,SW,Bn,Q2,L3,t3⟩
  exact⟨t3.eS B2,pX,SW,Bn,Q2,L3,t2.trans t3⟩
 simp only[aF9,aFU]at SF
 rw[aFS ab]
 refine⟨λe=>?_,λe18=>?_⟩
 ·simp only[aFZ]at e
  rw[aFW e]
  have h2:=h4.2.1 ab
  have pP:=pO ab
  refine⟨ab,ab,_,ga S2.dj.bN ab,pP.1,ab,_,gr S2 pP.1 pP.2,(ry S2 ab hd.1 (by simp only[];omega) (by simp only[];omega) _).mono ?_⟩
  rintro _ m3 ⟨S3,t3⟩
  have B3:=B2.to t3
  rw[e4]
  refine⟨t3.eS B2,(gV S3 ab (f.pc+1)).mono ?_⟩
  rintro _ m4 ⟨S4,t4⟩
  exact⟨t4.eS B3,ro,aT,hp,fr,S4.dj,(t2.trans t3).trans t4⟩
 simp only[aFU]at e18
 rw[aFS e18]
 have hV2:=S2.rv qD ab ab (SG S2)
 refine⟨λe=>?_,λQN=>?_⟩
 ·simp only[aFZ]at e
  rw[aFW e]
  have h2:=h4.2.1 ab
  have pP:=pO ab
  obtain⟨iO,mK⟩:=hM.load e
  have iX:=hI.op
  unfold kj at iX
  rw[aFS ab,aFS ab,aFS ab,aFS ab,aFS ab,aFS ab,aFS ab,aFW e]at iX
  refine⟨ab,ab,_,ga S2.dj.bN ab,pP.1,ab,_,gr S2 pP.1 pP.2,(dH hV2 iO.1 (bE iO).1).mono ?_⟩
  rintro _ m3 ⟨fl,rfl,gL,mL⟩
  have QP:=gL.len
  refine⟨mL.cg (λb hb=>(B2 b hb).1),_,_,_,rfl,mL.cr (kB.bH 2),mL.cr (kB.bH 1),iX.2.1,ab,_,gL.GM iX.2.1 mK,ahd mL _ _ rfl⟩
 simp only[aFU]at QN
 rw[aFS QN]
 refine⟨λe=>?_,λVu=>?_⟩
 ·simp only[aFZ]at e
  rw[aFW e]
  have h2:=h4.2.1 ab
  have pP:=pO ab
  refine⟨ab,ab,_,ga S2.dj.bN ab,pP.1,ab,_,gr S2 pP.1 pP.2,λh5=>?_,λh5=>?_⟩
  ·simp at h5;exact goR (af.av _) _ _ (by rw[aFW h5])
  ·simp at h5;rw[e4];exact goR (af.av _) _ _ (by rw[aFS h5])
 simp only[aFU]at Vu
 rw[aFS Vu]
 refine⟨λe=>?_,λVY=>?_⟩
 ·simp only[aFZ]at e
  rw[aFW e]
  have h2:=h4.2.1 ab
  have pP:=pO ab
  obtain⟨iO,ML⟩:=hM.Ou e
  obtain⟨Vv,ht2,abe,hfc⟩:=Sd ML
  have iX:=hI.op
  unfold kj at iX
  rw[aFS ab,aFS ab,aFS ab,aFS ab,aFS ab,aFS ab,aFS ab,aFS ab,aFS ab,aFS ab,aFW e]at iX
  have Uo:Ez (bB im.aI x.bh) (aK s.heap (aE f.an (aE x.args 0))).jW<(bB im.aI x.bh).length:=aHx ⟨_,ML,az⟩
  have hjl:=hj.len
  have hj1:=iX.2.2.1
  have hct:=(C.ok.heap.cell _ (ak (bE iO).1)).nM (bE iO).2
  have MK:=C.ok.eG.oQ.types.len
  refine⟨ab,ab,_,ga S2.dj.bN ab,pP.1,ab,_,gr S2 pP.1 pP.2,(dH hV2 iO.1 (bE iO).1).mono ?_⟩
  rintro _ m3 ⟨fl,rfl,gL,mL⟩
  have e7:bS (x.bh -1)=((x.bh.toNat -1:Nat):Int):=by rw[aF ab ab];omega
  rw[e7]
  have lO:=S2.dj.bN.trans mL
  refine⟨mL.cg (λb hb=>(B2 b hb).1),_,_,_,rfl,d,mL.ad (S2.dj.box.bH 0),(gY (qD.ext lO).aI C.ok.eG.oQ.types ab).mono ?_⟩
  rintro _ m4 ⟨rfl,FJ⟩
  have mH:=mL.trans FJ
  have e8:bS ((aK s.heap (aE f.an (aE x.args 0))).jW -((fc im.aI (x.bh.toNat -1):Nat):Int))=((Ez (bB im.aI x.bh) (aK s.heap (aE f.an (aE x.args 0))).jW:Nat):Int):=by
   rw[aF ab ab];omega
  refine⟨FJ.cg (λb hb=>mL.lt (B2 b hb).1),_,rfl,FJ.cr ((kB.ext mL).bH 5),?_⟩
  rw[e8]
  refine⟨ab,ab,_,(hj.ext (lO.trans FJ)).GM ab ab,goR mH _ _ rfl⟩
 simp only[aFU]at VY
 rw[aFS VY]
 refine⟨λe=>goR (af.av _) _ _ rfl,λZS=>?_⟩
 simp only[aFU]at ZS
 have:=C.opc
 omega
end
end
section
theorem Xq(l l':List Int)(h:l'.length=l.length):fP (l.map Ce.i) 0 (l'.map Ce.i)=l'.map Ce.i:=by
 have:=zQ [] (l'.map Ce.i) (l.map Ce.i) bg;simp only[aGp,aGv]at this;rw[this,aHy bg,aGP]
section
variable{m0:ah}{ro:Nat->Nat}{m:ah}{mb e:Nat}{bx:List Ce}{aT hp fr:Sl}{lo:List Int}{lh:List aR}{fs:List aM}{f:aM}{r o h:Sl}{css:List (List Ce)}
theorem ST.aaB(S:ST m0 ro m mb e bx aT hp fr lo lh fs f r o h css){aL:List Int}(hl:aL.length=f.aL.length)(h0:0<aL.length):dW m o.ao o.off (aL.map Ce.i).length/\ST m0 ro (ag m o.ao o.off (aL.map Ce.i)) mb e bx aT hp fr lo lh fs {f with aL:=aL} r o h css/\To ro m ro (ag m o.ao o.off (aL.map Ce.i)):=by
 have T:=S.fC;have LN:o.cap≠0:=λe=>by have:=(T.aL.BD e).1;simp at this;rw[this]at hl;simp at hl;rw[hl]at h0;simp at h0
 have hb:=T.aL.ao LN;have hc:cJ (λk=>k=11+3*fs.length) ro m ro (ag m o.ao o.off (aL.map Ce.i)):=cJ.ag S.dj.new hb.2 _ _;have ha:=T.aL.set (o:=0) (new:=aL.map Ce.i) bg;rw[Xq _ _ hl,aGX]at ha;have T':ru ro (ag m o.ao o.off (aL.map Ce.i)) fr fs {f with aL:=aL} r o h css:=⟨T.rm.dT hc ab,T.len,T.size,T.wc hc λk _ h3=>ab,T.an.dT hc ab,ha,T.aQ.dT hc ab⟩;obtain⟨h4,h5⟩:=S.dj.jJ (hc.mono λk hk=>ab) T'.rH;refine⟨?_,⟨h4,T'⟩,h5⟩;have:=T.aL.wr (o:=0) (n:=(aL.map Ce.i).length) bg;rw[aGX]at this;exact this
end
section
variable{m0:ah}{ro:Nat->Nat}{m:ah}{mb:Nat}{d p aT hp fr:Sl}{s:St}
theorem OI{im:bq}(L:BE m0 ro m mb a9 (SB d p s aT hp fr) aT hp fr s.aT s.heap s.ai)(qD:dU m0 d p im)(lx:bR im s)(dp:∀g∈s.ai,∀w∈g.an,w<=9223372036854775807)(Up:s.heap.length<=900000000)(SU:s.aT.length<=900000000):
 aD Tryz.prog 74 [vp mb 0] m λ_ m'=>xe m0 ro m mb d p (qT im s) m':=by
 apply tP (mb,0)
 simp -zeta only[aw,ax]
 refine⟨s.bT,L.box.bH 2,λh1=>?_,λh1=>?_⟩
 ·simp at h1
  rw[vF h1]
  exact⟨ro,aT,hp,fr,L,cJ.av _ L.new⟩
 have lF:s.bT=3:=by simpa using h1
 obtain⟨fs,f,hf⟩:=lx.split lF
 have hlf:s.ai.getLast?=some f:=by rw[hf];simp
 have kU:s.ai.dropLast=fs:=by rw[hf];simp
 have C:C1 im s fs f (dR im f):=⟨lx,lF,hf,rfl,dp⟩
 have vL:qT im s=(open Classical in if vB (dR im f).op/\s.be=s.cV then{s with bT:=1}else if tx im s f (dR im f) (cF f.an f.aL (cz im (dR im f)))then gT im s fs f (dR im f) (cF f.an f.aL (cz im (dR im f)))else{s with bT:=2}):=by
  unfold qT;rw[aFS (by simpa using lF),hlf,kU]
 rw[vL]
 generalize dR im f=x at*
 have L':BE m0 ro m mb a9 (SB d p s aT hp fr) aT hp fr s.aT s.heap (fs++[f]):=by rw[<-hf];exact L
 obtain⟨r,o,h,css,T⟩:=L'.ai.fC
 have S:ST m0 ro m mb a9 (SB d p s aT hp fr) aT hp fr s.aT s.heap fs f r o h css:=⟨L',T⟩
 have gL:=T.EQ
 have tC:=lx.jT
 have LG:=lx.be
 have Im:=lx.cV
 rw[hf]at tC
 have Dr:fs.length<=1000:=by simp at tC;omega
 have e1:bS ((fr.len:Int) -1)=(fs.length:Int):=by rw[aF ab ab];omega
 have e2:Int.toNat (fs.length:Int)=fs.length:=ab
 have g8:ad m mb 8=some (Sl.v fr):=S.dj.box.bH 8
 obtain⟨g0,g1,g2,g3,g4,g5⟩:=T.iu
 refine⟨fr,g8,fr,g8,?_⟩
 rw[e1,e2]
 refine⟨ab,ab,_,g0,_,g1,_,g2,r,g3,o,g4,h,g5,?_⟩
 intro m1
 have dF:af m m1:=(af.av m).aC _
 refine⟨dF.cr g0,dF.cr g1,dF.cr g2,dF.cr g3,dF.cr g4,dF.cr g5,dF.cr g8,dF.cr g8,?_⟩
 intro m2
 have dA:af m m2:=dF.ag (aFR _) _ _
 have s2:m2.size=m.size+1:=by simp[m2,m1,aq]
 have kF:bK m2 m.size dh [.i f.dJ,.i f.pc,.i f.dst,.s r,.s o,.s h]:=bK.ag (m:=m1) (o:=0) (r:=[.i f.dJ,.i f.pc,.i f.dst,.s r,.s o,.s h]) (bK.push m _ _)
 obtain⟨S2,t2⟩:=S.ext dA
 clear_value m2
 obtain⟨q,hq,xy,hP,QL,hI⟩:=C.I
 obtain⟨pa,pl,pc,hpa,tA,Jz,k0,k1,k2,k3,k4⟩:=qD.bJ.aE hq
 obtain⟨a,j,ha,hj,i0,i1,i2,i3,i4,i5⟩:=Jz.aE QL
 have aC5:=qD.bJ.len
 have amp:=Jz.len
 have hF:=C.F
 have amJ:=hF.dJ
 have amK:=hF.pc
 rw[xy]at amK
 have lz:=S2.dj.bN
 refine⟨p,S2.dj.box.bH 1,amJ.1,ab,pc,lz.ad k4,amK.1,ab,_,lz.ad i0,_,lz.ad i1,_,lz.ad i2,_,lz.ad i3,a,lz.ad i4,j,lz.ad i5,?_⟩
 intro m3
 have mL:af m2 m3:=(af.av m2).aC _
 refine⟨mL.cr (lz.ad i0),mL.cr (lz.ad i1),mL.cr (lz.ad i2),mL.cr (lz.ad i3),mL.cr (lz.ad i4),mL.cr (lz.ad i5),mL.cr (kF.bH 1),mL.cr (lz.ad k4),mL.cr (kF.bH 0),mL.cr (S2.dj.box.bH 1),?_⟩
 intro m4
 have mH:af m2 m4:=mL.ag (aFR _) _ _
 have s4:m4.size=m2.size+1:=by simp[m4,m3,aq]
 obtain⟨S4,t4⟩:=S2.ext mH
 have kF4:=kF.ext mH
 have B4:OE ro m4 [m2.size,m.size]:=λb hb=>by
  simp at hb;rcases hb with rfl|rfl
  ·exact⟨ab,S.dj.new _ ab⟩
  ·exact⟨ab,S.dj.new _ (aFR _)⟩
 clear_value m4
 have t04:=t2.trans t4
 refine(Ko _ _).mono ?_
 rintro _ m5 ⟨b,rfl,hb,LF⟩
 obtain⟨S5,t5⟩:=S4.ext LF
 have B5:=B4.to t5
 have kF5:=kF4.ext LF
 have t05:=t04.trans t5
 have Uq:=C.Mm
 have h4:=C.Tw
 have If:(cF f.an f.aL (cz im x)).length=f.aL.length:=oY _ _ _
 refine⟨t5.eS B4,b,rfl,λnH=>⟨s.be,S5.dj.box.bH 4,s.cV,S5.dj.box.bH 5,λh6=>?_,λh6=>?_⟩,λmF=>?_⟩
 ·simp at h6
  refine⟨S5.dj.vX (i:=2) az,?_⟩
  intro m6
  obtain⟨S6,t6⟩:=S5.nu 2 [.i 1]
  refine⟨t6.eS B5,ro,aT,hp,fr,?_,t05.trans t6⟩
  rw[aFW ⟨hb.1 nH,h6⟩]
  have:=S6.dj
  rw[<-hf]at this
  exact this
 all_goals
  have wg:¬(vB x.op/\s.be=s.cV):=by
   first
   |exactλhh=>by simp at h6;exact h6 hh.2
   |exactλhh=>fb hb mF hh.1
  rw[aFS wg]
  have BR:=S5.dj.bN
  refine⟨d,S5.dj.box.bH 0,p,S5.dj.box.bH 1,(IM (qD.ext BR) C.call (ha.ext BR) ab h4.2.2.2.1).mono ?_⟩
  rintro _ m6 ⟨ts,rfl,ot,Uy⟩
  obtain⟨S6,t6⟩:=S5.ext Uy
  have B6:=B5.to t6
  have MK:=UQ im x
  have it:aj m6 ts (cz im x):=aj.fQ ot ab
  refine⟨t6.eS B5,ts,rfl,Uy.cr (kF5.bH 0),Uy.cr (kF5.bH 1),Uy.cr (kF5.bH 2),Uy.cr (kF5.bH 3),Uy.cr (kF5.bH 4),Uy.cr (kF5.bH 5),?_⟩
  refine(GO (f:=f) (S6.KU ab) (S6.Xm ab) it C.Tx Uq.1 ab ab (λw hw=>by have:=C.afe w hw;omega)).mono ?_
  rintro _ m7 ⟨os,rfl,oo,SR⟩
  obtain⟨S7,t7⟩:=S6.ext SR
  have B7:=B6.to t7
  have io:aj m7 os (cF f.an f.aL (cz im x)):=aj.fQ oo ab
  have as6:jU m7 fr (fs++[f]):=S7.dj.ai.Lc bg (λg hg=>by
   have hG:=lx.ai g (by rw[hf];exact hg);obtain⟨pg,_,FG,hPg,_⟩:=hG.Ki lx.eG;have q1:=hG.lr;have q2:=hG.lo;have q3:=hG.lh;rw[FG]at q1 q2 q3;have:=hPg.an;omega)
  have hV7:=S7.rv qD ab ab as6
  have sk:({s with ai:=fs++[f]}:St)=s:=by rw[<-hf]
  rw[sk]at hV7
  refine⟨t7.eS B6,os,rfl,(Kq hV7 C (S7.KU ab) (S7.Xn ab) (ha.ext S7.dj.bN) io If).mono ?_⟩
  rintro _ m8 ⟨b2,rfl,abk,Zi⟩
  obtain⟨S8,t8⟩:=S7.ext Zi
  have B8:=B7.to t8
  have t08:=((t05.trans t6).trans t7).trans t8
  refine⟨t8.eS B7,b2,rfl,λh9=>?_,λh9=>?_⟩
  ·rw[aFS (nb abk h9)]
   refine⟨S8.dj.vX (i:=2) az,?_⟩
   intro m9
   obtain⟨S9,t9⟩:=S8.nu 2 [.i 2]
   refine⟨t9.eS B8,ro,aT,hp,fr,?_,t08.trans t9⟩
   have:=S9.dj
   rw[<-hf]at this
   exact this
  ·have hM:=yb abk h9
   rw[aFW hM]
   have ag9:=io.len
   have hoL:o.len=f.aL.length:=by have:=S8.fC.aL.len;simp at this;omega
   obtain⟨w1,S9,t9⟩:=S8.aaB If ab
   refine⟨(cF f.an f.aL (cz im x)).map Ce.i,by rw[ag9,hoL,If];simp[Nat.min_def];omega,(io.ext Zi).RI,w1,?_⟩
   intro m9
   have B9:=B8.to t9
   refine⟨t9.eS B8,(Jc C rfl hM S9 qD ha hj Up SU).mono ?_⟩
   rintro _ cK Vh
   obtain⟨bG,Fy,Ac,fr',L10,t10⟩:=Vh
   exact⟨t10.eS B9,bG,Fy,Ac,fr',L10,(t08.trans t9).trans t10⟩
end
end
structure Sm(n:Nat)(s:St):Prop where
 heap:s.heap.length<=n
 aT:s.aT.length<=n
 zc:∀g∈s.ai,∀w∈g.an,w<=9223372036854775807
theorem Ab:∀(n:Nat)(h:List aR)(st:List Int),IK h+st.length<=n->(fR h st).length=h.length
 |n,h,[],_=>by rw[zU]
 |0,h,w::r,hn=>by simp at hn
 |n+1,h,w::r,hn=>by
  simp only[aF5]at hn;rcases aGM (gJ h w)with hl|hl
  ·obtain⟨hc,hp⟩:=bE hl;by_cases h1:(aK h w).aG=1
   ·have SE:=kA (c':=iv) hc;simp only[aFW hp,iv]at SE;simp at SE;rw[zV hl h1,Ab n _ _ (by simp[iv];omega)];simp
   ·have Lu:=kA (c':={aK h w with aG:=(aK h w).aG -1}) hc;simp only[aFW hp]at Lu;rw[aFW ab]at Lu;rw[vz hl h1,Ab n _ _ (by simp only[eE];omega)];simp[eE]
  ·rw[vA hl,Ab n _ _ ab]
theorem Qm(h:List aR):(pH h).length<=h.length:=by unfold pH;simp;omega
theorem Ld:∀(ws:List Int)(g:List aR),(jf g ws).length=g.length
 |[],g=>rfl
 |w::ws,g=>by rw[jf,Ld ws];simp[nl]
theorem Nw(h:List aR)(w:Int):(apart h w).length<=h.length:=by
 unfold apart;split
 ·exact aF8 (Qm _) az
 ·rw[Ld];simp[eE]
theorem Nx(h:List aR)(a:Nat)(c:aR):(jQ h a c).length<=h.length+1:=by
 unfold jQ;split<;>simp
theorem Se{im:bq}{s:St}{fs:List aM}{f:aM}{x:Instr}(C:C1 im s fs f x){n:Nat}(hS:Sm n s)(hn:n<=900000000)(aL:List Int)(hM:tx im s f x aL):Sm (n+1) (gT im s fs f x aL):=by
 have hh:=hS.heap;have ho:=hS.aT;have dp:=hS.zc;rw[C.fr]at dp;have hF:=C.F;have h4:=C.Tw;have hd:=C.dst;have Uq:=C.Mm;have QV:∀r,aE f.an r<=9223372036854775807:=λr=>by
  rcases aF1 r.toNat f.an.length with h1|h1
  ·obtain⟨y,hy⟩:=ae h1;rw[Ow hy];exact dp f az y (ak hy)
  ·rw[aE,aGJ,aGc h1];simp
 have wc:∀g∈fs,∀w∈g.an,w<=9223372036854775807:=λg hg=>dp g (by simp[hg]);have fo:∀{g:aM},(∀w∈g.an,w<=9223372036854775807)->∀q∈fs++[g],∀w∈q.an,w<=9223372036854775807:=λhg q hq=>by
  rcases List.mem_append.1 hq with hq|hq
  ·exact wc q hq
  ·simp at hq;subst hq;exact hg
 have same:∀w∈f.an,w<=9223372036854775807:=dp f az;have put:∀(v:Int),v<=9223372036854775807->∀w∈fx f.an x.dst v,w<=9223372036854775807:=λv hv w hw=>by
  rcases qX hw with rfl|hw
  ·exact hv
  ·exact same w hw
 have Zt:∀{w},eT w\/gJ s.heap w->w<=9223372036854775807:=λh=>by
  rcases h with h|h
  ·have:=h.2;omega
  ·have h1:=ap (bE h).1;unfold ix at h1;omega
 have Zu:∀(g dst:Int)(ws:List Int),(∀w∈ws,w<=9223372036854775807)->∀w∈(bF im g dst ws).an,w<=9223372036854775807:=λg dst ws hw w h=>by
  simp only[bF]at h;rcases List.mem_append.1 h with h|h
  ·exact hw w h
  ·rw[nZ h];omega
 have IC:∀{g q:aM},(∀w∈g.an,w<=9223372036854775807)->(∀w∈q.an,w<=9223372036854775807)->∀z∈fs++[g,q],∀w∈z.an,w<=9223372036854775807:=λhg hq z hz=>by
  rcases List.mem_append.1 hz with hz|hz
  ·exact wc z hz
  ·simp at hz;rcases hz with rfl|rfl
   ·exact hg
   ·exact hq
 have wds:∀w∈cp f x.args,w<=9223372036854775807:=λw hw=>by
  obtain⟨r,_,rfl⟩:=List.mem_map.1 hw;exact QV r
 have hfi:=um s.heap;unfold gT;simp only[];by_cases e0:x.op=0
 ·rw[aFW e0];exact⟨by simp only[];omega,by simp only[];omega,fo (put _ (by have:=h4.2.2.2.2.2.2 e0;omega))⟩
 rw[aFS e0];by_cases e1:x.op=1\/x.op=2\/x.op=3\/x.op=4
 ·rw[aFW e1];exact⟨by simp only[];omega,by simp only[];omega,fo (put _ (by have:=(P2 x.op (aE f.an (aE x.args 0)) (aE f.an (aE x.args 1))).2;omega))⟩
 rw[aFS e1];by_cases e5:x.op=5
 ·rw[aFW e5];exact⟨by simp only[];omega,bg,fo (put _ (QV _))⟩
 rw[aFS e5];by_cases e6:x.op=6
 ·rw[aFW e6];split
  ·refine⟨bg,by simp only[];omega,fo (put _ ?_)⟩;rename_i rI;have h6:=h4.2.2.2.2.1 e6;obtain⟨q1,dd,q2,_⟩:=C.RK _ (fI (l:=f.aQ) (i:=x.bA -1) ab ab) rI.2;have:=ap q2;unfold ix at this;omega
  ·refine⟨?_,by simp only[];omega,fo (put _ ab)⟩;have:=Nx s.heap (dD s.heap) ⟨1,x.bh,cp f x.args⟩;simp only[];omega
 rw[aFS e6];by_cases tE:x.op=10
 ·rw[aFW tE];refine⟨?_,by simp only[];omega,fo (put _ ab)⟩;have:=Nx s.heap (dD s.heap) ⟨1,eD im+x.bh,cp f x.args⟩;simp only[];omega
 rw[aFS tE];by_cases Q9:x.op=14
 ·rw[aFW Q9];exact⟨by simp[nl];omega,by simp only[];omega,fo same⟩
 rw[aFS Q9];by_cases Pm:x.op=15
 ·rw[aFW Pm];refine⟨?_,by simp only[];omega,fo same⟩;have h1:=Qm (fR s.heap [aE f.an (aE x.args 0)]);rw[Ab _ _ _ (aFR _)]at h1;simp only[];omega
 rw[aFS Pm];by_cases SF:x.op=16\/x.op=17
 ·rw[aFW SF];split
  ·exact⟨bg,by simp only[];omega,fo same⟩
  ·refine⟨?_,by simp only[];omega,fo same⟩;have:=Nw s.heap (aE f.an (aE x.args 0));simp only[];omega
 rw[aFS SF];by_cases e18:x.op=18
 ·rw[aFW e18];exact⟨by simp only[];omega,by simp only[];omega,fo (put _ (QV _))⟩
 rw[aFS e18];by_cases QN:x.op=19
 ·rw[aFW QN];refine⟨by simp only[];omega,by simp only[];omega,fo (put _ ?_)⟩;obtain⟨iO,mK⟩:=hM.load QN;obtain⟨p,_,_,_,_,hI⟩:=C.I;have iX:=hI.op;unfold kj at iX;rw[aFS ab,aFS ab,aFS ab,aFS ab,aFS ab,aFS ab,aFS ab,aFW QN]at iX;obtain⟨hc,hp⟩:=bE iO;exact Zt (((C.ok.heap.cell _ (ak hc)).nM hp).1 _ (fI iX.2.1 mK))
 rw[aFS QN];by_cases Vu:x.op=20
 ·rw[aFW Vu];exact⟨by simp only[];omega,by simp only[];omega,fo same⟩
 rw[aFS Vu];by_cases VY:x.op=21
 ·rw[aFW VY];exact⟨by simp only[];omega,by simp only[];omega,fo same⟩
 rw[aFS VY];by_cases ZS:x.op=22
 ·rw[aFW ZS];exact⟨by simp only[];omega,by simp only[];omega,fo same⟩
 rw[aFS ZS];by_cases e9:x.op=9
 ·rw[aFW e9];exact⟨by simp only[];omega,by simp only[];omega,IC same (Zu _ _ _ wds)⟩
 rw[aFS e9];by_cases V0:x.op=24
 ·rw[aFW V0];exact⟨by simp only[];omega,by simp only[];omega,fo (Zu _ _ _ wds)⟩
 rw[aFS V0];by_cases O1:x.op=11
 ·rw[aFW O1];refine⟨?_,by simp only[];omega,IC same (Zu _ _ _ λw hw=>?_)⟩
  ·have:=Nw s.heap (aE f.an (aE x.args 0));simp only[];omega
  ·rcases List.mem_append.1 hw with hw|hw
   ·obtain⟨iO,_⟩:=hM.apply O1;obtain⟨hc,hp⟩:=bE iO;exact Zt (((C.ok.heap.cell _ (ak hc)).nM hp).1 _ hw)
   ·simp at hw;subst hw;exact QV _
 rw[aFS O1];split
 ·exact⟨by simp only[];omega,by simp only[];omega,az⟩
 ·rename_i pf uF;refine⟨by simp only[];omega,by simp only[];omega,λq hq=>?_⟩;have hpf:pf∈fs:=List.mem_of_getLast? uF;rcases List.mem_append.1 hq with hq|hq
  ·exact wc q ((List.dropLast_sublist fs).subset hq)
  ·simp at hq;subst hq;intro w hw;rcases qX hw with rfl|hw
   ·exact QV _
   ·exact wc pf hpf w hw
theorem aaC{im:bq}{s:St}(h:bR im s){n:Nat}(hS:Sm n s)(hn:n<=900000000):Sm (n+1) (qT im s):=by
 have LH:Sm (n+1) s:=⟨by have:=hS.heap;omega,by have:=hS.aT;omega,hS.zc⟩;by_cases hr:s.bT=3
 ·obtain⟨fs,f,hf⟩:=h.split hr;have hlf:s.ai.getLast?=some f:=by rw[hf];simp
  have kU:s.ai.dropLast=fs:=by rw[hf];simp
  have C:C1 im s fs f (dR im f):=⟨h,hr,hf,rfl,hS.zc⟩;unfold qT;rw[aFS (by simpa using hr),hlf,kU];simp only[];split
  ·exact⟨LH.heap,LH.aT,LH.zc⟩
  split
  ·rename_i hM;exact Se C hS hn _ hM
  ·exact⟨LH.heap,LH.aT,LH.zc⟩
 ·rw[vF hr];exact LH
theorem Lf{im:bq}:∀(k:Nat){s:St}{n:Nat},bR im s->Sm n s->n+k<=900000000->Sm (n+k) (ar im k s)
 |0,s,n,_,hS,_=>hS
 |k+1,s,n,h,hS,hn=>by
  have:=Lf k (Ts h) (aaC h hS ab) ab;rw[ar];have e:n+(k+1)=n+1+k:=ab;rw[e];exact this
theorem Qn(im:bq)(cV:Int):Sm 0 (jq im cV):=⟨by simp[jq],by simp[jq],λg hg w hw=>by
 simp[jq]at hg;subst hg;simp only[bF,aGp]at hw;rw[nZ hw];omega⟩
section
section
variable{m0:ah}{ro:Nat->Nat}{m:ah}{mb:Nat}{d p aT hp fr:Sl}{s:St}
theorem Qo{im:bq}(L:BE m0 ro m mb a9 (SB d p s aT hp fr) aT hp fr s.aT s.heap s.ai)(qD:dU m0 d p im)(lx:bR im s){n0:Nat}(hS:Sm n0 s)(many:Nat)(QA:many<=100000)(OS:n0<=500000000):
 aD Tryz.prog 43 [vp mb 0,vi many] m λv m'=>(∃n:Int,v=vi n)/\xe m0 ro m mb d p (ar im many s) m':=by
 apply uX (mb,0)
 refine⟨λi m'=>∃k:Nat,i=k/\k<=many/\xe m0 ro m mb d p (ar im k s) m',λi _=>((many:Int) -i).toNat,⟨0,rfl,aGq _,ro,aT,hp,fr,L,cJ.av _ L.new⟩,?_⟩
 rintro i m1 ⟨k,rfl,hk,ZU,amL,sX,fr1,L1,t1⟩
 have as7:=Kk k lx
 have lG:=Lf k lx hS ab
 refine⟨λh1=>?_,λh1=>?_⟩
 ·simp only[aFP]at h1
  refine⟨_,L1.box.bH 2,λh2=>?_,λh2=>?_⟩
  ·refine(OI L1 qD as7 lG.zc (by have:=lG.heap;omega) (by have:=lG.aT;omega)).mono ?_
   rintro _ m2 Vh
   have e:bS ((k:Int)+1)=((k+1:Nat):Int):=iG (n:=many) ab ab
   rw[e]
   refine⟨⟨k+1,rfl,ab,by rw[Kj];exact Vh.from t1⟩,?_⟩
   show((many:Int) -((k+1:Nat):Int)).toNat<((many:Int) -(k:Int)).toNat
   omega
  ·simp at h2
   have e:ar im many s=ar im k s:=by
    have h3:many=k+(many -k):=ab;have add:∀(a b:Nat)(s:St),ar im (a+b) s=ar im b (ar im a s):=by
     intro a;induction a with
     |zero=>intro b s;simp[ar]
     |succ a ih=>intro b s;rw[Nat.succ_add];simp only[ar];exact ih b _
    rw[h3,add,BA _ h2]
   rw[e]
   exact⟨⟨_,rfl⟩,ZU,amL,sX,fr1,L1,t1⟩
 ·simp only[aFQ]at h1
  have:k=many:=ab
  subst this
  exact⟨⟨_,rfl⟩,ZU,amL,sX,fr1,L1,t1⟩
end
theorem Dm{m:ah}{d p:Sl}{im:bq}(qD:dU m d p im)(lx:kN im)(cV:Int):
 aD Tryz.prog 42 [.agg #[Sl.v d,Sl.v p],vi cV] m λv m'=>∃aT hp fr,v=.agg #[vi 3,vi 0,vi 0,vi cV,Sl.v aT,Sl.v hp,Sl.v fr]/\af m m'/\∃b1 b2 b3 b4 k,aT.cap=0/\aT.len=0/\hp.cap=0/\hp.len=0/\fr=.mk b4 0 1 1/\
  rZ m m' b1 b2 b3 k (bF im 0 0 []).an (bF im 0 0 []).aL (bF im 0 0 []).aQ/\(b4≠b1/\b4≠b2/\b4≠b3/\m.size<=b4/\b4<m'.size)/\bK m' b4 dh [.i 0,.i 0,.i 0,.s (.mk b1 0 k k),.s (.mk b2 0 k k),.s (.mk b3 0 k k)]:=by
 apply wF
 simp -zeta only[aw,ax]
 intro m1 m2 m3 m4 m5 m6
 have h6:af m m6:=((((((af.av m).aC _).aC _).aC _).aC _).aC _).aC _
 have s1:m1.size=m.size+1:=by simp[m1]
 have s2:m2.size=m.size+2:=by simp[m2,s1]
 have s3:m3.size=m.size+3:=by simp[m3,s2]
 have s4:m4.size=m.size+4:=by simp[m4,s3]
 have s5:m5.size=m.size+5:=by simp[m5,s4]
 have s6:m6.size=m.size+6:=by simp[m6,s5]
 clear_value m6
 have hl:=lx.oQ.len
 obtain⟨q,hq⟩:=ae (l:=im.bJ) (k:=0) ab
 have DA:=(lx.cq q (ak hq)).an
 have xy:cP im 0=q:=by simp[cP,hq]
 have amM:∀b,aj m6 (.mk b 0 0 0) []:=λb=>⟨rfl,az,az,az⟩
 refine(we (qD.ext h6) (aGw 0) hq ab 0 (amM m4.size) (amM m5.size) bg rfl).mono ?_
 rintro _ m7 ⟨b1,b2,b3,rfl,N⟩
 have SR:=N.ext
 have Dz:=N.lo
 refine⟨SR.cg bg,_,_,_,_,_,_,rfl,?_⟩
 intro m8 m9
 have Zi:af m7 m8:=(af.av m7).aC _
 have s8:m8.size=m7.size+1:=by simp[m8]
 have s9:m9.size=m8.size:=aq _ _ _ _
 have hs7:=SR.size
 have k4:bK m8 m7.size dh [.i 0,.i 0,.i 0,.s (.mk b1 0 q.an.toNat q.an.toNat),.s (.mk b2 0 q.an.toNat q.an.toNat),.s (.mk b3 0 q.an.toNat q.an.toNat)]:=bK.push m7 _ _
 have N8:=N.afn Zi
 have Jw:af m m9:=(h6.trans (SR.trans Zi)).ag (show m.size<=m1.size by omega) _ _
 have ne:∀b,b≠m1.size->m9[b]? =m8[b]? :=λb hb=>aP _ _ _ _ hb
 have er:(bF im 0 0 []).an=[]++eF (q.an.toNat -([]:List Int).length):=by simp[bF,xy]
 have eo:(bF im 0 0 []).aL=[]++eF (q.an.toNat -([]:List Int).length):=by simp[bF,xy,fm]
 have eh:(bF im 0 0 []).aQ=eF q.an.toNat:=by simp[bF,xy]
 refine⟨_,_,_,rfl,Jw,b1,b2,b3,m7.size,q.an.toNat,rfl,rfl,rfl,rfl,rfl,?_,ab,k4.congr (ne _ ab)⟩
 rw[er,eo,eh]
 exact⟨Jw,ab,N8.kr.congr (ne _ ab),N8.ko.congr (ne _ ab),N8.kh.congr (ne _ ab),N.len⟩
theorem Xr{m m1 m2:ah}{e:Nat}{Pb:List Ce}{aT hp fr:Sl}{im:bq}{cV:Int}{b1 b2 b3 b4 k mb:Nat}(hc:aT.cap=0/\aT.len=0/\hp.cap=0/\hp.len=0/\fr=.mk b4 0 1 1)
 (N:rZ m m1 b1 b2 b3 k (bF im 0 0 []).an (bF im 0 0 []).aL (bF im 0 0 []).aQ)(FJ:b4≠b1/\b4≠b2/\b4≠b3/\m.size<=b4/\b4<m1.size)(k4:bK m1 b4 dh [.i 0,.i 0,.i 0,.s (.mk b1 0 k k),.s (.mk b2 0 k k),.s (.mk b3 0 k k)])
 (hx:af m1 m2)(hmb:m1.size<=mb)(kb:bK m2 mb e (Pb++[.i 3,.i 0,.i 0,.i cV,.s aT,.s hp,.s fr])):
 BE m (uG (uG (pM (λ_=>0) b1 b2 b3 0) b4 4) mb 1) m2 mb e (Pb++[.i 3,.i 0,.i 0,.i cV,.s aT,.s hp,.s fr]) aT hp fr [] [] [bF im 0 0 []]:=by
 have Dz:=N.lo
 have dA:af m m2:=N.ext.trans hx
 have aC9:=kb.lt
 have hs1:=N.ext.size
 have hro:∀b,b≠mb->b≠b4->(uG (uG (pM (λ_=>0) b1 b2 b3 0) b4 4) mb 1) b=pM (λ_=>0) b1 b2 b3 0 b:=λb h1 h2=>by rw[dO h1,dO h2]
 have N2:=N.afn hx
 obtain⟨a1,a2,a3⟩:=N2.rm (ro:=λ_=>0) (n:=0)
 have conv:∀{k':Nat}{s:Sl}{l:List Ce},fB (pM (λ_=>0) b1 b2 b3 0) m2 au 1 k' s l->s.ao≠mb->s.ao≠b4->fB (uG (uG (pM (λ_=>0) b1 b2 b3 0) b4 4) mb 1) m2 au 1 k' s l:=λa h1 h2=>a.eg (λ_=>rfl) (λ_=>hro _ h1 h2)
 refine⟨dA,λb hb=>?_,λb hb=>?_,kb,fU _ _ _,⟨by simp[hc.2.1],by rw[hc.1,hc.2.1];exact aFR _,Or.inl hc.1⟩,⟨[],⟨by simp[hc.2.2.2.1],by rw[hc.2.2.1,hc.2.2.2.1];exact aFR _,Or.inl hc.2.2.1⟩,eQ.nil _ _,Sep.nil⟩,?_⟩
 ·rw[hro b ab ab];unfold pM;rw[dO ab,dO ab,dO ab]
 ·rw[hro b (by have:=hx.size;omega) (by have:=hx.size;omega)];unfold pM;rw[dO (by have:=hx.size;omega),dO (by have:=hx.size;omega),dO (by have:=hx.size;omega)]
 ·refine ru.rH (fs:=[]) (f:=bF im 0 0 []) (r:=.mk b1 0 k k) (o:=.mk b2 0 k k) (h:=.mk b3 0 k k) (css:=[]) ⟨?_,rfl,az,az,conv a1 (by simp only[Sl.gN];omega) (by simp only[Sl.gN];omega),conv a2 (by simp only[Sl.gN];omega) (by simp only[Sl.gN];omega),conv a3 (by simp only[Sl.gN];omega) (by simp only[Sl.gN];omega)⟩
  rw[hc.2.2.2.2]
  refine⟨rfl,aFR _,Or.inr ⟨b4,1,[],rfl,?_,?_,rfl⟩⟩
  ·rw[dO ab,fU]
  ·rw[aGP];exact k4.ext hx
end
structure Exe where
 bT:Int
 value:Int
 be:Int
 aT:List Int
 ok:Bool
theorem Bh{m:ah}{s:Sl}{l:List Int}(hl:aj m s l)(xp:l.length<=1000000000):od 53 [Sl.v s] m l:=by
 apply qG;have ly:=hl.len;refine⟨λh=>?_,λh=>?_⟩
 ·cases s with
  |nil=>simp at ly;have:l=[]:=List.length_eq_zero_iff.1 ly.symm;subst this;exact⟨.nil,rfl,gQ.nil _ _ _ _,af.av _⟩
  |mk b o len cap=>simp at h
  |BV b o sp=>simp at h
 ·intro m1;have h1:af m m1:=(af.av m).aC _;have ho:gQ m m1 au 1 (.mk m.size 0 0 0) []:=gQ.new (af.av m) au 1 [] 0 az;refine gQ.append (zs:=[.i 0]) (new:=l.map Ce.i) ho h1 (by simp[ly]) (hl.ext h1).RI bg λr m' h1 h2 h3 h4 h5 h6=>⟨r,rfl,by simpa using h1,h2⟩
theorem nE{m:ah}{hp:Sl}{h:List aR}(hh:cy m hp h){w:Int}(hw:w<=9223372036854775807):
 aD Tryz.prog 52 [Sl.v hp,vi w] m λv m'=>∃(a:Int)(b:Bool),v=.tuple #[vi a,vb b]/\(b=true<->gJ h w)/\(b=true->a=ix w)/\af m m':=by
 apply DS
 have hl:=hh.len
 have zG:=hh.eP
 refine⟨λh1=>?_,λh1=>?_⟩
 ·simp at h1
  have e:bS (w -1000)=w -1000:=aF ab ab
  have Uo:(ix w:Int)=w -1000:=by unfold ix;omega
  rw[e]
  refine⟨λh2=>?_,λh2=>?_⟩
  ·simp at h2
   obtain⟨c,hc⟩:=ae (l:=h) (k:=(w -1000).toNat) ab
   obtain⟨f,hf,g0,_⟩:=hh.aE hc
   refine⟨ab,ab,c.aG,g0,_,_,rfl,?_,λ_=>Uo.symm,af.av _⟩
   simp only[aHn,aFP]
   refine⟨λhp=>⟨h1,c,hc,hp⟩,λ⟨_,c',uI,hp⟩=>?_⟩
   unfold ix at uI
   rw[hc]at uI;simp at uI;subst uI;exact hp
  ·simp at h2
   refine⟨_,_,rfl,⟨λh=>by simp at h,λ⟨_,c,hc,_⟩=>?_⟩,λh=>by simp at h,af.av _⟩
   have:=ap hc
   omega
 ·simp at h1
  exact⟨_,_,rfl,⟨λh=>by simp at h,λhl=>by have:=hl.1;omega⟩,λh=>by simp at h,af.av _⟩
end Go.Proofs.YtakpkjhmbbfniaaGreat
