/- Part of a proof, joined by a program. -/
import Derived.Test.YtakpkjhmbbfniaaGreatV16
import Derived.Test.YtakpkjhmbbfniaaGreatV17
set_option linter.unusedVariables false
set_option linter.unusedSimpArgs false
set_option linter.defProp false
set_option maxHeartbeats 8000000
set_option maxRecDepth 100000
namespace Go.Proofs.YtakpkjhmbbfniaaGreat
open Go.Vc
theorem oN(n:Int)(m:ah):cB Tryz.prog 21 [vi n] m (eT n):=by
 apply Ga;refine⟨λh=>ez ?_ (af.av _),λh=>bC (λhi=>?_) (af.av _)⟩
 ·simp at h;simp[eT,h]
 ·simp at h;have:=hi.1;omega
theorem Fg{m:ah}{hp:Sl}{h:List aR}(hh:cy m hp h){w:Int}(hw:Hk w):cB Tryz.prog 82 [Sl.v hp,vi w] m (nY h w):=by
 apply yh;refine(nE hh hw.2).mono ?_;rintro _ m1 ⟨a,b,rfl,hb,_,x1⟩;refine⟨a,b,rfl,λh1=>gP (Or.inr (hb.1 h1)) x1,λh1=>?_⟩;refine(oN w m1).then λb2 m2 lz x2=>⟨b2,rfl,ez ?_ (x1.trans x2)⟩;rw[lz];exact⟨Or.inl,λhh=>hh.resolve_right (fb hb h1)⟩
structure Ic(h:List aR)(c:aR):Prop where
 lo: -1<=c.aG
 jW:0<=c.jW/\c.jW<=99
 fl:c.aB.length<=3
 vC:c.aG<1->c.jW=0
 iv:c.aG=0->c.aB=[]
 cp:∀w∈c.aB,nY h w/\(c.aG<0->w=0)
theorem Ic.ok{h:List aR}{c:aR}(hv:Ic h c)(hi:c.aG<=999999):mj h c:=
 ⟨hv.fl,hv.lo,hi,λhd=>⟨hv.vC hd,λw hw=>by
  by_cases hn:c.aG<0
  ·exact(hv.cp w hw).2 hn
  ·rw[hv.iv ab]at hw;simp at hw,hv.iv⟩,λ_=>⟨λw hw=>(hv.cp w hw).1,hv.jW⟩⟩
theorem mj.v{h:List aR}{c:aR}(hc:mj h c):Ic h c:=by
 refine⟨hc.lo,?_,hc.fl,λhd=>(hc.vC hd).1,λh0=>(hc.vC ab).2.2 h0,λw hw=>⟨?_,λhn=>(hc.vC ab).2.1 w hw⟩⟩
 ·by_cases hp:0<c.aG
  ·exact(hc.nM hp).2
  ·have:=(hc.vC ab).1;omega
 ·by_cases hp:0<c.aG
  ·exact(hc.nM hp).1 w hw
  ·have:=(hc.vC ab).2.1 w hw;exact Or.inl (by subst this;exact⟨aO,aO⟩)
theorem Ic.cases{h:List aR}{c:aR}(hv:Ic h c){w:Int}(hw:w∈c.aB):gJ h w\/w<1000:=by
 rcases(hv.cp w hw).1 with h1|h1
 ·have:=h1.2;exact Or.inr ab
 ·exact Or.inl h1
theorem Fh{m:ah}{hp f:Sl}{h:List aR}{c:aR}(hh:cy m hp h)(hf:aj m f c.aB)(hw:∀w∈c.aB,Hk w):cB Tryz.prog 51 [Sl.v hp,.agg #[vi c.aG,vi c.jW,Sl.v f]] m (Ic h c):=by
 apply xV;simp -zeta only[aw,ax];intro m1;have x1:af m m1:=(af.av m).aC _;have s1:m1.size=m.size+1:=by simp[m1]
 clear_value m1;have gL:=hf.len;have hl:∀b∈[m.size],b<m1.size:=bg;refine⟨λh1=>bC (λhc=>by have:=hc.lo;simp at h1;omega) x1,λh1=>⟨λh2=>bC (λhc=>by have:=hc.jW;simp at h2;omega) x1,λh2=>⟨λh3=>bC (λhc=>by have:=hc.jW;simp at h3;omega) x1,λh3=>⟨λh4=>bC (λhc=>by have:=hc.fl;simp at h4;omega) x1,λh4=>?_⟩⟩⟩⟩;simp at h1 h2 h3 h4;refine⟨λM=>M=m1/\(c.aG<1->c.jW=0)/\(c.aG=0->c.aB=[]),?_,?_⟩
 ·have zero:(c.aG<1->c.jW=0)->((c.aG==(0:Int))=true->((decide ((f.len:Int)>(0:Int)))=true->∃b':Bool,vb false=.bool b'/\(b'=true<->Ic h c)/\af m m1)/\
   ((decide ((f.len:Int)>(0:Int)))=false->m1=m1/\(c.aG<1->c.jW=0)/\(c.aG=0->c.aB=[])))/\((c.aG==(0:Int))=false->m1=m1/\(c.aG<1->c.jW=0)/\(c.aG=0->c.aB=[])):=λht=>
   ⟨λh5=>⟨λh6=>bC (λhc=>by have:=hc.iv (by simpa using h5);rw[this]at gL;simp at h6 gL;omega) x1,λh6=>⟨rfl,ht,λ_=>List.length_eq_zero_iff.1 (by simp at h6;omega)⟩⟩,λh5=>⟨rfl,ht,λh6=>by simp at h5;exact absurd h6 h5⟩⟩
  refine⟨λh5=>⟨λh6=>bC (λhc=>by have:=hc.vC (by simpa using h5);simp at h6;exact h6 this) x1,λh6=>zero λ_=>by simpa using h6⟩,λh5=>zero λh6=>by simp at h5;omega⟩
 ·rintro m2 ⟨rfl,hd,h0⟩;refine dg (n:=c.aB.length) ab (λk m'=>af m2 m'/\∀w∈c.aB.take k,nY h w/\(c.aG<0->w=0)) ⟨af.av _,az⟩ ?_;rintro k m3 I μ hk ⟨x3,hq⟩ next
  refine⟨λh5=>?_,λh5=>?_⟩
  ·simp only[aFP]at h5;obtain⟨w,QT⟩:=ae (l:=c.aB) (k:=k) ab;refine⟨ab,ab,w,by simpa using(hf.ext (x1.trans x3)).aE QT,(Fg (cy.ext (x1.trans x3) hh) (hw w (ak QT))).ay x3 hl λb4 m4 xt x4 eU=>⟨b4,rfl,λh6=>bC (λhc=>nb xt h6 (hc.cp w (ak QT)).1) (x1.trans eU),λh6=>⟨λh7=>⟨λh8=>bC (λhc=>?_) (x1.trans eU),λh8=>?_⟩,λh7=>?_⟩⟩⟩
   ·have:=(hc.cp w (ak QT)).2 (by simpa using h7);simp at h8;exact h8 this
   ·exact next ab m4 ⟨eU,aZ QT hq ⟨yb xt h6,λ_=>by simpa using h8⟩⟩
   ·exact next ab m4 ⟨eU,aZ QT hq ⟨yb xt h6,λh8=>by simp at h7;omega⟩⟩
  ·simp only[aFQ]at h5;exact gP ⟨h1,⟨h2,h3⟩,ab,hd,h0,bM ab hq⟩ (x1.trans x3)
def eI(mk:Nat->Bool):Nat->List aR->Nat->Int
 |_,[],_=>0
 |i,c::h,a=>(if mk i=true then 0 else cX c.aB a)+eI mk (i+1) h a
theorem Dn:∀(i:Nat)(h:List aR)(a:Nat),eI (λ_=>false) i h a=cL h a
 |_,[],_=>rfl
 |i,c::h,a=>by simp[eI,cL,Dn (i+1) h a]
theorem Fi(mk:Nat->Bool):∀(i:Nat)(h:List aR)(a:Nat),0<=eI mk i h a
 |_,[],_=>aGw 0
 |i,c::h,a=>by have:=Fi mk (i+1) h a;have:=fp c.aB a;simp only[eI];split<;>omega
theorem Qp(mk:Nat->Bool):∀(i:Nat)(h:List aR)(a:Nat),eI mk i h a<=cL h a
 |_,[],_=>aGw 0
 |i,c::h,a=>by have:=Qp mk (i+1) h a;have:=fp c.aB a;simp only[eI,cL];split<;>omega
theorem Ie{mk mk':Nat->Bool}:∀{i:Nat}{h:List aR}{a:Nat},(∀j,i<=j->mk j=mk' j)->eI mk i h a=eI mk' i h a
 |_,[],_,_=>rfl
 |i,c::h,a,hj=>by simp only[eI];rw[hj i (aFR _),Ie λj h1=>hj j ab]
theorem Ny{mk:Nat->Bool}:∀{i:Nat}{h:List aR}{k:Nat}{c:aR},h[k]? =some c->mk (i+k)=false->∀a,eI (jX mk (i+k)) i h a=eI mk i h a -cX c.aB a
 |_,[],_,_,h,_,_=>by simp at h
 |i,d::h,0,c,hc,hm,a=>by
  simp at hc;subst hc;have e:=Ie (mk:=jX mk i) (mk':=mk) (i:=i+1) (h:=h) (a:=a) λj hj=>nD ab;rw[aGX]at hm⊢;simp only[eI,zZ,hm,e];simp;omega
 |i,d::h,k+1,c,hc,hm,a=>by
  have e:i+(k+1)=i+1+k:=ab;have:=Ny (mk:=mk) (i:=i+1) (h:=h) (k:=k) (c:=c) (by simpa using hc) (by rw[<-e];exact hm) a;simp only[eI];rw[e,this,nD ab];omega
theorem Qq{mk:Nat->Bool}:∀{i:Nat}{h:List aR}{k:Nat}{c:aR},h[k]? =some c->mk (i+k)=false->∀a,cX c.aB a<=eI mk i h a
 |_,[],_,_,h,_,_=>by simp at h
 |i,d::h,0,c,hc,hm,a=>by
  simp at hc;subst hc;have:=Fi mk (i+1) h a;simp only[aGX]at hm;simp only[eI,hm];simp;omega
 |i,d::h,k+1,c,hc,hm,a=>by
  have:=Qq (mk:=mk) (i:=i+1) (h:=h) (k:=k) (c:=c) (by simpa using hc) (by rw[<-hm];congr 1;omega) a;have:=fp d.aB a;simp only[eI];split<;>omega
theorem Nz{mk:Nat->Bool}:∀{i:Nat}{h:List aR}{a:Nat},0<eI mk i h a->∃(k:Nat)(c:aR),h[k]? =some c/\mk (i+k)=false/\(1000+(a:Int))∈c.aB
 |_,[],_,h=>by simp[eI]at h
 |i,d::h,a,hp=>by
  simp only[eI]at hp;by_cases hq:mk i=false/\0<cX d.aB a
  ·exact⟨0,d,rfl,hq.1,Ov hq.2⟩
  ·have:0<eI mk (i+1) h a:=by
    have:=fp d.aB a;split at hp
    ·omega
    ·rename_i hm;have:¬0<cX d.aB a:=λh2=>hq ⟨by simpa using hm,h2⟩;omega
   obtain⟨k,c,h1,h2,h3⟩:=Nz this;exact⟨k+1,c,by simpa using h1,by rw[<-h2];congr 1;omega,h3⟩
def Xs(h:List aR)(mk:Nat->Bool):Prop:=
 ∃t:Nat->Nat,(∀j,mk j=true->t j<=jO mk h.length)/\∀(i:Nat)(c:aR),h[i]? =some c->∀w∈c.aB,1000<=w->mk (ix w)=true->mk i=true/\t i<t (ix w)
theorem Xs.set{h:List aR}{mk:Nat->Bool}(hm:Xs h mk){a:Nat}(cA:a<h.length)(ha:mk a=false)(h0:eI mk 0 h a=0):Xs h (jX mk a):=by
 obtain⟨t,h1,h2⟩:=hm;have e:=zq ha cA;have hrf:∀(i:Nat)(c:aR),h[i]? =some c->(1000+(a:Int))∈c.aB->mk i=true:=λi c hc hw=>by
  cases hi:mk i
  ·have g1:=Qq (mk:=mk) (i:=0) hc (by rw[aGa];exact hi) a;have g2:=sL hw;omega
  ·rfl
 refine⟨λx=>if x=a then jO mk h.length+1 else t x,λj hj=>?_,λi c hc w hw hp hmk=>?_⟩
 ·simp only[e];split
  ·omega
  ·rename_i hja;rw[nD hja]at hj;have:=h1 j hj;omega
 ·by_cases hwa:ix w=a
  ·have hi:=hrf i c hc (by rw[<-hwa,fD hp];exact hw);have cx:i≠a:=λe2=>by rw[e2,ha]at hi;cases hi
   simp only[aFW hwa,aFS cx];exact⟨Aa hi,by have:=h1 i hi;omega⟩
  ·rw[nD hwa]at hmk;obtain⟨q1,q2⟩:=h2 i c hc w hw hp hmk;have cx:i≠a:=λe2=>by rw[e2,ha]at q1;cases q1
   simp only[aFS hwa,aFS cx];exact⟨Aa q1,q2⟩
theorem Qr(f:Nat->Nat):∀n,∃B,∀i,i<n->f i<=B
 |0=>⟨0,λi hi=>absurd hi (aGB _)⟩
 |n+1=>by
  obtain⟨B,hB⟩:=Qr f n;refine⟨B+f n,λi hi=>?_⟩;rcases aF1 i n with h|h
  ·have:=hB i h;omega
  ·have:i=n:=ab;subst this;omega
theorem aaD{h:List aR}{mk:Nat->Bool}(hm:Xs h mk)(iO:∀c∈h,∀w∈c.aB,1000<=w->ix w<h.length)(ag7:∀a,a<h.length->eI mk 0 h a=0->mk a=true):
 jO mk h.length=h.length<->WN h:=by
 rw[KZ]
 constructor
 ·intro gZ
  obtain⟨t,h1,h2⟩:=hm
  refine⟨λx=>h.length -t x,λi c hc w hw hp=>?_⟩
  have Pq:=iO c (ak hc) w hw hp
  have:=(h2 i c hc w hw hp (gZ _ Pq)).2
  have:=h1 _ (gZ _ Pq)
  have:=EX mk h.length
  show h.length -t (ix w)<h.length -t i
  omega
 ·rintro⟨rG,hr⟩
  obtain⟨B,hB⟩:=Qr rG h.length
  have key:∀(n i:Nat),B -rG i<n->i<h.length->mk i=true:=by
   intro n;induction n with
   |zero=>intro i hi;omega
   |succ n ih=>
    intro i hi cA;refine ag7 i cA (Int.le_antisymm (Int.not_lt.1 λhp=>?_) (Fi _ _ _ _));obtain⟨k,c,h1,h2,h3⟩:=Nz hp;rw[aGa]at h2;have:=hr k c h1 _ h3 ab;rw[jg]at this;have hk:=ap h1;have:=hB k hk;rw[ih k ab hk]at h2;cases h2
  exactλi hi=>key (B -rG i+1) i ab hi
structure Hp(h:List aR)(mk:Nat->Bool)(W:List Nat)(lf:Nat->Int):Prop where
 Lg:W.Nodup
 un:∀a∈W,a<h.length/\mk a=false
 zero:∀a,a<h.length->(lf a=0<->(mk a=true\/a∈W))
theorem Fj:∀(n:Nat)(W:List Nat),W.Nodup->(∀a∈W,a<n)->W.length<=n
 |0,[],_,_=>aFR _
 |0,a::_,_,h=>absurd (h a az) (aGB _)
 |n+1,W,hd,h=>by
  by_cases hn:n∈W
  ·have h1:=Fj n (W.erase n) (hd.erase n) λa ha=>by
    have:=hd.mem_erase_iff.1 ha;have:=h a this.2;omega
   rw[List.length_erase_of_mem hn]at h1;omega
  ·have:=Fj n W hd λa ha=>by
    have:=h a ha;have:a≠n:=λe=>hn (e▸ha);omega
   omega
theorem Hp.len{h:List aR}{mk:Nat->Bool}{W:List Nat}{lf:Nat->Int}(K:Hp h mk W lf):W.length<=h.length:=Fj _ _ K.Lg λa ha=>(K.un a ha).1
theorem Hp.pop{h:List aR}{mk:Nat->Bool}{W:List Nat}{a:Nat}{lf:Nat->Int}(K:Hp h mk (W++[a]) lf):Hp h (jX mk a) W lf:=by
 obtain⟨d1,d2,d3⟩:=List.nodup_append.1 K.Lg;refine⟨d1,λx hx=>?_,λx hx=>?_⟩
 ·have h1:=K.un x (aF7 _ hx);refine⟨h1.1,?_⟩;rw[nD λe=>d3 x hx a az e];exact h1.2
 ·rw[K.zero x hx];by_cases e:x=a
  ·subst e;simp[zZ]
  ·rw[nD e];simp[e]
theorem Hp.qT{h:List aR}{mk:Nat->Bool}{W:List Nat}{lf lf':Nat->Int}(K:Hp h mk W lf){a:Nat}(ha:a<h.length)(he:∀x,lf' x=if x=a then lf x -1 else lf x)(hp:0<lf a):
 (lf' a=0->Hp h mk (W++[a]) lf')/\(lf' a≠0->Hp h mk W lf'):=by
 have hna:mk a≠true/\a∉W:=by
  have:=(K.zero a ha).2;constructor
  ·intro h1;have:=this (Or.inl h1);omega
  ·intro h1;have:=this (Or.inr h1);omega
 refine⟨λh0=>⟨?_,λx hx=>?_,λx hx=>?_⟩,λh0=>⟨K.Lg,K.un,λx hx=>?_⟩⟩
 ·rw[List.nodup_append]
  refine⟨K.Lg,az,λx hx y hy e=>?_⟩
  simp at hy;subst hy;subst e;exact hna.2 hx
 ·rcases List.mem_append.1 hx with hx|hx
  ·exact K.un x hx
  ·simp at hx;subst hx;exact⟨ha,by simpa using hna.1⟩
 ·by_cases e:x=a
  ·subst e;simp[h0]
  ·rw[he x,aFS e,K.zero x hx];simp[e]
 ·by_cases e:x=a
  ·subst e
   constructor
   ·intro h1;exact absurd h1 h0
   ·rintro(h1|h1)
    ·exact absurd h1 hna.1
    ·exact absurd h1 hna.2
  ·rw[he x,aFS e,K.zero x hx]
def cst(W:List Nat):List Int:=W.map λ(a:Nat)=>(a:Int)
theorem Jt(W:List Nat):(cst W).length=W.length:=by simp[cst]
theorem Lh(W:List Nat)(a:Nat):cst (W++[a])=cst W++[(a:Int)]:=by simp[cst]
theorem acD{ro:Nat->Nat}{m:ah}{k n:Nat}{s:Sl}{f:Nat->Int}(h:fB ro m au 1 k s ((qA n f).map Ce.i))(hn:n<=9223372036854775807){a:Nat}(ha:a<n):ad m s.ao (s.off+Int.toNat (a:Int)*1)=some (vi (f a)):=by
 have:=(h.oX (by rw[lL];exact hn)).aE (sT (f:=f) ha);simpa using this
theorem Xt{ro:Nat->Nat}{m:ah}{k n:Nat}{s:Sl}{f:Nat->Int}(h:fB ro m au 1 k s ((qA n f).map Ce.i)):s.len=n:=by have:=h.len;simp[lL]at this;omega
theorem afo{ro:Nat->Nat}{m:ah}{k n:Nat}{s:Sl}{f g:Nat->Int}(h:fB ro m au 1 k s ((qA n f).map Ce.i)){a:Nat}(ha:a<n){v:Int}(hg:∀b,b<n->g b=if b=a then v else f b)(zw:∀b,m.size<=b->ro b=0):
 dW m s.ao (s.off+Int.toNat (a:Int)*1) 1/\fB ro (ag m s.ao (s.off+Int.toNat (a:Int)*1) [.i v]) au 1 k s ((qA n g).map Ce.i)/\cJ (λj=>j=k) ro m ro (ag m s.ao (s.off+Int.toNat (a:Int)*1) [.i v]):=by
 have h0:(0:Int)<=(a:Int):=ab
 have h1:(a:Int)<((qA n f).length:Nat):=by rw[lL];omega
 have h2:=h.fx h0 h1 v
 have e:fx (qA n f) (a:Int) v=qA n g:=by
  unfold fx;rw[show Int.toNat (a:Int)=a by omega,TL];exact dy λb hb=>(hg b hb).symm
 rw[e]at h2
 have hl:=Xt h
 have hle:=h.le
 exact⟨h.VK h0 h1,h2,cJ.ag zw (h.ao ab).2 _ _⟩
def ajH(m:ah)(h:List aR)(v:Value)(m':ah):Prop:=∃(s:Sl)(b:Bool),v=.tuple #[Sl.v s,vb b]/\(b=true<->OB h)/\
 (b=true->∃bb,s=.mk bb 0 h.length h.length/\m.size<=bb/\bK m' bb au ((qA h.length (cL h)).map Ce.i))/\af m m'
theorem Bi{m:ah}{hp:Sl}{h:List aR}(hh:cy m hp h)(dp:UY h)(xp:h.length<=1000000000):aD Tryz.prog 22 [Sl.v hp] m (ajH m h):=by
 apply uS;simp -zeta only[aw,ax];have hl:=hh.len;have en:Int.toNat (hp.len:Int)=h.length:=ab;rw[en];refine⟨ab,ab,ab,ab,?_⟩;intro m1;have x1:af m m1:=(af.av m).aC _;have B1:bK m1 m.size au ((qA h.length (λ_=>0)).map Ce.i):=KX m _;clear_value m1;have no:∀{M:ah},af m M->¬OB h->ajH m h (.tuple #[Sl.v Sl.nil,vb false]) M:=λhx hn=>⟨.nil,false,rfl,by simp[hn],az,hx⟩;have Uw:∀n:Nat,Int.toNat (n:Int)=n:=λn=>ab;simp -zeta only[Sl.eO,Sl.gN,Sl.lQ,aGa];refine dg (n:=h.length) ab (λi m'=>af m m'/\bK m' m.size au ((qA h.length (λa=>cL (h.take i) a)).map Ce.i)/\∀c∈h.take i,Ic h c) ⟨x1,by simpa[cL]using B1,az⟩ ?_;rintro i m2 I μ hi ⟨x2,B2,JA⟩ next
 have lt2:=B2.lt;have h3:∀c∈h.take i,c.aB.length<=3:=λc hm=>(JA c hm).fl;refine⟨λh1=>?_,λh1=>?_⟩
 ·simp only[aFP]at h1;obtain⟨c,hci⟩:=ae (l:=h) (k:=i) ab;have VZ:=ak hci;obtain⟨f,hf,g0,g1,g2⟩:=(cy.ext x2 hh).aE hci;rw[Uw];refine⟨ab,ab,c.aG,g0,c.jW,g1,f,g2,?_⟩;intro m3 m4;have x4:af m2 m4:=((af.av m2).aC _).ag (aFR _) _ _;have s4:m4.size=m2.size+1:=by simp[m4,m3,aq]
  clear_value m4;refine(Fh (cy.ext (x2.trans x4) hh) (hf.ext x4) (dp c VZ)).ay (af.av _) bg λb m5 hb x5 _=>⟨b,rfl,λh2=>no ((x2.trans x4).trans x5) λhk=>nb hb h2 (hk.cells c VZ).v,λh2=>?_⟩;have hcv:=yb hb h2;have pt:=hcv.fl;have z5:=x5.size;have B5:=B2.ext (x4.trans x5);have f5:=hf.ext (x4.trans x5);have X5:=(x2.trans x4).trans x5;have aw7:=hf.len;refine dg (n:=c.aB.length) ab (λk m'=>af m m'/\m2.size<m'.size/\aj m' f c.aB/\bK m' m.size au ((qA h.length (λa=>cL (h.take i) a+cX (c.aB.take k) a)).map Ce.i)) ⟨X5,ab,f5,by simpa[cX]using B5⟩ ?_;rintro k m6 J ν hk ⟨x6,z6,f6,B6⟩ Lv;refine⟨λh4=>?_,λh4=>?_⟩
  ·simp only[aFP]at h4;obtain⟨w,hw⟩:=ae (l:=c.aB) (k:=k) ab;have Rf:=ak hw;have h64:=dp c VZ w Rf;refine⟨ab,ab,w,by simpa using f6.aE hw,(nE (cy.ext x6 hh) h64.2).mono ?_⟩;rintro _ m7 ⟨a,b7,rfl,ZZ,ha7,x7⟩;have z7:=x7.size;refine⟨x7.cg bg,a,b7,rfl,λh5=>?_,λh5=>?_⟩
   ·have iO:=ZZ.1 h5;have cA:=ap (bE iO).1;have e1:=ha7 h5;subst e1;have B7:=B6.ext x7;have q1:=zY (h.take i) (ix w) h3;have q2:=iS (c.aB.take k) (ix w);have q3:=oH (h.take i) (ix w);have q4:=fp (c.aB.take k) (ix w);have q5:(h.take i).length<=h.length:=bg;have q6:(c.aB.take k).length<=3:=bg;rw[Uw,aGr];refine⟨ab,ab,_,rB B7 cA,ab,ab,Nr B7 cA,?_⟩;rw[show bS (cL (h.take i) (ix w)+cX (c.aB.take k) (ix w)+1)=cL (h.take i) (ix w)+cX (c.aB.take k) (ix w)+1 from aF ab ab];have B8:=Hl B7 (ix w) (cL (h.take i) (ix w)+cX (c.aB.take k) (ix w)+1);rw[dy (g:=λa=>cL (h.take i) a+cX (c.aB.take (k+1)) a)]at B8
    ·refine⟨λb hb=>aP _ _ _ _ (by simp at hb;omega),Lv ab _ ⟨(x6.trans x7).ag (aFR _) _ _,by rw[aq];omega,?_,B8⟩⟩;obtain⟨f0,ZC,_,_,w2⟩:=hh.aE hci;have er:f0=f:=by have:=x2.ad w2;rw[g2]at this;exact(Sl.HN.1 (aHv this)).symm
     subst er;exact ZC.ext ((x6.trans x7).ag (aFR _) _ _)
    ·intro b hb;rw[pd hw];by_cases e:b=ix w
     ·subst e;rw[aFW rfl,aFW (fD iO.1).symm];omega
     ·rw[aFS e,aFS (λPq=>e (by rw[Pq,jg]))];omega
   ·refine Lv ab m7 ⟨x6.trans x7,ab,f6.ext x7,?_⟩;have LO:w<1000:=(hcv.cases Rf).resolve_left (fb ZZ h5);rw[dy (g:=λa=>cL (h.take i) a+cX (c.aB.take k) a)]
    ·exact B6.ext x7
    ·intro b hb;rw[pd hw,aFS ab];omega
  ·simp only[aFQ]at h4;have ee:c.aB.take k=c.aB:=bL ab;rw[ee]at B6;refine next ab m6 ⟨x6,?_,aZ hci JA hcv⟩
   rw[dy (g:=λa=>cL (h.take i) a+cX c.aB a)]
   ·exact B6
   ·intro b hb;exact Ns hci b
 simp only[aFQ]at h1;have ei:h.take i=h:=bL ab;rw[ei]at B2 JA h3;clear next
 have aeS:∀c∈h,∀w∈c.aB,gJ h w\/w<1000:=λc hc w hw=>(JA c hc).cases hw;have iO:∀c∈h,∀w∈c.aB,1000<=w->ix w<h.length:=λc hm w hw hp=>by
  rcases aeS c hm w hw with h1|h1
  ·exact ap (bE h1).1
  ·omega
 refine⟨λM=>m2=M/\lK h,⟨λh2=>?_,λh2=>⟨rfl,λc hc=>?_⟩⟩,?_⟩
 ·simp at h2;rw[aF ab ab];obtain⟨c,hc⟩:=ae (l:=h) (k:=h.length -1) ab;obtain⟨f,hf,g1,_,_⟩:=(cy.ext x2 hh).aE hc;have e:Int.toNat ((hp.len:Int) -1)=h.length -1:=ab;rw[e];refine⟨ab,ab,c.aG,g1,λh3=>no x2 λhk=>?_,λh3=>⟨rfl,λd hd=>?_⟩⟩
  ·exact hk.fE c hc (by simpa using h3)
  ·rw[hc]at hd;simp at hd;subst hd;simpa using h3
 ·have:=ap hc;simp at h2;omega
 rintro _ ⟨rfl,htr⟩;refine(Bh (OF B2 ab) (by rw[lL];exact xp)).mono ?_;rintro _ m3 ⟨r,rfl,or,x3⟩;have z3:=x3.size;have B3:=B2.ext x3;have X3:=x2.trans x3;have zx2:=x2.size;obtain⟨pX,abB⟩:∃pX:Nat->Nat,pX=λb=>if r.DF=false/\b=r.ao then 2 else if b=m.size then 1 else 0:=⟨_,rfl⟩
 have dx:r.DF=false->m2.size<=r.ao/\r.ao<m3.size:=λhn=>by
  have cx:r≠.nil:=λe=>by rw[e]at hn;simp at hn
  exact⟨or.ao.resolve_left cx,or.lt.resolve_left cx⟩
 have ahe:∀b,b≠m.size->(r.DF=false->b≠r.ao)->pX b=0:=λb h4 h5=>by
  rw[abB];exact(aFS λhh=>h5 hh.1 hh.2).trans (aFS h4)
 have as8:pX m.size=1:=by
  rw[abB];exact(aFS λhh=>by have:=dx hh.1;omega).trans (aFW rfl)
 have as9:∀b,m3.size<=b->pX b=0:=λb hb=>ahe b ab λhn=>by have:=dx hn;omega
 have amN:∀b,b<m.size->pX b=0:=λb hb=>ahe b ab λhn=>by have:=dx hn;omega
 have A3:fB pX m3 au 1 2 r ((qA h.length (cL h)).map Ce.i):=fB.fQ or λcx=>by
  rw[abB];refine aFW ⟨?_,rfl⟩;cases r with
  |nil=>exact absurd rfl cx
  |_=>rfl
 have nL:=Xt A3;clear dx ahe abB;have toT:∀{ro bG:Nat->Nat}{M M':ah},cJ (λk=>k=2\/k=6) ro M bG M'->To ro M bG M':=λhc=>hc.mono λk hk=>ab;have SX:∀{ro:Nat->Nat}{M:ah},cJ (λk=>k=2\/k=6) pX m3 ro M->af m M:=λhc=>((toT hc).bN X3 amN).1;have refsOf:∀{ro:Nat->Nat}{M:ah},cJ (λk=>k=2\/k=6) pX m3 ro M->bK M m.size au ((qA h.length (cL h)).map Ce.i):=λhc=>B3.congr (hc.eg _ B3.lt (by rw[as8];decide));have ata:fB pX m3 au 1 6 .nil (([]:List Int).map Ce.i):=⟨az,az,Or.inl rfl⟩;refine⟨r,rfl,cN (σ:=Sl) (n:=h.length) ab (λk LI M=>∃ro W,cJ (λk=>k=2\/k=6) pX m3 ro M/\fB ro M au 1 2 r ((qA h.length (cL h)).map Ce.i)/\fB ro M au 1 6 LI ((cst W).map Ce.i)/\W.Nodup/\(∀a∈W,a<k)/\(∀a,a<k->(cL h a=0<->a∈W))/\
  ∀(a:Nat)(c:aR),a<k->h[a]? =some c->0<c.aG->cL h a<=c.aG/\c.aG<=999999) ⟨pX,[],cJ.av _ as9,A3,ata,az,az,az,az⟩ ?_⟩
 rintro k LI m4 I2 μ2 hk ⟨JC,W,C4,A4,W4,hnd,uB,hwz,abC⟩ next
 have X4:=SX C4;refine⟨λh4=>?_,λh4=>?_⟩
 ·simp only[aFP]at h4;have jk:k<h.length:=ab;obtain⟨c,BT⟩:=ae jk;obtain⟨f,hf,g0,g1,g2⟩:=(cy.ext X4 hh).aE BT;rw[Uw];refine⟨ab,ab,c.aG,g0,c.jW,g1,f,g2,?_⟩;intro m5 m6;have x6:af m4 m6:=((af.av m4).aC _).ag (aFR _) _ _;have s6:m6.size=m4.size+1:=by simp[m6,m5,aq]
  clear_value m6;have C6':cJ (λk=>k=2\/k=6) JC m4 JC m6:=cJ.dS _ x6 C4.new;have C6:=C4.trans C6';have F6:cJ (λ_=>False) JC m4 JC m6:=cJ.dS _ x6 C4.new;have A6:=A4.dT F6 id;have W6:=W4.dT F6 id;have g6:=rB (refsOf C6) jk;have dY:(0<c.aG->cL h k<=c.aG/\c.aG<=999999)->∀(a:Nat)(c:aR),a<k+1->h[a]? =some c->0<c.aG->cL h a<=c.aG/\c.aG<=999999:=λhn a d ha hd=>by
   rcases aF1 a k with h6|h6
   ·exact abC a d h6 hd
   ·have:a=k:=ab;subst this;rw[BT]at hd;simp at hd;subst hd;exact hn
  have iE:(0<c.aG->cL h k<=c.aG/\c.aG<=999999)->((0:Int)<=k/\(k:Int)<(h.length:Int)/\∃v98:Int,ad m6 m.size (k*1)=some (vi v98)/\
   ((v98==(0:Int))=true->let ND:ah:=m6.push (.cells (aU [.i (k:Int)]) 3)
    gA ND 3 [.i (0:Int)] 8 LI (Sl.mk m6.size 0 1 1) λQE NE=>da [m4.size] ND NE/\I2 QE (bS ((k:Int)+(1:Int))) NE/\μ2 QE (bS ((k:Int)+(1:Int))) NE<μ2 LI k m4)/\
   ((v98==(0:Int))=false->I2 LI (bS ((k:Int)+(1:Int))) m6/\μ2 LI (bS ((k:Int)+(1:Int))) m6<μ2 LI k m4)):=λhn=>by
   refine⟨ab,ab,_,by rw[aGr];exact g6,λh7=>?_,λh7=>?_⟩
   ·intro m7
    have x7:af m6 m7:=(af.av m6).aC _
    have k7:bK m7 m6.size 3 [.i (k:Int)]:=bK.push m6 _ _
    have s7:m7.size=m6.size+1:=by simp[m7]
    have F7:cJ (λ_=>False) JC m6 JC m7:=cJ.dS _ x7 C6.new
    have C7:cJ (λk=>k=2\/k=6) pX m3 JC m7:=C6.trans (cJ.dS _ x7 C6.new)
    have hWl:=W6.len
    simp[Jt]at hWl
    have hW2:W.length<=h.length:=Fj _ _ hnd λa ha=>by have:=uB a ha;omega
    refine fB.append (zs:=[.i 0]) (new:=[.i (k:Int)]) (W6.dT F7 id) C7.new az k7.iu (by simp only[Sl.eO];omega) λO6 q m8 a8 c8=>⟨?_,?_⟩
    ·exact(toT (c8.mono λj hj=>Or.inr hj)).cg (by simp;exact⟨ab,C4.new _ (aFR _)⟩)
    ·refine next ab _ _ ⟨O6,W++[k],C7.trans (c8.mono λj hj=>Or.inr hj),(A6.dT F7 id).dT c8 aO,by rw[Lh];simpa using a8,?_,λa ha=>?_,λa ha=>?_,dY hn⟩
     ·rw[List.nodup_append]
      refine⟨hnd,az,λx hx y hy e=>?_⟩
      simp at hy;subst hy;subst e;have:=uB _ hx;omega
     ·rcases List.mem_append.1 ha with ha|ha
      ·have:=uB a ha;omega
      ·simp at ha;omega
     ·rcases aF1 a k with h8|h8
      ·rw[hwz a h8];simp;omega
      ·have:a=k:=ab
       subst this
       simp at h7;simp[h7]
   ·refine next ab _ _ ⟨JC,W,C6,A6,W6,hnd,λa ha=>by have:=uB a ha;omega,λa ha=>?_,dY hn⟩
    rcases aF1 a k with h8|h8
    ·exact hwz a h8
    ·have:a=k:=ab
     subst this
     simp at h7
     simp only[h7,false_iff]
     intro hm;have:=uB _ hm;omega
  refine⟨λh5=>⟨ab,ab,_,by rw[aGr];exact g6,λh6=>no (X4.trans x6) λhk=>?_,λh6=>⟨λh7=>no (X4.trans x6) λhk=>?_,λh7=>iE λ_=>by simp at h6 h7;omega⟩⟩,λh5=>iE λh6=>by simp at h5;omega⟩
  ·have:=hk.cL k c BT (by simpa using h5);simp at h6;omega
  ·have:=(hk.cells c (ak BT)).hi;simp at h7;omega
 simp only[aFQ]at h4;have TW:k=h.length:=ab;subst TW;clear next h4
 have Ds:∀c∈h,mj h c:=λc hc=>by
  obtain⟨a,ha⟩:=List.mem_iff_getElem?.1 hc;refine(JA c hc).ok ?_;rcases aHQ 0 c.aG with hp|hp
  ·exact(abC a c (ap ha) ha hp).2
  ·omega
 have hrefs:∀(a:Nat)(c:aR),h[a]? =some c->0<c.aG->cL h a<=c.aG:=λa c ha hp=>(abC a c (ap ha) ha hp).1;have zG:∀mk a,eI mk 0 h a<=3*h.length:=λmk a=>by
  have:=Qp mk 0 h a;have:=zY h a λc hm=>(JA c hm).fl;omega
 have K0:Hp h (λ_=>false) W (eI (λ_=>false) 0 h):=⟨hnd,λa ha=>⟨uB a ha,rfl⟩,λa ha=>by rw[Dn,hwz a ha];simp⟩;have c0:jO (λ_=>false) h.length=0:=by
  generalize h.length=n;induction n with
  |zero=>rfl
  |succ n ih=>simp[jO,ih]
 refine Tv (γ:=(Nat->Bool)×List Nat) (λg LI many M=>∃ro,many=(jO g.1 h.length:Nat)/\cJ (λk=>k=2\/k=6) pX m3 ro M/\fB ro M au 1 2 r ((qA h.length (eI g.1 0 h)).map Ce.i)/\fB ro M au 1 6 LI ((cst g.2).map Ce.i)/\Hp h g.1 g.2 (eI g.1 0 h)/\Xs h g.1)
  (λg=>h.length -jO g.1 h.length) (λ_=>false,W) ⟨JC,by rw[c0];rfl,C4,by rw[dy (g:=cL h) λb _=>Dn 0 h b];exact A4,W4,K0,λ_=>0,az,az⟩ ?_
 clear C4 A4 W4 K0 c0 X4 hnd uB hwz abC;rintro⟨mk,W⟩ LI many m5 I3 μ3 ⟨Ux,rfl,C5,A5,W5,K5,O5⟩ next
 simp only at A5 W5 K5 O5 next
 have X5:=SX C5;have hWl:=W5.len;simp[Jt]at hWl;have hWh:=K5.len;refine⟨λh5=>?_,λh5=>?_⟩
 ·simp only[aHn,aFP]at h5;have cx:W≠[]:=λe=>by subst e;simp at hWl;omega
  obtain⟨W',a,rfl⟩:∃W' a,W=W'++[a]:=⟨W.dropLast,W.getLast cx,(aGD cx).symm⟩;rw[Lh]at W5;obtain⟨p1,p2,p3⟩:=W5.pop;rw[Jt]at p1 p2 p3;have e1:bS ((LI.len:Int) -1)=(W'.length:Int):=by rw[aF ab ab];omega
  obtain⟨jK,ham⟩:=K5.un a az;obtain⟨c,VS⟩:=ae jK;have VZ:=ak VS;have pt:=(JA c VZ).fl;obtain⟨f,hf,g0,g1,g2⟩:=(cy.ext X5 hh).aE VS;rw[e1,Uw];have aDc:=W5.le;refine⟨ab,ab,a,p2,ab,ab,?_⟩;rw[Uw];refine⟨c.aG,g0,c.jW,g1,f,g2,?_⟩;intro m6 m7;have x7:af m5 m7:=((af.av m5).aC _).ag (aFR _) _ _;have s7:m7.size=m5.size+1:=by simp[m7,m6,aq]
  clear_value m7;have F7:cJ (λ_=>False) Ux m5 Ux m7:=cJ.dS _ x7 C5.new;have C7:cJ (λk=>k=2\/k=6) pX m3 Ux m7:=C5.trans (cJ.dS _ x7 C5.new);have gL:=hf.len;have hz:eI mk 0 h a=0:=(K5.zero a jK).2 (Or.inr az);have O7:=O5.set jK ham hz;have SJ:=λx=>Ny (mk:=mk) (i:=0) VS (by rw[aGa];exact ham) x;simp only[aGa]at SJ;have es:=zq ham jK;have aDd:=EX (jX mk a) h.length;have K7:Hp h (jX mk a) W' (λx=>eI (jX mk a) 0 h x+cX (c.aB.drop 0) x):=by
   have:=K5.pop;refine⟨this.Lg,this.un,λx hx=>?_⟩;rw[<-this.zero x hx,SJ,List.drop_zero];constructor<;>intro h<;>omega
  refine⟨ab,ab,ab,cN (σ:=Sl) (n:=c.aB.length) ab (λj wk M=>∃ro W2,cJ (λk=>k=2\/k=6) Ux m7 ro M/\fB ro M au 1 2 r ((qA h.length (λx=>eI (jX mk a) 0 h x+cX (c.aB.drop j) x)).map Ce.i)/\fB ro M au 1 6 wk ((cst W2).map Ce.i)/\Hp h (jX mk a) W2 (λx=>eI (jX mk a) 0 h x+cX (c.aB.drop j) x))
   ⟨Ux,W',cJ.av _ C7.new,?_,?_,K7⟩ ?_⟩
  ·have:=A5.dT F7 id;rw[dy (g:=eI mk 0 h) λb _=>by simp only[SJ,List.drop_zero];omega];exact this
  ·exact p3.dT F7 id
  rintro j wk m8 I4 μ4 hj ⟨O6,W2,C8,A8,W8,K8⟩ Zv;have X8:=SX (C7.trans C8);have T8:=toT C8;have r7:m5.size<m8.size/\O6 m5.size=0:=⟨by have:=C8.size;omega,by rw[C8.gG _ ab];exact C5.new _ (aFR _)⟩;refine⟨λh6=>?_,λh6=>?_⟩
  ·simp only[aFP]at h6;obtain⟨w,hw⟩:=ae (l:=c.aB) (k:=j) ab;have Rf:=ak hw;have h64:=dp c VZ w Rf;have NL:c.aB.drop j=w::c.aB.drop (j+1):=by
    rw[aHc (ap hw)];congr 1;exact(List.getElem?_eq_some_iff.1 hw).2
   obtain⟨f0,ZC,_,_,w2⟩:=hh.aE VS;have er:f0=f:=by have:=X5.ad w2;rw[g2]at this;exact(Sl.HN.1 (aHv this)).symm
   subst er;refine⟨ab,ab,w,by simpa using(ZC.ext X8).aE hw,(nE (cy.ext X8 hh) h64.2).mono ?_⟩;rintro _ m9 ⟨q,b9,rfl,LQ,hq9,x9⟩;have z9:=x9.size;have F9:cJ (λ_=>False) O6 m8 O6 m9:=cJ.dS _ x9 C8.new;have C9:cJ (λk=>k=2\/k=6) Ux m7 O6 m9:=C8.trans (cJ.dS _ x9 C8.new);have A9:=A8.dT F9 id;have W9:=W8.dT F9 id;refine⟨x9.cg bg,q,b9,rfl,λh7=>?_,λh7=>?_⟩
   ·have iO:=LQ.1 h7;have cA:=ap (bE iO).1;have e9:=hq9 h7;subst e9;have VH:∀x,cX (c.aB.drop j) x=(if x=ix w then 1 else 0)+cX (c.aB.drop (j+1)) x:=λx=>by rw[NL,fq iO.1]
    have pP:=VH (ix w);rw[aFW rfl]at pP;have n1:=Fi (jX mk a) 0 h (ix w);have n2:=zG (jX mk a) (ix w);have n3:=fp (c.aB.drop (j+1)) (ix w);have n4:=iS (c.aB.drop (j+1)) (ix w);have n5:(c.aB.drop (j+1)).length<=3:=bg;obtain⟨u1,u2,u3⟩:=afo (f:=λx=>eI (jX mk a) 0 h x+cX (c.aB.drop j) x) (g:=λx=>eI (jX mk a) 0 h x+cX (c.aB.drop (j+1)) x) A9 cA (v:=eI (jX mk a) 0 h (ix w)+cX (c.aB.drop (j+1)) (ix w)) (λb _=>by
     rw[VH];by_cases e:b=ix w
     ·subst e;rw[aFW rfl]
     ·rw[aFS e,aFS e];omega) C9.new
    refine⟨ab,ab,_,acD A9 ab cA,ab,ab,u1,?_⟩;rw[show bS (eI (jX mk a) 0 h (ix w)+cX (c.aB.drop j) (ix w) -1)=eI (jX mk a) 0 h (ix w)+cX (c.aB.drop (j+1)) (ix w)by rw[aF ab ab];omega];intro cK;have C10:cJ (λk=>k=2\/k=6) Ux m7 O6 cK:=C9.trans (u3.mono λk hk=>Or.inl hk);have V6:cK.size=m9.size:=aq _ _ _ _;have W10:fB O6 cK au 1 6 wk ((cst W2).map Ce.i):=W9.dT u3 aO;obtain⟨v1,v2⟩:=K8.qT (lf':=λx=>eI (jX mk a) 0 h x+cX (c.aB.drop (j+1)) x) cA (λx=>by
     rw[VH];split<;>omega) (show 0<eI (jX mk a) 0 h (ix w)+cX (c.aB.drop j) (ix w)by omega)
    have T10:To O6 m9 O6 cK:=u3.mono λk hk=>ab;have u2':fB O6 cK au 1 2 r ((qA h.length (λx=>eI (jX mk a) 0 h x+cX (c.aB.drop (j+1)) x)).map Ce.i):=u2;clear_value cK;clear u2;refine⟨T10.cg (by simp;exact⟨ab,r7.2⟩),ab,ab,_,acD u2' ab cA,λh8=>?_,λh8=>?_⟩
    ·intro dm;have eB:af cK dm:=(af.av cK).aC _;have k11:bK dm cK.size 3 [.i (ix w:Int)]:=bK.push cK _ _;have DE:dm.size=cK.size+1:=by simp[dm]
     have F11:cJ (λ_=>False) O6 cK O6 dm:=cJ.dS _ eB C10.new;have C11:cJ (λk=>k=2\/k=6) Ux m7 O6 dm:=C10.trans (cJ.dS _ eB C10.new);have oC:=W10.len;simp[Jt]at oC;have tB:=K8.len;refine fB.append (zs:=[.i 0]) (new:=[.i (ix w:Int)]) (W10.dT F11 id) C11.new az k11.iu (by simp only[Sl.eO];omega) λamO q2 df a12 c12=>⟨?_,?_⟩
     ·exact(toT (c12.mono λj hj=>Or.inr hj)).cg (by simp;exact⟨ab,r7.2⟩)
     ·exact Zv ab _ _ ⟨amO,W2++[ix w],C11.trans (c12.mono λj hj=>Or.inr hj),(u2'.dT F11 id).dT c12 aO,by rw[Lh];simpa using a12,v1 (by simpa using h8)⟩
    ·exact Zv ab _ _ ⟨O6,W2,C10,u2',W10,v2 (by simpa using h8)⟩
   ·have LO:w<1000:=(aeS c VZ w Rf).resolve_left (fb LQ h7);have VH:∀x,cX (c.aB.drop (j+1)) x=cX (c.aB.drop j) x:=λx=>by
     rw[NL];simp only[cX];rw[aFS ab];omega
    refine Zv ab _ _ ⟨O6,W2,C9,?_,W9,?_⟩
    ·rw[dy (g:=λx=>eI (jX mk a) 0 h x+cX (c.aB.drop j) x) λb _=>by rw[VH]];exact A9
    ·exact⟨K8.Lg,K8.un,λx hx=>by rw[VH];exact K8.zero x hx⟩
  ·simp only[aFQ]at h6;have ed:c.aB.drop j=[]:=aHy ab;have e0:∀x,eI (jX mk a) 0 h x+cX (c.aB.drop j) x=eI (jX mk a) 0 h x:=λx=>by rw[ed];simp[cX]
   rw[show bS ((jO mk h.length:Nat)+1:Int)=((jO (jX mk a) h.length:Nat):Int)by rw[es,aF ab ab];omega];refine next (jX mk a,W2) _ _ m8 ⟨O6,rfl,C7.trans C8,?_,W8,⟨K8.Lg,K8.un,λx hx=>by have:=K8.zero x hx;rw[e0]at this;exact this⟩,O7⟩ (by simp only[];omega)
   rw[dy (g:=λx=>eI (jX mk a) 0 h x+cX (c.aB.drop j) x) λb _=>(e0 b).symm];exact A8
 ·simp only[aHn,aFQ]at h5;have hW0:W=[]:=List.length_eq_zero_iff.1 ab;subst hW0;have hac:=aaD O5 iO λa ha h0=>((K5.zero a ha).1 h0).resolve_right az;refine⟨_,_,rfl,?_,λ_=>⟨m.size,rfl,aFR _,refsOf C5⟩,X5⟩;rw[aFZ,show((jO mk h.length:Nat):Int)=(hp.len:Int)<->jO mk h.length=h.length by omega,hac];exact⟨λha=>⟨htr,Ds,hrefs,ha⟩,λhk=>hk.Ml⟩
structure U1(im:bq)(f:aM):Prop where
 dJ:0<=f.dJ/\f.dJ<im.bJ.length
 pc:0<=f.pc/\f.pc<(cP im f.dJ).bP.length
 lr:(f.an.length:Int)=(cP im f.dJ).an
 lo:(f.aL.length:Int)=(cP im f.dJ).an
 lh:(f.aQ.length:Int)=(cP im f.dJ).an
 cq:∀(k:Nat)(w o:Int),f.an[k]? =some w->f.aL[k]? =some o->(eT w\/1000<=w)/\(0<=o/\o<=999999)
theorem U1.aL{im:bq}{f:aM}(h:U1 im f):∀o∈f.aL,0<=o/\o<=999999:=λo ho=>by
 obtain⟨k,hk⟩:=List.mem_iff_getElem?.1 ho;have:=ap hk;have h1:=h.lr;have h2:=h.lo;obtain⟨w,hw⟩:=ae (l:=f.an) (k:=k) ab;exact(h.cq k w o hw hk).2
theorem Dp{m:ah}{d p r o e:Sl}{im:bq}{f:aM}(qD:dU m d p im)(hr:aj m r f.an)(ho:aj m o f.aL)(he:aj m e f.aQ):
 cB Tryz.prog 25 [.agg #[Sl.v d,Sl.v p],.agg #[vi f.dJ,vi f.pc,vi f.dst,Sl.v r,Sl.v o,Sl.v e]] m (U1 im f):=by
 apply wA
 simp -zeta only[aw,ax]
 intro m1 m2
 have x2:af m m2:=((af.av m).aC _).aC _
 have s1:m1.size=m.size+1:=by simp[m1]
 have s2:m2.size=m.size+2:=by simp[m2,s1]
 clear_value m2
 have tA:=qD.bJ.len
 have nL:=hr.len
 have If:=ho.len
 have Q0:=he.len
 have aw9:=hr.eP
 refine⟨λh1=>bC (λhk=>by have:=hk.dJ;simp at h1;omega) x2,λh1=>⟨λh2=>bC (λhk=>by have:=hk.dJ;simp at h2;omega) x2,λh2=>?_⟩⟩
 simp at h1 h2
 obtain⟨q,hq⟩:=ae (l:=im.bJ) (k:=f.dJ.toNat) ab
 have xy:cP im f.dJ=q:=by simp[cP,hq]
 obtain⟨pa,pl,pc,hpa,alV,Jz,k0,k1,k2,k3,k4⟩:=(qD.ext x2).bJ.aE hq
 have amp:=Jz.len
 refine⟨h1,ab,pa,k0,pl,k1,_,k2,_,k3,pc,k4,?_⟩
 intro m3 m4
 have x4:af m2 m4:=((af.av m2).aC _).ag (aFR _) _ _
 have s4:m4.size=m2.size+1:=by simp[m4,m3,aq]
 clear_value m4
 have X4:=x2.trans x4
 have hl:∀b∈[m2.size,m1.size,m.size],b<m4.size:=bg
 refine⟨λh3=>bC (λhk=>by have:=hk.pc;simp at h3;omega) X4,λh3=>⟨λh4=>bC (λhk=>by have:=hk.pc;rw[xy]at this;simp at h4;omega) X4,λh4=>⟨λh5=>bC (λhk=>by have:=hk.lr;rw[xy]at this;simp at h5;omega) X4,λh5=>⟨λh6=>bC (λhk=>by have:=hk.lo;rw[xy]at this;simp at h6;omega) X4,λh6=>⟨λh7=>bC (λhk=>by have:=hk.lh;rw[xy]at this;simp at h7;omega) X4,λh7=>?_⟩⟩⟩⟩⟩
 simp at h3 h4 h5 h6 h7
 refine dg (n:=f.an.length) ab (λk m'=>af m4 m'/\∀(j:Nat)(w o:Int),j<k->f.an[j]? =some w->f.aL[j]? =some o->(eT w\/1000<=w)/\(0<=o/\o<=999999)) ⟨af.av _,λj w o hj=>absurd hj (aGB _)⟩ ?_
 rintro k m5 I μ hk ⟨x5,hq5⟩ next
 refine⟨λh8=>?_,λh8=>?_⟩
 ·simp only[aFP]at h8
  obtain⟨w,hw⟩:=ae (l:=f.an) (k:=k) ab
  obtain⟨n,hn⟩:=ae (l:=f.aL) (k:=k) ab
  refine⟨ab,ab,w,by simpa using(hr.ext (X4.trans x5)).aE hw,(oN w m5).ay x5 hl λb6 m6 Pn x56 x6=>⟨b6,rfl,?_⟩⟩
  have hn6:ad m6 o.ao (o.off+Int.toNat (k:Int)*1)=some (vi n):=by simpa using(ho.ext (X4.trans x6)).aE hn
  have iE:(eT w\/1000<=w)->(0:Int)<=k/\(k:Int)<(o.len:Int)/\∃v80:Int,ad m6 o.ao (o.off+Int.toNat (k:Int)*1)=some (vi v80)/\((decide (v80<(0:Int)))=true->∃b':Bool,vb false=.bool b'/\(b'=true<->U1 im f)/\af m m6)/\
   ((decide (v80<(0:Int)))=false->(0:Int)<=k/\(k:Int)<(o.len:Int)/\∃v88:Int,ad m6 o.ao (o.off+Int.toNat (k:Int)*1)=some (vi v88)/\((decide (v88>(999999:Int)))=true->∃b':Bool,vb false=.bool b'/\(b'=true<->U1 im f)/\af m m6)/\
   ((decide (v88>(999999:Int)))=false->I (bS ((k:Int)+(1:Int))) m6/\μ (bS ((k:Int)+(1:Int))) m6<μ k m5)):=λhi=>
   ⟨ab,ab,n,hn6,λh9=>bC (λhk=>by have:=(hk.cq k w n hw hn).2;simp at h9;omega) (X4.trans x6),λh9=>⟨ab,ab,n,hn6,λln=>bC (λhk=>by have:=(hk.cq k w n hw hn).2;simp at ln;omega) (X4.trans x6),λln=>next ab _ ⟨x6,λj w' o' hj rJ Lj=>by
    rcases aF1 j k with jV|jV
    ·exact hq5 j w' o' jV rJ Lj
    ·have:j=k:=ab;subst this;rw[hw]at rJ;rw[hn]at Lj;simp at rJ Lj;subst rJ;subst Lj;simp at h9 ln;exact⟨hi,ab⟩⟩⟩⟩
  refine⟨λh9=>⟨λln=>bC (λhk=>?_) (X4.trans x6),λln=>iE (Or.inr (by simp at ln;omega))⟩,λh9=>iE (Or.inl (yb Pn h9))⟩
  rcases(hk.cq k w n hw hn).1 with jV|jV
  ·exact nb Pn h9 jV
  ·simp at ln;omega
 ·simp only[aFQ]at h8
  refine gP ⟨ab,by rw[xy];omega,by rw[xy];omega,by rw[xy];omega,by rw[xy];omega,λj w o hw ho=>hq5 j w o (by have:=ap hw;omega) hw ho⟩ (X4.trans x5)
structure Jd(a b:Nat)(m m':ah):Prop where
 size:m.size<=m'.size
 same:∀c,c<m.size->c≠a->c≠b->m'[c]? =m[c]?
theorem Jd.av(a b:Nat)(m:ah):Jd a b m m:=⟨aFR _,λ_ _ _ _=>rfl⟩
theorem Jd.ext{a b:Nat}{m m1 m2:ah}(h:Jd a b m m1)(hx:af m1 m2):Jd a b m m2:=⟨aF8 h.size hx.size,λc hc h1 h2=>by rw[hx.same c (aFY hc h.size)];exact h.same c hc h1 h2⟩
theorem Jd.trans{a b:Nat}{m m1 m2:ah}(h:Jd a b m m1)(hx:Jd a b m1 m2):Jd a b m m2:=⟨aF8 h.size hx.size,λc hc h1 h2=>by rw[hx.same c (aFY hc h.size) h1 h2];exact h.same c hc h1 h2⟩
theorem Jd.ag{a b:Nat}{m m1:ah}(h:Jd a b m m1){c:Nat}(hc:c=a\/c=b)(o:Nat)(l:List Ce):Jd a b m (ag m1 c o l):=
 ⟨by rw[aq];exact h.size,λx hx h1 h2=>by rw[aP l m1 c o (by rcases hc with e|e<;>rw[e]<;>assumption)];exact h.same x hx h1 h2⟩
theorem Jd.Fk{a b:Nat}{m0 m m':ah}(h:Jd a b m m')(hx:af m0 m)(ha:m0.size<=a)(hb:m0.size<=b):af m0 m':=
 ⟨aF8 hx.size h.size,λc hc=>by rw[h.same c (hx.lt hc) ab ab];exact hx.same c hc⟩
structure afp(h:List aR)(f:aM):Prop where
 aL:∀(k:Nat)(w o:Int),f.an[k]? =some w->f.aL[k]? =some o->0<o->gJ h w
 aQ:∀w∈f.aQ,w≠0->1000<=w/\∃c,h[ix w]? =some c/\c.aG<0
theorem aaF{w:Int}{n:Nat}(hw:Hk w)(hn:n<=1000000000):(0<=bS (w -1000)/\bS (w -1000)<n)<->(1000<=w/\ix w<n):=by
 obtain⟨h1,h2⟩:=hw;rcases aHQ w (-9223372036854774808)with h3|h3
 ·have e:bS (w -1000)=w -1000+18446744073709551616:=by
   unfold bS;rw[IntKind.wrap_i64];omega
  unfold ix;rw[e];constructor<;>intro h<;>omega
 ·unfold ix;rw[aF ab ab];omega
structure OJ(m:ah)(ob hb n:Nat)(fo fh:Nat->Int):Prop where
 aL:bK m ob au ((qA n fo).map Ce.i)
 aQ:bK m hb au ((qA n fh).map Ce.i)
 ne:ob≠hb
theorem MC{m:ah}{hp r o e:Sl}{h:List aR}{f:aM}{ob hb:Nat}{fo fh:Nat->Int}{m0:ah}(x0:af m0 m)(hh:cy m0 hp h)(hr:aj m0 r f.an)(ho:aj m0 o f.aL)(he:aj m0 e f.aQ)(hob:m0.size<=ob)(hhb:m0.size<=hb)(T:OJ m ob hb h.length fo fh)
 (dp:U0 f)(xp:h.length<=1000000000)(hlen:f.an.length=f.aL.length/\f.aQ.length=f.aL.length/\f.aL.length<=10000000)(pN:∀o∈f.aL,0<=o/\o<=999999)(hfo:∀a,0<=fo a/\fo a<=1000000000000000)(hfh:∀a,0<=fh a/\fh a<=1000000000):
 aD Tryz.prog 26 [.agg #[vi f.dJ,vi f.pc,vi f.dst,Sl.v r,Sl.v o,Sl.v e],Sl.v hp,Sl.v (.mk ob 0 h.length h.length),Sl.v (.mk hb 0 h.length h.length)] m λv m'=>
  ∃b:Bool,v=vb b/\(b=true<->afp h f)/\(b=true->OJ m' ob hb h.length (λa=>fo a+bQ f.an f.aL a) (λa=>fh a+cX f.aQ a))/\Jd ob hb m m':=by
 apply uT
 simp -zeta only[aw,ax]
 intro m1
 have x1:af m m1:=(af.av m).aC _
 have s1:m1.size=m.size+1:=by simp[m1]
 clear_value m1
 have nL:=hr.len
 have If:=ho.len
 have Q0:=he.len
 have Up:=hh.len
 obtain⟨hL1,hL2,hL3⟩:=hlen
 have lo1:=T.aL.lt
 have lh1:=T.aQ.lt
 simp -zeta only[Sl.eO,Sl.gN,Sl.lQ,aGa]
 have Uw:∀n:Nat,Int.toNat (n:Int)=n:=λn=>ab
 refine dg (n:=f.aL.length) ab (λk m'=>Jd ob hb m m'/\m.size<m'.size/\OJ m' ob hb h.length (λa=>fo a+bQ (f.an.take k) (f.aL.take k) a) (λa=>fh a+cX (f.aQ.take k) a)/\(∀(j:Nat)(w o:Int),j<k->f.an[j]? =some w->f.aL[j]? =some o->0<o->gJ h w)/\
  (∀w∈f.aQ.take k,w≠0->1000<=w/\∃c,h[ix w]? =some c/\c.aG<0)) ⟨(Jd.av _ _ _).ext x1,ab,by simpa[bQ,cX]using(⟨T.aL.ext x1,T.aQ.ext x1,T.ne⟩:OJ m1 ob hb h.length fo fh),λj w o hj=>absurd hj (aGB _),az⟩ ?_
 rintro k m2 I μ hk ⟨t2,z2,T2,q2,p2⟩ next
 have X2:=t2.Fk x0 hob hhb
 rw[Uw,aGr]
 refine⟨λh1=>?_,λh1=>?_⟩
 ·simp only[aFP]at h1
  obtain⟨w,hw⟩:=ae (l:=f.an) (k:=k) ab
  obtain⟨q,hq⟩:=ae (l:=f.aL) (k:=k) ab
  obtain⟨v,hv⟩:=ae (l:=f.aQ) (k:=k) ab
  have gw:∀{M:ah},af m0 M->ad M r.ao (r.off+k)=some (vi w):=λhx=>by simpa using(hr.ext hx).aE hw
  have gq:∀{M:ah},af m0 M->ad M o.ao (o.off+k)=some (vi q):=λhx=>by simpa using(ho.ext hx).aE hq
  have gv:∀{M:ah},af m0 M->ad M e.ao (e.off+k)=some (vi v):=λhx=>by simpa using(he.ext hx).aE hv
  have amP:=dp.1 w (ak hw)
  have aeT:=dp.2.2 v (ak hv)
  have hqb:=pN q (ak hq)
  refine⟨ab,ab,q,gq X2,λM=>Jd ob hb m2 M/\m.size<M.size/\OJ M ob hb h.length (λa=>fo a+bQ (f.an.take (k+1)) (f.aL.take (k+1)) a) (λa=>fh a+cX (f.aQ.take k) a)/\(0<q->gJ h w),⟨λh2=>?_,λh2=>?_⟩,?_⟩
  ·have Ve:0<q:=by simpa using h2
   refine⟨ab,ab,w,gw X2,(nE (cy.ext X2 hh) amP.2).mono ?_⟩
   rintro _ m3 ⟨a,b3,rfl,uD,ha3,x3⟩
   have z3:=x3.size
   refine⟨x3.cg bg,a,b3,rfl,λh3=>⟨false,rfl,?_,az,t2.ext x3⟩,λh3=>?_⟩
   ·simp only[aGU,false_iff]
    exactλht=>nb uD h3 (ht.aL k w q hw hq Ve)
   have iO:=yb uD h3
   have cA:=ap (bE iO).1
   have e3:=ha3 (by simpa using h3)
   subst e3
   have O3:=T2.aL.ext x3
   have H3:=T2.aQ.ext x3
   have q1:=Fc (an:=f.an.take k) (aL:=f.aL.take k) (n:=999999) ab (λo ho=>pN o (aGk ho)) (ix w)
   have q6:(f.aL.take k).length<=10000000:=bg
   have q7:=hfo (ix w)
   rw[Uw,aGr]
   refine⟨ab,ab,_,rB O3 cA,ab,ab,Nr O3 cA,?_⟩
   rw[show bS (fo (ix w)+bQ (f.an.take k) (f.aL.take k) (ix w)+q)=fo (ix w)+bQ (f.an.take k) (f.aL.take k) (ix w)+q from aF ab ab]
   have O4:=Hl O3 (ix w) (fo (ix w)+bQ (f.an.take k) (f.aL.take k) (ix w)+q)
   rw[dy (g:=λa=>fo a+bQ (f.an.take (k+1)) (f.aL.take (k+1)) a)]at O4
   ·exact⟨λb jx=>aP _ _ _ _ (by simp at jx;omega),((Jd.av _ _ _).ext x3).ag (Or.inl rfl) _ _,by rw[aq];omega,⟨O4,H3.congr (aP _ _ _ _ λe=>T2.ne e.symm),T2.ne⟩,λ_=>iO⟩
   ·intro b hb
    rw[rC hw hq]
    by_cases e:b=ix w
    ·subst e;rw[aFW rfl,aFW (fD iO.1).symm];omega
    ·rw[aFS e,aFS (λPq=>e (by rw[Pq,jg]))];omega
  ·have Ve:q=0:=by simp at h2;omega
   refine⟨Jd.av _ _ _,z2,⟨?_,T2.aQ,T2.ne⟩,λhp=>ab⟩
   rw[dy (g:=λa=>fo a+bQ (f.an.take k) (f.aL.take k) a)]
   ·exact T2.aL
   ·intro b hb;rw[rC hw hq,Ve];split<;>omega
  rintro m3 ⟨t3,z3,T3,atk⟩
  have t23:=t2.trans t3
  have X3:=t23.Fk x0 hob hhb
  have dY:∀(j:Nat)(w o:Int),j<k+1->f.an[j]? =some w->f.aL[j]? =some o->0<o->gJ h w:=λj w' o' hj rJ Lj=>by
   rcases aF1 j k with h6|h6
   ·exact q2 j w' o' h6 rJ Lj
   ·have:j=k:=ab;subst this;rw[hw]at rJ;rw[hq]at Lj;simp at rJ Lj;subst rJ;subst Lj;exact atk
  have ahg:=aaF (n:=h.length) aeT xp
  refine⟨ab,ab,v,gv X3,λh3=>⟨ab,ab,v,gv X3,?_⟩,λh3=>?_⟩
  ·have NN:v≠0:=by simpa using h3
   have nov:∀{M:ah},Jd ob hb m M->¬(1000<=v/\∃c,h[ix v]? =some c/\c.aG<0)->∃b:Bool,vb false=vb b/\(b=true<->afp h f)/\(b=true->OJ M ob hb h.length (λa=>fo a+bQ f.an f.aL a) (λa=>fh a+cX f.aQ a))/\Jd ob hb m M:=λht hn=>
    ⟨false,rfl,by simp only[aGU,false_iff];exactλhk=>hn (hk.aQ v (ak hv) NN),az,ht⟩
   refine⟨λh4=>nov t23 λ⟨g1,c,g2,_⟩=>?_,λh4=>⟨λh5=>nov t23 λ⟨g1,c,g2,_⟩=>?_,λh5=>?_⟩⟩
   ·have:=(ahg.2 ⟨g1,ap g2⟩).1;simp at h4;omega
   ·have:=(ahg.2 ⟨g1,ap g2⟩).2;simp at h5;omega
   simp at h4 h5
   obtain⟨g1,g2⟩:=ahg.1 ⟨h4,ab⟩
   have ew:bS (v -1000)=(ix v:Nat):=by have:=aeT.2;unfold ix;rw[aF ab ab];omega
   rw[ew,Uw]
   obtain⟨c,hc⟩:=ae g2
   obtain⟨cf,_,c0,_,_⟩:=(cy.ext X3 hh).aE hc
   refine⟨ab,ab,c.aG,c0,λh6=>nov t23 λ⟨_,c',g3,g4⟩=>?_,λh6=>?_⟩
   ·rw[hc]at g3;simp at g3;subst g3;simp at h6;omega
   have q1:=hfh (ix v)
   have q2:=iS (f.aQ.take k) (ix v)
   have q3:=fp (f.aQ.take k) (ix v)
   have q4:(f.aQ.take k).length<=10000000:=bg
   rw[aGr]
   refine⟨ab,ab,_,rB T3.aQ g2,ab,ab,Nr T3.aQ g2,?_⟩
   rw[show bS (fh (ix v)+cX (f.aQ.take k) (ix v)+1)=fh (ix v)+cX (f.aQ.take k) (ix v)+1 from aF ab ab]
   have O4:=Hl T3.aQ (ix v) (fh (ix v)+cX (f.aQ.take k) (ix v)+1)
   rw[dy (g:=λa=>fh a+cX (f.aQ.take (k+1)) a)]at O4
   ·refine⟨λb jx=>aP _ _ _ _ (by simp at jx;omega),next ab _ ⟨t23.ag (Or.inr rfl) _ _,by rw[aq];exact z3,⟨T3.aL.congr (aP _ _ _ _ T2.ne),O4,T2.ne⟩,dY,aZ hv p2 λ_=>⟨g1,c,hc,by simp at h6;omega⟩⟩⟩
   ·intro b hb
    rw[pd hv]
    by_cases e:b=ix v
    ·subst e;rw[aFW rfl,aFW (fD g1).symm];omega
    ·rw[aFS e,aFS (λPq=>e (by rw[Pq,jg]))];omega
  ·have NN:v=0:=by simpa using h3
   refine next ab _ ⟨t23,z3,⟨T3.aL,?_,T2.ne⟩,dY,aZ hv p2 λcx=>absurd NN cx⟩
   rw[dy (g:=λa=>fh a+cX (f.aQ.take k) a)]
   ·exact T3.aQ
   ·intro b hb;rw[pd hv,aFS ab];omega
 ·simp only[aFQ]at h1
  have e1:f.an.take k=f.an:=bL ab
  have e2:f.aL.take k=f.aL:=bL ab
  have e3:f.aQ.take k=f.aQ:=bL ab
  rw[e1,e2,e3]at T2
  rw[e3]at p2
  exact⟨true,rfl,by simp only[true_iff];exact⟨λj w o hw ho=>q2 j w o (by have:=ap hw;omega) hw ho,p2⟩,λ_=>T2,t2⟩
section
def afq(fs:List aM)(k:Nat)(f:aM):Prop:=(lg fs k=none->f.dst=0)/\∀p,lg fs k=some p->0<=f.dst/\f.dst<p.aL.length/\aE p.aL f.dst=0
structure Xu(im:bq)(s:St)(k:Nat)(f:aM):Prop where
 v:U1 im f
 dst:afq s.ai k f
 tal:afp s.heap f
theorem Xu.ok{im:bq}{s:St}{k:Nat}{f:aM}(h:Xu im s k f):KP im s.heap (lg s.ai k) f:=
 ⟨h.v.dJ,h.v.pc,h.v.lr,h.v.lo,h.v.lh,⟨λj w o hw ho=>⟨(h.v.cq j w o hw ho).1,(h.v.cq j w o hw ho).2,h.tal.aL j w o hw ho⟩⟩,h.dst.1,h.dst.2⟩
theorem Nn.w{im:bq}{s:St}(h:Nn im s){k:Nat}{f:aM}(hf:s.ai[k]? =some f):Xu im s k f:=by
 have F:=h.ai k f hf;refine⟨⟨F.dJ,F.pc,F.lr,F.lo,F.lh,λj w o hw ho=>⟨(F.an.cq j w o hw ho).1,(F.an.cq j w o hw ho).2.1⟩⟩,⟨F.first,F.next⟩,λj w o hw ho=>(F.an.cq j w o hw ho).2.2,λw hw cx=>?_⟩;obtain⟨h1,h2⟩:=(h.aQ.cp f (ak hf) w hw).resolve_left cx;obtain⟨c,hc⟩:=ae h2;refine⟨h1,c,hc,Int.not_le.1 λhn=>?_⟩;have h3:=h.aQ.jN _ c hc hn;have h4:=Qi (ak hf) (a:=ix w);have h5:=sL (l:=f.aQ) (a:=ix w) (by rw[fD h1];exact hw);omega
section
variable{m:ah}{d p aT hp fr:Sl}{im:bq}{s:St}
theorem Dq(qD:dU m d p im)(lx:kN im)(hs:eu m aT hp fr s)(dp:Dg s):cB Tryz.prog 13 [.agg #[Sl.v d,Sl.v p],TP s aT hp fr] m (bR im s):=by
 apply wt;simp -zeta only[aw,ax];intro m1 m2;have x2:af m m2:=((af.av m).aC _).aC _;have s1:m1.size=m.size+1:=by simp[m1]
 have s2:m2.size=m.size+2:=by simp[m2,s1]
 clear_value m2;have hl:∀b∈[m1.size,m.size],b<m2.size:=bg;have gL:=hs.ai.len;have Up:=hs.heap.len;have hlh:=dp.lh;have no:∀{M:ah},af m2 M->¬Nn im s->∃b':Bool,vb false=.bool b'/\(b'=true<->bR im s)/\af m M:=λhx hn=>bC (λh=>hn (OD h)) (x2.trans hx);have ZW:(s.ai=[])<->((fr.len:Int)=0):=by rw[gL];simp
 refine⟨λM=>af m2 M/\(0<=s.bT/\s.bT<=3)/\(s.bT=0<->s.ai=[])/\eT s.value/\(s.value≠0->s.bT=0),?_,?_⟩
 ·refine⟨λh1=>no (af.av _) λhk=>by have:=hk.bT;simp at h1;omega,λh1=>⟨λh2=>no (af.av _) λhk=>by have:=hk.bT;simp at h2;omega,λh2=>⟨λh3=>no (af.av _) λhk=>?_,λh3=>?_⟩⟩⟩
  ·have:=hk.done;rw[ZW,<-Fe]at this;rw[this]at h3;cases h3
  have vL:0<=s.bT/\s.bT<=3:=by simp at h1 h2;omega
  have NP:s.bT=0<->s.ai=[]:=by rw[ZW];exact(Fe _ _).1 h3
  refine(oN _ _).ay (af.av _) hl λb3 m3 uD x3 _=>⟨b3,rfl,λh4=>no x3 λhk=>nb uD h4 hk.value,λh4=>⟨λh5=>⟨λh6=>no x3 λhk=>?_,λh6=>?_⟩,λh5=>?_⟩⟩
  ·have:=hk.pI (by simpa using h5);simp at h6;exact h6 this
  ·exact⟨x3,vL,NP,yb uD h4,λ_=>by simpa using h6⟩
  ·exact⟨x3,vL,NP,yb uD h4,λh6=>by simp at h5;exact absurd h5 h6⟩
 rintro m3 ⟨x3,vL,NP,hv,hv0⟩;refine⟨λh1=>no x3 λhk=>by have:=hk.cV;simp at h1;omega,λh1=>⟨λh2=>no x3 λhk=>by have:=hk.cV;simp at h2;omega,λh2=>⟨λh3=>no x3 λhk=>by have:=hk.be;simp at h3;omega,λh3=>⟨λh4=>no x3 λhk=>by have:=hk.be;simp at h4;omega,λh4=>?_⟩⟩⟩⟩;have Im:0<=s.cV/\s.cV<=40:=by simp at h1 h2;omega
 have LG:0<=s.be/\s.be<=s.cV:=by simp at h3 h4;omega
 rw[aF ab ab];refine⟨λh5=>no x3 λhk=>by have:=hk.jT;simp at h5;omega,λh5=>?_⟩;have tC:(s.ai.length:Int)<=s.be+1:=by simp at h5;omega
 clear h1 h2 h3 h4 h5;have X3:=x2.trans x3;refine(Bi (hs.ext X3).heap dp.heap ab).mono ?_;rintro _ m4 ⟨ct,b4,rfl,xt,ht4,x34⟩;have x4:=x3.trans x34;have z4:=x4.size;have z3:=x3.size;refine⟨x34.cg λb hb=>x3.lt (hl b hb),ct,b4,rfl,λh1=>no x4 λhk=>nb xt h1 hk.heap,λh1=>?_⟩;have QU:=yb xt h1;obtain⟨ob,rfl,hob,B4⟩:=ht4 (by simpa using h1);have lob:=B4.lt;refine(km (hs.ext (x2.trans x4)).aT 24 #[] #[] aO (λx=>¬eT x) (λx _ m' hx=>?_)).ay x4 hl ?_
 ·apply tK;refine(oN _ _).then λb m5 hb x5=>⟨b,rfl,ez ?_ x5⟩;rw[<-hb];simp
 intro b5 m5 BR x45 x5;have z5:=x5.size;have z45:=x45.size;refine⟨b5,rfl,λh2=>no x5 λhk=>?_,λh2=>?_⟩
 ·obtain⟨x,hx,hn⟩:=BR.1 h2;exact hn (hk.aT x hx)
 have SU:∀n∈s.aT,eT n:=λn hn=>aGo λhc=>by have:=BR.2 ⟨n,hn,hc⟩;rw[h2]at this;cases this
 have en:Int.toNat (hp.len:Int)=s.heap.length:=ab;rw[en];refine⟨ab,ab,ab,ab,?_⟩;intro m6;have x56:af m5 m6:=(af.av m5).aC _;have s6:m6.size=m5.size+1:=by simp[m6]
 have H6:bK m6 m5.size au ((qA s.heap.length (λ_=>0)).map Ce.i):=KX m5 _;clear_value m6;have x6:=x5.trans x56;have X6:=x2.trans x6;have T6:OJ m6 ob m5.size s.heap.length (cL s.heap) (λ_=>0):=⟨B4.ext (x45.trans x56),H6,ab⟩;have atn:m.size<=ob:=by have:=X3.size;omega
 have Uw:∀n:Nat,Int.toNat (n:Int)=n:=λn=>ab;have ag8:s.ai.length<=41:=ab;have rb:∀a,0<=cL s.heap a/\cL s.heap a<=3*s.heap.length:=λa=>⟨oH _ _,zY _ _ λc hc=>(QU.cells c hc).fl⟩;refine dg (n:=s.ai.length) ab (λk M=>Jd ob m5.size m6 M/\OJ M ob m5.size s.heap.length (λa=>cL s.heap a+dz (s.ai.take k) a) (λa=>holds (s.ai.take k) a)/\∀(j:Nat)(f:aM),j<k->s.ai[j]? =some f->Xu im s j f)
  ⟨Jd.av _ _ _,by simpa[dz,holds]using T6,λj f hj=>absurd hj (aGB _)⟩ ?_
 rintro k m7 I μ hk ⟨t7,T7,hq7⟩ next
 have x7:af m2 m7:=t7.Fk x6 ab ab;have X7:=x2.trans x7;have lm7:∀b∈[m1.size,m.size],b<m7.size:=λb hb=>x7.lt (hl b hb);have z7:=x7.size;have lo7:=T7.aL.lt;have lh7:=T7.aQ.lt;rw[Uw];refine⟨λh3=>?_,λh3=>?_⟩
 ·simp only[aFP]at h3;obtain⟨f,hf⟩:=ae (l:=s.ai) (k:=k) ab;have BU:=ak hf;obtain⟨r,o,e,hr,ho,he,g0,g1,g2,g3,g4,g5⟩:=hs.ai.aE hf;refine⟨ab,ab,_,X7.ad g0,_,X7.ad g1,_,X7.ad g2,r,X7.ad g3,o,X7.ad g4,e,X7.ad g5,?_⟩;intro m8 m9;have x9:af m7 m9:=((af.av m7).aC _).ag (aFR _) _ _;have s9:m9.size=m7.size+1:=by simp[m9,m8,aq]
  clear_value m9;have X9:=X7.trans x9;have l9:∀b∈[m7.size,m1.size,m.size],b<m9.size:=bg;refine(Dp (qD.ext X9) (hr.ext X9) (ho.ext X9) (he.ext X9)).ay (af.av _) l9 λNO cK SS cO _=>⟨NO,rfl,λh4=>no ((x7.trans x9).trans cO) λhk=>nb SS h4 (hk.w hf).v,λh4=>?_⟩;have hV:=yb SS h4;have QW:=(x7.trans x9).trans cO;have X10:=x2.trans QW;refine⟨λM=>cK=M/\afq s.ai k f,?_,?_⟩
  ·have big:(bS ((k:Int) -1)=((k -1:Nat):Int))\/k=0:=by
    rcases aGT k with h5|h5
    ·exact Or.inr h5
    ·exact Or.inl (by rw[aF ab ab];omega)
   have iE:0<k->((decide (f.dst<(0:Int)))=true->∃b':Bool,vb false=.bool b'/\(b'=true<->bR im s)/\af m cK)/\((decide (f.dst<(0:Int)))=false->
    (0:Int)<=(bS ((k:Int) -(1:Int)))/\(bS ((k:Int) -(1:Int)))<(fr.len:Int)/\
    ∃ahh:Sl,ad cK fr.ao (fr.off+Int.toNat (bS ((k:Int) -(1:Int)))*6+4)=some (Sl.v ahh)/\
    ((decide (f.dst>=(ahh.len:Int)))=true->∃b':Bool,vb false=.bool b'/\(b'=true<->bR im s)/\af m cK)/\
    ((decide (f.dst>=(ahh.len:Int)))=false->(0:Int)<=(bS ((k:Int) -(1:Int)))/\(bS ((k:Int) -(1:Int)))<(fr.len:Int)/\
    ∃abD:Sl,ad cK fr.ao (fr.off+Int.toNat (bS ((k:Int) -(1:Int)))*6+4)=some (Sl.v abD)/\
    (0:Int)<=f.dst/\f.dst<(abD.len:Int)/\∃ahi:Int,ad cK abD.ao (abD.off+Int.toNat f.dst*1)=some (vi ahi)/\
    ((ahi !=(0:Int))=true->∃b':Bool,vb false=.bool b'/\(b'=true<->bR im s)/\af m cK)/\((ahi !=(0:Int))=false->cK=cK/\afq s.ai k f))):=λqB=>by
    have e1:=big.resolve_right ab
    rw[e1,Uw]
    obtain⟨j,rfl⟩:∃j,k=j+1:=⟨k -1,ab⟩
    have ej:j+1 -1=j:=ab
    rw[ej]
    obtain⟨pf,hpf⟩:=ae (l:=s.ai) (k:=j) ab
    obtain⟨pr,po,pe,hpr,hpo,ZQ,y0,y1,y2,y3,y4,y5⟩:=hs.ai.aE hpf
    have aDk:=hpo.len
    have QX:lg s.ai (j+1)=some pf:=hpf
    refine⟨λh5=>no QW λhk=>?_,λh5=>⟨ab,ab,po,X10.ad y4,λh6=>no QW λhk=>?_,λh6=>⟨ab,ab,po,X10.ad y4,by simpa using h5,by simp at h6;omega,aE pf.aL f.dst,?_,λh7=>no QW λhk=>?_,λh7=>⟨rfl,⟨λhn=>(by rw[QX]at hn;cases hn),λq hq=>?_⟩⟩⟩⟩⟩
    ·have:=((hk.w hf).dst.2 pf QX).1;simp at h5;omega
    ·have:=((hk.w hf).dst.2 pf QX).2.1;simp at h6;omega
    ·simp at h5 h6
     exact(hpo.ext X10).GM h5 ab
    ·have:=((hk.w hf).dst.2 pf QX).2.2;simp at h7;exact h7 this
    ·rw[QX]at hq;simp at hq;subst hq
     simp at h5 h6 h7;exact⟨h5,ab,h7⟩
   refine⟨λh5=>⟨λh6=>no QW λoO=>?_,λh6=>⟨λh7=>by simp at h5 h7;omega,λh7=>⟨rfl,⟨λ_=>by simpa using h6,λq hq=>?_⟩⟩⟩⟩,λh5=>⟨λh6=>iE (by simp at h6;omega),λh6=>by simp at h5 h6;omega⟩⟩
   ·simp at h5;subst h5;have:=(oO.w hf).dst.1 rfl;simp at h6;exact h6 this
   ·simp at h5;subst h5;simp[lg]at hq
  ·rintro _ ⟨rfl,hD⟩;have hlr:=dp.lr f BU;have v1:=hV.lr;have v2:=hV.lo;have v3:=hV.lh;have wh:=cO.size;have T10:OJ cK ob m5.size s.heap.length (λa=>cL s.heap a+dz (s.ai.take k) a) (λa=>holds (s.ai.take k) a):=⟨T7.aL.ext (x9.trans cO),T7.aQ.ext (x9.trans cO),T7.ne⟩;have hfo:∀a,0<=cL s.heap a+dz (s.ai.take k) a/\cL s.heap a+dz (s.ai.take k) a<=1000000000000000:=λa=>by
    have q1:=rb a;have q2:=Js (fs:=s.ai.take k) (n:=10000000) (k:=999999) ab (λg hg=>⟨(dp.lr g (aGk hg)).2.1,by
     obtain⟨j,hj⟩:=List.mem_iff_getElem?.1 hg;have ZF:j<k:=by have:=ap hj;simp at this;omega
     rw[aGj ZF]at hj;exact(hq7 j g ZF hj).v.aL⟩) a
    have q3:(s.ai.take k).length<=41:=bg;omega
   have hfh:∀a,0<=holds (s.ai.take k) a/\holds (s.ai.take k) a<=1000000000:=λa=>by
    have q2:=La (fs:=s.ai.take k) (n:=10000000) (λg hg=>(dp.lr g (aGk hg)).2.2) a;have q3:(s.ai.take k).length<=41:=bg;have q4:=uj (s.ai.take k) a;omega
   refine(MC (m0:=m) X10 hs.heap hr ho he atn ab T10 (dp.ai f BU) ab ⟨ab,ab,hlr.2.1⟩ hV.aL hfo hfh).mono ?_;rintro _ dm ⟨wi,rfl,Vx,atp,t11⟩;have amQ:Jd ob m5.size m6 dm:=(t7.ext (x9.trans cO)).trans t11;have eB:af m2 dm:=amQ.Fk x6 ab ab;refine⟨λb hb=>t11.same b (cO.lt (l9 b hb)) (by simp at hb;omega) (by simp at hb;omega),wi,rfl,λh5=>no eB λhk=>nb Vx h5 (hk.w hf).tal,λh5=>next ab _ ⟨amQ,?_,λj g hj hg=>?_⟩⟩
   ·have T11:=atp (by simpa using h5);refine⟨?_,?_,T11.ne⟩
    ·rw[dy (g:=λa=>cL s.heap a+dz (s.ai.take k) a+bQ f.an f.aL a)]
     ·exact T11.aL
     ·intro b hb;rw[Nu hf];omega
    ·rw[dy (g:=λa=>holds (s.ai.take k) a+cX f.aQ a)]
     ·exact T11.aQ
     ·intro b hb;rw[K6 hf]
   ·rcases aF1 j k with h6|h6
    ·exact hq7 j g h6 hg
    ·have:j=k:=ab;subst this;rw[hf]at hg;simp at hg;subst hg;exact⟨hV,hD,yb Vx h5⟩
 simp only[aFQ]at h3;rw[bL ab]at T7;have hW:∀(j:Nat)(f:aM),s.ai[j]? =some f->Xu im s j f:=λj f hf=>hq7 j f (by have:=ap hf;omega) hf;refine dg (n:=s.heap.length) ab (λk M=>af m7 M/\∀(a:Nat)(c:aR),a<k->s.heap[a]? =some c->(0<c.aG->c.aG=cL s.heap a+dz s.ai a)/\(c.aG<0->holds s.ai a=1)) ⟨af.av _,λa c ha=>absurd ha (aGB _)⟩ ?_;rintro k2 m8 I2 μ2 XO ⟨x8,hq8⟩ eN;have X8:=X7.trans x8;rw[Uw];refine⟨λh4=>?_,λh4=>?_⟩
 ·simp only[aFP]at h4;have jk:k2<s.heap.length:=ab;obtain⟨c,BT⟩:=ae jk;obtain⟨f,_,g0,g1,g2⟩:=hs.heap.aE BT;refine⟨λM=>af m8 M/\(0<c.aG->c.aG=cL s.heap k2+dz s.ai k2)/\(c.aG<0->holds s.ai k2=1),?_,?_⟩
  ·refine⟨ab,ab,_,X8.ad g0,_,X8.ad g1,f,X8.ad g2,?_⟩;intro m9 cK;have cO:af m8 cK:=((af.av m8).aC _).ag (aFR _) _ _;clear_value cK;have QW:=(x7.trans x8).trans cO;have go:=rB (T7.aL.ext (x8.trans cO)) jk;have gh:=rB (T7.aQ.ext (x8.trans cO)) jk;simp -zeta only[Sl.eO,Sl.gN,Sl.lQ,aGa,aGr];have aQ:(0<c.aG->c.aG=cL s.heap k2+dz s.ai k2)->((decide (c.aG<(0:Int)))=true->(0:Int)<=k2/\(k2:Int)<(s.heap.length:Int)/\∃ahj:Int,ad cK m5.size k2=some (vi ahj)/\
    ((ahj !=(1:Int))=true->∃b':Bool,vb false=.bool b'/\(b'=true<->bR im s)/\af m cK)/\((ahj !=(1:Int))=false->af m8 cK/\(0<c.aG->c.aG=cL s.heap k2+dz s.ai k2)/\(c.aG<0->holds s.ai k2=1)))/\
    ((decide (c.aG<(0:Int)))=false->af m8 cK/\(0<c.aG->c.aG=cL s.heap k2+dz s.ai k2)/\(c.aG<0->holds s.ai k2=1)):=λhc=>
    ⟨λh5=>⟨ab,ab,_,gh,λh6=>no QW λhk=>by have:=hk.aQ.ic k2 c BT (by simpa using h5);simp at h6;exact h6 this,λh6=>⟨cO,hc,λ_=>by simpa using h6⟩⟩,λh5=>⟨cO,hc,λh6=>by simp at h5;omega⟩⟩
   refine⟨λh5=>⟨ab,ab,_,go,λh6=>no QW λhk=>?_,λh6=>aQ λ_=>by simpa using h6⟩,λh5=>aQ λh6=>by simp at h5;omega⟩;have:=hk.Sa k2 c BT (by simpa using h5);simp at h6;exact h6 this
  ·rintro m9 ⟨x9,hc1,ME⟩;refine eN ab _ ⟨x8.trans x9,λa e ha he=>?_⟩;rcases aF1 a k2 with h6|h6
   ·exact hq8 a e h6 he
   ·have:a=k2:=ab;subst this;rw[BT]at he;simp at he;subst he;exact⟨hc1,ME⟩
 ·simp only[aFQ]at h4;refine gP (KR ⟨lx,vL,NP,hv,hv0,Im,LG,tC,SU,QU,λj f hf=>(hW j f hf).ok,⟨λf hf w hw=>?_,λi c hc hn=>(hq8 i c (by have:=ap hc;omega) hc).2 hn,λi c hc hn=>?_⟩,λa c hc hp=>(hq8 a c (by have:=ap hc;omega) hc).1 hp⟩) X8
  ·obtain⟨j,hj⟩:=uA hf;by_cases h0:w=0
   ·exact Or.inl h0
   ·obtain⟨h1,c,h2,_⟩:=(hW j f hj).tal.aQ w hw h0;exact Or.inr ⟨h1,ap h2⟩
  ·refine KQ λf hf w hw e=>?_;obtain⟨j,hj⟩:=uA hf;obtain⟨h1,c',h2,h3⟩:=(hW j f hj).tal.aQ w hw ab;rw[e,jg,hc]at h2;simp at h2;subst h2;omega
theorem mr(qD:dU m d p im)(hs:eu m aT hp fr s)(dp:Dg s):cB Tryz.prog 7 [.agg #[Sl.v d,Sl.v p],TP s aT hp fr] m (bR im s):=by
 apply wj;simp -zeta only[aw,ax];intro m1 m2;have x2:af m m2:=((af.av m).aC _).aC _;have s1:m1.size=m.size+1:=by simp[m1]
 have s2:m2.size=m.size+2:=by simp[m2,s1]
 clear_value m2;have hl:∀b∈[m1.size,m.size],b<m2.size:=bg;refine(CW (qD.ext x2)).ay (af.av _) hl λb3 m3 uD x3 _=>⟨b3,rfl,λh1=>?_,λh1=>bC (λhk=>fb uD h1 hk.eG) (x2.trans x3)⟩;refine(Dq (qD.ext (x2.trans x3)) (uD.1 h1) (hs.ext (x2.trans x3)) dp).ay x3 hl λb4 m4 xt x34 x4=>⟨b4,rfl,ez xt (x2.trans x4)⟩
end
end
structure FP(m:ah)(fb fo:Nat)(f:aM)(r o h:Sl):Prop where
 g3:ad m fb (fo+3)=some (Sl.v r)
 g4:ad m fb (fo+4)=some (Sl.v o)
 g5:ad m fb (fo+5)=some (Sl.v h)
 an:aj m r f.an
 aL:aj m o f.aL
 aQ:aj m h f.aQ
theorem FP.ext{m m':ah}{fb fo:Nat}{f:aM}{r o h:Sl}(F:FP m fb fo f r o h)(hx:af m m'):FP m' fb fo f r o h:=⟨hx.ad F.g3,hx.ad F.g4,hx.ad F.g5,F.an.ext hx,F.aL.ext hx,F.aQ.ext hx⟩


section
section
variable{m0:ah}{ro bG:Nat->Nat}{m m':ah}{mb e:Nat}{bx:List Ce}{aT hp fr:Sl}{lo:List Int}{lh:List aR}{fs:List aM}{f:aM}{r o h:Sl}{css:List (List Ce)}
end
section
variable{m0:ah}{ro:Nat->Nat}{m:ah}{mb:Nat}{d p aT hp fr:Sl}{c:Int}{s:St}{fs:List aM}{f:aM}{r o h:Sl}{css:List (List Ce)}
end
end
section
section
variable{m0:ah}{ro:Nat->Nat}{m:ah}{mb:Nat}{d p aT hp fr:Sl}{c:Int}{s:St}{fs:List aM}{f:aM}{r o h:Sl}{css:List (List Ce)}
end
end
section
section
variable{m0:ah}{ro:Nat->Nat}{m:ah}{mb:Nat}{d p aT hp fr:Sl}{c:Int}{s:St}{fs:List aM}{f:aM}{r o h:Sl}{css:List (List Ce)}
theorem ns.none{ro:Nat->Nat}{m:ah}:ns ro m .nil []:=⟨[],fB.fQ (gQ.nil m m _ _) (λhh=>absurd rfl hh),rfl,az,az⟩
end
theorem rZ.Hi{m m':ah}{b1 b2 b3 n:Nat}{an aL aQ:List Int}(N:rZ m m' b1 b2 b3 n an aL aQ){i:Nat}(hi:i<n)(v:Int):dW m' b1 i 1/\rZ m (ag m' b1 i [.i v]) b1 b2 b3 n (an.set i v) aL aQ:=by
 have Dz:=N.lo;refine⟨N.kr.dW (by simp[N.len.1];omega),N.ext.ag Dz.1 _ _,by rw[aq];exact Dz,?_,N.ko.congr (aP _ _ _ _ ab),N.kh.congr (aP _ _ _ _ ab),by simp[N.len]⟩;have:=bK.ag (m:=m') (o:=i) (r:=[.i v]) N.kr;rw[zd]at this;exact this
theorem rZ.zm{m m':ah}{b1 b2 b3 n:Nat}{an aL aQ:List Int}(N:rZ m m' b1 b2 b3 n an aL aQ){i:Nat}(hi:i<n)(v:Int):dW m' b2 i 1/\rZ m (ag m' b2 i [.i v]) b1 b2 b3 n an (aL.set i v) aQ:=by
 have Dz:=N.lo;refine⟨N.ko.dW (by simp[N.len.2.1];omega),N.ext.ag Dz.2.1 _ _,by rw[aq];exact Dz,N.kr.congr (aP _ _ _ _ ab),?_,N.kh.congr (aP _ _ _ _ ab),by simp[N.len]⟩;have:=bK.ag (m:=m') (o:=i) (r:=[.i v]) N.ko;rw[zd]at this;exact this
section
variable{m0:ah}{ro:Nat->Nat}{m:ah}{mb:Nat}{d p aT hp fr:Sl}{c:Int}{s:St}{fs:List aM}{f:aM}{r o h:Sl}{css:List (List Ce)}
end
end
section
section
variable{m0:ah}{ro:Nat->Nat}{m:ah}{mb:Nat}{d p aT hp fr:Sl}{s:St}{fs:List aM}{f:aM}{r o h:Sl}{css:List (List Ce)}
end
end
section
section
variable{m0:ah}{ro:Nat->Nat}{m:ah}{mb:Nat}{d p aT hp fr:Sl}{s:St}
end
end
end Go.Proofs.YtakpkjhmbbfniaaGreat
section
namespace Go.Vc
theorem eK.iN{m:ah}{b o:Nat}{l r:List Ce}(h:eK m b o l)(k:eK m b (o+l.length) r):eK m b o (l++r):=λi c hc=>by
 rcases aF1 i l.length with h1|h1
 ·rw[aFV h1]at hc;exact h i c hc
 ·rw[aFX h1]at hc;have:=k _ c hc;rwa[show o+l.length+(i -l.length)=o+i by omega]at this
end Go.Vc
namespace Go.Proofs.YtakpkjhmbbfniaaGreat
open Go.Vc
theorem gQ.TR{m m':ah}{s:Sl}{l:List Ce}{e sz:Nat}(ho:gQ m m' e sz s l)(hx:af m m'){ro:Nat->Nat}(hn:∀b,m.size<=b->ro b=0)(k:Nat):∃bG,cJ (λ_=>False) ro m bG m'/\fB bG m' e sz k s l/\∀b,bG b=ro b\/bG b=k:=by
 rcases ho.aE with h|⟨b,c,tail,h,h2,h3,h4,h5⟩
 ·exact⟨ro,cJ.dS _ hx hn,fB.fQ ho λcx=>absurd h cx,λb=>Or.inl rfl⟩
 ·refine⟨uG ro b k,cJ.uG hx hn h2 h3.lt k,fB.fQ ho λ_=>by rw[h];exact fU _ _ _,λc=>?_⟩;by_cases e:c=b
  ·rw[e];exact Or.inr (fU _ _ _)
  ·exact Or.inl (dO e)
theorem Hq{N:Nat}{ro:Nat->Nat}{m:ah}{hp:Sl}{h:List aR}(hn:∀b,m.size<=b->ro b=0)(h3:∀b,b<m.size->ro b≠3)(hh:cy m hp h)(hN:N<=m.size)(gL:∀c∈h,c.aB.length<=3)(xp:h.length<=1000000000):
 aD Tryz.prog 75 [Sl.v hp] m λv m'=>∃bG s,v=Sl.v s/\dk N bG m' s h/\cJ (λk=>k=3) ro m bG m'/\af m m':=by
 apply Aj
 intro m1
 have x1:af m m1:=(af.av m).aC _
 clear_value m1
 have hl:=hh.len
 have toX:∀{bG:Nat->Nat}{M:ah},cJ (λk=>k=3) ro m bG M->af m M:=λc=>⟨c.size,λb hb=>c.eg b hb (h3 b hb)⟩
 refine cN (σ:=Sl) (n:=h.length) ab (λk s M=>∃bG,dk N bG M s (h.take k)/\cJ (λk=>k=3) ro m bG M) ⟨ro,⟨[],⟨az,az,Or.inl rfl⟩,by simpa using eQ.nil _ _,Sep.nil⟩,cJ.dS _ x1 hn⟩ ?_
 rintro k s m2 I μ hk ⟨j8,H2,C2⟩ next
 have X2:=toX C2
 have en:Int.toNat (k:Int)=k:=ab
 rw[en]
 refine⟨λh1=>?_,λh1=>?_⟩
 ·simp only[aFP]at h1
  obtain⟨c,hc⟩:=ae (l:=h) (k:=k) ab
  obtain⟨f,hf,g0,g1,g2⟩:=(cy.ext X2 hh).aE hc
  have hf3:=gL c (ak hc)
  refine⟨ab,ab,c.aG,g0,ab,ab,c.jW,g1,ab,ab,f,g2,(eC hf ab).mono ?_⟩
  rintro _ m3 ⟨q,rfl,oq,x3⟩
  refine⟨q,rfl,x3.cr g1,x3.cr g0,?_⟩
  intro m4
  have x4:af m3 m4:=(af.av m3).aC _
  have k4:bK m4 m3.size qb [.i c.aG,.i c.jW,.s q]:=bK.push m3 _ _
  clear_value m4
  have Lr:=x3.trans x4
  have F4:cJ (λ_=>False) j8 m2 j8 m4:=cJ.dS _ Lr C2.new
  have C4:cJ (λk=>k=3) ro m j8 m4:=C2.trans (cJ.dS _ Lr C2.new)
  have iq:aj m4 q c.aB:=(aj.fQ oq ab).ext x4
  have Pl:c.aB≠[]->j8 q.ao=0:=λcx=>C2.new _ ((FB.fQ oq cx).1)
  have hz:=C2.size
  refine dk.push (H2.dT F4 id id) C4.new (x:=.mk m3.size 0 1 1) rfl k4.iu iq (FOk.of H2 (λh0=>Lr.same _ (H2.ao h0).2) (λ_=>oq.ext x4) Pl ab) bg λUx r m5 H5 C5=>?_
  exact next ab _ _ ⟨Ux,by rw[bn hc];exact H5,C4.trans C5⟩
 ·simp only[aFQ]at h1
  rw[bL ab]at H2
  exact⟨j8,s,rfl,H2,C2,X2⟩
structure axr(N:Nat)(ro:Nat->Nat)(m:ah)(r:Sl)(h:List aR)(ahk css:List (List Ce))(k:Nat):Prop where
 rm:fB ro m qb 3 3 r css.flatten
 len:css.length=h.length
 size:∀cs∈css,cs.length=3
 done:∀(j:Nat)(cs:List Ce)(c:aR),j<k->css[j]? =some cs->h[j]? =some c->HV N ro m cs c
 iE:∀j,k<=j->css[j]? =ahk[j]?
 sep:∀(i j:Nat)(ci cj:List Ce)(a b:Sl),i<k->j<k->css[i]? =some ci->css[j]? =some cj->ci[2]? =some (.s a)->cj[2]? =some (.s b)->i≠j->a.len≠0->b.len≠0->a.ao≠b.ao
end Go.Proofs.YtakpkjhmbbfniaaGreat
end
namespace Go.Proofs.YtakpkjhmbbfniaaGreat
open Go.Vc
structure Bs(m0:ah)(ro:Nat->Nat)(m:ah):Prop where
 bN:af m0 m
 jh:∀b,b<m0.size->ro b=0
 new:∀b,m.size<=b->ro b=0
structure rD(m0:ah)(ro:Nat->Nat)(m:ah)(aT hp fr:Sl)(s:St):Prop where
 bs:Bs m0 ro m
 aT:fB ro m au 1 2 aT (s.aT.map Ce.i)
 heap:dk m0.size ro m hp s.heap
 ai:ns ro m fr s.ai
structure Hr(s:St):Prop where
 aT:s.aT.length<=900000000
 fl:∀c∈s.heap,c.aB.length<=3
 heap:s.heap.length<=900000000
 jT:s.ai.length<=1000
 ai:∀f∈s.ai,f.an.length<=1000000/\f.aL.length<=1000000/\f.aQ.length<=1000000
def ajI(m0:ah)(ro:Nat->Nat)(m:ah)(s:St)(v:Value)(m':ah):Prop:=∃bG aT hp fr,v=TP s aT hp fr/\rD m0 bG m' aT hp fr s/\cJ (λ_=>False) ro m bG m'
abbrev Ch2:=cJ (λk=>2<=k)
theorem Ch2.none{ro bG:Nat->Nat}{m m':ah}(h:Ch2 ro m bG m')(hro:∀b,b<m.size->ro b<=1):cJ (λ_=>False) ro m bG m':=⟨h.size,h.gG,h.new,λb hb _=>h.eg b hb (by have:=hro b hb;omega)⟩
theorem cJ.Fk{ro bG:Nat->Nat}{m m':ah}(h:cJ (λ_=>False) ro m bG m'):af m m':=⟨h.size,λb hb=>h.eg b hb id⟩
theorem Bs.dT{m0:ah}{ro bG:Nat->Nat}{m m':ah}(B:Bs m0 ro m)(h:cJ (λ_=>False) ro m bG m'):Bs m0 bG m':=⟨B.bN.trans h.Fk,λb hb=>by rw[h.gG b (B.bN.lt hb)];exact B.jh b hb,h.new⟩
theorem cJ.apf{p:Nat->Prop}{ro bG:Nat->Nat}{m m':ah}(h:cJ p ro m bG m'){l:List Nat}(hl:∀b∈l,b<m.size/\¬p (ro b)):da l m m':=λb hb=>h.eg b (hl b hb).1 (hl b hb).2
structure Cpy(m0:ah)(ro:Nat->Nat)(m:ah)(bG:Nat->Nat)(M:ah)(q r:Sl)(s:St):Prop where
 dT:Ch2 ro m bG M
 aT:fB bG M au 1 2 q (s.aT.map Ce.i)
 heap:dk m0.size bG M r s.heap
theorem Cpy.qT{m0:ah}{ro ZU j8:Nat->Nat}{m m1 m2:ah}{q r:Sl}{s:St}(h:Cpy m0 ro m ZU m1 q r s){p:Nat->Prop}(hc:cJ p ZU m1 j8 m2)(hp:∀k,p k->4<=k):Cpy m0 ro m j8 m2 q r s:=
 ⟨h.dT.trans (hc.mono λk hk=>by have:=hp k hk;omega),h.aT.dT hc λh2=>by have:=hp _ h2;omega,h.heap.dT hc (λh2=>by have:=hp _ h2;omega) λh2=>by have:=hp _ h2;omega⟩
structure axs(ro:Nat->Nat)(m:ah)(r:Sl)(fs:List aM)(ahk css:List (List Ce))(k:Nat):Prop where
 rm:fB ro m dh 6 4 r css.flatten
 len:css.length=fs.length
 size:∀cs∈css,cs.length=6
 done:∀(j:Nat)(cs:List Ce)(f:aM),j<k->css[j]? =some cs->fs[j]? =some f->Zz ro m j cs f
 iE:∀j,k<=j->css[j]? =ahk[j]?
section
abbrev z7:List Ce:=[.i 0,.i 0,.i 0,.i 0,.s .nil,.s .nil,.s .nil]
structure NA(m0:ah)(ro:Nat->Nat)(m m2:ah)(s:St)(bG:Nat->Nat)(M:ah)(q r:Option Sl)(ob:Option Nat):Prop where
 dT:Ch2 ro m bG M
 ext:af m2 M
 no3:r=none->∀b,bG b≠3
 box:∀b,m.size<=b->b<m2.size->bG b=8
 aT:∀x,q=some x->fB bG M au 1 2 x (s.aT.map Ce.i)
 heap:∀x,r=some x->dk m0.size bG M x s.heap
 ob:∀x,ob=some x->m2.size<=x/\bG x=8/\bK M x iQ z7
section
variable{m0:ah}{ro:Nat->Nat}{m m2:ah}{s:St}{bG:Nat->Nat}{M:ah}{q r:Option Sl}{ob:Option Nat}
theorem NA.dY(h:NA m0 ro m m2 s bG M q r ob){j8:Nat->Nat}{M2:ah}(hc:cJ (λk=>k=3) bG M j8 M2)(hx:af M M2)(cA:∀b,m.size<=b->b<m2.size->j8 b=8){q2 r2:Option Sl}{ob2:Option Nat}(h3:r=none\/cJ (λ_=>False) bG M j8 M2)(hle:r2=none->∀b,j8 b≠3)
 (h1:∀x,q2=some x->q=some x\/fB j8 M2 au 1 2 x (s.aT.map Ce.i))(h2:∀x,r2=some x->r=some x\/dk m0.size j8 M2 x s.heap)(h4:∀x,ob2=some x->ob=some x\/(m2.size<=x/\j8 x=8/\bK M2 x iQ z7)):NA m0 ro m m2 s j8 M2 q2 r2 ob2:=
 ⟨h.dT.trans (hc.mono λk hk=>ab),h.ext.trans hx,hle,cA,λx e=>(h1 x e).elim (λe2=>(h.aT x e2).dT hc aO) id,
  λx e=>(h2 x e).elim (λe2=>h3.elim (λe3=>by rw[e3]at e2;cases e2) λc=>(h.heap x e2).dT c id id) id,
  λx e=>(h4 x e).elim (λe2=>by
   obtain⟨a,b,c⟩:=h.ob x e2;exact⟨a,by rw[hc.gG _ c.lt];exact b,c.ext hx⟩) id⟩
theorem NA.TS(h:NA m0 ro m m2 s bG M q r ob){p:Nat->Prop}{j8:Nat->Nat}{M2:ah}(hc:cJ p bG M j8 M2):∀b,m.size<=b->b<m2.size->j8 b=8:=λb h1 h2=>by rw[hc.gG b (h.ext.lt h2)];exact h.box b h1 h2
theorem NA.c(h:NA m0 ro m m2 s bG M none r ob){M2:ah}{x:Sl}(oq:gQ M M2 au 1 x (s.aT.map Ce.i))(hx:af M M2):∃j8,NA m0 ro m m2 s j8 M2 (some x) r ob:=by
 obtain⟨j8,C,A,le⟩:=gQ.TR oq hx h.dT.new 2;exact⟨j8,h.dY (C.mono λ_=>False.elim) hx (h.TS C) (Or.inr C) (λe b=>by have:=le b;have:=h.no3 e b;omega) (λy e=>Or.inr (by simp at e;subst e;exact A)) (λy e=>Or.inl e) λy e=>Or.inl e⟩
theorem NA.a(h:NA m0 ro m m2 s bG M q r ob){M2:ah}(hx:af M M2):NA m0 ro m m2 s bG M2 q r ob:=
 have C:cJ (λ_=>False) bG M bG M2:=cJ.dS _ hx h.dT.new
 h.dY (C.mono λ_=>False.elim) hx (h.TS C) (Or.inr C) h.no3 (λy e=>Or.inl e) (λy e=>Or.inl e) λy e=>Or.inl e
theorem NA.b(h:NA m0 ro m m2 s bG M q r none){M2:ah}(e:M2=M.push (.cells (aU z7) iQ)):∃j8,NA m0 ro m m2 s j8 M2 q r (some M.size):=by
 have hx:af M M2:=by rw[e];exact af.push _ _
 have C:cJ (λ_=>False) bG M (uG bG M.size 8) M2:=cJ.uG hx h.dT.new (aFR _) (by rw[e];simp) 8;refine⟨_,h.dY (C.mono λ_=>False.elim) hx (h.TS C) (Or.inr C) (λe3 b=>?_) (λy e=>Or.inl e) (λy e=>Or.inl e) λy e2=>Or.inr ?_⟩
 ·by_cases hb:b=M.size
  ·rw[hb,fU];decide
  ·rw[dO hb];exact h.no3 e3 b
 ·simp at e2;subst e2;exact⟨h.ext.size,fU _ _ _,by rw[e];exact bK.push _ _ _⟩
end
theorem Fl{m0:ah}{ro:Nat->Nat}{m:ah}{aT hp fr:Sl}{s:St}(B:Bs m0 ro m)(hro:∀b,ro b<=1)(hs:eu m aT hp fr s)(xp:Hr s):aD Tryz.prog 44 [TP s aT hp fr] m (ajI m0 ro m s):=by
 apply xT;simp -zeta only[aw,ax];intro m1 m2;have s1:m1.size=m.size+1:=by simp[m1]
 have s2:m2.size=m.size+2:=by simp[m2,s1]
 have x2:af m m2:=((af.av m).aC _).aC _;obtain⟨j8,abE⟩:∃j8,j8=uG (uG ro m.size 8) m1.size 8:=⟨_,rfl⟩;have C2:cJ (λ_=>False) ro m j8 m2:=by
  rw[abE];exact(cJ.uG (m':=m1) (k:=8) ((af.av m).aC _) B.new (aFR _) ab).trans (cJ.uG (m':=m2) (k:=8) ((af.av m1).aC _) (λb hb=>by rw[dO ab];exact B.new b ab) (aFR _) ab)
 have r0:j8 m.size=8/\j8 m1.size=8:=by rw[abE];exact⟨by rw[dO ab,fU],fU _ _ _⟩
 have hS:NA m0 ro m m2 s j8 m2 none none none:=by
  refine⟨C2.mono λ_=>False.elim,af.av _,λ_ b=>?_,λb h1 h2=>?_,az,az,az⟩
  ·rw[abE];unfold uG;split
   ·decide
   ·split
    ·decide
    ·have:=hro b;omega
  ·rcases aF1 b m1.size with h|h
   ·have:b=m.size:=ab;subst this;exact r0.1
   ·have:b=m1.size:=ab;subst this;exact r0.2
 clear_value m2;clear abE;have hN:=B.bN.size;have hml:=xp.aT;have ly:=xp.heap;have kU:=xp.jT;have cC:∀{bG:Nat->Nat}{M:ah}{r:Option Sl}{ob:Option Nat}{K:Value->ah->Prop},NA m0 ro m m2 s bG M none r ob->(∀x M' FA,NA m0 ro m m2 s FA M' (some x) r ob->af M M'->M.size<=M'.size->K (Sl.v x) M')->aD Tryz.prog 72 [Sl.v aT] M K:=λh hK=>
  (eC (hs.aT.ext (x2.trans h.ext)) ab).mono λ_ M'⟨x,e,o,hx⟩=>by
   obtain⟨FA,h'⟩:=h.c o hx;rw[e];exact hK x M' FA h' hx hx.size
 have cH:∀{bG:Nat->Nat}{M:ah}{q:Option Sl}{ob:Option Nat}{K:Value->ah->Prop},NA m0 ro m m2 s bG M q none ob->(∀x M' FA,NA m0 ro m m2 s FA M' q (some x) ob->af M M'->M.size<=M'.size->K (Sl.v x) M')->aD Tryz.prog 75 [Sl.v hp] M K:=λ{bG M q ob K} h hK=>
  (Hq (N:=m0.size) h.dT.new (λb _=>h.no3 rfl b) (hs.ext (x2.trans h.ext)).heap (by have:=h.ext.size;omega) xp.fl ab).mono λ_ M'⟨FA,x,e,H,C,hx⟩=>by
   rw[e];exact hK x M' FA (h.dY C hx (h.TS C) (Or.inl rfl) (λe=>by cases e) (λy e=>Or.inl e) (λy e=>Or.inr (by simp at e;subst e;exact H)) λy e=>Or.inl e) hx hx.size
 have kp:∀{M M':ah},af M M'->m2.size<=M.size->∀i,ad M' m.size i=ad M m.size i:=λhx cA i=>aA (hx.same _ ab) i;refine⟨λo M=>o.2=0/\∃bG q r fb,Cpy m0 ro m bG M q r s/\m2.size<=o.1/\m2.size<=M.size/\bG o.1=8/\bG m.size=8/\bG m1.size=8/\bK M o.1 iQ [.i s.bT,.i s.value,.i s.be,.i s.cV,.s q,.s r,.s (.mk fb 0 0 0)],?_,?_⟩
 ·have fG:∀{bG:Nat->Nat}{M:ah}{q r:Sl}{ob fb:Nat},NA m0 ro m m2 s bG M (some q) (some r) (some ob)->(λ(o:Nat×Nat) M=>o.2=0/\∃bG q r fb,Cpy m0 ro m bG M q r s/\m2.size<=o.1/\m2.size<=M.size/\bG o.1=8/\bG m.size=8/\bG m1.size=8/\bK M o.1 iQ [.i s.bT,.i s.value,.i s.be,.i s.cV,.s q,.s r,.s (.mk fb 0 0 0)]) (ob,0) (ag M ob 0 [.i s.bT,.i s.value,.i s.be,.i s.cV,.s q,.s r,.s (.mk fb 0 0 0)]):=λ{bG M q r ob fb} h=>by
   obtain⟨a,b,c⟩:=h.ob ob rfl;have C:cJ (λk=>k=8) bG M bG (ag M ob 0 [.i s.bT,.i s.value,.i s.be,.i s.cV,.s q,.s r,.s (.mk fb 0 0 0)]):=cJ.ag h.dT.new b _ _;exact⟨rfl,bG,q,r,fb,(⟨h.dT,h.aT q rfl,h.heap r rfl⟩:Cpy m0 ro m bG M q r s).qT C λk hk=>ab,a,by rw[aq];exact h.ext.size,b,h.box _ ab ab,h.box _ ab ab,bK.ag (m:=M) (o:=0) c⟩
  have hz:m2.size<=m2.size:=aFR _;repeat' first
   |exact fG hS
   |(refine cC hS ?_;intro x M' FA hS hX hZ;have hW:=hz;have hz:=aF8 hz hZ)
   |(refine cH hS ?_;intro x M' FA hS hX hZ;have hW:=hz;have hz:=aF8 hz hZ)
   |(intro mm;have hX:af _ mm:=(af.av _).aC _;have hQ:Array.size mm=_+1:=Array.size_push _;have hW:=hz;have hz:=aF8 hz hX.size;first|(obtain⟨FA,hS⟩:=hS.b (M2:=mm) rfl;clear_value mm)|(have hS:=hS.a hX;clear_value mm))
   |(refine And.intro (kp hX hW _) ?_)
   |(refine And.intro (af.cg hX λb hb=>by simp at hb;omega) ?_)
   |(refine⟨_,rfl,?_⟩)
   |(refine And.intro ?_ ?_)
 ·rintro⟨ob,oo⟩ m3 ⟨rfl,pX,q,r,fb,K3,hob,z3,r3,r3m,r3n,kb3⟩;simp only[]at hob r3 kb3;have ex9:∀{bG:Nat->Nat}{M:ah},Ch2 ro m bG M->af m M:=λc=>(c.none λb _=>hro b).Fk;have gL:=hs.ai.len;simp -zeta only[aGa];refine dg (n:=s.ai.length) ab (λk M=>∃bG fc,Cpy m0 ro m bG M q r s/\ns bG M fc (s.ai.take k)/\m2.size<=M.size/\bG ob=8/\bG m.size=8/\bG m1.size=8/\bK M ob iQ [.i s.bT,.i s.value,.i s.be,.i s.cV,.s q,.s r,.s fc])
   ⟨pX,_,K3,⟨[],⟨az,az,Or.inl rfl⟩,az,az,az⟩,z3,r3,r3m,r3n,kb3⟩ ?_
  rintro k m9 I μ hk ⟨ro9,fc,K9,F9,z9,r9,r9m,r9n,Z1⟩ next
  have en:Int.toNat (k:Int)=k:=ab;rw[en];have X9:=ex9 K9.dT;have lob:=Z1.lt;refine⟨λh1=>?_,λh1=>?_⟩
  ·simp only[aFP]at h1;have jk:k<s.ai.length:=ab;obtain⟨f,hf⟩:=ae jk;have hfb:=xp.ai f (ak hf);obtain⟨ra,oa,ha,ir,io,ih,g0,g1,g2,g3,g4,g5⟩:=hs.ai.aE hf;refine⟨ab,ab,_,X9.ad g0,_,X9.ad g1,_,X9.ad g2,ra,X9.ad g3,oa,X9.ad g4,ha,X9.ad g5,?_⟩;intro cK dm;have eB:af m9 dm:=((af.av m9).aC _).ag (aFR _) _ _;have DE:dm.size=m9.size+1:=by simp[dm,cK,aq]
   clear_value dm;have D11:cJ (λ_=>False) ro9 m9 (uG ro9 m9.size 8) dm:=cJ.uG eB K9.dT.new (aFR _) ab 8;have kk:∀{M M':ah}{b:Nat},af M M'->b<M.size->∀i,ad M' b i=ad M b i:=λhx cA i=>aA (hx.same _ cA) i;have bl:∀{M:ah},dm.size<=M.size->∀b∈[m9.size,m1.size,m.size],b<M.size:=λh b hb=>by simp at hb;omega
   refine⟨fc,(Z1.ext eB).bH 6,(eC (ir.ext (X9.trans eB)) ab).mono ?_⟩;rintro _ df ⟨qr,rfl,o12,fW⟩;obtain⟨amO,D12,VD,_⟩:=gQ.TR o12 fW D11.new (10+3*k);have MH:=fW.size;refine⟨fW.cg (bl (aFR _)),qr,rfl,kk fW ab _,kk fW ab _,kk fW ab _,kk fW ab _,kk fW ab _,kk fW ab _,(eC (io.ext (X9.trans (eB.trans fW))) ab).mono ?_⟩;rintro _ iC ⟨qo,rfl,o13,fF⟩;obtain⟨atu,D13,A13,_⟩:=gQ.TR o13 fF D12.new (11+3*k);have Sw:=fF.size;refine⟨fF.cg (bl ab),qo,rfl,kk fF ab _,kk fF ab _,kk fF ab _,kk fF ab _,kk fF ab _,(eC (ih.ext (X9.trans (eB.trans (fW.trans fF)))) ab).mono ?_⟩;rintro _ gK ⟨qh,rfl,o14,eU⟩;obtain⟨O9,D14,A14,_⟩:=gQ.TR o14 eU D13.new (12+3*k);have Sx:=eU.size;refine⟨eU.cg (bl ab),qh,rfl,kk eU ab _,kk eU ab _,kk eU ab _,kk eU ab _,?_⟩;intro kT;have lp:af gK kT:=(af.av gK).aC _;have Re:kT.size=gK.size+1:=by simp[kT]
   have k15:bK kT gK.size dh [.i f.dJ,.i f.pc,.i f.dst,.s qr,.s qo,.s qh]:=bK.push gK _ _;clear_value kT;have D15:cJ (λ_=>False) O9 gK O9 kT:=cJ.dS _ lp D14.new;have D9:cJ (λ_=>False) ro9 m9 O9 kT:=(((D11.trans D12).trans D13).trans D14).trans D15;have R14:O9 m9.size=8/\O9 m.size=8/\O9 m1.size=8/\O9 ob=8:=⟨by rw[D14.gG _ ab,D13.gG _ ab,D12.gG _ ab];exact fU _ _ _,by rw[D9.gG _ ab];exact r9m,by rw[D9.gG _ ab];exact r9n,by rw[D9.gG _ ab];exact r9⟩;have tk:(s.ai.take k).length=k:=bg;refine⟨kk lp ab _,ns.push (f:=f) (F9.dT D9 λ_ _=>id) D15.new (x:=.mk gK.size 0 1 1) rfl k15.iu (by rw[tk];exact(((VD.dT D13 id).dT D14 id).dT D15 id)) (by rw[tk];exact(A13.dT D14 id).dT D15 id) (by rw[tk];exact A14.dT D15 id) ab λQY fc' pV F16 C16=>?_⟩;have z16:=C16.size;have R16:QY m9.size=8/\QY m.size=8/\QY m1.size=8/\QY ob=8:=⟨by rw[C16.gG _ ab];exact R14.1,by rw[C16.gG _ ab];exact R14.2.1,by rw[C16.gG _ ab];exact R14.2.2.1,by rw[C16.gG _ ab];exact R14.2.2.2⟩;have amU:bK pV ob iQ [.i s.bT,.i s.value,.i s.be,.i s.cV,.s q,.s r,.s fc]:=(Z1.ext D9.Fk).congr (C16.eg _ ab (by rw[R14.2.2.2];decide));refine⟨C16.apf λb hb=>by simp at hb;rcases hb with e|e|e<;>rw[e]<;>refine⟨ab,?_⟩<;>simp[R14.1,R14.2.1,R14.2.2.1],amU.dW az,?_⟩;intro oB;have C17:cJ (λk=>k=8) QY pV QY oB:=cJ.ag C16.new (show(λk=>k=8) (QY ob)from R16.2.2.2) _ _;have s17:oB.size=pV.size:=aq _ _ _ _;refine⟨λb hb=>aP _ _ _ _ (by simp at hb;omega),next ab _ ⟨QY,fc',((K9.qT D9 λ_=>False.elim).qT C16 λk hk=>ab).qT C17 λk hk=>ab,?_,ab,R16.2.2.2,R16.2.1,R16.2.2.1,bK.ag (m:=pV) (o:=6) (r:=[.s fc']) amU⟩⟩;rw[bn hf];exact F16.dT C17 λk hk=>ab
  ·simp only[aFQ]at h1;rw[bL ab]at F9;refine⟨_,Z1.bH 0,_,Z1.bH 1,_,Z1.bH 2,_,Z1.bH 3,_,Z1.bH 4,_,Z1.bH 5,_,Z1.bH 6,?_⟩;intro cK;have C10:cJ (λk=>k=8) ro9 m9 ro9 cK:=cJ.ag K9.dT.new (show(λk=>k=8) (ro9 m1.size)from r9n) _ _;have K10:=K9.qT C10 λk hk=>ab;have D:=K10.dT.none λb _=>hro b;exact⟨ro9,q,r,fc,rfl,⟨B.dT D,K10.aT,K10.heap,F9.dT C10 λk hk=>ab⟩,D⟩
end
section
def Sf:St:=⟨0,0,0,0,[],[],[]⟩
structure Run where
 s:St
 ok:Bool
theorem bR.fY{im:bq}{s:St}(h:bR im s){n:Nat}(hS:Sm n s)(hn:n<=900000000):Hr s:=by
 refine⟨by have:=hS.aT;omega,λc hc=>(h.heap.cell c hc).fl,by have:=hS.heap;omega,?_,λf hf=>?_⟩
 ·have:=h.jT;have:=h.be;have:=h.cV;omega
 ·have hG:=h.ai f hf;obtain⟨pg,_,FG,hPg,_⟩:=hG.Ki h.eG;have q1:=hG.lr;have q2:=hG.lo;have q3:=hG.lh;rw[FG]at q1 q2 q3;have:=hPg.an;omega
theorem Dg.sm{s:St}(h:Dg s){n:Nat}(h1:s.heap.length<=n)(h2:s.aT.length<=n):Sm n s:=⟨h1,h2,λg hg w hw=>((h.ai g hg).1 w hw).2⟩
section
variable{m0:ah}{ro:Nat->Nat}{m:ah}{aT hp fr:Sl}{s:St}
theorem rD.Lc(h:rD m0 ro m aT hp fr s)(hs:Hr s):eu m aT hp fr s:=
 ⟨h.aT.oX (by have:=hs.aT;omega),h.heap.cells (by have:=hs.heap;omega),h.ai.Lc (by have:=hs.jT;omega) hs.ai⟩
theorem rD.dj(h:rD m0 ro m aT hp fr s){m2:ah}(hx:af m m2){mb e:Nat}{bx:List Ce}(hb:m.size<=mb)(kb:bK m2 mb e bx):BE m0 (uG ro mb 1) m2 mb e bx aT hp fr s.aT s.heap s.ai:=by
 have C:cJ (λ_=>False) ro m (uG ro mb 1) m2:=cJ.uG hx h.bs.new hb kb.lt 1;have B:=h.bs.dT C;exact⟨B.bN,B.jh,B.new,kb,fU _ _ _,h.aT.dT C id,h.heap.dT C id id,h.ai.dT C λ_ _=>id⟩
theorem rD.nil{m0 m:ah}(hx:af m0 m):rD m0 (λ_=>0) m .nil .nil .nil Sf:=
 ⟨⟨hx,λ_ _=>rfl,λ_ _=>rfl⟩,⟨by simp[Sf],az,Or.inl rfl⟩,⟨[],⟨az,az,Or.inl rfl⟩,by simpa[Sf]using eQ.nil _ _,Sep.nil⟩,ns.none⟩
theorem BE.Lc{mb e:Nat}{bx:List Ce}(L:BE m0 ro m mb e bx aT hp fr s.aT s.heap s.ai)(hs:Hr s):eu m aT hp fr s:=
 rD.Lc (ro:=ro) ⟨⟨L.bN,L.jh,L.new⟩,L.aT,L.heap,L.ai⟩ hs
end
theorem fB.up{ro:Nat->Nat}{m m' mx:ah}{e sz k:Nat}{s:Sl}{l:List Ce}(h:fB ro m e sz k s l)(hk:k≠0)(h0:∀b,b<mx.size->ro b=0)(hM:∀b,mx.size<=b->b<m.size->m'[b]? =m[b]?):fB ro m' e sz k s l:=
 h.eg (λhc=>hM _ (aHF λcA=>hk (by rw[<-(h.ao hc).2];exact h0 _ cA)) (h.ao hc).1) λ_=>rfl
theorem rD.Sg{mx m M M':ah}{ro:Nat->Nat}{aT hp fr:Sl}{s:St}(h:rD mx ro M aT hp fr s)(hs:m.size<=mx.size)(hz:M.size<=M'.size)(hk:∀b,mx.size<=b->b<M.size->M'[b]? =M[b]?)(hm:af m M'):rD m ro M' aT hp fr s:=by
 have h0:=h.bs.jh;refine⟨⟨hm,λb hb=>h0 b ab,λb hb=>h.bs.new b ab⟩,h.aT.up aO h0 hk,?_,?_⟩
 ·obtain⟨css,a1,a2,a3⟩:=h.heap;refine⟨css,a1.up aO h0 hk,a2.mono λcs c⟨f,e1,e2,e3⟩=>⟨f,e1,mq e2 λcx=>hk _ (e3 cx).2.1 (nt e2 cx),λcx=>?_⟩,a3⟩;obtain⟨g1,g2,cc,tail,g3,g4⟩:=e3 cx;exact⟨g1,ab,cc,tail,g3,g4.congr (hk _ g2 g4.lt)⟩
 ·obtain⟨css,a⟩:=h.ai;exact⟨css,a.rm.up aO h0 hk,a.len,a.size,λi cs f h1 h2=>by
   obtain⟨r,o,hh,e,b1,b2,b3⟩:=a.cq i cs f h1 h2;exact⟨r,o,hh,e,b1.up ab h0 hk,b2.up ab h0 hk,b3.up ab h0 hk⟩⟩
theorem rD.box{mx m M:ah}{ro:Nat->Nat}{aT hp fr:Sl}{s:St}(h:rD mx ro M aT hp fr s)(hx:af m mx){nb:Nat}(h1:m.size<=nb)(h2:nb<mx.size)(o:Nat)(l:List Ce):rD m ro (ag M nb o l) aT hp fr s:=
 h.Sg hx.size (aHD (aq _ _ _ _).symm) (λb hb _=>aP _ _ _ _ ab) ((hx.trans h.bs.bN).ag h1 _ _)
theorem rD.ext{m0 M M':ah}{ro:Nat->Nat}{aT hp fr:Sl}{s:St}(h:rD m0 ro M aT hp fr s)(hx:af M M'):rD m0 ro M' aT hp fr s:=h.Sg (aFR _) hx.size (λb _ hb=>hx.same b hb) (h.bs.bN.trans hx)
theorem Bs.EA(m:ah):Bs m (λ_=>0) m:=⟨af.av _,λ_ _=>rfl,λ_ _=>rfl⟩
section
variable{m:ah}{d p aT hp fr:Sl}{im:bq}{s:St}
variable(qD:dU m d p im)(hs:eu m aT hp fr s)(dp:Dg s)(If:s.aT.length<=10000000)
include qD hs dp If
omit qD hs in
end
end
section
theorem TU{M:ah}{k b:Nat}(hb:b<k)(h:k<=M.size):(M.extract 0 k)[b]? =M[b]? :=((af.Pb h).same b (by rw[jz h];exact hb)).symm
theorem rD.old{mx M M':ah}{ro:Nat->Nat}{aT hp fr:Sl}{s:St}(h:rD mx ro M aT hp fr s)(hz:M.size<=M'.size)(hk:∀b,mx.size<=b->b<M.size->M'[b]? =M[b]?):rD (M'.extract 0 mx.size) ro M' aT hp fr s:=
 have e:=aF8 h.bs.bN.size hz
 h.Sg (by rw[jz e];exact aFR _) hz hk (af.Pb e)
theorem BE.old{m0 M M':ah}{ro:Nat->Nat}{mb e:Nat}{bx:List Ce}{aT hp fr:Sl}{s:St}(L:BE m0 ro M mb e bx aT hp fr s.aT s.heap s.ai)(hmb:m0.size<=mb)(hz:M.size<=M'.size)(hk:∀b,m0.size<=b->b<M.size->M'[b]? =M[b]?):BE (M'.extract 0 m0.size) ro M' mb e bx aT hp fr s.aT s.heap s.ai:=
 have N:=rD.old (s:=s) ⟨⟨L.bN,L.jh,L.new⟩,L.aT,L.heap,L.ai⟩ hz hk
 ⟨N.bs.bN,N.bs.jh,N.bs.new,L.box.congr (hk _ hmb L.box.lt),L.Tz,N.aT,N.heap,N.ai⟩
theorem afs{Y:List Nat}{m M:ah}(f:Fz Y m M):Le (aY Y m) (M.extract 0 m.size):=λb o v hv=>by
 obtain⟨h1,h2⟩:=cT.1 hv;have hb:=tH h2;rw[aA ((TU hb f.size).trans (f.same b hb h1))];exact h2
def GSt(im:bq)(rb:Nat)(bs:Sl)(m:ah)(P:Nat)(v:Value)(m':ah):Prop:=∃n ro aT hp fr s,v=TP s aT hp fr/\rD (m'.extract 0 n) ro m' aT hp fr s/\m.size<=n/\n<=m'.size/\bR im s/\Sm 100000 s/\Rd rb bs P m'/\Fz [rb] m m'
section
variable{S:List Nat}{m:ah}{rb P:Nat}{bs d p:Sl}{im:bq}
theorem Hs(h0:Rd rb bs P m)(hP:P+100<=10000000000000000)(hd:br (aY [rb] m) d im.aI)(hp:eV (aY [rb] m) p im.bJ)(lx:kN im):aD Tryz.prog 18 [vp rb 0,.agg #[Sl.v d,Sl.v p]] m (GSt im rb bs m (P+6)):=by
 apply xL (rb,0);simp -zeta only[aw,ax];have hr:=h0.lt;intro m1 m2;obtain⟨x2,hl⟩:=cv (m1:=m1) (m2:=m2) rfl rfl;have s1:m1.size=m.size+1:=by simp[m1]
 have B2:bK m2 m.size tf [.s d,.s p]:=(bK.push m _ _).ext (af.push m1 _);clear_value m2;have r2:Rs rb bs m P m2:=⟨x2.fz _,h0.ext x2⟩;intro m3;have x3:af m2 m3:=af.push _ _;have G3:∀o,ad m3 m.size o=ad m2 m.size o:=λo=>aA (x3.same _ B2.lt) o;refine⟨G3 _,G3 _,G3 _,G3 _,?_⟩;refine(zl r2 ab [40,40,12,3,0,20] rfl rfl az).mono λ_ m4⟨cV,e,Im,r4,f4⟩=>?_;have z3:=x3.size;have z2:=x2.size;have f4:Fz [rb] m3 m4:=f4;have z4:=f4.size;have hm1:=hl m1.size az;have hm:0<=cV/\cV<=40:=by simp at Im;omega
 have G4:∀o,ad m4 m.size o=ad m3 m.size o:=λo=>aA (f4.same _ ab bg) o;refine⟨f4.cg λb hb=>by have:=hl b hb;simp at hb⊢;omega,cV,e,G4 _,G4 _,G4 _,G4 _,?_⟩;have im4:∀{M:ah},Fz [rb] m M->dU M d p im:=λf=>have w:=(f.bO (S:=[rb]) az).trans (aV _ _);⟨hd.le w,eV.le w hp⟩;refine(Dm (im4 r4.f) lx cV).mono ?_;rintro _ m5 ⟨aT,Ac,fr,rfl,LF,b1,b2,b3,b4,k,q1,q2,q3,q4,q5,N,q6,k4⟩;have z5:=LF.size;have G5:∀o,ad m5 m.size o=ad m4 m.size o:=λo=>aA (LF.same _ ab) o;refine⟨LF.cg λb hb=>by have:=hl b hb;omega,_,_,_,_,_,_,_,rfl,G5 _,G5 _,?_⟩;intro m6;have x6:af m5 m6:=af.push _ _;have kb:bK m6 m5.size a9 (SB d p (jq im cV) aT Ac fr):=bK.push m5 _ _;have L6:=Xr (m:=m4) (Pb:=[.s d,.s p]) ⟨q1,q2,q3,q4,q5⟩ N q6 k4 x6 (aFR _) kb;have s6:m6.size=m5.size+1:=by simp[m6]
 clear_value m6;have r6:=(r4.ext LF).ext x6;have L:∀{M:ah},m6.size<=M.size->Lw rb [m5.size,m1.size,m.size] M:=λh=>lw hr bg;refine(bo r6.r ab 60).mono λ_ m7⟨c1,e,c10,c11,d7,f7⟩=>⟨(L (aFR _)).cg f7,c1,e,?_⟩;have z7:=f7.size;refine(bo d7 ab 200).mono λ_ m8⟨c2,e,c20,c21,d8,f8⟩=>⟨(L z7).cg f8,c2,e,?_⟩;have z8:=f8.size;refine(bo d8 ab 20).mono λ_ m9⟨c3,e,c30,c31,d9,f9⟩=>⟨(L ab).cg f9,c3,e,?_⟩;have z9:=f9.size;refine(bo d9 ab 100).mono λ_ cK⟨c4,e,c40,c41,d10,f10⟩=>⟨(L ab).cg f10,c4,e,?_⟩;have wh:=f10.size;have amV:=((f7.trans f8).trans f9).trans f10;have FC:=r6.to amV d10;have eB:=af.push cK (.cells (aU [.i c1,.i c2,.i c3,.i 100000,.i 0,.i c4]) au);have xw:=eB.size;refine(zl FC ab [c1,c2,c3,100000,0,c4] rfl rfl az).mono λ_ df⟨many,e,QA,O8,f12⟩=>?_;have f12:Fz [rb] (cK.push (.cells (aU [.i c1,.i c2,.i c3,.i 100000,.i 0,.i c4]) au)) df:=f12;refine⟨(L (aF8 (by omega:m6.size<=cK.size) eB.size)).cg f12,many,e,?_⟩;have MH:=f12.size;obtain⟨n,rfl⟩:∃n:Nat,many=n:=⟨many.toNat,by simp at QA;omega⟩;have hn:n<=100000:=by simp at QA;omega
 have ahm:=(amV.trans (eB.fz _)).trans f12;have atw:=((LF.trans x6).fz [rb]).trans ahm;have L12:=L6.old (s:=jq im cV) (M':=df) ab ahm.size λb h1 h2=>ahm.same b h2 bg;have e0:(df.extract 0 m4.size).size=m4.size:=jz ab;have w4:Le (aY [rb] m) (df.extract 0 m4.size):=(r4.f.bO az).trans (afs atw);refine(Qo (s:=jq im cV) L12 ⟨hd.le w4,eV.le w4 hp⟩ (Kl lx hm) (Qn im cV) n hn ab).mono ?_;rintro _ iC ⟨⟨nn,rfl⟩,atu,o13,uJ,f13,L13,t13⟩;have aeV:=Kk n (Kl lx hm);have abH:=Lf n (Kl lx hm) (Qn im cV) ab;have aeW:=aeV.fY abH ab;generalize ar im n (jq im cV)=st at*;have fF:=L13.bN;have Sw:=t13.size;have Zw:∀b,b<m4.size->iC[b]? =df[b]? :=λb hb=>(fF.same b ab).trans (TU hb ab);have Ik:Rs rb bs m (P+6) iC:=by
  have f:Fz [rb] m iC:=⟨ab,λb hb hn=>(Zw b ab).trans (O8.f.same b hb hn)⟩;exact⟨f,(h0.Mr O8.r f (Zw rb ab)).mono ab⟩
 refine⟨t13.eS λb hb=>⟨by have:=hl b hb;omega,L12.jh b (by have:=hl b hb;omega)⟩,nn,rfl,_,L13.box.bH 2,_,L13.box.bH 3,_,L13.box.bH 4,_,L13.box.bH 5,o13,L13.box.bH 6,uJ,L13.box.bH 7,f13,L13.box.bH 8,(Fl (Bs.EA iC) (λ_=>aGq _) (L13.Lc aeW) aeW).mono ?_⟩;rintro _ gK ⟨O9,o14,xh,f14,rfl,N14,C14⟩;have eU:=C14.Fk;have Sx:=eU.size;refine⟨eU.cg λb hb=>by have:=hl b hb;omega,_,_,_,_,o14,xh,f14,rfl,?_⟩;have Uu:=(Ik.ext eU).put h0 (k:=m1.size) ab 0 [.i st.bT,.i st.value,.i st.be,.i st.cV,.s o14,.s xh,.s f14];exact⟨iC.size,O9,o14,xh,f14,st,rfl,N14.old (aHD (aq _ _ _ _).symm) λb hb _=>aP _ _ _ _ ab,ab,by rw[aq];exact Sx,aeV,⟨by have:=abH.heap;omega,by have:=abH.aT;omega,abH.zc⟩,Uu.r,Uu.f⟩
end
end
section
theorem bR.apg{im:bq}{s:St}(h:bR im s)(hS:Sm 100000 s):Dg s:=by
 have hs:=h.fY hS ab;have hc:=h.be;have hm:=h.cV;have hl:=hS.heap;have C:=OD h;have d:=hs.jT;refine⟨⟨ab,ab⟩,λc hc w hw=>?_,λf hf=>?_,ab,ab,λf hf=>by have:=hs.ai f hf;omega⟩
 ·have k:=h.heap.cell c hc;rcases aHQ c.aG 1 with e|e
  ·have:=(k.vC e).2.1 w hw;exact⟨ab,ab⟩
  ·rcases(k.nM ab).1 w hw with e|⟨e,c',e',_⟩
   ·exact⟨by have:=e.1;omega,by have:=e.2;omega⟩
   ·have:=ap e';have:=fD e;exact⟨ab,ab⟩
 ·obtain⟨k,hk⟩:=List.mem_iff_getElem?.1 hf;have F:=C.ai k f hk;refine⟨λw hw=>⟨?_,hS.zc f hf w hw⟩,λo ho=>?_,λw hw=>?_⟩
  ·rcases(h.ai f hf).Rz w hw with e|e
   ·have:=e.1;omega
   ·omega
  ·obtain⟨j,hj⟩:=List.mem_iff_getElem?.1 ho;have:=F.lr;have:=F.lo;have:=ap hj;obtain⟨w,hw⟩:=ae (l:=f.an) (k:=j) ab;have:=(F.an.cq j w o hw hj).2.1;exact⟨ab,ab⟩
  ·rcases C.aQ.cp f hf w hw with e|⟨e,e'⟩
   ·exact⟨ab,ab⟩
   ·have:=fD e;exact⟨ab,ab⟩
structure Mv(n:Nat)(ro:Nat->Nat)(M:ah)(bG:Nat->Nat)(M':ah):Prop where
 size:M.size<=M'.size
 eg:∀b,b<M.size->n<=b->M'[b]? =M[b]?
 gG:∀b,b<M.size->bG b=ro b
 new:∀b,M'.size<=b->bG b=0
 jh:∀b,b<n->ro b=0
section
variable{n:Nat}{ro bG:Nat->Nat}{M M':ah}
theorem fB.mv{e sz k:Nat}{s:Sl}{l:List Ce}(h:fB ro M e sz k s l)(v:Mv n ro M bG M')(hk:k≠0):fB bG M' e sz k s l:=
 h.eg (λhc=>v.eg _ (h.ao hc).1 (aHF λe=>hk (by rw[<-(h.ao hc).2];exact v.jh _ e))) λhc=>v.gG _ (h.ao hc).1
theorem dk.mv{hp:Sl}{h:List aR}(hh:dk n ro M hp h)(v:Mv n ro M bG M'):dk n bG M' hp h:=by
 obtain⟨css,a1,a2,a3⟩:=hh;refine⟨css,a1.mv v aO,a2.mono λcs c⟨f,e1,e2,e3⟩=>⟨f,e1,mq e2 λcx=>v.eg _ (nt e2 cx) (e3 cx).2.1,λcx=>?_⟩,a3⟩;obtain⟨g1,g2,cc,tail,g3,g4⟩:=e3 cx;exact⟨(v.gG _ g4.lt).trans g1,g2,cc,tail,g3,g4.congr (v.eg _ g4.lt g2)⟩
theorem Zz.mv{i:Nat}{cs:List Ce}{f:aM}(v:Mv n ro M bG M'):Zz ro M i cs f->Zz bG M' i cs f:=λ⟨r,o,h,e,a,b,c⟩=>⟨r,o,h,e,a.mv v ab,b.mv v ab,c.mv v ab⟩
theorem ru.mv{fr:Sl}{fs:List aM}{f:aM}{r o h:Sl}{css:List (List Ce)}(T:ru ro M fr fs f r o h css)(v:Mv n ro M bG M'):ru bG M' fr fs f r o h css:=
 ⟨T.rm.mv v aO,T.len,T.size,λi cs g h1 h2=>(T.cq i cs g h1 h2).mv v,T.an.mv v ab,T.aL.mv v ab,T.aQ.mv v ab⟩
theorem ns.mv{fr:Sl}{fs:List aM}(hh:ns ro M fr fs)(v:Mv n ro M bG M'):ns bG M' fr fs:=by
 obtain⟨css,h⟩:=hh;exact⟨css,h.rm.mv v aO,h.len,h.size,λi cs f h1 h2=>(h.cq i cs f h1 h2).mv v⟩
theorem ru.put{fr:Sl}{fs:List aM}{f g:aM}{r o h r' o' h':Sl}{css:List (List Ce)}(T:ru ro M fr fs f r o h css)(hn:∀b,M.size<=b->ro b=0){i:Nat}(hi:i<6){c:Ce}
 (hc:fP [.i f.dJ,.i f.pc,.i f.dst,.s r,.s o,.s h] i [c]=[.i g.dJ,.i g.pc,.i g.dst,.s r',.s o',.s h'])(h1:fB ro M au 1 (10+3*fs.length) r' (g.an.map Ce.i))(h2:fB ro M au 1 (11+3*fs.length) o' (g.aL.map Ce.i))(h3:fB ro M au 1 (12+3*fs.length) h' (g.aQ.map Ce.i)):
 dW M fr.ao (fr.off+fs.length*6+i) 1/\ru ro (ag M fr.ao (fr.off+fs.length*6+i) [c]) fr fs g r' o' h' css/\cJ (λk=>4<=k/\k≠9) ro M ro (ag M fr.ao (fr.off+fs.length*6+i) [c]):=by
 have hb:=T.ao
 have hC:cJ (λk=>k=4) ro M ro (ag M fr.ao (fr.off+fs.length*6+i) [c]):=cJ.ag hn hb.1 _ _
 have hl:css.flatten.length=fs.length*6:=by rw[bZ T.size,T.len]
 refine⟨by rw[aGm];exact T.rm.wr (by simp only[aF4,hl,aF5,aGv];omega),⟨?_,T.len,T.size,T.wc hC λk h2 h3=>ab,h1.dT hC ab,h2.dT hC ab,h3.dT hC ab⟩,hC.mono λk hk=>ab⟩
 have:=T.rm.set (o:=fs.length*6+i) (new:=[c]) (by simp[hl];omega)
 rw[kE _ _ _ _ ab,hl,aHw,hc]at this
 rw[aGm];exact this
end
structure SO(n:Nat)(ro:Nat->Nat)(M:ah)(aT hp fr:Sl)(s:St):Prop where
 le:n<=M.size
 jh:∀b,b<n->ro b=0
 new:∀b,M.size<=b->ro b=0
 aT:fB ro M au 1 2 aT (s.aT.map Ce.i)
 heap:dk n ro M hp s.heap
 ai:ns ro M fr s.ai
structure FS(s:St):Prop where
 zc:Dg s
 fY:Hr s
section
variable{n:Nat}{ro bG:Nat->Nat}{M M':ah}{aT hp fr:Sl}{s:St}
theorem SO.of(N:rD (M.extract 0 n) ro M aT hp fr s)(h:n<=M.size):SO n ro M aT hp fr s:=⟨h,λb hb=>N.bs.jh b (by rw[jz h];exact hb),N.bs.new,N.aT,by have:=N.heap;rwa[jz h]at this,N.ai⟩
theorem SO.mv(w:SO n ro M aT hp fr s)(v:Mv n ro M bG M'):SO n bG M' aT hp fr s:=⟨aF8 w.le v.size,λb hb=>(v.gG b (aFY hb w.le)).trans (w.jh b hb),v.new,w.aT.mv v aO,w.heap.mv v,w.ai.mv v⟩
theorem SO.mvF(w:SO n ro M aT hp fr s){rb:Nat}(f:Fz [rb] M M')(hr:rb<n):Mv n ro M ro M':=⟨f.size,λb hb hn=>f.same b hb bg,λ_ _=>rfl,λb hb=>w.new b (aF8 f.size hb),w.jh⟩
theorem SO.dT{p:Nat->Prop}(w:SO n ro M aT hp fr s)(C:cJ p ro M bG M'):n<=M'.size/\(∀b,b<n->bG b=0)/\∀b,M'.size<=b->bG b=0:=⟨aF8 w.le C.size,λb hb=>(C.gG b (aFY hb w.le)).trans (w.jh b hb),C.new⟩
theorem SO.box(w:SO n ro M aT hp fr s){b:Nat}(hb:ro b=1)(o:Nat)(l:List Ce):SO n ro (ag M b o l) aT hp fr s:=by
 have C:cJ (λk=>k=1) ro M ro (ag M b o l):=cJ.ag w.new hb _ _;obtain⟨a,b,c⟩:=w.dT C;exact⟨a,b,c,w.aT.dT C aO,w.heap.dT C aO aO,w.ai.dT C λk hk=>ab⟩
theorem SO.Kr(w:SO n ro M aT hp fr s)(C:cJ (λk=>k=2) ro M bG M'){q:Sl}{l:List Int}(A:fB bG M' au 1 2 q (l.map Ce.i)):SO n bG M' q hp fr {s with aT:=l}:=
 let⟨a,b,c⟩:=w.dT C
 ⟨a,b,c,A,w.heap.dT C aO aO,w.ai.dT C λk hk=>ab⟩
theorem SO.gU(w:SO n ro M aT hp fr s)(C:cJ (λk=>k=3) ro M bG M'){q:Sl}{h:List aR}(A:dk n bG M' q h):SO n bG M' aT q fr {s with heap:=h}:=
 let⟨a,b,c⟩:=w.dT C
 ⟨a,b,c,w.aT.dT C aO,A,w.ai.dT C λk hk=>ab⟩
theorem SO.jJ(w:SO n ro M aT hp fr s)(C:cJ (λk=>4<=k/\k≠9) ro M bG M'){q:Sl}{l:List aM}(A:ns bG M' q l):SO n bG M' aT hp q {s with ai:=l}:=
 let⟨a,b,c⟩:=w.dT C
 ⟨a,b,c,w.aT.dT C aO,w.heap.dT C aO aO,A⟩
theorem SO.Lc(w:SO n ro M aT hp fr s)(h:Hr s):eu M aT hp fr s:=⟨w.aT.oX (by have:=h.aT;omega),w.heap.cells (by have:=h.heap;omega),w.ai.Lc (by have:=h.jT;omega) h.ai⟩
end
end
section
def SP(n rb:Nat)(bs:Sl)(ma:ah)(P:Nat)(v:Value)(m':ah):Prop:=∃aT hp fr s,v=TP s aT hp fr/\(∀M',m'.size<=M'.size->(∀b,b<m'.size->n<=b->M'[b]? =m'[b]?)->eu M' aT hp fr s)/\Dg s/\Rs rb bs ma P m'
structure SQ(n rb:Nat)(bs:Sl)(ma:ah)(k1 k2 Q:Nat)(ro:Nat->Nat)(M:ah)(aT hp fr:Sl)(s:St):Prop where
 w:SO n ro M aT hp fr s
 r:Rs rb bs ma Q M
 k1:ro k1=1/\k1<M.size/\n<=k1
 k2:ro k2=1/\k2<M.size/\n<=k2
 fs:FS s
section
variable{n rb k1 k2 Q Q' P P0:Nat}{bs aT hp fr:Sl}{ma M M':ah}{ro bG:Nat->Nat}{s s':St}{L:List Nat}
theorem SQ.fz(h:SQ n rb bs ma k1 k2 Q ro M aT hp fr s)(hr:rb<n)(f:Fz [rb] M M')(r:Rs rb bs ma Q' M'):SQ n rb bs ma k1 k2 Q' ro M' aT hp fr s:=
 ⟨h.w.mv (h.w.mvF f hr),r,⟨h.k1.1,aFY h.k1.2.1 f.size,h.k1.2.2⟩,⟨h.k2.1,aFY h.k2.2.1 f.size,h.k2.2.2⟩,h.fs⟩
theorem SQ.ext(h:SQ n rb bs ma k1 k2 Q ro M aT hp fr s)(hr:rb<n)(x:af M M'):SQ n rb bs ma k1 k2 Q ro M' aT hp fr s:=h.fz hr (x.fz _) (h.r.ext x)
theorem SQ.dX(h:SQ n rb bs ma k1 k2 Q ro M aT hp fr s)(hr:rb<n)(hL:∀b∈L,b=k1\/b=k2)(f:Fz [rb] M M'):da L M M':=f.cg λb hb=>by
 have:=h.k1;have:=h.k2;rcases hL b hb with e|e<;>simp only[aG1]<;>omega
theorem SQ.gk(h:SQ n rb bs ma k1 k2 Q ro M aT hp fr s)(hr:rb<n)(f:Fz [rb] M M')(o:Nat):ad M' k2 o=ad M k2 o:=aA (f.same _ h.k2.2.1 (by have:=h.k2;simp only[aG1];omega)) o
theorem SQ.done(h:SQ n rb bs ma k1 k2 Q ro M aT hp fr s)(h0:Rd rb bs P0 ma)(hn:ma.size<=n)(hQ:Q<=P){a b c d:Int}(hc:Hk c)(l:List Ce):SP n rb bs ma P (.agg #[vi a,vi b,vi c,vi d,Sl.v aT,Sl.v hp,Sl.v fr]) (ag M k1 0 l):=by
 have w:=h.w.box h.k1.1 0 l;have r:=h.r.put h0 (k:=k1) (by have:=h.k1;omega) 0 l;exact⟨aT,hp,fr,⟨a,b,c,d,s.aT,s.heap,s.ai⟩,rfl,λM' z k=>have t:=(w.mv ⟨z,k,λ_ _=>rfl,λb hb=>w.new b (aF8 z hb),w.jh⟩).Lc h.fs.fY;⟨t.aT,t.heap,t.ai⟩,⟨hc,h.fs.zc.heap,h.fs.zc.ai,h.fs.zc.lh,h.fs.zc.lf,h.fs.zc.lr⟩,r.f,r.r.mono hQ⟩
theorem SQ.box(h:SQ n rb bs ma k1 k2 Q ro M aT hp fr s)(h0:Rd rb bs P0 ma)(hn:ma.size<=n)(o:Nat)(l:List Ce):SQ n rb bs ma k1 k2 Q ro (ag M k2 o l) aT hp fr s:=
 ⟨h.w.box h.k2.1 o l,h.r.put h0 (by have:=h.k2;omega) o l,by rw[aq];exact h.k1,by rw[aq];exact h.k2,h.fs⟩
theorem SQ.jm(h:SQ n rb bs ma k1 k2 Q ro M aT hp fr s)(hr:rb<n)(hQ:Q<=10000000000000000)(hL:∀b∈L,b=k1\/b=k2)(ls:List Int){cs:List Ce}{c:Nat}(kJ:cs=ls.map Ce.i)(hc:c=ls.length)(hl:0<ls.length/\ls.length<=100){K:Int->ah->Prop}
 (hk:∀t M',t∈ls->SQ n rb bs ma k1 k2 (Q+1) ro M' aT hp fr s->Fz [rb] (M.push (.cells (aU cs) au)) M'->K t M'):aD Tryz.prog 40 [vp rb 0,Sl.v (.mk M.size 0 c c)] (M.push (.cells (aU cs) au)) λv M'=>da L (M.push (.cells (aU cs) au)) M'/\∃t:Int,v=vi t/\K t M':=
 have x:=af.push M (.cells (aU cs) au)
 (zl h.r hQ ls kJ hc hl).mono λ_ M'⟨t,e,ht,r,f⟩=>⟨(h.ext hr x).dX hr hL f,t,e,hk t M' ht ((h.ext hr x).fz hr f r) f⟩
theorem SQ.pick(h:SQ n rb bs ma k1 k2 Q ro M aT hp fr s)(hr:rb<n)(hQ:Q<=10000000000000000)(hL:∀b∈L,b=k1\/b=k2)(c:Int){K:Int->ah->Prop}
 (hk:∀t M',0<=t->(t<c\/t=0)->SQ n rb bs ma k1 k2 (Q+1) ro M' aT hp fr s->Fz [rb] M M'->K t M'):aD Tryz.prog 34 [vp rb 0,vi c] M λv M'=>da L M M'/\∃t:Int,v=vi t/\K t M':=
 (bo h.r.r hQ c).mono λ_ M'⟨t,e,t0,t1,r,f⟩=>⟨h.dX hr hL f,t,e,hk t M' t0 t1 (h.fz hr f (h.r.to f r)) f⟩
theorem SQ.dT{p:Nat->Prop}(h:SQ n rb bs ma k1 k2 Q ro M aT hp fr s)(h0:Rd rb bs P0 ma)(hn:ma.size<=n)(C:cJ p ro M bG M')(hp:∀k,p k->2<=k){Fy Ac fr':Sl}(w:SO n bG M' Fy Ac fr' s')(fs:FS s'):SQ n rb bs ma k1 k2 Q bG M' Fy Ac fr' s':=
 have cA:=h0.lt
 have k0:∀b,b<n->M'[b]? =M[b]? :=λb hb=>C.eg b (aFY hb h.w.le) λe=>by have:=hp _ e;have:=h.w.jh b hb;omega
 have f:Fz [rb] ma M':=⟨aF8 h.r.f.size C.size,λb hb hm=>(k0 b ab).trans (h.r.f.same b hb hm)⟩
 ⟨w,⟨f,h0.Mr h.r.r f (k0 rb ab)⟩,⟨(C.gG _ h.k1.2.1).trans h.k1.1,aFY h.k1.2.1 C.size,h.k1.2.2⟩,⟨(C.gG _ h.k2.2.1).trans h.k2.1,aFY h.k2.2.1 C.size,h.k2.2.2⟩,fs⟩
theorem SQ.cg{p:Nat->Prop}(h:SQ n rb bs ma k1 k2 Q ro M aT hp fr s)(hL:∀b∈L,b=k1\/b=k2)(C:cJ p ro M bG M')(hp:∀k,p k->2<=k):da L M M':=λb hb=>by
 have a1:=h.k1;have a2:=h.k2;rcases hL b hb with e|e<;>subst e<;>exact C.eg _ ab λe=>by have:=hp _ e;omega
theorem SQ.fC(h:SQ n rb bs ma k1 k2 Q ro M aT hp fr s)(h1:bS ((fr.len:Int) -1)>=0):∃fs f r o q css,s.ai=fs++[f]/\ru ro M fr fs f r o q css/\bS ((fr.len:Int) -1)=(fs.length:Int)/\fr.len=fs.length+1:=by
 have F:=h.w.ai;have d:=h.fs.fY.jT;rcases List.eq_nil_or_concat s.ai with e|⟨fs,f,e⟩
 ·rw[e]at F;obtain⟨css,a⟩:=F;have:=a.rm.len;rw[bZ a.size,a.len]at this;simp only[aGv]at this;rw[aF ab ab]at h1;omega
 ·rw[List.concat_eq_append]at e;rw[e]at F d;obtain⟨r,o,q,css,T⟩:=F.fC;have:=T.EQ;simp at d;exact⟨fs,f,r,o,q,css,e,T,by rw[aF ab ab];omega,this⟩
theorem FS.fC(h:FS s){fs:List aM}{f g:aM}(e:s.ai=fs++[f])(hg:U0 g)(hl:g.an.length<=1000000/\g.aL.length<=1000000/\g.aQ.length<=1000000):FS {s with ai:=fs++[g]}:=by
 have a:=h.zc;have b:=h.fY;have hm:∀x∈fs,x∈s.ai:=λx hx=>by rw[e];simp[hx]
 have d:=b.jT;rw[e]at d;simp at d;refine⟨⟨a.be,a.heap,λx hx=>?_,a.lh,bg,λx hx=>?_⟩,⟨b.aT,b.fl,b.heap,bg,λx hx=>?_⟩⟩<;>rcases List.mem_append.1 hx with hx|hx
 ·exact a.ai x (hm x hx)
 ·simp at hx;rw[hx];exact hg
 ·exact a.lr x (hm x hx)
 ·simp at hx;rw[hx];omega
 ·exact b.ai x (hm x hx)
 ·simp at hx;rw[hx];exact hl
theorem SQ.rH(h:SQ n rb bs ma k1 k2 Q ro M aT hp fr s)(h0:Rd rb bs P0 ma)(hn:ma.size<=n){fs:List aM}{f g:aM}(e:s.ai=fs++[f]){r o q:Sl}{css:List (List Ce)}(T:ru ro M' fr fs g r o q css)(C:cJ (λk=>4<=k/\k≠9) ro M ro M')(hg:U0 g)(hl:g.an.length<=1000000/\g.aL.length<=1000000/\g.aQ.length<=1000000)
 (hL:∀b∈L,b=k1\/b=k2)(hQ:Q<=P){a b c d:Int}(hc:Hk c)(l:List Ce):da L M M'/\SP n rb bs ma P (.agg #[vi a,vi b,vi c,vi d,Sl.v aT,Sl.v hp,Sl.v fr]) (ag M' k1 0 l):=
 ⟨h.cg hL C λk hk=>ab,(h.dT h0 hn C (λk hk=>ab) (h.w.jJ C T.rH) (h.fs.fC e hg hl)).done h0 hn hQ hc l⟩
theorem Fm{im:bq}(h0:Rd rb bs P0 ma)(hn:ma.size<=n)(w:SO n ro M aT hp fr s)(r:Rs rb bs ma P M)(hP:P+100<=10000000000000000)(ok:bR im s)(hS:Sm 100000 s):aD Tryz.prog 17 [vp rb 0,TP s aT hp fr] M (SP n rb bs ma (P+6)):=by
 apply wz (rb,0);simp(config:={maxSteps:=1000000}) -zeta only[aw,ax];have hr:rb<n:=by have:=h0.lt;omega
 have le:=w.le;intro m1 m2;have s1:m1.size=M.size+1:=by simp[m1]
 have s2:m2.size=M.size+2:=by simp[m2,s1]
 have x2:af M m2:=(af.push M _).trans (af.push m1 _);clear_value m2;clear_value m1;have q2:SQ n rb bs ma m1.size M.size P (uG (uG ro M.size 1) m1.size 1) m2 aT hp fr s:=⟨w.mv ⟨x2.size,λb hb _=>x2.same b hb,λb hb=>by rw[dO ab,dO ab],λb hb=>by rw[dO ab,dO ab];exact w.new b ab,w.jh⟩,r.ext x2,⟨fU _ _ _,ab,ab⟩,⟨by rw[dO ab];exact fU _ _ _,ab,ab⟩,⟨ok.apg hS,ok.fY hS ab⟩⟩;generalize uG (uG ro M.size 1) m1.size 1=j8 at q2;have hL:∀b∈[m1.size,M.size],b=m1.size\/b=M.size:=az;have hc:=q2.fs.zc.be;have Im:=ok.cV;refine q2.pick hr ab hL 30 λi m3 _ _ q3 f3=>?_;have same:SP n rb bs ma (P+6) (.agg #[vi s.bT,vi s.value,vi s.be,vi s.cV,Sl.v aT,Sl.v hp,Sl.v fr]) (ag m3 m1.size 0 [.i s.bT,.i s.value,.i s.be,.i s.cV,.s aT,.s hp,.s fr]):=q3.done h0 hn ab hc _;have Mm:∀f∈s.ai,(1<=f.an.length/\f.an.length<=2000)/\f.aL.length<=2000/\1<=f.aQ.length:=λf hf=>by
  have hG:=ok.ai f hf;obtain⟨pg,_,FG,hPg,_⟩:=hG.Ki ok.eG;have a:=hG.lr;have b:=hG.lo;have c:=hG.lh;rw[FG]at a b c;have:=hPg.an;omega
 have IC:∀(a:Sl)(fb og:Nat)(ls:List Int){cs:List Ce}{c:Nat},j8 fb=4->fb<m3.size->cs=ls.map Ce.i->c=ls.length->0<ls.length/\ls.length<=100->∀{X:Int->Int->ah->Prop},(∀k t M',0<=k->(k<(a.len:Int)\/k=0)->t∈ls->SQ n rb bs ma m1.size M.size (P+3) j8 M' aT hp fr s->Mv n j8 m3 j8 M'->X k t M')->
  (aD Tryz.prog 34 [vp rb 0,vi (a.len:Int)] m3 λv m4=>da [m1.size,M.size] m3 m4/\∃k:Int,v=vi k/\ad m4 fb og=ad m3 fb og/\ad m4 M.size 6=ad m3 M.size 6/\(ad (m4.push (.cells (aU cs) au)) fb og=ad m4 fb og/\ad (m4.push (.cells (aU cs) au)) M.size 6=ad m4 M.size 6/\ad (m4.push (.cells (aU cs) au)) fb og=ad m4 fb og/\ad (m4.push (.cells (aU cs) au)) M.size 6=ad m4 M.size 6/\
   aD Tryz.prog 40 [vp rb 0,Sl.v (.mk m4.size 0 c c)] (m4.push (.cells (aU cs) au)) λv m6=>da [m1.size,M.size] (m4.push (.cells (aU cs) au)) m6/\∃t:Int,v=vi t/\ad m6 fb og=ad (m4.push (.cells (aU cs) au)) fb og/\ad m6 M.size 6=ad (m4.push (.cells (aU cs) au)) M.size 6/\X k t m6))/\
  (ad (m3.push (.cells (aU cs) au)) fb og=ad m3 fb og/\ad (m3.push (.cells (aU cs) au)) M.size 6=ad m3 M.size 6/\ad (m3.push (.cells (aU cs) au)) fb og=ad m3 fb og/\ad (m3.push (.cells (aU cs) au)) M.size 6=ad m3 M.size 6/\
   aD Tryz.prog 34 [vp rb 0,vi (a.len:Int)] (m3.push (.cells (aU cs) au)) λv m4=>da [m1.size,M.size] (m3.push (.cells (aU cs) au)) m4/\∃k:Int,v=vi k/\ad m4 fb og=ad (m3.push (.cells (aU cs) au)) fb og/\ad m4 M.size 6=ad (m3.push (.cells (aU cs) au)) M.size 6/\
    aD Tryz.prog 40 [vp rb 0,Sl.v (.mk m3.size 0 c c)] m4 λv m6=>da [m1.size,M.size] m4 m6/\∃t:Int,v=vi t/\ad m6 fb og=ad m4 fb og/\ad m6 M.size 6=ad m4 M.size 6/\X k t m6):=λa fb og ls cs c h4 hfb h1 h2 h3{X} hX=>by
  have nb:fb∉[rb]:=λe=>by simp at e;have:=q2.w.jh rb hr;rw[e]at h4;omega
  have ge:∀{M1 M2:ah},m3.size<=M1.size->Fz [rb] M1 M2->ad M2 fb og=ad M1 fb og:=λh f=>aA (f.same fb ab nb) og
  refine⟨?_,?_⟩
  ·refine q3.pick hr ab hL (a.len:Int) λk m4 k0 k1' q4 f4=>?_
   have x5:=af.push m4 (.cells (aU cs) au)
   have z4:=f4.size
   refine⟨ge (aFR _) f4,q3.gk hr f4 _,ge z4 (x5.fz _),q4.gk hr (x5.fz _) _,ge z4 (x5.fz _),q4.gk hr (x5.fz _) _,q4.jm hr ab hL ls h1 h2 h3 λt m6 ht q6 f6=>⟨ge (aF8 z4 x5.size) f6,(q4.ext hr x5).gk hr f6 _,hX k t m6 k0 k1' ht q6 (q3.w.mvF ((f4.trans (x5.fz _)).trans f6) hr)⟩⟩
  ·have x4:=af.push m3 (.cells (aU cs) au)
   have q4:=q3.ext hr x4
   have z4:=x4.size
   have lit:aj (aY [rb] (m3.push (.cells (aU cs) au))) (.mk m3.size 0 c c) ls:=aj.lit au ls (by simp;exact q3.r.r.lt) h1 h2 ab
   refine⟨ge (aFR _) (x4.fz _),q3.gk hr (x4.fz _) _,ge (aFR _) (x4.fz _),q3.gk hr (x4.fz _) _,q4.pick hr ab hL (a.len:Int) λk m5 k0 k1' q5 f5=>⟨ge z4 f5,q4.gk hr f5 _,?_⟩⟩
   refine(ij q5.r.r ab (aj.le (f5.bO az) lit) h3.1).mono λ_ m6⟨t,e,ht,r6,f6⟩=>⟨q5.dX hr hL f6,t,e,ge (aF8 z4 f5.size) f6,q5.gk hr f6 _,hX k t m6 k0 k1' ht (q5.fz hr f6 (q5.r.to f6 r6)) (q3.w.mvF (((x4.fz _).trans f5).trans f6) hr)⟩
 refine⟨λ_=>?_,λ_=>⟨λ_=>?_,λ_=>⟨λ_=>?_,λ_=>⟨λ_=>?_,λ_=>⟨λ_=>?_,λ_=>⟨λ_=>⟨λht=>?_,λ_=>same⟩,λ_=>⟨λ_=>⟨λht=>?_,λ_=>same⟩,λ_=>⟨λ_=>⟨λht=>?_,λ_=>same⟩,λ_=>⟨λ_=>⟨λht=>?_,λ_=>same⟩,λ_=>⟨λ_=>⟨λht=>?_,λ_=>same⟩,λ_=>same⟩⟩⟩⟩⟩⟩⟩⟩⟩⟩
 ·exact q3.jm hr ab hL [0,1,2,3,4,-1] rfl rfl az λt m4 _ q4 _=>(q4.box h0 hn _ _).done h0 hn ab hc _
 ·refine q3.jm hr ab hL [0,41,-1,bS (s.cV+1)] rfl rfl az λt m4 ht q4 _=>(q4.box h0 hn _ _).done h0 hn ab ?_ _;rw[aF ab ab]at ht;simp at ht;exact⟨ab,ab⟩
 ·exact q3.jm hr ab hL [5,1000,0] rfl rfl az λt m4 _ q4 _=>(q4.box h0 hn _ _).done h0 hn ab hc _
 ·have x4:=af.push m3 (.cells (aU [.i 5,.i 1000]) au);refine⟨q3.gk hr (x4.fz _) _,q3.jm hr ab hL [5,1000] rfl rfl az λt m5 _ q5 f5=>⟨(q3.ext hr x4).gk hr f5 _,?_⟩⟩;intro m6;have x6:af m5 m6:=af.push _ _;have iu:eK m6 m5.size 0 [.i t]:=(bK.push m5 [.i t] au).iu;clear_value m6;have q6:=q5.ext hr x6;have ol:=q6.w.aT.len;have os:=hS.aT;simp at ol;refine⟨q5.gk hr (x6.fz _) _,q6.w.aT.append (zs:=[.i 0]) q6.w.new rfl iu bg λbG q m7 A C=>⟨q6.cg hL C λk hk=>ab,?_⟩⟩;have q7:=q6.dT h0 hn C (λk hk=>ab) (q6.w.Kr (l:=s.aT++[t]) C (by rw[aGz];exact A)) ⟨⟨q6.fs.zc.be,q6.fs.zc.heap,q6.fs.zc.ai,q6.fs.zc.lh,q6.fs.zc.lf,q6.fs.zc.lr⟩,⟨bg,q6.fs.fY.fl,q6.fs.fY.heap,q6.fs.fY.jT,q6.fs.fY.ai⟩⟩;exact(q7.box h0 hn _ _).done h0 hn ab hc _
 ·have hlen:=q3.w.heap.len;refine⟨λh1=>?_,λ_=>same⟩;simp only[aHn,aFP]at h1;refine q3.pick hr ab hL (hp.len:Int) λa m4 a0 a1 q4 f4=>?_;obtain⟨c,FE⟩:=ae (l:=s.heap) (k:=a.toNat) ab;obtain⟨_,g0,-⟩:=q4.w.heap.bH FE;have hb:=q4.w.heap.ao (a:=a.toNat) ab;have nb:hp.ao≠rb:=λe=>by have:=q4.w.jh rb hr;rw[e]at hb;omega
  have x5:=af.push m4 (.cells (aU [.i 1,.i (-1)]) au);have e5:=λo=>aA (x5.same _ hb.2) o;refine⟨a0,ab,_,g0,e5 _,q4.gk hr (x5.fz _) _,q4.gk hr (x5.fz _) _,q4.jm hr ab hL [1,-1] rfl rfl az λt m6 _ q6 f6=>?_⟩;have e6:=λo=>aA (f6.same hp.ao (aFY hb.2 x5.size) (by simpa using nb)) o;have q5:=q4.ext hr x5;refine⟨e6 _,q5.gk hr f6 _,q5.gk hr f6 _,a0,ab,q6.w.heap.wr (o:=0) ab ab,?_⟩;obtain⟨H,C⟩:=q6.w.heap.EP q6.w.new FE (bS (c.aG+t));have F:=q6.fs.zc;have D:=q6.fs.fY;refine⟨q6.cg hL C λk hk=>ab,SQ.done (q6.dT h0 hn C (λk hk=>ab) (q6.w.gU C H) ⟨⟨F.be,λx hx=>?_,F.ai,by simpa using F.lh,F.lf,F.lr⟩,⟨D.aT,λx hx=>?_,by simpa using D.heap,D.jT,D.ai⟩⟩) h0 hn ab hc _⟩
  ·rcases aGd hx with e|e
   ·exact F.heap x e
   ·rw[e];exact F.heap c (ak FE)
  ·rcases aGd hx with e|e
   ·exact D.fl x e
   ·rw[e];exact D.fl c (ak FE)
 ·simp only[aHK,aFP]at ht;have x4:=af.push m3 (.cells (aU [.i 0,.i 1,.i 99,.i (-1)]) au);refine⟨q3.gk hr (x4.fz _) _,q3.jm hr ab hL [0,1,99,-1] rfl rfl az λt m5 _ q5 f5=>⟨(q3.ext hr x4).gk hr f5 _,?_⟩⟩;obtain⟨fs,f,r,o,q,css,e,T,ew,el⟩:=q5.fC ht;have BU:f∈s.ai:=by rw[e];simp
  have ff:=q5.fs.zc.ai f BU;have fl:=q5.fs.fY.ai f BU;rw[ew];obtain⟨wr,T',C⟩:=T.put (i:=1) (g:={f with pc:=t}) (c:=.i t) q5.w.new aO rfl T.an T.aL T.aQ;exact⟨ab,ab,wr,q5.rH h0 hn e T' C ff fl hL ab hc _⟩
 ·simp only[aHK,aFP]at ht;obtain⟨fs,f,r,o,q,css,e,T,ew,el⟩:=q3.fC ht;have BU:f∈s.ai:=by rw[e];simp
  have ff:=q3.fs.zc.ai f BU;have fl:=q3.fs.fY.ai f BU;rw[ew];obtain⟨_,_,_,_,g4,_⟩:=T.iu;have hl:=Mm f BU;refine⟨ab,ab,o,g4,(ou q3.r.r ab (T.aL.oX ab) ab).mono λ_ m4⟨a,l',e',g,BP,hm,r4,f4⟩=>⟨q3.dX hr hL f4,a,e',q3.gk hr f4 _,ab,ab,?_⟩⟩;have y:=g.aN;have v:Mv n j8 m3 (uG j8 a.ao (11+3*fs.length)) m4:=⟨f4.size,λb hb hn'=>f4.same b hb bg,λb hb=>dO ab,λb hb=>by rw[dO ab];exact q3.w.new b (aF8 f4.size hb),q3.w.jh⟩;have z4:=f4.size;have k1':=q3.k1;have k2':=q3.k2;have q4:SQ n rb bs ma m1.size M.size (P+4) (uG j8 a.ao (11+3*fs.length)) m4 aT hp fr s:=⟨q3.w.mv v,q3.r.to f4 r4,⟨(v.gG _ k1'.2.1).trans k1'.1,ab,k1'.2.2⟩,⟨(v.gG _ k2'.2.1).trans k2'.1,ab,k2'.2.2⟩,q3.fs⟩;have T4:=T.mv v;obtain⟨wr,T',C⟩:=T4.put (i:=4) (g:={f with aL:=l'}) (c:=.s a) q4.w.new aO rfl T4.an (fB.fQ (GI.aT g) λ_=>fU _ _ _) T4.aQ;exact⟨wr,q4.rH h0 hn e T' C ⟨ff.1,λw hw=>(hm w hw).elim (ff.2.1 w) λe=>⟨ab,ab⟩,ff.2.2⟩ ⟨fl.1,by show l'.length<=_;omega,fl.2.2⟩ hL ab hc _⟩
 ·simp only[aHK,aFP]at ht;obtain⟨fs,f,r,o,q,css,e,T,ew,el⟩:=q3.fC ht;have BU:f∈s.ai:=by rw[e];simp
  have ff:=q3.fs.zc.ai f BU;have fl:=q3.fs.fY.ai f BU;have hl:=Mm f BU;rw[ew];obtain⟨_,_,_,g3,_⟩:=T.iu;have rl:=T.an.len;simp at rl;refine⟨ab,ab,r,g3,ab,ab,r,g3,IC r fr.ao _ [0,5,1000,1003,-1000] T.ao.1 T.ao.2 rfl rfl az λk t m6 k0 k1' ht q6 v=>?_⟩;obtain⟨T',C⟩:=(T.mv v).Hi q6.w.new k0 ab t;exact⟨k0,ab,(T.mv v).an.VK k0 ab,q6.rH h0 hn e T' C ⟨λw hw=>(aGd hw).elim (ff.1 w) λe=>by simp at ht;exact⟨ab,ab⟩,ff.2⟩ ⟨by show(f.an.set _ _).length<=_;simp;omega,fl.2⟩ hL ab hc _⟩
 ·simp only[aHK,aFP]at ht;obtain⟨fs,f,r,o,q,css,e,T,ew,el⟩:=q3.fC ht;have BU:f∈s.ai:=by rw[e];simp
  have ff:=q3.fs.zc.ai f BU;have fl:=q3.fs.fY.ai f BU;have hl:=Mm f BU;rw[ew];obtain⟨_,_,_,_,_,g5⟩:=T.iu;have rl:=T.aQ.len;simp at rl;refine⟨ab,ab,q,g5,ab,ab,q,g5,IC q fr.ao _ [1000,1,1001] T.ao.1 T.ao.2 rfl rfl az λk t m6 k0 k1' ht q6 v=>?_⟩;obtain⟨T',C⟩:=(T.mv v).ER q6.w.new k0 ab t;exact⟨k0,ab,(T.mv v).aQ.VK k0 ab,q6.rH h0 hn e T' C ⟨ff.1,ff.2.1,λw hw=>(aGd hw).elim (ff.2.2 w) λe=>by simp at ht;exact⟨ab,ab⟩⟩ ⟨fl.1,fl.2.1,by show(f.aQ.set _ _).length<=_;simp;omega⟩ hL ab hc _⟩
 ·simp only[aHK,aFP]at ht;have x4:=af.push m3 (.cells (aU [.i 0,.i 1,.i 99,.i (-1)]) au);refine⟨q3.gk hr (x4.fz _) _,q3.jm hr ab hL [0,1,99,-1] rfl rfl az λt m5 _ q5 f5=>⟨(q3.ext hr x4).gk hr f5 _,?_⟩⟩;obtain⟨fs,f,r,o,q,css,e,T,ew,el⟩:=q5.fC ht;have BU:f∈s.ai:=by rw[e];simp
  have ff:=q5.fs.zc.ai f BU;have fl:=q5.fs.fY.ai f BU;rw[ew];obtain⟨wr,T',C⟩:=T.put (i:=2) (g:={f with dst:=t}) (c:=.i t) q5.w.new aO rfl T.an T.aL T.aQ;exact⟨ab,ab,wr,q5.rH h0 hn e T' C ff fl hL ab hc _⟩
end
end
end Go.Proofs.YtakpkjhmbbfniaaGreat
