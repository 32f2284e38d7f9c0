/- Part of a proof, joined by a program. -/
import Derived.Test.YtakpkjhmbbfniaaGreatV11
set_option linter.unusedVariables false
set_option linter.unusedSimpArgs false
set_option linter.defProp false
set_option maxHeartbeats 8000000
set_option maxRecDepth 100000
namespace Go.Proofs.YtakpkjhmbbfniaaGreat
open Go.Vc
section
theorem GI.aT{S:List Nat}{m0 m:ah}{s:Sl}{l:List Int}(h:GI S m0 m s l):gQ m0 m au 1 s (l.map Ce.i):=by
 have hlen:=h.len aO;obtain⟨h0,css,h1,h2⟩:=h;have gL:css.flatten.length=l.length:=by rw[bZ h2.size,h2.len];omega
 have afK:css.flatten=l.map Ce.i:=by
  apply aGC;intro i;rcases aF1 i l.length with hi|hi
  ·obtain⟨x,hx⟩:=ae hi;obtain⟨cs,kJ⟩:=ae (l:=css) (k:=i) (by rw[h2.len];exact hi);have h3:cs=[.i x]:=h2.cq i cs x kJ hx;have h4:=fy (sz:=1) h2.size kJ (i:=0) (c:=.i x) (by rw[h3];rfl);simp only[aGr,aGX]at h4;rw[h4];simp[hx]
  ·rw[aGc ab,aGc (by simpa using hi)]
 rw[<-afK];exact h1
def Bd(ro:Nat->Nat)(m:ah)(lb:Nat)(P:(Nat->List Int)->Prop)(v:Value)(m':ah):Prop:=∃(b:Bool)(bG:Nat->Nat),v=vb b/\To ro m bG m'/\(b=true->∃Bo L',fJ bG m' lb Bo L'/\P L')
theorem Bd.no{ro bG:Nat->Nat}{m m':ah}{lb:Nat}{P:(Nat->List Int)->Prop}(h:To ro m bG m'):Bd ro m lb P (vb false) m':=⟨false,bG,rfl,h,az⟩
theorem Bd.Pa{ro bG:Nat->Nat}{m m':ah}{lb:Nat}{P:(Nat->List Int)->Prop}{sl:Nat->Sl}{L:Nat->List Int}(h:To ro m bG m')(hl:fJ bG m' lb sl L)(hp:P L):Bd ro m lb P (vb true) m':=⟨true,bG,rfl,h,λ_=>⟨sl,L,hl,hp⟩⟩
theorem Bd.mono{ro:Nat->Nat}{m m':ah}{lb:Nat}{P Q:(Nat->List Int)->Prop}{v:Value}(h:Bd ro m lb P v m')(hk:∀L,P L->Q L):Bd ro m lb Q v m':=let⟨b,bG,h1,h2,h3⟩:=h;⟨b,bG,h1,h2,λhb=>let⟨sl,L,h4,h5⟩:=h3 hb;⟨sl,L,h4,hk L h5⟩⟩
theorem nN.aL{ds:List aS}{n b:Nat}{L:Nat->List Int}(h:nN ds n b L){l:List Int}(hl:l.length=n):nN ds n b (up L 1 l):=
 ⟨λk hk=>by by_cases e:k=1<;>simp_all [up,h.len k],λv p=>by simpa[up]using h.par v p,λv c f=>by simpa[up]using h.Pc v c f,by simpa[up]using h.bX⟩
theorem nN.tok{ds:List aS}{n b:Nat}{L:Nat->List Int}(h:nN ds n b L){l:List Int}(hl:l.length=n):nN ds n b (up L 5 l):=
 ⟨λk hk=>by by_cases e:k=5<;>simp_all [up,h.len k],λv p=>by simpa[up]using h.par v p,λv c f=>by simpa[up]using h.Pc v c f,by simpa[up]using h.bX⟩
theorem Kv{l:List Int}{a x:Int}{v:Nat}(h:(l++[a])[v]? =some x):l[v]? =some x\/v=l.length/\x=a:=by
 rcases aF1 v l.length with hv|hv
 ·rw[aFV hv]at h;exact Or.inl h
 ·rw[aFX hv]at h;have:=ap h;simp at this;have e:v=l.length:=ab;subst e;simp at h;exact Or.inr ⟨rfl,h.symm⟩
theorem nN.By{ds:List aS}{n b b':Nat}{L:Nat->List Int}(h:nN ds n b L)(hb:b<=b'):nN ds n b' L:=
 ⟨h.len,h.par,λv c f hc hf h1=>by have:=h.Pc v c f hc hf h1;omega,h.bX⟩
theorem nN.Oo{ds:List aS}{n b:Nat}{L:Nat->List Int}(h:nN ds n b L)(t o:Int){p:Int}(hp:p<n):nN ds (n+1) b (Ku L t o p):=by
 have h0:=h.len;refine⟨λk hk=>?_,λv q hq=>?_,λv c f hc hf h1=>?_,by simpa[Ku,up]using h.bX⟩
 ·rcases k with _|_|_|_|_|_|k<;>first|omega|(simp[Ku,up,h0])
 ·have zB:(L 2++[p])[v]? =some q:=by simpa[Ku,up]using hq
  rcases Kv zB with h2|⟨rfl,rfl⟩
  ·exact h.par v q h2
  ·rw[h0 2 aO];exact hp
 ·have uI:(L 3++[-1])[v]? =some c:=by simpa[Ku,up]using hc
  have OO:(L 4++[-1])[v]? =some f:=by simpa[Ku,up]using hf
  rcases Kv uI with h2|⟨rfl,rfl⟩
  ·rcases Kv OO with h3|⟨h3,rfl⟩
   ·have:=h.Pc v c f h2 h3 h1;omega
   ·have:=ap h2;rw[h0 4 aO]at h3;rw[h0 3 aO]at this;omega
  ·omega
section
variable{ro:Nat->Nat}{m:ah}{lb:Nat}{sl:Nat->Sl}{L:Nat->List Int}{ds:List aS}{n:Nat}
theorem fJ.aE(h:fJ ro m lb sl L){k:Nat}(hk:k<7)(hl:(L k).length<=1000000000000){i:Nat}{x:Int}(hi:(L k)[i]? =some x):ad m (sl k).ao ((sl k).off+i*1)=some (vi x):=(h.oX hk hl).aE hi
theorem sQ(h:fJ ro m lb sl L)(hi:qx ds n L)(hn:n<=1000000000000){v:Int}(h0:0<=v)(h1:v<n):aD Tryz.prog 195 [vp lb 0,vi v] m (Bd ro m lb λL'=>∃l:List Int,l.length=n/\L'=up L 1 l):=by
 apply vo (lb,0);simp -zeta only[aGa];have h2:=hi.len 1 aO;have h3:=h.len (k:=1) aO;obtain⟨x,hx⟩:=ae (l:=L 1) (k:=v.toNat) ab;have ph:=h.aE aO ab hx;have hg:=h.bH (k:=1) aO;obtain⟨w,h4,c4⟩:=h.put (k:=1) (i:=v.toNat) aO ab (bS (x -1));exact⟨_,hg,h0,ab,x,ph,λ_=>.no h.to,λ_=>⟨_,hg,_,hg,h0,ab,x,ph,h0,ab,w,.Pa c4 h4 ⟨_,by simp[h2],rfl⟩⟩⟩
theorem qy(h:fJ ro m lb sl L)(hi:qx ds n L)(hn:n<=1000000000000){v:Int}(h0:0<=v)(h1:v<n):mC 123 [vp lb 0,vi v] m:=by
 apply tQ (lb,0);refine⟨λv m'=>0<=v/\v<(n:Int)/\af m m',λv _=>v.toNat,⟨h0,h1,af.av _⟩,?_⟩;rintro v m1 ⟨h0,h1,x1⟩;have H:=h.ext x1;have l1:=H.len (k:=1) aO;have l2:=H.len (k:=2) aO;have n1:=hi.len 1 aO;have n2:=hi.len 2 aO;obtain⟨x,hx⟩:=ae (l:=L 1) (k:=v.toNat) ab;obtain⟨y,hy⟩:=ae (l:=L 2) (k:=v.toNat) ab;have hyv:=hi.par _ _ hy;refine⟨_,H.bH (k:=1) aO,h0,ab,x,H.aE aO ab hx,λ_=>⟨_,H.bH (k:=6) aO,?_⟩,λ_=>rA x1⟩;refine(bW (H.oX (k:=6) aO hi.bX) v).then λb m2 _ x2=>⟨_,rfl,λ_=>?_,λ_=>rA (x1.trans x2)⟩;have H2:=H.ext x2;refine⟨_,H2.bH (k:=2) aO,h0,ab,y,H2.aE aO ab hy,λ_=>rA (x1.trans x2),λhh=>?_⟩;simp only[aFQ]at hh;exact⟨⟨ab,ab,x1.trans x2⟩,by show y.toNat<v.toNat;omega⟩
theorem Kw(h:fJ ro m lb sl L)(hi:qx ds n L)(hn:n<=1000000000000){k:Nat}(hk:k<=n):aD Tryz.prog 268 [vp lb 0,vi k] m (Bd ro m lb λL'=>(∀j,j<6->(L' j).length=k)/\(L' 6).length<=1000000000000):=by
 apply wY (lb,0);simp -zeta only[aGa];refine⟨λv m'=>(k:Int)<=v/\v<=n/\m'=m,λv _=>((n:Int) -v).toNat,⟨ab,ab,rfl⟩,?_⟩;rintro v m1 ⟨h0,h1,rfl⟩;have L0:=λj(hj:j<6)=>h.len (k:=j) ab;have N0:=hi.len;have l0:=L0 0 aO;have l1:=L0 1 aO;have l5:=L0 5 aO;have n0:=N0 0 aO;have n1:=N0 1 aO;have n5:=N0 5 aO;refine⟨_,h.bH (k:=0) aO,λhv=>?_,λhv=>?_⟩
 ·simp only[aFP]at hv;obtain⟨x,hx⟩:=ae (l:=L 1) (k:=v.toNat) ab;obtain⟨y,hy⟩:=ae (l:=L 5) (k:=v.toNat) ab;refine⟨_,h.bH (k:=1) aO,ab,ab,x,h.aE aO ab hx,λ_=>.no h.to,λ_=>⟨_,h.bH (k:=5) aO,ab,ab,y,h.aE aO ab hy,λ_=>.no h.to,λ_=>?_⟩⟩;rw[aF ab ab];exact⟨⟨ab,ab,rfl⟩,by show((n:Int) -(v+1)).toNat<((n:Int) -v).toNat;omega⟩
 ·have tk:∀{l:List Int},l.length=n->(l.take k).length=k:=λhl=>bg;have e0:Int.toNat (0:Int)=0:=rfl;have ek:Int.toNat (k:Int)=k:=ab;rw[e0,ek];obtain⟨p1,w1,h1,c1⟩:=h.cut (k:=0) (n:=k) aO (by rw[N0 0 aO];exact hk);refine⟨_,h.bH (k:=0) aO,ab,ab,ab,w1,?_⟩;intro m2;obtain⟨p2,w2,h2,c2⟩:=h1.cut (k:=1) (n:=k) aO (by simp[up,N0];omega);refine⟨_,h1.bH (k:=1) aO,ab,ab,ab,w2,?_⟩;intro m3;obtain⟨p3,w3,h3,c3⟩:=h2.cut (k:=2) (n:=k) aO (by simp[up,N0];omega);refine⟨_,h2.bH (k:=2) aO,ab,ab,ab,w3,?_⟩;intro m4;obtain⟨p4,w4,h4,c4⟩:=h3.cut (k:=3) (n:=k) aO (by simp[up,N0];omega);refine⟨_,h3.bH (k:=3) aO,ab,ab,ab,w4,?_⟩;intro m5;obtain⟨p5,w5,h5,c5⟩:=h4.cut (k:=4) (n:=k) aO (by simp[up,N0];omega);refine⟨_,h4.bH (k:=4) aO,ab,ab,ab,w5,?_⟩;intro m6;obtain⟨p6,w6,h6,c6⟩:=h5.cut (k:=5) (n:=k) aO (by simp[up,N0];omega);refine⟨_,h5.bH (k:=5) aO,ab,ab,ab,w6,?_⟩;intro m7;refine Bd.Pa (((((c1.trans c2).trans c3).trans c4).trans c5).trans c6) h6 ⟨λj hj=>?_,?_⟩
  ·rcases j with _|_|_|_|_|_|j<;>first|omega|(simp[up,N0];omega)
  ·simpa[up]using hi.bX
end
end
def ajt(m:ah)(P:(Nat->List Int)->Prop)(v:Value)(m':ah):Prop:=∃lb,v=vp lb 0/\af m m'/\∃ro sl L,(∀b,b<m.size->ro b=0)/\fJ ro m' lb sl L/\P L
theorem Mo{ro:Nat->Nat}{m:ah}{lb:Nat}{sl:Nat->Sl}{L:Nat->List Int}(h:fJ ro m lb sl L)(hl:∀k,k<7->(L k).length<=1000000000000):
 aD Tryz.prog 255 [vp lb 0] m (ajt m λL'=>∀k,k<7->L' k=L k):=by
 apply tq (lb,0)
 simp -zeta only[aGa]
 refine⟨_,h.bH (k:=0) aO,_,h.bH (k:=1) aO,_,h.bH (k:=2) aO,_,h.bH (k:=3) aO,_,h.bH (k:=4) aO,_,h.bH (k:=5) aO,_,h.bH (k:=6) aO,?_⟩
 have C:∀{M:ah}(k:Nat),k<7->af m M->iV 72 [Sl.v (sl k)] M [] (L k=·):=λk hk x=>ba [] ((h.ext x).oX hk (hl k hk)) (hl k hk)
 have E:∀{M M':ah},af m M->af M M'->∀o,ad M' lb o=ad M lb o:=λx x' o=>aA (x'.same lb (x.lt h.box.lt)) o
 have E0:=af.av m
 refine(C 0 aO E0).then λs0 _ m1 g0 e x1=>⟨_,rfl,E E0 x1 _,E E0 x1 _,E E0 x1 _,E E0 x1 _,E E0 x1 _,E E0 x1 _,?_⟩
 subst e
 refine(C 1 aO x1).then λs1 _ m2 g1 e x2=>⟨_,rfl,E x1 x2 _,E x1 x2 _,E x1 x2 _,E x1 x2 _,E x1 x2 _,?_⟩
 subst e
 have u2:=x1.trans x2
 refine(C 2 aO u2).then λs2 _ m3 g2 e x3=>⟨_,rfl,E u2 x3 _,E u2 x3 _,E u2 x3 _,E u2 x3 _,?_⟩
 subst e
 have u3:=u2.trans x3
 refine(C 3 aO u3).then λs3 _ m4 g3 e x4=>⟨_,rfl,E u3 x4 _,E u3 x4 _,E u3 x4 _,?_⟩
 subst e
 have u4:=u3.trans x4
 refine(C 4 aO u4).then λs4 _ m5 g4 e x5=>⟨_,rfl,E u4 x5 _,E u4 x5 _,?_⟩
 subst e
 have u5:=u4.trans x5
 refine(C 5 aO u5).then λs5 _ m6 g5 e x6=>⟨_,rfl,E u5 x6 _,?_⟩
 subst e
 have u6:=u5.trans x6
 refine(C 6 aO u6).then λs6 _ m7 g6 e x7=>⟨_,rfl,?_⟩
 subst e
 intro m8
 have x8:af m7 m8:=af.push _ _
 have z0:=E0.size;have z1:=x1.size;have z2:=x2.size;have z3:=x3.size;have z4:=x4.size;have z5:=x5.size;have z6:=x6.size;have z7:=x7.size
 have s8:m8.size=m7.size+1:=by simp[m8]
 have y0:=g0.aN;have y1:=g1.aN;have y2:=g2.aN;have y3:=g3.aN;have y4:=g4.aN;have y5:=g5.aN;have y6:=g6.aN
 let j8:Nat->Nat:=λb=>if b<m.size then 0 else if b<m1.size then 1 else if b<m2.size then 2 else if b<m3.size then 3 else if b<m4.size then 4 else if b<m5.size then 5 else if b<m6.size then 6 else if b<m7.size then 7 else if b=m7.size then 8 else 0
 let sl2:Nat->Sl:=λk=>if k=0 then s0 else if k=1 then s1 else if k=2 then s2 else if k=3 then s3 else if k=4 then s4 else if k=5 then s5 else s6
 have A:∀{m0 M:ah}{s:Sl}{l:List Int}{k:Nat},GI [] m0 M s l->af M m8->j8 s.ao=k->fB j8 m8 au 1 k s (l.map Ce.i):=λg x hr=>fB.fQ (g.aT.ext x) λ_=>hr
 refine⟨m7.size,rfl,u6.trans (x7.trans x8),j8,sl2,L,λb hb=>aFW hb,⟨λb hb=>?_,?_,bK.push _ _ _,λk hk=>?_⟩,λ_ _=>rfl⟩
 ·simp only[j8]
  repeat rw[aFS ab]
 ·simp only[j8]
  repeat rw[aFS ab]
  simp
 ·rcases k with _|_|_|_|_|_|_|k
  ·exact A (s:=s0) (k:=1) g0 (x2.trans (x3.trans (x4.trans (x5.trans (x6.trans (x7.trans x8)))))) (by simp only[j8];rw[aFS ab,aFW ab])
  ·exact A (s:=s1) (k:=2) g1 (x3.trans (x4.trans (x5.trans (x6.trans (x7.trans x8))))) (by simp only[j8];rw[aFS ab,aFS ab,aFW ab])
  ·exact A (s:=s2) (k:=3) g2 (x4.trans (x5.trans (x6.trans (x7.trans x8)))) (by simp only[j8];rw[aFS ab,aFS ab,aFS ab,aFW ab])
  ·exact A (s:=s3) (k:=4) g3 (x5.trans (x6.trans (x7.trans x8))) (by simp only[j8];rw[aFS ab,aFS ab,aFS ab,aFS ab,aFW ab])
  ·exact A (s:=s4) (k:=5) g4 (x6.trans (x7.trans x8)) (by simp only[j8];rw[aFS ab,aFS ab,aFS ab,aFS ab,aFS ab,aFW ab])
  ·exact A (s:=s5) (k:=6) g5 (x7.trans x8) (by simp only[j8];rw[aFS ab,aFS ab,aFS ab,aFS ab,aFS ab,aFS ab,aFW ab])
  ·exact A (s:=s6) (k:=7) g6 x8 (by simp only[j8];rw[aFS ab,aFS ab,aFS ab,aFS ab,aFS ab,aFS ab,aFS ab,aFW ab])
  ·omega
structure GW(mb:ah)(X:List Nat)(ro:Nat->Nat)(m:ah):Prop where
 ext:af mb m
 dX:∀b,b<mb.size->ro b=0
 box:∀b∈X,b<m.size/\ro b=0
theorem GW.to{mb m m':ah}{X:List Nat}{ro bG:Nat->Nat}(h:GW mb X ro m)(c:To ro m bG m'):GW mb X bG m':=by
 obtain⟨h1,h2⟩:=c.bN h.ext h.dX;exact⟨h1,h2,λb hb=>⟨aFY (h.box b hb).1 c.size,by rw[c.gG b (h.box b hb).1];exact(h.box b hb).2⟩⟩
theorem GW.cg{mb m m':ah}{X:List Nat}{ro bG:Nat->Nat}(h:GW mb X ro m)(c:To ro m bG m'):da X m m':=c.cg h.box
theorem GW.dY{mb m m':ah}{X:List Nat}{ro:Nat->Nat}(h:GW mb X ro m)(x:af m m'):GW mb X ro m':=⟨h.ext.trans x,h.dX,λb hb=>⟨x.lt (h.box b hb).1,(h.box b hb).2⟩⟩
theorem GX{m:ah}{p t s:Sl}{q:di}(hp:aj m p q.params)(ht:aj m t q.bX)(Bn:q.params.length<=3)(tB:q.bX.length<=3)(ds:List aS):
 aD Tryz.prog 163 [.agg #[Sl.v p,Sl.v t,vi q.aH,Sl.v s,vi q.body.aH]] m (ajt m (qx ds q.params.length)):=by
 apply yA
 simp -zeta only[aw,ax]
 intro m1
 have x1:af m m1:=af.push _ _
 have s1:m1.size=m.size+1:=by simp[m1]
 have hl:∀b∈[m.size],b<m1.size:=by simp[m1]
 clear_value m1
 refine(ba [] (ht.ext x1) ab).ay (af.av m1) hl λs6 _ m2 g6 e x2 _=>⟨_,rfl,?_⟩
 subst e
 intro m3
 have x3:af m2 m3:=af.push _ _
 have s3:m3.size=m2.size+1:=by simp[m3]
 have z2:=x2.size
 have y6:=g6.aN
 let ro0:Nat->Nat:=λb=>if b<m1.size then 0 else if b<m2.size then 7 else if b=m2.size then 8 else 0
 let L0:Nat->List Int:=λk=>if k<6 then[]else q.bX
 let sl0:Nat->Sl:=λk=>if k<6 then .nil else s6
 have H0:fJ ro0 m3 m2.size sl0 L0:=by
  refine⟨λb hb=>?_,?_,bK.push _ _ _,λk hk=>?_⟩
  ·simp only[ro0];repeat rw[aFS ab]
  ·simp only[ro0];repeat rw[aFS ab]
   simp
  ·by_cases h6:k<6
   ·simp only[sl0,L0,aFW h6];exact⟨az,az,Or.inl rfl⟩
   ·have e:k=6:=ab;subst e;simp only[sl0,L0,aFS h6];refine fB.fQ (g6.aT.ext x3) λ_=>?_;simp only[ro0];rw[aFS ab,aFW ab]
 have I0:qx ds 0 L0:=by
  refine⟨λk hk=>by simp only[L0,aFW hk];rfl,λv p hp=>by simp[L0]at hp,λv c f hc=>by simp[L0]at hc,by simp[L0];omega⟩
 have dX:∀b,b<m1.size->ro0 b=0:=λb hb=>aFW hb
 clear_value ro0 L0 sl0
 have tA:=hp.len
 refine dg (n:=q.params.length) ab (λk M=>∃ro sl L,GW m1 [m.size] ro M/\fJ ro M m2.size sl L/\qx ds k L) ⟨ro0,sl0,L0,⟨x2.trans x3,dX,λb hb=>by simp at hb;subst hb;exact⟨ab,dX _ ab⟩⟩,H0,I0⟩ ?_
 rintro k M I μ hk ⟨ro,sl,L,st,H,hi⟩ next
 refine⟨λh=>?_,λh=>?_⟩
 ·simp only[aFP]at h
  obtain⟨y,hy⟩:=ae (l:=q.params) (k:=k) ab
  have N:∀(o:Int){M':ah},af M M'->aD Tryz.prog 194 [vp m2.size 0,vi y,vi o,vi (-1:Int)] M' λ_ m'=>da [m.size] M' m'/\I (bS ((k:Int)+1)) m'/\μ (bS ((k:Int)+1)) m'<μ k M:=λo M' x=>
   (ze (H.ext x) (λj hj=>by rw[hi.len j hj];omega) y o (-1)).mono λ_ m'⟨bG,Bo,c,H'⟩=>⟨(st.dY x).cg c,next ab _ ⟨bG,Bo,_,(st.dY x).to c,H',(hi.Oo y o ab).By ab⟩⟩
  have G:∀{M':ah},af M M'->ad M' p.ao (p.off+Int.toNat (k:Int)*1)=some (vi y):=λx=>(hp.ext (x1.trans (st.ext.trans x))).aE hy
  refine⟨ab,ab,y,G (af.av _),λ_=>?_,λ_=>⟨ab,ab,y,G (af.av _),N 0 (af.av _)⟩⟩
  refine(bW (ht.ext (x1.trans st.ext)) (k:Int)).then λb M2 _ x=>⟨λc hc=>x.same c (st.box c hc).1,_,rfl,λ_=>⟨ab,ab,y,G x,N 1 x⟩,λ_=>⟨ab,ab,y,G x,N 0 x⟩⟩
 ·simp only[aFQ]at h
  have e:k=q.params.length:=ab
  subst e
  exact⟨m2.size,rfl,x1.trans st.ext,ro,sl,L,λb hb=>st.dX b ab,H,hi⟩
section
theorem fJ.acy{ro:Nat->Nat}{m mb:ah}{lb:Nat}{sl:Nat->Sl}{L:Nat->List Int}(h:fJ ro m lb sl L)(dX:∀b,b<mb.size->ro b=0){k i:Nat}(hk:k<7)(hi:i<(L k).length):mb.size<=(sl k).ao/\(sl k).ao<m.size/\ro (sl k).ao=k+1:=by
 have g:=h.rm k hk;have cx:(L k).map Ce.i≠[]:=λe=>by simp at e;rw[e]at hi;simp at hi
 obtain⟨hb,hr⟩:=g.ao λh0=>cx (g.BD h0).1;refine⟨aHF λcA=>?_,hb,hr⟩;rw[dX _ cA]at hr;omega
theorem GW.WT{mb m m1 m2:ah}{ro:Nat->Nat}{o1 o2:Obj}(hx:af mb m)(dX:∀b,b<mb.size->ro b=0)(new:∀b,m.size<=b->ro b=0)(h1:m1=m.push o1)(h2:m2=m1.push o2):GW mb [m1.size,m.size] ro m2:=by
 obtain⟨x2,hl⟩:=cv h1 h2;subst h1;exact⟨hx.trans x2,dX,λb hb=>⟨hl b hb,new b (by simp at hb;omega)⟩⟩
section
variable{ro:Nat->Nat}{m mb:ah}{lb:Nat}{sl:Nat->Sl}{L:Nat->List Int}{ds:List aS}{rs:List di}{n:Nat}{d r a k:Sl}{x:bu}{c:Prop}{nr:Nat}
theorem P6(hx:af mb m)(dX:∀b,b<mb.size->ro b=0)(h:fJ ro m lb sl L)(hi:qx ds n L)(hn:n<=1000000000000)(hN:cR mb d r ds rs)(ha:aj mb a x.args)(hf:aai ds nr c n x)(pu:14<=x.op):
 aD Tryz.prog 196 [vp lb 0,.agg #[Sl.v d,Sl.v r],mJ x a k] m (Bd ro m lb (qx ds n)):=by
 apply vr (lb,0)
 simp -zeta only[aw,ax,aGa]
 intro m1 m2
 have st:=GW.WT (m1:=m1) (m2:=m2) hx dX h.new rfl rfl
 have x2:af m m2:=(cv (m1:=m1) (m2:=m2) rfl rfl).1
 have c2:To ro m ro m2:=cJ.dS _ x2 h.new
 clear_value m2
 clear_value m1
 have h2:=h.ext x2
 have jK:=ha.len
 have h1a:=hf.jm (Or.inl pu)
 obtain⟨y,hy⟩:=ae (l:=x.args) (k:=0) ab
 obtain⟨y0,y1⟩:=hf.args y (ak hy)
 have N:=hi.len
 have n1:=N 1 aO;have n3:=N 3 aO;have n4:=N 4 aO;have n5:=N 5 aO
 have l3:=h2.len (k:=3) aO;have l5:=h2.len (k:=5) aO
 obtain⟨cn,VB⟩:=ae (l:=L 3) (k:=y.toNat) ab
 obtain⟨fs,Dr⟩:=ae (l:=L 4) (k:=y.toNat) ab
 obtain⟨tk,htk⟩:=ae (l:=L 5) (k:=y.toNat) ab
 refine⟨aO,ab,y,(ha.ext st.ext).aE hy,?_⟩
 refine⟨λM=>0<=cn/\∃bG Bo l,l.length=n/\To ro m bG M/\GW mb [m1.size,m.size] bG M/\fJ bG M lb Bo (up L 1 l),?_,?_⟩
 ·refine⟨_,h2.bH (k:=3) aO,y0,ab,cn,h2.aE aO ab VB,λ_=>.no c2,λhc=>?_⟩
  simp only[aFQ]at hc
  refine⟨λ_=>⟨_,h2.bH (k:=5) aO,y0,ab,tk,h2.aE aO ab htk,λ_=>.no c2,λ_=>?_⟩,λ_=>?_⟩<;>
  ·refine(sQ h2 hi hn y0 y1).mono λv m3⟨b,bG,e,c3,h3⟩=>⟨st.cg c3,b,e,λhb=>.no (c2.trans c3),λhb=>?_⟩
   obtain⟨Bo,L',h4,l,hl,rfl⟩:=h3 (by simpa using hb)
   exact⟨ab,bG,Bo,l,hl,c2.trans c3,st.to c3,h4⟩
 ·rintro m3 ⟨LN,pX,Ur,l,hl,c3,rK,h3⟩
  have e3:(up L 1 l) 3=L 3:=rfl
  have e4:(up L 1 l) 4=L 4:=rfl
  have e5:(up L 1 l) 5=L 5:=rfl
  have e1:(up L 1 l) 1=l:=rfl
  have l3':=h3.len (k:=3) aO
  rw[e3]at l3'
  obtain⟨f0,f1⟩:=hi.Pc y.toNat cn fs VB Dr LN
  refine⟨_,h3.bH (k:=3) aO,y0,ab,cn,h3.aE aO (by rw[e3];omega) VB,?_⟩
  have A1:=h3.acy (mb:=mb) rK.dX (k:=1) (i:=y.toNat) aO (by rw[e1];omega)
  have A5:=h3.acy (mb:=mb) rK.dX (k:=5) (i:=y.toNat) aO (by rw[e5];omega)
  have hS:∀b∈[(Ur 1).ao,(Ur 5).ao],b<m3.size:=λb hb=>by simp at hb;omega
  have Hid:∀{M:ah},af mb M->Le mb (aY [(Ur 1).ao,(Ur 5).ao] M):=λxx=>(yS mb).trans (xx.aY λb hb=>Or.inr (by simp at hb;omega))
  refine(cw hS (hN.aI.le (Hid rK.ext)) hN.types cn).mono λv m4⟨s,fl,e,hs,gL,x4⟩=>⟨λb hb=>x4.same b (rK.box b hb).1,s,e,?_⟩
  subst gL
  have h4:=h3.ext x4
  have Jn:=rK.dY x4
  have c4:To ro m pX m4:=c3.trans (cJ.dS _ x4 h3.new)
  have kQ:=hs.len
  have f3:=Es hN.types cn
  refine dg (n:=(bz ds cn).length) ab (λi M=>∃l,l.length=n/\To ro m pX M/\GW mb [m1.size,m.size] pX M/\fJ pX M lb Ur (up L 1 l)/\Fz [(Ur 1).ao,(Ur 5).ao] m4 M) ⟨l,hl,c4,Jn,h4,Fz.av _ _⟩ ?_
  rintro i M I μ hik ⟨l2,oC,c5,ZT,h5,fz5⟩ next
  have hs5:=hs.le (fz5.bO λ_ h=>h)
  refine⟨λcA=>?_,λcA=>?_⟩
  ·simp only[aFP]at cA
   obtain⟨z,hz⟩:=ae (l:=bz ds cn) (k:=i) ab
   refine⟨ab,ab,z,(hs5.le (aV _ _)).aE hz,λ_=>?_,λ_=>next ab _ ⟨l2,oC,c5,ZT,h5,fz5⟩⟩
   have E3:(up L 1 l2) 4=L 4:=rfl
   have E1:(up L 1 l2) 1=l2:=rfl
   have G1:=h5.bH (k:=1) aO
   have G4:=h5.bH (k:=4) aO
   have l4:=h5.len (k:=4) aO
   have l1:=h5.len (k:=1) aO
   rw[E3]at l4;rw[E1]at l1
   have V4:=h5.aE (k:=4) aO (by rw[E3];omega) Dr
   have ew:bS (fs+(i:Int))=fs+i:=aF ab ab
   obtain⟨w,hw⟩:=ae (l:=l2) (k:=(fs+(i:Int)).toNat) ab
   obtain⟨wr,h6,c6⟩:=h5.put (k:=1) (i:=(fs+(i:Int)).toNat) aO (by rw[E1];omega) (bS (w+1))
   refine⟨_,G1,_,G4,y0,ab,fs,V4,_,G1,_,G4,y0,ab,fs,V4,?_⟩
   rw[ew]
   refine⟨ab,ab,w,h5.aE (k:=1) aO (by rw[E1];omega) hw,ab,ab,wr,ZT.cg c6,next ab _ ⟨l2.set (fs+(i:Int)).toNat (bS (w+1)),by simp[oC],c5.trans c6,ZT.to c6,?_,fz5.ag (Or.inl az) _ _⟩⟩
   have:up (up L 1 l2) 1 ((up L 1 l2) 1|>.set (fs+(i:Int)).toNat (bS (w+1)))=up L 1 (l2.set (fs+(i:Int)).toNat (bS (w+1))):=by funext j;simp only[up];split<;>rfl
   rw[this]at h6;exact h6
  ·refine⟨λ_=>?_,λ_=>.Pa c5 h5 (hi.aL oC)⟩
   have E5:(up L 1 l2) 5=L 5:=rfl
   have l5':=h5.len (k:=5) aO
   rw[E5]at l5'
   obtain⟨wr,h6,c6⟩:=h5.put (k:=5) (i:=y.toNat) aO (by rw[E5];omega) (s.len:Int)
   exact⟨_,h5.bH (k:=5) aO,y0,ab,wr,ZT.cg c6,.Pa (c5.trans c6) h6 ((hi.aL oC).tok (by rw[E5];simp[n5]))⟩
theorem IP(hx:af mb m)(dX:∀b,b<mb.size->ro b=0)(h:fJ ro m lb sl L)(hi:qx ds n L)(hn:n<=1000000000000)(hN:cR mb d r ds rs)(ha:aj mb a x.args)(hf:aai ds rs.length c n x):
 aD Tryz.prog 198 [vp lb 0,.agg #[Sl.v d,Sl.v r],mJ x a k] m (Bd ro m lb (qx ds n)):=by
 apply qK (lb,0)
 simp -zeta only[aw,ax,aGa]
 intro m1 m2
 have st:=GW.WT (m1:=m1) (m2:=m2) hx dX h.new rfl rfl
 have x2:af m m2:=(cv (m1:=m1) (m2:=m2) rfl rfl).1
 have c2:To ro m ro m2:=cJ.dS _ x2 h.new
 clear_value m2
 clear_value m1
 have h2:=h.ext x2
 have jK:=ha.len
 have hAt:∀{M:ah},af mb M->At M d r a k ds rs x:=λxx=>⟨hN.le xx.le,ha.ext xx,hf.call⟩
 refine dg (n:=x.args.length) (jK▸ha.eP) (λ_ M=>∃bG Bo L',qx ds n L'/\To ro m bG M/\GW mb [m1.size,m.size] bG M/\fJ bG M lb Bo L') ⟨ro,sl,L,hi,c2,st,h2⟩ ?_
 rintro i M I μ hik ⟨pX,Ur,L3,ZH,c3,rK,h3⟩ next
 refine⟨λcA=>?_,λcA=>?_⟩
 ·simp only[aFP]at cA
  obtain⟨y,hy⟩:=ae (l:=x.args) (k:=i) ab
  obtain⟨y0,y1⟩:=hf.args y (ak hy)
  have N0:=ZH.len 0 aO
  refine⟨_,h3.bH (k:=0) aO,?_⟩
  refine(jS (hAt rK.ext) (h3.oX (k:=0) aO ab) (by rw[N0];exact hf.args) (i:=i) ab).mono λv m4⟨b,e,x4⟩=>⟨λb hb=>x4.same b (rK.box b hb).1,b,e,λ_=>⟨ab,ab,y,(ha.ext (rK.ext.trans x4)).aE hy,?_⟩,λ_=>?_⟩
  ·have Jn:=rK.dY x4
   have c4:To ro m pX m4:=c3.trans (cJ.dS _ x4 h3.new)
   refine(sQ (h3.ext x4) ZH hn y0 y1).mono λv m5⟨b,bG,e,c5,h5⟩=>⟨Jn.cg c5,b,e,λhb=>.no (c4.trans c5),λhb=>?_⟩
   obtain⟨Bo,L',h6,l,hl,rfl⟩:=h5 (by simpa using hb)
   exact next ab _ ⟨bG,Bo,_,ZH.aL hl,c4.trans c5,Jn.to c5,h6⟩
  ·exact next ab _ ⟨pX,Ur,L3,ZH,c3.trans (cJ.dS _ x4 h3.new),rK.dY x4,h3.ext x4⟩
 ·refine dg (n:=x.args.length) (jK▸ha.eP) (λ_ M'=>af M M') (af.av _) ?_
  rintro j M4 I4 μ4 ZF x4 zI
  have Jn:=rK.dY x4
  have c4:To ro m pX M4:=c3.trans (cJ.dS _ x4 h3.new)
  have h4:=h3.ext x4
  refine⟨λcA=>?_,λcA=>⟨λrI=>?_,λ_=>.Pa c4 h4 ZH⟩⟩
  ·simp only[aFP]at cA
   obtain⟨y,hy⟩:=ae (l:=x.args) (k:=j) ab
   obtain⟨y0,y1⟩:=hf.args y (ak hy)
   refine(lC (hAt Jn.ext) (j:Int)).mono λv m5⟨b,e,x5⟩=>⟨λb hb=>x5.same b (Jn.box b hb).1,b,e,λ_=>⟨ab,ab,y,(ha.ext (Jn.ext.trans x5)).aE hy,?_⟩,λ_=>zI ab _ (x4.trans x5)⟩
   refine(qy (h4.ext x5) ZH hn y0 y1).mono λv m6⟨b,e,x6⟩=>⟨λb hb=>x6.same b (x5.lt (Jn.box b hb).1),b,e,λ_=>.no (c4.trans (cJ.dS _ (x5.trans x6) h4.new)),λ_=>zI ab _ ((x4.trans x5).trans x6)⟩
  ·simp only[aFP]at rI
   have Si:=hf.bA
   have N5:=ZH.len 5 aO
   have l5:=h4.len (k:=5) aO
   have ew:bS (x.bA -1)=x.bA -1:=aF ab ab
   obtain⟨w,hw⟩:=ae (l:=L3 5) (k:=(x.bA -1).toNat) ab
   obtain⟨wr,h6,c6⟩:=h4.put (k:=5) (i:=(x.bA -1).toNat) aO ab (-1)
   rw[ew]
   exact⟨_,h4.bH (k:=5) aO,ab,ab,w,h4.aE (k:=5) aO ab hw,λ_=>.no c4,λ_=>⟨_,h4.bH (k:=5) aO,ab,ab,wr,Jn.cg c6,.Pa (c4.trans c6) h6 (ZH.tok (by simp[N5]))⟩⟩
end
end
section
def Ni(ro:Nat->Nat)(m:ah):List Nat:=(List.range m.size).filter λb=>ro b≠0
theorem P7(ro:Nat->Nat)(m:ah):∀b∈Ni ro m,b<m.size:=λb hb=>by simp[Ni]at hb;exact hb.1
theorem US{ro:Nat->Nat}{m mb M:ah}(dX:∀b,b<mb.size->ro b=0)(hx:af mb M):Le mb (aY (Ni ro m) M):=
 (yS mb).trans (hx.aY λb hb=>Or.inr (by
  simp[Ni]at hb;exact aHF λh=>hb.2 (dX b h)))
theorem cJ.ao6{ro bG:Nat->Nat}{m m4 M:ah}(h:To ro m4 bG M)(new:∀b,m.size<=b->ro b=0):Le (aY (Ni ro m) m4) M:=λb o v hv=>by
 obtain⟨h1,h2⟩:=cT.1 hv;have cA:=tH h2;have h0:ro b=0:=by
  rcases aF1 b m.size with hb|hb
  ·simp[Ni]at h1;exact h1 hb
  ·exact new b hb
 rw[aA (h.eg b cA (by simp[h0]))];exact h2
def TA(ds:List aS)(rs:List di)(c:Prop)(b:Bk):Prop:=∀(ro:Nat->Nat)(m mb:ah)(lb:Nat)(sl:Nat->Sl)(L:Nat->List Int)(n k:Nat)(d r t:Sl),af mb m->(∀b,b<mb.size->ro b=0)->fJ ro m lb sl L->qx ds n L->WB ds rs.length c n b->n+4*b.w<=1000000000000->k<=n->cR mb d r ds rs->cU mb t b.ar->
 aD Tryz.prog 256 [vp lb 0,.agg #[Sl.v d,Sl.v r],.agg #[Sl.v t,vi b.aH],vi k] m (Bd ro m lb λL'=>(∀j,j<6->(L' j).length=k)/\(L' 6).length<=1000000000000)
def afh(m:ah)(n:Nat)(v:Value)(m':ah):Prop:=∃(lb:Nat)(ok:Bool),v=.tuple #[vp lb 0,vb ok]/\af m m'/\(ok=true->∃ro sl L,(∀b,b<m.size->ro b=0)/\fJ ro m' lb sl L/\∀j,j<6->(L j).length=n)
theorem nN.same{ds:List aS}{n b:Nat}{L L':Nat->List Int}(h:nN ds n b L)(e:∀k,k<7->L' k=L k):nN ds n b L':=
 ⟨λk hk=>by rw[e k ab];exact h.len k hk,by rw[e 2 aO];exact h.par,by rw[e 3 aO,e 4 aO];exact h.Pc,by rw[e 6 aO];exact h.bX⟩
section
variable{ro:Nat->Nat}{m mb:ah}{lb:Nat}{sl:Nat->Sl}{L:Nat->List Int}{ds:List aS}{rs:List di}{n:Nat}{d r a k:Sl}{x:bu}{c:Prop}
theorem RL(hx:af mb m)(h:fJ ro m lb sl L)(hi:qx ds n L)(hN:cR mb d r ds rs)(ha:aj mb a x.args)(hk:lA mb k x.aW)(hw:WS ds rs.length c n x)(hb:n+4*x.w<=1000000000000){i:Nat}{b:Bk}(V5:x.aW[i]? =some b)(ih:TA ds rs c b):
 aD Tryz.prog 237 [vp lb 0,.agg #[Sl.v d,Sl.v r],mJ x a k,vi i] m (afh m n):=by
 apply wV (lb,0)
 simp -zeta only[aw,ax,aGa]
 intro m1 m2
 obtain⟨x2,hl⟩:=cv (m1:=m1) (m2:=m2) rfl rfl
 clear_value m2
 clear_value m1
 have h2:=h.ext x2
 have N:=hi.len
 have l0:=h2.len (k:=0) aO
 have n0:=N 0 aO
 have hil:=ap V5
 have jk:=hk.len
 have NF:=vx V5
 have Ua:=bu.jD x
 have VC:=hw.aW i b V5
 have uk:=hx.trans x2
 obtain⟨t,ht,f0,f1⟩:=hk.aE V5
 refine⟨_,h2.bH (k:=0) aO,?_⟩
 refine(Mo h2 (λj hj=>by
  by_cases h6:j<6
  ·rw[N j h6];omega
  ·have:j=6:=ab;subst this;exact hi.bX)).mono λv m3⟨lb2,e,x3,j8,sl2,L2,QQ,h3,e2⟩=>⟨x3.aak hl (af.av _)|>λ_=>λb hb=>x3.same b (hl b hb),(lb2,0),e,?_⟩
 have i3:qx ds n L2:=hi.same e2
 have rK:GW m2 [m1.size,m.size] j8 m3:=⟨x3,QQ,λb hb=>⟨x3.lt (hl b hb),QQ b (hl b hb)⟩⟩
 have fG:∀(M:ah)(pX:Nat->Nat)(Ur:Nat->Sl)(L3:Nat->List Int)(n3:Nat),GW m2 [m1.size,m.size] pX M->fJ pX M lb2 Ur L3->qx ds n3 L3->WB ds rs.length c n3 b->n3<=n+3->n<=n3->
  aD Tryz.prog 256 [vp lb2 0,.agg #[Sl.v d,Sl.v r],.agg #[Sl.v t,vi b.aH],vi ((sl 0).len:Int)] M λv m'=>da [m1.size,m.size] M m'/\∃ok:Bool,v=vb ok/\afh m n (.tuple #[vp lb2 0,vb ok]) m':=λM pX Ur L3 n3 st H I arp hle FG=>by
  have e0:(sl 0).len=n:=ab
  rw[e0]
  refine(ih pX M m2 lb2 Ur L3 n3 n d r t st.ext st.dX H I arp ab FG (hN.le uk.le) (ht.le uk.le)).mono λv m'⟨ok,bG,e,c5,h5⟩=>⟨st.cg c5,ok,e,lb2,ok,rfl,x2.trans (st.to c5).ext,λlx=>?_⟩
  obtain⟨Bo,L',h6,h7,_⟩:=h5 lx
  exact⟨bG,Bo,L',λb hb=>(st.to c5).dX b (x2.lt hb),h6,h7⟩
 refine⟨λh8=>?_,λh8=>?_⟩
 ·simp only[aFZ]at h8
  have Us:=hN.aI.le uk.le
  obtain⟨gZ,_⟩:=hw.db.all h8
  refine(eL (P7 j8 m3) (Us.le x3.le) hN.types x.bh).mono λv m4⟨s4,l4,e,hs4,e4,x4⟩=>⟨λb hb=>x4.same b (rK.box b hb).1,s4,e,?_⟩
  subst e4
  obtain⟨cn,VB⟩:=ae (l:=bB ds x.bh) (k:=i) ab
  have ald:=hs4.le (aV _ _)
  have l4:=ald.len
  refine⟨ab,ab,cn,ald.aE VB,?_⟩
  have Jn:=rK.dY x4
  have h4:=h3.ext x4
  refine(cw (P7 j8 m4) (Us.le (US Jn.dX Jn.ext)) hN.types cn).mono λv m5⟨s5,l5,e,hs5,e5,x5⟩=>⟨λb hb=>x5.same b (Jn.box b hb).1,s5,e,?_⟩
  subst e5
  have ZT:=Jn.dY x5
  have h5:=h4.ext x5
  have h1a:=hw.db.jm (Or.inr (Or.inr h8))
  obtain⟨y,hy⟩:=ae (l:=x.args) (k:=0) ab
  obtain⟨y0,y1⟩:=hw.db.args y (ak hy)
  have jK:=ha.len
  have N5:=i3.len
  have l53:=h5.len (k:=3) aO
  have n3:=N5 3 aO;have n4:=N5 4 aO
  have Y:∀{M:ah},af m2 M->ad M a.ao (a.off+Int.toNat (0:Int)*1)=some (vi y):=λxx=>(ha.ext (uk.trans xx)).aE hy
  obtain⟨w6,h6,c6⟩:=h5.put (k:=3) (i:=y.toNat) aO ab cn
  refine⟨_,h5.bH (k:=3) aO,ab,ab,y,Y ZT.ext,y0,ab,w6,?_⟩
  intro m6
  have Zf:=ZT.to c6
  obtain⟨w7,h7,c7⟩:=h6.put (k:=4) (i:=y.toNat) aO (by show _<(L2 4).length;omega) ((sl 0).len:Int)
  have l64:=h6.len (k:=4) aO
  have e64:up L2 3 ((L2 3).set y.toNat cn) 4=L2 4:=rfl
  rw[e64]at l64
  refine⟨ZT.cg c6,_,h6.bH (k:=4) aO,ab,ab,y,Y Zf.ext,y0,ab,w7,?_⟩
  intro m7
  have st7:=Zf.to c7
  have F3:=Es hN.types cn
  have e0:((sl 0).len:Int)=n:=ab
  have i7:nN ds n (n+(bz ds cn).length) (up (up L2 3 ((L2 3).set y.toNat cn)) 4 ((L2 4).set y.toNat ((sl 0).len:Int))):=by
   refine⟨λj hj=>?_,λv p hp=>?_,λv c f hc hf h1=>?_,by simpa[up]using i3.bX⟩
   ·rcases j with _|_|_|_|_|_|j<;>first|omega|(simp[up,N5])
   ·exact i3.par v p (by simpa[up]using hp)
   ·have uI:((L2 3).set y.toNat cn)[v]? =some c:=by simpa[up]using hc
    have OO:((L2 4).set y.toNat ((sl 0).len:Int))[v]? =some f:=by simpa[up]using hf
    by_cases ev:y.toNat=v
    ·subst ev;rw[aGl ab]at uI OO;simp at uI OO;subst uI;omega
    ·rw[aGn ev]at uI OO;have:=i3.Pc v c f uI OO h1;omega
  have SC:=hs5.len
  refine⟨Zf.cg c7,?_⟩
  refine dg (n:=(bz ds cn).length) ab (λj M=>∃bG Bo L',nN ds (n+j) (n+(bz ds cn).length) L'/\To j8 m5 bG M/\GW m2 [m1.size,m.size] bG M/\fJ bG M lb2 Bo L') ⟨j8,_,_,i7,c6.trans c7,st7,h7⟩ ?_
  rintro j M I μ hj ⟨O6,sl8,L8,i8,c8,st8,h8'⟩ next
  refine⟨λcA=>?_,λcA=>?_⟩
  ·simp only[aFP]at cA
   obtain⟨z,hz⟩:=ae (l:=bz ds cn) (k:=j) ab
   refine⟨ab,ab,z,(hs5.le (c8.ao6 h4.new)).aE hz,ab,ab,y,Y st8.ext,?_⟩
   exact(ze h8' (λq hq=>by rw[i8.len q hq];omega) z 0 y).mono λv M'⟨bG,Bo,c9,h9⟩=>⟨st8.cg c9,next ab _ ⟨bG,Bo,_,by rw[<-aGm];exact i8.Oo z 0 ab,c8.trans c9,st8.to c9,h9⟩⟩
  ·simp only[aFQ]at cA
   have ej:j=(bz ds cn).length:=ab
   subst ej
   rw[J9 h8 VB]at VC
   exact⟨ab,ab,t,(uk.trans st8.ext).ad f0,b.aH,(uk.trans st8.ext).ad f1,fG M O6 sl8 L8 _ st8 h8' i8 VC ab ab⟩
 ·simp only[aFU]at h8
  rw[Ka h8]at VC
  exact⟨ab,ab,t,(uk.trans x3).ad f0,b.aH,(uk.trans x3).ad f1,fG m3 j8 sl2 L2 n rK h3 i3 VC ab ab⟩
end
end
section
theorem _root_.Go.Vc.acz{n a:Nat}(ha:a<=n)(hn:n<=9223372036854775807){m:ah}{Body:(Int->ah->Prop)->(Int->ah->Nat)->Int->ah->Prop}(Q:Nat->ah->Prop)(h0:Q a m)
 (h:∀(k:Nat)(m1:ah)(I:Int->ah->Prop)(μ:Int->ah->Nat),a<=k->k<=n->Q k m1->
  (k<n->∀m',Q (k+1) m'->I (bS ((k:Int)+1)) m'/\μ (bS ((k:Int)+1)) m'<μ k m1)->Body I μ k m1):
 ∃(I:Int->ah->Prop)(μ:Int->ah->Nat),I a m/\∀i m1,I i m1->Body I μ i m1:=by
 refine⟨λi m'=>∃k:Nat,i=k/\a<=k/\k<=n/\Q k m',λi _=>(n -i).toNat,⟨a,rfl,aFR _,ha,h0⟩,?_⟩
 rintro i m1 ⟨k,rfl,hak,hk,hq⟩
 refine h k m1 _ _ hak hk hq λcA m' zB=>?_
 rw[iG cA hn]
 exact⟨⟨k+1,rfl,ab,cA,zB⟩,Bw cA⟩
section
variable{ro:Nat->Nat}{m mb:ah}{lb:Nat}{sl:Nat->Sl}{L:Nat->List Int}{ds:List aS}{rs:List di}{n:Nat}{d r a k:Sl}{x:bu}{c:Prop}
theorem Mp(hx:af mb m)(dX:∀b,b<mb.size->ro b=0)(h:fJ ro m lb sl L)(hi:qx ds n L)(hN:cR mb d r ds rs)(ha:aj mb a x.args)(hk:lA mb k x.aW)(hw:WS ds rs.length c n x)(hb:n+4*x.w<=1000000000000)(pu:x.op=7\/x.op=8)(ih:∀b∈x.aW,TA ds rs c b):
 aD Tryz.prog 197 [vp lb 0,.agg #[Sl.v d,Sl.v r],mJ x a k] m (Bd ro m lb (qx ds n)):=by
 apply tn (lb,0)
 simp -zeta only[aw,ax,aGa]
 intro m1 m2
 have st:=GW.WT (m1:=m1) (m2:=m2) hx dX h.new rfl rfl
 obtain⟨x2,hl⟩:=cv (m1:=m1) (m2:=m2) rfl rfl
 clear_value m2
 clear_value m1
 have jk:=hk.len
 have jK:=ha.len
 have h1a:=hw.db.jm ab
 have VW:0<x.aW.length:=by
  rcases pu with h7|h8
  ·have:=hw.db.IC h7;omega
  ·exact(hw.db.all h8).2
 have hT:∀{M:ah},af m2 M->To ro m ro M:=λxx=>cJ.dS _ (x2.trans xx) h.new
 have K:∀(M:ah)(i:Nat)(b:Bk),af m2 M->x.aW[i]? =some b->aD Tryz.prog 237 [vp lb 0,.agg #[Sl.v d,Sl.v r],mJ x a k,vi i] M (afh M n):=λM i b xx V5=>
  RL (hx.trans (x2.trans xx)) (h.ext (x2.trans xx)) hi hN ha hk hw hb V5 (ih b (ak V5))
 refine⟨λM=>af m2 M,⟨λ_=>?_,λ_=>af.av _⟩,?_⟩
 ·obtain⟨y,hy⟩:=ae (l:=x.args) (k:=0) ab
  obtain⟨y0,y1⟩:=hw.db.args y (ak hy)
  refine⟨aO,ab,y,(ha.ext st.ext).aE hy,?_⟩
  exact(qy (h.ext x2) hi ab y0 y1).mono λv m3⟨b,e,x3⟩=>⟨λb hb=>x3.same b (hl b hb),b,e,λ_=>.no (hT x3),λ_=>x3⟩
 ·intro m3 x3
  obtain⟨b0,zy⟩:=ae VW
  refine(K m3 0 b0 x3 zy).mono λv m4⟨lb1,ok1,e,x4,h1⟩=>⟨λb hb=>x4.same b (x3.lt (hl b hb)),(lb1,0),ok1,e,λ_=>.no (hT (x3.trans x4)),λlx=>?_⟩
  obtain⟨ZU,sl1,L1,alf,h1,n1⟩:=h1 (by simpa using lx)
  have u4:=x3.trans x4
  have Ut:=n1 1 aO;have l15:=n1 5 aO
  refine acz (n:=x.aW.length) (a:=1) ab (jk▸hk.eP) (λ_ M=>af m4 M) (af.av _) ?_
  rintro i M I μ h1i hik xM next
  have uM:=u4.trans xM
  have H1:=h1.ext xM
  refine⟨λcA=>?_,λcA=>?_⟩
  ·simp only[aFP]at cA
   obtain⟨b,hb⟩:=ae (l:=x.aW) (k:=i) ab
   refine(K M i b uM hb).mono λv m6⟨lb2,ok2,e,x6,h2⟩=>⟨λb hb=>x6.same b (uM.lt (hl b hb)),(lb2,0),ok2,e,λ_=>.no (hT (uM.trans x6)),λlx=>?_⟩
   obtain⟨j8,sl2,L2,QQ,h2,n2⟩:=h2 (by simpa using lx)
   have l21:=n2 1 aO;have l25:=n2 5 aO
   have H6:=H1.ext x6
   refine⟨_,H6.bH (k:=1) aO,_,h2.bH (k:=1) aO,?_⟩
   refine(oh (H6.oX (k:=1) aO ab) (h2.oX (k:=1) aO ab)).mono λv m7⟨bb,e,_,x7⟩=>⟨λb hb=>x7.same b (x6.lt (uM.lt (hl b hb))),bb,e,λ_=>.no (hT (uM.trans (x6.trans x7))),λ_=>?_⟩
   have H7:=H6.ext x7
   have h7:=h2.ext x7
   refine⟨_,H7.bH (k:=5) aO,_,h7.bH (k:=5) aO,?_⟩
   refine(oh (H7.oX (k:=5) aO ab) (h7.oX (k:=5) aO ab)).mono λv m8⟨bb,e,_,x8⟩=>⟨λb hb=>x8.same b (x7.lt (x6.lt (uM.lt (hl b hb)))),bb,e,λ_=>.no (hT (uM.trans (x6.trans (x7.trans x8)))),λ_=>?_⟩
   exact next ab _ (xM.trans (x6.trans (x7.trans x8)))
  ·let pX:Nat->Nat:=λb=>if b<m3.size then ro b else ZU b
   have uu:=x2.trans x3
   have xx:=uu.trans (x4.trans xM)
   have z4:=x4.size;have zM:=xM.size;have zu:=uu.size
   have R0:∀b,b<m3.size->pX b=ro b:=λb hb=>aFW hb
   have H0:fJ pX M lb sl L:=by
    have g:=h.ext xx;refine⟨λb hb=>?_,by rw[R0 _ (aFY h.box.lt zu)];exact h.gG,g.box,λj hj=>(h.rm j hj).eg (λh0=>xx.same _ ((h.rm j hj).ao h0).1) λh0=>R0 _ (aFY ((h.rm j hj).ao h0).1 zu)⟩;simp only[pX];rw[aFS ab];exact H1.new b hb
   have A:∀j,j<7->fB pX M au 1 (j+1) (sl1 j) ((L1 j).map Ce.i):=λj hj=>(H1.rm j hj).eg (λ_=>rfl) λh0=>by
    have h2:=((H1.rm j hj).ao h0).2;simp only[pX];rw[aFS λcA=>by rw[alf _ cA]at h2;omega]
   have c3:To ro m pX M:=⟨xx.size,λb hb=>R0 b (aFY hb zu),H0.new,λb hb _=>xx.same b hb⟩
   have rK:GW mb [m1.size,m.size] pX M:=⟨st.ext.trans uM,λb hb=>by rw[R0 b (aFY (aFY hb hx.size) zu)];exact dX b hb,λb hb=>⟨uM.lt (hl b hb),by rw[R0 b (x3.lt (hl b hb))];exact(st.box b hb).2⟩⟩
   clear_value pX
   refine⟨_,H1.bH (k:=1) aO,?_⟩
   obtain⟨w5,h5,c5⟩:=H0.aff (k:=1) aO (A 1 aO)
   refine⟨w5,?_⟩
   intro m9
   have cx:lb1≠lb:=λe=>by
    have h8:=H1.gG;rw[e,alf _ (aFY h.box.lt zu)]at h8;omega
   have G:ad m9 lb1 5=some (Sl.v (sl1 5)):=(aA (aP _ _ _ _ cx) _).trans (H1.bH (k:=5) aO)
   have A5:fB pX m9 au 1 (5+1) (sl1 5) ((L1 5).map Ce.i):=by
    refine(A 5 aO).eg (λh0=>aP _ _ _ _ λe=>?_) λ_=>rfl;have:=((A 5 aO).ao h0).2;rw[e,H0.gG]at this;omega
   obtain⟨w6,h6,c6⟩:=h5.aff (k:=5) aO A5
   exact⟨rK.cg c5,_,G,w6,(rK.to c5).cg c6,.Pa ((c3.trans c5).trans c6) h6 ((hi.aL Ut).tok l15)⟩
end
end
section
section
variable{ro:Nat->Nat}{m mb:ah}{lb:Nat}{sl:Nat->Sl}{L:Nat->List Int}{ds:List aS}{rs:List di}{n:Nat}{d r a k:Sl}{x:bu}{c:Prop}
theorem EJ(hx:af mb m)(dX:∀b,b<mb.size->ro b=0)(h:fJ ro m lb sl L)(hi:qx ds n L)(hN:cR mb d r ds rs)(ha:aj mb a x.args)(hk:lA mb k x.aW)(hw:WS ds rs.length c n x)(hb:n+4*x.w<=1000000000000)(ih:∀b∈x.aW,TA ds rs c b):
 aD Tryz.prog 164 [vp lb 0,.agg #[Sl.v d,Sl.v r],mJ x a k] m (Bd ro m lb (qx ds (n+dn x))):=by
 apply vm (lb,0)
 simp -zeta only[aw,ax,aGa]
 intro m1 m2
 have st:=GW.WT (m1:=m1) (m2:=m2) hx dX h.new rfl rfl
 have x2:af m m2:=(cv (m1:=m1) (m2:=m2) rfl rfl).1
 clear_value m2
 clear_value m1
 have h2:=h.ext x2
 have jK:=ha.len
 have Ua:=bu.jD x
 have N0:=hi.len 0 aO
 refine⟨_,h2.bH (k:=0) aO,?_⟩
 refine(lJ (hN.le st.ext.le) (h2.oX (k:=0) aO ab) (ha.ext st.ext) (hk.le st.ext.le) ab (λb _=>kO b)).mono λv m3⟨t,e,_,x3⟩=>⟨λb hb=>x3.same b (st.box b hb).1,t,e,?_⟩
 have rK:=st.dY x3
 have h3:=h2.ext x3
 have c3:To ro m ro m3:=cJ.dS _ (x2.trans x3) h.new
 have jm:14<=x.op\/x.op=7\/x.op=8->∃y:Int,x.args[0]? =some y/\0<=y/\y<(n:Int):=λho=>by
  have:=hw.db.jm ho;obtain⟨y,hy⟩:=ae (l:=x.args) (k:=0) ab;exact⟨y,hy,hw.db.args y (ak hy)⟩
 refine⟨λok M=>∃bG,To ro m bG M/\GW mb [m1.size,m.size] bG M/\(ok=true->∃Bo L',fJ bG M lb Bo L'/\qx ds n L'),⟨λxh=>?_,λn14=>⟨λJB=>?_,λn15=>⟨λFI=>?_,λn16=>⟨λh7=>?_,λn7=>?_⟩⟩⟩⟩,?_⟩
 ·simp only[aFZ]at xh
  obtain⟨y,hy,y0,y1⟩:=jm ab
  have QC:=hw.db.jm ab
  have Y:∀{M:ah},af mb M->ad M a.ao (a.off+Int.toNat (0:Int)*1)=some (vi y):=λxx=>(ha.ext xx).aE hy
  refine⟨aO,ab,y,Y rK.ext,?_⟩
  refine(qy h3 hi ab y0 y1).mono λv m4⟨b,e,x4⟩=>⟨λb hb=>x4.same b (rK.box b hb).1,b,e,?_⟩
  have h4:=h3.ext x4
  have Jn:=rK.dY x4
  have N1:=hi.len 1 aO
  have l1:=h4.len (k:=1) aO
  obtain⟨w,rJ⟩:=ae (l:=L 1) (k:=y.toNat) ab
  obtain⟨wr,h5,c5⟩:=h4.put (k:=1) (i:=y.toNat) aO ab (bS (w+1))
  exact⟨_,h4.bH (k:=1) aO,aO,ab,y,Y Jn.ext,_,h4.bH (k:=1) aO,aO,ab,y,Y Jn.ext,y0,ab,w,h4.aE aO ab rJ,y0,ab,wr,Jn.cg c5,ro,(c3.trans (cJ.dS _ x4 h3.new)).trans c5,Jn.to c5,λ_=>⟨sl,_,h5,hi.aL (by simp[N1])⟩⟩
 ·simp only[aFZ]at JB
  obtain⟨y,hy,y0,y1⟩:=jm ab
  have QC:=hw.db.jm ab
  refine⟨aO,ab,y,(ha.ext rK.ext).aE hy,?_⟩
  refine(sQ h3 hi ab y0 y1).mono λv m4⟨b,bG,e,c4,h4⟩=>⟨rK.cg c4,b,e,bG,c3.trans c4,rK.to c4,λhb=>?_⟩
  obtain⟨Bo,L',h5,l,hl,rfl⟩:=h4 hb
  exact⟨Bo,_,h5,hi.aL hl⟩
 ·simp only[aGe,aFZ]at FI
  refine(P6 rK.ext rK.dX h3 hi ab hN ha hw.db ab).mono λv m4⟨b,bG,e,c4,h4⟩=>⟨rK.cg c4,b,e,bG,c3.trans c4,rK.to c4,h4⟩
 ·simp only[aGe,aFZ]at h7
  refine(Mp rK.ext rK.dX h3 hi hN ha hk hw hb h7 ih).mono λv m4⟨b,bG,e,c4,h4⟩=>⟨rK.cg c4,b,e,bG,c3.trans c4,rK.to c4,h4⟩
 ·refine(IP rK.ext rK.dX h3 hi ab hN ha hw.db).mono λv m4⟨b,bG,e,c4,h4⟩=>⟨rK.cg c4,b,e,bG,c3.trans c4,rK.to c4,h4⟩
 ·rintro ok M ⟨JC,c4,Jn,h4⟩
  refine⟨λ_=>.no c4,λlx=>?_⟩
  obtain⟨sl4,L4,h4,i4⟩:=h4 (by simpa using lx)
  have gr:∀{M':ah}(t o:Int),af M M'->dn x=1->aD Tryz.prog 194 [vp lb 0,vi t,vi o,vi (-1:Int)] M' λ_ m'=>da [m1.size,m.size] M' m'/\Bd ro m lb (qx ds (n+dn x)) (vb true) m':=λt o xx hd=>
   (ze (h4.ext xx) (λj hj=>by rw[i4.len j hj];omega) t o (-1)).mono λ_ m'⟨bG,Bo,c5,h5⟩=>⟨(Jn.dY xx).cg c5,.Pa ((c4.trans (cJ.dS _ xx h4.new)).trans c5) h5 (by rw[hd];exact(i4.Oo t o ab).By ab)⟩
  refine(gD x.op M).mono λv m5⟨b,e,BR,x5⟩=>⟨λb hb=>x5.same b (Jn.box b hb).1,b,e,λnH=>⟨λ_=>?_,λ_=>?_⟩,λmF=>?_⟩
  ·exact gr t 1 x5 (by have:=qS x b BR;rw[aFW nH]at this;exact this)
  ·refine(gD x.op m5).mono λv m6⟨b',e,Pn,x6⟩=>⟨λb hb=>x6.same b (x5.lt (Jn.box b hb).1),b',e,λagu=>?_,λagv=>?_⟩
   ·exact gr 0 0 (x5.trans x6) (by have:=qS x b' Pn;rw[aFW agu]at this;exact this)
   ·have:=Pn.2 (BR.1 nH);rw[this]at agv;simp at agv
  ·have LP:=qS x b BR
   rw[aFS (by simp[mF])]at LP
   refine(gD x.op m5).mono λv m6⟨b',e,Pn,x6⟩=>⟨λb hb=>x6.same b (x5.lt (Jn.box b hb).1),b',e,λagu=>?_,λagv=>?_⟩
   ·exact gr 0 0 (x5.trans x6) (by have:=qS x b' Pn;rw[aFW agu]at this;exact this)
   ·exact .Pa (c4.trans (cJ.dS _ (x5.trans x6) h4.new)) (h4.ext (x5.trans x6)) (by rw[LP];exact i4)
end
theorem Mq{ds:List aS}{rs:List di}{c:Prop}:∀b:Bk,TA ds rs c b:=by
 refine Bk.ind ?_;intro ar kV ih ro m mb lb sl L n k d r t hx dX h hi lP hb hk hN ht;simp only[Bk.gH,Bk.fH,Bk.nV]at*;apply tW (lb,0);simp -zeta only[aw,ax,aGa];intro m1 m2;have st:=GW.WT (m1:=m1) (m2:=m2) hx dX h.new rfl rfl;have x2:af m m2:=(cv (m1:=m1) (m2:=m2) rfl rfl).1;have c2:To ro m ro m2:=cJ.dS _ x2 h.new;clear_value m2;clear_value m1;obtain⟨uB,r0,r1⟩:=lP.aT;simp only[Bk.gH,Bk.fH]at uB r0 r1;have MK:=ht.len;have Jj:=yP ar;refine dg (n:=ar.length) (MK▸ht.eP) (λi M=>∃bG Bo L',qx ds (n+dc (ar.take i)) L'/\To ro m bG M/\GW mb [m1.size,m.size] bG M/\fJ bG M lb Bo L') ⟨ro,sl,L,by simpa using hi,c2,st,h.ext x2⟩ ?_;rintro i M I μ iy ⟨pX,Ur,L3,i3,c3,rK,h3⟩ next
 have hdk:=qQ (ar.take i);have Pf:=aHj i ar;have hsk:=dN (ar.take i);refine⟨λcA=>?_,λcA=>?_⟩
 ·simp only[aFP]at cA;obtain⟨x,ph⟩:=ae (l:=ar) (k:=i) ab;obtain⟨a,kk,ha,oO,g0,g1,g2,g3,g4⟩:=ht.aE ph;have Ua:=nh ph;have Su:=Jj (i+1);have hdx:=oG ph;have X:=rK.ext;refine⟨ab,ab,_,X.ad g0,_,X.ad g1,_,X.ad g2,_,X.ad g3,_,X.ad g4,?_⟩;refine(EJ X rK.dX h3 i3 hN ha oO (uB i x ph) ab (ih x (ak ph))).mono λv m4⟨b,bG,e,c4,h4⟩=>⟨rK.cg c4,b,e,λ_=>.no (c3.trans c4),λhb=>?_⟩;obtain⟨Bo,L',h5,i5⟩:=h4 (by simpa using hb);exact next ab _ ⟨bG,Bo,L',by rw[hdx,<-aGm];exact i5,c3.trans c4,rK.to c4,h5⟩
 ·simp only[aFQ]at cA;have ei:i=ar.length:=ab;rw[ei,aGG]at i3;have kU:=qQ ar;have kQ:=dN ar;have N0:=i3.len 0 aO;have l0:=h3.len (k:=0) aO;obtain⟨w,hw⟩:=ae (l:=L3 0) (k:=kV.toNat) ab;refine⟨_,h3.bH (k:=0) aO,r0,ab,w,h3.aE aO ab hw,λ_=>?_,λ_=>?_⟩
  ·refine(sQ h3 i3 ab r0 ab).mono λv m4⟨b,bG,e,c4,h4⟩=>⟨rK.cg c4,b,e,λ_=>.no (c3.trans c4),λhb=>?_⟩;obtain⟨Bo,L',h5,l,hl,rfl⟩:=h4 (by simpa using hb);refine(Kw h5 (i3.aL hl) ab (k:=k) ab).mono λv m5⟨b,FA,e,c5,h6⟩=>⟨(rK.to c4).cg c5,b,e,b,FA,rfl,(c3.trans c4).trans c5,h6⟩
  ·refine(Kw h3 i3 ab (k:=k) ab).mono λv m5⟨b,FA,e,c5,h6⟩=>⟨rK.cg c5,b,e,b,FA,rfl,c3.trans c5,h6⟩
def aju(m:ah)(ds:List aS)(q:di)(j:Int)(v:Value)(m':ah):Prop:=∃(lb:Nat)(ok:Bool),v=.tuple #[vp lb 0,vb ok]/\af m m'/\(ok=true->0<=j/\j<=q.body.ar.length/\∃ro sl L,(∀b,b<m.size->ro b=0)/\fJ ro m' lb sl L/\qx ds (q.params.length+dc (q.body.ar.take j.toNat)) L)
theorem C3{m:ah}{d r:Sl}{ds:List aS}{rs:List di}{c:Prop}{W:Nat}(hN:cR m d r ds rs)(hk:xc ds rs c W)(hW:W<=200000000000){f:Nat}{q:di}(hq:rs[f]? =some q){j:Int}(hj: -9000000000000000000<=j/\j<=9000000000000000000):
 aD Tryz.prog 122 [.agg #[Sl.v d,Sl.v r],vi f,vi j] m (aju m ds q j):=by
 apply ve
 simp -zeta only[aw,ax]
 intro m1
 have x1:af m m1:=af.push _ _
 have hl:∀b∈[m.size],b<m1.size:=by simp[m1]
 clear_value m1
 have nL:=hN.fj.len;have Sz:=hN.lZ
 have gL:=ap hq
 obtain⟨Bn,tB,lP,hw⟩:=hk.cq q (ak hq)
 obtain⟨p,t,b,c1,c2,c3,e0,e1,e2,e3,e4⟩:=hN.fj.aE hq
 have no:∀{M:ah}{o:Obj},af m M->aju m ds q j (.tuple #[vp M.size 0,vb false]) (M.push o):=λxx=>⟨_,false,rfl,xx.aC _,az⟩
 refine(CM (hN.le x1.le) (λq' h'=>by have:=hk.cq q' h';omega)).ay (af.av m1) hl λv1 m2 x2 _=>⟨_,rfl,λ_=>no (x1.trans x2),λ_=>?_⟩
 have u2:=x1.trans x2
 refine(aJ _ _ _ _).ay x2 hl λv2 m3 _ x3 v3=>⟨_,rfl,λ_=>no (u2.trans x3),λ_=>?_⟩
 have u3:=u2.trans x3
 have Ln:=c3.len
 refine⟨ab,ab,_,u3.ad e3,?_⟩
 refine(aJ _ _ _ _).ay v3 hl λv4 m4 xt x4 w4=>⟨_,rfl,λ_=>no (u3.trans x4),λht4=>?_⟩
 have u4:=u3.trans x4
 have hr:=xt.1 (by simpa using ht4)
 refine⟨ab,ab,_,u4.ad e0,_,u4.ad e1,_,u4.ad e2,_,u4.ad e3,_,u4.ad e4,?_⟩
 refine(GX (q:=q) (c1.ext u4) (c2.ext u4) Bn tB ds).mono λv m5⟨lb,e,x5,ro,sl,L,dX,h5,i5⟩=>⟨λb hb=>x5.same b (w4.lt (hl b hb)),(lb,0),e,?_⟩
 obtain⟨uB,_,_⟩:=lP.aT
 have NF:=Bk.jD q.body
 have Jj:=yP q.body.ar
 have ZT:GW m4 [m.size] ro m5:=⟨x5,dX,λb hb=>⟨x5.lt (w4.lt (hl b hb)),dX b (w4.lt (hl b hb))⟩⟩
 have e6:j=((j.toNat:Nat):Int):=ab
 obtain⟨jn,hjn⟩:∃jn:Nat,j=jn:=⟨j.toNat,e6⟩
 subst hjn
 simp only[aHo]
 refine dg (n:=jn) ab (λi M=>∃bG Bo L',qx ds (q.params.length+dc (q.body.ar.take i)) L'/\To ro m5 bG M/\GW m4 [m.size] bG M/\fJ bG M lb Bo L') ⟨ro,sl,L,by simpa using i5,h5.to,ZT,h5⟩ ?_
 rintro i M I μ iy ⟨ro6,sl6,L6,i6,c6,Zf,h6⟩ next
 have U:af m M:=u4.trans Zf.ext
 refine⟨λcA=>?_,λcA=>?_⟩
 ·simp only[aFP]at cA
  obtain⟨x,ph⟩:=ae (l:=q.body.ar) (k:=i) ab
  obtain⟨a,kk,ha,oO,g0,g1,g2,g3,g4⟩:=(c3.le u4.le).aE ph
  have X:=Zf.ext
  have Ua:=nh ph
  have Su:=Jj (i+1)
  have hdk:=qQ (q.body.ar.take i)
  have hsk:=dN (q.body.ar.take i)
  refine⟨ab,ab,_,U.ad e3,ab,ab,_,X.ad g0,_,X.ad g1,_,X.ad g2,_,X.ad g3,_,X.ad g4,?_⟩
  refine(EJ X Zf.dX h6 i6 (hN.le u4.le) ha oO (uB i x ph) ab (λb _=>Mq b)).mono λv m7⟨b,bG,e,c7,h7⟩=>⟨Zf.cg c7,b,e,λ_=>⟨lb,false,rfl,u4.trans (Zf.to c7).ext,az⟩,λhb=>?_⟩
  obtain⟨Bo,L',h8,i8⟩:=h7 (by simpa using hb)
  exact next ab _ ⟨bG,Bo,L',by rw[oG ph,<-aGm];exact i8,c6.trans c7,Zf.to c7,h8⟩
 ·simp only[aFQ]at cA
  have ei:i=jn:=ab
  subst ei
  exact⟨lb,true,rfl,U,λ_=>⟨ab,ab,ro6,sl6,L6,λb hb=>Zf.dX b (u4.lt hb),h6,by simpa using i6⟩⟩
end
theorem TB{a n:Int}(ha:0<=a)(hn:0<n):0<=a.tmod n/\a.tmod n<n:=⟨Int.tmod_nonneg _ ha,Int.tmod_lt_of_pos _ hn⟩
theorem Nj{a n:Int}(ha:0<=a)(hn:0<n):0<=a.tdiv n/\a.tdiv n<=a:=by
 rw[aG7 ha];exact⟨Int.ediv_nonneg ha ab,Int.ediv_le_self _ ha⟩
theorem aam{a b:Int}(ha:0<=a/\a<4611686018427387904)(hb:0<=b/\b<4611686018427387904):0<=Z4 a b:=by
 unfold Z4;have h1:(a%18446744073709551616).toNat<2^62:=ab;have h2:(b%18446744073709551616).toNat<2^62:=ab;have h3:=Nat.xor_lt_two_pow h1 h2;rw[aF ab ab];omega
def Rd(rb:Nat)(bs:Sl)(P:Nat)(m:ah):Prop:=(∃p:Int,bK m rb mZ [.s bs,.i p]/\0<=p/\p<=P)/\bs.len<=bs.cap/\∀k:Nat,k<bs.len->∃v:Int,0<=v/\v<=255/\ad (aY [rb] m) bs.ao (bs.off+k*1)=some (.int .u8 v)
theorem Rd.mono{rb P Q:Nat}{bs:Sl}{m:ah}(h:Rd rb bs P m)(hq:P<=Q):Rd rb bs Q m:=let⟨⟨p,h1,h2,h3⟩,h4⟩:=h;⟨⟨p,h1,h2,ab⟩,h4⟩
theorem Rd.lt{rb P:Nat}{bs:Sl}{m:ah}(h:Rd rb bs P m):rb<m.size:=let⟨⟨_,h1,_⟩,_⟩:=h;h1.lt
theorem Rd.Mr{rb P0 P:Nat}{bs:Sl}{m0 M M':ah}(h0:Rd rb bs P0 m0)(h:Rd rb bs P M)(hf:Fz [rb] m0 M')(he:M'[rb]? =M[rb]?):Rd rb bs P M':=by
 obtain⟨⟨p,h1,h2,h3⟩,_⟩:=h;exact⟨⟨p,h1.congr he,h2,h3⟩,h0.2.1,λk hk=>let⟨v,v0,v1,hv⟩:=h0.2.2 k hk;⟨v,v0,v1,hf.bO (λ_ h=>h) _ _ _ hv⟩⟩
theorem Rd.ext{rb P:Nat}{bs:Sl}{m m':ah}(h:Rd rb bs P m)(hx:af m m'):Rd rb bs P m':=h.Mr h (hx.fz _) (hx.same _ h.lt)
theorem Rd.ag{rb P0 P:Nat}{bs:Sl}{m0 M:ah}(h0:Rd rb bs P0 m0)(h:Rd rb bs P M)(hf:Fz [rb] m0 M){b:Nat}(hb:m0.size<=b)(o:Nat)(l:List Ce):Rd rb bs P (ag M b o l):=
 h0.Mr h (hf.ag (Or.inr hb) o l) (aP _ _ _ _ λe=>by have:=h0.lt;omega)
def ajv(rb:Nat)(bs:Sl)(P:Nat)(m:ah)(n:Int)(v:Value)(m':ah):Prop:=∃k:Int,v=vi k/\0<=k/\(k<n\/k=0)/\Rd rb bs (P+1) m'/\Fz [rb] m m'
theorem bo{rb P:Nat}{bs:Sl}{m:ah}(h:Rd rb bs P m)(hP:P<=10000000000000000)(n:Int):aD Tryz.prog 34 [vp rb 0,vi n] m (ajv rb bs P m n):=by
 obtain⟨⟨p,hB,p0,p1⟩,hc,hb⟩:=h;apply uV (rb,0);simp -zeta only[aGa];have g1:ad m rb 1=some (vi p):=hB.bH 1;refine⟨p,g1,hB.dW az,?_⟩;intro m1;have ew:bS (p+1)=p+1:=aF ab ab;have ek:bS (p+1 -1)=p:=by rw[show p+1 -1=p by omega];exact aF ab ab
 have ON:bK m1 rb mZ [.s bs,.i (p+1)]:=by rw[<-ew];exact bK.ag (m:=m) (r:=[.i (bS (p+1))]) (o:=1) hB
 have fz:Fz [rb] m m1:=(Fz.av [rb] m).ag (Or.inl az) _ _;have hle:Le (aY [rb] m) (aY [rb] m1):=fz.bO λ_ h=>h;clear_value m1;have R:∀k:Int,0<=k->(k<n\/k=0)->ajv rb bs P m n (vi k) m1:=λk h0 h1=>⟨k,rfl,h0,h1,⟨⟨p+1,ON,ab,ab⟩,hc,λj hj=>let⟨v,v0,v1,hv⟩:=hb j hj;⟨v,v0,v1,hle _ _ _ hv⟩⟩,fz⟩;have g0:ad m1 rb 0=some (Sl.v bs):=ON.bH 0;have g1:ad m1 rb 1=some (vi (p+1)):=ON.bH 1;have B:∀i:Int,0<=i->i<(bs.len:Int)->∃v:Int,0<=v/\v<=255/\ad m1 bs.ao (bs.off+i.toNat*1)=some (.int .u8 v):=λi h0 h1=>by
  obtain⟨v,v0,v1,hv⟩:=hb i.toNat ab;exact⟨v,v0,v1,(cT.1 (hle _ _ _ hv)).2⟩
 refine⟨λ_=>R 0 (aGw _) (Or.inr rfl),λhn=>⟨_,g0,λ_=>R 0 (aGw _) (Or.inr rfl),λhl0=>?_⟩⟩;simp only[aFQ]at hn;simp only[aFU]at hl0;have OS:0<n:=ab;refine⟨_,g1,_,g0,?_⟩;rw[ek];refine⟨λcA=>?_,λ_=>?_⟩
 ·simp only[aFP]at cA;obtain⟨v,v0,v1,hv⟩:=B p p0 cA;refine⟨_,g0,p0,cA,v,hv,ab,?_⟩;rw[aF ab ab];have:=TB v0 OS;exact R _ this.1 (Or.inl this.2)
 ·have hl:(0:Int)<(bs.len:Int):=ab;obtain⟨i0,i1⟩:=TB p0 hl;obtain⟨v,v0,v1,hv⟩:=B _ i0 i1;have e7:bS (bS (p*7)+3)=p*7+3:=by rw[aF (x:=p*7) ab ab,aF ab ab]
  obtain⟨j0,j1⟩:=TB (a:=p*7+3) ab hl;obtain⟨u,u0,u1,hu⟩:=B _ j0 j1;obtain⟨d0,d1⟩:=Nj p0 hl;rw[e7];refine⟨_,g0,_,g0,ab,i0,i1,v,hv,_,g0,_,g0,ab,j0,j1,u,hu,_,g0,ab,aO,ab,?_⟩;have E1:bS (bS v*131)=v*131:=by rw[aF (x:=v) ab ab,aF ab ab]
  have E2:bS (bS u*1117)=u*1117:=by rw[aF (x:=u) ab ab,aF ab ab]
  have E3:bS (p*29)=p*29:=aF ab ab;have E4:bS (bS (p.tdiv bs.len)*53)=p.tdiv bs.len*53:=by rw[aF (x:=p.tdiv bs.len) ab ab,aF ab ab]
  rw[E1,E2,E3,E4,aF (x:=v*131+u*1117) ab ab,aF (x:=v*131+u*1117+p*29) ab ab,aF (x:=v*131+u*1117+p*29+p.tdiv bs.len*53) ab ab];have lM:0<=v*131+u*1117+p*29+p.tdiv bs.len*53:=ab;obtain⟨q0,q1⟩:=Nj (n:=64) lM aO;rw[aF (x:=Int.tdiv _ 64) ab ab];have hX:=aam (a:=v*131+u*1117+p*29+p.tdiv bs.len*53) (b:=(v*131+u*1117+p*29+p.tdiv bs.len*53).tdiv 64) ⟨lM,ab⟩ ⟨q0,ab⟩;obtain⟨z0,z1⟩:=TB hX OS;exact R _ z0 (Or.inl z1)
theorem ij{rb P:Nat}{bs:Sl}{m:ah}(h:Rd rb bs P m)(hP:P<=10000000000000000){s:Sl}{l:List Int}(hs:aj (aY [rb] m) s l)(hl:0<l.length):
 aD Tryz.prog 40 [vp rb 0,Sl.v s] m λv m'=>∃k:Int,v=vi k/\k∈l/\Rd rb bs (P+1) m'/\Fz [rb] m m':=by
 apply wE (rb,0)
 have kQ:=hs.len
 refine(bo h hP (s.len:Int)).mono λv m1⟨k,e,k0,k1,h1,f1⟩=>⟨k,e,k0,ab,?_⟩
 obtain⟨x,hx⟩:=ae (l:=l) (k:=k.toNat) ab
 exact⟨x,(cT.1 ((f1.bO (λ_ h=>h)) _ _ _ (hs.aE hx))).2,x,rfl,ak hx,h1,f1⟩
theorem _root_.Go.Vc.Gr.set{α:Type}{S X:List Nat}{m0 m:ah}{e sz:Nat}{R:ah->List Ce->α->Prop}{s:Sl}{l:List α}(hR:lV sz R)(h:Gr S m0 m e sz R s l)(hf:Fz X m0 m){k:Nat}(hk:k<l.length){cs:List Ce}{a:α}(ha:R (aY (s.ao::S) m) cs a):
 dW m s.ao (s.off+k*sz) sz/\Gr S m0 (ag m s.ao (s.off+k*sz) cs) e sz R s (l.set k a)/\Fz X m0 (ag m s.ao (s.off+k*sz) cs)/\(∀b,b≠s.ao->(ag m s.ao (s.off+k*sz) cs)[b]? =m[b]?):=by
 have hy:=h.aN
 obtain⟨h0,css,h1,h2⟩:=h
 have cx:∀b,b≠s.ao->(ag m s.ao (s.off+k*sz) cs)[b]? =m[b]? :=λb hb=>aP _ _ _ _ hb
 obtain⟨b,c,tail,e1,e2,e3,e4,e5⟩:=h1.aE.resolve_left h0
 have pt:=hR.len ha
 obtain⟨ck,BT⟩:=ae (l:=css) (k:=k) (by rw[h2.len];exact hk)
 have azX:=h2.size ck (ak BT)
 have ho:s.off+k*sz=k*sz:=by rw[e1];simp
 have jx:s.ao=b:=by rw[e1];rfl
 have jk:=ap BT
 have LA:css=css.take k++ck::css.drop (k+1):=by
  have h5:=List.getElem?_eq_some_iff.1 BT;obtain⟨h6,h7⟩:=h5;rw[<-h7,<-aHc h6,aGi]
 have htk:(css.take k).flatten.length=k*sz:=by rw[bZ λc hc=>h2.size c (aGk hc),aGH,aGV ab]
 have SJ:css.set k cs=css.take k++cs::css.drop (k+1):=by
  rw[aHu,aFW jk]
 have gL:fP (css.flatten++tail) (k*sz) cs=(css.set k cs).flatten++tail:=by
  have e7:css.flatten++tail=(css.take k).flatten++(ck++((css.drop (k+1)).flatten++tail)):=by
   conv=>lhs;rw[LA]
   simp
  rw[e7,<-htk,zQ _ _ _ bg,SJ];rw[show cs.length=ck.length by omega,List.drop_left];simp
 have aeE:(css.set k cs).flatten.length=css.flatten.length:=by
  rw[bZ (sz:=sz) λc hc=>?_,bZ h2.size,aGO];rcases aGd hc with h|h
  ·exact h2.size c h
  ·rw[h];exact pt
 have hle:Le (aY (s.ao::S) m) (aY (s.ao::S) (ag m s.ao (s.off+k*sz) cs)):=bt az λ_ h=>h
 refine⟨?_,⟨h0,css.set k cs,⟨by rw[aeE];exact h1.len,Or.inr ⟨b,c,tail,e1,e2,?_,?_,e5⟩⟩,⟨by simp[h2.len],λc hc=>?_,λj c y hj lj=>?_⟩⟩,hf.ag (Or.inr hy.1) _ _,cx⟩
 ·rw[ho,jx]
  refine e3.dW ?_
  have:(css.take k).flatten.length+ck.length<=css.flatten.length:=by
   conv=>rhs;rw[LA]
   simp
  simp only[aF4];omega
 ·have h5:=bK.ag (m:=m) (b:=b) (r:=cs) (o:=k*sz) e3
  rw[ho,jx,<-gL];exact h5
 ·rw[<-e4,aF4,aF4,aeE]
 ·rcases aGd hc with h|h
  ·exact h2.size c h
  ·rw[h];exact pt
 ·by_cases ej:k=j
  ·subst ej
   rw[aGl jk]at hj
   rw[aGl hk]at lj
   simp at hj lj;subst hj lj
   exact hR.le hle ha
  ·rw[aGn ej]at hj lj
   exact hR.le hle (h2.cq j c y hj lj)
theorem zf{S:List Nat}{m:ah}(hS:∀c∈S,c<m.size){b0 a k:Sl}{r:Int}{ar:List bu}{x:bu}{j:Nat}(hs:cU (aY S m) b0 ar)(ha:aj (aY S m) a x.args)(hk:lA (aY S m) k x.aW)(hj:j<=ar.length)(hb:ar.length<=900000000000):
 aD Tryz.prog 124 [.agg #[Sl.v b0,vi r],vi j,mJ x a k] m λv m'=>∃s',v=.agg #[Sl.v s',vi r]/\cU (aY S m') s' (ar.take j++[x]++ar.drop j)/\af m m':=by
 apply Co
 simp -zeta only[aw,ax]
 intro m1 m2 m3 m4
 obtain⟨x3,hl,s1,s2,s3⟩:=nX (m1:=m1) (m2:=m2) (m3:=m3) rfl rfl rfl
 have x4:af m3 m4:=af.push _ _
 have s4:m4.size=m3.size+1:=by simp[m4]
 have g0:GS (m2.size::S) m3 m4 (.mk m3.size 0 0 0) []:=GS.new _ _
 clear_value m4
 clear_value m3
 have u4:=x3.trans x4
 have kQ:=hs.len
 have Vi:=hs.cap
 have xr:∀c∈[m2.size,m1.size,m.size],c<m4.size:=λc hc=>x4.lt (hl c hc)
 have H:∀{M:ah}{bb:Nat},af m M->m.size<=bb->Le (aY S m) (aY (bb::m2.size::S) M):=λxx XN=>xx.aY λc hc=>by
  simp only[aF0]at hc;rcases hc with e|e|e
  ·exact Or.inr ab
  ·exact Or.inr ab
  ·exact Or.inl e
 have e0:Int.toNat (0:Int)=0:=rfl
 have ej:Int.toNat (j:Int)=j:=ab
 have el:Int.toNat (b0.len:Int)=b0.len:=ab
 rw[e0,ej,el]
 refine⟨ab,ab,ab,?_⟩
 have Jf:cU (aY (m3.size::m2.size::S) m4) (b0.cut 0 j 5) (ar.take j):=by simpa using(hs.le (H (bb:=m3.size) u4 ab)).J6 (i:=0) (aGq _) hj
 refine GS.all g0 (x4.fz []) Jf bg λr1 m5 g1 f1 z1 q1=>⟨λc hc=>q1 c (xr c hc) (by have:=hl c hc;simp;omega),ab,ab,ab,?_⟩
 intro m6
 have x6:af m5 m6:=af.push _ _
 have y1:=g1.aN
 have w5:af m3 m5:=f1.ext
 have E6:∀o,ad m6 m.size o=ad m5 m.size o:=λo=>aA (x6.same _ (by have:=xr m.size az;omega)) o
 refine⟨E6 1,E6 0,?_⟩
 refine GS.iN (x:=x) g1 f1 (ha.le (H (bb:=r1.ao) (x3.trans w5) ab)) (hk.le (H (bb:=r1.ao) (x3.trans w5) ab)) bg λr2 m7 g2 f2 z2 q2=>⟨af.me (w5.trans x6) f2.ext (λc hc=>by have:=hl c hc;omega),?_⟩
 have w7:af m3 m7:=f2.ext
 have y2:=g2.aN
 have E7:∀{M M':ah},af m3 M->af m3 M'->∀o,ad M' m.size o=ad M m.size o:=λh h' o=>aA (by rw[h'.same _ (hl _ az),h.same _ (hl _ az)]) o
 refine⟨E7 (w5.trans x6) w7 1,E7 (w5.trans x6) w7 0,?_⟩
 have NL:cU (aY (r2.ao::m2.size::S) m7) (b0.cut j b0.len 5) (ar.drop j):=by
  have:=(hs.le (H (bb:=r2.ao) (x3.trans w7) ab)).J6 (i:=j) (j:=b0.len) ab ab;rwa[kQ,bL (aFR _),<-kQ]at this
 refine GS.all g2 f2 NL bg λr3 m8 g3 f3 z3 q3=>⟨af.me w7 f3.ext hl,E7 w7 f3.ext 1,?_⟩
 intro m9
 have y3:=g3.aN
 have Pk:∀c∈m2.size::S,c<m3.size:=λc hc=>by
  rcases List.mem_cons.1 hc with e|e
  ·omega
  ·have:=hS c e;omega
 refine⟨r3,rfl,?_,(x3.trans f3.ext).ag ab _ _⟩
 have hD:=g3.done eu.mono Pk aO bg
 have hle:Le (aY (m2.size::S) m8) (aY S m9):=bt az λc hc=>aFT _ hc
 exact cU.le hle (by simpa[aGs]using hD)
theorem Da{S:List Nat}{m:ah}(hS:∀c∈S,c<m.size){d r ss:Sl}{ds:List aS}{rs:List di}{q:di}{f:Nat}{b':Bk}(hn:cR (aY S m) d r ds rs)(hq:rs[f]? =some q)(h3:q.params.length<=3/\q.bX.length<=3)(sk:cU (aY S m) ss b'.ar):
 tw 126 [.agg #[Sl.v d,Sl.v r],vi f,.agg #[Sl.v ss,vi b'.aH]] m S ds λmM=>mM=rs.set f ⟨q.params,q.bX,q.aH,b'⟩:=by
 apply vf
 simp -zeta only[aw,ax]
 intro m1 m2 m3 m4
 obtain⟨x3,hl,s1,s2,s3⟩:=nX (m1:=m1) (m2:=m2) (m3:=m3) rfl rfl rfl
 have x4:af m3 m4:=af.push _ _
 have s4:m4.size=m3.size+1:=by simp[m4]
 have g0:GR (m2.size::S) m3 m4 (.mk m3.size 0 0 0) []:=Gr.new _ (aFR _) _ _ _
 clear_value m4
 clear_value m3
 have u4:=x3.trans x4
 have nL:=hn.fj.len;have Sz:=hn.lZ
 have gL:=ap hq
 have xr:∀c∈[m2.size,m1.size,m.size],c<m4.size:=λc hc=>x4.lt (hl c hc)
 have H:∀{M:ah}{bb:Nat},af m M->m.size<=bb->Le (aY S m) (aY (bb::m2.size::S) M):=λxx XN=>xx.aY λc hc=>by
  simp only[aF0]at hc;rcases hc with e|e|e
  ·exact Or.inr ab
  ·exact Or.inr ab
  ·exact Or.inl e
 refine Gr.all (zs:=[.s .nil,.s .nil,.i 0,.s .nil,.i 0]) fg.mono aO g0 (x4.fz []) (hn.fj.le (H (bb:=m3.size) u4 ab)) bg λr1 m5 g1 f1 z1 q1=>⟨λc hc=>q1 c (xr c hc) (by have:=hl c hc;simp;omega),ab,ab,?_⟩
 simp only[aGp]at g1
 have w5:af m3 m5:=f1.ext
 have y1:=g1.aN
 obtain⟨p,t,b,c1,c2,c3,e0,e1,e2,e3,e4⟩:=(hn.fj.le (H (bb:=r1.ao) (x3.trans w5) ab)).aE hq
 have dX:∀{v:Value}{b o:Nat},ad (aY (r1.ao::m2.size::S) m5) b o=some v->ad m5 b o=some v:=λh=>(cT.1 h).2
 refine⟨_,dX e0,_,dX e1,_,dX e2,_,dX e3,_,dX e4,?_⟩
 have z5:=w5.size
 refine(vS (S:=r1.ao::m2.size::S) (λc hc=>?_) (c1.le (aV _ _)) (c2.le (aV _ _)) ab).mono λrv m6⟨p',t',e,h1,h2,x6⟩=>?_
 ·simp only[aF0]at hc
  rcases hc with e|e|e
  ·omega
  ·omega
  ·have:=hS c e;omega
 subst e
 have g2:=g1.ext fg.mono x6
 have QB:=g2.len aO
 obtain⟨wr,g3,f3,q3⟩:=Gr.set (k:=f) (cs:=[.s p',.s t',.i q.aH,.s ss,.i b'.aH]) (a:=⟨q.params,q.bX,q.aH,b'⟩) fg.mono g2 (f1.then x6) ab ⟨p',t',ss,rfl,h1,h2,sk.le (H (bb:=r1.ao) ((x3.trans w5).trans x6) ab)⟩
 refine⟨λc hc=>x6.same c (by have:=hl c hc;omega),_,_,_,_,_,rfl,ab,ab,wr,?_⟩
 intro m7
 refine⟨λc hc=>q3 c (by have:=hl c hc;omega),?_⟩
 intro m8
 have Pk:∀c∈m2.size::S,c<m3.size:=λc hc=>by
  rcases List.mem_cons.1 hc with e|e
  ·omega
  ·have:=hS c e;omega
 have hle:Le (aY (m2.size::S) m7) (aY S m8):=bt az λc hc=>aFT _ hc
 have w8:af m m8:=(x3.trans f3.ext).ag ab _ _
 exact⟨d,r1,_,rfl,⟨hn.aI.le (w8.bO _),yR.le hle (g3.done fg.mono Pk aO bg),hn.types,bg⟩,rfl,w8⟩
theorem WU{ds:List aS}{nr a:Nat}{l:List bu}(h:WL ds nr True a l){j:Nat}{op v:Int}(ho:14<=op/\op<=17)(hv:0<=v/\v<((a+dc (l.take j):Nat):Int)):
 WL ds nr True a (l.take j++[de op v]++l.drop j)/\dc (l.take j++[de op v]++l.drop j)=dc l/\sw (l.take j++[de op v]++l.drop j)=sw l+2:=by
 have e1:dc [de op v]=0:=gS ho.1 [v]
 have e2:sw [de op v]=2:=mf op [v]
 have e3:=bD (l.take j) (l.drop j)
 have e4:=cb (l.take j) (l.drop j)
 rw[aGi]at e3 e4
 refine⟨((h.take j).xI (CP ho hv)).append ?_,?_,?_⟩
 ·rw[bD,e1];exact h.drop j
 ·rw[bD,bD,e1];omega
 ·rw[cb,cb,e2];omega
def WV(f:Nat)(args:List Value)(m:ah)(S:List Nat)(rb:Nat)(bs:Sl)(P:Nat)(ds:List aS)(Q:List di->Prop):Prop:=
 aD Tryz.prog f args m λv m'=>∃d r rs,v=.agg #[Sl.v d,Sl.v r]/\cR (aY S m') d r ds rs/\Q rs/\Rd rb bs P m'/\Fz [rb] m m'
theorem P8{S:List Nat}{m:ah}(hS:∀c∈S,c<m.size){rb P:Nat}{bs:Sl}(dx:rb∈S)(h0:Rd rb bs P m)(hP:P+4<=10000000000000000){d r:Sl}{ds:List aS}{rs:List di}(hn:cR (aY S m) d r ds rs){W:Nat}(hk:xc ds rs True W)(hW:W<=200000000000):
 WV 93 [vp rb 0,.agg #[Sl.v d,Sl.v r]] m S rb bs (P+4) ds λmM=>xc ds mM True (W+4):=by
 apply It (rb,0)
 simp -zeta only[aw,ax,aGa]
 intro m1 m2
 obtain⟨x2,hl⟩:=cv (m1:=m1) (m2:=m2) rfl rfl
 have s1:m1.size=m.size+1:=by simp[m1]
 have s2:m2.size=m.size+2:=by simp[m2,s1]
 clear_value m2
 have nL:=hn.fj.len;have Sz:=hn.lZ
 have hrm:=h0.lt
 have nb:∀b∈[m1.size,m.size],b<m2.size/\b∉[rb]:=λb hb=>⟨hl b hb,by have:=hl b hb;simp at hb⊢;omega⟩
 have EA:xc ds rs True (W+4):=⟨hk.eZ,λq hq=>let⟨a,b,c,e⟩:=hk.cq q hq;⟨a,b,c,ab⟩⟩
 refine(bo (h0.ext x2) ab (r.len:Int)).mono λv m3⟨f,e,f0,f1,h3,z3⟩=>⟨z3.cg nb,f,e,?_⟩
 have u3:Fz [rb] m m3:=(x2.fz _).trans z3
 have gL:f<(rs.length:Int):=by have:=hk.eZ;omega
 obtain⟨q,hq⟩:=ae (l:=rs) (k:=f.toNat) ab
 obtain⟨Bn,tB,lP,hw⟩:=hk.cq q (ak hq)
 have Hn:∀{M:ah},Fz [rb] m M->cR (aY S M) d r ds rs:=λg=>hn.le (g.bO λb hb=>by simp at hb;subst hb;exact dx)
 have HS:∀{M:ah}(bb:Nat),m.size<=bb->Fz [rb] m M->Le (aY S m) (aY (bb::m1.size::S) M):=λbb XN gg=>gg.aY (λb hb=>by simp at hb;subst hb;exact dx) λc hc=>by
  simp only[aF0]at hc;rcases hc with e|e|e
  ·exact Or.inr ab
  ·exact Or.inr ab
  ·exact Or.inl e
 have z23:=z3.size
 obtain⟨p,t,b,c1,c2,c3,e0,e1,e2,e3,e4⟩:=(hn.le (HS m3.size ab u3)).fj.aE hq
 have dX:∀{M:ah}{S:List Nat}{v:Value}{b o:Nat},ad (aY S M) b o=some v->ad M b o=some v:=λh=>(cT.1 h).2
 refine⟨f0,ab,b,dX e3,q.body.aH,dX e4,?_⟩
 intro m4 m5
 have x5:af m3 m5:=(af.push m3 _).ag (aFR _) _ _
 have s5:m5.size=m3.size+1:=by simp[m5,m4,aq]
 clear_value m5
 have Ln:=c3.len
 have zG:=c3.eP
 have NF:=Bk.jD q.body
 have kQ:=dN q.body.ar
 have SC:∀b∈[m3.size,m1.size,m.size],b<m5.size/\b∉[rb]:=λb hb=>by simp at hb⊢;omega
 rw[aF ab ab]
 refine(bo (h3.ext x5) ab _).mono λv m6⟨j,e,j0,j1,h6,z6⟩=>⟨z6.cg SC,j,e,?_⟩
 have u6:Fz [rb] m m6:=(u3.then x5).trans z6
 have z56:=z6.size
 have hn6:=(Hn u6).le (aV _ _)
 obtain⟨fn,hfn⟩:∃fn:Nat,f=fn:=⟨f.toNat,ab⟩
 subst hfn
 simp only[aHo]at hq
 have Lp:∀b∈[m3.size,m1.size,m.size],b<m6.size/\b∉[rb]:=λb hb=>⟨aFY (SC b hb).1 z56,(SC b hb).2⟩
 have same:∀{M:ah},Rd rb bs (P+4) M->Fz [rb] m M->∃d' r' mM,Value.agg #[Sl.v d,Sl.v r]=.agg #[Sl.v d',Sl.v r']/\cR (aY S (ag M m1.size 0 [.s d,.s r])) d' r' ds mM/\xc ds mM True (W+4)/\Rd rb bs (P+4) (ag M m1.size 0 [.s d,.s r])/\Fz [rb] m (ag M m1.size 0 [.s d,.s r]):=λhr g=>
  have g':=g.ag (b:=m1.size) (Or.inr ab) 0 [.s d,.s r]
  ⟨d,r,rs,rfl,Hn g',EA,h0.ag hr g ab _ _,g'⟩
 refine(C3 hn6 hk hW hq ab).mono λv m7⟨lb,ok,e,x7,hA⟩=>⟨x7.cg λb hb=>(Lp b hb).1,(lb,0),ok,e,λ_=>?_,λlx=>?_⟩
 ·intro m8
  exact same ((h6.ext x7).mono ab) (u6.then x7)
 obtain⟨_,jl,ro,sl,L,azY,h7,i7⟩:=hA (by simpa using lx)
 intro m8
 have x8:af m7 m8:=af.push _ _
 have g8:GI S m7 m8 (.mk m7.size 0 0 0) []:=GI.nil S m7
 clear_value m8
 have z7:=x7.size
 have kU:=qQ q.body.ar
 have hdj:=WH q.body.ar j.toNat
 have N0:=i7.len 0 aO
 have u7:Fz [rb] m m7:=u6.then x7
 have Po:∀c∈S,c<m7.size:=λc hc=>aFY (hS c hc) u7.size
 refine cN (n:=(L 0).length) ab (λk s M=>af m7 M/\∃l,GI S m7 M s l/\l.length<=k/\∀y∈l,0<=y/\y<(((L 0).length:Nat):Int)) ⟨x8,[],g8,aFR _,az⟩ ?_
 rintro k s m9 I μ oO ⟨x9,l,g,Pf,gZ⟩ next
 have h9:=h7.ext x9
 have l0:=h9.len (k:=0) aO
 have O2:∀b∈[m3.size,m1.size,m.size],b<m9.size/\b∉[rb]:=λb hb=>⟨x9.lt (x7.lt (Lp b hb).1),(Lp b hb).2⟩
 refine⟨_,h9.bH (k:=0) aO,λcA=>?_,λFG=>?_⟩
 ·simp only[aFP]at cA
  obtain⟨y,hy⟩:=ae (l:=L 0) (k:=k) ab
  refine⟨_,h9.bH (k:=0) aO,ab,ab,y,h9.aE aO ab hy,λ_=>?_,λ_=>next ab _ _ ⟨x9,l,g,ab,gZ⟩⟩
  refine(qy h9 i7 ab (v:=(k:Int)) ab ab).mono λv cK⟨bb,e,cO⟩=>⟨cO.cg λb hb=>(O2 b hb).1,bb,e,λ_=>?_,λ_=>next ab _ _ ⟨x9.trans cO,l,g.ext cO,ab,gZ⟩⟩
  intro dm
  have gy:=g.aN
  refine GI.iN (g.ext cO) ((x9.trans cO).fz []) Po ab λr' df g12 f12 _ VR=>⟨af.me ((x9.trans cO).aC _) f12.ext (λb hb=>x7.lt (Lp b hb).1),next ab _ _ ⟨f12.ext,_,g12,bg,λy hy=>?_⟩⟩
  rcases List.mem_append.1 hy with hy|hy
  ·exact gZ y hy
  ·simp at hy;omega
 ·have hgl:=g.len aO
  have u9:Fz [rb] m m9:=u7.then x9
  have r9:Rd rb bs (P+2) m9:=(h6.ext (x7.trans x9)).mono ab
  refine⟨λ_=>?_,λcx=>?_⟩
  ·intro cK
   exact same (r9.mono ab) u9
  simp only[aFU]at cx
  have gy:=g.aN
  have gb:s.ao∉[rb]:=by simp;have:=u7.size;omega
  refine(bo r9 ab (s.len:Int)).mono λv cK⟨i,e,i0,i1,ln,wh⟩=>⟨wh.cg O2,i,e,i0,ab,?_⟩
  obtain⟨w,rJ⟩:=ae (l:=l) (k:=i.toNat) ab
  obtain⟨w0,w1⟩:=gZ w (ak rJ)
  have hgw:ad m9 s.ao (s.off+i.toNat*1)=some (vi w):=((g.done Po ab).le (aV _ _)).aE rJ
  refine⟨w,(aA (wh.same _ gy.2 gb) _).trans hgw,?_⟩
  have xu:=u9.trans wh
  have zz9:=x9.size;have ali:=wh.size
  have Jm:∀b∈[m3.size,m1.size,m.size],b<cK.size/\b∉[rb]:=λb hb=>⟨aFY (O2 b hb).1 ali,(O2 b hb).2⟩
  have ew:bS (bS ((b.len:Int) -j)+1)=(b.len:Int) -j+1:=by rw[aF (x:=(b.len:Int) -j) ab ab,aF ab ab]
  rw[ew]
  refine(bo ln ab _).mono λv dm⟨i2,e,i20,i21,jV,xw⟩=>⟨xw.cg Jm,i2,e,?_⟩
  have Pg:=xu.trans xw
  have alj:=xw.size
  have Zg:∀b∈[m3.size,m1.size,m.size],b<dm.size:=λb hb=>aFY (Jm b hb).1 alj
  have kX:∀{M:ah},dm.size<=M.size->∀c∈m3.size::m1.size::S,c<M.size:=λhz c hc=>by
   simp only[aF0]at hc;have h1:=Zg m3.size az;have h2:=Zg m1.size az;rcases hc with e|e|e
   ·omega
   ·omega
   ·have:=hS c e;have:=Pg.size;omega
  have v11:Fz [rb] m3 dm:=(((((x5.fz _).trans z6).then x7).then x9).trans wh).trans xw
  have Vx:=c3.le (v11.bO λc hc=>by simp at hc;subst hc;simp[dx])
  obtain⟨jn,hjn⟩:∃jn:Nat,j=jn:=⟨j.toNat,ab⟩
  obtain⟨kn,TW⟩:∃kn:Nat,i2=kn:=⟨i2.toNat,ab⟩
  subst hjn TW
  have QO:jn+kn<=q.body.ar.length:=ab
  have eto:bS ((jn:Int)+(kn:Int))=((jn+kn:Nat):Int):=by rw[aF ab ab];omega
  simp only[aHo]at N0 hdj
  obtain⟨uB,r0,r1⟩:=lP.aT
  have VM:dc (q.body.ar.take jn)<=dc (q.body.ar.take (jn+kn)):=by
   have:=WH (q.body.ar.take (jn+kn)) jn;rwa[aHT,aGV ab]at this
  obtain⟨wl1,wd1,ws1⟩:=WU (j:=jn+kn) (op:=15) (v:=w) uB aO ⟨w0,ab⟩
  have htk:(q.body.ar.take (jn+kn)++[de 15 w]++q.body.ar.drop (jn+kn)).take jn=q.body.ar.take jn:=by
   rw[aGs,aG2 bg,aHT,aGV ab]
  obtain⟨wl2,wd2,ws2⟩:=WU (j:=jn) (op:=14) (v:=w) wl1 aO ⟨w0,by rw[htk];omega⟩
  generalize alk:q.body.ar.take (jn+kn)++[de 15 w]++q.body.ar.drop (jn+kn)=st1 at*
  have QC:st1.length=q.body.ar.length+1:=by rw[<-alk];simp;omega
  have K:∀{M M':ah},af M M'->dm.size<=M.size->∀b∈[m3.size,m1.size,m.size],∀o,ad M' b o=ad M b o:=λxx hz b hb o=>aA (xx.same b (aFY (Zg b hb) hz)) o
  have kS:∀{M M':ah},af M M'->dm.size<=M.size->da [m3.size,m1.size,m.size] M M':=λxx hz b hb=>xx.same b (aFY (Zg b hb) hz)
  rw[eto]
  refine(fA (S:=m3.size::m1.size::S) (kX (aFR _)) 15 w).mono λv df⟨a12,k12,e,ary,arz,fW⟩=>⟨kS fW (aFR _),_,_,_,_,_,e,K fW (aFR _) _ az _,K fW (aFR _) _ az _,?_⟩
  have y12:=fW.size
  refine(zf (S:=m3.size::m1.size::S) (r:=q.body.aH) (x:=de 15 w) (kX y12) (Vx.le (fW.bO _)) ary arz QO ab).mono λv iC⟨Rb,e,alm,fF⟩=>⟨kS fF y12,_,_,e,?_⟩
  rw[alk]at alm
  intro gK
  have y13:=fF.size
  have y14:gK.size=iC.size:=aq _ _ _ _
  have u13:=(Pg.then fW).then fF
  have ZM:Fz [rb] m gK:=u13.ag (Or.inr ab) _ _
  have ZV:Rd rb bs (P+2+1+1) gK:=h0.ag ((jV.ext fW).ext fF) u13 ab _ _
  have arB:cU (aY (m3.size::m1.size::S) gK) Rb st1:=alm.le (bt az λ_ h=>h)
  clear_value gK
  refine(fA (S:=m3.size::m1.size::S) (kX ab) 14 w).mono λv kT⟨a15,k15,e,arC,arD,lp⟩=>⟨kS lp ab,_,_,_,_,_,e,K lp ab _ az _,K lp ab _ az _,K lp ab _ az _,K lp ab _ az _,?_⟩
  have y15:=lp.size
  refine(zf (S:=m3.size::m1.size::S) (r:=q.body.aH) (x:=de 14 w) (kX ab) (arB.le (lp.bO _)) arC arD (j:=jn) ab ab).mono λv pV⟨s16,e,abg,kW⟩=>⟨kS kW ab,_,_,e,K kW ab _ az _,K kW ab _ az _,?_⟩
  have y16:=kW.size
  have u16:=(ZM.then lp).then kW
  refine(Da (S:=m3.size::m1.size::S) (kX ab) (b':=.mk (st1.take jn++[de 14 w]++st1.drop jn) q.body.aH) (hn.le (HS m3.size ab u16)) hq ⟨Bn,tB⟩ abg).mono λv oB⟨d',r',mM,e,alo,Qv,xl⟩=>⟨kS xl ab,d',r',e,?_⟩
  intro sY
  have u17:=u16.then xl
  refine⟨d',r',mM,rfl,alo.le (bt az λc hc=>by simp[hc]),?_,h0.ag (((ZV.ext lp).ext kW).ext xl) u17 ab _ _,u17.ag (Or.inr ab) _ _⟩
  subst Qv
  refine⟨by simp;exact hk.eZ,λq' zB=>?_⟩
  rw[aGO]
  rcases aGd zB with h|h
  ·exact EA.cq q' h
  ·subst h
   refine⟨Bn,tB,.of wl2 ⟨r0,by rw[wd2,wd1];exact r1⟩,?_⟩
   show Bk.w (.mk _ _)<=_
   rw[Bk.nV,ws2,ws1];omega
theorem nv{m:ah}{t:Sl}{b:Bk}(hs:cU m t b.ar):qM 205 [.agg #[Sl.v t,vi b.aH]] m λk=>0<=k/\k<=b.ar.length/\∀(i:Nat)(x:bu),b.ar[i]? =some x->(i:Int)<k->14<=x.op/\x.op<=17:=by
 apply wS;simp -zeta only[aw,ax];intro m1;have x1:af m m1:=af.push _ _;have hl:∀c∈[m.size],c<m1.size:=by simp[m1]
 clear_value m1;have kQ:=hs.len;refine dg (n:=b.ar.length) (kQ▸hs.eP) (λk M=>af m1 M/\∀(i:Nat)(x:bu),b.ar[i]? =some x->i<k->14<=x.op/\x.op<=17) ⟨af.av _,λi x _ h=>ab⟩ ?_;rintro k M I μ hk ⟨xM,hc⟩ next
 have u:=x1.trans xM;have R:∀{M':ah},af m M'->∃n:Int,vi (k:Int)=vi n/\(0<=n/\n<=b.ar.length/\∀(i:Nat)(x:bu),b.ar[i]? =some x->(i:Int)<n->14<=x.op/\x.op<=17)/\af m M':=λxx=>⟨k,rfl,⟨ab,ab,λi x hx h=>hc i x hx ab⟩,xx⟩;refine⟨λh=>?_,λh=>R u⟩;simp only[aFP]at h;obtain⟨x,hx⟩:=ae (l:=b.ar) (k:=k) ab;obtain⟨a,kk,ha,oO,g0,_⟩:=hs.aE hx;refine⟨ab,ab,_,u.ad g0,?_⟩;refine(qO x.op M).ay xM hl λbb m2 hb x2 v2=>⟨_,rfl,λht=>next ab _ ⟨v2,λi y hy hi=>?_⟩,λ_=>R (u.trans x2)⟩;by_cases e:i=k
 ·subst e;rw[hx]at hy;simp at hy;subst hy;exact hb.1 ht
 ·exact hc i y hy ab
theorem BG{m:ah}{t:Sl}{b:Bk}(hs:cU m t b.ar){many op x:Int}(hm:0<=many/\many<=b.ar.length)(h1:∀(i:Nat)(s:bu),b.ar[i]? =some s->(i:Int)<many->0<s.args.length):
 qM 206 [.agg #[Sl.v t,vi b.aH],vi many,vi op,vi x] m λk=>-1<=k/\(0<=k->k<many/\∃s:bu,b.ar[k.toNat]? =some s/\s.op=op/\s.args[0]? =some x):=by
 apply Ee
 simp -zeta only[aw,ax]
 intro m1
 have x1:af m m1:=af.push _ _
 clear_value m1
 have kQ:=hs.len
 have zG:=hs.eP
 obtain⟨mn,hmn⟩:∃mn:Nat,many=mn:=⟨many.toNat,ab⟩
 subst hmn
 refine dg (n:=mn) ab (λk M=>af m1 M) (af.av _) ?_
 rintro k M I μ hk xM next
 have u:=x1.trans xM
 refine⟨λh=>?_,λh=>⟨-1,rfl,⟨ab,λh=>ab⟩,u⟩⟩
 simp only[aFP]at h
 obtain⟨s,hx⟩:=ae (l:=b.ar) (k:=k) ab
 obtain⟨a,kk,ha,oO,g0,g1,g2,g3,g4⟩:=hs.aE hx
 have jK:=ha.len
 have:=h1 k s hx ab
 obtain⟨y,hy⟩:=ae (l:=s.args) (k:=0) ab
 refine⟨ab,ab,_,u.ad g0,λho=>⟨ab,ab,_,u.ad g3,aO,ab,y,(ha.ext u).aE hy,λhxy=>?_,λ_=>next ab _ xM⟩,λ_=>next ab _ xM⟩
 simp only[aFZ]at ho hxy
 refine⟨k,rfl,⟨ab,λ_=>⟨ab,s,?_,ho,by rw[<-hxy];exact hy⟩⟩,u⟩
 simpa using hx
theorem Oy{m:ah}{t:Sl}{b:Bk}(hs:cU m t b.ar){f many:Int}(hm:0<=f/\f<=b.ar.length):qM 239 [.agg #[Sl.v t,vi b.aH],vi f,vi many] m λk=>-1<=k/\k<b.ar.length:=by
 apply Gi;simp -zeta only[aw,ax];intro m1;have x1:af m m1:=af.push _ _;clear_value m1;have kQ:=hs.len;obtain⟨fn,hfn⟩:∃fn:Nat,f=fn:=⟨f.toNat,ab⟩;subst hfn;refine acz (n:=b.ar.length) (a:=fn) ab (kQ▸hs.eP) (λk M=>af m1 M) (af.av _) ?_;rintro k M I μ _ hk xM next
 have u:=x1.trans xM;refine⟨λh=>?_,λh=>⟨-1,rfl,⟨ab,ab⟩,u⟩⟩;simp only[aFP]at h;obtain⟨s,hx⟩:=ae (l:=b.ar) (k:=k) ab;obtain⟨a,kk,ha,oO,g0,g1,g2,g3,g4⟩:=hs.aE hx;have N:=next ab _ xM
 exact⟨ab,ab,_,u.ad g0,λ_=>⟨ab,ab,_,u.ad g2,λ_=>⟨ab,ab,_,u.ad g3,λ_=>⟨k,rfl,⟨ab,ab⟩,u⟩,λ_=>N⟩,λ_=>N⟩,λ_=>N⟩
theorem GY(b:Bk){S:List Nat}{m:ah}(hS:∀c∈S,c<m.size){t:Sl}(hs:cU m t b.ar)(hw:b.w<=1000000000000):aD Tryz.prog 217 [.agg #[Sl.v t,vi b.aH]] m λv m'=>∃s,v=.agg #[Sl.v s,vi b.aH]/\GS S m m' s b.ar/\af m m':=by
 obtain⟨ar,kV⟩:=b;rw[Bk.nV]at hw;simp only[Bk.gH,Bk.fH]at*;apply oV;simp -zeta only[aw,ax];intro m0 m1 m2 m3 m4;obtain⟨x1,hl⟩:=cv (m1:=m0) (m2:=m1) rfl rfl;have s0:m0.size=m.size+1:=by simp[m0]
 have s1:m1.size=m.size+2:=by simp[m1,s0]
 have s2:m2.size=m1.size+1:=by simp[m2]
 have s3:m3.size=m2.size+1:=by simp[m3]
 have Lr:af m2 m4:=(af.push m2 _).ag (aFR _) _ _;have eU:af m1 m4:=(af.push m1 _).trans Lr;have g0:GS (m2.size::m0.size::S) m1 m4 (.mk m1.size 0 0 0) []:=(GS.new _ m1).ext eu.mono Lr;have B0:bK m4 m2.size bU [.s (.mk m1.size 0 0 0),.i kV]:=bK.ag (m:=m3) (o:=0) (r:=[.s (.mk m1.size 0 0 0),.i kV]) (bK.push m2 _ _);clear_value m4;have lG:∀c∈m0.size::S,c<m1.size:=bd hS x1.size (hl _ az);have kQ:=hs.len;have Jj:=dN ar;refine dg (n:=ar.length) (kQ▸hs.eP) (λk M=>af m1 M/\∃s,GS (m2.size::m0.size::S) m1 M s (ar.take k)/\bK M m2.size bU [.s s,.i kV]) ⟨eU,_,g0,B0⟩ ?_;rintro k m5 I μ hk ⟨x5,s,g,B⟩ next
 have v5:=x1.trans x5;have SC:∀b∈[m0.size,m.size],b<m5.size:=λb hb=>x5.lt (hl b hb);have hy:=g.aN;have z5:=x5.size;have MJ:=B.lt;refine⟨λh=>?_,λh=>?_⟩
 ·simp only[aFP]at h;obtain⟨x,hx⟩:=ae (l:=ar) (k:=k) ab;obtain⟨pa,pk,ha,oO,g0,g1,g2,g3,g4⟩:=hs.aE hx;have tD:=On hx;refine⟨s,B.bH 0,ab,ab,_,v5.ad g0,_,v5.ad g1,_,v5.ad g2,_,v5.ad g3,_,v5.ad g4,?_⟩;refine(vU (S:=s.ao::m2.size::m0.size::S) (bd (bd lG z5 MJ) (aFR _) hy.2) (ha.ext v5) (oO.le v5.le) ab (λb _=>uh b)).ay (af.av m5) SC λca ck x' m6 VS BT e x6 _=>⟨_,_,_,_,_,rfl,aA (x6.same _ MJ) _,?_⟩;subst e;intro m7;refine Gr.box (zs:=[.i 0,.i 0,.i 0,.s .nil,.s .nil]) (i:=0) (bc:=[.s s,.i kV]) (a:=x) eu.mono aO (g.ext eu.mono x6) ((x5.trans x6).fz []) ⟨ca,ck,rfl,VS,BT⟩ bg (B.ext x6) az aO ⟨ab,az⟩ (λc hc=>by have h1:=hl c hc;have h2:=x6.size;omega) λr' m' g' B' f' z' q'=>next ab _ ⟨f'.ext,r',?_,B'⟩
  rw[bn hx];exact g'
 ·simp only[aFQ]at h;rw[bL ab]at g;refine⟨s,B.bH 0,kV,B.bH 1,?_⟩;intro m6;have f6:Fz [m0.size] m5 m6:=(Fz.av _ _).ag (Or.inl az) _ _;have g6:GS S m1 m6 s ar:=g.re eu.mono f6 az bg λc hc=>Or.inl (by simp[hc]);exact⟨s,rfl,Gr.bN eu.mono g6 (λb hb=>Or.inl hb) ab,v5.ag ab _ _⟩
theorem WW{ds:List aS}{nr a:Nat}{c:Prop}{l:List bu}(h:WL ds nr c a l){k:Nat}{x x':bu}(hk:l[k]? =some x)(hx:WS ds nr c (a+dc (l.take k)) x')(hd:dn x'=dn x):
 WL ds nr c a (l.set k x')/\dc (l.set k x')=dc l/\sw (l.set k x')+x.w=sw l+x'.w:=by
 have jk:=ap hk
 have e1:l.set k x'=l.take k++([x']++l.drop (k+1)):=by rw[aHu,aFW jk];rfl
 have e2:l=l.take k++([x]++l.drop (k+1)):=by
  obtain⟨h6,h7⟩:=List.getElem?_eq_some_iff.1 hk;rw[<-h7];show l=l.take k++(l[k]::l.drop (k+1));rw[<-aHc h6,aGi]
 have e3:dc l=dc (l.take k)+(dn x+dc (l.drop (k+1))):=by
  conv=>lhs;rw[e2]
  rw[bD,bD,iH,qP];omega
 have e4:sw l=sw (l.take k)+(x.w+sw (l.drop (k+1))):=by
  conv=>lhs;rw[e2]
  rw[cb,cb,jR,tv];omega
 rw[e1]
 refine⟨(h.take k).append ((WL.jm hx).append ?_),?_,?_⟩
 ·have:=h.drop (k+1)
  rw[oG hk]at this
  rw[iH,qP,hd,aGX,aGm];exact this
 ·rw[bD,bD,iH,qP];omega
 ·rw[cb,cb,jR,tv];omega
theorem _root_.Go.Vc.Gr.cells{α:Type}{S:List Nat}{m0 m:ah}{e sz:Nat}{R:ah->List Ce->α->Prop}{s:Sl}{l:List α}(h:Gr S m0 m e sz R s l){k:Nat}{x:α}(hk:l[k]? =some x):∃cs,R (aY (s.ao::S) m) cs x/\eK m s.ao (s.off+k*sz) cs:=by
 obtain⟨h0,css,h1,h2⟩:=h;obtain⟨cs,kJ⟩:=ae (l:=css) (k:=k) (by rw[h2.len];exact ap hk);refine⟨cs,h2.cq k cs x kJ hk,λi c hc=>?_⟩;have:=h1.iu (k*sz+i) c (fy h2.size kJ hc);rwa[<-aGm]at this
theorem IQ{S:List Nat}{m:ah}(hS:∀c∈S,c<m.size){t:Sl}{b:Bk}(hs:cU m t b.ar){ds:List aS}{nr a:Nat}(lP:WB ds nr True a b)(hw:b.w<=1000000000000){x:Int}(hx:0<=x/\x<(a:Int))(jK:a<=1000000000000)(many:Int):
 aD Tryz.prog 204 [.agg #[Sl.v t,vi b.aH],vi x,vi many] m λv m'=>∃s b',v=.agg #[Sl.v s,vi b'.aH]/\cU m' s b'.ar/\(cU (aY S m) t b.ar->cU (aY S m') s b'.ar)/\(WB ds nr True a b'/\b'.w<=b.w)/\af m m':=by
 apply AI
 simp -zeta only[aw,ax]
 intro m1 m2
 obtain⟨x2,hl⟩:=cv (m1:=m1) (m2:=m2) rfl rfl
 have s1:m1.size=m.size+1:=by simp[m1]
 have s2:m2.size=m.size+2:=by simp[m2,s1]
 clear_value m2
 obtain⟨uB,VO⟩:=lP.aT
 have E:∀{M M':ah},af m2 M->af m2 M'->∀o,ad M' m.size o=ad M m.size o:=λh h' o=>aA (by rw[h'.same _ (hl _ az),h.same _ (hl _ az)]) o
 refine(nv (hs.le x2.le)).ay (af.av m2) hl λn1 m3 hn1 x3 _=>⟨_,rfl,E (af.av _) x3 _,E (af.av _) x3 _,?_⟩
 refine(BG (hs.le (x2.trans x3).le) (op:=16) (x:=x) ⟨hn1.1,hn1.2.1⟩ λi s hi cA=>?_).ay x3 hl λn2 m4 hn2 x4 v4=>⟨_,rfl,?_⟩
 ·have:=hn1.2.2 i s hi cA
  have:=(uB i s hi).db.jm ab
  omega
 refine(nv (hs.le (x2.trans v4).le)).ay v4 hl λn3 m5 hn3 x5 v5=>⟨_,rfl,E v4 v5 _,E v4 v5 _,?_⟩
 refine(Oy (hs.le (x2.trans v5).le) (many:=many) ⟨hn3.1,hn3.2.1⟩).ay v5 hl λn4 m6 hn4 x6 v6=>⟨_,rfl,?_⟩
 have u6:=x2.trans v6
 have same:∃s b',Value.agg #[Sl.v t,vi b.aH]=.agg #[Sl.v s,vi b'.aH]/\cU (ag m6 m1.size 0 [.s t,.i b.aH]) s b'.ar/\(cU (aY S m) t b.ar->cU (aY S (ag m6 m1.size 0 [.s t,.i b.aH])) s b'.ar)/\(WB ds nr True a b'/\b'.w<=b.w)/\af m (ag m6 m1.size 0 [.s t,.i b.aH]):=
  have g:=u6.ag (b:=m1.size) ab 0 [.s t,.i b.aH]
  ⟨t,b,rfl,hs.le g.le,λh=>h.le (g.bO _),⟨lP,aFR _⟩,g⟩
 refine⟨λ_=>same,λh2=>⟨λ_=>same,λh4=>?_⟩⟩
 simp only[aFQ]at h2 h4
 have z6:=v6.size
 have SK:∀c∈m1.size::S,c<m6.size:=λc hc=>by
  rcases List.mem_cons.1 hc with e|e
  ·omega
  ·have:=hS c e;omega
 refine(GY b SK (hs.le u6.le) hw).mono λv m7⟨s7,e,g7,x7⟩=>⟨λc hc=>x7.same c (by have:=hl c hc;omega),_,_,e,?_⟩
 intro m8 m9
 have x9:af m7 m9:=(af.push m7 _).ag (aFR _) _ _
 have s9:m9.size=m7.size+1:=by simp[m9,m8,aq]
 clear_value m9
 have y7:=g7.aN
 have z7:=x7.size
 have g9:=g7.ext eu.mono x9
 have hlx:∀c∈[m7.size,m1.size,m.size],c<m9.size/\c≠s7.ao:=λc hc=>by simp at hc;omega
 refine(fA (S:=s7.ao::m1.size::S) (λc hc=>?_) 17 x).mono λv cK⟨a10,k10,e,arE,arF,cO⟩=>⟨λc hc=>cO.same c (hlx c hc).1,_,_,_,_,_,e,aA (cO.same _ ab) _,?_⟩
 ·rcases List.mem_cons.1 hc with e|e
  ·omega
  ·have:=SK c e;omega
 have g10:=g9.ext eu.mono cO
 have NM:=g10.len aO
 obtain⟨aa8,so,hso,pu,hax⟩:=hn2.2 ab
 have X10:af m6 cK:=(x7.trans x9).trans cO
 have Ju:=ap hso
 obtain⟨w11,g11,f11,q11⟩:=Gr.set (k:=n2.toNat) (cs:=[.i 17,.i 0,.i 0,.s a10,.s k10]) (a:=de 17 x) eu.mono g10 (X10.fz []) Ju ⟨a10,k10,rfl,arE,arF⟩
 refine⟨ab,ab,w11,?_⟩
 intro dm
 have wh:=cO.size
 have DE:dm.size=cK.size:=aq _ _ _ _
 refine⟨λc hc=>q11 c (hlx c hc).2,ab,ab,?_⟩
 have arH:=uB _ so hso
 have w1:=arH.db.jm (Or.inl ab)
 have d1:dn (de 17 x)=dn so:=by
  unfold dn;rw[aFS (λh:nj _=>by have:=h.2;simp only[de]at this;omega),aFS (λh:nj _=>by have:=h.2;omega)]
 obtain⟨wl1,wd1,ws1⟩:=WW uB hso (CP (op:=17) (v:=x) aO ⟨hx.1,ab⟩) d1
 have az2:=bu.jD so
 have hcw:(de 17 x).w=2:=rfl
 obtain⟨y,hy⟩:=ae (l:=b.ar.set n2.toNat (de 17 x)) (k:=n4.toNat) bg
 have Zg:=g11.len aO
 obtain⟨cs,⟨pa,pk,rfl,hpa,hpk⟩,ji⟩:=g11.cells hy
 have e0:=ji 0 _ rfl;have e1:=ji 1 _ rfl;have e2:=ji 2 _ rfl;have e3:=ji 3 _ rfl;have e4:=ji 4 _ rfl
 refine⟨_,e0,_,e1,_,e2,_,e3,_,e4,?_⟩
 intro df iC
 have fF:af dm iC:=(af.push dm _).ag (aFR _) _ _
 have Rb:iC.size=dm.size+1:=by simp[iC,df,aq]
 clear_value iC
 have g13:=g11.ext eu.mono fF
 have exi:bS (1+x)=1+x:=aF ab ab
 rw[exi]
 have X13:=(f11.then fF)
 obtain⟨w15,g15,f15,ZK⟩:=Gr.set (k:=n4.toNat) (cs:=[.i y.op,.i y.bh,.i (1+x),.s pa,.s pk]) (a:=⟨y.op,y.bh,1+x,y.args,y.aW⟩) eu.mono g13 X13 bg ⟨pa,pk,rfl,aj.le (fF.bO _) hpa,lA.le (fF.bO _) hpk⟩
 refine⟨ab,ab,w15,?_⟩
 intro kT
 have hwy:=wl1 _ y hy
 obtain⟨wl2,wd2,ws2⟩:=WW (x':=⟨y.op,y.bh,1+x,y.args,y.aW⟩) wl1 hy ⟨⟨hwy.db.op,hwy.db.args,hwy.db.jm,⟨by show 0<=1+x;omega,by show 1+x<=_;omega⟩,hwy.db.IC,hwy.db.all,hwy.db.call⟩,hwy.aW⟩ rfl
 refine⟨λc hc=>ZK c (by simp at hc;omega),?_⟩
 intro pV
 have hyw:(⟨y.op,y.bh,1+x,y.args,y.aW⟩:bu).w=y.w:=rfl
 have NF:=Bk.jD b
 have kQ:=dN b.ar
 have D:cU (aY (m1.size::S) kT) s7 _:=g15.lB eu.mono (S:=m1.size::S) (λhc=>by
  rcases List.mem_cons.1 hc with e|e
  ·omega
  ·have:=hS _ e;omega) aO bg
 have hle:Le (aY (m1.size::S) kT) (aY S pV):=bt az λc hc=>aFT _ hc
 refine⟨s7,.mk _ b.aH,rfl,(D.le hle).le (aV _ _),λ_=>D.le hle,⟨.of wl2 (by rw[wd2,wd1];exact VO),?_⟩,(u6.trans f15.ext).ag ab _ _⟩
 rw[Bk.nV];omega
def WY(ds:List aS)(rs:List di)(N:Nat):Prop:=∀(b:Bk),b.w<=N->∀(S:List Nat)(m:ah),(∀c∈S,c<m.size)->∀(d r t ic:Sl)(l:List Int)(a:Nat),cR m d r ds rs->cU m t b.ar->aj m ic l->WB ds rs.length True a b->a+4*b.w<=1000000000000->l.length+4*b.w<=1000000000000->
 k8 130 [.agg #[Sl.v d,Sl.v r],.agg #[Sl.v t,vi b.aH],Sl.v ic] m S λb'=>WB ds rs.length True a b'/\b'.w<=b.w
theorem IS{S:List Nat}{m:ah}(hS:∀c∈S,c<m.size){d r pa pk ic:Sl}{ds:List aS}{rs:List di}{x:bu}{l:List Int}{a:Nat}(hn:cR m d r ds rs)(ha:aj m pa x.args)(hk:lA m pk x.aW)(VW:aj m ic l)(hw:WS ds rs.length True a x)(hb:a+4*x.w<=1000000000000)(Hw:l.length+4*x.w<=1000000000000){i:Nat}{b:Bk}(V5:x.aW[i]? =some b)(ih:WY ds rs b.w):
 k8 168 [.agg #[Sl.v d,Sl.v r],mJ x pa pk,vi i,Sl.v ic] m S λb'=>WB ds rs.length True (a+zT ds x.op x.bh i) b'/\b'.w<=b.w:=by
 apply Az
 simp -zeta only[aw,ax]
 intro m1 m2 m3
 obtain⟨x3,hl,s1,s2,s3⟩:=nX (m1:=m1) (m2:=m2) (m3:=m3) rfl rfl rfl
 clear_value m3
 obtain⟨t,ht,f0,f1⟩:=hk.aE V5
 have hil:=ap V5
 have jk:=hk.len
 have jK:=ha.len
 have Ua:=bu.jD x
 have hbm:=vx V5
 have VC:=hw.aW i b V5
 have hbp:=b.Ep
 have Pk:∀{M:ah},af m3 M->∀c∈m2.size::S,c<M.size:=λxx c hc=>by
  have:=xx.size;rcases List.mem_cons.1 hc with e|e
  ·omega
  ·have:=hS c e;omega
 have fG:∀(M:ah)(kp s:Sl)(l':List Int)(b':Bk)(Lx:List Nat),af m M->af m3 M->(∀c∈Lx,c<M.size)->cU M s b'.ar->aj M kp l'->l'.length<=l.length+1->WB ds rs.length True (a+zT ds x.op x.bh i) b'->b'.w<=b.w->
  aD Tryz.prog 130 [.agg #[Sl.v d,Sl.v r],.agg #[Sl.v s,vi b'.aH],Sl.v kp] M λv m'=>da Lx M m'/\∃(s2:Sl)(b2:Bk),v=.agg #[Sl.v s2,vi b2.aH]/\∀M2,M2=ag m' m2.size 0 [.s s2,.i b2.aH]->∃s3 b3,(Value.agg #[Sl.v s2,vi b2.aH])=.agg #[Sl.v s3,vi b3.aH]/\cU (aY S M2) s3 b3.ar/\(WB ds rs.length True (a+zT ds x.op x.bh i) b3/\b3.w<=b.w)/\af m M2:=λM kp s l' b' Lx xm xm3 hLx hs arJ ly agz rJ=>by
  have h3:=RD hn.types x.op x.bh i
  refine(ih b' rJ (m2.size::S) M (Pk xm3) d r s kp l' _ (hn.le xm.le) hs arJ agz ab ab).mono λv m'⟨s2,b2,e,ZG,lz,x'⟩=>⟨x'.cg hLx,s2,b2,e,λM2 hM2=>⟨s2,b2,rfl,?_,⟨lz.1,ab⟩,?_⟩⟩
  ·rw[hM2];exact ZG.le (bt az λc hc=>aFT _ hc)
  ·rw[hM2];exact(xm.trans x').ag ab _ _
 refine⟨λh8=>?_,λh8=>?_⟩
 ·refine⟨ab,ab,_,x3.ad f0,_,x3.ad f1,?_⟩
  refine(fG m3 ic t l b _ x3 (af.av _) hl (ht.le x3.le) (VW.ext x3) ab VC (aFR _)).mono λv m'⟨h1,s2,b2,e,h2⟩=>⟨h1,_,_,e,?_⟩
  intro M2
  exact h2 M2 rfl
 ·have h8:x.op=8:=by simpa using h8
  obtain⟨gZ,_⟩:=hw.db.all h8
  have h1a:=hw.db.jm (Or.inr (Or.inr h8))
  obtain⟨y,hy⟩:=ae (l:=x.args) (k:=0) ab
  obtain⟨y0,y1⟩:=hw.db.args y (ak hy)
  refine⟨aO,ab,y,(ha.ext x3).aE hy,ab,ab,_,x3.ad f0,_,x3.ad f1,?_⟩
  intro m4 m5
  have x5:af m3 m5:=(af.push m3 _).ag (aFR _) _ _
  have s5:m5.size=m3.size+1:=by simp[m5,m4,aq]
  clear_value m5
  have u5:=x3.trans x5
  have SC:∀{M:ah},af m5 M->∀c∈[m3.size,m2.size,m1.size,m.size],c<M.size:=λxx c hc=>by have:=xx.size;simp at hc;omega
  refine(bW (VW.ext u5) y).any.ay (af.av m5) (SC (af.av _)) λbb m6 x6 _=>⟨_,rfl,λ_=>?_,λ_=>?_⟩
  ·have u6:=u5.trans x6
   obtain⟨cn,VB⟩:=ae (l:=bB ds x.bh) (k:=i) ab
   have E:∀{M M':ah},af m5 M->af M M'->∀c∈[m3.size,m2.size,m1.size,m.size],∀o,ad M' c o=ad M c o:=λh h' c hc o=>aA (h'.same c (SC h c hc)) o
   refine(eL (S:=[]) az (hn.aI.le u6.le) hn.types x.bh).ay x6 (SC (af.av _)) λs7 l7 m7 hs7 e x7 v7=>⟨_,rfl,E x6 x7 _ az _,E x6 x7 _ az _,E x6 x7 _ az _,?_⟩
   subst e
   have hs7:=hs7.le (aV _ _)
   have l7:=hs7.len
   refine⟨ab,ab,cn,hs7.aE VB,?_⟩
   refine(cw (S:=[]) az (hn.aI.le ((u5.trans v7).le.trans (yS _))) hn.types cn).ay v7 (SC (af.av _)) λs8 l8 m8 hs8 e x8 v8=>⟨_,rfl,E v7 x8 _ az _,E v7 x8 _ az _,?_⟩
   subst e
   have u8:=u5.trans v8
   have z8:=v8.size
   have h3:=RD hn.types x.op x.bh i
   have hb8:cU (aY [m3.size] m8) t b.ar:=ht.le ((yS m).trans (u8.aY λc hc=>Or.inr (by simp at hc;omega)))
   refine(IQ (S:=[m3.size]) bg (hb8.le (aV _ _)) VC ab (x:=y) ⟨y0,ab⟩ ab (s8.len:Int)).mono λv m9⟨s9,b9,e,_,hs9,LQ,x9⟩=>⟨λc hc=>x9.same c (SC v8 c hc),_,_,e,?_⟩
   have hs9:=hs9 hb8
   intro cK
   have v9:=v8.trans x9
   have Vs:af m3 cK:=(x5.trans v9).ag ab _ _
   have abi:cU cK s9 b9.ar:=(hs9.le (bt (S':=[m3.size]) az λ_ h=>h)).le (aV _ _)
   have V6:cK.size=m9.size:=aq _ _ _ _
   have z9:=v9.size
   have Jm:∀{M:ah},cK.size<=M.size->∀c∈[m3.size,m2.size,m1.size,m.size],c<M.size:=λh c hc=>by simp at hc;omega
   clear_value cK
   refine(nv abi).ay (af.av cK) (Jm (aFR _)) λn11 dm agA eB _=>⟨_,rfl,?_⟩
   obtain⟨arK,_⟩:=LQ.1.aT
   refine(BG (abi.le eB.le) (op:=17) (x:=y) ⟨agA.1,agA.2.1⟩ λj s hj cA=>?_).ay eB (Jm (aFR _)) λn12 df _ fW v12=>⟨_,rfl,λ_=>?_,λ_=>?_⟩
   ·have:=agA.2.2 j s hj cA
    have:=(arK j s hj).db.jm ab
    omega
   ·have w12:=Vs.trans v12
    refine(jH (S:=[]) az ((VW.ext (x3.trans w12)).le (yS _)) y ab).ay v12 (Jm (aFR _)) λRb l13 iC g13 q13 fF Y0=>⟨_,rfl,?_⟩
    have w13:=Vs.trans Y0
    have arL:aj iC Rb l13:=(g13.done az (by have:=q13.2;omega)).le (aV _ _)
    refine(fG iC Rb s9 l13 b9 _ (x3.trans w13) w13 (Jm Y0.size) (abi.le Y0.le) arL q13.2 LQ.1 LQ.2).mono λv m'⟨h1,s2,b2,e,h2⟩=>⟨h1,_,_,e,?_⟩
    intro M2
    exact h2 M2 rfl
   ·have w12:=Vs.trans v12
    refine(fG df ic s9 l b9 _ (x3.trans w12) w12 (Jm v12.size) (abi.le v12.le) (VW.ext (x3.trans w12)) ab LQ.1 LQ.2).mono λv m'⟨h1,s2,b2,e,h2⟩=>⟨h1,_,_,e,?_⟩
    intro M2
    exact h2 M2 rfl
  ·have u6:=u5.trans x6
   refine(fG m6 ic t l b _ u6 (x5.trans x6) (SC x6) (ht.le u6.le) (VW.ext u6) ab VC (aFR _)).mono λv m'⟨h1,s2,b2,e,h2⟩=>⟨h1,_,_,e,?_⟩
   intro M2
   exact h2 M2 rfl
theorem WY.eE{ds:List aS}{rs:List di}{N N':Nat}(h:WY ds rs N)(hN:N'<=N):WY ds rs N':=λb hb=>h b (aF8 hb hN)
theorem EK{ds:List aS}{rs:List di}:∀N:Nat,WY ds rs N:=by
 intro N;induction N with
 |zero=>intro b hb;have:=b.Ep;omega
 |succ N ih=>
 intro b hb S m hS d r t ic l a hn hs VW lP hba Hw;obtain⟨ar,kV⟩:=b;have VU:=lP.aT;rw[Bk.nV]at*;simp only[Bk.gH,Bk.fH]at*;apply wL;simp -zeta only[aw,ax];intro m1 m2 m3 m4 m5 m6;obtain⟨x3,hl,s1,s2,s3⟩:=nX (m1:=m1) (m2:=m2) (m3:=m3) rfl rfl rfl;have s4:m4.size=m3.size+1:=by simp[m4]
 have x46:af m4 m6:=(af.push m4 _).ag (aFR _) _ _;have x36:af m3 m6:=(af.push m3 _).trans x46;have g0:GS (m4.size::m2.size::S) m3 m6 (.mk m3.size 0 0 0) []:=(GS.new _ m3).ext eu.mono x46;have B0:bK m6 m4.size bU [.s (.mk m3.size 0 0 0),.i kV]:=bK.ag (m:=m5) (o:=0) (r:=[.s (.mk m3.size 0 0 0),.i kV]) (bK.push m4 _ _);have Pk:∀c∈m2.size::S,c<m3.size:=bd hS x3.size (hl _ az);clear_value m6;clear_value m3;have kQ:=hs.len;have Jj:=yP ar;have QF:=dN ar;refine dg (n:=ar.length) (kQ▸hs.eP) (λk M=>af m3 M/\∃s lo,GS (m4.size::m2.size::S) m3 M s lo/\bK M m4.size bU [.s s,.i kV]/\lo.length=k/\WL ds rs.length True a lo/\dc lo=dc (ar.take k)/\sw lo<=sw (ar.take k)) ⟨x36,_,[],g0,B0,rfl,WL.nil _ _ _ _,az,az⟩ ?_;rintro k M I μ hk ⟨xM,s,lo,g,B,Dz,wl,Hx,Su⟩ next
 have v:=x3.trans xM;have tB:∀{M':ah},m3.size<=M'.size->∀c∈[m2.size,m1.size,m.size],c<M'.size:=λh c hc=>aFY (hl c hc) h;have hy:=g.aN;have zM:=xM.size;have MJ:=B.lt;refine⟨λh=>?_,λh=>?_⟩
 ·simp only[aFP]at h;obtain⟨x,hx⟩:=ae (l:=ar) (k:=k) ab;obtain⟨pa,pk,ha,oO,e0,e1,e2,e3,e4⟩:=hs.aE hx;have tD:=On hx;have Ua:=bu.jD x;have Ln:=nW x.aW;have hxt:=nh hx;have hxd:=oG hx;have oA:=VU.1 k x hx;have kU:=qQ (ar.take k);have hsk:=dN (ar.take k);have alr:=Jj (k+1);refine⟨ab,ab,_,v.ad e0,_,v.ad e1,_,v.ad e2,_,v.ad e3,_,v.ad e4,?_⟩;intro m7 m8 m9;have x8:af M m8:=(af.push M _).ag (aFR _) _ _;have s8:m8.size=M.size+1:=by simp[m8,m7,aq]
  have x9:af m8 m9:=af.push _ _;have gk0:GB (s.ao::m4.size::m2.size::S) m8 m9 (.mk m8.size 0 0 0) []:=GB.new _ m8;clear_value m9;clear_value m8;have uE:∀c∈s.ao::m4.size::m2.size::S,c<m8.size:=λc hc=>by
   simp only[aF0]at hc;rcases hc with e|e|e|e
   ·omega
   ·omega
   ·omega
   ·have:=hS c e;omega
  have jk:=oO.len;refine cN (n:=x.aW.length) (jk▸oO.eP) (λj ks M'=>af m8 M'/\∃lk,GB (s.ao::m4.size::m2.size::S) m8 M' ks lk/\lk.length=j/\(∀(i:Nat)(b:Bk),lk[i]? =some b->WB ds rs.length True (a+dc (ar.take k)+zT ds x.op x.bh i) b)/\bw lk<=bw (x.aW.take j)) ⟨x9,[],gk0,rfl,az,az⟩ ?_;rintro j ks M2 I2 μ2 hj ⟨LC,lk,gk,Pf,hkw,NF⟩ eN;have X2:af m M2:=v.trans (x8.trans LC);have yk:=gk.aN;have z2:=LC.size;have xr:∀{M':ah},m8.size<=M'.size->∀c∈[M.size,m2.size,m1.size,m.size],c<M'.size:=λh c hc=>by simp at hc;omega
  refine⟨λh2=>?_,λh2=>?_⟩
  ·simp only[aFP]at h2;obtain⟨b,lz⟩:=ae (l:=x.aW) (k:=j) ab;have hbm:=vx lz;have nH:=sJ lz;refine(IS (S:=ks.ao::s.ao::m4.size::m2.size::S) (λc hc=>?_) (hn.le X2.le) (ha.ext X2) (oO.le X2.le) (VW.ext X2) oA ab ab lz (ih.eE ab)).ay (af.av M2) (xr z2) λss b' dm sk jx eB _=>⟨_,_,rfl,?_⟩
   ·rcases List.mem_cons.1 hc with e|e
    ·omega
    ·have:=uE c e;omega
   refine GB.iN (b:=b') (gk.ext pv.mono eB) ((LC.trans eB).fz []) sk ab λr' M' g2 f2 z2' q2=>⟨af.me ((LC.trans eB).aC _) f2.ext (xr (aFR _)),eN ab _ _ ⟨f2.ext,_,g2,bg,λi b2 hi=>?_,?_⟩⟩
   ·rcases aF1 i lk.length with iy|iy
    ·rw[aFV iy]at hi;exact hkw i b2 hi
    ·rw[aFX iy]at hi;have:i -lk.length=0:=by have:=ap hi;simp at this;omega
     rw[this]at hi;simp at hi;subst hi;have:i=j:=ab;subst this;exact jx.1
   ·rw[mz,sI,yO,nH];have:=jx.2;omega
  ·simp only[aFQ]at h2;have agC:lk.length=x.aW.length:=ab;rw[bL ab]at NF;have X8:af M M2:=x8.trans LC;have B2:=B.ext X8;have G2:=g.ext eu.mono X8;refine⟨s,B2.bH 0,?_⟩;refine(ba (s.ao::m4.size::m2.size::S) (ha.ext X2) ab).ay (af.av M2) (xr z2) λs' l' gK ga e eU _=>⟨_,rfl,aA (eU.same _ ab) _,aA (eU.same _ ab) _,aA (eU.same _ ab) _,aA (eU.same _ B2.lt) _,?_⟩;subst e;intro kT;refine Gr.box (zs:=[.i 0,.i 0,.i 0,.s .nil,.s .nil]) (L:=[M.size,m2.size,m1.size,m.size]) (i:=0) (bytes:=72) (bc:=[.s s,.i kV]) (a:=⟨x.op,x.bh,x.bA,x.args,lk⟩) eu.mono aO (G2.ext eu.mono eU) (((xM.trans X8).trans eU).fz []) ⟨s',ks,rfl,(ga.done (λc hc=>by have:=uE c hc;omega) ab),lA.le (eU.bO _) (gk.done pv.mono uE aO (by show lk.length<=_;omega))⟩ ab (B2.ext eU) az aO ⟨ab,az⟩ (λc hc=>by have h1:=eU.size;simp at hc;omega) λr' m' g' B' f' z' q'=>next ab _ ⟨f'.ext,r',_,g',B',bg,wl.xI (oA.PU id oA.db.bA agC hkw|>λh=>by rw[Hx];exact h),?_,?_⟩
   ·rw[bD,iH,qP,Hx];have e:dn (⟨x.op,x.bh,x.bA,x.args,lk⟩:bu)=dn x:=rfl;omega
   ·rw[cb,jR,tv];have h5:(⟨x.op,x.bh,x.bA,x.args,lk⟩:bu).w=1+x.args.length+bw lk:=bu.jD _;omega
 ·simp only[aFQ]at h;have jk:k=ar.length:=ab;subst jk;rw[aGG]at Hx Su;refine⟨s,B.bH 0,kV,B.bH 1,?_⟩;intro m7;have hle:Le (aY (m4.size::m2.size::S) M) (aY S m7):=bt az λc hc=>aFT _ (aFT _ hc);have cx:=g.ne B aO;refine⟨s,.mk lo kV,rfl,cU.le hle (g.lB eu.mono (λhc=>?_) aO (by show lo.length<=_;omega)),⟨.of wl (by rw[Hx];exact VU.2),by rw[Bk.nV];omega⟩,v.ag ab _ _⟩;rcases List.mem_cons.1 hc with e|e
  ·exact cx e
  ·have:=Pk _ e;omega
theorem Ms{S:List Nat}{m:ah}(hS:∀c∈S,c<m.size){d r:Sl}{ds:List aS}{rs:List di}(hn:cR m d r ds rs){W:Nat}(hW:W<=200000000000)(hk:xc ds rs True W):tw 96 [.agg #[Sl.v d,Sl.v r]] m S ds λmM=>xc ds mM True W:=by
 apply DZ;simp -zeta only[aw,ax];intro a1 a2;obtain⟨x2,hl⟩:=cv (m1:=a1) (m2:=a2) rfl rfl;have s1:a1.size=m.size+1:=by simp[a1]
 clear_value a2;have nL:=hn.fj.len;have Sz:=hn.lZ;refine(dI (S:=a1.size::S) (bd hS x2.size (hl _ az)) (hn.le x2.le).aI hn.types).mono λ_ m2⟨dd,e,Hy,x3⟩=>?_;subst e;refine⟨x3.cg hl,_,rfl,?_⟩;intro m3 m4 m5;have u2:=x2.trans x3;obtain⟨x5,B0,g0,s3,s5⟩:=iR (S:=m3.size::a1.size::S) fg.mono (m2:=m2) (m3:=m3) (m4:=m4) (m5:=m5) rfl rfl rfl;clear_value m5;have oC:∀c∈[a1.size,m.size],c<m2.size:=λc hc=>x3.lt (hl c hc);have kX:∀c∈a1.size::S,c<m2.size:=λc hc=>x3.lt (bd hS x2.size (hl _ az) c hc);refine iI (R:=λv0 v1 M=>∃d r mM,Value.agg #[Sl.v v0,Sl.v v1]=.agg #[Sl.v d,Sl.v r]/\cR (aY S M) d r ds mM/\xc ds mM True W/\af m M) (n:=rs.length) (m:=m) (S:=S) fg.mono aO aO hS ⟨ab,oC _ az⟩ u2 s3 Hy nL ab x5 B0 g0 (λ_ q=>q.params.length<=3/\q.bX.length<=3/\WB ds rs.length True q.params.length q.body/\q.body.w<=W) (λd' r' l m' h1 h2 h3 h4 h5=>⟨d',r',l,rfl,⟨h1,h2,hn.types,ab⟩,Gv hk.eZ h3 h4,h5⟩) λk M st l I μ Bj hlen xM g B next=>?_
 obtain⟨q,hq⟩:=ae (l:=rs) (k:=k) Bj;obtain⟨Bn,tB,lP,hw⟩:=hk.cq q (ak hq);have v6:=u2.trans xM;obtain⟨p,t,b,c1,c2,c3,e0,e1,e2,e3,e4⟩:=hn.fj.aE hq;have G:∀{v:Value}{b o:Nat},ad m b o=some v->ad M b o=some v:=λh=>v6.ad h;refine⟨st,B.bH 1,ab,ab,_,G e0,_,G e1,_,G e2,_,G e3,_,G e4,ab,ab,_,G e3,_,G e4,?_⟩;intro m7;have hy:=g.aN;have MJ:=B.lt;have zM:=xM.size;have x7:af M m7:=af.push _ _;have s7:m7.size=M.size+1:=by simp[m7]
 have hk7:aj m7 (.mk M.size 0 0 0) []:=jM _ _ _ _ _ _;clear_value m7;have G7:∀{v:Value}{b o:Nat},ad m b o=some v->ad m7 b o=ad M b o:=λh=>by rw[x7.ad (G h),G h]
 have C:∀{b o:Nat},b<M.size->ad m7 b o=ad M b o:=λh=>aA (x7.same _ h) _;have hmM:m.size<M.size:=xM.lt (oC _ az);refine⟨G7 e3,G7 e4,C hmM,C hmM,C hmM,G7 e0,G7 e1,G7 e2,G7 e3,G7 e4,C hmM,C MJ,?_⟩;refine(EK q.body.w q.body (aFR _) (st.ao::m3.size::a1.size::S) m7 (λc hc=>?_) d r b (.mk M.size 0 0 0) [] q.params.length (hn.le (v6.trans x7).le) (c3.le (v6.trans x7).le) hk7 lP ab bg).ay (xM.trans x7) oC λss b' M1 sk jx x1 u1=>⟨_,_,rfl,?_⟩
 ·simp only[aF0]at hc;rcases hc with e|e|e|e
  ·omega
  ·omega
  ·have:=kX c (by simp[e]);omega
  ·have:=kX c (by simp[e]);omega
 have G1:∀{v:Value}{b o:Nat},ad m b o=some v->ad M1 b o=ad m7 b o:=λh=>by rw[x1.ad (x7.ad (G h)),x7.ad (G h)]
 refine⟨G1 e0,G1 e1,G1 e2,G1 e3,G1 e4,aA (x1.same _ (x7.lt hmM)) _,aA (x1.same _ (x7.lt MJ)) _,?_⟩;exact uf (S:=a1.size::S) (dd:=dd) (l:=l) kX (λc hc=>by have h1:=oC c hc;have h2:=u1.size;omega) u1 (g.ext fg.mono (x7.trans x1)) (B.ext (x7.trans x1)) ab (c1.ext (v6.trans (x7.trans x1))) (c2.ext (v6.trans (x7.trans x1))) sk ⟨ab,ab⟩ ab λs' M' g' B' x'=>next s' M' _ g' B' x' ⟨Bn,tB,jx.1,aF8 jx.2 hw⟩
def TC(op:Int)(l:List bu):Nat:=l.countP λs=>s.op=op
theorem ajw:∀l:List bu,TC 14 l+TC 15 l<=l.length
 |[]=>by simp[TC]
 |s::l=>by
  have:=ajw l;simp only[TC,List.countP_cons,aF5]at this⊢;by_cases h:s.op=14
  ·simp[h];omega
  ·by_cases h':s.op=15
   ·simp[h'];omega
   ·simp[h,h'];omega
theorem WZ(op:Int)(l:List bu)(s:bu):TC op (l++[s])=TC op l+(if s.op=op then 1 else 0):=by
 simp[TC,List.countP_append,List.countP_cons]
theorem GZ{m:ah}{t:Sl}{b:Bk}(hs:cU m t b.ar):qM 201 [.agg #[Sl.v t,vi b.aH]] m λk=>0<=k/\k<=b.ar.length/\∀(i:Nat)(x:bu),b.ar[i]? =some x->(i:Int)<k->x.op=14\/x.op=15:=by
 apply yE;simp -zeta only[aw,ax];intro m1;have x1:af m m1:=af.push _ _;have hl:∀c∈[m.size],c<m1.size:=by simp[m1]
 clear_value m1;have kQ:=hs.len;refine dg (n:=b.ar.length) (kQ▸hs.eP) (λk M=>af m1 M/\∀(i:Nat)(x:bu),b.ar[i]? =some x->i<k->x.op=14\/x.op=15) ⟨af.av _,λi x _ h=>ab⟩ ?_;rintro k M I μ hk ⟨xM,hc⟩ next
 have u:=x1.trans xM;have R:∀{M':ah},af m M'->∃n:Int,vi (k:Int)=vi n/\(0<=n/\n<=b.ar.length/\∀(i:Nat)(x:bu),b.ar[i]? =some x->(i:Int)<n->x.op=14\/x.op=15)/\af m M':=λxx=>⟨k,rfl,⟨ab,ab,λi x hx h=>hc i x hx ab⟩,xx⟩;refine⟨λh=>?_,λh=>R u⟩;simp only[aFP]at h;obtain⟨x,hx⟩:=ae (l:=b.ar) (k:=k) ab;obtain⟨a,kk,ha,oO,g0,g1,g2,g3,g4⟩:=hs.aE hx;refine⟨ab,ab,_,u.ad g0,_,u.ad g1,_,u.ad g2,_,u.ad g3,_,u.ad g4,?_⟩;refine(yW (x:=x) a kk M).ay xM hl λbb m2 hb x2 v2=>⟨_,rfl,λht=>next ab _ ⟨v2,λi y hy hi=>?_⟩,λ_=>R (u.trans x2)⟩;by_cases e:i=k
 ·subst e;rw[hx]at hy;simp at hy;subst hy;exact hb.1 ht
 ·exact hc i y hy ab
theorem vY{S:List Nat}{m:ah}(hS:∀c∈S,c<m.size){t:Sl}{b:Bk}(hs:cU m t b.ar){many:Nat}(hm:many<=b.ar.length)(op:Int)(h1:∀(i:Nat)(s:bu),b.ar[i]? =some s->i<many->0<s.args.length)(hb:b.ar.length<=1000000000000):
 iV 202 [.agg #[Sl.v t,vi b.aH],vi many,vi op] m S λl=>(∀y∈l,∃(i:Nat)(s:bu),i<many/\b.ar[i]? =some s/\y∈s.args)/\l.length<=TC op (b.ar.take many):=by
 apply AH
 simp -zeta only[aw,ax]
 intro m1 m2
 have x1:af m m1:=af.push _ _
 have hl:∀c∈[m.size],c<m1.size:=by simp[m1]
 have x2:af m1 m2:=af.push _ _
 have g0:GI S m1 m2 (.mk m1.size 0 0 0) []:=GI.nil S m1
 clear_value m2
 clear_value m1
 have kQ:=hs.len
 refine cN (n:=many) ab (λk s M=>af m1 M/\∃l,GI S m1 M s l/\(∀y∈l,∃(i:Nat)(s:bu),i<many/\b.ar[i]? =some s/\y∈s.args)/\l.length<=TC op (b.ar.take k)) ⟨x2,[],g0,az,az⟩ ?_
 rintro k s M I μ hk ⟨xM,l,g,rI,hlen⟩ next
 have u:=x1.trans xM
 refine⟨λh=>?_,λh=>?_⟩
 ·simp only[aFP]at h
  obtain⟨x,hx⟩:=ae (l:=b.ar) (k:=k) ab
  obtain⟨a,kk,ha,oO,e0,e1,e2,e3,e4⟩:=hs.aE hx
  have jK:=ha.len
  have:=h1 k x hx ab
  obtain⟨y,hy⟩:=ae (l:=x.args) (k:=0) ab
  have hc:TC op (b.ar.take (k+1))=TC op (b.ar.take k)+(if x.op=op then 1 else 0):=by rw[bn hx,WZ]
  have BT:TC op (b.ar.take k)<=(b.ar.take k).length:=List.countP_le_length
  have MK:=aHj k b.ar
  refine⟨ab,ab,_,u.ad e0,λho=>⟨ab,ab,_,u.ad e3,aO,ab,y,(ha.ext u).aE hy,?_⟩,λho=>next ab _ _ ⟨xM,l,g,rI,?_⟩⟩
  ·intro m3
   simp only[aFZ]at ho
   rw[aFW ho]at hc
   refine GI.iN g (xM.fz []) (λc hc=>x1.lt (hS c hc)) ab λr M' g' f' _ _=>⟨af.me (xM.aC _) f'.ext hl,next ab _ _ ⟨f'.ext,_,g',λz hz=>?_,bg⟩⟩
   rcases List.mem_append.1 hz with hz|hz
   ·exact rI z hz
   ·simp at hz;subst hz;exact⟨k,x,ab,hx,ak hy⟩
  ·simp only[aFU]at ho
   rw[aFS ho]at hc;omega
 ·simp only[aFQ]at h
  have e:k=many:=ab
  subst e
  exact⟨s,l,rfl,g.bN (λ_ h=>h) x1.size,⟨rI,hlen⟩,u⟩
theorem TD:∀{l:List bu},(∀x∈l,dn x=0)->dc l=0
 |[],_=>rfl
 |x::l,h=>by rw[iH,h x aF3,TD λy hy=>h y (aFT _ hy)]
theorem W0:∀{l:List bu},(∀x∈l,2<=x.w)->2*l.length<=sw l
 |[],_=>az
 |x::l,h=>by
  have h1:=h x aF3;have h2:=W0 λy hy=>h y (aFT _ hy);rw[jR,aF5];omega
theorem Kx{S:List Nat}{m:ah}(hS:∀c∈S,c<m.size){t f:Sl}{b:Bk}{fl:List Int}{ds:List aS}{nr a:Nat}(hs:cU (aY S m) t b.ar)(hf:aj m f fl)(hf3:fl.length<=3)(lP:WB ds nr True (a+fl.length) b)(hw:b.w<=100000000000)(ha:a<=1000000000000){x:Int}(hx:0<=x/\x<(a:Int)):
 k8 167 [.agg #[Sl.v t,vi b.aH],vi x,Sl.v f,vi a] m S λb'=>WB ds nr True (a+fl.length) b'/\b'.w<=b.w+8:=by
 apply Cq
 simp -zeta only[aw,ax]
 intro m1 m2
 obtain⟨x2,hl⟩:=cv (m1:=m1) (m2:=m2) rfl rfl
 have s1:m1.size=m.size+1:=by simp[m1]
 have s2:m2.size=m.size+2:=by simp[m2,s1]
 clear_value m2
 obtain⟨uB,VO⟩:=lP.aT
 have hs0:=hs.le (aV _ _)
 have NF:=Bk.jD b
 have kQ:=dN b.ar
 have MK:=hs.len
 have Vi:=hs.cap
 have gL:=hf.len
 refine(GZ (hs0.le x2.le)).ay (af.av m2) hl λmn m3 hmn x3 _=>⟨_,rfl,?_⟩
 obtain⟨kn,TW⟩:∃kn:Nat,mn=kn:=⟨mn.toNat,ab⟩
 subst TW
 have aeG:∀(i:Nat)(s:bu),b.ar[i]? =some s->i<kn->s.op=14\/s.op=15:=λi s hi cA=>hmn.2.2 i s hi ab
 have oD:∀(i:Nat)(s:bu),b.ar[i]? =some s->i<kn->0<s.args.length:=λi s hi cA=>by
  have:=aeG i s hi cA;have:=(uB i s hi).db.jm ab;omega
 have u3:=x2.trans x3
 refine(vY (S:=[]) az (hs0.le u3.le) (many:=kn) ab 14 oD ab).ay x3 hl λsd ld m4 gd hd x4 v4=>⟨_,rfl,?_⟩
 refine(vY (S:=[]) az (hs0.le (x2.trans v4).le) (many:=kn) ab 15 oD ab).ay v4 hl λsr lr m5 gr hr x5 v5=>⟨_,rfl,?_⟩
 have ME:=ajw (b.ar.take kn)
 have htk:(b.ar.take kn).length=kn:=bg
 have hr5:aj m5 sr lr:=(gr.done az ab).le (aV _ _)
 refine(bW hr5 x).ay v5 hl λbi m6 hbi x6 v6=>⟨_,rfl,λ_=>?_,λrI=>⟨λ_=>?_,λcx=>?_⟩⟩
 ·exact⟨t,b,rfl,hs.le (((x2.trans v6).ag ab _ _).bO _),⟨lP,ab⟩,(x2.trans v6).ag ab _ _⟩
 ·exact⟨t,b,rfl,hs.le (((x2.trans v6).ag ab _ _).bO _),⟨lP,ab⟩,(x2.trans v6).ag ab _ _⟩
 have QD:0<fl.length:=by simp only[aFU]at cx;omega
 have OP:∀s∈b.ar.take kn,∃i:Nat,i<kn/\b.ar[i]? =some s:=λs hs=>by
  obtain⟨i,hi⟩:=List.mem_iff_getElem?.1 hs;have:=ap hi;rw[aGj ab]at hi;exact⟨i,ab,hi⟩
 have LP:dc (b.ar.take kn)=0:=TD λs hs=>by
  obtain⟨i,h1,h2⟩:=OP s hs;have:=aeG i s h2 h1;exact aFS λh:nj s.op=>by have:=h.2;omega
 have ZG:2*kn<=sw (b.ar.take kn):=by
  have:=W0 (l:=b.ar.take kn) λs hs=>by
   obtain⟨i,h1,h2⟩:=OP s hs;have:=oD i s h2 h1;have:=bu.jD s;omega
  omega
 have hsp:sw b.ar=sw (b.ar.take kn)+sw (b.ar.drop kn):=by rw[<-cb,aGi]
 have hdp:dc b.ar=dc (b.ar.take kn)+dc (b.ar.drop kn):=by rw[<-bD,aGi]
 have rng:∀y:Int,(∃(i:Nat)(s:bu),i<kn/\b.ar[i]? =some s/\y∈s.args)->0<=y/\y<((a+fl.length:Nat):Int):=λy⟨i,s,h1,h2,h3⟩=>by
  have h4:=(uB i s h2).db.args y h3;have h5:=WH (b.ar.take kn) i;rw[aHT,aGV ab]at h5;omega
 refine(pU (S:=[]) az ((hr5.ext x6).le (yS _)) x ab).ay v6 hl λsr2 lr2 m8 gr2 Q7 x8 v8=>⟨_,rfl,?_⟩
 have y2:=gr2.aN
 have u6:=x2.trans v6
 have z68:=x8.size
 have arM:aj (aY [sr2.ao] m8) sd ld:=((gd.done az ab).le (aV _ _)).le (((x5.trans x6).le.trans (yS m6)).trans (x8.aY λc hc=>Or.inr (by simp at hc;omega)))
 refine vw (n:=fl.length) ab (λk sd sr M=>af m6 M/\∃ld lr,aj (aY [sr.ao] M) sd ld/\GI [] m6 M sr lr/\(∀y∈ld,0<=y/\y<((a+fl.length:Nat):Int))/\ld.length<=TC 14 (b.ar.take kn)/\(∀y∈lr,0<=y/\y<((a+fl.length:Nat):Int))/\lr.length<=TC 15 (b.ar.take kn)+k) ⟨x8,ld,lr2,arM,gr2,λy hy=>rng y (hd.1 y hy),hd.2,λy hy=>rng y (hr.1 y (Q7.1 y hy)),by have:=Q7.2;have:=hr.2;omega⟩ ?_
 rintro k sd3 sr3 m9 I μ hk ⟨x9,ld3,lr3,hsd,gr3,hdr,kU,Q8,nL⟩ next
 have u9:=u6.trans x9
 have y3:=gr3.aN
 have O2:∀c∈[m1.size,m.size],c<m9.size:=λc hc=>x9.lt (v6.lt (hl c hc))
 refine⟨λh=>?_,λh=>?_⟩
 ·simp only[aFP]at h
  obtain⟨y,hy⟩:=ae (l:=fl) (k:=k) ab
  have ew:bS ((a:Int)+(k:Int))=(a:Int)+k:=aF ab ab
  rw[ew]
  have F:∀{M:ah},af m9 M->ad M f.ao (f.off+Int.toNat (k:Int)*1)=some (vi y):=λxx=>(hf.ext (u9.trans xx)).aE hy
  have same:∀{M:ah},af m9 M->I sd3 sr3 (bS ((k:Int)+1)) M/\μ sd3 sr3 (bS ((k:Int)+1)) M<μ sd3 sr3 k m9:=λxx=>next ab _ _ _ ⟨x9.trans xx,ld3,lr3,hsd.le (xx.bO _),gr3.ext xx,hdr,kU,Q8,ab⟩
  have Oo:∀{M:ah},af m9 M->gA (M.push (.cells (aU [.i ((a:Int)+k)]) au)) au [.i 0] 8 sr3 (.mk M.size 0 1 1) λr M'=>da [m1.size,m.size] (M.push (.cells (aU [.i ((a:Int)+k)]) au)) M'/\I sd3 r (bS ((k:Int)+1)) M'/\μ sd3 r (bS ((k:Int)+1)) M'<μ sd3 sr3 k m9:=λ{M} xx=>by
   refine GI.iN (gr3.ext xx) ((x9.trans xx).fz []) az ab λr M' g' f' z' q'=>⟨af.me ((x9.trans xx).aC _) f'.ext (λc hc=>v6.lt (hl c hc)),next ab _ _ _ ⟨f'.ext,ld3,_,(hsd.le (xx.bO _)).le (mW λc hc hn=>?_),g',hdr,kU,λz hz=>?_,bg⟩⟩
   ·simp at hn;refine⟨?_,q' c hc hn⟩;simp;rcases z'.2 with e|e<;>omega
   ·rcases List.mem_append.1 hz with hz|hz
    ·exact Q8 z hz
    ·simp at hz;omega
  refine⟨ab,ab,y,F (af.av _),λ_=>?_,λ_=>⟨ab,ab,y,F (af.av _),λ_=>?_,λ_=>same (af.av _)⟩⟩
  ·refine(bW (hsd.le (aV _ _)) _).ay (af.av m9) O2 λbb cK _ cO _=>⟨_,rfl,λ_=>?_,λ_=>⟨ab,ab,y,F cO,λ_=>?_,λ_=>same cO⟩⟩
   ·refine(pU (S:=[sr3.ao]) (by have:=cO.size;simp;omega) (hsd.le (cO.bO _)) _ ab).ay cO O2 λDE Ut dm g11 p11 eB v11=>⟨_,rfl,next ab _ _ _ ⟨x9.trans v11,Ut,lr3,g11.done (by have:=cO.size;simp;omega) (by have:=p11.2;omega),gr3.ext v11,λz hz=>hdr z (p11.1 z hz),by have:=p11.2;omega,Q8,ab⟩⟩
   ·intro dm
    exact Oo cO
  ·intro dm
   exact Oo (af.av _)
 ·have arO:aj m9 sr3 lr3:=(gr3.done az ab).le (aV _ _)
  have hS9:∀{M:ah},m9.size<=M.size->∀c∈m1.size::S,c<M.size:=λhz c hc=>by
   rcases List.mem_cons.1 hc with e|e
   ·have:=O2 m1.size az;omega
   ·have:=hS c e;have:=u9.size;omega
  refine(cZ (S:=m1.size::S) (hS9 (aFR _)) 14 (hsd.le (aV _ _)) ab).ay (af.av m9) O2 λr70 l70 pV g70 e70 kW _=>⟨_,rfl,?_⟩
  subst e70
  have y70:=g70.aN
  have z16:=kW.size
  refine(fA (S:=r70.ao::m1.size::S) (λc hc=>?_) 16 x).mono λv oB⟨a17,k17,e,arP,arQ,xl⟩=>⟨λc hc=>xl.same c (kW.lt (O2 c hc)),_,_,_,_,_,e,?_⟩
  ·rcases List.mem_cons.1 hc with e|e
   ·omega
   ·exact hS9 z16 c e
  intro sY
  have agE:=kW.trans xl
  refine GS.iN (x:=de 16 x) (g70.ext eu.mono xl) (agE.fz []) arP arQ bg λr74 Pj g74 f74 z74 q74=>⟨af.me (agE.aC _) f74.ext O2,?_⟩
  have y74:=g74.aN
  have z17:=agE.size
  have z19:=f74.size
  refine(cZ (S:=r74.ao::m1.size::S) (λc hc=>?_) 15 (arO.ext f74.ext) ab).ay f74.ext O2 λr77 l77 Jy g77 e77 Ud v20=>⟨_,rfl,?_⟩
  ·rcases List.mem_cons.1 hc with e|e
   ·omega
   ·exact hS9 z19 c e
  subst e77
  refine GS.all (g74.ext eu.mono Ud) (v20.fz []) (g77.done eu.mono (λc hc=>?_) aO bg) bg λr78 NI g78 f78 z78 q78=>⟨af.me v20 f78.ext O2,ab,ab,ab,?_⟩
  ·rcases List.mem_cons.1 hc with e|e
   ·omega
   ·exact hS9 z19 c e
  have y78:=g78.aN
  have z9:=u9.size
  have u21:=u9.trans f78.ext
  have hle:Le (aY S m) (aY (r78.ao::m1.size::S) NI):=u21.aY λc hc=>by
   simp only[aF0]at hc;rcases hc with e|e|e
   ·exact Or.inr ab
   ·exact Or.inr ab
   ·exact Or.inl e
  have ek:Int.toNat (kn:Int)=kn:=ab
  have el:Int.toNat (t.len:Int)=t.len:=ab
  rw[ek,el]
  have NL:cU (aY (r78.ao::m1.size::S) NI) (t.cut kn t.len 5) (b.ar.drop kn):=by
   have:=(hs.le hle).J6 (i:=kn) (j:=t.len) ab ab;rwa[MK,bL (aFR _),<-MK]at this
  refine GS.all g78 f78 NL bg λr84 QG g84 f84 z84 q84=>⟨af.me f78.ext f84.ext O2,aA (by rw[f84.ext.same _ (O2 _ az),f78.ext.same _ (O2 _ az)]) _,?_⟩
  intro Vp
  have D:=g84.done eu.mono (hS9 (aFR _)) aO bg
  have e1:dc [de 16 x]=0:=gS aO [x]
  have e2:sw [de 16 x]=2:=mf 16 [x]
  have W1:WL ds nr True (a+fl.length) (ld3.map (de 14)++[de 16 x]++lr3.map (de 15)++b.ar.drop kn):=by
   refine WL.append (WL.append ((pF aO hdr).xI ?_) ?_) ?_
   ·rw[gS aO];exact CP aO ⟨hx.1,ab⟩
   ·rw[bD,gS aO,e1];exact pF aO Q8
   ·rw[bD,bD,gS aO,gS aO,e1];have:=uB.drop kn;rwa[LP]at this
  refine⟨r84,.mk (ld3.map (de 14)++[de 16 x]++lr3.map (de 15)++b.ar.drop kn) b.aH,rfl,cU.le (bt az λc hc=>aFT _ hc) D,⟨.of W1 ?_,?_⟩,(u9.trans f84.ext).ag ab _ _⟩
  ·rw[bD,bD,bD,gS aO,gS aO,e1]
   rw[hdp,LP]at VO
   simpa using VO
  ·rw[Bk.nV,cb,cb,cb,mf,mf,e2];omega
end Go.Proofs.YtakpkjhmbbfniaaGreat
