/- Part of a proof, joined by a program. -/
import Derived.Test.YtakpkjhmbbfniaaGreatV12
set_option linter.unusedVariables false
set_option linter.unusedSimpArgs false
set_option linter.defProp false
set_option maxHeartbeats 8000000
set_option maxRecDepth 100000
namespace Go.Proofs.YtakpkjhmbbfniaaGreat
open Go.Vc
def ao7(ds:List aS)(rs:List di)(b:Bk):Prop:=∀(S:List Nat)(m:ah),(∀c∈S,c<m.size)->∀(d r t:Sl)(a:Nat),cR m d r ds rs->cU m t b.ar->WB ds rs.length True a b->a+4*b.w<=1000000000000->9*b.w<=100000000000->
 k8 129 [.agg #[Sl.v d,Sl.v r],.agg #[Sl.v t,vi b.aH],vi a] m S λb'=>WB ds rs.length True a b'/\b'.w+8<=9*b.w
theorem Be{ds:List aS}{rs:List di}:∀b:Bk,ao7 ds rs b:=by
 refine Bk.ind ?_;intro ar kV ih S m hS d r t a hn hs lP hba XN;have VU:=lP.aT;rw[Bk.nV]at*;simp only[Bk.gH,Bk.fH]at*;apply tR;simp -zeta only[aw,ax];intro m1 m2 m3 m4 m5 m6;obtain⟨x3,hl,s1,s2,s3⟩:=nX (m1:=m1) (m2:=m2) (m3:=m3) rfl rfl rfl;have s4:m4.size=m3.size+1:=by simp[m4]
 have x46:af m4 m6:=(af.push m4 _).ag (aFR _) _ _;have x36:af m3 m6:=(af.push m3 _).trans x46;have g0:GS (m4.size::m2.size::S) m3 m6 (.mk m3.size 0 0 0) []:=(GS.new _ m3).ext eu.mono x46;have B0:bK m6 m4.size bU [.s (.mk m3.size 0 0 0),.i kV]:=bK.ag (m:=m5) (o:=0) (r:=[.s (.mk m3.size 0 0 0),.i kV]) (bK.push m4 _ _);have Pk:∀c∈m2.size::S,c<m3.size:=bd hS x3.size (hl _ az);clear_value m6;clear_value m3;have kQ:=hs.len;have Jj:=yP ar;have QF:=dN ar;refine cN (n:=ar.length) (kQ▸hs.eP) (λk(v:Int) M=>v=((a+dc (ar.take k):Nat):Int)/\af m3 M/\∃s lo,GS (m4.size::m2.size::S) m3 M s lo/\bK M m4.size bU [.s s,.i kV]/\lo.length=k/\WL ds rs.length True a lo/\dc lo=dc (ar.take k)/\sw lo<=9*sw (ar.take k)) ⟨az,x36,_,[],g0,B0,rfl,WL.nil _ _ _ _,az,az⟩ ?_;rintro k v0 M I μ hk ⟨hv0,xM,s,lo,g,B,Dz,wl,Hx,Su⟩ next
 subst hv0;have v:=x3.trans xM;have hy:=g.aN;have zM:=xM.size;have MJ:=B.lt;refine⟨λh=>?_,λh=>?_⟩
 ·simp only[aFP]at h;obtain⟨x,hx⟩:=ae (l:=ar) (k:=k) ab;obtain⟨pa,pk,ha,oO,e0,e1,e2,e3,e4⟩:=hs.aE hx;have tD:=On hx;have Ua:=bu.jD x;have Ln:=nW x.aW;have hxt:=nh hx;have hxd:=oG hx;have oA:=VU.1 k x hx;have kU:=qQ (ar.take k);have hsk:=dN (ar.take k);have alr:=Jj (k+1);refine⟨ab,ab,_,v.ad e0,_,v.ad e1,_,v.ad e2,_,v.ad e3,_,v.ad e4,?_⟩;intro m7 m8 m9;have x8:af M m8:=(af.push M _).ag (aFR _) _ _;have s8:m8.size=M.size+1:=by simp[m8,m7,aq]
  have x9:af m8 m9:=af.push _ _;have s9:m9.size=m8.size+1:=by simp[m9]
  have gk0:GB (s.ao::m4.size::m2.size::S) m8 m9 (.mk m8.size 0 0 0) []:=GB.new _ m8;clear_value m9;clear_value m8;have uE:∀c∈s.ao::m4.size::m2.size::S,c<m8.size:=λc hc=>by
   simp only[aF0]at hc;rcases hc with e|e|e|e
   ·omega
   ·omega
   ·omega
   ·have:=hS c e;omega
  have jk:=oO.len;have xr:∀{M':ah},m8.size<=M'.size->∀c∈[M.size,m2.size,m1.size,m.size],c<M'.size:=λh c hc=>by simp at hc;omega
  have z9:m9.size=m8.size+1:=s9;refine(eL (S:=[m8.size]) bg (hn.aI.le (v.trans (x8.trans x9)).le) hn.types x.bh).ay (af.av m9) (xr x9.size) λsc lc cK hsc e cO _=>⟨_,rfl,?_⟩;subst e;have aAg:=hsc.len;refine cN (n:=x.aW.length) (jk▸oO.eP) (λj ks M'=>af m8 M'/\aj (aY [ks.ao] M') sc (bB ds x.bh)/\∃lk,GB (s.ao::m4.size::m2.size::S) m8 M' ks lk/\lk.length=j/\(∀(i:Nat)(b:Bk),lk[i]? =some b->WB ds rs.length True (a+dc (ar.take k)+zT ds x.op x.bh i) b)/\bw lk<=9*bw (x.aW.take j)) ⟨x9.trans cO,hsc,[],gk0.ext pv.mono cO,rfl,az,az⟩ ?_;rintro j ks M2 I2 μ2 hj ⟨LC,alz,lk,gk,Pf,hkw,NF⟩ eN;have X2:af m M2:=v.trans (x8.trans LC);have yk:=gk.aN;have z2:=LC.size;refine⟨λh2=>?_,λh2=>?_⟩
  ·simp only[aFP]at h2;obtain⟨b,lz⟩:=ae (l:=x.aW) (k:=j) ab;obtain⟨tb,ZO,f0,f1⟩:=oO.aE lz;have hbm:=vx lz;have nH:=sJ lz;have VC:=oA.aW j b lz;have h3:=RD hn.types x.op x.bh j;have Jx:∀{M':ah},af M2 M'->∀c∈ks.ao::s.ao::m4.size::m2.size::S,c<M'.size:=λxx c hc=>by
    have:=xx.size;rcases List.mem_cons.1 hc with e|e
    ·omega
    ·have:=uE c e;omega
   have add:∀{M':ah}{ss:Sl}{b':Bk},af M2 M'->cU (aY (ks.ao::s.ao::m4.size::m2.size::S) M') ss b'.ar->WB ds rs.length True (a+dc (ar.take k)+zT ds x.op x.bh j) b'->b'.w<=9*b.w->
    gA (M'.push (.cells (aU [.s ss,.i b'.aH]) bU)) bU [.s .nil,.i 0] 32 ks (.mk M'.size 0 1 1) λr' M3=>da [M.size,m2.size,m1.size,m.size] (M'.push (.cells (aU [.s ss,.i b'.aH]) bU)) M3/\I2 r' (bS ((j:Int)+1)) M3/\μ2 r' (bS ((j:Int)+1)) M3<μ2 ks j M2:=λ{M' ss b'} eB sk agz rJ=>by
    refine GB.iN (b:=b') (gk.ext pv.mono eB) ((LC.trans eB).fz []) sk ab λr' M3 g2 f2 z2' q2=>⟨af.me ((LC.trans eB).aC _) f2.ext (xr (aFR _)),eN ab _ _ ⟨f2.ext,(alz.le (eB.bO _)).le (mW λc hc hn'=>?_),_,g2,bg,λi b2 hi=>?_,?_⟩⟩
    ·simp at hn'
     refine⟨?_,q2 c hc hn'⟩
     simp
     rcases z2'.2 with e|e<;>omega
    ·rcases aF1 i lk.length with iy|iy
     ·rw[aFV iy]at hi;exact hkw i b2 hi
     ·rw[aFX iy]at hi
      have:i -lk.length=0:=by have:=ap hi;simp at this;omega
      rw[this]at hi;simp at hi;subst hi
      have:i=j:=ab
      subst this;exact agz
    ·rw[mz,sI,yO,nH]
     omega
   refine⟨λh8=>?_,λh8=>?_⟩
   ·simp only[aFZ]at h8;obtain⟨gZ,_⟩:=oA.db.all h8;have h1a:=oA.db.jm (Or.inr (Or.inr h8));obtain⟨y,lj⟩:=ae (l:=x.args) (k:=0) ab;obtain⟨y0,y1⟩:=oA.db.args y (ak lj);have jK:=ha.len;obtain⟨cn,VB⟩:=ae (l:=bB ds x.bh) (k:=j) ab;refine⟨ab,ab,cn,(alz.le (aV _ _)).aE VB,?_⟩;refine(cw (S:=[]) az (hn.aI.le (X2.le.trans (yS _))) hn.types cn).ay (af.av M2) (xr z2) λsf lf df hsf e fW _=>⟨_,rfl,?_⟩;subst e;have hsf:=hsf.le (aV _ _);have aAh:=hsf.len;have NH:=X2.trans fW;rw[J9 h8 VB]at VC h3 add;have VD:ad df pa.ao (pa.off+Int.toNat (0:Int)*1)=some (vi y):=(ha.ext NH).aE lj;refine⟨ab,ab,_,NH.ad f0,_,NH.ad f1,aO,ab,y,VD,?_⟩;have ew:bS (((a+dc (ar.take k):Nat):Int)+(sf.len:Int))=((a+dc (ar.take k)+(bz ds cn).length:Nat):Int):=by rw[aF ab ab];omega
    rw[ew];refine(ih x (ak hx) b (ak lz) (ks.ao::s.ao::m4.size::m2.size::S) df (Jx fW) d r tb _ (hn.le NH.le) (ZO.le NH.le) VC ab ab).ay fW (xr z2) λss b' iC sk jx fF Y0=>⟨_,_,rfl,?_⟩;refine⟨by rw[fF.ad VD,VD],aA (fF.same _ (fW.lt (xr z2 _ az))) _,?_⟩;refine(Kx (S:=ks.ao::s.ao::m4.size::m2.size::S) (Jx Y0) sk (hsf.ext fF) ab jx.1 ab ab ⟨y0,y1⟩).ay Y0 (xr z2) λss2 b2 gK arR abk eU v14=>⟨_,_,rfl,?_⟩;intro kT;exact add v14 arR abk.1 ab
   ·simp only[aFU]at h8;rw[Ka h8]at VC add;refine⟨ab,ab,_,X2.ad f0,_,X2.ad f1,?_⟩;refine(ih x (ak hx) b (ak lz) (ks.ao::s.ao::m4.size::m2.size::S) M2 (Jx (af.av _)) d r tb _ (hn.le X2.le) (ZO.le X2.le) VC ab ab).ay (af.av M2) (xr z2) λss b' iC sk jx fF Y0=>⟨_,_,rfl,?_⟩;intro gK;exact add fF sk jx.1 ab
  ·simp only[aFQ]at h2;have agC:lk.length=x.aW.length:=ab;rw[bL ab]at NF;have X8:af M M2:=x8.trans LC;have B2:=B.ext X8;have G2:=g.ext eu.mono X8;refine⟨s,B2.bH 0,?_⟩;refine(ba (s.ao::m4.size::m2.size::S) (ha.ext X2) ab).ay (af.av M2) (xr z2) λs' l' gK ga e eU _=>⟨_,rfl,aA (eU.same _ ab) _,aA (eU.same _ ab) _,aA (eU.same _ ab) _,aA (eU.same _ B2.lt) _,?_⟩;subst e;intro kT;refine Gr.box (zs:=[.i 0,.i 0,.i 0,.s .nil,.s .nil]) (K:=λM'=>aD Tryz.prog 118 [vi x.op] M' λv bm=>da [M.size,m2.size,m1.size,m.size] M' bm/\∃rb:Bool,v=vb rb/\
    (rb=true->I (bS (((a+dc (ar.take k):Nat):Int)+1)) (bS ((k:Int)+1)) bm/\μ (bS (((a+dc (ar.take k):Nat):Int)+1)) (bS ((k:Int)+1)) bm<μ ((a+dc (ar.take k):Nat):Int) (k:Int) M)/\
    (rb=false->I ((a+dc (ar.take k):Nat):Int) (bS ((k:Int)+1)) bm/\μ ((a+dc (ar.take k):Nat):Int) (bS ((k:Int)+1)) bm<μ ((a+dc (ar.take k):Nat):Int) (k:Int) M)) (L:=[M.size,m2.size,m1.size,m.size]) (i:=0) (bytes:=72) (bc:=[.s s,.i kV]) (a:=⟨x.op,x.bh,x.bA,x.args,lk⟩) eu.mono aO (G2.ext eu.mono eU) (((xM.trans X8).trans eU).fz []) ⟨s',ks,rfl,(ga.done (λc hc=>by have:=uE c hc;omega) ab),lA.le (eU.bO _) (gk.done pv.mono uE aO (by show lk.length<=_;omega))⟩ ab (B2.ext eU) az aO ⟨ab,az⟩ (λc hc=>by have h1:=eU.size;simp at hc;omega) λr' m' g' B' f' z' q'=>?_
   have W':WL ds rs.length True a (lo++[⟨x.op,x.bh,x.bA,x.args,lk⟩]):=wl.xI (oA.PU id oA.db.bA agC hkw|>λh=>by rw[Hx];exact h);have aAi:=eU.size;refine(gD x.op m').mono λv bm⟨bb,e,arS,Lr⟩=>⟨λc hc=>Lr.same c (by have:=xr z2 c hc;omega),bb,e,?_⟩;have Vo:=qS x bb arS;have Je:dc (lo++[⟨x.op,x.bh,x.bA,x.args,lk⟩])=dc (ar.take (k+1)):=by
    rw[bD,iH,qP,Hx];have e:dn (⟨x.op,x.bh,x.bA,x.args,lk⟩:bu)=dn x:=rfl;omega
   have uH:sw (lo++[⟨x.op,x.bh,x.bA,x.args,lk⟩])<=9*sw (ar.take (k+1)):=by
    rw[cb,jR,tv];have h5:(⟨x.op,x.bh,x.bA,x.args,lk⟩:bu).w=1+x.args.length+bw lk:=bu.jD _;omega
   refine⟨λht=>?_,λhf=>?_⟩
   ·rw[aFW ht]at Vo;rw[aF (x:=((a+dc (ar.take k):Nat):Int)+1) ab ab];exact next ab _ _ ⟨ab,f'.ext.trans Lr,r',_,g'.ext eu.mono Lr,B'.ext Lr,bg,W',Je,uH⟩
   ·rw[aFS (by simp[hf])]at Vo;exact next ab _ _ ⟨ab,f'.ext.trans Lr,r',_,g'.ext eu.mono Lr,B'.ext Lr,bg,W',Je,uH⟩
 ·simp only[aFQ]at h;have jk:k=ar.length:=ab;subst jk;rw[aGG]at Hx Su;refine⟨s,B.bH 0,kV,B.bH 1,?_⟩;intro m7;have hle:Le (aY (m4.size::m2.size::S) M) (aY S m7):=bt az λc hc=>aFT _ (aFT _ hc);have cx:=g.ne B aO;refine⟨s,.mk lo kV,rfl,cU.le hle (g.lB eu.mono (λhc=>?_) aO (by show lo.length<=_;omega)),⟨.of wl (by rw[Hx];exact VU.2),by rw[Bk.nV];omega⟩,v.ag ab _ _⟩;rcases List.mem_cons.1 hc with e|e
  ·exact cx e
  ·have:=Pk _ e;omega
theorem Db{S:List Nat}{m:ah}(hS:∀c∈S,c<m.size){d r:Sl}{ds:List aS}{rs:List di}(hn:cR m d r ds rs){W:Nat}(hW:9*W<=100000000000)(hk:xc ds rs True W):tw 95 [.agg #[Sl.v d,Sl.v r]] m S ds λmM=>xc ds mM True (9*W):=by
 apply vd;simp -zeta only[aw,ax];intro a1 a2;obtain⟨x2,hl⟩:=cv (m1:=a1) (m2:=a2) rfl rfl;have s1:a1.size=m.size+1:=by simp[a1]
 clear_value a2;have nL:=hn.fj.len;have Sz:=hn.lZ;refine(dI (S:=a1.size::S) (bd hS x2.size (hl _ az)) (hn.le x2.le).aI hn.types).mono λ_ m2⟨dd,e,Hy,x3⟩=>?_;subst e;refine⟨x3.cg hl,_,rfl,?_⟩;intro m3 m4 m5;have u2:=x2.trans x3;obtain⟨x5,B0,g0,s3,s5⟩:=iR (S:=m3.size::a1.size::S) fg.mono (m2:=m2) (m3:=m3) (m4:=m4) (m5:=m5) rfl rfl rfl;clear_value m5;have oC:∀c∈[a1.size,m.size],c<m2.size:=λc hc=>x3.lt (hl c hc);have kX:∀c∈a1.size::S,c<m2.size:=λc hc=>x3.lt (bd hS x2.size (hl _ az) c hc);refine iI (R:=λv0 v1 M=>∃d r mM,Value.agg #[Sl.v v0,Sl.v v1]=.agg #[Sl.v d,Sl.v r]/\cR (aY S M) d r ds mM/\xc ds mM True (9*W)/\af m M) (n:=rs.length) (m:=m) (S:=S) fg.mono aO aO hS ⟨ab,oC _ az⟩ u2 s3 Hy nL ab x5 B0 g0 (λ_ q=>q.params.length<=3/\q.bX.length<=3/\WB ds rs.length True q.params.length q.body/\q.body.w<=9*W) (λd' r' l m' h1 h2 h3 h4 h5=>⟨d',r',l,rfl,⟨h1,h2,hn.types,ab⟩,Gv hk.eZ h3 h4,h5⟩) λk M st l I μ Bj hlen xM g B next=>?_
 obtain⟨q,hq⟩:=ae (l:=rs) (k:=k) Bj;obtain⟨Bn,tB,lP,hw⟩:=hk.cq q (ak hq);have v6:=u2.trans xM;obtain⟨p,t,b,c1,c2,c3,e0,e1,e2,e3,e4⟩:=hn.fj.aE hq;have G:∀{v:Value}{b o:Nat},ad m b o=some v->ad M b o=some v:=λh=>v6.ad h;refine⟨ab,ab,_,G e0,_,G e1,_,G e2,_,G e3,_,G e4,?_⟩;intro m7 m8;have hy:=g.aN;have MJ:=B.lt;have zM:=xM.size;have x8:af M m8:=(af.push M _).ag (aFR _) _ _;have s8:m8.size=M.size+1:=by simp[m8,m7,aq]
 clear_value m8;have mG:∀c∈[M.size,a1.size,m.size],c<m8.size:=λc hc=>by
  rcases List.mem_cons.1 hc with e|e
  ·omega
  ·have:=oC c e;omega
 have w8:=v6.trans x8;have tA:=c1.len;have epl:(p.len:Int)=(q.params.length:Nat):=ab;refine⟨st,(B.ext x8).bH 1,?_⟩;rw[epl];refine(Be q.body (st.ao::m3.size::a1.size::S) m8 (λc hc=>?_) d r b q.params.length (hn.le w8.le) (c3.le w8.le) lP ab ab).ay (af.av m8) mG λss b' M1 sk jx x1 _=>⟨_,_,rfl,?_⟩
 ·simp only[aF0]at hc;rcases hc with e|e|e|e
  ·omega
  ·omega
  ·have:=kX c (by simp[e]);omega
  ·have:=kX c (by simp[e]);omega
 have C:∀o,ad M1 M.size o=ad m8 M.size o:=λo=>aA (x1.same _ ab) o;refine⟨C 0,C 1,C 2,C 3,C 4,aA (x1.same _ ab) _,?_⟩;have x:=x8.trans x1;have z1:=x1.size;exact uf (S:=a1.size::S) (dd:=dd) (l:=l) kX (λc hc=>by have h1:=mG c hc;have h2:=oC c;simp only[aF0]at hc h2;rcases hc with e|e|e|e<;>first|omega|(have:=h2 (by simp[e]);omega)|simp at e) (xM.trans x) (g.ext fg.mono x) (B.ext x) ab (c1.ext (v6.trans x)) (c2.ext (v6.trans x)) sk ⟨ab,ab⟩ ab λs' M' g' B' x'=>next s' M' _ g' B' x' ⟨Bn,tB,jx.1,by have:=jx.2;show b'.w<=_;omega⟩
theorem cD.le{m m':ah}(h:Le m m'){cs:List Ce}{x:Instr}:cD m cs x->cD m' cs x:=λ⟨a,j,h1,h2,h3⟩=>⟨a,j,h1,h2.le h,h3.le h⟩
theorem cD.mono:lV 6 cD:=⟨λh=>cD.le h,λh=>by obtain⟨_,_,rfl,_⟩:=h;rfl⟩
theorem dq.le{m m':ah}(hm:Le m m'){s:Sl}{l:List Instr}(h:dq m s l):dq m' s l:=cY.le h hm λ_ _=>cD.le hm
theorem jc.le{m m':ah}(h:Le m m'){cs:List Ce}{x:bY}:jc m cs x->jc m' cs x:=λ⟨a,l,c,h1,h2,h3,h4⟩=>⟨a,l,c,h1,h2.le h,h3.le h,dq.le h h4⟩
theorem jc.mono:lV 5 jc:=⟨λh=>jc.le h,λh=>by obtain⟨_,_,_,rfl,_⟩:=h;rfl⟩
theorem eV.le{m m':ah}(hm:Le m m'){s:Sl}{l:List bY}(h:eV m s l):eV m' s l:=cY.le h hm λ_ _=>jc.le hm
def inV(x:Instr)(a j:Sl):Value:=.agg #[vi x.op,vi x.dst,vi x.bh,vi x.bA,Sl.v a,Sl.v j]
theorem ur{S:List Nat}{m:ah}(hS:∀c∈S,c<m.size){a j:Sl}{x:Instr}(ha:aj m a x.args)(hj:aj m j x.cW)(hb:x.args.length<=1000000000000/\x.cW.length<=1000000000000):
 aD Tryz.prog 98 [inV x a j] m λv m'=>∃a' j',v=inV x a' j'/\aj (aY S m') a' x.args/\aj (aY S m') j' x.cW/\af m m':=by
 apply oR
 simp -zeta only[aw,ax]
 intro m1 m2
 obtain⟨x2,hl⟩:=cv (m1:=m1) (m2:=m2) rfl rfl
 have s1:m1.size=m.size+1:=by simp[m1]
 clear_value m2
 have lG:∀c∈m1.size::S,c<m2.size:=bd hS x2.size (hl _ az)
 have E:∀{M M':ah},af m2 M->af M M'->∀o,ad M' m.size o=ad M m.size o:=λh h' o=>aA (h'.same _ (h.lt (hl _ az))) o
 refine(ba (m1.size::S) (ha.ext x2) hb.1).ay (af.av m2) hl λa' _ m3 ga e x3 _=>⟨_,rfl,E (af.av _) x3 _,E (af.av _) x3 _,E (af.av _) x3 _,E (af.av _) x3 _,E (af.av _) x3 _,?_⟩
 subst e
 refine(ba (m1.size::S) (hj.ext (x2.trans x3)) hb.2).ay x3 hl λj' _ m4 gj e x4 u4=>⟨_,rfl,E x3 x4 _,E x3 x4 _,E x3 x4 _,E x3 x4 _,?_⟩
 subst e
 intro m5
 have hle:Le (aY (m1.size::S) m4) (aY S m5):=bt az λc hc=>aFT _ hc
 exact⟨a',j',rfl,((ga.done lG hb.1).le (x4.bO _)).le hle,(gj.done (λc hc=>x3.lt (lG c hc)) hb.2).le hle,(x2.trans u4).ag ab _ _⟩
theorem Mt{m:ah}{c:Sl}{l:List Instr}(hc:dq m c l)(least:Int):Et 91 [Sl.v c,vi least] m:=by
 apply DY;have pt:=hc.len;refine cN (n:=l.length) (pt▸hc.eP) (λ_ _ M=>af m M) (af.av _) ?_;rintro k v M I μ hk xM next
 refine⟨λh=>?_,λ_=>rN xM⟩;simp only[aFP]at h;obtain⟨x,hx⟩:=ae (l:=l) (k:=k) ab;obtain⟨a,j,ha,hj,e0,e1,e2,e3,e4,e5⟩:=(dq.ext xM hc).aE hx;have jK:=ha.len;refine⟨ab,ab,_,e1,?_⟩;refine cN (n:=x.args.length) (jK▸ha.eP) (λ_ _ M'=>af M M') (af.av _) ?_;rintro k2 v2 M2 I2 μ2 XO x2 eN;refine⟨ab,ab,_,x2.ad e4,λh2=>?_,λ_=>next ab _ _ (xM.trans x2)⟩;simp only[aFP]at h2;obtain⟨y,hy⟩:=ae (l:=x.args) (k:=k2) ab;exact⟨ab,ab,_,x2.ad e4,ab,ab,y,(ha.ext x2).aE hy,eN ab _ _ x2⟩
structure P9(k:Nat)(x:Instr):Prop where
 Mu:x.op=22->(k:Int)<x.bh
 arg:x.op=18\/x.op=23\/x.op=16\/x.op=17->0<x.args.length
def UT(l:List Instr):Prop:=∀(k:Nat)(x:Instr),l[k]? =some x->P9 k x
theorem G6{m:ah}{c:Sl}{l:List Instr}(hc:dq m c l)(lx:UT l){at0:Int}(h0:0<=at0)(Rz:Int):mC 131 [Sl.v c,vi at0,vi Rz] m:=by
 apply yu;simp -zeta only[aw,ax];have pt:=hc.len;have zG:=hc.eP;refine⟨λv _ M=>0<=v/\af m M,λv _ _=>((l.length:Int) -v).toNat,⟨h0,af.av _⟩,?_⟩;rintro v w M ⟨v0,xM⟩;refine⟨λh=>?_,λ_=>rA xM⟩;simp only[aFP]at h;obtain⟨x,hx⟩:=ae (l:=l) (k:=v.toNat) ab;obtain⟨a,j,ha,hj,e0,e1,e2,e3,e4,e5⟩:=(dq.ext xM hc).aE hx;have jK:=ha.len;have ho:=lx _ x hx;refine⟨v0,ab,_,e0,_,e1,_,e2,_,e3,_,e4,_,e5,?_⟩;intro m1 m2;have x2:af M m2:=(af.push M _).ag (aFR _) _ _;clear_value m2;have u:=xM.trans x2;have Mu:(x.op==22)=true->(0<=x.bh/\af m m2)/\((l.length:Int) -x.bh).toNat<((l.length:Int) -v).toNat:=λh=>by
  simp only[aFZ]at h;have:=ho.Mu h;exact⟨⟨ab,u⟩,ab⟩
 have ret:(x.op==23)=true->(0:Int)<=0/\(0:Int)<(a.len:Int)/\∃v43:Int,ad m2 a.ao (a.off+Int.toNat (0:Int)*1)=some (vi v43)/\∃b:Bool,vb (v43==w)=.bool b/\af m m2:=λh=>by
  simp only[aFZ]at h;have:=ho.arg ab;obtain⟨y,hy⟩:=ae (l:=x.args) (k:=0) ab;exact⟨aO,ab,y,(ha.ext x2).aE hy,rA u⟩
 refine⟨λVw=>?_,λ_=>⟨Mu,λ_=>⟨ret,λ_=>rA u⟩⟩⟩;simp only[aFZ]at Vw;have:=ho.arg ab;obtain⟨y,hy⟩:=ae (l:=x.args) (k:=0) ab;refine⟨aO,ab,y,(ha.ext x2).aE hy,λ_=>?_,λ_=>⟨Mu,λ_=>⟨ret,λ_=>rA u⟩⟩⟩;rw[aF (x:=v+1) ab ab];exact⟨⟨ab,u⟩,by show((l.length:Int) -(v+1)).toNat<((l.length:Int) -v).toNat;omega⟩
def Ky(l l':List Instr):Prop:=l'.length=l.length/\∀(k:Nat)(x':Instr),l'[k]? =some x'->∃x,l[k]? =some x/\(x'=x\/x'=⟨24,0,x.bh,0,x.args,x.cW⟩)
def RN(l:List Instr):Prop:=∀x∈l,x.args.length<=1000000000000/\x.cW.length<=1000000000000
abbrev GIn(S:List Nat)(m0 m:ah)(s:Sl)(l:List Instr):Prop:=Gr S m0 m cI 6 cD s l
theorem IU{S:List Nat}{m:ah}(hS:∀c∈S,c<m.size){c:Sl}{l:List Instr}(hc:dq m c l)(lx:UT l)(xp:RN l)(hb:l.length<=1000000000000):
 aD Tryz.prog 97 [Sl.v c] m λv m'=>∃s l',v=Sl.v s/\GIn S m m' s l'/\Ky l l'/\af m m':=by
 apply An
 simp -zeta only[aw,ax]
 intro m1
 have x1:af m m1:=af.push _ _
 have g0:GIn S m m1 (.mk m.size 0 0 0) []:=Gr.new S (aFR _) _ _ _
 clear_value m1
 have pt:=hc.len
 refine cN (n:=l.length) (pt▸hc.eP) (λk s M=>af m M/\∃l',GIn S m M s l'/\Ky (l.take k) l') ⟨x1,[],g0,by simp[Ky]⟩ ?_
 rintro k s M I μ hk ⟨xM,l',g,hlen,ht⟩ next
 refine⟨λh=>?_,λh=>?_⟩
 ·simp only[aFP]at h
  obtain⟨x,hx⟩:=ae (l:=l) (k:=k) ab
  obtain⟨a,j,ha,hj,e0,e1,e2,e3,e4,e5⟩:=(dq.ext xM hc).aE hx
  have hsx:=xp x (ak hx)
  have hy:=g.aN
  have zM:=xM.size
  have Pf:l'.length=k:=by rw[hlen];simp;omega
  have Sv:∀c∈s.ao::S,c<M.size:=λc hc=>by
   rcases List.mem_cons.1 hc with e|e
   ·omega
   ·have:=hS c e;omega
  refine⟨ab,ab,_,e0,_,e1,_,e2,_,e3,_,e4,_,e5,?_⟩
  refine(ur Sv ha hj hsx).mono λv m2⟨a',j',e,FH,NB,x2⟩=>⟨_,_,_,_,_,_,e,?_⟩
  intro m3 m4
  have x4:af m2 m4:=(af.push m2 _).ag (aFR _) _ _
  have s4:m4.size=m2.size+1:=by simp[m4,m3,aq]
  clear_value m4
  have X4:=x2.trans x4
  have add:∀{M':ah}{x':Instr},af m4 M'->aj (aY (s.ao::S) M') a' x'.args->aj (aY (s.ao::S) M') j' x'.cW->(x'=x\/x'=⟨24,0,x.bh,0,x.args,x.cW⟩)->
   gA (M'.push (.cells (aU [.i x'.op,.i x'.dst,.i x'.bh,.i x'.bA,.s a',.s j']) cI)) cI [.i 0,.i 0,.i 0,.i 0,.s .nil,.s .nil] 80 s (.mk M'.size 0 1 1) λr M3=>da [m2.size] (M'.push (.cells (aU [.i x'.op,.i x'.dst,.i x'.bh,.i x'.bA,.s a',.s j']) cI)) M3/\I r (bS ((k:Int)+1)) M3/\μ r (bS ((k:Int)+1)) M3<μ s k M:=λ{M' x'} xx h1 h2 h3=>by
   have z4:=X4.size
   have zx:=xx.size
   refine Gr.iN (zs:=[.i 0,.i 0,.i 0,.i 0,.s .nil,.s .nil]) (a:=x') cD.mono aO (g.ext cD.mono (X4.trans xx)) ((xM.trans (X4.trans xx)).fz []) ⟨a',j',rfl,h1,h2⟩ ab λr M3 g3 f3 z3 q3=>⟨λc hc=>?_,next ab _ _ ⟨f3.ext,_,g3,bg,λi y hi=>?_⟩⟩
   ·have zz:=x2.size
    simp at hc;subst hc
    rw[q3 _ ab ab,(af.push M' _).same _ ab]
   ·rcases aF1 i l'.length with iy|iy
    ·rw[aFV iy]at hi
     obtain⟨z,hz,hz2⟩:=ht i y hi
     rw[aGj ab]at hz⊢
     exact⟨z,hz,hz2⟩
    ·rw[aFX iy]at hi
     have:i -l'.length=0:=by have:=ap hi;simp at this;omega
     rw[this]at hi;simp at hi;subst hi
     have:i=k:=ab
     subst this
     exact⟨x,by rw[aGj ab];exact hx,h3⟩
  have z4:=X4.size
  refine⟨λh9=>?_,λ_=>?_⟩
  ·rw[aF (x:=(k:Int)+1) ab ab]
   refine(G6 (dq.ext (xM.trans X4) hc) lx ab x.dst).ay (af.av m4) bg λb m5 x5 _=>⟨_,rfl,λ_=>?_,λ_=>?_⟩
   ·intro m6
    have:=add (x':=⟨24,0,x.bh,0,x.args,x.cW⟩) x5 ((FH.le (x4.bO _)).le (x5.bO _)) ((NB.le (x4.bO _)).le (x5.bO _)) (Or.inr rfl)
    rw[aF (x:=(k:Int)+1) ab ab]at this
    exact this
   ·intro m6
    have:=add (x':=x) x5 ((FH.le (x4.bO _)).le (x5.bO _)) ((NB.le (x4.bO _)).le (x5.bO _)) (Or.inl rfl)
    rw[aF (x:=(k:Int)+1) ab ab]at this
    exact this
  ·intro m5
   exact add (x':=x) (af.av _) (FH.le (x4.bO _)) (NB.le (x4.bO _)) (Or.inl rfl)
 ·simp only[aFQ]at h
  rw[bL ab]at hlen ht
  exact⟨s,l',rfl,g,⟨hlen,ht⟩,xM⟩
structure W3(p:bY):Prop where
 params:p.params.length<=3
 bX:p.bX.length<=3
 eZ:0<p.bP.length
 lZ:p.bP.length<=1000000000000
 bP:UT p.bP
 fY:RN p.bP
structure Dc(ps:List bY):Prop where
 eZ:0<ps.length
 lZ:ps.length<=4
 cq:∀p∈ps,W3 p
def RO(f:Nat)(args:List Value)(m:ah)(S:List Nat)(ds:List aS)(Q:List bY->Prop):Prop:=aD Tryz.prog f args m λv m'=>∃d p ps,v=.agg #[Sl.v d,Sl.v p]/\br (aY S m') d ds/\eV (aY S m') p ps/\Q ps/\af m m'
theorem Ky.ok{l l':List Instr}(h:Ky l l')(hc:UT l)(hs:RN l):UT l'/\RN l':=by
 obtain⟨h1,h2⟩:=h;refine⟨λk x' ph=>?_,λx' ph=>?_⟩
 ·obtain⟨x,hx,rfl|rfl⟩:=h2 k x' ph
  ·exact hc k x' hx
  ·exact⟨λh=>by simp at h,λh=>by simp at h⟩
 ·obtain⟨k,hk⟩:=List.mem_iff_getElem?.1 ph;obtain⟨x,hx,rfl|rfl⟩:=h2 k x' hk
  ·exact hs x' (ak hx)
  ·exact hs x (ak hx)
theorem aan{ps ps':List bY}(h:Dc ps)(hl:ps'.length=ps.length)(he:∀(i:Nat)(q:bY),ps'[i]? =some q->W3 q):Dc ps':=
 ⟨by have:=h.eZ;omega,by have:=h.lZ;omega,λq hq=>by obtain⟨i,hi⟩:=List.mem_iff_getElem?.1 hq;exact he i q hi⟩
theorem G8{S:List Nat}{m:ah}(hS:∀c∈S,c<m.size){d p:Sl}{ds:List aS}{ps:List bY}(hd:br m d ds)(ht:cE ds)(hp:eV m p ps)(lx:Dc ps):RO 63 [.agg #[Sl.v d,Sl.v p]] m S ds Dc:=by
 apply yd;simp -zeta only[aw,ax];intro a1 a2;obtain⟨x2,hl⟩:=cv (m1:=a1) (m2:=a2) rfl rfl;have s1:a1.size=m.size+1:=by simp[a1]
 clear_value a2;have tA:=hp.len;have Pe:=lx.lZ;refine(dI (S:=a1.size::S) (bd hS x2.size (hl _ az)) (hd.le x2.le) ht).mono λ_ m2⟨dd,e,Hy,x3⟩=>?_;subst e;refine⟨x3.cg hl,_,rfl,?_⟩;intro m3 m4 m5;have u2:=x2.trans x3;obtain⟨x5,B0,g0,s3,s5⟩:=iR (S:=m3.size::a1.size::S) jc.mono (m2:=m2) (m3:=m3) (m4:=m4) (m5:=m5) rfl rfl rfl;clear_value m5;have oC:∀c∈[a1.size,m.size],c<m2.size:=λc hc=>x3.lt (hl c hc);have kX:∀c∈a1.size::S,c<m2.size:=λc hc=>x3.lt (bd hS x2.size (hl _ az) c hc);refine iI (R:=λv0 v1 M=>∃d p ps',Value.agg #[Sl.v v0,Sl.v v1]=.agg #[Sl.v d,Sl.v p]/\br (aY S M) d ds/\eV (aY S M) p ps'/\Dc ps'/\af m M) (n:=ps.length) (m:=m) (S:=S) jc.mono aO aO hS ⟨ab,oC _ az⟩ u2 s3 Hy tA ab x5 B0 g0 (λ_ q=>W3 q) (λd' r' l m' h1 h2 h3 h4 h5=>⟨d',r',l,rfl,h1,h2,aan lx h3 h4,h5⟩) λk M st l I μ Bj hlen xM g B next=>?_
 obtain⟨q,hq⟩:=ae (l:=ps) (k:=k) Bj;have Uk:=lx.cq q (ak hq);have q3:=Uk.params;have q4:=Uk.bX;have qf:=Uk.lZ;have qs:=Uk.eZ;have v6:=u2.trans xM;obtain⟨a,b,c,c1,c2,c3,e0,e1,e2,e3,e4⟩:=hp.aE hq;have G:∀{v:Value}{b o:Nat},ad m b o=some v->ad M b o=some v:=λh=>v6.ad h;refine⟨ab,ab,_,G e0,_,G e1,_,G e2,_,G e3,_,G e4,?_⟩;intro m7 m8;have hy:=g.aN;have MJ:=B.lt;have zM:=xM.size;have x8:af M m8:=(af.push M _).ag (aFR _) _ _;have s8:m8.size=M.size+1:=by simp[m8,m7,aq]
 clear_value m8;have mG:∀c∈[M.size,a1.size,m.size],c<m8.size:=λc hc=>by
  rcases List.mem_cons.1 hc with e|e
  ·omega
  ·have:=oC c e;omega
 have w8:=v6.trans x8;have OZ:∀{M':ah},m8.size<=M'.size->∀c∈st.ao::m3.size::a1.size::S,c<M'.size:=λh c hc=>by
  simp only[aF0]at hc;rcases hc with e|e|e|e
  ·omega
  ·omega
  ·have:=kX c (by simp[e]);omega
  ·have:=kX c (by simp[e]);omega
 have E:∀{M1 M2:ah},af m8 M1->af M1 M2->∀b,b<m8.size->∀o,ad M2 b o=ad M1 b o:=λh h' b hb o=>aA (h'.same b (h.lt hb)) o;have i0:M.size<m8.size:=ab;have i2:m3.size<m8.size:=ab;refine⟨st,(B.ext x8).bH 1,?_⟩;refine(ba (st.ao::m3.size::a1.size::S) (c1.ext w8) ab).ay (af.av m8) mG λa' _ m9 ga e x9 _=>⟨_,rfl,E (af.av _) x9 _ i0 _,E (af.av _) x9 _ i0 _,E (af.av _) x9 _ i0 _,E (af.av _) x9 _ i0 _,E (af.av _) x9 _ i2 _,?_⟩;subst e;refine(ba (st.ao::m3.size::a1.size::S) (c2.ext (w8.trans x9)) ab).ay x9 mG λb' _ cK gb e cO xu=>⟨_,rfl,E x9 cO _ i0 _,E x9 cO _ i0 _,E x9 cO _ i0 _,E x9 cO _ i2 _,?_⟩;subst e;have z9:=x9.size;have wh:=cO.size;have Vs:=w8.trans xu;refine(IU (S:=st.ao::m3.size::a1.size::S) (OZ ab) (dq.ext Vs c3) Uk.bP Uk.fY qf).mono λv dm⟨c',l',e,gc,MK,eB⟩=>⟨λc hc=>eB.same c (xu.lt (mG c hc)),c',e,E xu eB _ i0 _,E xu eB _ i0 _,E xu eB _ i2 _,?_⟩;intro df;have Pg:=xu.trans eB;have x:=x8.trans Pg;have xw:=eB.size;obtain⟨ok1,ok2⟩:=MK.ok Uk.bP Uk.fY;have ly:=MK.1;have FH:aj (aY (st.ao::m3.size::a1.size::S) dm) a' q.params:=(ga.done (OZ ab) ab).le ((cO.trans eB).bO _);have jx:aj (aY (st.ao::m3.size::a1.size::S) dm) b' q.bX:=(gb.done (OZ ab) ab).le (eB.bO _);have uI:dq (aY (st.ao::m3.size::a1.size::S) dm) c' l':=gc.done cD.mono (OZ ab) aO ab;exact Gr.box (zs:=[.s .nil,.s .nil,.i 0,.i 0,.s .nil]) (i:=1) (bytes:=88) (bc:=[.s dd,.s st]) (a:=⟨q.params,q.bX,q.aH,q.an,l'⟩) jc.mono aO (g.ext jc.mono x) ((xM.trans x).fz []) ⟨a',b',c',rfl,FH,jx,uI⟩ ab (B.ext x) az aO ⟨ab,az⟩ (λc hc=>by have h1:=mG c hc;have h2:=oC c;simp only[aF0]at hc h2;rcases hc with e|e|e|e<;>first|omega|(have:=h2 (by simp[e]);omega)|simp at e) λr' m' g' B' f' z' q'=>next r' m' _ g' B' f'.ext ⟨q3,q4,by show 0<l'.length;omega,by show l'.length<=_;omega,ok1,ok2⟩
structure DC(S:List Nat)(m0 m:ah)(eb:Nat)(s:Sl)(l:List Instr):Prop where
 box:bK m eb lI [.s s]
 gr:GIn (eb::S) m0 m s l
 up:m0.size<=eb
theorem DC.ext{S:List Nat}{m0 m m':ah}{eb:Nat}{s:Sl}{l:List Instr}(h:DC S m0 m eb s l)(x:af m m'):DC S m0 m' eb s l:=⟨h.box.ext x,h.gr.ext cD.mono x,h.up⟩
theorem DC.ne{S:List Nat}{m0 m:ah}{eb:Nat}{s:Sl}{l:List Instr}(h:DC S m0 m eb s l):s.ao≠eb:=h.gr.ne h.box aO
def Qa(S:List Nat)(m0 m:ah)(eb:Nat)(s:Sl)(P:List Instr->Prop)(m':ah):Prop:=∃s' l',DC S m0 m' eb s' l'/\P l'/\Fz [eb,s.ao] m m'/\(s'.ao=s.ao\/m.size<=s'.ao)
theorem om{S:List Nat}{m0 m:ah}{eb:Nat}{s a j:Sl}{l:List Instr}{x:Instr}(h:DC S m0 m eb s l)(hm:m0.size<=m.size)(ha:aj (aY (s.ao::eb::S) m) a x.args)(hj:aj (aY (s.ao::eb::S) m) j x.cW)(hb:l.length<=1000000000000):
 aD Tryz.prog 90 [vp eb 0,inV x a j] m λv m'=>v=vi (l.length:Nat)/\Qa S m0 m eb s (l++[x]=·) m':=by
 apply uZ (eb,0)
 simp -zeta only[aw,ax]
 intro m1
 have x1:af m m1:=af.push _ _
 have s1:m1.size=m.size+1:=by simp[m1]
 clear_value m1
 have h1:=h.ext x1
 have hy:=h1.gr.aN
 have cx:=h1.ne
 have Ln:=h1.box.lt
 have arT:=h.box.lt
 have hy0:=h.gr.aN
 refine⟨s,h1.box.bH 0,?_⟩
 intro m2
 have x2:af m1 m2:=af.push _ _
 refine⟨aA (x2.same _ Ln) _,?_⟩
 have aAl:(m.extract 0 m0.size).size=m0.size:=jz hm
 have g1:GIn (eb::S) (m.extract 0 m0.size) m1 s l:=Gr.bN cD.mono h1.gr (λb hb=>Or.inl hb) ab
 refine Gr.iN (zs:=[.i 0,.i 0,.i 0,.i 0,.s .nil,.s .nil]) (a:=x) cD.mono aO g1 ((((af.Pb hm).trans x1).fz [])) ⟨a,j,rfl,ha.le (x1.bO _),hj.le (x1.bO _)⟩ ab λr m3 g f z q=>?_
 have q3:∀c,c<m1.size->c≠s.ao->m3[c]? =m1[c]? :=q
 have hB3:bK m3 eb lI [.s s]:=h1.box.congr (q eb Ln (aHh cx))
 have QD:=g.ne hB3 aO
 refine⟨λc hc=>?_,hB3.dW az,?_⟩
 ·simp at hc;subst hc
  rw[q m.size ab ab,x2.same _ ab]
 intro m4
 have hB4:bK m4 eb lI [.s r]:=bK.ag (m:=m3) (o:=0) (r:=[.s r]) hB3
 have e4:∀c,c≠eb->m4[c]? =m3[c]? :=λc hc=>aP _ _ _ _ hc
 have s4:m4.size=m3.size:=aq _ _ _ _
 refine⟨λc hc=>e4 c (by simp at hc;omega),r,hB4.bH 0,?_⟩
 have g4:GIn (eb::S) m0 m4 r (l++[x]):=by
  refine Gr.bN cD.mono (g.re cD.mono (Y:=[eb]) ⟨ab,λc hc hn=>e4 c (by simpa using hn)⟩ az (by simp;exact QD) λc hc=>Or.inl hc) (λb hb=>Or.inl hb) ab
 have xr:=g4.len aO
 have hlr:r.len=l.length+1:=by rw[xr];simp
 refine⟨?_,r,_,⟨hB4,g4,h.up⟩,rfl,⟨ab,λc hc hn=>?_⟩,by have:=z.2;omega⟩
 ·rw[hlr,aF ab ab];congr 1;omega
 ·simp only[aF0,aGY,aHP,aHO]at hn
  rw[e4 c hn.1,q c ab hn.2,x1.same c hc]
theorem RP{S:List Nat}{m0 m:ah}{eb k:Nat}{s:Sl}{l:List Instr}{x:Instr}(h:DC S m0 m eb s l)(hm:m0.size<=m.size)(hk:l[k]? =some x):
 aD Tryz.prog 154 [vp eb 0,vi k] m λ_ m'=>Qa S m0 m eb s (l.set k ⟨x.op,0,l.length,0,x.args,x.cW⟩=·) m':=by
 apply vh (eb,0)
 simp -zeta only[aw,ax]
 have jk:=ap hk
 have kQ:=h.gr.len aO
 obtain⟨cs,⟨a,j,rfl,ha,hj⟩,ji⟩:=h.gr.cells hk
 have e0:=ji 0 _ rfl;have e1:=ji 1 _ rfl;have e2:=ji 2 _ rfl;have e3:=ji 3 _ rfl;have e4:=ji 4 _ rfl;have e5:=ji 5 _ rfl
 refine⟨s,h.box.bH 0,ab,ab,_,e0,_,e1,_,e2,_,e3,_,e4,_,e5,?_⟩
 intro m1 m2
 have x2:af m m2:=(af.push m _).ag (aFR _) _ _
 have s2:m2.size=m.size+1:=by simp[m2,m1,aq]
 clear_value m2
 have h2:=h.ext x2
 have cx:=h2.ne
 have hy:=h.gr.aN
 have hz:=x2.size
 refine⟨s,h2.box.bH 0,s,h2.box.bH 0,ab,ab,?_⟩
 have g1:GIn (eb::S) (m.extract 0 m0.size) m2 s l:=Gr.bN cD.mono h2.gr (λb hb=>Or.inl hb) (by rw[jz hm];exact aFR _)
 rw[kQ]
 obtain⟨wr,g3,f3,q3⟩:=Gr.set (k:=k) (cs:=[.i x.op,.i 0,.i l.length,.i 0,.s a,.s j]) (a:=⟨x.op,0,l.length,0,x.args,x.cW⟩) cD.mono g1 (((af.Pb hm).trans x2).fz []) jk ⟨a,j,rfl,ha.le (x2.bO _),hj.le (x2.bO _)⟩
 refine⟨wr,?_⟩
 intro m3
 have s3:m3.size=m2.size:=aq _ _ _ _
 refine⟨λc hc=>q3 c (by simp at hc;omega),s,_,⟨h2.box.congr (q3 eb (aHh cx)),Gr.bN cD.mono g3 (λb hb=>Or.inl hb) (by rw[jz hm];exact aFR _),h.up⟩,rfl,⟨ab,λc hc hn=>?_⟩,Or.inl rfl⟩
 simp only[aF0,aGY,aHP,aHO]at hn
 have q4:m3[c]? =m2[c]? :=q3 c hn.2
 rw[q4,x2.same c hc]
section
def kC(l l':List Instr)(n:Nat):Prop:=∃nw,l'=l++nw/\(∀(i:Nat)(x:Instr),nw[i]? =some x->P9 (l.length+i) x)/\RN nw/\nw.length<=n
theorem kC.av(l:List Instr):kC l l 0:=⟨[],az,az,λ_ h=>by simp at h,aFR _⟩
theorem kC.eE{l l':List Instr}{n n':Nat}(h:kC l l' n)(hn:n<=n'):kC l l' n':=let⟨nw,a,b,c,d⟩:=h;⟨nw,a,b,c,ab⟩
theorem kC.len{l l':List Instr}{n:Nat}(h:kC l l' n):l'.length<=l.length+n:=by obtain⟨nw,rfl,_,_,d⟩:=h;simp;omega
theorem kC.trans{l l' VE:List Instr}{n n':Nat}(h:kC l l' n)(h':kC l' VE n'):kC l VE (n+n'):=by
 obtain⟨nw,rfl,b,c,d⟩:=h;obtain⟨nw',rfl,b',c',d'⟩:=h';refine⟨nw++nw',az,λi x hi=>?_,λx hx=>?_,bg⟩
 ·rcases aF1 i nw.length with iy|iy
  ·rw[aFV iy]at hi;exact b i x hi
  ·rw[aFX iy]at hi;have:=b' _ x hi;have e:(l++nw).length+(i -nw.length)=l.length+i:=bg;rw[e]at this;exact this
 ·rcases List.mem_append.1 hx with h|h
  ·exact c x h
  ·exact c' x h
theorem kC.jm{l:List Instr}{x:Instr}(h:P9 l.length x)(hs:x.args.length<=1000000000000/\x.cW.length<=1000000000000):kC l (l++[x]) 1:=
 ⟨[x],rfl,λi y hi=>by
  have:i=0:=by have:=ap hi;simp at this;omega
  subst this;simp at hi;subst hi;exact h,λy hy=>by simp at hy;subst hy;exact hs,az⟩
section
variable{S:List Nat}{mb m m':ah}{eb:Nat}{s s':Sl}{l l':List Instr}
theorem DC.dX(h:DC S mb m eb s l)(hx:af mb m)(hf:Fz [eb,s.ao] m m'):af mb m':=by
 have hy:=h.gr.aN;have hu:=h.up;exact Fz.ext (((hx.fz [eb,s.ao]).trans hf).By λb hb=>Or.inr (by simp at hb;omega))
theorem RQ(hf:Fz [eb,s.ao] m m')(hb:s'.ao=s.ao\/m.size<=s'.ao):Le (aY [s.ao,eb] m) (aY [s'.ao,eb] m'):=mW λb jx hn=>by
 simp at hn;refine⟨by simp;rcases hb with e|e<;>omega,hf.same b jx bg⟩
theorem Qa.cg{L:List Nat}(hf:Fz [eb,s.ao] m m')(hL:∀b∈L,b<m.size/\b≠eb/\b≠s.ao):da L m m':=λb hb=>hf.same b (hL b hb).1 (by have:=hL b hb;simp;omega)
end
structure UU(S:List Nat)(mb m:ah)(eb:Nat)(s:Sl)(l:List Instr)(cons first:Sl)(cl fl:List Int):Prop where
 em:DC S mb m eb s l
 x:af mb m
 dX:∀c∈S,c<m.size
 cons:aj (aY [s.ao,eb] m) cons cl
 first:aj (aY [s.ao,eb] m) first fl
 same:fl.length=cl.length
 fY:∀y∈fl,0<=y/\y<=900000000000
theorem UU.ext{S:List Nat}{mb m m':ah}{eb:Nat}{s:Sl}{l:List Instr}{cons first:Sl}{cl fl:List Int}(h:UU S mb m eb s l cons first cl fl)(x:af m m'):UU S mb m' eb s l cons first cl fl:=
 ⟨h.em.ext x,h.x.trans x,λc hc=>x.lt (h.dX c hc),h.cons.le (x.bO _),h.first.le (x.bO _),h.same,h.fY⟩
theorem UU.next{S:List Nat}{mb m m':ah}{eb:Nat}{s s':Sl}{l l':List Instr}{cons first:Sl}{cl fl:List Int}(h:UU S mb m eb s l cons first cl fl)(h':DC S mb m' eb s' l')(hf:Fz [eb,s.ao] m m')(hb:s'.ao=s.ao\/m.size<=s'.ao):UU S mb m' eb s' l' cons first cl fl:=
 ⟨h',h.em.dX h.x hf,λc hc=>aFY (h.dX c hc) hf.size,h.cons.le (RQ hf hb),h.first.le (RQ hf hb),h.same,h.fY⟩
def ajx(ds:List aS)(rs:List di)(x:bu):Prop:=∀(S:List Nat)(mb m:ah)(eb:Nat)(s:Sl)(l:List Instr)(cons first:Sl)(cl fl:List Int)(d r a k:Sl),UU S mb m eb s l cons first cl fl->WS ds rs.length True cl.length x->cl.length+4*x.w<=900000000000->l.length+6*x.w<=1000000000000->cR mb d r ds rs->aj mb a x.args->lA mb k x.aW->
 aD Tryz.prog 115 [vp eb 0,.agg #[Sl.v d,Sl.v r],mJ x a k,Sl.v cons,Sl.v first] m λ_ m'=>Qa S mb m eb s (λl'=>kC l l' (6*x.w)) m'
def afi(ds:List aS)(rs:List di)(b:Bk):Prop:=∀(S:List Nat)(mb m:ah)(eb:Nat)(s:Sl)(l:List Instr)(cons first:Sl)(cl fl:List Int)(d r t:Sl),UU S mb m eb s l cons first cl fl->WB ds rs.length True cl.length b->cl.length+4*b.w<=900000000000->l.length+6*b.w<=1000000000000->cR mb d r ds rs->cU mb t b.ar->
 aD Tryz.prog 89 [vp eb 0,.agg #[Sl.v d,Sl.v r],.agg #[Sl.v t,vi b.aH],Sl.v cons,Sl.v first] m λ_ m'=>Qa S mb m eb s (λl'=>kC l l' (6*(b.w -1))) m'
end
theorem rp(m:ah):aj m .nil []:=⟨rfl,aFR _,az,az⟩
theorem Kz{ds:List aS}{rs:List di}{ar:List bu}{kV:Int}(hc:∀x∈ar,x.op=7\/x.op=8->ajx ds rs x):afi ds rs (.mk ar kV):=by
 intro S mb m eb s l cons first cl fl d r t E0 lP hba Ln hn hs
 have VU:=lP.aT;rw[Bk.nV]at*;simp only[Bk.gH,Bk.fH]at*;apply tg (eb,0);simp -zeta only[aw,ax];intro m1 m2;obtain⟨x2,hl⟩:=cv (m1:=m1) (m2:=m2) rfl rfl;have s1:m1.size=m.size+1:=by simp[m1]
 have s2:m2.size=m.size+2:=by simp[m2,s1]
 clear_value m2;have kQ:=hs.len;have Jj:=yP ar;have QF:=dN ar;have arU:=E0.em.box.lt;have hy0:=E0.em.gr.aN;have hmb:=E0.x.size;refine vw (n:=ar.length) (kQ▸hs.eP) (λk cons first M=>∃s' l' cl' fl',UU S mb M eb s' l' cons first cl' fl'/\cl'.length=cl.length+dc (ar.take k)/\kC l l' (6*sw (ar.take k))/\Fz [eb,s.ao] m M/\(s'.ao=s.ao\/m2.size<=s'.ao)/\m2.size<=M.size) ⟨s,l,cl,fl,E0.ext x2,az,(kC.av l).eE (aGq _),x2.fz _,Or.inl rfl,aFR _⟩ ?_;rintro k cons first M I μ hk ⟨s',l',cl',fl',E,pt,ZW,fz,hsb,hM⟩ next
 have ly:=ZW.len;have afT:=Jj k;have hy:=E.em.gr.aN;refine⟨λh=>?_,λh=>?_⟩
 ·simp only[aFP]at h;obtain⟨x,hx⟩:=ae (l:=ar) (k:=k) ab;obtain⟨pa,pk,ha,oO,e0,e1,e2,e3,e4⟩:=hs.aE hx;have hxt:=nh hx;have hxd:=oG hx;have Ua:=bu.jD x;have alr:=Jj (k+1);have kU:=qQ (ar.take k);have hsk:=dN (ar.take k);have oA:=VU.1 k x hx;rw[<-pt]at oA;have X:=E.x;refine⟨ab,ab,_,X.ad e0,_,X.ad e1,_,X.ad e2,_,X.ad e3,_,X.ad e4,?_⟩;intro m3 m4;have x4:af M m4:=(af.push M _).ag (aFR _) _ _;have s4:m4.size=M.size+1:=by simp[m4,m3,aq]
  clear_value m4;have E4:=E.ext x4;have hL:∀{M':ah},m4.size<=M'.size->∀b∈[M.size,m1.size,m.size],b<M'.size/\b≠eb/\b≠s'.ao:=λhz b hb=>by simp at hb;omega
  have kS:∀{M1 M2:ah},m4.size<=M1.size->af M1 M2->da [M.size,m1.size,m.size] M1 M2:=λhz xx b hb=>xx.same b (hL hz b hb).1;have C:∀{M1 M2:ah},m4.size<=M1.size->af M1 M2->∀o,ad M2 M.size o=ad M1 M.size o:=λhz xx o=>aA (xx.same _ ab) o;have hSe:∀{M':ah},m4.size<=M'.size->∀c∈s'.ao::eb::S,c<M'.size:=λhz c hc=>by
   simp only[aF0]at hc;rcases hc with e|e|e
   ·omega
   ·omega
   ·have:=E.dX c e;have:=X.size;omega
  refine⟨λM5=>∃s5 l5,UU S mb M5 eb s5 l5 cons first cl' fl'/\kC l' l5 (6*x.w)/\Fz [eb,s'.ao] m4 M5/\(s5.ao=s'.ao\/m4.size<=s5.ao),⟨λh7=>?_,λn7=>⟨λxh=>?_,λn14=>⟨λFI=>?_,λn16=>?_⟩⟩⟩,?_⟩
  ·simp only[aGe,aFZ]at h7;refine(hc x (ak hx) h7 S mb m4 eb s' l' cons first cl' fl' d r pa pk E4 oA ab ab hn ha oO).mono λv m5⟨s5,l5,em5,p5,f5,b5⟩=>⟨Qa.cg f5 (hL (aFR _)),s5,l5,E4.next em5 f5 b5,p5,f5,b5⟩
  ·simp only[aGe,aFZ]at xh;refine(ba (s'.ao::eb::S) (ha.ext E4.x) ab).mono λv m5⟨a',la,e,ga,ea,x5⟩=>⟨kS (aFR _) x5,a',e,C (aFR _) x5 _,?_⟩;subst ea;have E5:=E4.ext x5;have z5:=x5.size;refine(om (x:=⟨x.op,0,0,0,x.args,[]⟩) E5.em E5.x.size (GI.done ga (hSe (aFR _)) (by show x.args.length<=_;omega)) (rp _) ab).mono λv m6⟨ev,s6,l6,em6,p6,f6,b6⟩=>⟨Qa.cg f6 (hL z5),_,ev,s6,l6,E5.next em6 f6 b6,?_,(x5.fz _).trans f6,ab⟩;subst p6;exact(kC.jm ⟨λh=>by simp only at h;omega,λh=>by simp only at h;omega⟩ ⟨by show x.args.length<=_;omega,az⟩).eE ab
  ·simp only[aGe,aFZ]at FI;have h1a:=oA.db.jm ab;obtain⟨y,lj⟩:=ae (l:=x.args) (k:=0) ab;obtain⟨y0,y1⟩:=oA.db.args y (ak lj);have jK:=ha.len;have c4:=(E4.cons.le (aV _ _));have f4:=(E4.first.le (aV _ _));have c4l:=c4.len;have f4l:=f4.len;have NK:=E4.same;obtain⟨cn,VB⟩:=ae (l:=cl') (k:=y.toNat) ab;obtain⟨fn,hfn⟩:=ae (l:=fl') (k:=y.toNat) ab;obtain⟨fn0,fn1⟩:=E4.fY fn (ak hfn);have F4:=f4.aE hfn;refine⟨aO,ab,y,(ha.ext E4.x).aE lj,y0,ab,cn,c4.aE VB,y0,ab,fn,F4,?_⟩;refine(cw (S:=[]) az (hn.aI.le (E4.x.le.trans (yS _))) hn.types cn).mono λv m5⟨s79,l79,e,h79,e79,x5⟩=>⟨kS (aFR _) x5,s79,e,by rw[x5.ad F4,F4],C (aFR _) x5 _,C (aFR _) x5 _,?_⟩;subst e79;have z5:=x5.size;have F3:=Es hn.types cn;obtain⟨fk,hfk⟩:∃fk:Nat,fn=fk:=⟨fn.toNat,ab⟩;subst hfk;refine(pE (S:=[]) az h79 fk ab).mono λv m6⟨s84,l84,e,g84,q84,x6⟩=>⟨kS z5 x6,s84,e,C z5 x6 _,C z5 x6 _,?_⟩;have z6:=x6.size;refine(cS (S:=[]) az ((ha.ext (E4.x.trans (x5.trans x6))).le (yS _)) (g84.done rP.mono az aO (by have:=q84.2;omega)) (by have:=q84.2;omega)).mono λv m7⟨s85,l85,e,g85,q85,x7⟩=>⟨kS ab x7,s85,e,C ab x7 _,?_⟩;have X7:=(x5.trans x6).trans x7;have E7:=E4.ext X7;have z7:=x7.size;have arV:GI (s'.ao::eb::S) m6 m7 s85 l85:=GI.any g85;have aAt:l85.length<=x.args.length+3:=by rw[<-q85];simp;have:=q84.2;omega
   have arW:0<l85.length:=by rw[<-q85];simp;omega
   refine(om (x:=⟨x.op,0,0,0,l85,[]⟩) E7.em E7.x.size (arV.done (hSe ab) ab) (rp _) ab).mono λv m8⟨ev,s8,l8,em8,p8,f8,b8⟩=>⟨Qa.cg f8 (hL ab),_,ev,s8,l8,E7.next em8 f8 b8,?_,(X7.fz _).trans f8,ab⟩;subst p8;exact(kC.jm ⟨λh=>by simp only at h;omega,λ_=>arW⟩ ⟨by show l85.length<=_;omega,az⟩).eE ab
  ·refine(ba (s'.ao::eb::S) (ha.ext E4.x) ab).mono λv m5⟨a',la,e,ga,ea,x5⟩=>⟨kS (aFR _) x5,a',e,C (aFR _) x5 _,C (aFR _) x5 _,C (aFR _) x5 _,?_⟩;subst ea;simp only[aF9,aFU]at n14 n16;have E5:=E4.ext x5;have z5:=x5.size;have pu:x.op<=11:=by
    rcases oA.db.op with h|h
    ·exact h.2
    ·omega
   refine(om (x:=⟨x.op,(cons.len:Int),x.bh,x.bA,x.args,[]⟩) E5.em E5.x.size (GI.done ga (hSe (aFR _)) (by show x.args.length<=_;omega)) (rp _) ab).mono λv m6⟨ev,s6,l6,em6,p6,f6,b6⟩=>⟨Qa.cg f6 (hL z5),_,ev,s6,l6,E5.next em6 f6 b6,?_,(x5.fz _).trans f6,ab⟩;subst p6;exact(kC.jm ⟨λh=>by simp only at h;omega,λh=>by simp only at h;omega⟩ ⟨by show x.args.length<=_;omega,az⟩).eE ab
  ·rintro M5 ⟨s5,l5,E5,p5,f5,b5⟩;have z5:=f5.size;have em5:kC l l5 (6*sw (ar.take (k+1))):=(ZW.trans p5).eE ab;have fz5:Fz [eb,s.ao] m M5:=(fz.then x4).pA f5 λy hy=>by
    simp only[aF0,aGY,aHP]at hy⊢;rcases hy with e|e
    ·exact Or.inl (Or.inl e)
    ·rcases hsb with e'|e'
     ·exact Or.inl (Or.inr ab)
     ·exact Or.inr ab
   have BR:s5.ao=s.ao\/m2.size<=s5.ao:=ab;have hy5:=E5.em.gr.aN;have hL5:∀b∈[M.size,m1.size,m.size],b<M5.size:=λb hb=>aFY (hL (aFR _) b hb).1 z5;have Vo:=λb hb=>qS x b hb;refine(gD x.op M5).mono λv m6⟨b,e,hb,x6⟩=>⟨λc hc=>x6.same c (hL5 c hc),b,e,λht=>?_,λhf=>?_⟩
   ·have hd:=Vo b hb;rw[aFW ht]at hd;intro m7;have x7:af m6 m7:=af.push _ _;have aAu:=E5.em.box.lt;have z6:=x6.size;have SK:∀c∈[s5.ao,eb],c<m6.size:=λc hc=>by simp at hc;omega
    have agH:aj (aY [s5.ao,eb] m7) (.mk m6.size 0 1 1) [0]:=aj.lit au [0] SK rfl rfl az;have X7:=x6.trans x7;have E7:=E5.ext X7;have c7l:=E7.cons.len;refine(cS (S:=[s5.ao,eb]) (λc hc=>x7.lt (SK c hc)) E7.cons agH bg).mono λv m8⟨s93,l93,e,g93,q93,x8⟩=>⟨λc hc=>x8.same c (x7.lt (x6.lt (hL5 c hc))),s93,e,?_⟩;intro m9;have x9:af m8 m9:=af.push _ _;have z7:=x7.size;have z8:=x8.size;have hS8:∀c∈[s5.ao,eb],c<m8.size:=λc hc=>by have:=SK c hc;omega
    have ar0:aj (aY [s5.ao,eb] m9) (.mk m8.size 0 1 1) [0]:=aj.lit au [0] hS8 rfl rfl az;have E9:=E7.ext (x8.trans x9);have NK:=E9.same;refine(cS (S:=[s5.ao,eb]) (λc hc=>x9.lt (hS8 c hc)) E9.first ar0 bg).mono λv cK⟨s96,l96,e,g96,q96,cO⟩=>⟨λc hc=>cO.same c (x9.lt (x8.lt (x7.lt (x6.lt (hL5 c hc))))),s96,e,?_⟩;have E10:=E9.ext cO;have h93:aj (aY [s5.ao,eb] cK) s93 l93:=(GI.done g93 (λc hc=>x7.lt (SK c hc)) (by rw[<-q93];simp;omega)).le ((x9.trans cO).bO _);have h96:aj (aY [s5.ao,eb] cK) s96 l96:=GI.done g96 (λc hc=>x9.lt (hS8 c hc)) (by rw[<-q96];simp;omega);refine next ab _ _ _ ⟨s5,l5,l93,l96,⟨E10.em,E10.x,E10.dX,h93,h96,by rw[<-q93,<-q96];simp;omega,λy hy=>?_⟩,by rw[<-q93];simp;omega,em5,fz5.then (((X7.trans x8).trans x9).trans cO),BR,?_⟩
    ·rw[<-q96]at hy;rcases List.mem_append.1 hy with hy|hy
     ·exact E5.fY y hy
     ·simp at hy;omega
    ·have:=x9.size;have:=cO.size;omega
   ·have hd:=Vo b hb;rw[aFS (by simp[hf])]at hd;exact next ab _ _ _ ⟨s5,l5,cl',fl',E5.ext x6,ab,em5,fz5.then x6,BR,by have:=x6.size;omega⟩
 ·simp only[aFQ]at h;have jk:k=ar.length:=ab;subst jk;rw[aGG]at ZW;exact⟨s',l',E.em,ZW.eE ab,fz,ab⟩
def Qb(m:ah)(s:Sl):Prop:=s.len<=s.cap/\∀k:Nat,k<s.len->∃v:Int,0<=v/\v<=255/\ad m s.ao (s.off+k*1)=some (.int .u8 v)
theorem G9{m:ah}{bP:Sl}(h:Qb m bP):aD Tryz.prog 11 [Sl.v bP] m λv m'=>∃bs,v=vp m.size 0/\Rd m.size bs 0 m'/\af m m':=by
 obtain⟨hc,hb⟩:=h;apply xK;have R:∀bs:Sl,Qb m bs->∃bs',vp m.size 0=vp m.size 0/\Rd m.size bs' 0 (m.push (.cells (aU [.s bs,.i 0]) mZ))/\af m (m.push (.cells (aU [.s bs,.i 0]) mZ)):=λbs⟨h1,h2⟩=>by
  refine⟨bs,rfl,⟨⟨0,bK.push _ _ _,aGw _,az⟩,h1,λk hk=>?_⟩,af.push _ _⟩;obtain⟨v,v0,v1,hv⟩:=h2 k hk;have cA:=tH hv;exact⟨v,v0,v1,cT.2 ⟨bg,(af.push m _).ad hv⟩⟩
 refine⟨λh=>?_,λ_=>R bP ⟨hc,hb⟩⟩;simp only[aFP]at h;refine⟨aO,aO,ab,?_⟩;refine R _ ?_;cases bP with
 |nil=>simp at h
 |BV b o sp=>simp at h
 |mk b o l c=>
  simp only[Sl.eO,Sl.NU]at h hc;refine⟨by simp[Sl.cut];omega,λk hk=>?_⟩;have sa:k<2000:=by simpa[Sl.cut]using hk
  obtain⟨v,v0,v1,hv⟩:=hb k bg;exact⟨v,v0,v1,by simpa[Sl.cut]using hv⟩
def KA(f:Nat)(args:List Value)(m:ah)(S:List Nat)(Q:Ex->Prop):Prop:=aD Tryz.prog f args m λv m'=>∃s e,v=.agg #[vi e.op,vi e.bh,Sl.v s]/\dC (aY S m') s e.aW/\Q e/\af m m'
theorem zg(S:List Nat)(n:Int)(m:ah):KA 210 [vi n] m S (.mk 0 n []=·):=by
 apply Cu;simp -zeta only[aw,ax];intro m1 m2 m3;have x2:af m m2:=(af.push m _).trans (af.push m1 _);exact⟨_,.mk 0 n [],rfl,jM _ _ _ _ _ _,rfl,x2.ag (aFR _) _ _⟩
theorem jF(S:List Nat)(n:Int)(m:ah):KA 245 [vi n] m S (.mk 12 n []=·):=by
 apply AP;simp -zeta only[aw,ax];intro m1 m2 m3;have x2:af m m2:=(af.push m _).trans (af.push m1 _);exact⟨_,.mk 12 n [],rfl,jM _ _ _ _ _ _,rfl,x2.ag (aFR _) _ _⟩
theorem HW{S:List Nat}{m:ah}{s:Sl}{aW:List Ex}(h:dC (aY S m) s aW)(op bh:Int):KA 243 [vi op,vi bh,Sl.v s] m S (.mk op bh aW=·):=by
 apply IA;simp -zeta only[aw,ax];intro m1 m2;have x2:af m m2:=(af.push m _).ag (aFR _) _ _;exact⟨s,.mk op bh aW,rfl,h.le (x2.bO _),rfl,x2⟩
theorem zh{rb P:Nat}{bs:Sl}{m:ah}(h:Rd rb bs P m)(hP:P+4<=10000000000000000):aD Tryz.prog 262 [vp rb 0] m λv m'=>∃k:Int,v=vi k/\Rd rb bs (P+4) m'/\Fz [rb] m m':=by
 apply CF (rb,0);refine(bo h ab 6).mono λv m1⟨k1,e,_,_,h1,f1⟩=>⟨k1,e,?_⟩;refine(bo h1 ab 6).mono λv m2⟨k2,e,_,_,h2,f2⟩=>⟨k2,e,?_⟩;refine(bo h2 ab 40).mono λv m3⟨k3,e,_,_,h3,f3⟩=>⟨k3,e,?_⟩;intro m4;have x4:af m3 m4:=af.push _ _;have lit:aj (aY [rb] m4) (.mk m3.size 0 10 10) [k1,k2,0,1,2,-1,3,k3,999,-998]:=aj.lit au _ (by have:=h3.lt;simpa using this) rfl rfl az;refine(ij (h3.ext x4) ab lit az).mono λv m5⟨k,e,_,h5,f5⟩=>⟨k,e,k,rfl,h5,((f1.trans f2).trans f3).then x4|>.trans f5⟩
def ao8(e:Ex):Prop:=∀(m:ah)(t:Sl),dC m t e.aW->∀left:Int,left<=600->qM 247 [.agg #[vi e.op,vi e.bh,Sl.v t],vi left] m λk=>k= -1\/0<=k/\k+e.n=left
theorem Ha:∀e:Ex,ao8 e:=by
 refine Ex.ind ?_;intro op bh aW ih m t ht left hl;simp only[Ex.abO,Ex.Wt,Ex.S0,Ex.UM]at*;apply yK;simp -zeta only[aw,ax];intro m1;have x1:af m m1:=af.push _ _;have Hw:∀c∈[m.size],c<m1.size:=by simp[m1]
 clear_value m1;have no:∀{M:ah},af m M->∃k:Int,vi (-1:Int)=vi k/\(k= -1\/0<=k/\k+((1+en aW:Nat):Int)=left)/\af m M:=λx=>⟨-1,rfl,Or.inl rfl,x⟩;refine⟨λ_=>no x1,λh0=>?_⟩;simp only[aFQ]at h0;have MK:=ht.len;rw[aF (x:=left -1) ab ab];refine cN (n:=aW.length) (MK▸ht.eP) (λk(v:Int) M=>af m1 M/\0<=v/\v+1+en (aW.take k)=left) ⟨af.av _,ab,az⟩ ?_;rintro k v M I μ hk ⟨xM,v0,v1⟩ next
 have u:=x1.trans xM;refine⟨λh=>?_,λh=>?_⟩
 ·simp only[aFP]at h;obtain⟨e,he⟩:=ae (l:=aW) (k:=k) ab;obtain⟨t',ht',g0,g1,g2⟩:=ht.aE he;refine⟨ab,ab,_,u.ad g0,_,u.ad g1,_,u.ad g2,?_⟩;refine(ih e (ak he) M t' (dC.le u.le ht') v ab).ay xM Hw λn m2 hn x2 u2=>⟨_,rfl,λ_=>no (u.trans x2),λh2=>?_⟩;simp only[aFQ]at h2;refine next ab _ _ ⟨u2,ab,?_⟩
  rw[Jp he];omega
 ·simp only[aFQ]at h;rw[bL ab]at v1;exact⟨v,rfl,Or.inr ⟨v0,ab⟩,u⟩
theorem zi{m:ah}{t:Sl}{e:Ex}(h:dC m t e.aW):qM 216 [.agg #[vi e.op,vi e.bh,Sl.v t]] m λk=>k= -1\/k=e.n/\e.n<=30:=by
 apply Cw;simp -zeta only[aw,ax];intro m1;have x1:af m m1:=af.push _ _;have Hw:∀c∈[m.size],c<m1.size:=by simp[m1]
 clear_value m1;refine(Ha e m1 t (dC.le x1.le h) 30 aO).ay (af.av m1) Hw λn m2 hn x2 u2=>⟨_,rfl,λ_=>⟨-1,rfl,Or.inl rfl,x1.trans x2⟩,λh2=>?_⟩;simp only[aFQ]at h2;rw[aF (x:=30 -n) ab ab];exact⟨_,rfl,Or.inr ⟨ab,ab⟩,x1.trans x2⟩
theorem KB{m:ah}{s:Sl}{l:List Int}(h:aj m s l)(n:Int):qM 209 [Sl.v s,vi n] m λk=>-1<=k/\k<l.length:=by
 apply Ct;have hl:=h.len;refine dg (n:=l.length) (hl▸h.eP) (λ_ M=>af m M) (af.av _) ?_;rintro k M I μ hk xM next
 refine⟨λhh=>?_,λ_=>⟨-1,rfl,⟨ab,ab⟩,xM⟩⟩;simp only[aFP]at hh;obtain⟨x,hx⟩:=ae (l:=l) (k:=k) ab;exact⟨ab,ab,x,(h.ext xM).aE hx,λ_=>⟨k,rfl,⟨ab,ab⟩,xM⟩,λ_=>next ab _ xM⟩
theorem KC(f:Sl)(m:ah):aD Tryz.prog 101 [Sl.v f] m λv m'=>v=.agg #[Sl.v f]/\af m m':=by
 apply J0;simp -zeta only[aw,ax];intro m1 m2;exact⟨trivial,(af.push m _).ag (aFR _) _ _⟩
theorem RS(p:Sl)(r:Int)(m:ah):aD Tryz.prog 180 [Sl.v p,vi r] m λv m'=>v=.agg #[Sl.v p,vi r,vi 0,vi 0,Sl.v .nil]/\af m m':=by
 apply J1;simp -zeta only[aw,ax];intro m1 m2;exact⟨trivial,(af.push m _).ag (aFR _) _ _⟩
theorem EL{S:List Nat}{m:ah}(hS:∀c∈S,c<m.size){vars:Sl}{l:List Int}(h:aj m vars l)(hb:l.length<=1000000000000)(t:Int):iV 263 [Sl.v vars,vi t] m S λl'=>(∀y∈l',0<=y/\y<(l.length:Int))/\l'.length<=l.length:=by
 apply wX;intro m1;have hl:=h.len;refine cN (n:=l.length) (hl▸h.eP) (λk s M=>af m M/\∃l',GI S m M s l'/\(∀y∈l',0<=y/\y<(l.length:Int))/\l'.length<=k) ⟨af.push m _,[],GI.nil S m,az,aFR _⟩ ?_;rintro k s M I μ hk ⟨xM,l',g,hr,hlen⟩ next
 refine⟨λhh=>?_,λhh=>⟨s,l',rfl,g,⟨hr,ab⟩,xM⟩⟩;simp only[aFP]at hh;obtain⟨x,hx⟩:=ae (l:=l) (k:=k) ab;refine⟨ab,ab,x,(h.ext xM).aE hx,λ_=>?_,λ_=>next ab _ _ ⟨xM,l',g,hr,ab⟩⟩;intro m2;exact GI.iN g (xM.fz []) hS ab λr M' g' f' _ _=>next ab _ _ ⟨f'.ext,_,g',λy hy=>by
  rcases List.mem_append.1 hy with hy|hy
  ·exact hr y hy
  ·simp at hy;omega,bg⟩
def W7(m:ah)(cs:List Ce)(p:bY):Prop:=∃a x y z,cs=[.s a,.i p.aH,.i x,.i y,.s z]/\aj m a p.params
abbrev nA(m:ah)(s:Sl)(l:List bY):Prop:=cY m 5 (W7 m) s l
theorem W7.le{m m':ah}(h:Le m m'){cs:List Ce}{p:bY}:W7 m cs p->W7 m' cs p:=λ⟨a,x,y,z,h1,h2⟩=>⟨a,x,y,z,h1,h2.le h⟩
theorem nA.le{m m':ah}(hm:Le m m'){s:Sl}{l:List bY}(h:nA m s l):nA m' s l:=cY.le h hm λ_ _=>W7.le hm
theorem nA.aE{m:ah}{s:Sl}{l:List bY}(h:nA m s l){k:Nat}{p:bY}(hk:l[k]? =some p):∃a,aj m a p.params/\ad m s.ao (s.off+k*5)=some (Sl.v a)/\ad m s.ao (s.off+k*5+1)=some (vi p.aH):=by
 obtain⟨cs,⟨a,x,y,z,rfl,h2⟩,hr⟩:=h.iu k p hk;exact⟨a,h2,hr 0 _ rfl,hr 1 _ rfl⟩
def ClQ(ds:List aS)(fs:List bY)(t y:Int):Prop:=∃(f:Nat)(q:bY),y=f/\fs[f]? =some q/\0<q.params.length/\(0<t->∃d∈ds,d.cons.length=0/\q.params.getLast?=some d.rH/\q.aH=d.to)
theorem vZ{S:List Nat}{m:ah}(hS:∀c∈S,c<m.size){d p:Sl}{ds:List aS}{fs:List bY}(hd:br m d ds)(ht:cE ds)(hp:nA m p fs)(hf:fs.length<=1000)(t:Int):iV 269 [.agg #[Sl.v d,Sl.v p],vi t] m S λl'=>(∀y∈l',ClQ ds fs t y)/\l'.length<=fs.length:=by
 apply A2;simp -zeta only[aw,ax];intro m1 m2;have x1:af m m1:=af.push _ _;have Hw:∀c∈[m.size],c<m1.size:=by simp[m1]
 have g0:GI S m1 m2 (.mk m1.size 0 0 0) []:=GI.nil S m1;have x2:af m1 m2:=af.push _ _;clear_value m2;clear_value m1;have tA:=hp.len;refine cN (n:=fs.length) (tA▸hp.eP) (λk s M=>af m1 M/\∃l',GI S m1 M s l'/\(∀y∈l',ClQ ds fs t y)/\l'.length<=k) ⟨x2,[],g0,az,aFR _⟩ ?_;rintro k s M I μ hk ⟨xM,l',g,hr,hlen⟩ next
 have u:=x1.trans xM;refine⟨λhh=>?_,λhh=>⟨s,l',rfl,g.bN (λ_ h=>h) x1.size,⟨hr,ab⟩,u⟩⟩;simp only[aFP]at hh;obtain⟨q,hq⟩:=ae (l:=fs) (k:=k) ab;obtain⟨a,ha,e0,e1⟩:=hp.aE hq;have jK:=ha.len;have zG:=ha.eP;refine⟨ab,ab,_,u.ad e0,λh0=>?_,λ_=>next ab _ _ ⟨xM,l',g,hr,ab⟩⟩;simp only[aFP]at h0;rw[aF (x:=(a.len:Int) -1) ab ab];obtain⟨y,hy⟩:=ae (l:=q.params) (k:=((a.len:Int) -1).toNat) ab;refine⟨ab,ab,_,u.ad e0,ab,ab,y,(ha.ext u).aE hy,ab,ab,_,u.ad e1,?_⟩;refine(yT (hd.le u.le) ht y q.aH).ay xM Hw λn m3 hn x3 v3=>⟨_,rfl,λhnt=>?_,λ_=>next ab _ _ ⟨v3,l',g.ext x3,hr,ab⟩⟩;intro m4;refine GI.iN (g.ext x3) (v3.fz []) (λc hc=>x1.lt (hS c hc)) ab λr M' g' f' _ _=>⟨af.me (v3.aC _) f'.ext Hw,next ab _ _ ⟨f'.ext,_,g',λz hz=>?_,bg⟩⟩;rcases List.mem_append.1 hz with hz|hz
 ·exact hr z hz
 ·simp at hz hnt;refine⟨k,q,hz,hq,ab,λh=>?_⟩;rcases hn with hn|⟨i,e,_,he,h1,h2,h3⟩
  ·omega
  ·refine⟨e,ak he,h1,?_,h3.symm⟩;rw[List.getLast?_eq_getElem?,h2,<-hy];congr 1;omega
theorem nB{m:ah}{d p vars:Sl}{ds:List aS}{fs:List bY}{v:List Int}(hd:br m d ds)(ht:cE ds)(hp:nA m p fs)(hf:fs.length<=1000)(hv:aj m vars v)(t:Int):mC 264 [.agg #[Sl.v d,Sl.v p],Sl.v vars,vi t] m:=by
 apply CG;simp -zeta only[aw,ax];intro m1;have x1:af m m1:=af.push _ _;have Hw:∀c∈[m.size],c<m1.size:=by simp[m1]
 clear_value m1;refine(ku (hd.le x1.le) ht t).any.ay (af.av m1) Hw λb m2 x2 _=>⟨_,rfl,λ_=>rA (x1.trans x2),λ_=>?_⟩;have u2:=x1.trans x2;refine(vZ (S:=[]) az (hd.le u2.le) ht (nA.le u2.le hp) hf t).ay x2 Hw λs l m3 _ _ x3 v3=>⟨_,rfl,λ_=>rA (u2.trans x3),λ_=>?_⟩;exact(bW (hv.ext (u2.trans x3)) t).any.ay v3 Hw λb m4 x4 _=>⟨_,rfl,rA ((u2.trans x3).trans x4)⟩
theorem KD{rb P:Nat}{bs:Sl}{m:ah}(h:Rd rb bs P m)(hP:P+1<=10000000000000000){d p vars:Sl}{ds:List aS}{fs:List bY}{v:List Int}(hd:br (aY [rb] m) d ds)(ht:cE ds)(hp:nA (aY [rb] m) p fs)(hf:fs.length<=1000)(hv:aj (aY [rb] m) vars v):
 aD Tryz.prog 257 [vp rb 0,.agg #[Sl.v d,Sl.v p],Sl.v vars] m λr m'=>∃k:Int,r=vi k/\(k=1\/0<=k/\k<=4/\k<=ds.length)/\Rd rb bs (P+1) m'/\Fz [rb] m m':=by
 apply CE (rb,0)
 simp -zeta only[aw,ax]
 intro m1 m2
 have s1:m1.size=m.size+1:=by simp[m1]
 have x1:af m m1:=af.push _ _
 have fW:af m1 m2:=af.push _ _
 have x2:af m m2:=x1.trans fW
 have dx:=h.lt
 have Hw:∀c∈[m.size],c<m2.size/\c∉[rb]:=λc hc=>by have:=fW.size;simp at hc⊢;omega
 have lit:aj (aY [rb] m2) (.mk m1.size 0 7 7) [1,1,3,0,2,4,3]:=aj.lit au _ bg rfl rfl az
 clear_value m2
 have kU:=hd.len
 refine(ij (h.ext x2) ab lit az).mono λr m3⟨k,e,hk,h3,f3⟩=>⟨f3.cg Hw,k,e,?_⟩
 have F3:Fz [rb] m m3:=(x2.fz _).trans f3
 have hk4:0<=k/\k<=4:=by simp at hk;omega
 refine⟨λ_=>⟨1,rfl,Or.inl rfl,h3,F3⟩,λhle=>?_⟩
 simp only[aFQ]at hle
 have le3:Le (aY [rb] m) m3:=(F3.bO λ_ h=>h).trans (aV _ _)
 have tB:∀c∈[m.size],c<m3.size:=λc hc=>aFY (Hw c hc).1 f3.size
 refine(nB (hd.le le3) ht (nA.le le3 hp) hf (hv.le le3) k).ay (af.av m3) tB λb m4 x4 _=>⟨_,rfl,λ_=>⟨1,rfl,Or.inl rfl,h3.ext x4,F3.then x4⟩,λ_=>⟨k,rfl,Or.inr ⟨hk4.1,hk4.2,ab⟩,h3.ext x4,F3.then x4⟩⟩

section
def KE:List aS:=[⟨0,0,[[],[0,1]]⟩,⟨0,0,[]⟩,⟨0,0,[[],[3,0,3]]⟩]
def TE:List aS:=[⟨0,0,[[1,3]]⟩,⟨1,0,[]⟩,⟨0,0,[[1,1,0],[0],[3]]⟩,⟨0,1,[]⟩]
def pL:List (List aS):=KE::TE.map λd=>KE++[d]
def Qc:List (List Int×Int):=[([],0),([1],0),([1,1],1),([1],1),([1,0],1),([2,1],1),([1,1],0),([3],0),([0],1),([0,1],1),([3,0],3),([3],1),([1,3,0],0),([0],0),([0,0],0),([1,0],0)]
structure GP(ds:List aS)(fs:List bY):Prop where
 ds:ds∈pL
 eZ:0<fs.length
 lZ:fs.length<=4
 cq:∀q∈fs,(q.params,q.aH)∈Qc
def Lo(t:Int):Prop:=t=0\/t=1\/t=3
instance(t:Int):Decidable (Lo t):=inferInstanceAs (Decidable (_\/_))
def Ty(ds:List aS)(t:Int):Prop:=0<=t/\t<=(ds.length:Int)
instance(ds:List aS)(t:Int):Decidable (Ty ds t):=inferInstanceAs (Decidable (_/\_))
section
variable{ds:List aS}{fs:List bY}
theorem nC:∀ds∈pL,3<=ds.length/\ds.length<=4:=aO
theorem RT:∀ds∈pL,∀t∈[(0:Int),1,2,3,4],∀c∈(bB ds t).take 2,((bB ds t).head?=some c\/t∉bz ds c)->(bz ds c).length<=3/\(∀f∈bz ds c,Lo f)/\(Lo t->(bz ds c).length=0):=aO
theorem TF:∀ds∈pL,0<(bB ds 1).length/\0<(bB ds 3).length/\(bB ds 0).length=0:=aO
theorem RU:∀ds∈pL,∀d∈ds,d.cons.length=0->∀s∈Qc,s.1.getLast?=some d.rH->s.2=d.to->∀f∈s.1.dropLast,Lo f:=aO
theorem Nk:∀ds∈pL,bB ds 1=[0,1]/\bB ds 3=[2,3]/\bz ds 0=[]/\bz ds 1=[0,1]/\bz ds 2=[]/\bz ds 3=[3,0,3]:=aO
theorem zj:∀ds∈pL,(∀t∈[(0:Int),1,2,3,4],∀c∈bB ds t,(bz ds c).length<=3/\∀f∈bz ds c,Ty ds f)/\(∀t∈[(0:Int),1,2,3,4],(bB ds t).length<=3)/\(∀d∈ds,Ty ds d.rH):=aO
theorem RW:∀ds∈pL,∀t∈[(1:Int),3,4],(t:Int)<=ds.length->(∀d∈ds[t.toNat -1]?,d.cons.length≠0)->0<(bB ds t).length:=aO
theorem vG:∀s∈Qc,s.1.length<=3/\(∀t∈s.1,0<=t/\t<=3)/\0<=s.2/\s.2<=3:=aO
theorem aao{t:Int}(h0:0<=t)(h1:t<=4):t∈[(0:Int),1,2,3,4]:=bg
theorem Ty.ajy(hd:ds∈pL){t:Int}(h:Ty ds t):t∈[(0:Int),1,2,3,4]:=aao h.1 (by have:=nC ds hd;have:=h.2;omega)
theorem GP.ty(h:GP ds fs){t:Int}(h0:0<=t)(h3:t<=3):Ty ds t:=⟨h0,by have:=nC ds h.ds;omega⟩
theorem Lo.ty(hd:ds∈pL){t:Int}(h:Lo t):Ty ds t:=by have:=nC ds hd;unfold Lo at h;constructor<;>omega
end
theorem Xa:∀ds∈pL,∀d∈ds,0<d.cons.length->d.cons.length<=3/\d.rH=0/\d.to=0/\∀f∈d.cons,f.length<=3/\∀t∈f,0<=t/\t<=(ds.length:Int):=aO
theorem Xb:∀ds∈pL,∀k∈List.range ds.length,∀d∈ds[k]?,d.cons.length=0->(∀e∈ds.take k,¬(e.cons.length=0/\e.rH=d.rH/\e.to=d.to))/\Ty ds d.rH/\Ty ds d.to:=aO
theorem rq{ds:List aS}(h:ds∈pL):cE ds:=
 ⟨(nC ds h).2,λk d hk=>⟨Xa ds h d (ak hk),Xb ds h k (List.mem_range.2 (ap hk)) d hk⟩⟩
structure XF(ds:List aS)(nf a:Nat)(op bh:Int)(n:Nat):Prop where
 o:0<=op/\op<=13
 Xc:op=12->0<=bh/\bh<(a:Int)
 IC:op=13->n=2
 ajz:op=7->n=3
 all:op=8->n=1+(bB ds bh).length/\0<(bB ds bh).length
 call:op=9->0<=bh/\bh<(nf:Int)
def xb(ds:List aS)(op bh:Int):Nat->Nat
 |0=>0
 |i+1=>if op=13 then 1 else zT ds op bh i
inductive WX(ds:List aS)(nf:Nat):Nat->Ex->Prop
 |mk {a:Nat} {op bh:Int} {aW:List Ex} (db:XF ds nf a op bh aW.length) (hk:∀(i:Nat)(e:Ex),aW[i]? =some e->WX ds nf (a+xb ds op bh i) e):WX ds nf a (.mk op bh aW)
section
variable{ds:List aS}{nf a:Nat}{op bh:Int}{aW:List Ex}
theorem WX.aT{e:Ex}(h:WX ds nf a e):XF ds nf a e.op e.bh e.aW.length/\∀(i:Nat)(x:Ex),e.aW[i]? =some x->WX ds nf (a+xb ds e.op e.bh i) x:=by
 cases h with
 |mk db hk=>exact⟨db,hk⟩
theorem ajA(uJ:op≠13)(h8:op≠8)(i:Nat):xb ds op bh i=0:=by
 cases i with
 |zero=>rfl
 |succ i=>show(if op=13 then 1 else zT ds op bh i)=0;rw[aFS uJ,Ka h8]
theorem WX.db(h0:0<=op/\op<=11)(h7:op=7->aW.length=3)(h8:op≠8)(h9:op=9->0<=bh/\bh<(nf:Int))(hk:∀e∈aW,WX ds nf a e):WX ds nf a (.mk op bh aW):=
 .mk ⟨⟨ab,ab⟩,λh=>ab,λh=>ab,h7,λh=>absurd h h8,h9⟩ λi e he=>by rw[ajA ab h8];exact hk e (ak he)
theorem WX.int(n:Int):WX ds nf a (.mk 0 n []):=.db aO (λh=>ab) aO (λh=>ab) az
theorem WX.Xc(h:0<=bh/\bh<(a:Int)):WX ds nf a (.mk 12 bh []):=.mk ⟨aO,λ_=>h,λh=>ab,λh=>ab,λh=>ab,λh=>ab⟩ az
theorem WX.lt{x y:Ex}(hx:WX ds nf a x)(hy:WX ds nf (a+1) y):WX ds nf a (.mk 13 0 [x,y]):=
 .mk ⟨aO,λh=>ab,λ_=>rfl,λh=>ab,λh=>ab,λh=>ab⟩ λi e he=>by
  rcases i with _|_|i
  ·simp at he;subst he;exact hx
  ·simp at he;subst he;exact hy
  ·simp at he
theorem WX.mt{x:Ex}{l:List Ex}(hx:WX ds nf a x)(hl:l.length=(bB ds bh).length)(h0:0<l.length)(hk:∀(i:Nat)(e:Ex)(c:Int),l[i]? =some e->(bB ds bh)[i]? =some c->WX ds nf (a+(bz ds c).length) e):WX ds nf a (.mk 8 bh (x::l)):=
 .mk ⟨aO,λh=>ab,λh=>ab,λh=>ab,λ_=>⟨bg,ab⟩,λh=>ab⟩ λi e he=>by
  rcases i with _|i
  ·simp at he;subst he;exact hx
  ·simp at he;obtain⟨c,hc⟩:=ae (l:=bB ds bh) (k:=i) (by have:=ap he;omega);have:=hk i e c he hc;show WX ds nf (a+zT ds 8 bh i) e;rw[J9 rfl hc];exact this
end
end
section
structure GC(rb:Nat)(bs:Sl)(P:Nat)(d p:Sl)(ds:List aS)(fs:List bY)(m:ah):Prop where
 rd:Rd rb bs P m
 hd:br (aY [rb] m) d ds
 hp:nA (aY [rb] m) p fs
 gp:GP ds fs
def Lw(rb:Nat)(L:List Nat)(m:ah):Prop:=∀b∈L,b<m.size/\b≠rb
def XP(S:List Nat)(rb:Nat)(bs:Sl)(m:ah)(P:Nat)(Q:Ex->Prop)(v:Value)(m':ah):Prop:=∃s e,v=.agg #[vi e.op,vi e.bh,Sl.v s]/\dC (aY S m') s e.aW/\Q e/\Rd rb bs P m'/\Fz [rb] m m'
abbrev IR(rb:Nat)(m:ah)(s:Sl)(l:List Int):Prop:=aj (aY [rb] m) s l
section
variable{rb P P':Nat}{bs d p:Sl}{ds:List aS}{fs:List bY}{m M M':ah}{S L:List Nat}{f:Nat}{args:List Value}{Q Q':Ex->Prop}
theorem fh(f:Fz [rb] m M):Le (aY [rb] m) (aY [rb] M):=f.bO λ_ h=>h
theorem GC.to(h:GC rb bs P d p ds fs m)(f:Fz [rb] m M)(r:Rd rb bs P' M):GC rb bs P' d p ds fs M:=⟨r,h.hd.le (fh f),nA.le (fh f) h.hp,h.gp⟩
theorem GC.ext(h:GC rb bs P d p ds fs m)(x:af m M):GC rb bs P d p ds fs M:=h.to (x.fz _) (h.rd.ext x)
theorem GC.types(h:GC rb bs P d p ds fs m):cE ds:=rq h.gp.ds
theorem Lw.fz{X:List Nat}(h:Lw rb L m)(f:Fz X m M):Lw rb L M:=λb hb=>⟨aFY (h b hb).1 f.size,(h b hb).2⟩
theorem Lw.lt{X:List Nat}(h:Lw rb L m)(f:Fz X m M):∀b∈L,b<M.size:=λb hb=>(h.fz f b hb).1
theorem Lw.cg(h:Lw rb L m)(f:Fz [rb] m M):da L m M:=f.cg λb hb=>⟨(h b hb).1,by have:=(h b hb).2;simpa using this⟩
theorem Lw.bH(h:Lw rb L m)(f:Fz [rb] m M)(g:Fz [rb] M M'){b:Nat}(hb:b∈L)(o:Nat):ad M' b o=ad M b o:=aA (g.same b (h.fz f b hb).1 (by have:=(h b hb).2;simpa using this)) o
theorem XP.mono{P P':Nat}(hQ:∀e,Q e->Q' e)(hP:P<=P'){v:Value}:XP S rb bs m P Q v M->XP S rb bs m P' Q' v M:=λ⟨s,e,h1,h2,h3,h4,h5⟩=>⟨s,e,h1,h2,hQ e h3,h4.mono hP,h5⟩
theorem XP.then{K:Value->ah->Prop}(h:aD Tryz.prog f args M (XP S rb bs M P Q))(hL:Lw rb L M)(hk:∀s e M',dC (aY S M') s e.aW->Q e->Rd rb bs P M'->Fz [rb] M M'->K (.agg #[vi e.op,vi e.bh,Sl.v s]) M'):aD Tryz.prog f args M λv M'=>da L M M'/\K v M':=
 h.mono λv M'⟨s,e,h1,h2,h3,h4,h5⟩=>⟨hL.cg h5,h1▸hk s e M' h2 h3 h4 h5⟩
theorem Lw.CZ(h:Lw rb L m)(f:Fz [rb] m M)(g:Fz [rb] m M'):da L M M':=λb hb=>by
 have:=h b hb;rw[f.same b this.1 (by simpa using this.2),g.same b this.1 (by simpa using this.2)]
theorem XP.ret{b P0:Nat}(h:aD Tryz.prog f args M (XP (b::S) rb bs M P Q))(hL:Lw rb L M)(hf:Fz [rb] m M)(h0:Rd rb bs P0 m)(hb:m.size<=b)(hQ:∀e,Q e->Q' e)(hP:P<=P'):
 aD Tryz.prog f args M λv M'=>da L M M'/\∃r0 r1:Int,∃r2:Sl,v=.agg #[vi r0,vi r1,Sl.v r2]/\XP S rb bs m P' Q' (.agg #[vi r0,vi r1,Sl.v r2]) (ag M' b 0 [.i r0,.i r1,.s r2]):=
 XP.then h hL λs e M' hs hq hR hF=>⟨_,_,_,rfl,s,e,rfl,dC.le (bt az λc hc=>aFT _ hc) hs,hQ e hq,h0.ag (hR.mono hP) (hf.trans hF) hb 0 _,(hf.trans hF).ag (Or.inr hb) _ _⟩
abbrev GE(S:List Nat)(m0 m:ah)(s:Sl)(l:List Ex):Prop:=Gr S m0 m aX 3 zR s l
theorem XP.iN{P0:Nat}{m0:ah}{s:Sl}{l:List Ex}{K:Sl->ah->Prop}(h:aD Tryz.prog f args M (XP (s.ao::S) rb bs M P Q))(g:GE S m0 M s l)(hf:Fz [rb] m0 M)(hL:Lw rb L m0)(h0:Rd rb bs P0 m0)(hr:rb∈S)(hn:l.length<=1000)
 (hk:∀e r M',Q e->GE S m0 M' r (l++[e])->Rd rb bs P M'->Fz [rb] m0 M'->Fz [rb,s.ao] M M'->(r.ao=s.ao\/M.size<=r.ao)->K r M'):
 aD Tryz.prog f args M λv M1=>da L M M1/\∃r0 r1:Int,∃r2:Sl,v=.agg #[vi r0,vi r1,Sl.v r2]/\
  gA (M1.push (.cells (aU [.i r0,.i r1,.s r2]) aX)) aX [.i 0,.i 0,.s .nil] 40 s (Sl.mk M1.size 0 1 1) λr M'=>da L (M1.push (.cells (aU [.i r0,.i r1,.s r2]) aX)) M'/\K r M':=
 XP.then h (hL.fz hf) λt e M1 hs hq hR hF=>⟨_,_,_,rfl,by
  have hy:=g.aN;have VO:=h0.lt;have hF0:=hf.trans hF;refine Gr.iN (zs:=[.i 0,.i 0,.s .nil]) (a:=e) zR.mono aO (g.eg zR.mono hF (by simp;exact⟨hr,VO⟩)) hF0 (by cases e;exact zR.of hs) ab λr M' g' f' z q=>⟨hL.CZ (hF0.push _) f',hk e r M' hq g' (h0.Mr hR f' (q rb hR.lt ab)) f' ⟨aF8 hF.size z.1,λb hb hn=>?_⟩ (by have:=hF.size;omega)⟩;simp only[aF0,aGY,aHP,aHO]at hn;rw[q b (aFY hb hF.size) hn.2,hF.same b hb (by simpa using hn.1)]⟩
theorem ajB{k:Nat}{b:ah}{s:Sl}(h:Fz [rb,k] b M)(hs:s.ao=k\/b.size<=s.ao)(g:Fz [rb,s.ao] M M'):Fz [rb,k] b M':=
 h.pA g λy hy=>by simp at hy⊢;omega
end
theorem kD{S:List Nat}{rb P:Nat}{bs:Sl}{m:ah}{s:Sl}{aW:List Ex}(hR:Rd rb bs P m)(h:dC (aY S m) s aW)(op bh:Int):aD Tryz.prog 243 [vi op,vi bh,Sl.v s] m (XP S rb bs m P (.mk op bh aW=·)):=
 (HW h op bh).mono λv m'⟨s',e,h1,h2,h3,h4⟩=>⟨s',e,h1,h2,h3,hR.ext h4,h4.fz _⟩
def SmQ(ds:List aS)(fs:List bY)(n:Nat)(e:Ex):Prop:=(∀a,WX ds fs.length a e)/\e.n<=n
def afj(n k:Nat)(ds:List aS)(fs:List bY)(t:Int):Prop:=∀(S:List Nat)(rb P:Nat)(bs d p:Sl)(m:ah),(∀c∈S,c<m.size)->rb∈S->GC rb bs P d p ds fs m->P+k<=10000000000000000->
 aD Tryz.prog 265 [vp rb 0,.agg #[Sl.v d,Sl.v p],vi t] m (XP S rb bs m (P+k) (SmQ ds fs n))
theorem TG{ds:List aS}{fs:List bY}{l:List Ex}{op c:Int}{n:Nat}(ho:op=6\/op=10)(h:∀e∈l,SmQ ds fs 1 e)(hl:l.length+1<=n):SmQ ds fs n (.mk op c l):=
 ⟨λa=>.db ab (λh=>ab) ab (λh=>ab) λe he=>(h e he).1 a,by
  rw[Ex.UM];have:∀l:List Ex,(∀e∈l,SmQ ds fs 1 e)->en l<=l.length:=λl=>by
   induction l with
   |nil=>simp
   |cons x l ih=>intro h;rw[Om,aF5];have:=(h x az).2;have:=ih λe he=>h e (by simp[he]);omega
  have:=this l h;omega⟩
theorem HY{ds:List aS}{fs:List bY}{t:Int}(ht:Ty ds t){n k:Nat}(hB:(Lo t/\n=1/\k=5)\/((∀t',Lo t'->afj 1 5 ds fs t')/\n=4/\k=20)):afj n k ds fs t:=by
 intro S rb P bs d p m hS dx c hP;apply AZ (rb,0);simp -zeta only[aw,ax];intro m1 m2;obtain⟨x2,hl⟩:=cv (m1:=m1) (m2:=m2) rfl rfl;have s1:m1.size=m.size+1:=by simp[m1]
 clear_value m2;have hr:=c.rd.lt;have L2:Lw rb [m1.size,m.size] m2:=λb hb=>⟨hl b hb,by simp at hb;omega⟩;have T:=c.types;have h5:=Ty.ajy c.gp.ds ht;have kX:∀e∈m1.size::S,e<m2.size:=bd hS x2.size (hl _ az);have c2:=c.ext x2;refine(eL (S:=[rb]) (by simp;exact c2.rd.lt) (c2.hd.le (aV _ _)) T t).mono λv m3⟨cs,l,e,hc,q,x3⟩=>⟨L2.cg (x3.fz _),cs,e,?_⟩;subst q;have c3:=c2.ext x3;have L3:=L2.fz (x3.fz []);have u3:=x2.trans x3;have pt:=hc.len;refine⟨λh0=>?_,λh0=>?_⟩
 ·simp only[aFP]at h0;obtain⟨y0,hy0⟩:=ae (l:=bB ds t) (k:=0) ab;have hh:(bB ds t).head?=some y0:=by rw[List.head?_eq_getElem?];exact hy0
  have t0:y0∈(bB ds t).take 2:=List.mem_take_iff_getElem.2 ⟨0,ab,by have:=List.getElem?_eq_some_iff.1 hy0;exact this.2⟩;have A0:∀{M:ah},Fz [rb] m3 M->ad M cs.ao (cs.off+Int.toNat 0*1)=some (vi y0):=λf=>(cT.1 ((hc.le (fh f)).aE hy0)).2;refine⟨aO,ab,y0,A0 (Fz.av _ _),λc M=>c∈(bB ds t).take 2/\Rd rb bs (P+1) M/\Fz [rb] m3 M,⟨λh1=>?_,λh1=>⟨t0,c3.rd.mono ab,Fz.av _ _⟩⟩,?_⟩
  ·simp only[aFP]at h1;obtain⟨y1,Uf⟩:=ae (l:=bB ds t) (k:=1) ab;have t1:y1∈(bB ds t).take 2:=List.mem_take_iff_getElem.2 ⟨1,ab,by have:=List.getElem?_eq_some_iff.1 Uf;exact this.2⟩;refine(bo c3.rd ab 4).mono λv m4⟨k1,e,_,_,r4,f4⟩=>⟨L3.cg f4,k1,e,λh=>⟨aO,ab,y1,(cT.1 ((hc.le (fh f4)).aE Uf)).2,t1,r4,f4⟩,λh=>⟨t0,r4,f4⟩⟩
  rintro c' m5 ⟨uI,r5,f5⟩;have c5:=c3.to f5 r5;have L5:=L3.fz f5;refine⟨λc M=>c∈(bB ds t).take 2/\((bB ds t).head?=some c\/t∉bz ds c)/\Rd rb bs (P+1) M/\Fz [rb] m3 M,?_,?_⟩
  ·refine(cw (S:=[]) az (c5.hd.le ((aV _ _).trans (yS _))) T c').mono λv m6⟨f,l,e,hf,q,x6⟩=>⟨L5.cg (x6.fz _),f,e,?_⟩;subst q;refine(bW (hf.le (aV _ _)) t).mono λv m7⟨b,e,hb,x7⟩=>⟨(L5.fz (x6.fz [])).cg (x7.fz _),b,e,λJi=>?_,λzy=>?_⟩
   ·have F:=(f5.then x6).then x7;exact⟨aO,ab,y0,A0 F,t0,Or.inl hh,(r5.ext x6).ext x7,F⟩
   ·exact⟨uI,Or.inr λhm=>by rw[hb.2 hm]at zy;exact absurd zy aO,(r5.ext x6).ext x7,(f5.then x6).then x7⟩
  rintro c'' m8 ⟨h1,h2,r8,f8⟩;obtain⟨z3,zlo,zz⟩:=RT ds c.gp.ds t h5 c'' h1 h2;have c8:=c3.to f8 r8;have L8:=L3.fz f8;have F8:Fz [rb] m m8:=(u3.fz _).trans f8;have z8:=f8.size;have z3':=x3.size;have z2:=x2.size;intro m9;have x9:af m8 m9:=af.push _ _;have g9:GE (m1.size::S) m8 m9 (.mk m8.size 0 0 0) []:=Gr.new _ (aFR _) _ _ _;have s9:m9.size=m8.size+1:=by simp[m9]
  clear_value m9;have L9:=L8.fz (x9.fz []);refine(cw (S:=[rb,m8.size]) bg (c8.hd.le (x9.aY az)) T c'').mono λv cK⟨f,l,e,hf,q,cO⟩=>⟨L9.cg (cO.fz _),f,e,?_⟩;subst q;have gL:=hf.len;refine cN (n:=(bz ds c'').length) ab (λj s M=>∃l,GE (m1.size::S) m8 M s l/\l.length=j/\(∀e∈l,SmQ ds fs 1 e)/\Rd rb bs (P+1+5*j) M/\Fz [rb] m8 M/\Fz [rb,m8.size] cK M/\(s.ao=m8.size\/cK.size<=s.ao)) ⟨[],g9.ext zR.mono cO,rfl,az,(r8.ext x9).ext cO,((x9.trans cO).fz _),Fz.av _ _,Or.inl rfl⟩ ?_;rintro j s M I μ hj ⟨l,g,hlen,hq,rM,fM,fM',hs⟩ next
  have LM:=L8.fz fM;refine⟨λh=>?_,λh=>?_⟩
  ·simp only[aFP]at h;rcases hB with⟨Dz,_,_⟩|⟨ih,e1,e2⟩
   ·have:=zz Dz;omega
   obtain⟨y,hy⟩:=ae (l:=bz ds c'') (k:=j) ab;have hyg:=g.aN;refine⟨ab,ab,y,(cT.1 ((hf.le (fM'.bO λ_ h=>h)).aE hy)).2,?_⟩;exact XP.iN (ih y (zlo y (ak hy)) (s.ao::m1.size::S) rb (P+1+5*j) bs d p M (bd (λe he=>by have:=kX e he;have:=fM.size;have:=x3.size;omega) (aFR _) hyg.2) (by simp[dx]) (c8.to fM rM) ab) g fM L8 r8 (by simp[dx]) ab λe r M' he g' r' f' f'' OX=>
    next ab _ _ ⟨_,g',bg,λe' MF=>by rcases List.mem_append.1 MF with h|h;exact hq e' h;simp at h;subst h;exact he,r'.mono ab,f',ajB fM' hs f'',by have:=fM'.size;omega⟩
  ·simp only[aFQ]at h;have Sv:∀e∈m1.size::S,e<m8.size:=λe he=>by have:=kX e he;omega
   exact XP.ret (kD rM (g.done zR.mono Sv aO ab) 6 c'') LM (F8.trans fM) c.rd ab (λe he=>he▸TG (Or.inl rfl) hq (by rcases hB with⟨h,e,_⟩|⟨_,e,_⟩;have:=zz h;omega;omega)) (by rcases hB with⟨h,_,e⟩|⟨_,_,e⟩;have:=zz h;omega;omega)
 ·simp only[aFQ]at h0;refine(vZ (S:=[rb]) (by simp;exact c3.rd.lt) (c3.hd.le (aV _ _)) T (nA.le (aV _ _) c3.hp) (by have:=c.gp.lZ;omega) t).mono λv m4⟨cl,l,e,gl,hq,x4⟩=>⟨L3.cg (x4.fz _),cl,e,?_⟩;have alJ:IR rb m4 cl l:=GI.done gl (by simp;exact c3.rd.lt) (by have:=hq.2;have:=c.gp.lZ;omega);have ly:=alJ.len;have c4:=c3.ext x4;have L4:=L3.fz (x4.fz []);have u4:=u3.trans x4;have z4:=x4.size;have z3:=x3.size;refine⟨λb M=>(b=true->0<t/\0<cl.len)/\M=m4,⟨λh=>⟨λh'=>by simp only[aFP]at h h';omega,rfl⟩,λh=>⟨az,rfl⟩⟩,?_⟩;rintro b _ ⟨hb,rfl⟩;refine⟨λJi=>?_,λzy=>?_⟩
  ·obtain⟨t0,hl0⟩:=hb Ji;refine(bo c4.rd ab cl.len).mono λv m5⟨k1,e,k0,k2,r5,f5⟩=>⟨L4.cg f5,k1,e,k0,ab,?_⟩;obtain⟨y,hy⟩:=ae (l:=l) (k:=k1.toNat) ab;obtain⟨fi,q,rfl,hfq,Pl,hqa⟩:=hq.1 y (ak hy);obtain⟨dd,VM,LP,uF,Ht⟩:=hqa t0;have Dz:=RU ds c.gp.ds dd VM LP _ (c.gp.cq q (ak hfq)) uF Ht;have hq3:q.params.length<=3:=(vG _ (c.gp.cq q (ak hfq))).1;have c5:=c4.to f5 r5;have L5:=L4.fz f5;obtain⟨ps,Rc,e0,e1⟩:=c5.hp.aE hfq;have tA:=Rc.len;have gL:=ap hfq;have aAD:=c5.hp.len;refine⟨_,(cT.1 ((alJ.le (fh f5)).aE hy)).2,ab,ab,ps,(cT.1 e0).2,?_⟩;intro m6;have x6:af m5 m6:=af.push _ _;have g6:GE (m1.size::S) m5 m6 (.mk m5.size 0 0 0) []:=Gr.new _ (aFR _) _ _ _;clear_value m6;have z5:=f5.size;have V7:∀e∈m1.size::S,e<m5.size:=λe he=>by have:=kX e he;omega
   have nlo:¬Lo t\/(Lo t/\0<t):=by by_cases h:Lo t;exact Or.inr ⟨h,t0⟩;exact Or.inl h
   have hd:=TF ds c.gp.ds;rcases hB with⟨aa7,_,_⟩|⟨ih,e2,e3⟩
   ·exfalso;rcases aa7 with h|h|h
    ·omega
    ·subst h;omega
    ·subst h;omega
   refine cN (n:=q.params.length -1) ab (λj s M=>∃l,GE (m1.size::S) m5 M s l/\l.length=j/\(∀e∈l,SmQ ds fs 1 e)/\Rd rb bs (P+1+5*j) M/\Fz [rb] m5 M) ⟨[],g6,rfl,az,r5.ext x6,x6.fz _⟩ ?_;rintro j s M I μ hj ⟨l',g,hlen,zB,rM,fM⟩ next
   have ew:bS ((j:Int)+1)=j+1:=aF ab ab;refine⟨λh=>?_,λh=>?_⟩
   ·simp only[ew,aFP]at h;obtain⟨y,hy⟩:=ae (l:=q.params) (k:=j) ab;have hyg:=g.aN;have hym:y∈q.params.dropLast:=List.mem_iff_getElem?.2 ⟨j,by rw[List.getElem?_dropLast,aFW ab];exact hy⟩;refine⟨ab,ab,y,(cT.1 ((Rc.le (fh fM)).aE hy)).2,?_⟩;exact XP.iN (ih y (Dz y hym) (s.ao::m1.size::S) rb (P+1+5*j) bs d p M (bd (λe he=>by have:=V7 e he;have:=fM.size;omega) (aFR _) hyg.2) (by simp[dx]) (c5.to fM rM) ab) g fM L5 r5 (by simp[dx]) ab λe r M' he g' r' f' f'' OX=>
     next ab _ _ ⟨_,g',bg,λe' MF=>by rcases List.mem_append.1 MF with h|h;exact zB e' h;simp at h;subst h;exact he,r'.mono ab,f'⟩
   ·simp only[ew,aFQ]at h;exact XP.ret (kD rM (g.done zR.mono V7 aO ab) 10 _) (L5.fz fM) (((u4.fz _).trans f5).trans fM) c.rd ab (λe he=>he▸TG (Or.inr rfl) zB ab) ab
  ·refine(zh c4.rd (by rcases hB with⟨_,_,e⟩|⟨_,_,e⟩<;>omega)).mono λv m5⟨k1,e,r5,f5⟩=>⟨L4.cg f5,k1,e,?_⟩;exact XP.ret (P:=P+4) ((zg (m1.size::S) k1 m5).mono λv m'⟨s',e,h1,h2,h3,h4⟩=>⟨s',e,h1,h2,h3,r5.ext h4,h4.fz _⟩) (L4.fz f5) ((u4.fz _).trans f5) c.rd ab (λe he=>he▸⟨λa=>.int _,by rw[Ex.UM];rcases hB with⟨_,e,_⟩|⟨_,e,_⟩<;>simp[e]⟩) (by rcases hB with⟨_,_,e⟩|⟨_,_,e⟩<;>omega)
end
section
theorem _root_.Go.Vc.RX{σ:Type}{n:Nat}(hn:n<=9223372036854775807)(h1:1<=n){m:ah}{s0:σ}{Body:(σ->Int->ah->Prop)->(σ->Int->ah->Nat)->σ->Int->ah->Prop}(Q:Nat->σ->ah->Prop)(h0:Q 1 s0 m)
 (h:∀(k:Nat)(s:σ)(m1:ah)(I:σ->Int->ah->Prop)(μ:σ->Int->ah->Nat),1<=k->k<=n->Q k s m1->
  (k<n->∀s' m',Q (k+1) s' m'->I s' (bS ((k:Int)+1)) m'/\μ s' (bS ((k:Int)+1)) m'<μ s k m1)->Body I μ s k m1):
 ∃(I:σ->Int->ah->Prop)(μ:σ->Int->ah->Nat),I s0 1 m/\∀s i m1,I s i m1->Body I μ s i m1:=by
 refine⟨λs i m'=>∃k:Nat,i=k/\1<=k/\k<=n/\Q k s m',λ_ i _=>(n -i).toNat,⟨1,rfl,aFR _,h1,h0⟩,?_⟩
 rintro s i m1 ⟨k,rfl,h1,hk,hq⟩
 refine h k s m1 _ _ h1 hk hq λcA s' m' zB=>?_
 rw[iG cA hn]
 exact⟨⟨k+1,rfl,ab,cA,zB⟩,Bw cA⟩
theorem _root_.Go.Vc.ajC{n:Nat}(hn:n<=9223372036854775807)(h1:1<=n){m:ah}{Body:(Int->ah->Prop)->(Int->ah->Nat)->Int->ah->Prop}(Q:Nat->ah->Prop)(h0:Q 1 m)
 (h:∀(k:Nat)(m1:ah)(I:Int->ah->Prop)(μ:Int->ah->Nat),1<=k->k<=n->Q k m1->
  (k<n->∀m',Q (k+1) m'->I (bS ((k:Int)+1)) m'/\μ (bS ((k:Int)+1)) m'<μ k m1)->Body I μ k m1):
 ∃(I:Int->ah->Prop)(μ:Int->ah->Nat),I 1 m/\∀i m1,I i m1->Body I μ i m1:=by
 refine⟨λi m'=>∃k:Nat,i=k/\1<=k/\k<=n/\Q k m',λi _=>(n -i).toNat,⟨1,rfl,aFR _,h1,h0⟩,?_⟩
 rintro i m1 ⟨k,rfl,h1,hk,hq⟩
 refine h k m1 _ _ h1 hk hq λcA m' zB=>?_
 rw[iG cA hn]
 exact⟨⟨k+1,rfl,ab,cA,zB⟩,Bw cA⟩
theorem IV{ds:List aS}{fs:List bY}{t:Int}(hd:ds∈pL)(ht:Ty ds t):afj 4 20 ds fs t:=HY ht (Or.inr ⟨λ_ h=>HY (h.ty hd) (Or.inl ⟨h,rfl,rfl⟩),rfl,rfl⟩)
theorem KA.x{f:Nat}{args:List Value}{S:List Nat}{rb P:Nat}{bs:Sl}{m:ah}{Q:Ex->Prop}(h:KA f args m S Q)(hR:Rd rb bs P m):aD Tryz.prog f args m (XP S rb bs m P Q):=
 h.mono λv m'⟨s',e,h1,h2,h3,h4⟩=>⟨s',e,h1,h2,h3,hR.ext h4,h4.fz _⟩
section
variable{S:List Nat}{rb P:Nat}{bs d p vars:Sl}{ds:List aS}{fs:List bY}{m:ah}{v:List Int}
theorem o8(hS:∀c∈S,c<m.size)(dx:rb∈S)(c:GC rb bs P d p ds fs m)(hP:P+22<=10000000000000000)(hv:IR rb m vars v)(Vl:v.length<=1000){t:Int}(ht:Ty ds t):
 aD Tryz.prog 246 [vp rb 0,.agg #[Sl.v d,Sl.v p],Sl.v vars,vi t] m (XP S rb bs m (P+22) λe=>WX ds fs.length v.length e/\e.n<=4):=by
 apply IB (rb,0)
 simp -zeta only[aw,ax]
 intro m1 m2
 obtain⟨x2,hl⟩:=cv (m1:=m1) (m2:=m2) rfl rfl
 have s1:m1.size=m.size+1:=by simp[m1]
 clear_value m2
 have hr:=c.rd.lt
 have L2:Lw rb [m1.size,m.size] m2:=λb hb=>⟨hl b hb,by simp at hb;omega⟩
 have kX:∀e∈m1.size::S,e<m2.size:=bd hS x2.size (hl _ az)
 have z2:=x2.size
 refine(EL (S:=[rb]) (m:=m2) bg ((hv.le (aV _ _)).ext x2) ab t).mono λ_ m3⟨vs,l,e,gl,q,x3⟩=>⟨L2.cg (x3.fz _),vs,e,?_⟩
 have hvs:IR rb m3 vs l:=GI.done gl bg ab
 have c3:=(c.ext x2).ext x3
 have L3:=L2.fz (x3.fz [])
 have F3:Fz [rb] m m3:=(x2.trans x3).fz _
 have aAE:=hvs.len
 have z3:=x3.size
 have fY:∀{Q:Nat}{M:ah},GC rb bs Q d p ds fs M->Fz [rb] m M->m2.size<=M.size->Lw rb [m1.size,m.size] M->Q<=P+2->aD Tryz.prog 265 [vp rb 0,.agg #[Sl.v d,Sl.v p],vi t] M λv' M'=>da [m1.size,m.size] M M'/\∃r0 r1:Int,∃r2:Sl,v'=.agg #[vi r0,vi r1,Sl.v r2]/\XP S rb bs m (P+22) (λe=>WX ds fs.length v.length e/\e.n<=4) (.agg #[vi r0,vi r1,Sl.v r2]) (ag M' m1.size 0 [.i r0,.i r1,.s r2]):=λcM f h1 hL hq=>
  XP.ret (IV c.gp.ds ht (m1.size::S) rb _ bs d p _ (λe he=>by have:=kX e he;omega) (by simp[dx]) cM ab) hL f c.rd ab (λe he=>⟨he.1 _,he.2⟩) ab
 have Xc:∀{Q:Nat}{M:ah},GC rb bs Q d p ds fs M->Fz [rb] m M->Fz [rb] m3 M->Lw rb [m1.size,m.size] M->Q<=P+2->0<vs.len->aD Tryz.prog 34 [vp rb 0,vi (vs.len:Int)] M λr M'=>da [m1.size,m.size] M M'/\∃SA:Int,r=vi SA/\(0:Int)<=SA/\SA<(vs.len:Int)/\∃v34:Int,ad M' vs.ao (vs.off+Int.toNat SA*1)=some (vi v34)/\
  aD Tryz.prog 245 [vi v34] M' λv' M2=>da [m1.size,m.size] M' M2/\∃r0 r1:Int,∃r2:Sl,v'=.agg #[vi r0,vi r1,Sl.v r2]/\XP S rb bs m (P+22) (λe=>WX ds fs.length v.length e/\e.n<=4) (.agg #[vi r0,vi r1,Sl.v r2]) (ag M2 m1.size 0 [.i r0,.i r1,.s r2]):=λcM f f3 hL hq h0=>
  (bo cM.rd ab vs.len).mono λ_ M'⟨k,e,k0,k1,r',f'⟩=>by
   obtain⟨y,hy⟩:=ae (l:=l) (k:=k.toNat) ab;have hyv:=q.1 y (ak hy);exact⟨hL.cg f',k,e,k0,ab,y,(cT.1 ((hvs.le (fh (f3.trans f'))).aE hy)).2,XP.ret ((jF (m1.size::S) y M').x r') (hL.fz f') (f.trans f') c.rd ab (λe he=>he▸⟨.Xc hyv,by rw[Ex.UM];simp⟩) ab⟩
 refine⟨λh=>?_,λh=>fY c3 F3 z3 L3 ab⟩
 simp only[aFP]at h
 refine(bo c3.rd ab 6).mono λ_ m4⟨k1,e,_,_,r4,f4⟩=>⟨L3.cg f4,k1,e,λh=>Xc (c3.to f4 r4) (F3.trans f4) f4 (L3.fz f4) ab ab,λh=>?_⟩
 intro m5
 have x5:af m4 m5:=af.push _ _
 have c4:=c3.to f4 r4
 have c5:=c4.ext x5
 have L5:=(L3.fz f4).fz (x5.fz [])
 refine(nB (v:=[]) (c5.hd.le (aV _ _)) c.types (nA.le (aV _ _) c5.hp) (by have:=c.gp.lZ;omega) (jM _ _ _ _ _ _) t).mono λ_ m6⟨b,e,x6⟩=>⟨L5.cg (x6.fz _),b,e,λh=>?_,λh=>?_⟩
 ·exact Xc (c5.ext x6) ((F3.trans f4).then (x5.trans x6)) (f4.then (x5.trans x6)) (L5.fz (x6.fz [])) ab ab
 ·exact fY (c5.ext x6) ((F3.trans f4).then (x5.trans x6)) (by have:=f4.size;have:=x5.size;have:=x6.size;omega) (L5.fz (x6.fz [])) ab
theorem IW(hS:∀c∈S,c<m.size)(hd:br m d ds)(ht:cE ds)(hp:nA m p fs)(hf:fs.length<=1000)(h1:1<=fs.length)(t:Int):iV 260 [.agg #[Sl.v d,Sl.v p],vi t] m S λl'=>(∀y∈l',∃(f:Nat)(q:bY),y=f/\fs[f]? =some q)/\l'.length<=fs.length:=by
 apply AX;simp -zeta only[aw,ax];intro m1 m2;have x1:af m m1:=af.push _ _;have Hw:∀c∈[m.size],c<m1.size:=by simp[m1]
 have g0:GI S m1 m2 (.mk m1.size 0 0 0) []:=GI.nil S m1;have x2:af m1 m2:=af.push _ _;clear_value m2;clear_value m1;have tA:=hp.len;refine RX (n:=fs.length) ab h1 (λk s M=>af m1 M/\∃l',GI S m1 M s l'/\(∀y∈l',∃(f:Nat)(q:bY),y=f/\fs[f]? =some q)/\l'.length<=k) ⟨x2,[],g0,az,az⟩ ?_;rintro k s M I μ Bj hk ⟨xM,l',g,hr,hlen⟩ next
 have u:=x1.trans xM;refine⟨λhh=>?_,λhh=>⟨s,l',rfl,g.bN (λ_ h=>h) x1.size,⟨hr,ab⟩,u⟩⟩;simp only[aFP]at hh;obtain⟨q,hq⟩:=ae (l:=fs) (k:=k) ab;obtain⟨a,ha,e0,e1⟩:=hp.aE hq;have jK:=ha.len;refine⟨ab,ab,_,u.ad e1,?_⟩;refine cN (n:=q.params.length) (jK▸ha.eP) (λ_ _ M'=>af M M') (af.av _) ?_;rintro j ok M3 I2 μ2 hj x3 eN;have u3:=u.trans x3;refine⟨ab,ab,_,u3.ad e0,λh=>⟨λ_=>?_,λ_=>eN (by simp only[aFP]at h;omega) _ _ x3⟩,λh=>⟨λ_=>?_,λ_=>next ab _ _ ⟨xM.trans x3,l',g.ext x3,hr,ab⟩⟩⟩
 ·simp only[aFP]at h;obtain⟨y,hy⟩:=ae (l:=q.params) (k:=j) ab;have ey:=(ha.ext u3).aE hy;refine⟨ab,ab,_,u3.ad e0,ab,ab,y,ey,?_⟩;intro m4;have x4:af M3 m4:=af.push _ _;have G:∀{b o:Nat}{w:Value},ad M3 b o=some w->ad m4 b o=ad M3 b o:=λh=>by rw[x4.ad h,h]
  have hmz:m.size<M3.size:=aFY (Hw _ az) (xM.trans x3).size;refine⟨G ey,G (u3.ad e0),aA (x4.same _ hmz) _,aA (x4.same _ hmz) _,aA (x4.same _ hmz) _,?_⟩;exact(nB (v:=[]) (hd.le (u3.trans x4).le) ht (nA.le (u3.trans x4).le hp) hf (jM _ _ _ _ _ _) y).ay ((xM.trans x3).trans x4) Hw λb m5 x5 _=>⟨_,rfl,eN ab _ _ ((x3.trans x4).trans x5)⟩
 ·intro m4;refine GI.iN (g.ext x3) ((xM.trans x3).fz []) (λc hc=>x1.lt (hS c hc)) ab λr M' g' f' _ _=>⟨af.me ((xM.trans x3).aC _) f'.ext Hw,next ab _ _ ⟨f'.ext,_,g',λz hz=>?_,bg⟩⟩;rcases List.mem_append.1 hz with hz|hz
  ·exact hr z hz
  ·simp at hz;exact⟨k,q,hz,hq⟩
end
end
section
def Cg(b:Int):Nat:=30*4^b.toNat
theorem sR{a b:Int}(h:a<=b):Cg a<=Cg b:=Nat.mul_le_mul_left _ (Nat.pow_le_pow_right aO ab)
theorem RY(b:Int):30<=Cg b:=Nat.le_mul_of_pos_right _ (Nat.pow_pos aO)
theorem TH{a b:Int}(h0:0<=a)(h:a+1<=b):4*Cg a<=Cg b:=by
 refine aF8 (aHD ?_) (sR h);unfold Cg;rw[show(a+1).toNat=a.toNat+1 by omega,Nat.pow_succ];omega
def KF(ds:List aS)(fs:List bY)(b:Int):Prop:=∀(S:List Nat)(rb P:Nat)(bs d p vars:Sl)(m:ah)(v:List Int)(t:Int),(∀c∈S,c<m.size)->rb∈S->GC rb bs P d p ds fs m->P+Cg b<=10000000000000000->IR rb m vars v->v.length+3*b.toNat<=1000->Ty ds t->
 aD Tryz.prog 242 [vp rb 0,.agg #[Sl.v d,Sl.v p],Sl.v vars,vi t,vi b] m (XP S rb bs m (P+Cg b) λe=>WX ds fs.length v.length e/\(b<=2->e.n<=4))
def XL(S:List Nat)(rb:Nat)(bs:Sl)(m:ah)(P:Nat)(Q:List Ex->Prop)(v:Value)(m':ah):Prop:=∃s l,v=Sl.v s/\dC (aY S m') s l/\Q l/\Rd rb bs P m'/\Fz [rb] m m'
theorem KG{S:List Nat}{M:ah}(hS:∀c∈S,c<M.size)(e0:Nat):∀(l:List (Ex×Sl))(_:l.length<=1000)(_:∀x∈l,dC (aY S M) x.2 x.1.aW){cs:List Ce}{n:Nat},cs=l.flatMap (λx=>[.i x.1.op,.i x.1.bh,.s x.2])->n=l.length->
 GE S M (M.push (.cells (aU cs) aX)) (.mk M.size 0 n n) (l.map (·.1)):=by
 intro l h1 h2 cs n kJ hn
 refine Gr.lit (css:=l.map λx=>[.i x.1.op,.i x.1.bh,.s x.2]) zR.mono (aFR _) hS (by rw[kJ,List.flatMap_def]) (by simp[hn]) ⟨az,λc hc=>?_,λj c e hj he=>?_⟩
 ·simp at hc;obtain⟨_,_,_,rfl⟩:=hc;rfl
 ·simp only[aGb,aGN]at hj he
  obtain⟨x,hx,rfl⟩:=hj
  obtain⟨y,hy,rfl⟩:=he
  rw[hx]at hy;simp at hy;subst hy
  have:=h2 x (ak hx)
  cases hq:x.1 with
  |mk o n k=>rw[hq]at this;exact zR.of this
section
variable{S L:List Nat}{rb P:Nat}{bs d p vars:Sl}{ds:List aS}{fs:List bY}{m:ah}{v:List Int}
theorem Mw{b:Int}(hb:0<=b)(ih:∀b',0<=b'->b'<=b->KF ds fs b')(hS:∀c∈S,c<m.size)(dx:rb∈S)(c:GC rb bs P d p ds fs m)(hP:P+3*Cg b<=10000000000000000)(hv:IR rb m vars v)(Vl:v.length+3*b.toNat<=1000)(LQ:b<=1000){ts:Sl}{tl:List Int}(ht:IR rb m ts tl)(h3:tl.length<=3)(hty:∀t∈tl,Ty ds t):
 aD Tryz.prog 258 [vp rb 0,.agg #[Sl.v d,Sl.v p],Sl.v vars,Sl.v ts,vi b] m (XL S rb bs m (P+3*Cg b) λl=>l.length=tl.length/\∀e∈l,WX ds fs.length v.length e):=by
 apply Ek (rb,0)
 simp -zeta only[aw,ax]
 intro m1 m2
 have x1:af m m1:=af.push _ _
 have hr:=c.rd.lt
 have L1:Lw rb [m.size] m1:=by intro b hb;simp[m1]at hb⊢;omega
 have g0:GE S m1 m2 (.mk m1.size 0 0 0) []:=Gr.new _ (aFR _) _ _ _
 have x2:af m1 m2:=af.push _ _
 clear_value m2
 clear_value m1
 have c1:=c.ext x1
 have MK:=ht.len
 refine cN (n:=tl.length) ab (λk s M=>∃l,GE S m1 M s l/\l.length=k/\(∀e∈l,WX ds fs.length v.length e)/\Rd rb bs (P+k*Cg b) M/\Fz [rb] m1 M) ⟨[],g0,rfl,az,by simpa using c1.rd.ext x2,x2.fz _⟩ ?_
 rintro k s M I μ hk ⟨l,g,hlen,hq,rM,fM⟩ next
 have f0:=(x1.fz [rb]).trans fM
 refine⟨λh=>?_,λh=>?_⟩
 ·simp only[aFP]at h
  obtain⟨t,alL⟩:=ae (l:=tl) (k:=k) ab
  obtain⟨d0,d1⟩:=Nj (n:=(ts.len:Int)) hb ab
  rw[aF (x:=Int.tdiv b _) ab ab]
  have hy:=g.aN
  have hm:=sR d1
  have hkc:k*Cg b+Cg b<=3*Cg b:=by rw[<-aHm];exact aGh _ ab
  refine⟨ab,ab,t,(cT.1 ((ht.le (fh f0)).aE alL)).2,ab,?_⟩
  exact XP.iN (ih _ d0 d1 (s.ao::S) rb _ bs d p vars M v t (bd hS f0.size hy.2) (by simp[dx]) (c.to f0 rM) ab (hv.le (fh f0)) ab (hty t (ak alL))) g fM L1 c1.rd dx ab λe r M' he g' r' f' _ _=>
   next ab _ _ ⟨_,g',bg,λe' MF=>by rcases List.mem_append.1 MF with h|h;exact hq e' h;simp at h;subst h;exact he.1,r'.mono (by rw[aHm];omega),f'⟩
 ·simp only[aFQ]at h
  have hkc:k*Cg b<=3*Cg b:=aGh _ ab
  exact⟨s,l,rfl,g.done zR.mono (λe he=>x1.lt (hS e he)) aO ab,⟨ab,hq⟩,rM.mono ab,f0⟩
theorem zk{b:Int}{k0 P0 P':Nat}{m0:ah}{Q:Ex->Prop}{op bh:Int}(hb:0<=b)(ih:∀b',0<=b'->b'<=b->KF ds fs b')(hS:∀c∈k0::S,c<m.size)(dx:rb∈S)(c:GC rb bs P d p ds fs m)(hP:P+3*Cg b<=10000000000000000)(hv:IR rb m vars v)(Vl:v.length+3*b.toNat<=1000)(LQ:b<=1000){ts:Sl}{tl:List Int}(ht:IR rb m ts tl)(h3:tl.length<=3)(hty:∀t∈tl,Ty ds t)
 (hL:Lw rb L m)(hf:Fz [rb] m0 m)(h0:Rd rb bs P0 m0)(hk:m0.size<=k0)(hQ:∀l,l.length=tl.length->(∀e∈l,WX ds fs.length v.length e)->Q (.mk op bh l))(hPP:P+3*Cg b<=P'):
 aD Tryz.prog 258 [vp rb 0,.agg #[Sl.v d,Sl.v p],Sl.v vars,Sl.v ts,vi b] m λr M1=>da L m M1/\∃s:Sl,r=Sl.v s/\
  aD Tryz.prog 243 [vi op,vi bh,Sl.v s] M1 λr M2=>da L M1 M2/\∃r0 r1:Int,∃r2:Sl,r=.agg #[vi r0,vi r1,Sl.v r2]/\XP S rb bs m0 P' Q (.agg #[vi r0,vi r1,Sl.v r2]) (ag M2 k0 0 [.i r0,.i r1,.s r2]):=
 (Mw (S:=k0::S) hb ih hS (by simp[dx]) c hP hv Vl LQ ht h3 hty).mono λ_ M1⟨s,l,e,h1,h2,h4,h5⟩=>⟨hL.cg h5,s,e,XP.ret (kD h4 h1 op bh) (hL.fz h5) (hf.trans h5) h0 hk (λe he=>he▸hQ l h2.1 h2.2) hPP⟩
theorem IY{b:Int}(hb:3<=b/\b<=100)(ih:∀b',0<=b'->b'<=b -1->KF ds fs b')(hS:∀c∈S,c<m.size)(dx:rb∈S)(c:GC rb bs P d p ds fs m)(hP:P+23+3*Cg (b -1)<=10000000000000000)(hv:IR rb m vars v)(Vl:v.length+3*b.toNat<=1000){t:Int}(ht:Ty ds t):
 aD Tryz.prog 259 [vp rb 0,.agg #[Sl.v d,Sl.v p],Sl.v vars,vi t,vi b] m (XP S rb bs m (P+23+3*Cg (b -1)) (WX ds fs.length v.length)):=by
 apply AW (rb,0)
 simp -zeta only[aw,ax]
 intro m1 m2 m3
 obtain⟨x2,hl⟩:=cv (m1:=m1) (m2:=m2) rfl rfl
 have s1:m1.size=m.size+1:=by simp[m1]
 have x3:af m2 m3:=af.push _ _
 have hr:=c.rd.lt
 have z2:=x2.size
 have lit:aj (aY [rb] m3) (.mk m2.size 0 4 4) [1,1,3,4]:=aj.lit au _ bg rfl rfl az
 clear_value m3
 clear_value m2
 have L2:Lw rb [m1.size,m.size] m2:=λb hb=>⟨hl b hb,by simp at hb;omega⟩
 have kX:∀e∈m1.size::S,e<m2.size:=bd hS x2.size (hl _ az)
 have c3:=(c.ext x2).ext x3
 have L3:=L2.fz (x3.fz [])
 have T:=c.types
 refine(ij c3.rd ab lit az).mono λ_ m4⟨k,e,hk,r4,f4⟩=>⟨L3.cg f4,k,e,?_⟩
 have c4:=c3.to f4 r4
 have L4:=L3.fz f4
 have kU:=c4.hd.len
 have dl:=nC ds c.gp.ds
 have hk5:k∈[(1:Int),3,4]:=by simp at hk⊢;omega
 have jm:0<(bB ds 1).length:=(TF ds c.gp.ds).1
 refine⟨λk' M=>k'∈[(1:Int),3,4]/\k'<=ds.length/\0<(bB ds k').length/\af m4 M,⟨λ_=>⟨aO,ab,jm,af.av _⟩,λh=>?_⟩,?_⟩
 ·simp only[aFQ]at h
  refine(ku (c4.hd.le (aV _ _)) T k).mono λ_ m5⟨b,e,hb,x5⟩=>⟨L4.cg (x5.fz _),b,e,λ_=>⟨aO,ab,jm,x5⟩,λh'=>⟨hk5,ab,RW ds c.gp.ds k hk5 ab λq hq h0=>?_,x5⟩⟩
  rw[hb.2 ⟨q,by simp at hk5;omega,hq,h0⟩]at h';exact absurd h' aO
 rintro k' m5 ⟨sa,hk4,LN,x5⟩
 have c5:=c4.ext x5
 have L5:=L4.fz (x5.fz [])
 have F5:Fz [rb] m m5:=(((x2.trans x3).fz _).trans f4).then x5
 have k5:k'∈[(0:Int),1,2,3,4]:=by simp at sa⊢;omega
 have hf:=zj ds c.gp.ds
 have Sj:=hf.2.1 k' k5
 refine(eL (S:=[rb]) (by simp;exact c5.rd.lt) (c5.hd.le (aV _ _)) T k').mono λ_ m6⟨cs,l,e,hc,q,x6⟩=>⟨L5.cg (x6.fz _),cs,e,?_⟩
 subst q
 have c6:=c5.ext x6
 have L6:=L5.fz (x6.fz [])
 have F6:=F5.then x6
 have pt:=hc.len
 have z3:=x3.size;have z4:=f4.size;have z5:=x5.size;have z6:=x6.size
 have SK:∀e∈m1.size::S,e<m6.size:=λe he=>by have:=kX e he;omega
 refine XP.then (o8 (S:=m1.size::S) SK (by simp[dx]) c6 ab (hv.le (fh F6)) ab ⟨by simp at sa;omega,hk4⟩) L6 λs0 e0 m7 h7 q7 r7 f7=>⟨_,_,_,rfl,?_⟩
 intro m8
 have x8:af m7 m8:=af.push _ _
 have z7:=f7.size
 have Po:∀e∈m1.size::S,e<m7.size:=λe he=>by have:=SK e he;omega
 have g8:GE (m1.size::S) m7 m8 (.mk m7.size 0 1 1) [e0]:=KG Po 0 [(e0,s0)] az (by simpa using h7) rfl rfl
 clear_value m8
 have c7:=c6.to f7 r7
 have L7:=L6.fz f7
 have F7:=F6.trans f7
 refine cN (n:=(bB ds k').length) ab (λj s M=>∃l,GE (m1.size::S) m7 M s (e0::l)/\l.length=j/\(∀(i:Nat)(e:Ex)(y:Int),l[i]? =some e->(bB ds k')[i]? =some y->WX ds fs.length (v.length+(bz ds y).length) e)/\Rd rb bs (P+23+j*Cg (b -1)) M/\Fz [rb] m7 M) ⟨[],g8,rfl,az,by simpa using(r7.ext x8).mono ab,x8.fz _⟩ ?_
 rintro j s M I μ hj ⟨l,g,hlen,hq,rM,fM⟩ next
 have LM:=L7.fz fM
 have hkc:j*Cg (b -1)<=3*Cg (b -1):=aGh _ ab
 refine⟨λh=>?_,λh=>?_⟩
 ·simp only[aFP]at h
  obtain⟨y,hy⟩:=ae (l:=bB ds k') (k:=j) ab
  obtain⟨gL,hft⟩:=hf.1 k' k5 y (ak hy)
  have hyg:=g.aN
  have cM:=c7.to fM rM
  refine⟨ab,ab,y,(cT.1 ((hc.le (fh (f7.trans fM))).aE hy)).2,ab,?_⟩
  refine(cw (S:=[rb]) (by simp;exact rM.lt) cM.hd T y).mono λ_ m9⟨f9,l9,e,h9,q9,x9⟩=>⟨LM.cg (x9.fz _),f9,e,LM.bH (Fz.av _ _) (x9.fz _) az _,LM.bH (Fz.av _ _) (x9.fz _) az _,?_⟩
  subst q9
  have F9:=(F7.trans fM).then x9
  refine(cS (S:=[rb]) (by simp;exact(rM.ext x9).lt) (hv.le (fh F9)) h9 ab).mono λ_ cK⟨V6,NM,e,g10,q10,cO⟩=>⟨(LM.fz (x9.fz [])).cg (cO.fz _),V6,e,LM.bH (x9.fz _) (cO.fz _) az _,LM.bH (x9.fz _) (cO.fz _) az _,?_⟩
  have ln:IR rb cK V6 NM:=GI.done g10 (by simp;exact(rM.ext x9).lt) (by rw[<-q10];simp;omega)
  obtain⟨d0,d1⟩:=Nj (a:=b -2) (n:=(cs.len:Int)) ab ab
  rw[aF (x:=b -2) ab ab,aF (x:=Int.tdiv _ _) ab ab]
  have hm:=sR (a:=Int.tdiv (b -2) cs.len) (b:=b -1) ab
  have aAF:j*Cg (b -1)+Cg (b -1)<=3*Cg (b -1):=by rw[<-aHm];exact aGh _ ab
  have fT:=(fM.then x9).then cO
  have Jm:NM.length=v.length+(bz ds y).length:=by rw[<-q10];simp
  refine XP.iN (ih _ d0 ab (s.ao::m1.size::S) rb _ bs d p V6 cK NM t (bd (λe he=>by have:=Po e he;have:=fT.size;omega) (aFR _) (by have:=x9.size;have:=cO.size;omega)) (by simp[dx]) ((cM.ext x9).ext cO) ab ln ab ht) ((g.ext zR.mono x9).ext zR.mono cO) fT L7 r7 (by simp[dx]) bg λe r M' he g' r' f' _ _=>
   next ab _ _ ⟨l++[e],g',bg,λi e' y' hi lj=>?_,r'.mono (by rw[aHm];omega),f'⟩
  rcases aF1 i l.length with iy|iy
  ·rw[aFV iy]at hi;exact hq i e' y' hi lj
  ·rw[aFX iy]at hi
   have:i -l.length=0:=by have:=ap hi;simp at this;omega
   rw[this]at hi;simp at hi;subst hi
   have:i=j:=ab
   subst this
   rw[hy]at lj;simp at lj;subst lj
   rw[<-Jm];exact he.1
 ·simp only[aFQ]at h
  exact XP.ret (kD rM (g.done zR.mono Po aO bg) 8 k') LM (F7.trans fM) c.rd ab (λe he=>he▸.mt q7.1 ab ab hq) ab
end
end
section
section
variable{S L:List Nat}{rb P:Nat}{bs d p vars:Sl}{ds:List aS}{fs:List bY}{m:ah}{v:List Int}
theorem IZ{b:Int}(hb:3<=b/\b<=100)(ih:∀b',0<=b'->b'<=b -1->KF ds fs b')(hS:∀c∈S,c<m.size)(dx:rb∈S)(c:GC rb bs P d p ds fs m)(hP:P+24+3*Cg (b -1)<=10000000000000000)(hv:IR rb m vars v)(Vl:v.length+3*b.toNat<=1000){t:Int}(ht:Ty ds t):
 aD Tryz.prog 261 [vp rb 0,.agg #[Sl.v d,Sl.v p],Sl.v vars,vi t,vi b] m (XP S rb bs m (P+24+3*Cg (b -1)) (WX ds fs.length v.length)):=by
 apply AY (rb,0)
 simp -zeta only[aw,ax]
 intro m1 m2
 obtain⟨x2,hl⟩:=cv (m1:=m1) (m2:=m2) rfl rfl
 have s1:m1.size=m.size+1:=by simp[m1]
 clear_value m2
 have hr:=c.rd.lt
 have z2:=x2.size
 have L2:Lw rb [m1.size,m.size] m2:=λb hb=>⟨hl b hb,by simp at hb;omega⟩
 have kX:∀e∈m1.size::S,e<m2.size:=bd hS x2.size (hl _ az)
 have c2:=c.ext x2
 have T:=c.types
 have kU:=c.hd.len
 have dl:=nC ds c.gp.ds
 have ew2:bS (b -2)=b -2:=aF ab ab
 have ew1:bS (b -1)=b -1:=aF ab ab
 have lZ:=c.gp.lZ
 have JA:v.length+3*(b -2).toNat<=1000:=ab
 have hm:=sR (a:=b -2) (b:=b -1) ab
 have hP2:P+24+Cg (b -2)<=10000000000000000:=ab
 refine⟨λM=>Rd rb bs (P+1) M/\Fz [rb] m2 M,?_,?_⟩
 ·refine(bo c2.rd ab 4).mono λ_ m3⟨k,e,_,_,r3,f3⟩=>⟨L2.cg f3,k,e,λ_=>?_,λ_=>⟨r3,f3⟩⟩
  refine ajC (n:=ds.length+1) ab ab (λ_ M=>Rd rb bs (P+1) M/\Fz [rb] m2 M) ⟨r3,f3⟩ ?_
  rintro a M I μ ha1 ha ⟨rM,fM⟩ next
  have cM:=c2.to fM rM
  have LM:=L2.fz fM
  refine⟨λh=>?_,λh=>⟨rM,fM⟩⟩
  simp only[aFP]at h
  have ea:bS ((a:Int) -1)=a -1:=aF ab ab
  rw[ea]
  refine(ku (cM.hd.le (aV _ _)) T a).mono λ_ m4⟨b4,e,xt,x4⟩=>⟨LM.cg (x4.fz _),b4,e,λh1=>?_,λ_=>next ab _ ⟨rM.ext x4,fM.then x4⟩⟩
  obtain⟨q,_,hq,Pl⟩:=xt.1 h1
  have hqa:ds[((a:Int) -1).toNat]? =some q:=by rw[<-hq];congr 1;omega
  obtain⟨_,_,g0,g1,_⟩:=cM.hd.aE hqa
  have c4:=cM.ext x4
  have L4:=LM.fz (x4.fz [])
  have f4:=fM.then x4
  refine⟨ab,ab,_,x4.ad (cT.1 g1).2,λ_=>?_,λ_=>next ab _ ⟨rM.ext x4,f4⟩⟩
  refine(nB (c4.hd.le (aV _ _)) T (nA.le (aV _ _) c4.hp) ab ((hv.le (fh ((x2.fz _).trans f4))).le (aV _ _)) a).mono λ_ m5⟨b5,e,x5⟩=>⟨L4.cg (x5.fz _),b5,e,λ_=>?_,λ_=>next ab _ ⟨(rM.ext x4).ext x5,f4.then x5⟩⟩
  have c5:=c4.ext x5
  have L5:=L4.fz (x5.fz [])
  have f5:=f4.then x5
  have z5:=f5.size
  have V7:∀e∈m1.size::S,e<m5.size:=λe he=>by have:=kX e he;omega
  obtain⟨_,_,g0',_,_⟩:=c5.hd.aE hqa
  refine⟨ab,ab,_,(cT.1 g0').2,?_⟩
  refine XP.then (o8 (S:=m1.size::S) V7 (by simp[dx]) c5 ab (hv.le (fh ((x2.fz _).trans f5))) ab ⟨ab,ab⟩) L5 λs6 e6 m6 h6 q6 r6 f6=>⟨_,_,_,rfl,?_⟩
  have c6:=c5.to f6 r6
  have L6:=L5.fz f6
  obtain⟨_,_,ar6,_,_⟩:=c6.hd.aE hqa
  refine⟨by rw[(cT.1 ar6).2,(cT.1 g0').2],L5.bH (Fz.av _ _) f6 az _,L5.bH (Fz.av _ _) f6 az _,L5.bH (Fz.av _ _) f6 az _,?_⟩
  rw[ew2]
  have F6:=(x2.fz [rb]).trans (f5.trans f6)
  have SK:∀e∈m1.size::S,e<m6.size:=λe he=>by have:=V7 e he;have:=f6.size;omega
  refine XP.then (ih (b -2) ab ab (m1.size::S) rb (P+1+22) bs d p vars m6 v _ SK (by simp[dx]) c6 ab (hv.le (fh F6)) JA ((zj ds c.gp.ds).2.2 q (ak hqa))) L6 λs7 e7 m7 h7 q7 r7 f7=>⟨_,_,_,rfl,?_⟩
  intro m8
  have x8:af m7 m8:=af.push _ _
  have Po:∀e∈m1.size::S,e<m7.size:=λe he=>by have:=SK e he;have:=f7.size;omega
  have g8:GE (m1.size::S) m7 m8 (.mk m7.size 0 2 2) [e6,e7]:=KG Po 0 [(e6,s6),(e7,s7)] az (by simp;exact⟨dC.le (f7.bO (by simp[dx])) h6,h7⟩) rfl rfl
  clear_value m8
  exact XP.ret (kD (r7.ext x8) (g8.done zR.mono Po aO az) 11 0) ((L6.fz f7).fz (x8.fz [])) ((F6.trans f7).then x8) c.rd ab (λe he=>he▸.db aO (λh=>ab) aO (λh=>ab) (by simp;exact⟨q6.1,q7.1⟩)) ab
 rintro M ⟨rM,fM⟩
 have cM:=c2.to fM rM
 have LM:=L2.fz fM
 have zM:=fM.size
 have FM:=(x2.fz [rb]).trans fM
 refine(eL (S:=[rb]) (by simp;exact rM.lt) (cM.hd.le (aV _ _)) T t).mono λ_ m3⟨cs,l,e,hc,q,x3⟩=>⟨LM.cg (x3.fz _),cs,e,?_⟩
 subst q
 have c3:=cM.ext x3
 have L3:=LM.fz (x3.fz [])
 have F3:=FM.then x3
 have z3:=x3.size
 have pt:=hc.len
 have Pk:∀{M:ah},m3.size<=M.size->∀e∈m1.size::S,e<M.size:=λh e he=>by have:=kX e he;omega
 have t5:=Ty.ajy c.gp.ds ht
 have hfd:=zj ds c.gp.ds
 refine⟨λh=>?_,λh=>⟨λh=>?_,λh=>?_⟩⟩
 ·simp only[aFP]at h
  refine(bo c3.rd ab cs.len).mono λ_ m4⟨k,e,k0,k1,r4,f4⟩=>⟨L3.cg f4,k,e,k0,ab,?_⟩
  obtain⟨y,hy⟩:=ae (l:=bB ds t) (k:=k.toNat) ab
  have hfy:=hfd.1 t t5 y (ak hy)
  have c4:=c3.to f4 r4
  have L4:=L3.fz f4
  refine⟨y,(cT.1 ((hc.le (fh f4)).aE hy)).2,?_⟩
  refine(cw (S:=[rb]) (by simp;exact r4.lt) c4.hd T y).mono λ_ m5⟨f5,l5,e,h5,q5,x5⟩=>⟨L4.cg (x5.fz _),f5,e,L4.bH (Fz.av _ _) (x5.fz _) az _,L4.bH (Fz.av _ _) (x5.fz _) az _,?_⟩
  subst q5
  rw[ew1]
  exact zk ab ih (Pk (by have:=f4.size;have:=x5.size;omega)) dx (c4.ext x5) ab (hv.le (fh ((F3.trans f4).then x5))) ab ab h5 hfy.1 hfy.2 (L4.fz (x5.fz [])) ((F3.trans f4).then x5) c.rd ab (λl _ hl=>.db aO (λh=>ab) aO (λh=>ab) hl) ab
 ·exact XP.ret (o8 (S:=m1.size::S) (Pk (aFR _)) (by simp[dx]) c3 ab (hv.le (fh F3)) ab ht) L3 F3 c.rd ab (λe he=>he.1) ab
 ·refine(bo c3.rd ab 3).mono λ_ m4⟨k,e,k0,k1,r4,f4⟩=>⟨L3.cg f4,k,e,λ_=>?_,λ_=>?_⟩
  ·have c4:=c3.to f4 r4
   have L4:=L3.fz f4
   have z4:=f4.size;have Sz:=r4.lt
   intro m5
   have x5:af m4 m5:=af.push _ _
   have lit:aj (aY [rb] m5) (.mk m4.size 0 1 1) [0]:=aj.lit au _ bg rfl rfl az
   clear_value m5
   have z5:=x5.size
   rw[ew1]
   exact zk ab ih (Pk ab) dx (c4.ext x5) ab (hv.le (fh ((F3.trans f4).then x5))) ab ab lit az (by simp[c.gp.ty]) (L4.fz (x5.fz [])) ((F3.trans f4).then x5) c.rd ab (λl _ hl=>.db aO (λh=>ab) aO (λh=>ab) hl) ab
  ·have c4:=c3.to f4 r4
   have L4:=L3.fz f4
   have F4:=F3.trans f4
   have z4:=f4.size;have Sz:=r4.lt
   have fG:∀{M0 M:ah}{a t0:Nat},GC rb bs (P+3) d p ds fs M->Fz [rb] m4 M->aj (aY [rb] M) (.mk t0 0 2 2) [0,0]->∀op:Int,op∈[(1:Int),2,3,4]->aD Tryz.prog 258 [vp rb 0,.agg #[Sl.v d,Sl.v p],Sl.v vars,Sl.v (.mk t0 0 2 2),vi (b -1)] M λr M1=>da [m1.size,m.size] M M1/\∃s:Sl,r=Sl.v s/\
    aD Tryz.prog 243 [vi op,vi 0,Sl.v s] M1 λr M2=>da [m1.size,m.size] M1 M2/\∃r0 r1:Int,∃r2:Sl,r=.agg #[vi r0,vi r1,Sl.v r2]/\XP S rb bs m (P+24+3*Cg (b -1)) (WX ds fs.length v.length) (.agg #[vi r0,vi r1,Sl.v r2]) (ag M2 m1.size 0 [.i r0,.i r1,.s r2]):=λcM f h op pu=>
    zk ab ih (Pk (by have:=f.size;omega)) dx cM ab (hv.le (fh (F4.trans f))) ab ab h az (by simp[c.gp.ty]) (L4.fz f) (F4.trans f) c.rd ab (λl _ hl=>.db (by simp at pu;omega) (λh=>by simp at pu;omega) (by simp at pu;omega) (λh=>by simp at pu;omega) hl) ab
   rw[ew1]
   refine⟨?_,?_⟩
   ·intro m5
    have x5:af m4 m5:=af.push _ _
    have QR:aj (aY [rb] m5) (.mk m4.size 0 4 4) [1,2,3,4]:=aj.lit au _ bg rfl rfl az
    clear_value m5
    have c5:=c4.ext x5
    have L5:=L4.fz (x5.fz [])
    have z5:=x5.size
    refine⟨L4.bH (Fz.av _ _) (x5.fz _) az _,L4.bH (Fz.av _ _) (x5.fz _) az _,?_,?_⟩
    ·refine(ij c5.rd ab QR az).mono λ_ m6⟨k,e,hk,r6,f6⟩=>⟨L5.cg f6,k,e,L5.bH (Fz.av _ _) f6 az _,L5.bH (Fz.av _ _) f6 az _,?_⟩
     intro m7
     have x7:af m6 m7:=af.push _ _
     have agH:aj (aY [rb] m7) (.mk m6.size 0 2 2) [0,0]:=aj.lit au _ (by simp;exact r6.lt) rfl rfl az
     clear_value m7
     have L6:=L5.fz f6
     exact⟨L6.bH (Fz.av _ _) (x7.fz _) az _,L6.bH (Fz.av _ _) (x7.fz _) az _,fG (M0:=m7) (a:=0) ((c5.to f6 r6).ext x7) (((x5.fz _).trans f6).then x7) agH k hk⟩
    ·intro m6
     have x6:af m5 m6:=af.push _ _
     have SL:aj (aY [rb] m6) (.mk m5.size 0 2 2) [0,0]:=aj.lit au _ bg rfl rfl az
     clear_value m6
     have L6:=L5.fz (x6.fz [])
     refine⟨L5.bH (Fz.av _ _) (x6.fz _) az _,L5.bH (Fz.av _ _) (x6.fz _) az _,?_⟩
     refine(ij (c5.ext x6).rd ab (QR.le (fh (x6.fz _))) az).mono λ_ m7⟨k,e,hk,r7,f7⟩=>⟨L6.cg f7,k,e,L6.bH (Fz.av _ _) f7 az _,L6.bH (Fz.av _ _) f7 az _,fG (M0:=m7) (a:=0) ((c5.ext x6).to f7 r7) (((x5.trans x6).fz _).trans f7) (SL.le (fh f7)) k hk⟩
   ·intro m5
    have x5:af m4 m5:=af.push _ _
    have QR:aj (aY [rb] m5) (.mk m4.size 0 2 2) [0,0]:=aj.lit au _ bg rfl rfl az
    clear_value m5
    have c5:=c4.ext x5
    have L5:=L4.fz (x5.fz [])
    have z5:=x5.size
    refine⟨L4.bH (Fz.av _ _) (x5.fz _) az _,L4.bH (Fz.av _ _) (x5.fz _) az _,?_⟩
    intro m6
    have x6:af m5 m6:=af.push _ _
    have SL:aj (aY [rb] m6) (.mk m5.size 0 4 4) [1,2,3,4]:=aj.lit au _ bg rfl rfl az
    clear_value m6
    have L6:=L5.fz (x6.fz [])
    refine⟨L5.bH (Fz.av _ _) (x6.fz _) az _,L5.bH (Fz.av _ _) (x6.fz _) az _,?_⟩
    refine(ij (c5.ext x6).rd ab SL az).mono λ_ m7⟨k,e,hk,r7,f7⟩=>⟨L6.cg f7,k,e,L6.bH (Fz.av _ _) f7 az _,L6.bH (Fz.av _ _) f7 az _,fG (M0:=m7) (a:=0) ((c5.ext x6).to f7 r7) (((x5.trans x6).fz _).trans f7) ((QR.le (fh (x6.fz _))).le (fh f7)) k hk⟩
end
end
section
theorem afk{ds:List aS}{fs:List bY}{b:Int}(hb:0<=b/\b<=100)(ih:∀b',0<=b'->b'<=b -1->KF ds fs b'):KF ds fs b:=by
 intro S rb P bs d p vars m v t hS dx c hP hv Vl ht;apply J2 (rb,0);simp -zeta only[aw,ax];intro m1 m2;obtain⟨x2,hl⟩:=cv (m1:=m1) (m2:=m2) rfl rfl;have s1:m1.size=m.size+1:=by simp[m1]
 clear_value m2;have hr:=c.rd.lt;have z2:=x2.size;have L2:Lw rb [m1.size,m.size] m2:=λb hb=>⟨hl b hb,by simp at hb;omega⟩;have kX:∀{M:ah},m2.size<=M.size->∀e∈m1.size::S,e<M.size:=λh e he=>by have:=bd hS x2.size (hl m1.size az) e he;omega
 have c2:=c.ext x2;have T:=c.types;have lZ:=c.gp.lZ;have eZ:=c.gp.eZ;have qB:=RY b;have leaf:∀{Q:Nat}{M:ah},GC rb bs Q d p ds fs M->Fz [rb] m2 M->Q+22<=P+Cg b->aD Tryz.prog 246 [vp rb 0,.agg #[Sl.v d,Sl.v p],Sl.v vars,vi t] M λr M2=>da [m1.size,m.size] M M2/\∃r0 r1:Int,∃r2:Sl,r=.agg #[vi r0,vi r1,Sl.v r2]/\XP S rb bs m (P+Cg b) (λe=>WX ds fs.length v.length e/\(b<=2->e.n<=4)) (.agg #[vi r0,vi r1,Sl.v r2]) (ag M2 m1.size 0 [.i r0,.i r1,.s r2]):=λcM f hq=>
  XP.ret (o8 (S:=m1.size::S) (kX f.size) (by simp[dx]) cM ab (hv.le (fh ((x2.fz _).trans f))) ab ht) (L2.fz f) ((x2.fz _).trans f) c.rd ab (λe he=>⟨he.1,λ_=>he.2⟩) hq
 refine⟨λ_=>leaf c2 (Fz.av _ _) ab,λh3=>?_⟩;simp only[aFQ]at h3;have hs1:=TH (a:=b -1) (b:=b) ab ab;have ZG:=TH (a:=b -2) (b:=b -1) ab ab;have Q7:=RY (b -2);have ew1:bS (b -1)=b -1:=aF ab ab;have hQ:∀e,WX ds fs.length v.length e->WX ds fs.length v.length e/\(b<=2->e.n<=4):=λe h=>⟨h,λh=>ab⟩;refine(bo c2.rd ab 12).mono λ_ m3⟨k,e,k0,k1,r3,f3⟩=>⟨L2.cg f3,k,e,?_⟩;have c3:=c2.to f3 r3;have L3:=L2.fz f3;have F3:=(x2.fz [rb]).trans f3;have z3:=f3.size;have Pk:=kX z3;have other:∀{M:ah},af m3 M->aD Tryz.prog 261 [vp rb 0,.agg #[Sl.v d,Sl.v p],Sl.v vars,vi t,vi b] M λr M2=>da [m1.size,m.size] M M2/\∃r0 r1:Int,∃r2:Sl,r=.agg #[vi r0,vi r1,Sl.v r2]/\XP S rb bs m (P+Cg b) (λe=>WX ds fs.length v.length e/\(b<=2->e.n<=4)) (.agg #[vi r0,vi r1,Sl.v r2]) (ag M2 m1.size 0 [.i r0,.i r1,.s r2]):=λx=>
  XP.ret (IZ (S:=m1.size::S) ⟨ab,ab⟩ ih (kX (by have:=x.size;omega)) (by simp[dx]) (c3.ext x) ab (hv.le (fh (F3.then x))) ab ht) (L3.fz (x.fz [])) (F3.then x) c.rd ab hQ ab
 refine⟨λ_=>leaf c3 f3 ab,λ_=>⟨λ_=>?_,λ_=>⟨λ_=>?_,λ_=>⟨λ_=>?_,λ_=>⟨λ_=>?_,λ_=>other (af.av _)⟩⟩⟩⟩⟩
 ·refine(KD r3 ab c3.hd T c3.hp ab (hv.le (fh F3))).mono λ_ m4⟨u,e,hu,r4,f4⟩=>⟨L3.cg f4,u,e,aO,aO,?_⟩;have c4:=c3.to f4 r4;have L4:=L3.fz f4;have F4:=F3.trans f4;have z4:=f4.size;have hut:Ty ds u:=by have:=nC ds c.gp.ds;unfold Ty;omega
  obtain⟨d0,d1⟩:=Nj (a:=b) (n:=2) ab ab;have d2:Int.tdiv b 2<=b -1:=by rw[aG7 ab];omega
  have d3:Int.tdiv b 2+Int.tdiv b 2<=b:=by rw[aG7 ab];omega
  rw[aF (x:=Int.tdiv b 2) ab ab];generalize Int.tdiv b 2=h2 at*;have hm:=sR d2;have G0:∀{M M':ah},Fz [rb] m4 M->Fz [rb] M M'->ad M' m.size 0=ad M m.size 0:=λf f'=>L4.bH f f' az _;have G1:∀{M M':ah},Fz [rb] m4 M->Fz [rb] M M'->ad M' m.size 1=ad M m.size 1:=λf f'=>L4.bH f f' az _;have A:=λ(M:ah)(cM:GC rb bs (P+2) d p ds fs M)(f:Fz [rb] m4 M)=>ih h2 d0 d2 (m1.size::S) rb (P+2) bs d p vars M v u (kX (by have:=f.size;omega)) (by simp[dx]) cM ab (hv.le (fh (F4.trans f))) ab hut;have B:=λ(M:ah)(w:Sl)(cM:GC rb bs (P+2+Cg h2) d p ds fs M)(f:Fz [rb] m4 M)(hw:IR rb M w (v++[u]))=>ih h2 d0 d2 (m1.size::S) rb (P+2+Cg h2) bs d p w M (v++[u]) t (kX (by have:=f.size;omega)) (by simp[dx]) cM ab hw bg ht;have C:=λ(M:ah)(w:Sl)(f:Fz [rb] m4 M)(hR:rb<M.size)(h:IR rb M w [u])=>cS (S:=[rb]) (by simp;exact hR) (hv.le (fh (F4.trans f))) h bg;have D:=λ(M0 M:ah)(e1 e2:Ex)(t1 t2:Sl)(f:Fz [rb] m4 M)(hR:Rd rb bs (P+2+Cg h2+Cg h2) M)(h1:dC (aY (m1.size::S) M) t1 e1.aW)(Ve:dC (aY (m1.size::S) M) t2 e2.aW)(w1:WX ds fs.length v.length e1)(w2:WX ds fs.length (v++[u]).length e2)=>
   have x:=af.push M (.cells (aU [.i e1.op,.i e1.bh,.s t1,.i e2.op,.i e2.bh,.s t2]) aX)
   have Sv:=kX (M:=M) (by have:=f.size;omega)
   XP.ret (S:=S) (Q':=λe=>WX ds fs.length v.length e/\(b<=2->e.n<=4)) (kD (hR.ext x) ((KG Sv 0 [(e1,t1),(e2,t2)] az (by simp;exact⟨h1,Ve⟩) rfl rfl).done zR.mono Sv aO az) 13 0) ((L4.fz f).fz (x.fz [])) ((F4.trans f).then x) c.rd ab (λe he=>he▸hQ _ (.lt w1 (by simpa using w2))) (P':=P+Cg b) ab
  refine⟨?_,?_⟩
  ·refine XP.then (A m4 c4 (Fz.av _ _)) L4 λs5 e5 m5 h5 q5 r5 f5=>⟨_,_,_,rfl,G0 (Fz.av _ _) f5,G1 (Fz.av _ _) f5,?_⟩;intro m6;have x6:af m5 m6:=af.push _ _;have SL:aj (aY [rb] m6) (.mk m5.size 0 1 1) [u]:=aj.lit au _ (by simp;exact r5.lt) rfl rfl az;clear_value m6;have f6:=f5.then x6;refine⟨G0 f5 (x6.fz _),G1 f5 (x6.fz _),G0 f5 (x6.fz _),G1 f5 (x6.fz _),?_⟩;refine(C m6 _ f6 (r5.ext x6).lt SL).mono λ_ m7⟨s7,l7,e,g7,q7,x7⟩=>⟨(L4.fz f6).cg (x7.fz _),s7,e,G0 f6 (x7.fz _),G1 f6 (x7.fz _),?_⟩;subst q7;refine XP.then (B m7 s7 (((c4.to f5 r5).ext x6).ext x7) (f6.then x7) (GI.done g7 (by simp;exact(r5.ext x6).lt) bg)) ((L4.fz f6).fz (x7.fz [])) λs8 e8 m8 h8 q8 r8 f8=>⟨_,_,_,rfl,?_⟩;exact D m8 m8 e5 e8 s5 s8 ((f6.then x7).trans f8) r8 (dC.le (((x6.trans x7).fz [rb]).trans f8|>.bO (by simp[dx])) h5) h8 q5.1 q8.1
  ·intro m5;have x5:af m4 m5:=af.push _ _;have QR:aj (aY [rb] m5) (.mk m4.size 0 1 1) [u]:=aj.lit au _ (by simp;exact r4.lt) rfl rfl az;clear_value m5;refine⟨G0 (Fz.av _ _) (x5.fz _),G1 (Fz.av _ _) (x5.fz _),G0 (Fz.av _ _) (x5.fz _),G1 (Fz.av _ _) (x5.fz _),?_⟩;refine XP.then (A m5 (c4.ext x5) (x5.fz _)) (L4.fz (x5.fz [])) λs6 e6 m6 h6 q6 r6 f6=>⟨_,_,_,rfl,G0 (x5.fz _) f6,G1 (x5.fz _) f6,?_⟩;have Zh:=(x5.fz [rb]).trans f6;refine(C m6 _ Zh r6.lt (QR.le (fh f6))).mono λ_ m7⟨s7,l7,e,g7,q7,x7⟩=>⟨(L4.fz Zh).cg (x7.fz _),s7,e,G0 Zh (x7.fz _),G1 Zh (x7.fz _),?_⟩;subst q7;refine XP.then (B m7 s7 (((c4.ext x5).to f6 r6).ext x7) (Zh.then x7) (GI.done g7 (by simp;exact r6.lt) bg)) ((L4.fz Zh).fz (x7.fz [])) λs8 e8 m8 h8 q8 r8 f8=>⟨_,_,_,rfl,?_⟩;exact D m8 m8 e6 e8 s6 s8 ((Zh.then x7).trans f8) r8 (dC.le ((x7.fz [rb]).trans f8|>.bO (by simp[dx])) h6) h8 q6.1 q8.1
 ·intro m4;have x4:af m3 m4:=af.push _ _;have lit:aj (aY [rb] m4) (.mk m3.size 0 3 3) [0,t,t]:=aj.lit au _ (by simp;exact r3.lt) rfl rfl az;clear_value m4;rw[ew1];exact zk ab ih (kX (by have:=x4.size;omega)) dx (c3.ext x4) ab (hv.le (fh (F3.then x4))) ab ab lit az (by simp;exact⟨c.gp.ty aO aO,ht⟩) (L3.fz (x4.fz [])) (F3.then x4) c.rd ab (λl hl hw=>hQ _ (.db aO (λ_=>by simpa using hl) aO (λh=>ab) hw)) ab
 ·exact XP.ret (IY (S:=m1.size::S) ⟨ab,ab⟩ ih Pk (by simp[dx]) c3 ab (hv.le (fh F3)) ab ht) L3 F3 c.rd ab hQ ab
 ·refine(IW (S:=[rb]) (by simp;exact r3.lt) (c3.hd.le (aV _ _)) T (nA.le (aV _ _) c3.hp) ab eZ t).mono λ_ m4⟨cl,l,e,gl,hq,x4⟩=>⟨L3.cg (x4.fz _),cl,e,λh=>?_,λ_=>other x4⟩;simp only[aFP]at h;have pt:IR rb m4 cl l:=GI.done gl (by simp;exact r3.lt) ab;have ly:=pt.len;have c4:=c3.ext x4;have L4:=L3.fz (x4.fz []);refine(bo c4.rd ab cl.len).mono λ_ m5⟨k,e,k0,k1,r5,f5⟩=>⟨L4.cg f5,k,e,k0,ab,?_⟩;obtain⟨y,hy⟩:=ae (l:=l) (k:=k.toNat) ab;obtain⟨fi,q,rfl,hfq⟩:=hq.1 y (ak hy);have c5:=c4.to f5 r5;obtain⟨ps,Rc,e0,e1⟩:=c5.hp.aE hfq;have gL:=ap hfq;have tA:=c5.hp.len;have vL:=vG _ (c.gp.cq q (ak hfq));have f5':=(x4.fz [rb]).trans f5;refine⟨_,(cT.1 ((pt.le (fh f5)).aE hy)).2,ab,ab,ps,(cT.1 e0).2,?_⟩;rw[ew1];exact zk ab ih (kX (by have:=f5'.size;omega)) dx c5 ab (hv.le (fh (F3.trans f5'))) ab ab Rc vL.1 (λt ht=>c.gp.ty (vL.2.1 t ht).1 (vL.2.1 t ht).2) (L4.fz f5) (F3.trans f5') c.rd ab (λl _ hw=>hQ _ (.db aO (λh=>ab) aO (λ_=>⟨ab,ab⟩) hw)) ab
theorem RZ{ds:List aS}{fs:List bY}:∀(n:Nat)(b:Int),b.toNat=n->0<=b/\b<=100->KF ds fs b:=λn=>by
 induction n using Nat.strongRecOn with
 |ind n ih=>exactλb hb h=>afk h λb' h0 h1=>ih b'.toNat ab b' rfl ⟨h0,ab⟩
section
variable{S:List Nat}{rb P:Nat}{bs d p vars:Sl}{ds:List aS}{fs:List bY}{m:ah}{v:List Int}
def Fit(ds:List aS)(nf a:Nat)(e:Ex):Prop:=WX ds nf a e/\e.n<=30
theorem KH(hS:∀c∈S,c<m.size)(dx:rb∈S)(c:GC rb bs P d p ds fs m)(hP:P+20*Cg 18<=10000000000000000)(hv:IR rb m vars v)(Vl:v.length<=100){t:Int}(ht:Ty ds t){b:Int}(hb:0<=b/\b<=18):
 aD Tryz.prog 215 [vp rb 0,.agg #[Sl.v d,Sl.v p],Sl.v vars,vi t,vi b] m (XP S rb bs m (P+20*Cg 18) (Fit ds fs.length v.length)):=by
 apply Cv (rb,0)
 simp -zeta only[aw,ax]
 intro m1 m2
 obtain⟨x2,hl⟩:=cv (m1:=m1) (m2:=m2) rfl rfl
 have s1:m1.size=m.size+1:=by simp[m1]
 clear_value m2
 have hr:=c.rd.lt
 have z2:=x2.size
 have L2:Lw rb [m1.size,m.size] m2:=λb hb=>⟨hl b hb,by simp at hb;omega⟩
 have kX:∀{M:ah},m2.size<=M.size->∀e∈m1.size::S,e<M.size:=λh e he=>by have:=bd hS x2.size (hl m1.size az) e he;omega
 have c2:=c.ext x2
 have hm:=sR hb.2
 refine XP.then (RZ _ b rfl ⟨hb.1,ab⟩ (m1.size::S) rb P bs d p vars m2 v t (kX (aFR _)) (by simp[dx]) c2 ab (hv.le (fh (x2.fz _))) ab ht) L2 λs3 e3 m3 h3 q3 r3 f3=>⟨_,_,_,rfl,?_⟩
 intro m4 m5
 have x5:af m3 m5:=(af.push m3 _).ag (aFR _) _ _
 have B5:bK m5 m3.size aX [.i e3.op,.i e3.bh,.s s3]:=bK.ag (m:=m4) (o:=0) (r:=[.i e3.op,.i e3.bh,.s s3]) (bK.push m3 _ _)
 have s5:m5.size=m3.size+1:=by simp[m5,m4,aq]
 clear_value m5
 have z3:=f3.size
 have f5:=f3.then x5
 have V7:∀e∈m3.size::m1.size::S,e<m5.size:=bd (kX z3) x5.size ab
 refine⟨λbb M=>∃(s:Sl)(e:Ex)(k:Nat),0<=bb/\bb<=18/\bb.toNat<=k/\k<=18/\bK M m3.size aX [.i e.op,.i e.bh,.s s]/\dC (aY (m3.size::m1.size::S) M) s e.aW/\WX ds fs.length v.length e/\(bb<=2->e.n<=4)/\Rd rb bs (P+(19 -k)*Cg 18) M/\Fz [rb] m2 M/\m5.size<=M.size,λbb _=>bb.toNat,⟨s3,e3,18,hb.1,hb.2,ab,aFR _,B5,?_,q3.1,q3.2,(r3.ext x5).mono ab,f5,aFR _⟩,?_⟩
 ·exact dC.le (x5.aY λb hb=>(List.mem_cons.1 hb).elim (λh=>Or.inr ab) Or.inl) h3
 rintro bb M ⟨s,e,k,b0,b1,bk,k18,B,hs,hw,hn,rM,fM,zM⟩
 have LM:=L2.fz fM
 have FM:=(x2.fz [rb]).trans fM
 refine⟨_,B.bH 0,_,B.bH 1,_,B.bH 2,?_⟩
 refine(zi (dC.le (aV _ _) hs)).mono λ_ m6⟨n6,e6,q6,x6⟩=>⟨LM.cg (x6.fz _),n6,e6,?_⟩
 have B6:=B.ext x6
 have r6:=rM.ext x6
 have f6:=fM.then x6
 have z6:=x6.size
 have L6:=L2.fz f6
 have kc:(19 -k)*Cg 18+Cg 18<=20*Cg 18:=by rw[<-aHm];exact aGh _ ab
 have aT:e.n<=30->∃v0:Int,ad m6 m3.size 0=some (vi v0)/\∃v1:Int,ad m6 m3.size 1=some (vi v1)/\∃v2:Sl,ad m6 m3.size 2=some (Sl.v v2)/\XP S rb bs m (P+20*Cg 18) (Fit ds fs.length v.length) (.agg #[vi v0,vi v1,Sl.v v2]) (ag m6 m1.size 0 [.i v0,.i v1,.s v2]):=λh30=>
  ⟨_,B6.bH 0,_,B6.bH 1,_,B6.bH 2,s,e,rfl,dC.le (bt az λc hc=>aFT _ (aFT _ hc)) (dC.le (x6.bO _) hs),⟨hw,h30⟩,c.rd.ag (r6.mono ab) ((x2.fz _).trans f6) ab 0 _,((x2.fz _).trans f6).ag (Or.inr ab) _ _⟩
 refine⟨λh=>⟨λh2=>?_,λh2=>aT (by simp only[aFQ]at h2;have:=hn ab;omega)⟩,λh=>aT (by simp only[aFQ]at h;omega)⟩
 simp only[aFP]at h2
 obtain⟨d0,d1⟩:=Nj (a:=bb) (n:=2) b0 ab
 have d2:Int.tdiv bb 2<=bb -1:=by rw[aG7 b0];omega
 rw[aF (x:=Int.tdiv bb 2) ab ab]
 generalize Int.tdiv bb 2=h2 at*
 have hm2:=sR (a:=h2) (b:=18) ab
 refine⟨aO,?_⟩
 refine XP.then (RZ _ h2 rfl ⟨d0,ab⟩ (m3.size::m1.size::S) rb _ bs d p vars m6 v t (λe he=>by have:=V7 e he;omega) (by simp[dx]) (c2.to f6 r6) ab (hv.le (fh ((x2.fz _).trans f6))) ab ht) L6 λs7 e7 m7 h7 q7 r7 f7=>⟨_,_,_,rfl,?_⟩
 have aAJ:rb≠m3.size:=ab
 have B7:bK m7 m3.size aX [.i e.op,.i e.bh,.s s]:=B6.congr (f7.same _ ab bg)
 refine⟨B7.dW az,?_⟩
 intro m8
 have B8:bK m8 m3.size aX [.i e7.op,.i e7.bh,.s s7]:=bK.ag (m:=m7) (o:=0) (r:=[.i e7.op,.i e7.bh,.s s7]) B7
 have f8:Fz [rb] m2 m8:=(f6.trans f7).ag (Or.inr ab) _ _
 have s8:m8.size=m7.size:=aq _ _ _ _
 have z7:=f7.size
 refine⟨λb hb=>aP _ _ _ _ (by have:=(L2 b hb).1;omega),⟨s7,e7,k -1,d0,ab,ab,ab,B8,?_,q7.1,q7.2,?_,f8,ab⟩,by show h2.toNat<bb.toNat;omega⟩
 ·exact dC.le (bt az λc hc=>hc) h7
 ·refine c2.rd.ag (r7.mono ?_) (f6.trans f7) ab 0 _
  rw[show 19 -(k -1)=19 -k+1 by omega,aHm];omega
end
end
end Go.Proofs.YtakpkjhmbbfniaaGreat
