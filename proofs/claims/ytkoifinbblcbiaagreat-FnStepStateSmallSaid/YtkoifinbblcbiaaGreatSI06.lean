/- Part of a proof. -/
import Derived.Carry
import Derived.ChangeSame
import Derived.ChangeSlices
import Derived.Deep.Slices
import Derived.OpenShut
import Derived.RowKit
import Derived.WideShapes
import Derived.Test.YtkoifinbblcbiaaGreatSI00
import Derived.Test.YtkoifinbblcbiaaGreatSI02
import Derived.Test.YtkoifinbblcbiaaGreatSI03
import Derived.Test.YtkoifinbblcbiaaGreatSI04
import Derived.Test.YtkoifinbblcbiaaGreatSI05
set_option linter.all false
set_option maxHeartbeats 8000000
set_option maxRecDepth 100000
namespace Go.Proofs.YtkoifinbblcbiaaGreat
open Go.Vc
section
variable{M:E}
def Ss{k b:Nat}(a:b<k)(h:k<=M.size):(M.extract 0 k)[b]? =M[b]? :=((J.Np h).same b (by rw[mh h];exact a)).symm
def pw.old{mx M':E}{f:Nat->Nat}{aS c a:O}{s:St}(h:pw mx f M aS c a s)(d:M.size<=M'.size)(g:∀b,mx.size<=b->b<M.size->M'[b]? =M[b]?):pw (M'.extract 0 mx.size) f M' aS c a s:=
 have e:=bI h.bs.cz.size d
 h.Rv (by rw[mh e];exact ad _) d g (J.Np e)
def vJ.old{a M M':E}{i:Nat->Nat}{c e:Nat}{d:List Ce}{aS h f:O}{s:St}(L:vJ a i M c e d aS h f s.aS s.heap s.ao)(j:a.size<=c)(k:M.size<=M'.size)(g:∀b,a.size<=b->b<M.size->M'[b]? =M[b]?):vJ (M'.extract 0 a.size) i M' c e d aS h f s.aS s.heap s.ao:=
 have N:=pw.old (s:=s) ⟨⟨L.cz,L.jT,L.new⟩,L.aS,L.heap,L.ao⟩ k g
 ⟨N.bs.cz,N.bs.jT,N.bs.new,L.box.congr (g _ j L.box.lt),L.QR,N.aS,N.heap,N.ao⟩
def XC{Y:List Nat}{m:E}(f:Fz Y m M):Le (bH Y m) (M.extract 0 m.size):=λc o v e=>by
 let⟨d,a⟩:=eT.1 e;have b:=mg a;rw[aI ((Ss b f.size).trans (f.same c b d))];exact a
def GSt(f:cQ)(d:Nat)(e:O)(m:E)(P:Nat)(v:Value)(a:E):Prop:=∃n g aS c b s,v=NF s aS c b/\pw (a.extract 0 n) g a aS c b s/\m.size<=n/\n<=a.size/\cR f s/\Sm 100000 s/\Rd d e P a/\Fz [d] m a
section
variable{f:List Nat}{a:E}{b P:Nat}{e d p:O}{c:cQ}
def IV(H:Rd b e P a)(hP:P+100<=10^16)(hd:cy (bH [b] a) d c.bo)(hp:iJ (bH [b] a) p c.cJ)(K:nt c):aN cg 55 [vp b 0,.agg #[O.v d,O.v p]] a (GSt c b e a (P+6)):=by
 apply Bd (b,0);simp -zeta only[aC,aB];have hr:=H.lt;intro l t;let⟨x2,r⟩:=dD (a:=l) (c:=t) rfl rfl;have s1:l.size=a.size+1:=by simp[l]
 have B2:cF t a.size vA [.s d,.s p]:=(cF.push a _ _).ext (J.push l _);clear_value t;have r2:Rs b e a P t:=⟨x2.fz _,H.ext x2⟩;intro N;have x3:J t N:=J.push _ _;have G3:∀o,af N a.size o=af t a.size o:=λo=>aI (x3.same _ B2.lt) o;refine⟨G3 _,G3 _,G3 _,G3 _,?_⟩;refine(Aq r2 V [40,40,12,3,0,20] rfl rfl aL).mono λ_ j⟨dT,h,aE,r4,w⟩=>?_;have z3:=x3.size;have z2:=x2.size;have w:Fz [b] N j:=w;have z4:=w.size;have aY:=r l.size aL;have Z:0<=dT/\dT<=40:=by simp at aE;omega
 have A:∀o,af j a.size o=af N a.size o:=λo=>aI (w.same _ V bF) o;refine⟨w.dv λf g=>by have:=r f g;simp at g⊢;omega,dT,h,A _,A _,A _,A _,?_⟩;have aG:∀{M:E},Fz [b] a M->fy M d p c:=λG=>have aq:=(G.dg (S:=[b]) aL).trans (bA _ _);⟨hd.le aq,iJ.le aq hp⟩;refine(Fi (aG r4.f) K dT).mono ?_;rintro _ u ⟨aS,aF,fr,rfl,x,b1,b2,b3,b4,aZ,q1,q2,q3,q4,q5,au,q6,k4⟩;have z5:=x.size;have G5:∀o,af u a.size o=af j a.size o:=λo=>aI (x.same _ V) o;refine⟨x.dv λf g=>oh (r f g),_,_,_,_,_,_,_,rfl,G5 _,G5 _,?_⟩;intro n;have x6:J u n:=J.push _ _;have kb:cF n u.size bK (SB d p (lQ c dT) aS aF fr):=cF.push u _ _;have L6:=Uz (m:=j) (Np:=[.s d,.s p]) ⟨q1,q2,q3,q4,q5⟩ au q6 k4 x6 (ad _) kb;have s6:n.size=u.size+1:=by simp[n]
 clear_value n;have r6:=(r4.ext x).ext x6;have L:∀{M:E},n.size<=M.size->Lw b [u.size,l.size,a.size] M:=λaX=>lw hr bF;refine(cq r6.r V 60).mono λ_ m7⟨B,h,aO,aP,d7,U⟩=>⟨(L (ad _)).dv U,B,h,?_⟩;have z7:=U.size;refine(cq d7 V 200).mono λ_ m8⟨C,h,aQ,aR,d8,W⟩=>⟨(L z7).dv W,C,h,?_⟩;have z8:=W.size;refine(cq d8 V 20).mono λ_ m9⟨D,h,aT,aU,d9,X⟩=>⟨(L V).dv X,D,h,?_⟩;have z9:=X.size;refine(cq d9 V 100).mono λ_ aa⟨F,h,aV,aW,aw,Q⟩=>⟨(L V).dv Q,F,h,?_⟩;have vH:=Q.size;have ai:=((U.trans W).trans X).trans Q;have ae:=J.push aa (.cells (bu [.i B,.i C,.i D,.i 100000,.i 0,.i F]) aA);have a2:=ae.size;refine(Aq (r6.to ai aw) V [B,C,D,100000,0,F] rfl rfl aL).mono λ_ y⟨ab,h,aj,am,v⟩=>?_;have v:Fz [b] (aa.push (.cells (bu [.i B,.i C,.i D,.i 100000,.i 0,.i F]) aA)) y:=v;refine⟨(L (bI (by omega:n.size<=aa.size) ae.size)).dv v,ab,h,?_⟩;have a3:=v.size;obtain⟨q,rfl⟩:∃q:Nat,ab=q:=⟨ab.toNat,by simp at aj;omega⟩;have hn:q<=100000:=by simp at aj;omega
 have T:=(ai.trans (ae.fz _)).trans v;have ah:=L6.old (s:=lQ c dT) (M':=y) V T.size λf h1 h2=>T.same f h2 bF;have e0:(y.extract 0 j.size).size=j.size:=mh V;have w4:Le (bH [b] a) (y.extract 0 j.size):=(r4.f.dg aL).trans (XC (((x.trans x6).fz [b]).trans T));refine(Qy (s:=lQ c dT) ah ⟨hd.le w4,iJ.le w4 hp⟩ (ME K Z) (QA c dT) q hn V).mono ?_;rintro _ z ⟨⟨nn,rfl⟩,a1,aH,az,ay,i,ap⟩;have ak:=wP q (ME K Z);have I:=wQ q (ME K Z) (QA c dT) V;have al:=ak.ji I V;generalize aD c q (lQ c dT)=st at*;have a4:=ap.size;have ao:∀f,f<j.size->z[f]? =y[f]? :=λf g=>(i.cz.same f V).trans (Ss g V);have aJ:Rs b e a (P+6) z:=by
  have G:Fz [b] a z:=⟨V,λf g hn=>(ao f V).trans (am.f.same f g hn)⟩;exact⟨G,(H.Nj am.r G (ao b V)).mono V⟩
 refine⟨ap.dI λf g=>⟨by have:=r f g;omega,ah.jT f (oh (r f g))⟩,nn,rfl,_,i.box.cp 2,_,i.box.cp 3,_,i.box.cp 4,_,i.box.cp 5,aH,i.box.cp 6,az,i.box.cp 7,ay,i.box.cp 8,(pU (Bs.yQ z) (λ_=>dN _) (i.Ew al) al).mono ?_⟩;rintro _ a0 ⟨aK,ac,Y,R,rfl,av,ar⟩;have ag:=ar.uY;have aM:=ag.size;refine⟨ag.dv λf g=>oh (r f g),_,_,_,_,ac,Y,R,rfl,?_⟩;have an:=(aJ.ext ag).put H (k:=l.size) V 0 [.i st.cv,.i st.value,.i st.br,.i st.dT,.s ac,.s Y,.s R];exact⟨z.size,aK,ac,Y,R,st,rfl,av.old (ua (ax _ _ _ _).symm) λf g _=>be _ _ _ _ V,V,by rw[ax];exact aM,ak,⟨by have:=I.heap;omega,oh I.aS,I.uE⟩,an.r,an.f⟩
end
end
section
variable{q:O}
def cR.YL{q:cQ}{s:St}{n:Nat}(h:cR q s)(c:Sm n s)(x:n<=10000000):zE s:=by
 have l:=h.ji c V;have i:=h.br;have v:=h.dT;have u:=c.heap;have C:=Ia h;have t:=l.depth;refine⟨⟨V,V⟩,λd i w a=>?_,λf b=>?_,V,V,λf b=>oh (l.ao f b)⟩
 .have k:=h.heap.cell d i;rcases Jw d.aQ 1 with e|e
  .have:=(k.wZ e).2.1 w a;exact⟨V,V⟩
  .rcases(k.oT V).1 w a with e|⟨e,j,g,_⟩
   .exact⟨by have:=e.1;omega,oh e.2⟩
   .have:=aw g;have:=iv e;exact⟨V,V⟩
 .let⟨k,o⟩:=List.mem_iff_getElem?.1 b;have F:=C.ao k f o;refine⟨λw a=>⟨?_,c.uE f b w a⟩,λr p=>?_,λw a=>?_⟩
  .rcases(h.ao f b).Sv w a with e|e
   .have:=e.1;omega
   .omega
  .let⟨m,j⟩:=List.mem_iff_getElem?.1 p;have:=F.lr;have:=F.lo;have:=aw j;let⟨w,a⟩:=cG f.ak m;have:=(F.ak.dz m w r a j).2.1;exact⟨V,V⟩
  .rcases C.ba.cN f b w a with e|⟨e,g⟩
   .exact⟨V,V⟩
   .have:=iv e;exact⟨V,V⟩
structure Mv(n:Nat)(ro:Nat->Nat)(M:E)(ro':Nat->Nat)(M':E):Prop where
 size:M.size<=M'.size
 eB:∀b,b<M.size->n<=b->M'[b]? =M[b]?
 gX:∀b,b<M.size->ro' b=ro b
 new:∀b,M'.size<=b->ro' b=0
 jT:∀b,b<n->ro b=0
section
variable{n:Nat}{a d:Nat->Nat}{M b:E}
def iI.mv{e f k:Nat}{s:O}{l:List Ce}(h:iI a M e f k s l)(v:Mv n a M d b)(g:k≠0):iI d b e f k s l:=
 h.eB (λc=>v.eB _ (h.D c).1 (HL λe=>g (by rw[<-(h.D c).2];exact v.jT _ e))) λc=>v.gX _ (h.D c).1
def dK.mv{i:O}{h:List bE}(q:dK n a M i h)(v:Mv n a M d b):dK n d b i h:=by
 let⟨l,j,a2,a3⟩:=q;refine⟨l,j.mv v bh,a2.mono λs r⟨o,m,f,g⟩=>⟨o,m,iT f λc=>v.eB _ (iH f c) (g c).2.1,λc=>?_⟩,a3⟩;let⟨g1,g2,k,tail,p,e⟩:=g c;exact⟨(v.gX _ e.lt).trans g1,g2,k,tail,p,e.congr (v.eB _ e.lt g2)⟩
def Tx.mv{i:Nat}{c:List Ce}{f:aX}(v:Mv n a M d b):Tx a M i c f->Tx d b i c f:=λ⟨r,o,k,j,e,g,h⟩=>⟨r,o,k,j,e.mv v V,g.mv v V,h.mv v V⟩
def tc.mv{e:O}{g:List aX}{f:aX}{r o h:O}{c:List (List Ce)}(T:tc a M e g f r o h c)(v:Mv n a M d b):tc d b e g f r o h c:=
 ⟨T.qe.mv v bh,T.len,T.size,λm i j k l=>(T.dz m i j k l).mv v,T.ak.mv v V,T.aR.mv v V,T.ba.mv v V⟩
def nJ.mv{c:O}{e:List aX}(l:nJ a M c e)(v:Mv n a M d b):nJ d b c e:=by
 let⟨g,h⟩:=l;exact⟨g,h.qe.mv v bh,h.len,h.size,λm f i j k=>(h.dz m f i j k).mv v⟩
def tc.put{d:O}{b:List aX}{f g:aX}{s o p n m j:O}{h:List (List Ce)}(T:tc a M d b f s o p h)(v:∀e,M.size<=e->a e=0){i:Nat}(w:i<6){c:Ce}
 (u:je [.i f.fG,.i f.pc,.i f.dst,.s s,.s o,.s p] i [c]=[.i g.fG,.i g.pc,.i g.dst,.s n,.s m,.s j])(t:iI a M aA 1 (10+3*b.length) n (g.ak.map Ce.i))(q:iI a M aA 1 (11+3*b.length) m (g.aR.map Ce.i))(r:iI a M aA 1 (12+3*b.length) j (g.ba.map Ce.i)):
 fL M d.D (d.off+b.length*6+i) 1/\tc a (ah M d.D (d.off+b.length*6+i) [c]) d b g n m j h/\dp (λk=>4<=k/\k≠9) a M a (ah M d.D (d.off+b.length*6+i) [c]):=by
 have e:dp (λk=>k=4) a M a (ah M d.D (d.off+b.length*6+i) [c]):=dp.ah v T.D.1 _ _
 have l:h.flatten.length=b.length*6:=by rw[cx T.size,T.len]
 refine⟨by rw[dj];exact T.qe.wr (by simp only[bd,l,aY,eG];omega),⟨?_,T.len,T.size,T.ym e λk q r=>V,t.eK e V,q.eK e V,r.eK e V⟩,e.mono λk x=>V⟩
 have:=T.qe.set (o:=b.length*6+i) (new:=[c]) (by simp[l];omega)
 rw[lE _ _ _ _ V,l,HK,u]at this
 rw[dj];exact this
end
structure SO(n:Nat)(ro:Nat->Nat)(M:E)(aS hp fr:O)(s:St):Prop where
 le:n<=M.size
 jT:∀b,b<n->ro b=0
 new:∀b,M.size<=b->ro b=0
 aS:iI ro M aA 1 2 aS (s.aS.map Ce.i)
 heap:dK n ro M hp s.heap
 ao:nJ ro M fr s.ao
structure FS(s:St):Prop where
 uE:zE s
 ji:zJ s
 lo:s.aS.length<=1000000/\s.heap.length<=1000000
section
variable{n:Nat}{a e:Nat->Nat}{M b:E}{aS d c:O}{s:St}
def SO.of(N:pw (M.extract 0 n) a M aS d c s)(h:n<=M.size):SO n a M aS d c s:=⟨h,λb e=>N.bs.jT b (by rw[mh h];exact e),N.bs.new,N.aS,by have:=N.heap;rwa[mh h]at this,N.ao⟩
def SO.mv(w:SO n a M aS d c s)(v:Mv n a M e b):SO n e b aS d c s:=⟨bI w.le v.size,λf g=>(v.gX f (aO g w.le)).trans (w.jT f g),v.new,w.aS.mv v bh,w.heap.mv v,w.ao.mv v⟩
def SO.mvF(w:SO n a M aS d c s){h:Nat}(f:Fz [h] M b)(j:h<n):Mv n a M a b:=⟨f.size,λe g i=>f.same e g bF,λ_ _=>rfl,λe g=>w.new e (bI f.size g),w.jT⟩
def SO.eK{p:Nat->Prop}(w:SO n a M aS d c s)(C:dp p a M e b):n<=b.size/\(∀f,f<n->e f=0)/\∀f,b.size<=f->e f=0:=⟨bI w.le C.size,λf g=>(C.gX f (aO g w.le)).trans (w.jT f g),C.new⟩
def SO.box(w:SO n a M aS d c s){b:Nat}(g:a b=1)(o:Nat)(l:List Ce):SO n a (ah M b o l) aS d c s:=by
 have C:dp (λk=>k=1) a M a (ah M b o l):=dp.ah w.new g _ _;let⟨e,b,f⟩:=w.eK C;exact⟨e,b,f,w.aS.eK C bh,w.heap.eK C bh bh,w.ao.eK C λk h=>V⟩
def SO.IF(w:SO n a M aS d c s)(C:dp (λk=>k=2) a M e b){l:List Int}(A:iI e b aA 1 2 q (l.map Ce.i)):SO n e b q d c {s with aS:=l}:=
 let⟨f,g,h⟩:=w.eK C
 ⟨f,g,h,A,w.heap.eK C bh bh,w.ao.eK C λk i=>V⟩
def SO.gB(w:SO n a M aS d c s)(C:dp (λk=>k=3) a M e b){h:List bE}(A:dK n e b q h):SO n e b aS q c {s with heap:=h}:=
 let⟨f,g,i⟩:=w.eK C
 ⟨f,g,i,w.aS.eK C bh,A,w.ao.eK C λk j=>V⟩
def SO.jL(w:SO n a M aS d c s)(C:dp (λk=>4<=k/\k≠9) a M e b){l:List aX}(A:nJ e b q l):SO n e b aS d q {s with ao:=l}:=
 let⟨f,g,h⟩:=w.eK C
 ⟨f,g,h,w.aS.eK C bh,w.heap.eK C bh bh,A⟩
def SO.Ew(w:SO n a M aS d c s)(h:zJ s):gF M aS d c s:=⟨w.aS.nM (oh h.aS),w.heap.cells (oh h.heap),w.ao.Ew (oh h.depth) h.ao⟩
end
end
section
variable{K:Int->E->Prop}{p:Nat->Prop}
def SP(n h:Nat)(f:O)(g:E)(P:Nat)(v:Value)(a:E):Prop:=∃aS e d s,v=NF s aS e d/\(∀c,a.size<=c.size->(∀b,b<a.size->n<=b->c[b]? =a[b]?)->gF c aS e d s)/\zE s/\(s.aS.length<=1000000/\s.heap.length<=1000000)/\Rs h f g P a
structure SQ(n rb:Nat)(bs:O)(ma:E)(k1 k2 Q:Nat)(ro:Nat->Nat)(M:E)(aS hp fr:O)(s:St):Prop where
 w:SO n ro M aS hp fr s
 r:Rs rb bs ma Q M
 k1:ro k1=1/\k1<M.size/\n<=k1
 k2:ro k2=1/\k2<M.size/\n<=k2
 fs:FS s
section
variable{n b m q Q w P t:Nat}{j aS h f:O}{e M d:E}{r u:Nat->Nat}{s v:St}{L:List Nat}
def SQ.fz(a:SQ n b j e m q Q r M aS h f s)(g:b<n)(c:Fz [b] M d)(i:Rs b j e w d):SQ n b j e m q w r d aS h f s:=
 ⟨a.w.mv (a.w.mvF c g),i,⟨a.k1.1,aO a.k1.2.1 c.size,a.k1.2.2⟩,⟨a.k2.1,aO a.k2.2.1 c.size,a.k2.2.2⟩,a.fs⟩
def SQ.ext(a:SQ n b j e m q Q r M aS h f s)(c:b<n)(x:J M d):SQ n b j e m q Q r d aS h f s:=a.fz c (x.fz _) (a.r.ext x)
def SQ.gH(c:SQ n b j e m q Q r M aS h f s)(o:b<n)(k:∀a∈L,a=m\/a=q)(i:Fz [b] M d):eI L M d:=i.dv λa l=>by
 have:=c.k1;have:=c.k2;rcases k a l with g|g<;>simp only[lI]<;>omega
def SQ.gk(a:SQ n b j e m q Q r M aS h f s)(g:b<n)(c:Fz [b] M d)(o:Nat):af d q o=af M q o:=aI (c.same _ a.k2.2.1 (by have:=a.k2;simp only[lI];omega)) o
def SQ.done(a:SQ n b j e m q Q r M aS h f s)(v:Rd b j t e)(C:e.size<=n)(x:Q<=P){o c g p:Int}(A:HP g)(l:List Ce):SP n b j e P (.agg #[vi o,vi c,vi g,vi p,O.v aS,O.v h,O.v f]) (ah M m 0 l):=by
 have w:=a.w.box a.k1.1 0 l;have u:=a.r.put v (k:=m) (oh a.k1) 0 l;exact⟨aS,h,f,⟨o,c,g,p,s.aS,s.heap,s.ao⟩,rfl,λd z B=>have i:=(w.mv ⟨z,B,λ_ _=>rfl,λc y=>w.new c (bI z y),w.jT⟩).Ew a.fs.ji;⟨i.aS,i.heap,i.ao⟩,⟨A,a.fs.uE.heap,a.fs.uE.ao,a.fs.uE.lh,a.fs.uE.lf,a.fs.uE.lr⟩,a.fs.lo,u.f,u.r.mono x⟩
def SQ.box(a:SQ n b j e m q Q r M aS h f s)(c:Rd b j t e)(d:e.size<=n)(o:Nat)(l:List Ce):SQ n b j e m q Q r (ah M q o l) aS h f s:=
 ⟨a.w.box a.k2.1 o l,a.r.put c (oh a.k2) o l,by rw[ax];exact a.k1,by rw[ax];exact a.k2,a.fs⟩
def SQ.lM(l:SQ n b j e m q Q r M aS h f s)(g:b<n)(u:Q<=10^16)(p:∀a∈L,a=m\/a=q)(a:List Int){c:List Ce}{i:Nat}(w:c=a.map Ce.i)(v:i=a.length)(z:0<a.length/\a.length<=100)
 (y:∀t d,t∈a->SQ n b j e m q (Q+1) r d aS h f s->Fz [b] (M.push (.cells (bu c) aA)) d->K t d):aN cg 39 [vp b 0,O.v (.mk M.size 0 i i)] (M.push (.cells (bu c) aA)) λC d=>eI L (M.push (.cells (bu c) aA)) d/\∃t:Int,C=vi t/\K t d:=
 have x:=J.push M (.cells (bu c) aA)
 (Aq l.r u a w v z).mono λ_ d⟨t,o,A,B,k⟩=>⟨(l.ext g x).gH g p k,t,o,y t d A ((l.ext g x).fz g k B) k⟩
def SQ.pick(c:SQ n b j e m q Q r M aS h f s)(i:b<n)(o:Q<=10^16)(l:∀a∈L,a=m\/a=q)(g:Int)
 (p:∀t d,0<=t->(t<g\/t=0)->SQ n b j e m q (Q+1) r d aS h f s->Fz [b] M d->K t d):aN cg 40 [vp b 0,vi g] M λw d=>eI L M d/\∃t:Int,w=vi t/\K t d:=
 (cq c.r.r o g).mono λ_ d⟨t,k,v,t1,u,a⟩=>⟨c.gH i l a,t,k,p t d v t1 (c.fz i a (c.r.to a u)) a⟩
def SQ.eK(a:SQ n b j e m q Q r M aS h f s)(l:Rd b j t e)(E:e.size<=n)(C:dp p r M u d)(h:∀k,p k->2<=k){x o k:O}(B:SO n u d x o k v)(z:FS v):SQ n b j e m q Q u d x o k v:=
 have D:=l.lt
 have w:∀c,c<n->d[c]? =M[c]? :=λc g=>C.eB c (aO g a.w.le) λy=>by have:=h _ y;have:=a.w.jT c g;omega
 have i:Fz [b] e d:=⟨bI a.r.f.size C.size,λc g A=>(w c V).trans (a.r.f.same c g A)⟩
 ⟨B,⟨i,l.Nj a.r.r i (w b V)⟩,⟨(C.gX _ a.k1.2.1).trans a.k1.1,aO a.k1.2.1 C.size,a.k1.2.2⟩,⟨(C.gX _ a.k2.2.1).trans a.k2.1,aO a.k2.2.1 C.size,a.k2.2.2⟩,z⟩
def SQ.dv(g:SQ n b j e m q Q r M aS h f s)(i:∀a∈L,a=m\/a=q)(C:dp p r M u d)(h:∀k,p k->2<=k):eI L M d:=λa k=>by
 have l:=g.k1;have a2:=g.k2;rcases i a k with c|c<;>subst c<;>exact C.eB _ V λc=>by have:=h _ c;omega
def SQ.fU(t:SQ n b j e m q Q r M aS h f s)(u:cU ((f.len:Int) -1)>=0):∃a g l o k d,s.ao=a++[g]/\tc r M f a g l o k d/\cU ((f.len:Int) -1)=(a.length:Int)/\f.len=a.length+1:=by
 have F:=t.w.ao;have p:=t.fs.ji.depth;rcases List.eq_nil_or_concat s.ao with c|⟨a,g,c⟩
 .rw[c]at F;let⟨d,i⟩:=F;have:=i.qe.len;rw[cx i.size,i.len]at this;simp only[eG]at this;rw[aP V V]at u;omega
 .rw[List.concat_eq_append]at c;rw[c]at F p;let⟨l,o,k,d,T⟩:=F.fU;have:=T.yg;simp at p;exact⟨a,g,l,o,k,d,c,T,by rw[aP V V];omega,this⟩
def FS.fU(h:FS s){d:List aX}{j g:aX}(i:s.ao=d++[j])(k:SF g)(l:g.ak.length<=1000000/\g.aR.length<=1000000/\g.ba.length<=1000000):FS {s with ao:=d++[g]}:=by
 have b:=h.uE;have c:=h.ji;have e:∀x∈d,x∈s.ao:=λx a=>by rw[i];simp[a]
 have f:=c.depth;rw[i]at f;simp at f;refine⟨⟨b.br,b.heap,λx a=>?_,b.lh,bF,λx a=>?_⟩,⟨c.aS,c.fl,c.heap,bF,λx a=>?_⟩,h.lo⟩<;>rcases List.mem_append.1 a with a|a
 .exact b.ao x (e x a)
 .simp at a;rw[a];exact k
 .exact b.lr x (e x a)
 .simp at a;rw[a];omega
 .exact c.ao x (e x a)
 .simp at a;rw[a];exact l
def SQ.sZ(c:SQ n b j e m q Q r M aS h f s)(o:Rd b j t e)(p:e.size<=n){l:List aX}{z g:aX}(y:s.ao=l++[z]){J H I:O}{w:List (List Ce)}(T:tc r d f l g J H I w)(C:dp (λk=>4<=k/\k≠9) r M r d)(E:SF g)(G:g.ak.length<=1000000/\g.aR.length<=1000000/\g.ba.length<=1000000)
 (A:∀a∈L,a=m\/a=q)(B:Q<=P){v a i x:Int}(D:HP i)(u:List Ce):eI L M d/\SP n b j e P (.agg #[vi v,vi a,vi i,vi x,O.v aS,O.v h,O.v f]) (ah d m 0 u):=
 ⟨c.dv A C λk F=>V,(c.eK o p C (λk F=>V) (c.w.jL C T.sZ) (c.fs.fU y E G)).done o p B D u⟩
def Hq{im:cQ}(I:Rd b j t e)(Q:e.size<=n)(aa:SO n r M aS h f s)(ae:Rs b j e P M)(hP:P+100<=10^16)(ok:cR im s)(hS:Sm 100000 s):aN cg 54 [vp b 0,NF s aS h f] M (SP n b j e (P+6)):=by
 apply zl (b,0);simp(config:={maxSteps:=1000000}) -zeta only[aC,aB];have k:b<n:=by have:=I.lt;omega
 have le:=aa.le;intro S m2;have s1:S.size=M.size+1:=by simp[S]
 have s2:m2.size=M.size+2:=by simp[m2,s1]
 have x2:J M m2:=(J.push M _).trans (J.push S _);clear_value m2;clear_value S;have q2:SQ n b j e S.size M.size P (ov (ov r M.size 1) S.size 1) m2 aS h f s:=⟨aa.mv ⟨x2.size,λW hb _=>x2.same W hb,λW hb=>by rw[eX V,eX V],λW hb=>by rw[eX V,eX V];exact aa.new W V,aa.jT⟩,ae.ext x2,⟨fJ _ _ _,V,V⟩,⟨by rw[eX V];exact fJ _ _ _,V,V⟩,⟨ok.YL hS V,ok.ji hS V,oh hS.aS,oh hS.heap⟩⟩;generalize ov (ov r M.size 1) S.size 1=ro2 at q2;have D:∀W∈[S.size,M.size],W=S.size\/W=M.size:=aL;have hc:=q2.fs.uE.br;have ay:=ok.dT;refine q2.pick k V D 30 λaz y _ _ m f3=>?_;have ai:SP n b j e (P+6) (.agg #[vi s.cv,vi s.value,vi s.br,vi s.dT,O.v aS,O.v h,O.v f]) (ah y S.size 0 [.i s.cv,.i s.value,.i s.br,.i s.dT,.s aS,.s h,.s f]):=m.done I Q V hc _;have Gw:∀p∈s.ao,(1<=p.ak.length/\p.ak.length<=2000)/\p.aR.length<=2000/\1<=p.ba.length:=λp hf=>by
  have hG:=ok.ao p hf;obtain⟨pg,_,au,ao,_⟩:=hG.JF ok.fB;have R:=hG.lr;have W:=hG.lo;have X:=hG.lh;rw[au]at R W X;have:=ao.ak;omega
 have KF:∀(R:O)(fb H:Nat)(ls:List Int){C:List Ce}{X:Nat},ro2 fb=4->fb<y.size->C=ls.map Ce.i->X=ls.length->0<ls.length/\ls.length<=100->∀{ak:Int->Int->E->Prop},(∀F x d,0<=F->(F<(R.len:Int)\/F=0)->x∈ls->SQ n b j e S.size M.size (P+3) ro2 d aS h f s->Mv n ro2 y ro2 d->ak F x d)->
  (aN cg 40 [vp b 0,vi (R.len:Int)] y λK v=>eI [S.size,M.size] y v/\∃F:Int,K=vi F/\af v fb H=af y fb H/\af v M.size 6=af y M.size 6/\(af (v.push (.cells (bu C) aA)) fb H=af v fb H/\af (v.push (.cells (bu C) aA)) M.size 6=af v M.size 6/\af (v.push (.cells (bu C) aA)) fb H=af v fb H/\af (v.push (.cells (bu C) aA)) M.size 6=af v M.size 6/\
   aN cg 39 [vp b 0,O.v (.mk v.size 0 X X)] (v.push (.cells (bu C) aA)) λK G=>eI [S.size,M.size] (v.push (.cells (bu C) aA)) G/\∃x:Int,K=vi x/\af G fb H=af (v.push (.cells (bu C) aA)) fb H/\af G M.size 6=af (v.push (.cells (bu C) aA)) M.size 6/\ak F x G))/\
  (af (y.push (.cells (bu C) aA)) fb H=af y fb H/\af (y.push (.cells (bu C) aA)) M.size 6=af y M.size 6/\af (y.push (.cells (bu C) aA)) fb H=af y fb H/\af (y.push (.cells (bu C) aA)) M.size 6=af y M.size 6/\
   aN cg 40 [vp b 0,vi (R.len:Int)] (y.push (.cells (bu C) aA)) λK v=>eI [S.size,M.size] (y.push (.cells (bu C) aA)) v/\∃F:Int,K=vi F/\af v fb H=af (y.push (.cells (bu C) aA)) fb H/\af v M.size 6=af (y.push (.cells (bu C) aA)) M.size 6/\
    aN cg 39 [vp b 0,O.v (.mk y.size 0 X X)] v λK G=>eI [S.size,M.size] v G/\∃x:Int,K=vi x/\af G fb H=af v fb H/\af G M.size 6=af v M.size 6/\ak F x G):=λR fb H ls C X h4 aw h1 h2 h3{ak} hX=>by
  have nb:fb∉[b]:=λw=>by simp at w;have:=q2.w.jT b k;rw[w]at h4;omega
  have ge:∀{M1 M2:E},y.size<=M1.size->Fz [b] M1 M2->af M2 fb H=af M1 fb H:=λav p=>aI (p.same fb V nb) H
  refine⟨?_,?_⟩
  .refine m.pick k V D (R.len:Int) λF v k0 ab A Z=>?_
   have T:=J.push v (.cells (bu C) aA)
   have z4:=Z.size
   refine⟨ge (ad _) Z,m.gk k Z _,ge z4 (T.fz _),A.gk k (T.fz _) _,ge z4 (T.fz _),A.gk k (T.fz _) _,A.lM k V D ls h1 h2 h3 λx G z q N=>⟨ge (bI z4 T.size) N,(A.ext k T).gk k N _,hX F x G k0 ab z q (m.w.mvF ((Z.trans (T.fz _)).trans N) k)⟩⟩
  .have U:=J.push y (.cells (bu C) aA)
   have A:=m.ext k U
   have z4:=U.size
   have L:ap (bH [b] (y.push (.cells (bu C) aA))) (.mk y.size 0 X X) ls:=ap.lit aA ls (by simp;exact m.r.r.lt) h1 h2 V
   refine⟨ge (ad _) (U.fz _),m.gk k (U.fz _) _,ge (ad _) (U.fz _),m.gk k (U.fz _) _,A.pick k V D (R.len:Int) λF m5 k0 ab B f5=>⟨ge z4 f5,A.gk k f5 _,?_⟩⟩
   refine(kE B.r.r V (ap.le (f5.dg aL) L) h3.1).mono λ_ G⟨x,w,z,Y,N⟩=>⟨B.gH k D N,x,w,ge (bI z4 f5.size) N,B.gk k N _,hX F x G k0 ab z (B.fz k N (B.r.to N Y)) (m.w.mvF (((U.fz _).trans f5).trans N) k)⟩
 refine⟨λ_=>m.lM k V D [0,1,2,3,4,-1] rfl rfl aL λx v _ A _=>(A.box I Q _ _).done I Q V hc _,λ_=>⟨λ_=>?_,λ_=>⟨λ_=>m.lM k V D [5,1000,0] rfl rfl aL λx v _ A _=>(A.box I Q _ _).done I Q V hc _,λ_=>⟨λ_=>?_,λ_=>⟨λ_=>?_,λ_=>⟨λ_=>⟨λz=>?_,λ_=>ai⟩,λ_=>⟨λ_=>⟨λz=>?_,λ_=>ai⟩,λ_=>⟨λ_=>⟨λz=>?_,λ_=>ai⟩,λ_=>⟨λ_=>⟨λz=>?_,λ_=>ai⟩,λ_=>⟨λ_=>⟨λz=>?_,λ_=>ai⟩,λ_=>ai⟩⟩⟩⟩⟩⟩⟩⟩⟩⟩
 .refine m.lM k V D [0,41,-1,cU (s.dT+1)] rfl rfl aL λx v z A _=>(A.box I Q _ _).done I Q V ?_ _;rw[aP V V]at z;simp at z;exact⟨V,V⟩
 .have U:=J.push y (.cells (bu [.i 5,.i 1000]) aA);refine⟨m.gk k (U.fz _) _,m.lM k V D [5,1000] rfl rfl aL λx m5 _ B f5=>⟨(m.ext k U).gk k f5 _,?_⟩⟩;intro G;have Y:J m5 G:=J.push _ _;have iD:fQ G m5.size 0 [.i x]:=(cF.push m5 [.i x] aA).iD;clear_value G;have q:=B.ext k Y;have ol:=q.w.aS.len;have os:=hS.aS;simp at ol;refine⟨B.gk k (Y.fz _) _,q.w.aS.append (zs:=[.i 0]) q.w.new rfl iD bF λu ag m7 ac L=>⟨q.dv D L λF hk=>V,?_⟩⟩;have q7:=q.eK I Q L (λF hk=>V) (q.w.IF (l:=s.aS++[x]) L (by rw[fw];exact ac)) ⟨⟨q.fs.uE.br,q.fs.uE.heap,q.fs.uE.ao,q.fs.uE.lh,q.fs.uE.lf,q.fs.uE.lr⟩,⟨bF,q.fs.ji.fl,q.fs.ji.heap,q.fs.ji.depth,q.fs.ji.ao⟩,bF,q.fs.lo.2⟩;exact(q7.box I Q _ _).done I Q V hc _
 .have ax:=m.w.heap.len;refine⟨λh1=>?_,λ_=>ai⟩;simp only[kJ,ar]at h1;refine m.pick k V D (h.len:Int) λR v a0 a1 A Z=>?_;let⟨X,al⟩:=cG s.heap R.toNat;obtain⟨_,g0,-⟩:=A.w.heap.cp al;have hb:=A.w.heap.D (a:=R.toNat) V;have nb:h.D≠b:=λw=>by have:=A.w.jT b k;rw[w]at hb;omega
  have T:=J.push v (.cells (bu [.i 1,.i (-1)]) aA);have e5:=λac=>aI (T.same _ hb.2) ac;refine⟨a0,V,_,g0,e5 _,A.gk k (T.fz _) _,A.gk k (T.fz _) _,A.lM k V D [1,-1] rfl rfl aL λx G _ q N=>?_⟩;have e6:=λac=>aI (N.same h.D (aO hb.2 T.size) (by simpa using nb)) ac;have B:=A.ext k T;refine⟨e6 _,B.gk k N _,B.gk k N _,a0,V,q.w.heap.wr (o:=0) V V,?_⟩;let⟨an,L⟩:=q.w.heap.ry q.w.new al (cU (X.aQ+x));have Y:=q.fs.uE;have aj:=q.fs.ji;refine⟨q.dv D L λF hk=>V,SQ.done (q.eK I Q L (λF hk=>V) (q.w.gB L an) ⟨⟨Y.br,λam hx=>?_,Y.ao,by simpa using Y.lh,Y.lf,Y.lr⟩,⟨aj.aS,λam hx=>?_,by simpa using aj.heap,aj.depth,aj.ao⟩,by simpa using q.fs.lo⟩) I Q V hc _⟩
  .rcases cD hx with w|w
   .exact Y.heap am w
   .rw[w];exact Y.heap X (aq al)
  .rcases cD hx with w|w
   .exact aj.fl am w
   .rw[w];exact aj.fl X (aq al)
 .simp only[oA,ar]at z;have U:=J.push y (.cells (bu [.i 0,.i 1,.i 99,.i (-1)]) aA);refine⟨m.gk k (U.fz _) _,m.lM k V D [0,1,99,-1] rfl rfl aL λx m5 _ B f5=>⟨(m.ext k U).gk k f5 _,?_⟩⟩;let⟨fs,p,ae,ac,ag,aj,w,T,ew,el⟩:=B.fU z;have N:p∈s.ao:=by rw[w];simp
  have Y:=B.fs.uE.ao p N;have fl:=B.fs.ji.ao p N;rw[ew];let⟨wr,T',L⟩:=T.put (i:=1) (g:={p with pc:=x}) (c:=.i x) B.w.new bh rfl T.ak T.aR T.ba;exact⟨V,V,wr,B.sZ I Q w T' L Y fl D V hc _⟩
 .simp only[oA,ar]at z;let⟨fs,p,ae,ac,ag,aj,w,T,ew,el⟩:=m.fU z;have N:p∈s.ao:=by rw[w];simp
  have Y:=m.fs.uE.ao p N;have fl:=m.fs.ji.ao p N;rw[ew];obtain⟨_,_,_,_,g4,_⟩:=T.iD;have hl:=Gw p N;refine⟨V,V,ac,g4,(qK m.r.r V (T.aR.nM V) V).mono λ_ v⟨R,l',e',am,an,hm,r4,Z⟩=>⟨m.gH k D Z,R,e',m.gk k Z _,V,V,?_⟩⟩;have ax:=am.bn;have K:Mv n ro2 y (ov ro2 R.D (11+3*fs.length)) v:=⟨Z.size,λW hb al=>Z.same W hb bF,λW hb=>eX V,λW hb=>by rw[eX V];exact m.w.new W (bI Z.size hb),m.w.jT⟩;have z4:=Z.size;have ab:=m.k1;have al:=m.k2;have A:SQ n b j e S.size M.size (P+4) (ov ro2 R.D (11+3*fs.length)) v aS h f s:=⟨m.w.mv K,m.r.to Z r4,⟨(K.gX _ ab.2.1).trans ab.1,V,ab.2.2⟩,⟨(K.gX _ al.2.1).trans al.1,V,al.2.2⟩,m.fs⟩;have T4:=T.mv K;let⟨wr,T',L⟩:=T4.put (i:=4) (g:={p with aR:=l'}) (c:=.s R) A.w.new bh rfl T4.ak (iI.gA (GI.aS am) λ_=>fJ _ _ _) T4.ba;exact⟨wr,A.sZ I Q w T' L ⟨Y.1,λaa hw=>(hm aa hw).elim (Y.2.1 aa) λw=>⟨V,V⟩,Y.2.2⟩ ⟨fl.1,by show l'.length<=_;omega,fl.2.2⟩ D V hc _⟩
 .simp only[oA,ar]at z;let⟨fs,p,ae,ac,ag,aj,w,T,ew,el⟩:=m.fU z;have N:p∈s.ao:=by rw[w];simp
  have Y:=m.fs.uE.ao p N;have fl:=m.fs.ji.ao p N;have hl:=Gw p N;rw[ew];obtain⟨_,_,_,g3,_⟩:=T.iD;have Z:=T.ak.len;simp at Z;refine⟨V,V,ae,g3,V,V,ae,g3,KF ae f.D _ [0,5,1000,1003,-1000] T.D.1 T.D.2 rfl rfl aL λF x G k0 ab z q K=>?_⟩;let⟨T',L⟩:=(T.mv K).AB q.w.new k0 V x;exact⟨k0,V,(T.mv K).ak.Ow k0 V,q.sZ I Q w T' L ⟨λaa hw=>(cD hw).elim (Y.1 aa) λw=>by simp at z;exact⟨V,V⟩,Y.2⟩ ⟨by show(p.ak.set _ _).length<=_;simp;omega,fl.2⟩ D V hc _⟩
 .simp only[oA,ar]at z;let⟨fs,p,ae,ac,ag,aj,w,T,ew,el⟩:=m.fU z;have N:p∈s.ao:=by rw[w];simp
  have Y:=m.fs.uE.ao p N;have fl:=m.fs.ji.ao p N;have hl:=Gw p N;rw[ew];obtain⟨_,_,_,_,_,g5⟩:=T.iD;have Z:=T.ba.len;simp at Z;refine⟨V,V,ag,g5,V,V,ag,g5,KF ag f.D _ [1000,1,1001] T.D.1 T.D.2 rfl rfl aL λF x G k0 ab z q K=>?_⟩;let⟨T',L⟩:=(T.mv K).xu q.w.new k0 V x;exact⟨k0,V,(T.mv K).ba.Ow k0 V,q.sZ I Q w T' L ⟨Y.1,Y.2.1,λaa hw=>(cD hw).elim (Y.2.2 aa) λw=>by simp at z;exact⟨V,V⟩⟩ ⟨fl.1,fl.2.1,by show(p.ba.set _ _).length<=_;simp;omega⟩ D V hc _⟩
 .simp only[oA,ar]at z;have U:=J.push y (.cells (bu [.i 0,.i 1,.i 99,.i (-1)]) aA);refine⟨m.gk k (U.fz _) _,m.lM k V D [0,1,99,-1] rfl rfl aL λx m5 _ B f5=>⟨(m.ext k U).gk k f5 _,?_⟩⟩;let⟨fs,p,ae,ac,ag,aj,w,T,ew,el⟩:=B.fU z;have N:p∈s.ao:=by rw[w];simp
  have Y:=B.fs.uE.ao p N;have fl:=B.fs.ji.ao p N;rw[ew];let⟨wr,T',L⟩:=T.put (i:=2) (g:={p with dst:=x}) (c:=.i x) B.w.new bh rfl T.ak T.aR T.ba;exact⟨V,V,wr,B.sZ I Q w T' L Y fl D V hc _⟩
end
end
section
def Ul(S:List Nat)(m:E):(Vc.bH S m).size=m.size:=by simp[Vc.bH]
def Uk{S:List Nat}{m:E}{b:Nat}(h:b∉S):(Vc.bH S m)[b]? =m[b]? :=by
 unfold Vc.bH;rw[Ye];cases m[b]? <;>simp[h]
def AR(S:List Nat)(v:Value)(c:E):Prop:=∃d p e aS b a s,v=.tuple #[.agg #[O.v d,O.v p],NF s aS b a]/\fy (bH S c) d p e/\gF (bH S c) aS b a s/\zE s/\s.aS.length<=1000000/\s.heap.length<=1000000
section
variable{a:List Nat}{m:E}{b P:Nat}{c:O}
def GO(D:∀d∈a,d<m.size)(q:b∈a)(k:Rd b c P m)(hP:P+3000+4*(300+40*Cg 18)<=10^16):aN cg 29 [vp b 0] m λO I=>AR a O I/\Fz [b] m I/\Rd b c (P+3000+4*(300+40*Cg 18)) I:=by
 apply yV (b,0);simp -zeta only[aC,aB];have v:=k.lt;intro e W;have b2:BS [e.size,m.size] b c m P W:=BS.psh (BS.lM (S:=a) k _).1 _;have s1:e.size=m.size+1:=by simp[e]
 clear_value W;refine b2.call (S:=a) v (λ_ d=>d) (J8 (b2.hS D) (by simp[q]) b2.s.r V) λt w x h _ t3 b3 f3=>?_;intro m4 X;obtain⟨b5,l5,-⟩:=b3.box (S:=a) (m1:=m4) (m2:=X) rfl rfl rfl;clear_value X;have N:=IT.mn _ _ _ _ _ l5 t3;refine(tL (b:=⟨x.1,x.2⟩) ⟨N.1.le (bA _ _),iJ.le (bA _ _) N.2⟩).mono λ_ f⟨O,l,hv,A⟩=>⟨(b5.lw v λ_ d=>d).dv (A.fz _),O,l,λp=>?_,λhy=>?_⟩;all_goals
  have b6:=b5.to (A.fz _) (b5.s.r.ext A)
  have z:=IT.mn _ _ _ _ _ (BS.le (B:=[h.size,e.size,m.size]) q (A.fz [b])) N
  have g:=b6.gH
 .intro j K L;have u:J f j:=J.push _ _;have G:cF j f.size dP [.i 0,.i 0,.i 0,.s .nil,.s .nil,.s .nil]:=cF.push _ _ _;have R:=b6.to (u.fz _) (b6.s.r.ext u);have Z:=IT.mn _ _ _ _ _ (BS.le (B:=[h.size,e.size,m.size]) q (u.fz [b])) z;clear_value j;let⟨T,Y⟩:=R.put (S:=a) k (by simp:m.size∈_) [.s t,.s w];let⟨s,H⟩:=T.put (S:=a) k (by simp:e.size∈_) [.i 3,.i 0,.i 0,.i 0,.s .nil,.s .nil,.s (.mk f.size 0 1 1)];have C:=IT.mn _ _ _ _ _ ((Y.trans H).trans (iV _ λ_=>eF _)) Z;have ha:=g m.size aL;have i:=g e.size aL;have M:cF L f.size dP [.i 0,.i 0,.i 0,.s .nil,.s .nil,.s .nil]:=(G.congr (be _ _ _ _ V)).congr (be _ _ _ _ V);have U:f.size∉a:=λF=>by have:=D _ F;omega
  have o:∀{Q:E},ap Q .nil []:=⟨rfl,dN _,aL,aL⟩;refine⟨⟨t,w,⟨x.1,x.2⟩,.nil,.nil,.mk f.size 0 1 1,⟨3,0,0,0,[],[],[⟨0,0,0,[],[],[]⟩]⟩,rfl,⟨C.1,C.2⟩,⟨o,⟨rfl,dN _,aL,aL⟩,⟨rfl,ad _,aL,λy aa r=>?_⟩⟩,⟨⟨aL,aL⟩,by simp[PG],by simp[SF],aL,aL,aL⟩,aL⟩,s.s.f,s.s.r.mono V⟩;cases y with
  |zero=>
   simp at r;subst r;exact⟨_,⟨.nil,.nil,.nil,rfl,o,o,o⟩,KI U M.iD⟩
  |succ y=>simp at r
 .have ok:nt ⟨x.1,x.2⟩:=hv.1 (by simpa using hy);have U:Le (bH ([h.size,e.size,m.size]++a) f) (bH [b] f):=iV _ (by simp[q]);refine(IV b6.s.r V (z.1.le U) (iJ.le U z.2) ok).mono λ_ j⟨ak,ro,aS,hp,fr,ao,l,aa,p,ae,al,ab,r7,u⟩=>?_;have R:∀o,af j h.size o=af f h.size o:=λo=>kg u v (g _ aL) o;refine⟨(b6.lw v λ_ d=>d).dv u,_,_,_,_,aS,hp,fr,l,R _,R _,?_⟩;have an:b<f.size:=b6.s.r.lt;refine(Hq (n:=ak) b6.s.r p (SO.of aa ae) ⟨u,r7⟩ V al ab).mono λ_ K⟨M,G,C,r,l,ah,ac,ag,y⟩=>?_;have Y:∀d,d<f.size->d≠b->K[d]? =j[d]? :=λd i p=>(y.f.same d i (by simpa using p)).trans (u.same d i (by simpa using p)).symm;have T:∀o,af K h.size o=af j h.size o:=λo=>aI (Y _ (g _ aL).2 (oh (g h.size aL))) o;refine⟨λd i=>Y d (g d i).2 (oh (g d i)),_,_,_,_,M,G,C,l,T _,T _,?_⟩;intro L aj;have t8:=IT.mn _ _ _ _ _ (BS.le (B:=[h.size,e.size,m.size]) q y.f) z;let⟨s,H⟩:=(b6.to y.f y.r).put (S:=a) k (by simp:m.size∈_) [.s t,.s w];let⟨Q,ai⟩:=s.put (S:=a) k (by simp:e.size∈_) [.i r.cv,.i r.value,.i r.br,.i r.dT,.s M,.s G,.s C];have Z:=IT.mn _ _ _ _ _ ((H.trans ai).trans (iV _ λ_=>eF _)) t8;have ha:=g m.size aL;have i:=g e.size aL;refine⟨⟨t,w,⟨x.1,x.2⟩,M,G,C,r,rfl,⟨Z.1,Z.2⟩,ah _ (by rw[Ul];simp[aj,L,ax]) λd _ am=>?_,ac,ag⟩,Q.s.f,Q.s.r.mono V⟩;rw[Uk λF=>PA (D d F) b6.s.f.size];exact(be _ _ _ _ V).trans (be _ _ _ _ V)
end
end
section
def RT(f:Nat->Nat):∀n,∃B,∀i,i<n->f i<=B
 |0=>⟨0,aL⟩
 |n+1=>let⟨B,h⟩:=RT f n;⟨B+f n,λi a=>by
  rcases aW i n with e|e
  .have:=h i e;omega
  .have:i=n:=V;subst this;omega⟩
def cR.DC{w:cQ}{s:St}(e:cR w s)(m:s.cv=0):s.heap=[]:=by
 have g:=e.done.1 m;let⟨l,t⟩:=e.heap.MV;let⟨B,n⟩:=RT l s.heap.length;apply dQ;intro q;have y:0<s.heap.length:=List.length_pos_iff.2 q;have fY:∀k,∃(b:Nat)(c:bE),s.heap[b]? =some c/\0<c.aQ/\k<=l b:=λk=>by
  induction k with
  |zero=>
   let⟨c,d⟩:=cG s.heap (s.heap.length -1);refine⟨_,c,d,?_,dN _⟩;have i:=e.jA c d;rcases Jw c.aQ 0 with f|f
   .have:=e.lj _ ⟨c,d,f⟩;rw[g]at this;simp[dG]at this
   .omega
  |succ k v=>
   let⟨b,c,d,r,p⟩:=v;have:=e.heap.ex b c d r;rw[g]at this;simp only[fC]at this;let⟨f,o,i⟩:=Mb (h:=s.heap) (f:=b) V;let⟨j,hd⟩:=List.mem_iff_getElem?.1 o;have u:=t j f hd _ i V;rw[lB]at u;refine⟨j,f,hd,?_,V⟩;apply dQ;intro x;have:=((e.heap.cell f (aq hd)).wZ V).2.1 _ i;omega
 obtain⟨b,c,d,_,p⟩:=fY (B+1);have:=n b (aw d);omega
def cR.ic{a:cQ}{s:St}(h:cR a s):cR a {s with dT:=40}:=⟨h.fB,h.cv,h.done,h.value,h.tU,aL,⟨h.br.1,by have:=h.br;have:=h.dT;show s.br<=40;omega⟩,h.depth,h.aS,h.heap,h.jA,h.ao,h.first,h.chain,h.lj,h.np⟩
def gF.le{m f:E}{aS d c:O}{s:St}(b:gF m aS d c s)(a:Le m f):gF f aS d c s:=⟨b.aS.le a,eR.le b.heap a λk j⟨n,e,h⟩=>⟨n,e,h.le a⟩,eR.le b.ao a λk j⟨r,o,h,e,g,i,l⟩=>⟨r,o,h,e,g.le a,i.le a,l.le a⟩⟩
def LwR(m:E)(v:Value)(a:E):Prop:=v=vb true/\J m a
section
variable{m:E}{d p aS b a:O}{c:cQ}{s:St}
end
end
section
section
variable{f:Nat->Bool}
end
section
variable{m:E}{d p aS b a:O}{c:cQ}{s:St}
end
end
section
variable{c:E}{a:Nat->Nat}{b e:Nat}{f:List Ce}
def pw.Wf{m:E}{aS i d:O}{s:St}(h:pw c a m aS i d s)(g:a b=1)(l:List Ce)(kb:cF (ah m b 0 l) b e f):vJ c a (ah m b 0 l) b e f aS i d s.aS s.heap s.ao:=by
 have C:dp (λk=>k=1) a m a (ah m b 0 l):=dp.ah h.bs.new g _ _;let⟨b1,b2⟩:=(C.mono λk j=>by omega:To a m a _).cz h.bs.cz h.bs.jT;exact⟨b1,b2,C.new,kb,g,h.aS.eK C bh,h.heap.eK C bh bh,h.ao.eK C λk j=>V⟩
def vJ.aag{m:E}{aS g d:O}{s:St}(L:vJ c a m b e f aS g d s.aS s.heap s.ao):pw c a m aS g d s:=⟨⟨L.cz,L.jT,L.new⟩,L.aS,L.heap,L.ao⟩
section
variable{g:E}{d p aS j i:O}{h:cQ}{s:St}
def MkL(b:E)(d p:O)(h:cQ)(s:St)(o:Nat×Nat)(M:E):Prop:=o.2=0/\∃a aS j i,vJ b a M o.1 bR (IB d p (cr h) s aS j i) aS j i s.aS s.heap s.ao
abbrev vH:List Ce:=[.s O.nil,.s O.nil,.i 0,.i 0,.i 0,.i 0,.i 0,.s O.nil,.s O.nil,.s O.nil]
variable(k:fy g d p h)(n:gF g aS j i s)(l:zE s)(q:s.aS.length<=10000000)
include k n l q
def Gd:aN cg 13 [.agg #[O.v d,O.v p],NF s aS j i] g (Xn g (yp h s 1)):=by
 apply Aa;simp -zeta only[aC,aB];rw[Oo];intro R S I;have s1:R.size=g.size+1:=by simp[R]
 have s2:S.size=g.size+2:=by simp[S,s1]
 have s3:I.size=g.size+3:=by simp[I,s2]
 have U:J g I:=(((J.az g).aK _).aK _).aK _;clear_value I;have H:∀u∈[S.size,R.size,g.size],u<I.size:=bF;refine(Eg (k.ext U) (n.ext U) l).aG (J.az _) H λb4 B ai F _=>⟨b4,rfl,λh1=>SC U F V (by rw[ae (nb ai h1)]) _,λh1=>?_⟩;have P:=yb ai h1;rw[an P];have L:=U.trans F;have z4:=F.size;have N:=Uh l q;have ao:=P.ji N V;have ht:=P.fB.nT.types;have cc:∀{M:E},J B M->DZ cg 31 [O.v d] M (vi (cr h)):=λG=>qC (k.ext (L.trans G)).bo ht.len (λc hd=>OO ht c hd);have c:∀{M w:E}{u:Nat},J M w->u<M.size->∀Q,af w u Q=af M u Q:=λG al Q=>aI (G.same _ al) Q;have Z:∀{a:Nat->Nat}{M:E}{ag:Value->E->Prop},Bs B a M->(∀u,a u<=1)->(∀T z y x w,pw B T w z y x s->dp (λ_=>False) a M T w->J M w->M.size<=w.size->ag (NF s z y x) w)->aN cg 32 [NF s aS j i] M ag:=λac am hK=>
  (Ej ac am (n.ext (L.trans ac.cz)) ao).mono λ_ w⟨T,z,y,x,e,ak,W⟩=>by rw[e];exact hK T z y x w ak W W.uY W.size
 have aj:∀{M w:E},J B M->w=M.push (.cells (bu vH) bR)->Bs B (ov (λ_=>0) M.size 1) w/\(∀u,ov (λ_=>0) M.size 1 u<=1)/\cF w M.size bR vH:=λG e=>by
  have hz:=G.size;subst e;refine⟨⟨G.aK _,λu C=>eX V,λu C=>eX (by simp at C;omega)⟩,λu=>?_,cF.push _ _ _⟩;unfold ov;split
  .omega
  .exact dN _
 refine⟨MkL B d p h s,⟨?_,?_⟩,?_⟩
 .refine(cc (J.az _)).mono ?_;rintro _ A ⟨rfl,r⟩;have z5:=r.size;refine⟨r.dv λu C=>F.lt (H u C),_,rfl,c r V _,c r V _,c r V _,c r V _,c r V _,c r V _,c r V _,c r V _,c r V _,?_,?_⟩
  .refine Z (a:=λ_=>0) ⟨r,λ_ _=>rfl,λ_ _=>rfl⟩ (λ_=>dN _) λaa z y x v K Y f z6=>?_;refine⟨f.dv λu C=>r.lt (F.lt (H u C)),_,_,_,_,z,y,x,rfl,c f V _,c f V _,?_⟩;intro D;have t:J v D:=J.push v _;have kb:cF D v.size bR vH:=cF.push v _ _;refine⟨c t V _,c t V _,c t V _,c t V _,c t V _,c t V _,c t V _,c t V _,c t V _,c t V _,rfl,ov aa v.size 1,z,y,x,?_⟩;have X:J v (ah D v.size 0 [.s d,.s p,.i (cr h),.i s.cv,.i s.value,.i s.br,.i s.dT,.s z,.s y,.s x]):=t.ah (ad _) _ _;exact K.cV X (ad _) (cF.ah (m:=D) (o:=0) kb)
  .intro v;have f:J A v:=J.push A _;have s6:v.size=A.size+1:=by simp[v]
   let⟨K,ap,kb⟩:=aj (w:=v) r rfl;clear_value v;refine⟨c f V _,c f V _,c f V _,c f V _,c f V _,c f V _,c f V _,c f V _,c f V _,c f V _,Z K ap λab z y x D Y X t z7=>?_⟩;refine⟨t.dv bF,_,_,_,_,z,y,x,rfl,c t V _,c t V _,rfl,ab,z,y,x,?_⟩;exact Y.Wf (by rw[X.gX _ V];exact fJ _ _ _) _ (cF.ah (m:=D) (o:=0) (kb.ext t))
 .intro A;have r:J B A:=J.push B _;have s5:A.size=B.size+1:=by simp[A]
  let⟨K,ap,kb⟩:=aj (w:=A) (J.az B) rfl;clear_value A;refine⟨c r V _,c r V _,c r V _,c r V _,c r V _,c r V _,c r V _,c r V _,c r V _,c r V _,(cc r).mono ?_⟩;rintro _ v ⟨rfl,f⟩;have z6:=f.size;refine⟨f.dv bF,_,rfl,c f V _,c f V _,c f V _,c f V _,c f V _,c f V _,c f V _,c f V _,c f V _,Z (K.eK (dp.eJ _ f K.new)) ap λab z y x D Y X t z7=>?_⟩;refine⟨t.dv bF,_,_,_,_,z,y,x,rfl,c t V _,c t V _,rfl,ab,z,y,x,?_⟩;exact Y.Wf (by rw[X.gX _ V];exact fJ _ _ _) _ (cF.ah (m:=D) (o:=0) (kb.ext (f.trans t)))
 .rintro⟨b,mo⟩ A ⟨rfl,X,o5,h5,f5,r⟩;simp only[]at r;have K:zC X A [S.size,R.size,g.size]:=λu C=>⟨r.cz.lt (F.lt (H u C)),r.jT u (F.lt (H u C))⟩;refine(O2 r (k.ext L) P N.uE (oh N.heap) (oh N.aS)).mono ?_;rintro _ v ⟨aa,o6,D,t,f,Y⟩;refine⟨Y.dI K,_,f.box.cp 3,_,f.box.cp 4,_,f.box.cp 5,_,f.box.cp 6,o6,f.box.cp 7,D,f.box.cp 8,t,f.box.cp 9,aa,o6,D,t,rfl,f.aag.box L V V _ _⟩
end
end
section
def St.gW(s:St)(n:Int):St:={s with dT:=n}
section
variable{a:cQ}{s:St}{f:aX}{x:Instr}{o:List Int}{b:List aX}
def kv.gW{n:Int}(h:kv a s f x o):kv a (s.gW n) f x o:=⟨h.nn,h.dst,h.nM,h.iP,h.cW,h.zero,h.ret,h.apply,h.VS,h.drop,h.JN,h.load,h.Fx⟩
structure aal(s t:St):Prop where
 dT:t.dT=s.dT
 br:s.br<=t.br
 aS:s.aS<+:t.aS
 cv:t.cv=s.cv\/t.cv=0
end
end
section
variable{a:cQ}{s:St}
structure Ys where
 aD:Int
 QZ:Int
 Rx:Int
 Xs:Int
 TX:Int
 YX:Int
 depth:Int
 RD:Int
def mx(a b:Int):Int:=if b>a then b else a
def gP:List bE->Int
 |[]=>0
 |c::h=>(if 0<c.aQ then 1 else 0)+gP h
def Zv(n:Int):List bE->Int
 |[]=>n
 |c::h=>Zv (mx n c.aQ) h
def Vm(a:cQ)(s:St):Instr:=
 match s.ao.getLast? with
 |some f=>eA a f
 |none=>⟨0,0,0,0,[],[]⟩
def Gy:∀(h:List bE),0<=gP h
 |[]=>bZ _
 |c::h=>by have:=Gy h;simp only[gP];split<;>omega
def LJ:∀(j h:List bE),(∀b,fj j b->fj h b)->gP j<=gP h
 |[],h,_=>Gy h
 |c::i,[],d=>by
  have k:¬0<c.aQ:=λa=>by obtain⟨e,g,_⟩:=d 0 ⟨c,rfl,a⟩;simp at g
  have:=LJ i [] λb⟨e,g,a⟩=>by obtain⟨f,hd,_⟩:=d (b+1) ⟨e,by simpa using g,a⟩;simp at hd
  simp only[gP]at*;rw[ae k];omega
 |c::i,e::t,d=>by
  have k:0<c.aQ->0<e.aQ:=λa=>by obtain⟨f,hd,g⟩:=d 0 ⟨c,rfl,a⟩;simp at hd;subst hd;exact g
  have:=LJ i t λb⟨f,hd,a⟩=>by
   let⟨l,m,g⟩:=d (b+1) ⟨f,by simpa using hd,a⟩;exact⟨l,by simpa using m,g⟩
  simp only[gP];split<;>split<;>omega
def Ip:∀(h:List bE),gP h<=h.length
 |[]=>by simp[gP]
 |c::h=>by have:=Ip h;simp only[gP,aY];split<;>omega
def fj.nl{h:List bE}{b:Nat}(d:fj (nl h) b):fj h b:=by
 let⟨c,a,e⟩:=d;unfold Go.Proofs.YtkoifinbblcbiaaGreat.nl at a;rw[lH]at a;split at a
 .exact⟨c,a,e⟩
 .simp at a
def fj.AE{h:List bE}{w:Int}(e:fY h w)(c:bE){b:Nat}(d:fj (h.set (ix w) c) b):fj h b:=by
 by_cases a:b=ix w
 .subst a;exact e.2
 .exact(fj.ne a).1 d
def fj.jg:∀(a:List Int)(h:List bE)(b:Nat),(∀w∈a,fY h w)->fj (jg h a) b->fj h b
 |[],_,_,_,c=>c
 |w::a,h,b,d,c=>by
  have e:=d w bg;exact(fj.mO e b).1 (fj.jg a _ b (λv f=>⟨(d v (ai _ f)).1,(fj.mO e _).2 (d v (ai _ f)).2⟩) c)
def fj.gV:∀(n:Nat)(h:List bE)(j:List Int),Cv h+j.length<=n->∀b,fj (gV h j) b->fj h b
 |n,h,[],_,b,a=>by rw[sX]at a;exact a
 |0,h,w::r,d,b,_=>by simp at d
 |n+1,h,w::r,d,b,a=>by
  simp only[aY]at d;rcases dR (fY h w)with c|c
  .let⟨g,i⟩:=bS c;by_cases e:(aM h w).aQ=1
   .have f:=kA (d:=jd) g;simp only[an i,jd]at f;simp at f;rw[sY c e]at a;exact fj.AE c _ (fj.gV n _ _ (by simp[jd];omega) b a)
   .have f:=kA (d:={aM h w with aQ:=(aM h w).aQ -1}) g;simp only[an i]at f;rw[an V]at f;rw[qv c e]at a;exact fj.AE c _ (fj.gV n _ _ (by simp only[Go.Proofs.YtkoifinbblcbiaaGreat.fq];omega) b a)
  .rw[qx c]at a;exact fj.gV n _ _ V b a
def fj.apart{h:List bE}{e:Nat->Int}(g:fO h e){w:Int}(b:fY h w){c:Nat}(a:fj (apart h w) c):fj h c:=by
 let⟨d,l⟩:=bS b;unfold Go.Proofs.YtkoifinbblcbiaaGreat.apart at a;split at a
 .exact fj.AE b _ (fj.nl a)
 .rename_i k;refine fj.AE b {aM h w with aQ:=(aM h w).aQ -1} (fj.jg _ _ _ (λv i=>?_) a);let⟨j,f⟩:=lD.1 i;have:=g.field (iA d) j f;refine⟨f,?_⟩;by_cases e:ix v=ix w
  .rw[e,fj.yQ d];show 0<(aM h w).aQ -1;omega
  .rw[fj.ne e];exact this.2
def Nn(y:cR a s)(k:List aX){f:aX}{x:Instr}{aR:List Int}(g:kv a s f x aR):
 ((eD a s k f x aR).cv=s.cv\/(eD a s k f x aR).cv=0)/\(x.op≠6->x.op≠10->∀c,fj (eD a s k f x aR).heap c->fj s.heap c):=by
 unfold eD
 simp only[]
 by_cases l:x.op=0
 .rw[an l];exact⟨Or.inl rfl,λ_ _ c b=>b⟩
 rw[ae l]
 by_cases m:x.op=1\/x.op=2\/x.op=3\/x.op=4
 .rw[an m];exact⟨Or.inl rfl,λ_ _ c b=>b⟩
 rw[ae m]
 by_cases v:x.op=5
 .rw[an v];exact⟨Or.inl rfl,λ_ _ c b=>b⟩
 rw[ae v]
 by_cases e:x.op=6
 .rw[an e]
  split
  .exact⟨Or.inl rfl,λd=>absurd e d⟩
  .exact⟨Or.inl rfl,λd=>absurd e d⟩
 rw[ae e]
 by_cases h:x.op=10
 .rw[an h];exact⟨Or.inl rfl,λ_ d=>absurd h d⟩
 rw[ae h]
 by_cases j:x.op=14
 .rw[an j];exact⟨Or.inl rfl,λ_ _ c b=>(fj.mO (g.VS j).1 c).1 b⟩
 rw[ae j]
 by_cases n:x.op=15
 .rw[an n];exact⟨Or.inl rfl,λ_ _ c b=>fj.gV _ _ _ (ad _) c (fj.nl b)⟩
 rw[ae n]
 by_cases d:x.op=16\/x.op=17
 .rw[an d]
  split
  .exact⟨Or.inl rfl,λ_ _ c b=>fj.AE (g.JN d).1 _ b⟩
  .exact⟨Or.inl rfl,λ_ _ c b=>fj.apart y.heap (g.JN d).1 b⟩
 rw[ae d]
 by_cases o:x.op=18
 .rw[an o];exact⟨Or.inl rfl,λ_ _ c b=>b⟩
 rw[ae o]
 by_cases p:x.op=19
 .rw[an p];exact⟨Or.inl rfl,λ_ _ c b=>b⟩
 rw[ae p]
 by_cases q:x.op=20
 .rw[an q];exact⟨Or.inl rfl,λ_ _ c b=>b⟩
 rw[ae q]
 by_cases r:x.op=21
 .rw[an r];exact⟨Or.inl rfl,λ_ _ c b=>b⟩
 rw[ae r]
 by_cases t:x.op=22
 .rw[an t];exact⟨Or.inl rfl,λ_ _ c b=>b⟩
 rw[ae t]
 by_cases w:x.op=9
 .rw[an w];exact⟨Or.inl rfl,λ_ _ c b=>b⟩
 rw[ae w]
 by_cases u:x.op=24
 .rw[an u];exact⟨Or.inl rfl,λ_ _ c b=>b⟩
 rw[ae u]
 by_cases i:x.op=11
 .rw[an i];exact⟨Or.inl rfl,λ_ _ c b=>fj.apart y.heap (g.apply i).1 b⟩
 rw[ae i]
 split
 .exact⟨Or.inr rfl,λ_ _ c b=>b⟩
 .exact⟨Or.inl rfl,λ_ _ c b=>b⟩
def RI(i:cR a s)(e:s.cv=3):(∃k,(k=1\/k=2)/\kY a s={s with cv:=k})\/
 ∃b f aR,s.ao=b++[f]/\kv a s f (Vm a s) aR/\kY a s=eD a s b f (Vm a s) aR:=by
 let⟨b,f,c⟩:=i.split e
 have d:s.ao.getLast?=some f:=by rw[c];simp
 have g:s.ao.dropLast=b:=by rw[c];simp
 have h:Vm a s=eA a f:=by unfold Vm;rw[d]
 unfold kY
 rw[ae (by simpa using e),d,g,h]
 simp only[]
 split
 .exact Or.inl ⟨1,Or.inl rfl,rfl⟩
 .split
  .rename_i j;exact Or.inr ⟨b,f,_,c,j,rfl⟩
  .exact Or.inl ⟨2,Or.inr rfl,rfl⟩
structure aam(c:Ys)(s:St):Prop where
 YX:gP s.heap<=c.YX
 depth:(s.ao.length:Int)<=c.depth
 RD:Zv c.RD s.heap=c.RD
structure aan(n:Nat)(c:Ys):Prop where
 aD:0<=c.aD/\c.aD<=n
 QZ:0<=c.QZ/\c.QZ<=n
 Rx:0<=c.Rx/\c.Rx<=n
 Xs:0<=c.Xs/\c.Xs<=n
 TX:0<=c.TX/\c.TX<=n
end
section
section
variable{b:cQ}{s:St}{f:aX}{x:Instr}{aR:List Int}{a:List aX}
def Qc{P:St->Prop}{c:Prop}{i:Decidable c}{a b:St}(d:c->P a)(e:¬c->P b):P (ite c a b):=by
 split
 .rename_i h;exact d h
 .rename_i h;exact e h
def Es:∀(h:List bE)(a:Nat)(c:bE),gP (h.set a c)<=gP h+1
 |[],_,_=>by simp[gP]
 |d::h,0,c=>by simp only[gE,gP];split<;>split<;>omega
 |d::h,a+1,c=>by have:=Es h a c;simp only[iB,gP];omega
def Oa:∀h g:List bE,gP (h++g)=gP h+gP g
 |[],g=>by simp[gP]
 |c::h,g=>by have:=Oa h g;simp only[gP,cX];omega
def Qf(h:List bE)(a:Nat)(c:bE):gP (iP h a c)<=gP h+1:=by
 unfold iP;split
 .rw[Oa];simp only[gP];split<;>omega
 .exact Es _ _ _
def Pc(h:cR b s)(c:kv b s f x aR):gP (eD b s a f x aR).heap<=gP s.heap+1:=by
 by_cases d:x.op=6\/x.op=10
 .unfold eD;simp only[];repeat' refine Qc (P:=λt=>gP t.heap<=gP s.heap+1) (λ_=>?_) (λ_=>?_)
  all_goals first|exact lG (bZ _)|exact Es _ _ _|exact Qf _ _ _|omega
 .exact lG (LJ _ _ ((Nn h a c).2 V V))
def Rb{l:List aX}(b:s.ao=a++[f])(d:1<=l.length)(e:l.length<=2):(s.ao.length<=(a++l).length+1/\(a++l).length<=s.ao.length+1)/\∀k,k+2<s.ao.length->(a++l)[k]? =s.ao[k]? :=by
 rw[b];refine⟨bF,λk c=>?_⟩;simp at c;rw[av V,av V]
def FR(s t:St):Prop:=(s.br<=t.br/\t.br<=s.br+1)/\((s.ao.length<=t.ao.length+1/\t.ao.length<=s.ao.length+1)/\∀k,k+2<s.ao.length->t.ao[k]? =s.ao[k]?)/\s.aS<+:t.aS/\t.aS.length<=s.aS.length+1
def Rr(c:s.ao=a++[f]):FR s (eD b s a f x aR):=by
 unfold eD;simp only[];repeat' refine Qc (P:=FR s) (λ_=>?_) (λ_=>?_)
 all_goals first
  |exact⟨⟨bZ _,lG (bZ _)⟩,Rb c aL aL,vD _,wT _⟩
  |exact⟨⟨lG (bZ _),bZ _⟩,Rb c aL aL,vD _,wT _⟩
  |exact⟨⟨bZ _,lG (bZ _)⟩,Rb c aL aL,List.prefix_append _ _,aL⟩
  |skip
 cases e:a.getLast? with
 |none=>
  have e:=List.getLast?_eq_none_iff.1 e;subst e;exact⟨⟨bZ _,lG (bZ _)⟩,⟨by simp[c],λk d=>by simp[c]at d⟩,vD _,wT _⟩
 |some p=>
  have g:a≠[]:=λh=>by simp[h]at e
  have i:0<a.length:=List.length_pos_iff.2 g;refine⟨⟨bZ _,lG (bZ _)⟩,⟨by simp[c];omega,λk d=>?_⟩,vD _,wT _⟩;simp only[c,bd,aY,eG]at d⊢;rw[av bF,av V,XN,an V]
def RJ(h:cR b s):FR s (kY b s)/\gP (kY b s).heap<=gP s.heap+1:=by
 have d:∀k,FR s {s with cv:=k}/\gP s.heap<=gP s.heap+1:=λk=>⟨⟨⟨bZ _,lG (bZ _)⟩,⟨⟨wT _,wT _⟩,λ_ _=>rfl⟩,vD _,wT _⟩,lG (bZ _)⟩;by_cases c:s.cv=3
 .rcases RI h c with⟨k,-,e⟩|⟨a,f,aR,i,g,e⟩
  .rw[e];exact d k
  .rw[e];exact⟨Rr i,Pc h g⟩
 .rw[pW c];exact d s.cv
section
variable(h:cR b s)(e:s.cv=3)(c:(kY b s).cv=3)(d:s.ao=a++[f])
include h e c d
end
end
end
section
variable{m d a:E}{h:List bE}{e:Nat}
structure KS(m:E)(hp:O)(h:List bE):Prop where
 len:hp.len=h.length
 iD:∀(k:Nat)(c:bE),h[k]? =some c->∃f,af m hp.D (hp.off+k*3)=some (vi c.aQ)/\af m hp.D (hp.off+k*3+1)=some (vi c.j9)/\af m hp.D (hp.off+k*3+2)=some (O.v f)
def KS.eB{a:O}(H:KS m a h)(k:h≠[]->d[a.D]? =m[a.D]?):KS d a h:=
 ⟨H.len,λl c b=>by
  let⟨f,g,i,j⟩:=H.iD l c b;have e:=k (λe=>by subst e;simp at b);exact⟨f,by rw[aI e];exact g,by rw[aI e];exact i,by rw[aI e];exact j⟩⟩
def KS.lt{a:O}(H:KS m a h)(d:h≠[]):a.D<m.size:=by
 cases h with
 |nil=>exact absurd rfl d
 |cons c r=>
  obtain⟨f,b,_⟩:=H.iD 0 c rfl;exact mg b
def KS.ext{a:O}(H:KS m a h)(c:J m d):KS d a h:=H.eB λb=>c.same _ (H.lt b)
def dK.jv{N:Nat}{g:Nat->Nat}{a:O}(H:dK N g m a h):KS m a h:=
 ⟨H.len,λ_ _ e=>let⟨f,b,c,d,_⟩:=H.cp e;⟨f,b,c,d⟩⟩
def Gx:∀(l r:List bE),gP (l++r)=gP l+gP r
 |[],r=>by simp[gP]
 |c::l,r=>by simp only[cX,gP,Gx l r];omega
def Gp{g:O}(H:KS m g h)(w:h.length<=1000000000):DZ cg 46 [O.v g] m (vi (gP h)):=by
 apply Ai;simp -zeta only[aC,aB];have t:=H.len;refine eu (σ:=Int) (n:=h.length) V (λk l d=>l=gP (h.take k)/\J m d) ⟨by simp[gP],J.az _⟩ ?_;rintro k l y I μ s ⟨rfl,b⟩ o
 have v:=Gy (h.take k);have u:=Ip (h.take k);have x:(h.take k).length<=h.length:=bF;refine dit (λr=>?_) λr=>?_
 .let⟨c,f⟩:=cG h k;let⟨p,g1,g2,q⟩:=(H.ext b).iD k c f;refine⟨V,V,c.aQ,by simpa using g1,c.j9,by simpa using g2,p,by simpa using q,?_⟩;intro z j;have i:J m j:=(b.aK _).ah b.size _ _;clear_value j;have e:gP (h.take (k+1))=gP (h.take k)+(if 0<c.aQ then 1 else 0):=by rw[aT f,Gx];simp[gP]
  refine⟨λa=>?_,λa=>?_⟩
  .simp at a;rw[aP V V];exact o V _ _ ⟨by rw[e,an a],i⟩
  .simp at a;exact o V _ _ ⟨by rw[e,ae V];omega,i⟩
 .rw[bV V];exact⟨rfl,b⟩
structure pu(e:Nat)(m d:E):Prop where
 size:m.size<=d.size
 same:∀b,b<m.size->b≠e->d[b]? =m[b]?
def pu.az(e:Nat)(m:E):pu e m m:=⟨ad _,λ_ _ _=>rfl⟩
def pu.ext(h:pu e a m)(f:J m d):pu e a d:=⟨bI h.size f.size,λb c g=>by rw[f.same b (aO c h.size)];exact h.same b c g⟩
def pu.trans(h:pu e a m)(g:pu e m d):pu e a d:=⟨bI h.size g.size,λb c f=>by rw[g.same b (aO c h.size) f];exact h.same b c f⟩
def pu.ah(h:pu e a m)(o:Nat)(l:List Ce):pu e a (ah m e o l):=⟨by rw[ax];exact h.size,λb d c=>by rw[be l m e o c];exact h.same b d c⟩
def pu.dv(h:pu e m d){l:List Nat}(c:∀b∈l,b<m.size/\b≠e):eI l m d:=λb a=>h.same b (c b a).1 (c b a).2
end
section
section
variable{m:E}{a:O}{h:List bE}
def Ge(f:cO m a h)(d:PG h)(g:h.length<=1000000000):dq cg 45 [O.v a] m (HO h):=by
 apply Ab;exact(sj f d g).mono λ_ i⟨s,b,e,c,_,x⟩=>⟨s,b,e,b,rfl,c,x⟩
def uF(b:cO m a h)(k:PG h)(c:h.length<=1000000000)(n:HO h):DZ cg 22 [O.v a] m (vi (gP h)):=by
 apply zZ;refine(Ge b k c).mono λ_ q⟨d,e,j,x⟩=>⟨d,e,λi=>absurd n (nb j i),λ_=>?_⟩;exact(Gp (KS.ext ⟨b.len,λp o l=>let⟨f,_,g,g1,g2⟩:=cO.aF b l;⟨f,g,g1,g2⟩⟩ x) c).mono λ_ g⟨e,f⟩=>⟨_,e,rfl,x.trans f⟩
end
section
variable{a:cQ}{s:St}
def XG{k:Int}(h:(yp a s k).ok=true):(cR a s/\0<=k/\k<=100000)/\yp a s k=⟨aD a k.toNat s,true⟩:=by
 have b:cR a s/\0<=k/\k<=100000:=by
  apply dQ;intro c;rw[yp,ae c]at h;simp at h
 exact⟨b,an b⟩
def VB(h:(yp a s 1).ok=true):cR a s/\yp a s 1=⟨kY a s,true⟩:=let⟨b,e⟩:=XG h;⟨b.1,e⟩
def Tj(c:cR a s)(d:zE s)(b:s.aS.length<=1000000/\s.heap.length<=1000000){k:Nat}(e:k<=100000):zE (aD a k s)/\cR a (aD a k s)/\Sm (1000000+k) (aD a k s):=
 have h:=wP k c
 have S:=wQ k c (d.sm b.2 b.1) V
 ⟨h.YL S V,h,S⟩
end
section
variable{a:E}
def AG{dt:O}(h:Jy a dt):aN cg 12 [O.v dt] a λv u=>AR [] v u/\J a u:=by
 apply vo;simp -zeta only[aC,aB];intro d c;let⟨e,g⟩:=dD (a:=d) (c:=c) rfl rfl;have P:d.size=a.size+1:=by simp[d]
 clear_value c;refine(Ja (m:=c) ⟨h.1,λk i=>let⟨v,f,b,l⟩:=h.2 k i;⟨v,f,b,e.af l⟩⟩).mono λ_ M⟨H,j,y,p⟩=>⟨p.dv g,(c.size,0),j,?_⟩;have L:=y.lt;have I:=g a.size aL;have K:=g d.size aL;refine(GO (a:=[d.size,a.size,c.size]) bF aL y (by simp[Cg])).mono λ_ i⟨⟨q,x,E,aS,t,r,G,j,s,D,C⟩,k,_⟩=>?_;refine⟨k.dv λb f=>by have:=g b f;simp only[lI];omega,q,x,_,_,_,_,aS,t,r,j,?_⟩;intro N w;have Q:=k.size;have F:∀{b o:Nat}{v:Value},af (bH [d.size,a.size,c.size] i) b o=some v->af (bH [] w) b o=some v:=λh=>by
  let⟨A,B⟩:=eT.1 h;simp at A;refine eT.2 ⟨aL,?_⟩;rw[aI ((be _ _ _ _ V).trans (be _ _ _ _ V))];exact B
 have n:Le (bH [d.size,a.size,c.size] i) (bH [] w):=λb o v h=>F h;refine⟨⟨q,x,E,aS,t,r,G,rfl,⟨s.bo.le n,iJ.le n s.cJ⟩,gF.le D n,C⟩,?_⟩;have z:Fz [c.size] c i:=(p.fz _).trans k;have l:J a i:=⟨by have:=e.size;have:=p.size;omega,λb f=>(z.same b (e.lt f) (by have:=e.size;simp;omega)).trans (e.same b f)⟩;exact(l.ah V _ _).ah V _ _
end
end
section
section
open Tryz
variable{m:E}{R:Value->E->Prop}
def sN(a:O):=da m R A0 [a] func9
end
section
variable{m:E}
def vj{dt:O}(h:Jy m dt):aN cg 9 [O.v dt] m (LwR m):=by
 apply sN;simp(config:={maxSteps:=1000000}) -zeta only[aC,aB];refine⟨λ_=>⟨rfl,J.az _⟩,λ_=>?_⟩;refine(AG h).mono λ_ j⟨⟨M,A,i,aS,hp,P,a,o,Q,hs,d,ho⟩,U⟩=>⟨M,A,_,_,_,_,aS,hp,P,o,?_⟩;have R:fy j M A i:=⟨Q.bo.le (bA _ _),iJ.le (bA _ _) Q.cJ⟩;have g:=hs.le (bA _ _);intro n a2 a3 a4;have z1:n.size=j.size+1:=by simp[n]
 have H:J j a4:=(((J.push j _).trans (J.push n _)).ah (ad _) _ _).ah V _ _;have z4:a4.size=j.size+2:=by simp[a4,a3,a2,n,ax]
 clear_value a4;have S:=Qq d V 1 (h:=i);refine(Gd (R.ext H) (g.ext H) d V).mono λ_ r⟨ac,o5,h5,N,o,u⟩=>⟨u.bs.cz.dv bF,_,_,_,_,o5,h5,N,_,o,?_⟩;have W:=u.bs.cz;have c:=u.Ew S;have u5:=W.size;intro a6 y;have X:J r y:=(J.push r _).ah (ad _) _ _;have z7:y.size=r.size+1:=by simp[y,a6,ax]
 clear_value y;have E:=(H.trans W).trans X;refine(GM (R.ext E) (g.ext E) d V).mono λ_ z⟨ae,o8,h8,f8,o,v⟩=>⟨v.bs.cz.dv bF,_,_,_,_,o8,h8,f8,_,o,?_⟩;have I:=v.bs.cz;have D:=v.Ew S;have u8:=I.size;intro a9 f;have B:J z f:=(J.push z _).ah (ad _) _ _;have z0:f.size=z.size+1:=by simp[f,a9,ax]
 clear_value f;have w:=(E.trans I).trans B;have C:J r f:=(X.trans I).trans B;clear u v;have q:∀b∈[z.size,r.size,n.size,j.size],b<f.size:=bF;refine(tr (c.ext C) (D.ext B)).aG (J.az _) q λb mA p e _=>⟨b,rfl,?_⟩;obtain rfl:=p.2 rfl;have Z:=w.trans e;refine⟨sx,λ_=>⟨sx,λ_=>⟨λhn=>(tr (c.ext (C.trans e)) (D.ext (B.trans e))).aG e q λb mB p K _=>⟨b,rfl,λ_=>⟨aL,(U.trans Z).trans K⟩,λh=>by rw[p.2 rfl]at h;simp at h⟩,λhy=>?_⟩⟩⟩;let⟨t,Y⟩:=VB (a:=i) (s:=a) (by simpa using hy);have L:(yp i a 1).s=kY i a:=nX ZC.s Y;rw[L]at c D;try rw[L]
 have l:∀{b:Bool}{A:Prop},b=true->b=false->A:=λh h'=>absurd (h.symm.trans h') aL;have lf:=g.ao.len;have aa:=c.ao.len;have lo:=g.aS.len;have ab:=c.aS.len;have bf:=d.lf;have F:=Tj t d ho (k:=1) V;obtain⟨⟨⟨p1,p2⟩,⟨⟨q1,q2⟩,-⟩,p3,p4⟩,p5⟩:=RJ t;have c1:=t.br;have c2:=t.dT;have n1:=Gy a.heap;have n2:=Ip a.heap;have e1:cU (a.br+1)=a.br+1:=aP V V;have e2:cU (gP a.heap+1)=gP a.heap+1:=aP V V;rw[e1,aP (b:=(N.len:Int) -P.len) V V];refine⟨λ_=>⟨λ_=>⟨λ_=>⟨λ_=>?_,l (ub V)⟩,l (ub V)⟩,l (ub p2)⟩,l (ub p1)⟩;refine(uF (cO.ext (C.trans e) c.heap) F.1.heap (by have:(kY i a).heap.length<=_:=F.1.lh;omega) (Ia F.2.1).heap).aG e q λmB K T=>⟨_,rfl,aI (K.same _ (oh e.size)) _,?_⟩;refine(uF (cO.ext (w.trans T) g.heap) d.heap (oh d.lh) (Ia t).heap).aG T q λmC xC G=>⟨_,rfl,?_⟩;rw[e2];refine⟨λ_=>?_,l (ub p5)⟩;exact(Io (g.aS.ext (w.trans G)) (c.aS.ext (C.trans G))).aG G q λb mD p xD uD=>⟨b,rfl,λ_=>⟨nX vb (ub (by rw[aP V V];omega)),(U.trans w).trans uD⟩,l (p.2 p3)⟩
end
end
end Go.Proofs.YtkoifinbblcbiaaGreat
section
namespace Go.Vc
variable{t:TypeId}{a:Addr}
open Go.ChangeShapes Go.WideShapes Go.RowKit
section
variable{H:Type}{b:TypeId×Value->H}{P:Program}{w:World}
def TH(b:TypeId×Value->H)(P:Program)(w:World)(t:TypeId)(Q:List Ce->Prop):Prop:=
 ∀(n:Nat)(a:List Value)(x:DataW H×List MemPlace),DataW.trod b P w 0 (λ_=>true) true n t a=some x->∃c,a=c.map Ce.v/\Q c
def TH.mono{Q Q':List Ce->Prop}(h:TH b P w t Q)(f:∀a,Q a->Q' a):TH b P w t Q':=λn a x g=>
 let⟨c,d,e⟩:=h n a x g
 ⟨c,d,f _ e⟩
def SK{v:Value}(h:w.cell? a=some v):a.spot=none:=by
 unfold World.cell? at h;split at h
 .split at h
  .cases h
  .rename_i b;simpa using b
 .cases h
def SI(h:a.spot=none)(i:Nat):a.add i=⟨a.block,a.off+i,none⟩:=by
 obtain⟨c,o,s⟩:=a;simp only at h;subst h;unfold Addr.add;by_cases b:i=0
 .subst b;simp
 .simp[b]
end
section
variable{H:Type}{b:TypeId×Value->H}{P:Program}
def DT(l:laidOutB P=true){W j:World}(k:Below W.heap.size W j):∀{f:List TypeId}{i:List Value}{g:List (DataW H)}{d:List MemPlace},
 (f.all λt=>P.readableRec t&&decide (t<P.types.size))=true->DataW.TrodAll b P W 0 (λ_=>true) true f i g d->(∀x∈d,x.block<W.heap.size)->∀e:Nat->Bool,(∀p∈d,e p.block=true)->
 DataW.TrodAll b P j 0 e true f i g d
 |[],_,_,_,_,h,_,_,_=>by
  obtain⟨rfl,rfl,rfl⟩:=trodAll_nil h;exact trodAll_mk0
 |t::f,_,_,_,c,h,m,e,n=>by
  obtain⟨v,i,s,g,p,r,rfl,rfl,rfl,o,q⟩:=trodAll_cons h;simp only[OA,bL,ar]at c;exact⟨p,r,WideElems.Trod_stays l c.1.1 c.1.2 o (λx a=>k.same (m x (by simp[a]))) (λx a=>n x (by simp[a])),DT l k (by simpa using c.2) q (λx a=>m x (by simp[a])) e (λx a=>n x (by simp[a])),rfl⟩
def No{f:Func}{s:ChangeSpec}{W g:World}{i:Array Value}{d:List (DataW H)}{o:List MemPlace}
 (J:laidOutB P=true)(L:(f.params.toList.all λt=>P.readableRec t&&decide (t<P.types.size))=true)(z:f.resultTypes=#[t])(v:P.underlying t=some .bool)(B:s.vars=[])
 (j:DataW.Whole b P f.params.toList s.vars false W i.toList d [] o)(F:(s.fn H (d++[])).args=d)(G:(s.fn H (d++[])).results=[.lit (.bool true)])(I:(s.fn H (d++[])).vars=[])
 (k:Below W.heap.size W g):s.post b P f false true false false W i (.bool true) g:=by
 have h:∀a∈o,a.block<W.heap.size:=λa l=>by simpa using j.lt a l
 have r:=j
 obtain⟨a,N,E,q,rfl,C,M⟩:=j
 rw[B]at q
 obtain⟨_,rfl⟩:=trodVars_none q
 simp only[dY]at h C r
 have u:∀c:Nat->Bool,(∀x∈a,c x.block=true)->DataW.TrodAll b P g 0 c true f.params.toList i.toList (s.fn H (d++[])).args a:=λc K=>by
  rw[F];exact DT J k L E h c K
 have A:∀c:Nat->Bool,DataW.TrodVars b P g c s.vars (s.fn H (d++[])).vars []:=λc=>by rw[B,I];rfl
 have y:∀(e:Nat)(c:Nat->Bool)(hd:Bool),DataW.TrodAll b P g e c hd f.resultTypes.toList ((Value.bool true).resultList f.resultTypes.size) (s.fn H (d++[])).results []:=λe c hd=>by
  rw[G,z];exact trodAll_cons_mk (shut_bool v _) trodAll_mk0
 refine⟨d,[],a,[],a,[],r,y _ _ _,u _ (λx m=>by simpa using h x m),A _,k.frame _,λ_=>?_⟩
 refine⟨ok_one z rfl (okWide_bool_mk v _),_,_,([]++a)++[],⟨[]++a,[],trodAll_append (u _ (λ_ _=>rfl)) (y _ _ _),A _,rfl,?_,λD=>by cases D⟩,?_⟩
 .intro e n l
  have w:MemPlace.cell e n∈a:=by simpa using l
  rw[k.frozen (p:=⟨e,n,none⟩) (h _ w)]
  exact C e n w
 .intro x m _
  simpa using m
end
end Go.Vc
end
section
namespace Go.Proofs.YtkoifinbblcbiaaGreat
open Go.Vc Go.ChangeShapes
def Td{H:Type}{x:TypeId×Value->H}{P:Program}{w:World}{t e r:Nat}{v:Value}{u:DataW H}{I:List MemPlace}(p:P.underlying t=some (.slice e))(B:P.underlying e=some (.int .u8))(A:P.cellsOf e=1)
 (E:Value.okWide P w .any r t v)(y:DataW.Trod x P w 0 (λ_=>true) true t v u I):∃s,v=O.v s/\Jy w.heap s:=by
 obtain⟨J,q,h,rfl⟩:=Go.WideShapes.okWide_slice p E
 obtain⟨L,C⟩:=y
 rcases open_ints p B A C with⟨b,_⟩|⟨d,N,K,g,b,_,D,M,G,_,l,F⟩
 .simp[Value.cells]at b
  obtain⟨rfl,rfl,rfl⟩:=b
  exact⟨.nil,rfl,ad _,λk a=>by simp at a⟩
 .simp[Value.cells]at b
  obtain⟨rfl,rfl,rfl⟩:=b
  simp only[MT]at G
  rcases j7 h with i|i
  .subst i
   have:q=0:=V
   subst this
   obtain⟨c,o,s⟩:=d
   cases s with
   |none=>exact⟨.mk c o 0 0,rfl,ad _,λk a=>by simp at a⟩
   |some f=>exact⟨.zU c o f,rfl,ad _,λk a=>by simp at a⟩
  .have z:=l 0 V
   have n:d.spot=none:=by
    have:=SK z;simpa[Addr.add]using this
   obtain⟨c,o,s⟩:=d
   simp only at n
   subst n
   refine⟨.mk c o q h,rfl,D,λk a=>?_⟩
   simp only[O.gG]at a
   have m:k<g.length:=V
   have j:=l k m
   have f:=F (g.getD k 0) (by rw[fS,List.getElem?_eq_getElem m];simp)
   rw[Lit.wf,bL,ar,ar]at f
   refine⟨g.getD k 0,f.1,f.2,?_⟩
   .rw[SI rfl,zR]at j
    simpa using j
end Go.Proofs.YtkoifinbblcbiaaGreat
end
