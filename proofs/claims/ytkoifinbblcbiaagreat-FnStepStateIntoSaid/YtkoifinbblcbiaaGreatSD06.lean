/- Part of a proof. -/
import Derived.Carry
import Derived.ChangeSame
import Derived.ChangeSlices
import Derived.Deep.Slices
import Derived.OpenShut
import Derived.RowKit
import Derived.WideShapes
import Derived.Test.YtkoifinbblcbiaaGreatSD00
import Derived.Test.YtkoifinbblcbiaaGreatSD02
import Derived.Test.YtkoifinbblcbiaaGreatSD03
import Derived.Test.YtkoifinbblcbiaaGreatSD04
import Derived.Test.YtkoifinbblcbiaaGreatSD05
set_option linter.all false
set_option maxHeartbeats 8000000
set_option maxRecDepth 100000
namespace Go.Proofs.YtkoifinbblcbiaaGreat
open Go.Vc
section
variable{M:E}
def RY{k b:Nat}(a:b<k)(h:k<=M.size):(M.extract 0 k)[b]? =M[b]? :=((J.MV h).same b (by rw[mz h];exact a)).symm
def pD.old{mx M':E}{f:Nat->Nat}{aU c a:O}{s:St}(h:pD mx f M aU c a s)(d:M.size<=M'.size)(g:∀b,mx.size<=b->b<M.size->M'[b]? =M[b]?):pD (M'.extract 0 mx.size) f M' aU c a s:=
 have e:=bH h.bs.cx.size d
 h.Rb (by rw[mz e];exact ad _) d g (J.MV e)
def vI.old{a M M':E}{i:Nat->Nat}{c e:Nat}{d:List Ce}{aU h f:O}{s:St}(L:vI a i M c e d aU h f s.aU s.heap s.ao)(j:a.size<=c)(k:M.size<=M'.size)(g:∀b,a.size<=b->b<M.size->M'[b]? =M[b]?):vI (M'.extract 0 a.size) i M' c e d aU h f s.aU s.heap s.ao:=
 have N:=pD.old (s:=s) ⟨⟨L.cx,L.jY,L.new⟩,L.aU,L.heap,L.ao⟩ k g
 ⟨N.bs.cx,N.bs.jY,N.bs.new,L.box.congr (g _ j L.box.lt),L.QB,N.aU,N.heap,N.ao⟩
def Xj{Y:List Nat}{m:E}(f:Fz Y m M):Le (bG Y m) (M.extract 0 m.size):=λc o v e=>by
 let⟨d,a⟩:=eQ.1 e;have b:=my a;rw[aH ((RY b f.size).trans (f.same c b d))];exact a
def GSt(f:cO)(d:Nat)(e:O)(m:E)(P:Nat)(v:Value)(a:E):Prop:=∃n g aU c b s,v=Nm s aU c b/\pD (a.extract 0 n) g a aU c b s/\m.size<=n/\n<=a.size/\cY f s/\Sm 100000 s/\Rd d e P a/\Fz [d] m a
section
variable{f:List Nat}{a:E}{b P:Nat}{e d p:O}{c:cO}
def IC(H:Rd b e P a)(hP:P+100<=10^16)(hd:cw (bG [b] a) d c.bo)(hp:iv (bG [b] a) p c.cB)(K:nB c):aN cg 55 [vp b 0,.agg #[O.v d,O.v p]] a (GSt c b e a (P+6)):=by
 apply AT (b,0);simp -zeta only[aC,aB];have hr:=H.lt;intro l t;let⟨x2,r⟩:=dE (a:=l) (c:=t) rfl rfl;have s1:l.size=a.size+1:=by simp[l]
 have B2:cF t a.size vA [.s d,.s p]:=(cF.push a _ _).ext (J.push l _);clear_value t;have r2:Rs b e a P t:=⟨x2.fz _,H.ext x2⟩;intro N;have x3:J t N:=J.push _ _;have G3:∀o,af N a.size o=af t a.size o:=λo=>aH (x3.same _ B2.lt) o;refine⟨G3 _,G3 _,G3 _,G3 _,?_⟩;refine(Ah r2 V [40,40,12,3,0,20] rfl rfl aL).mono λ_ j⟨dW,h,aE,r4,w⟩=>?_;have z3:=x3.size;have z2:=x2.size;have w:Fz [b] N j:=w;have z4:=w.size;have aY:=r l.size aL;have Z:0<=dW/\dW<=40:=by simp at aE;omega
 have A:∀o,af j a.size o=af N a.size o:=λo=>aH (w.same _ V bE) o;refine⟨w.dv λf g=>by have:=r f g;simp at g⊢;omega,dW,h,A _,A _,A _,A _,?_⟩;have aG:∀{M:E},Fz [b] a M->fy M d p c:=λG=>have aq:=(G.dg (S:=[b]) aL).trans (bA _ _);⟨hd.le aq,iv.le aq hp⟩;refine(EZ (aG r4.f) K dW).mono ?_;rintro _ u ⟨aU,aF,fr,rfl,x,b1,b2,b3,b4,aZ,q1,q2,q3,q4,q5,au,q6,k4⟩;have z5:=x.size;have G5:∀o,af u a.size o=af j a.size o:=λo=>aH (x.same _ V) o;refine⟨x.dv λf g=>oh (r f g),_,_,_,_,_,_,_,rfl,G5 _,G5 _,?_⟩;intro n;have x6:J u n:=J.push _ _;have kb:cF n u.size bJ (SB d p (lZ c dW) aU aF fr):=cF.push u _ _;have L6:=Uh (m:=j) (MV:=[.s d,.s p]) ⟨q1,q2,q3,q4,q5⟩ au q6 k4 x6 (ad _) kb;have s6:n.size=u.size+1:=by simp[n]
 clear_value n;have r6:=(r4.ext x).ext x6;have L:∀{M:E},n.size<=M.size->Lw b [u.size,l.size,a.size] M:=λaX=>lw hr bE;refine(cp r6.r V 60).mono λ_ m7⟨B,h,aO,aP,d7,U⟩=>⟨(L (ad _)).dv U,B,h,?_⟩;have z7:=U.size;refine(cp d7 V 200).mono λ_ m8⟨C,h,aQ,aR,d8,W⟩=>⟨(L z7).dv W,C,h,?_⟩;have z8:=W.size;refine(cp d8 V 20).mono λ_ m9⟨D,h,aS,aT,d9,X⟩=>⟨(L V).dv X,D,h,?_⟩;have z9:=X.size;refine(cp d9 V 100).mono λ_ aa⟨F,h,aV,aW,ax,Q⟩=>⟨(L V).dv Q,F,h,?_⟩;have vG:=Q.size;have ai:=((U.trans W).trans X).trans Q;have ae:=J.push aa (.cells (bt [.i B,.i C,.i D,.i 100000,.i 0,.i F]) aA);have a2:=ae.size;refine(Ah (r6.to ai ax) V [B,C,D,100000,0,F] rfl rfl aL).mono λ_ y⟨ab,h,aj,am,v⟩=>?_;have v:Fz [b] (aa.push (.cells (bt [.i B,.i C,.i D,.i 100000,.i 0,.i F]) aA)) y:=v;refine⟨(L (bH (by omega:n.size<=aa.size) ae.size)).dv v,ab,h,?_⟩;have a3:=v.size;obtain⟨q,rfl⟩:∃q:Nat,ab=q:=⟨ab.toNat,by simp at aj;omega⟩;have hn:q<=100000:=by simp at aj;omega
 have T:=(ai.trans (ae.fz _)).trans v;have ah:=L6.old (s:=lZ c dW) (M':=y) V T.size λf h1 h2=>T.same f h2 bE;have e0:(y.extract 0 j.size).size=j.size:=mz V;have w4:Le (bG [b] a) (y.extract 0 j.size):=(r4.f.dg aL).trans (Xj (((x.trans x6).fz [b]).trans T));refine(Qi (s:=lZ c dW) ah ⟨hd.le w4,iv.le w4 hp⟩ (Mk K Z) (Qk c dW) q hn V).mono ?_;rintro _ z ⟨⟨nn,rfl⟩,a1,aI,az,ay,i,ap⟩;have ak:=BJ q (Mk K Z);have I:=BK q (Mk K Z) (Qk c dW) V;have al:=ak.ju I V;generalize aD c q (lZ c dW)=st at*;have a4:=ap.size;have ao:∀f,f<j.size->z[f]? =y[f]? :=λf g=>(i.cx.same f V).trans (RY g V);have aJ:Rs b e a (P+6) z:=by
  have G:Fz [b] a z:=⟨V,λf g hn=>(ao f V).trans (am.f.same f g hn)⟩;exact⟨G,(H.MQ am.r G (ao b V)).mono V⟩
 refine⟨ap.dJ λf g=>⟨by have:=r f g;omega,ah.jY f (oh (r f g))⟩,nn,rfl,_,i.box.bZ 2,_,i.box.bZ 3,_,i.box.bZ 4,_,i.box.bZ 5,aI,i.box.bZ 6,az,i.box.bZ 7,ay,i.box.bZ 8,(pZ (Bs.yK z) (λ_=>dO _) (i.Em al) al).mono ?_⟩;rintro _ a0 ⟨aK,ac,Y,R,rfl,aw,ar⟩;have ag:=ar.uZ;have aM:=ag.size;refine⟨ag.dv λf g=>oh (r f g),_,_,_,_,ac,Y,R,rfl,?_⟩;have an:=(aJ.ext ag).put H (k:=l.size) V 0 [.i st.cz,.i st.value,.i st.bu,.i st.dW,.s ac,.s Y,.s R];exact⟨z.size,aK,ac,Y,R,st,rfl,aw.old (ue (av _ _ _ _).symm) λf g _=>bd _ _ _ _ V,V,by rw[av];exact aM,ak,⟨by have:=I.heap;omega,oh I.aU,I.uF⟩,an.r,an.f⟩
end
end
section
variable{q:O}
def cY.ZV{q:cO}{s:St}{n:Nat}(h:cY q s)(c:Sm n s)(x:n<=10000000):DR s:=by
 have l:=h.ju c V;have i:=h.bu;have v:=h.dW;have u:=c.heap;have C:=Ox h;have t:=l.depth;refine⟨⟨V,V⟩,λd i w a=>?_,λf b=>?_,V,V,λf b=>oh (l.ao f b)⟩
 .have k:=h.heap.cell d i;rcases Jh d.aQ 1 with e|e
  .have:=(k.wW e).2.1 w a;exact⟨V,V⟩
  .rcases(k.oY V).1 w a with e|⟨e,j,g,_⟩
   .exact⟨by have:=e.1;omega,oh e.2⟩
   .have:=aw g;have:=iA e;exact⟨V,V⟩
 .let⟨k,o⟩:=List.mem_iff_getElem?.1 b;have F:=C.ao k f o;refine⟨λw a=>⟨?_,c.uF f b w a⟩,λr p=>?_,λw a=>?_⟩
  .rcases(h.ao f b).R1 w a with e|e
   .have:=e.1;omega
   .omega
  .let⟨m,j⟩:=List.mem_iff_getElem?.1 p;have:=F.lr;have:=F.lo;have:=aw j;let⟨w,a⟩:=cG f.ak m;have:=(F.ak.dA m w r a j).2.1;exact⟨V,V⟩
  .rcases C.aZ.cL f b w a with e|⟨e,g⟩
   .exact⟨V,V⟩
   .have:=iA e;exact⟨V,V⟩
structure Mv(n:Nat)(ro:Nat->Nat)(M:E)(ro':Nat->Nat)(M':E):Prop where
 size:M.size<=M'.size
 eB:∀b,b<M.size->n<=b->M'[b]? =M[b]?
 gX:∀b,b<M.size->ro' b=ro b
 new:∀b,M'.size<=b->ro' b=0
 jY:∀b,b<n->ro b=0
section
variable{n:Nat}{a d:Nat->Nat}{M b:E}
def iO.mv{e f k:Nat}{s:O}{l:List Ce}(h:iO a M e f k s l)(v:Mv n a M d b)(g:k≠0):iO d b e f k s l:=
 h.eB (λc=>v.eB _ (h.D c).1 (Hv λe=>g (by rw[<-(h.D c).2];exact v.jY _ e))) λc=>v.gX _ (h.D c).1
def dL.mv{i:O}{h:List bM}(q:dL n a M i h)(v:Mv n a M d b):dL n d b i h:=by
 let⟨l,j,a2,a3⟩:=q;refine⟨l,j.mv v bh,a2.mono λs r⟨o,m,f,g⟩=>⟨o,m,iW f λc=>v.eB _ (iN f c) (g c).2.1,λc=>?_⟩,a3⟩;let⟨g1,g2,k,tail,p,e⟩:=g c;exact⟨(v.gX _ e.lt).trans g1,g2,k,tail,p,e.congr (v.eB _ e.lt g2)⟩
def Tb.mv{i:Nat}{c:List Ce}{f:aT}(v:Mv n a M d b):Tb a M i c f->Tb d b i c f:=λ⟨r,o,k,j,e,g,h⟩=>⟨r,o,k,j,e.mv v V,g.mv v V,h.mv v V⟩
def tg.mv{e:O}{g:List aT}{f:aT}{r o h:O}{c:List (List Ce)}(T:tg a M e g f r o h c)(v:Mv n a M d b):tg d b e g f r o h c:=
 ⟨T.qu.mv v bh,T.len,T.size,λm i j k l=>(T.dA m i j k l).mv v,T.ak.mv v V,T.aR.mv v V,T.aZ.mv v V⟩
def nP.mv{c:O}{e:List aT}(l:nP a M c e)(v:Mv n a M d b):nP d b c e:=by
 let⟨g,h⟩:=l;exact⟨g,h.qu.mv v bh,h.len,h.size,λm f i j k=>(h.dA m f i j k).mv v⟩
def tg.put{d:O}{b:List aT}{f g:aT}{s o p n m j:O}{h:List (List Ce)}(T:tg a M d b f s o p h)(v:∀e,M.size<=e->a e=0){i:Nat}(w:i<6){c:Ce}
 (u:jm [.i f.fq,.i f.pc,.i f.dst,.s s,.s o,.s p] i [c]=[.i g.fq,.i g.pc,.i g.dst,.s n,.s m,.s j])(t:iO a M aA 1 (10+3*b.length) n (g.ak.map Ce.i))(q:iO a M aA 1 (11+3*b.length) m (g.aR.map Ce.i))(r:iO a M aA 1 (12+3*b.length) j (g.aZ.map Ce.i)):
 fK M d.D (d.off+b.length*6+i) 1/\tg a (ah M d.D (d.off+b.length*6+i) [c]) d b g n m j h/\dp (λk=>4<=k/\k≠9) a M a (ah M d.D (d.off+b.length*6+i) [c]):=by
 have e:dp (λk=>k=4) a M a (ah M d.D (d.off+b.length*6+i) [c]):=dp.ah v T.D.1 _ _
 have l:h.flatten.length=b.length*6:=by rw[cv T.size,T.len]
 refine⟨by rw[dj];exact T.qu.wr (by simp only[be,l,ba,eW];omega),⟨?_,T.len,T.size,T.yf e λk q r=>V,t.eI e V,q.eI e V,r.eI e V⟩,e.mono λk x=>V⟩
 have:=T.qu.set (o:=b.length*6+i) (new:=[c]) (by simp[l];omega)
 rw[lO _ _ _ _ V,l,Hu,u]at this
 rw[dj];exact this
end
structure SO(n:Nat)(ro:Nat->Nat)(M:E)(aU hp fr:O)(s:St):Prop where
 le:n<=M.size
 jY:∀b,b<n->ro b=0
 new:∀b,M.size<=b->ro b=0
 aU:iO ro M aA 1 2 aU (s.aU.map Ce.i)
 heap:dL n ro M hp s.heap
 ao:nP ro M fr s.ao
structure FS(s:St):Prop where
 uF:DR s
 ju:zB s
 lo:s.aU.length<=1000000/\s.heap.length<=1000000
section
variable{n:Nat}{a e:Nat->Nat}{M b:E}{aU d c:O}{s:St}
def SO.of(N:pD (M.extract 0 n) a M aU d c s)(h:n<=M.size):SO n a M aU d c s:=⟨h,λb e=>N.bs.jY b (by rw[mz h];exact e),N.bs.new,N.aU,by have:=N.heap;rwa[mz h]at this,N.ao⟩
def SO.mv(w:SO n a M aU d c s)(v:Mv n a M e b):SO n e b aU d c s:=⟨bH w.le v.size,λf g=>(v.gX f (aO g w.le)).trans (w.jY f g),v.new,w.aU.mv v bh,w.heap.mv v,w.ao.mv v⟩
def SO.mvF(w:SO n a M aU d c s){h:Nat}(f:Fz [h] M b)(j:h<n):Mv n a M a b:=⟨f.size,λe g i=>f.same e g bE,λ_ _=>rfl,λe g=>w.new e (bH f.size g),w.jY⟩
def SO.eI{p:Nat->Prop}(w:SO n a M aU d c s)(C:dp p a M e b):n<=b.size/\(∀f,f<n->e f=0)/\∀f,b.size<=f->e f=0:=⟨bH w.le C.size,λf g=>(C.gX f (aO g w.le)).trans (w.jY f g),C.new⟩
def SO.box(w:SO n a M aU d c s){b:Nat}(g:a b=1)(o:Nat)(l:List Ce):SO n a (ah M b o l) aU d c s:=by
 have C:dp (λk=>k=1) a M a (ah M b o l):=dp.ah w.new g _ _;let⟨e,b,f⟩:=w.eI C;exact⟨e,b,f,w.aU.eI C bh,w.heap.eI C bh bh,w.ao.eI C λk h=>V⟩
def SO.Im(w:SO n a M aU d c s)(C:dp (λk=>k=2) a M e b){l:List Int}(A:iO e b aA 1 2 q (l.map Ce.i)):SO n e b q d c {s with aU:=l}:=
 let⟨f,g,h⟩:=w.eI C
 ⟨f,g,h,A,w.heap.eI C bh bh,w.ao.eI C λk i=>V⟩
def SO.gB(w:SO n a M aU d c s)(C:dp (λk=>k=3) a M e b){h:List bM}(A:dL n e b q h):SO n e b aU q c {s with heap:=h}:=
 let⟨f,g,i⟩:=w.eI C
 ⟨f,g,i,w.aU.eI C bh,A,w.ao.eI C λk j=>V⟩
def SO.jQ(w:SO n a M aU d c s)(C:dp (λk=>4<=k/\k≠9) a M e b){l:List aT}(A:nP e b q l):SO n e b aU d q {s with ao:=l}:=
 let⟨f,g,h⟩:=w.eI C
 ⟨f,g,h,w.aU.eI C bh,w.heap.eI C bh bh,A⟩
def SO.Em(w:SO n a M aU d c s)(h:zB s):gE M aU d c s:=⟨w.aU.nT (oh h.aU),w.heap.cells (oh h.heap),w.ao.Em (oh h.depth) h.ao⟩
end
end
section
variable{K:Int->E->Prop}{p:Nat->Prop}
def SP(n h:Nat)(f:O)(g:E)(P:Nat)(v:Value)(a:E):Prop:=∃aU e d s,v=Nm s aU e d/\(∀c,a.size<=c.size->(∀b,b<a.size->n<=b->c[b]? =a[b]?)->gE c aU e d s)/\DR s/\(s.aU.length<=1000000/\s.heap.length<=1000000)/\Rs h f g P a
structure SQ(n rb:Nat)(bs:O)(ma:E)(k1 k2 Q:Nat)(ro:Nat->Nat)(M:E)(aU hp fr:O)(s:St):Prop where
 w:SO n ro M aU hp fr s
 r:Rs rb bs ma Q M
 k1:ro k1=1/\k1<M.size/\n<=k1
 k2:ro k2=1/\k2<M.size/\n<=k2
 fs:FS s
section
variable{n b m q Q w P t:Nat}{j aU h f:O}{e M d:E}{r u:Nat->Nat}{s v:St}{L:List Nat}
def SQ.fz(a:SQ n b j e m q Q r M aU h f s)(g:b<n)(c:Fz [b] M d)(i:Rs b j e w d):SQ n b j e m q w r d aU h f s:=
 ⟨a.w.mv (a.w.mvF c g),i,⟨a.k1.1,aO a.k1.2.1 c.size,a.k1.2.2⟩,⟨a.k2.1,aO a.k2.2.1 c.size,a.k2.2.2⟩,a.fs⟩
def SQ.ext(a:SQ n b j e m q Q r M aU h f s)(c:b<n)(x:J M d):SQ n b j e m q Q r d aU h f s:=a.fz c (x.fz _) (a.r.ext x)
def SQ.gJ(c:SQ n b j e m q Q r M aU h f s)(o:b<n)(k:∀a∈L,a=m\/a=q)(i:Fz [b] M d):eG L M d:=i.dv λa l=>by
 have:=c.k1;have:=c.k2;rcases k a l with g|g<;>simp only[lR]<;>omega
def SQ.gk(a:SQ n b j e m q Q r M aU h f s)(g:b<n)(c:Fz [b] M d)(o:Nat):af d q o=af M q o:=aH (c.same _ a.k2.2.1 (by have:=a.k2;simp only[lR];omega)) o
def SQ.done(a:SQ n b j e m q Q r M aU h f s)(v:Rd b j t e)(C:e.size<=n)(x:Q<=P){o c g p:Int}(A:Hz g)(l:List Ce):SP n b j e P (.agg #[vi o,vi c,vi g,vi p,O.v aU,O.v h,O.v f]) (ah M m 0 l):=by
 have w:=a.w.box a.k1.1 0 l;have u:=a.r.put v (k:=m) (oh a.k1) 0 l;exact⟨aU,h,f,⟨o,c,g,p,s.aU,s.heap,s.ao⟩,rfl,λd z B=>have i:=(w.mv ⟨z,B,λ_ _=>rfl,λc y=>w.new c (bH z y),w.jY⟩).Em a.fs.ju;⟨i.aU,i.heap,i.ao⟩,⟨A,a.fs.uF.heap,a.fs.uF.ao,a.fs.uF.lh,a.fs.uF.lf,a.fs.uF.lr⟩,a.fs.lo,u.f,u.r.mono x⟩
def SQ.box(a:SQ n b j e m q Q r M aU h f s)(c:Rd b j t e)(d:e.size<=n)(o:Nat)(l:List Ce):SQ n b j e m q Q r (ah M q o l) aU h f s:=
 ⟨a.w.box a.k2.1 o l,a.r.put c (oh a.k2) o l,by rw[av];exact a.k1,by rw[av];exact a.k2,a.fs⟩
def SQ.lW(l:SQ n b j e m q Q r M aU h f s)(g:b<n)(u:Q<=10^16)(p:∀a∈L,a=m\/a=q)(a:List Int){c:List Ce}{i:Nat}(w:c=a.map Ce.i)(v:i=a.length)(z:0<a.length/\a.length<=100)
 (y:∀t d,t∈a->SQ n b j e m q (Q+1) r d aU h f s->Fz [b] (M.push (.cells (bt c) aA)) d->K t d):aN cg 39 [vp b 0,O.v (.mk M.size 0 i i)] (M.push (.cells (bt c) aA)) λC d=>eG L (M.push (.cells (bt c) aA)) d/\∃t:Int,C=vi t/\K t d:=
 have x:=J.push M (.cells (bt c) aA)
 (Ah l.r u a w v z).mono λ_ d⟨t,o,A,B,k⟩=>⟨(l.ext g x).gJ g p k,t,o,y t d A ((l.ext g x).fz g k B) k⟩
def SQ.pick(c:SQ n b j e m q Q r M aU h f s)(i:b<n)(o:Q<=10^16)(l:∀a∈L,a=m\/a=q)(g:Int)
 (p:∀t d,0<=t->(t<g\/t=0)->SQ n b j e m q (Q+1) r d aU h f s->Fz [b] M d->K t d):aN cg 40 [vp b 0,vi g] M λw d=>eG L M d/\∃t:Int,w=vi t/\K t d:=
 (cp c.r.r o g).mono λ_ d⟨t,k,v,t1,u,a⟩=>⟨c.gJ i l a,t,k,p t d v t1 (c.fz i a (c.r.to a u)) a⟩
def SQ.eI(a:SQ n b j e m q Q r M aU h f s)(l:Rd b j t e)(E:e.size<=n)(C:dp p r M u d)(h:∀k,p k->2<=k){x o k:O}(B:SO n u d x o k v)(z:FS v):SQ n b j e m q Q u d x o k v:=
 have D:=l.lt
 have w:∀c,c<n->d[c]? =M[c]? :=λc g=>C.eB c (aO g a.w.le) λy=>by have:=h _ y;have:=a.w.jY c g;omega
 have i:Fz [b] e d:=⟨bH a.r.f.size C.size,λc g A=>(w c V).trans (a.r.f.same c g A)⟩
 ⟨B,⟨i,l.MQ a.r.r i (w b V)⟩,⟨(C.gX _ a.k1.2.1).trans a.k1.1,aO a.k1.2.1 C.size,a.k1.2.2⟩,⟨(C.gX _ a.k2.2.1).trans a.k2.1,aO a.k2.2.1 C.size,a.k2.2.2⟩,z⟩
def SQ.dv(g:SQ n b j e m q Q r M aU h f s)(i:∀a∈L,a=m\/a=q)(C:dp p r M u d)(h:∀k,p k->2<=k):eG L M d:=λa k=>by
 have l:=g.k1;have a2:=g.k2;rcases i a k with c|c<;>subst c<;>exact C.eB _ V λc=>by have:=h _ c;omega
def SQ.fU(t:SQ n b j e m q Q r M aU h f s)(u:cQ ((f.len:Int) -1)>=0):∃a g l o k d,s.ao=a++[g]/\tg r M f a g l o k d/\cQ ((f.len:Int) -1)=(a.length:Int)/\f.len=a.length+1:=by
 have F:=t.w.ao;have p:=t.fs.ju.depth;rcases List.eq_nil_or_concat s.ao with c|⟨a,g,c⟩
 .rw[c]at F;let⟨d,i⟩:=F;have:=i.qu.len;rw[cv i.size,i.len]at this;simp only[eW]at this;rw[aP V V]at u;omega
 .rw[List.concat_eq_append]at c;rw[c]at F p;let⟨l,o,k,d,T⟩:=F.fU;have:=T.xY;simp at p;exact⟨a,g,l,o,k,d,c,T,by rw[aP V V];omega,this⟩
def FS.fU(h:FS s){d:List aT}{j g:aT}(i:s.ao=d++[j])(k:Sg g)(l:g.ak.length<=1000000/\g.aR.length<=1000000/\g.aZ.length<=1000000):FS {s with ao:=d++[g]}:=by
 have b:=h.uF;have c:=h.ju;have e:∀x∈d,x∈s.ao:=λx a=>by rw[i];simp[a]
 have f:=c.depth;rw[i]at f;simp at f;refine⟨⟨b.bu,b.heap,λx a=>?_,b.lh,bE,λx a=>?_⟩,⟨c.aU,c.fl,c.heap,bE,λx a=>?_⟩,h.lo⟩<;>rcases List.mem_append.1 a with a|a
 .exact b.ao x (e x a)
 .simp at a;rw[a];exact k
 .exact b.lr x (e x a)
 .simp at a;rw[a];omega
 .exact c.ao x (e x a)
 .simp at a;rw[a];exact l
def SQ.td(c:SQ n b j e m q Q r M aU h f s)(o:Rd b j t e)(p:e.size<=n){l:List aT}{z g:aT}(y:s.ao=l++[z]){J H I:O}{w:List (List Ce)}(T:tg r d f l g J H I w)(C:dp (λk=>4<=k/\k≠9) r M r d)(E:Sg g)(G:g.ak.length<=1000000/\g.aR.length<=1000000/\g.aZ.length<=1000000)
 (A:∀a∈L,a=m\/a=q)(B:Q<=P){v a i x:Int}(D:Hz i)(u:List Ce):eG L M d/\SP n b j e P (.agg #[vi v,vi a,vi i,vi x,O.v aU,O.v h,O.v f]) (ah d m 0 u):=
 ⟨c.dv A C λk F=>V,(c.eI o p C (λk F=>V) (c.w.jQ C T.td) (c.fs.fU y E G)).done o p B D u⟩
def Hc{im:cO}(I:Rd b j t e)(Q:e.size<=n)(aa:SO n r M aU h f s)(ae:Rs b j e P M)(hP:P+100<=10^16)(ok:cY im s)(hS:Sm 100000 s):aN cg 54 [vp b 0,Nm s aU h f] M (SP n b j e (P+6)):=by
 apply zf (b,0);simp(config:={maxSteps:=1000000}) -zeta only[aC,aB];have k:b<n:=by have:=I.lt;omega
 have le:=aa.le;intro S m2;have s1:S.size=M.size+1:=by simp[S]
 have s2:m2.size=M.size+2:=by simp[m2,s1]
 have x2:J M m2:=(J.push M _).trans (J.push S _);clear_value m2;clear_value S;have q2:SQ n b j e S.size M.size P (oF (oF r M.size 1) S.size 1) m2 aU h f s:=⟨aa.mv ⟨x2.size,λW hb _=>x2.same W hb,λW hb=>by rw[eV V,eV V],λW hb=>by rw[eV V,eV V];exact aa.new W V,aa.jY⟩,ae.ext x2,⟨fI _ _ _,V,V⟩,⟨by rw[eV V];exact fI _ _ _,V,V⟩,⟨ok.ZV hS V,ok.ju hS V,oh hS.aU,oh hS.heap⟩⟩;generalize oF (oF r M.size 1) S.size 1=ro2 at q2;have D:∀W∈[S.size,M.size],W=S.size\/W=M.size:=aL;have hc:=q2.fs.uF.bu;have ay:=ok.dW;refine q2.pick k V D 30 λaz y _ _ m f3=>?_;have ai:SP n b j e (P+6) (.agg #[vi s.cz,vi s.value,vi s.bu,vi s.dW,O.v aU,O.v h,O.v f]) (ah y S.size 0 [.i s.cz,.i s.value,.i s.bu,.i s.dW,.s aU,.s h,.s f]):=m.done I Q V hc _;have Gi:∀p∈s.ao,(1<=p.ak.length/\p.ak.length<=2000)/\p.aR.length<=2000/\1<=p.aZ.length:=λp hf=>by
  have hG:=ok.ao p hf;obtain⟨pg,_,au,ao,_⟩:=hG.Ab ok.fg;have R:=hG.lr;have W:=hG.lo;have X:=hG.lh;rw[au]at R W X;have:=ao.ak;omega
 have Km:∀(R:O)(fb H:Nat)(ls:List Int){C:List Ce}{X:Nat},ro2 fb=4->fb<y.size->C=ls.map Ce.i->X=ls.length->0<ls.length/\ls.length<=100->∀{ak:Int->Int->E->Prop},(∀F x d,0<=F->(F<(R.len:Int)\/F=0)->x∈ls->SQ n b j e S.size M.size (P+3) ro2 d aU h f s->Mv n ro2 y ro2 d->ak F x d)->
  (aN cg 40 [vp b 0,vi (R.len:Int)] y λK v=>eG [S.size,M.size] y v/\∃F:Int,K=vi F/\af v fb H=af y fb H/\af v M.size 6=af y M.size 6/\(af (v.push (.cells (bt C) aA)) fb H=af v fb H/\af (v.push (.cells (bt C) aA)) M.size 6=af v M.size 6/\af (v.push (.cells (bt C) aA)) fb H=af v fb H/\af (v.push (.cells (bt C) aA)) M.size 6=af v M.size 6/\
   aN cg 39 [vp b 0,O.v (.mk v.size 0 X X)] (v.push (.cells (bt C) aA)) λK G=>eG [S.size,M.size] (v.push (.cells (bt C) aA)) G/\∃x:Int,K=vi x/\af G fb H=af (v.push (.cells (bt C) aA)) fb H/\af G M.size 6=af (v.push (.cells (bt C) aA)) M.size 6/\ak F x G))/\
  (af (y.push (.cells (bt C) aA)) fb H=af y fb H/\af (y.push (.cells (bt C) aA)) M.size 6=af y M.size 6/\af (y.push (.cells (bt C) aA)) fb H=af y fb H/\af (y.push (.cells (bt C) aA)) M.size 6=af y M.size 6/\
   aN cg 40 [vp b 0,vi (R.len:Int)] (y.push (.cells (bt C) aA)) λK v=>eG [S.size,M.size] (y.push (.cells (bt C) aA)) v/\∃F:Int,K=vi F/\af v fb H=af (y.push (.cells (bt C) aA)) fb H/\af v M.size 6=af (y.push (.cells (bt C) aA)) M.size 6/\
    aN cg 39 [vp b 0,O.v (.mk y.size 0 X X)] v λK G=>eG [S.size,M.size] v G/\∃x:Int,K=vi x/\af G fb H=af v fb H/\af G M.size 6=af v M.size 6/\ak F x G):=λR fb H ls C X h4 aw h1 h2 h3{ak} hX=>by
  have nb:fb∉[b]:=λw=>by simp at w;have:=q2.w.jY b k;rw[w]at h4;omega
  have ge:∀{M1 M2:E},y.size<=M1.size->Fz [b] M1 M2->af M2 fb H=af M1 fb H:=λav p=>aH (p.same fb V nb) H
  refine⟨?_,?_⟩
  .refine m.pick k V D (R.len:Int) λF v k0 ab A Z=>?_
   have T:=J.push v (.cells (bt C) aA)
   have z4:=Z.size
   refine⟨ge (ad _) Z,m.gk k Z _,ge z4 (T.fz _),A.gk k (T.fz _) _,ge z4 (T.fz _),A.gk k (T.fz _) _,A.lW k V D ls h1 h2 h3 λx G z q N=>⟨ge (bH z4 T.size) N,(A.ext k T).gk k N _,hX F x G k0 ab z q (m.w.mvF ((Z.trans (T.fz _)).trans N) k)⟩⟩
  .have U:=J.push y (.cells (bt C) aA)
   have A:=m.ext k U
   have z4:=U.size
   have L:ap (bG [b] (y.push (.cells (bt C) aA))) (.mk y.size 0 X X) ls:=ap.lit aA ls (by simp;exact m.r.r.lt) h1 h2 V
   refine⟨ge (ad _) (U.fz _),m.gk k (U.fz _) _,ge (ad _) (U.fz _),m.gk k (U.fz _) _,A.pick k V D (R.len:Int) λF m5 k0 ab B f5=>⟨ge z4 f5,A.gk k f5 _,?_⟩⟩
   refine(kJ B.r.r V (ap.le (f5.dg aL) L) h3.1).mono λ_ G⟨x,w,z,Y,N⟩=>⟨B.gJ k D N,x,w,ge (bH z4 f5.size) N,B.gk k N _,hX F x G k0 ab z (B.fz k N (B.r.to N Y)) (m.w.mvF (((U.fz _).trans f5).trans N) k)⟩
 refine⟨λ_=>m.lW k V D [0,1,2,3,4,-1] rfl rfl aL λx v _ A _=>(A.box I Q _ _).done I Q V hc _,λ_=>⟨λ_=>?_,λ_=>⟨λ_=>m.lW k V D [5,1000,0] rfl rfl aL λx v _ A _=>(A.box I Q _ _).done I Q V hc _,λ_=>⟨λ_=>?_,λ_=>⟨λ_=>?_,λ_=>⟨λ_=>⟨λz=>?_,λ_=>ai⟩,λ_=>⟨λ_=>⟨λz=>?_,λ_=>ai⟩,λ_=>⟨λ_=>⟨λz=>?_,λ_=>ai⟩,λ_=>⟨λ_=>⟨λz=>?_,λ_=>ai⟩,λ_=>⟨λ_=>⟨λz=>?_,λ_=>ai⟩,λ_=>ai⟩⟩⟩⟩⟩⟩⟩⟩⟩⟩
 .refine m.lW k V D [0,41,-1,cQ (s.dW+1)] rfl rfl aL λx v z A _=>(A.box I Q _ _).done I Q V ?_ _;rw[aP V V]at z;simp at z;exact⟨V,V⟩
 .have U:=J.push y (.cells (bt [.i 5,.i 1000]) aA);refine⟨m.gk k (U.fz _) _,m.lW k V D [5,1000] rfl rfl aL λx m5 _ B f5=>⟨(m.ext k U).gk k f5 _,?_⟩⟩;intro G;have Y:J m5 G:=J.push _ _;have iI:fQ G m5.size 0 [.i x]:=(cF.push m5 [.i x] aA).iI;clear_value G;have q:=B.ext k Y;have ol:=q.w.aU.len;have os:=hS.aU;simp at ol;refine⟨B.gk k (Y.fz _) _,q.w.aU.append (zs:=[.i 0]) q.w.new rfl iI bE λu ag m7 ac L=>⟨q.dv D L λF hk=>V,?_⟩⟩;have q7:=q.eI I Q L (λF hk=>V) (q.w.Im (l:=s.aU++[x]) L (by rw[fw];exact ac)) ⟨⟨q.fs.uF.bu,q.fs.uF.heap,q.fs.uF.ao,q.fs.uF.lh,q.fs.uF.lf,q.fs.uF.lr⟩,⟨bE,q.fs.ju.fl,q.fs.ju.heap,q.fs.ju.depth,q.fs.ju.ao⟩,bE,q.fs.lo.2⟩;exact(q7.box I Q _ _).done I Q V hc _
 .have ax:=m.w.heap.len;refine⟨λh1=>?_,λ_=>ai⟩;simp only[kM,ar]at h1;refine m.pick k V D (h.len:Int) λR v a0 a1 A Z=>?_;let⟨X,al⟩:=cG s.heap R.toNat;obtain⟨_,g0,-⟩:=A.w.heap.bZ al;have hb:=A.w.heap.D (a:=R.toNat) V;have nb:h.D≠b:=λw=>by have:=A.w.jY b k;rw[w]at hb;omega
  have T:=J.push v (.cells (bt [.i 1,.i (-1)]) aA);have e5:=λac=>aH (T.same _ hb.2) ac;refine⟨a0,V,_,g0,e5 _,A.gk k (T.fz _) _,A.gk k (T.fz _) _,A.lW k V D [1,-1] rfl rfl aL λx G _ q N=>?_⟩;have e6:=λac=>aH (N.same h.D (aO hb.2 T.size) (by simpa using nb)) ac;have B:=A.ext k T;refine⟨e6 _,B.gk k N _,B.gk k N _,a0,V,q.w.heap.wr (o:=0) V V,?_⟩;let⟨an,L⟩:=q.w.heap.rE q.w.new al (cQ (X.aQ+x));have Y:=q.fs.uF;have aj:=q.fs.ju;refine⟨q.dv D L λF hk=>V,SQ.done (q.eI I Q L (λF hk=>V) (q.w.gB L an) ⟨⟨Y.bu,λam hx=>?_,Y.ao,by simpa using Y.lh,Y.lf,Y.lr⟩,⟨aj.aU,λam hx=>?_,by simpa using aj.heap,aj.depth,aj.ao⟩,by simpa using q.fs.lo⟩) I Q V hc _⟩
  .rcases cD hx with w|w
   .exact Y.heap am w
   .rw[w];exact Y.heap X (aq al)
  .rcases cD hx with w|w
   .exact aj.fl am w
   .rw[w];exact aj.fl X (aq al)
 .simp only[oG,ar]at z;have U:=J.push y (.cells (bt [.i 0,.i 1,.i 99,.i (-1)]) aA);refine⟨m.gk k (U.fz _) _,m.lW k V D [0,1,99,-1] rfl rfl aL λx m5 _ B f5=>⟨(m.ext k U).gk k f5 _,?_⟩⟩;let⟨fs,p,ae,ac,ag,aj,w,T,ew,el⟩:=B.fU z;have N:p∈s.ao:=by rw[w];simp
  have Y:=B.fs.uF.ao p N;have fl:=B.fs.ju.ao p N;rw[ew];let⟨wr,T',L⟩:=T.put (i:=1) (g:={p with pc:=x}) (c:=.i x) B.w.new bh rfl T.ak T.aR T.aZ;exact⟨V,V,wr,B.td I Q w T' L Y fl D V hc _⟩
 .simp only[oG,ar]at z;let⟨fs,p,ae,ac,ag,aj,w,T,ew,el⟩:=m.fU z;have N:p∈s.ao:=by rw[w];simp
  have Y:=m.fs.uF.ao p N;have fl:=m.fs.ju.ao p N;rw[ew];obtain⟨_,_,_,_,g4,_⟩:=T.iI;have hl:=Gi p N;refine⟨V,V,ac,g4,(qO m.r.r V (T.aR.nT V) V).mono λ_ v⟨R,l',e',am,an,hm,r4,Z⟩=>⟨m.gJ k D Z,R,e',m.gk k Z _,V,V,?_⟩⟩;have ax:=am.bn;have K:Mv n ro2 y (oF ro2 R.D (11+3*fs.length)) v:=⟨Z.size,λW hb al=>Z.same W hb bE,λW hb=>eV V,λW hb=>by rw[eV V];exact m.w.new W (bH Z.size hb),m.w.jY⟩;have z4:=Z.size;have ab:=m.k1;have al:=m.k2;have A:SQ n b j e S.size M.size (P+4) (oF ro2 R.D (11+3*fs.length)) v aU h f s:=⟨m.w.mv K,m.r.to Z r4,⟨(K.gX _ ab.2.1).trans ab.1,V,ab.2.2⟩,⟨(K.gX _ al.2.1).trans al.1,V,al.2.2⟩,m.fs⟩;have T4:=T.mv K;let⟨wr,T',L⟩:=T4.put (i:=4) (g:={p with aR:=l'}) (c:=.s R) A.w.new bh rfl T4.ak (iO.gA (GI.aU am) λ_=>fI _ _ _) T4.aZ;exact⟨wr,A.td I Q w T' L ⟨Y.1,λaa hw=>(hm aa hw).elim (Y.2.1 aa) λw=>⟨V,V⟩,Y.2.2⟩ ⟨fl.1,by show l'.length<=_;omega,fl.2.2⟩ D V hc _⟩
 .simp only[oG,ar]at z;let⟨fs,p,ae,ac,ag,aj,w,T,ew,el⟩:=m.fU z;have N:p∈s.ao:=by rw[w];simp
  have Y:=m.fs.uF.ao p N;have fl:=m.fs.ju.ao p N;have hl:=Gi p N;rw[ew];obtain⟨_,_,_,g3,_⟩:=T.iI;have Z:=T.ak.len;simp at Z;refine⟨V,V,ae,g3,V,V,ae,g3,Km ae f.D _ [0,5,1000,1003,-1000] T.D.1 T.D.2 rfl rfl aL λF x G k0 ab z q K=>?_⟩;let⟨T',L⟩:=(T.mv K).Aq q.w.new k0 V x;exact⟨k0,V,(T.mv K).ak.Oa k0 V,q.td I Q w T' L ⟨λaa hw=>(cD hw).elim (Y.1 aa) λw=>by simp at z;exact⟨V,V⟩,Y.2⟩ ⟨by show(p.ak.set _ _).length<=_;simp;omega,fl.2⟩ D V hc _⟩
 .simp only[oG,ar]at z;let⟨fs,p,ae,ac,ag,aj,w,T,ew,el⟩:=m.fU z;have N:p∈s.ao:=by rw[w];simp
  have Y:=m.fs.uF.ao p N;have fl:=m.fs.ju.ao p N;have hl:=Gi p N;rw[ew];obtain⟨_,_,_,_,_,g5⟩:=T.iI;have Z:=T.aZ.len;simp at Z;refine⟨V,V,ag,g5,V,V,ag,g5,Km ag f.D _ [1000,1,1001] T.D.1 T.D.2 rfl rfl aL λF x G k0 ab z q K=>?_⟩;let⟨T',L⟩:=(T.mv K).xp q.w.new k0 V x;exact⟨k0,V,(T.mv K).aZ.Oa k0 V,q.td I Q w T' L ⟨Y.1,Y.2.1,λaa hw=>(cD hw).elim (Y.2.2 aa) λw=>by simp at z;exact⟨V,V⟩⟩ ⟨fl.1,fl.2.1,by show(p.aZ.set _ _).length<=_;simp;omega⟩ D V hc _⟩
 .simp only[oG,ar]at z;have U:=J.push y (.cells (bt [.i 0,.i 1,.i 99,.i (-1)]) aA);refine⟨m.gk k (U.fz _) _,m.lW k V D [0,1,99,-1] rfl rfl aL λx m5 _ B f5=>⟨(m.ext k U).gk k f5 _,?_⟩⟩;let⟨fs,p,ae,ac,ag,aj,w,T,ew,el⟩:=B.fU z;have N:p∈s.ao:=by rw[w];simp
  have Y:=B.fs.uF.ao p N;have fl:=B.fs.ju.ao p N;rw[ew];let⟨wr,T',L⟩:=T.put (i:=2) (g:={p with dst:=x}) (c:=.i x) B.w.new bh rfl T.ak T.aR T.aZ;exact⟨V,V,wr,B.td I Q w T' L Y fl D V hc _⟩
end
end
section
def TW(S:List Nat)(m:E):(Vc.bG S m).size=m.size:=by simp[Vc.bG]
def TV{S:List Nat}{m:E}{b:Nat}(h:b∉S):(Vc.bG S m)[b]? =m[b]? :=by
 unfold Vc.bG;rw[XH];cases m[b]? <;>simp[h]
def AR(S:List Nat)(v:Value)(c:E):Prop:=∃d p e aU b a s,v=.tuple #[.agg #[O.v d,O.v p],Nm s aU b a]/\fy (bG S c) d p e/\gE (bG S c) aU b a s/\DR s/\s.aU.length<=1000000/\s.heap.length<=1000000
section
variable{a:List Nat}{m:E}{b P:Nat}{c:O}
def Gv(D:∀d∈a,d<m.size)(q:b∈a)(k:Rd b c P m)(hP:P+3000+4*(300+40*Cg 18)<=10^16):aN cg 29 [vp b 0] m λO I=>AR a O I/\Fz [b] m I/\Rd b c (P+3000+4*(300+40*Cg 18)) I:=by
 apply yP (b,0);simp -zeta only[aC,aB];have v:=k.lt;intro e W;have b2:BS [e.size,m.size] b c m P W:=BS.psh (BS.lW (S:=a) k _).1 _;have s1:e.size=m.size+1:=by simp[e]
 clear_value W;refine b2.call (S:=a) v (λ_ d=>d) (JR (b2.hS D) (by simp[q]) b2.s.r V) λt w x h _ t3 b3 f3=>?_;intro m4 X;obtain⟨b5,l5,-⟩:=b3.box (S:=a) (m1:=m4) (m2:=X) rfl rfl rfl;clear_value X;have N:=IT.mn _ _ _ _ _ l5 t3;refine(tR (b:=⟨x.1,x.2⟩) ⟨N.1.le (bA _ _),iv.le (bA _ _) N.2⟩).mono λ_ f⟨O,l,hv,A⟩=>⟨(b5.lw v λ_ d=>d).dv (A.fz _),O,l,λp=>?_,λhy=>?_⟩;all_goals
  have b6:=b5.to (A.fz _) (b5.s.r.ext A)
  have z:=IT.mn _ _ _ _ _ (BS.le (B:=[h.size,e.size,m.size]) q (A.fz [b])) N
  have g:=b6.gJ
 .intro j K L;have u:J f j:=J.push _ _;have G:cF j f.size dQ [.i 0,.i 0,.i 0,.s .nil,.s .nil,.s .nil]:=cF.push _ _ _;have R:=b6.to (u.fz _) (b6.s.r.ext u);have Z:=IT.mn _ _ _ _ _ (BS.le (B:=[h.size,e.size,m.size]) q (u.fz [b])) z;clear_value j;let⟨T,Y⟩:=R.put (S:=a) k (by simp:m.size∈_) [.s t,.s w];let⟨s,H⟩:=T.put (S:=a) k (by simp:e.size∈_) [.i 3,.i 0,.i 0,.i 0,.s .nil,.s .nil,.s (.mk f.size 0 1 1)];have C:=IT.mn _ _ _ _ _ ((Y.trans H).trans (iY _ λ_=>eE _)) Z;have ha:=g m.size aL;have i:=g e.size aL;have M:cF L f.size dQ [.i 0,.i 0,.i 0,.s .nil,.s .nil,.s .nil]:=(G.congr (bd _ _ _ _ V)).congr (bd _ _ _ _ V);have U:f.size∉a:=λF=>by have:=D _ F;omega
  have o:∀{Q:E},ap Q .nil []:=⟨rfl,dO _,aL,aL⟩;refine⟨⟨t,w,⟨x.1,x.2⟩,.nil,.nil,.mk f.size 0 1 1,⟨3,0,0,0,[],[],[⟨0,0,0,[],[],[]⟩]⟩,rfl,⟨C.1,C.2⟩,⟨o,⟨rfl,dO _,aL,aL⟩,⟨rfl,ad _,aL,λy aa r=>?_⟩⟩,⟨⟨aL,aL⟩,by simp[Si],by simp[Sg],aL,aL,aL⟩,aL⟩,s.s.f,s.s.r.mono V⟩;cases y with
  |zero=>
   simp at r;subst r;exact⟨_,⟨.nil,.nil,.nil,rfl,o,o,o⟩,Kq U M.iI⟩
  |succ y=>simp at r
 .have ok:nB ⟨x.1,x.2⟩:=hv.1 (by simpa using hy);have U:Le (bG ([h.size,e.size,m.size]++a) f) (bG [b] f):=iY _ (by simp[q]);refine(IC b6.s.r V (z.1.le U) (iv.le U z.2) ok).mono λ_ j⟨ak,ro,aU,hp,fr,ao,l,aa,p,ae,al,ab,r7,u⟩=>?_;have R:∀o,af j h.size o=af f h.size o:=λo=>kg u v (g _ aL) o;refine⟨(b6.lw v λ_ d=>d).dv u,_,_,_,_,aU,hp,fr,l,R _,R _,?_⟩;have an:b<f.size:=b6.s.r.lt;refine(Hc (n:=ak) b6.s.r p (SO.of aa ae) ⟨u,r7⟩ V al ab).mono λ_ K⟨M,G,C,r,l,ah,ac,ag,y⟩=>?_;have Y:∀d,d<f.size->d≠b->K[d]? =j[d]? :=λd i p=>(y.f.same d i (by simpa using p)).trans (u.same d i (by simpa using p)).symm;have T:∀o,af K h.size o=af j h.size o:=λo=>aH (Y _ (g _ aL).2 (oh (g h.size aL))) o;refine⟨λd i=>Y d (g d i).2 (oh (g d i)),_,_,_,_,M,G,C,l,T _,T _,?_⟩;intro L aj;have t8:=IT.mn _ _ _ _ _ (BS.le (B:=[h.size,e.size,m.size]) q y.f) z;let⟨s,H⟩:=(b6.to y.f y.r).put (S:=a) k (by simp:m.size∈_) [.s t,.s w];let⟨Q,ai⟩:=s.put (S:=a) k (by simp:e.size∈_) [.i r.cz,.i r.value,.i r.bu,.i r.dW,.s M,.s G,.s C];have Z:=IT.mn _ _ _ _ _ ((H.trans ai).trans (iY _ λ_=>eE _)) t8;have ha:=g m.size aL;have i:=g e.size aL;refine⟨⟨t,w,⟨x.1,x.2⟩,M,G,C,r,rfl,⟨Z.1,Z.2⟩,ah _ (by rw[TW];simp[aj,L,av]) λd _ am=>?_,ac,ag⟩,Q.s.f,Q.s.r.mono V⟩;rw[TV λF=>OR (D d F) b6.s.f.size];exact(bd _ _ _ _ V).trans (bd _ _ _ _ V)
end
end
section
def Rw(f:Nat->Nat):∀n,∃B,∀i,i<n->f i<=B
 |0=>⟨0,aL⟩
 |n+1=>let⟨B,h⟩:=Rw f n;⟨B+f n,λi a=>by
  rcases aX i n with e|e
  .have:=h i e;omega
  .have:i=n:=V;subst this;omega⟩
def cY.Du{w:cO}{s:St}(e:cY w s)(m:s.cz=0):s.heap=[]:=by
 have g:=e.done.1 m;let⟨l,t⟩:=e.heap.MD;let⟨B,n⟩:=Rw l s.heap.length;apply dR;intro q;have y:0<s.heap.length:=List.length_pos_iff.2 q;have fY:∀k,∃(b:Nat)(c:bM),s.heap[b]? =some c/\0<c.aQ/\k<=l b:=λk=>by
  induction k with
  |zero=>
   let⟨c,d⟩:=cG s.heap (s.heap.length -1);refine⟨_,c,d,?_,dO _⟩;have i:=e.jF c d;rcases Jh c.aQ 0 with f|f
   .have:=e.lA _ ⟨c,d,f⟩;rw[g]at this;simp[dH]at this
   .omega
  |succ k v=>
   let⟨b,c,d,r,p⟩:=v;have:=e.heap.ex b c d r;rw[g]at this;simp only[fB]at this;let⟨f,o,i⟩:=LC (h:=s.heap) (f:=b) V;let⟨j,hd⟩:=List.mem_iff_getElem?.1 o;have u:=t j f hd _ i V;rw[lK]at u;refine⟨j,f,hd,?_,V⟩;apply dR;intro x;have:=((e.heap.cell f (aq hd)).wW V).2.1 _ i;omega
 obtain⟨b,c,d,_,p⟩:=fY (B+1);have:=n b (aw d);omega
def cY.ic{a:cO}{s:St}(h:cY a s):cY a {s with dW:=40}:=⟨h.fg,h.cz,h.done,h.value,h.tY,aL,⟨h.bu.1,by have:=h.bu;have:=h.dW;show s.bu<=40;omega⟩,h.depth,h.aU,h.heap,h.jF,h.ao,h.first,h.chain,h.lA,h.ny⟩
def gE.le{m f:E}{aU d c:O}{s:St}(b:gE m aU d c s)(a:Le m f):gE f aU d c s:=⟨b.aU.le a,eT.le b.heap a λk j⟨n,e,h⟩=>⟨n,e,h.le a⟩,eT.le b.ao a λk j⟨r,o,h,e,g,i,l⟩=>⟨r,o,h,e,g.le a,i.le a,l.le a⟩⟩
def LwR(m:E)(v:Value)(a:E):Prop:=v=vb true/\J m a
section
variable{m:E}{d p aU b a:O}{c:cO}{s:St}
end
end
section
section
variable{f:Nat->Bool}
end
section
variable{m:E}{d p aU b a:O}{c:cO}{s:St}
end
end
section
variable{c:E}{a:Nat->Nat}{b e:Nat}{f:List Ce}
def pD.VU{m:E}{aU i d:O}{s:St}(h:pD c a m aU i d s)(g:a b=1)(l:List Ce)(kb:cF (ah m b 0 l) b e f):vI c a (ah m b 0 l) b e f aU i d s.aU s.heap s.ao:=by
 have C:dp (λk=>k=1) a m a (ah m b 0 l):=dp.ah h.bs.new g _ _;let⟨b1,b2⟩:=(C.mono λk j=>by omega:To a m a _).cx h.bs.cx h.bs.jY;exact⟨b1,b2,C.new,kb,g,h.aU.eI C bh,h.heap.eI C bh bh,h.ao.eI C λk j=>V⟩
def vI.aaf{m:E}{aU g d:O}{s:St}(L:vI c a m b e f aU g d s.aU s.heap s.ao):pD c a m aU g d s:=⟨⟨L.cx,L.jY,L.new⟩,L.aU,L.heap,L.ao⟩
section
variable{g:E}{d p aU j i:O}{h:cO}{s:St}
def MkL(b:E)(d p:O)(h:cO)(s:St)(o:Nat×Nat)(M:E):Prop:=o.2=0/\∃a aU j i,vI b a M o.1 bR (IB d p (cq h) s aU j i) aU j i s.aU s.heap s.ao
abbrev vG:List Ce:=[.s O.nil,.s O.nil,.i 0,.i 0,.i 0,.i 0,.i 0,.s O.nil,.s O.nil,.s O.nil]
variable(k:fy g d p h)(n:gE g aU j i s)(l:DR s)(q:s.aU.length<=10000000)
include k n l q
def FT:aN cg 13 [.agg #[O.v d,O.v p],Nm s aU j i] g (WW g (uN h s 1)):=by
 apply zS;simp -zeta only[aC,aB];rw[NX];intro R S I;have s1:R.size=g.size+1:=by simp[R]
 have s2:S.size=g.size+2:=by simp[S,s1]
 have s3:I.size=g.size+3:=by simp[I,s2]
 have U:J g I:=(((J.az g).aK _).aK _).aK _;clear_value I;have H:∀u∈[S.size,R.size,g.size],u<I.size:=bE;refine(DZ (k.ext U) (n.ext U) l).aI (J.az _) H λb4 B ai F _=>⟨b4,rfl,λh1=>Sd U F V (by rw[ae (nb ai h1)]) _,λh1=>?_⟩;have P:=yb ai h1;rw[an P];have L:=U.trans F;have z4:=F.size;have N:=TR l q;have ao:=P.ju N V;have ht:=P.fg.nZ.types;have cc:∀{M:E},J B M->Hy cg 31 [O.v d] M (vi (cq h)):=λG=>qG (k.ext (L.trans G)).bo ht.len (λc hd=>Oy ht c hd);have c:∀{M w:E}{u:Nat},J M w->u<M.size->∀Q,af w u Q=af M u Q:=λG al Q=>aH (G.same _ al) Q;have Z:∀{a:Nat->Nat}{M:E}{ag:Value->E->Prop},Bs B a M->(∀u,a u<=1)->(∀T z y x w,pD B T w z y x s->dp (λ_=>False) a M T w->J M w->M.size<=w.size->ag (Nm s z y x) w)->aN cg 32 [Nm s aU j i] M ag:=λac am hK=>
  (Eb ac am (n.ext (L.trans ac.cx)) ao).mono λ_ w⟨T,z,y,x,e,ak,W⟩=>by rw[e];exact hK T z y x w ak W W.uZ W.size
 have aj:∀{M w:E},J B M->w=M.push (.cells (bt vG) bR)->Bs B (oF (λ_=>0) M.size 1) w/\(∀u,oF (λ_=>0) M.size 1 u<=1)/\cF w M.size bR vG:=λG e=>by
  have hz:=G.size;subst e;refine⟨⟨G.aK _,λu C=>eV V,λu C=>eV (by simp at C;omega)⟩,λu=>?_,cF.push _ _ _⟩;unfold oF;split
  .omega
  .exact dO _
 refine⟨MkL B d p h s,⟨?_,?_⟩,?_⟩
 .refine(cc (J.az _)).mono ?_;rintro _ A ⟨rfl,r⟩;have z5:=r.size;refine⟨r.dv λu C=>F.lt (H u C),_,rfl,c r V _,c r V _,c r V _,c r V _,c r V _,c r V _,c r V _,c r V _,c r V _,?_,?_⟩
  .refine Z (a:=λ_=>0) ⟨r,λ_ _=>rfl,λ_ _=>rfl⟩ (λ_=>dO _) λaa z y x v K Y f z6=>?_;refine⟨f.dv λu C=>r.lt (F.lt (H u C)),_,_,_,_,z,y,x,rfl,c f V _,c f V _,?_⟩;intro D;have t:J v D:=J.push v _;have kb:cF D v.size bR vG:=cF.push v _ _;refine⟨c t V _,c t V _,c t V _,c t V _,c t V _,c t V _,c t V _,c t V _,c t V _,c t V _,rfl,oF aa v.size 1,z,y,x,?_⟩;have X:J v (ah D v.size 0 [.s d,.s p,.i (cq h),.i s.cz,.i s.value,.i s.bu,.i s.dW,.s z,.s y,.s x]):=t.ah (ad _) _ _;exact K.cT X (ad _) (cF.ah (m:=D) (o:=0) kb)
  .intro v;have f:J A v:=J.push A _;have s6:v.size=A.size+1:=by simp[v]
   let⟨K,ap,kb⟩:=aj (w:=v) r rfl;clear_value v;refine⟨c f V _,c f V _,c f V _,c f V _,c f V _,c f V _,c f V _,c f V _,c f V _,c f V _,Z K ap λab z y x D Y X t z7=>?_⟩;refine⟨t.dv bE,_,_,_,_,z,y,x,rfl,c t V _,c t V _,rfl,ab,z,y,x,?_⟩;exact Y.VU (by rw[X.gX _ V];exact fI _ _ _) _ (cF.ah (m:=D) (o:=0) (kb.ext t))
 .intro A;have r:J B A:=J.push B _;have s5:A.size=B.size+1:=by simp[A]
  let⟨K,ap,kb⟩:=aj (w:=A) (J.az B) rfl;clear_value A;refine⟨c r V _,c r V _,c r V _,c r V _,c r V _,c r V _,c r V _,c r V _,c r V _,c r V _,(cc r).mono ?_⟩;rintro _ v ⟨rfl,f⟩;have z6:=f.size;refine⟨f.dv bE,_,rfl,c f V _,c f V _,c f V _,c f V _,c f V _,c f V _,c f V _,c f V _,c f V _,Z (K.eI (dp.eH _ f K.new)) ap λab z y x D Y X t z7=>?_⟩;refine⟨t.dv bE,_,_,_,_,z,y,x,rfl,c t V _,c t V _,rfl,ab,z,y,x,?_⟩;exact Y.VU (by rw[X.gX _ V];exact fI _ _ _) _ (cF.ah (m:=D) (o:=0) (kb.ext (f.trans t)))
 .rintro⟨b,mo⟩ A ⟨rfl,X,o5,h5,f5,r⟩;simp only[]at r;have K:zr X A [S.size,R.size,g.size]:=λu C=>⟨r.cx.lt (F.lt (H u C)),r.jY u (F.lt (H u C))⟩;refine(OM r (k.ext L) P N.uF (oh N.heap) (oh N.aU)).mono ?_;rintro _ v ⟨aa,o6,D,t,f,Y⟩;refine⟨Y.dJ K,_,f.box.bZ 3,_,f.box.bZ 4,_,f.box.bZ 5,_,f.box.bZ 6,o6,f.box.bZ 7,D,f.box.bZ 8,t,f.box.bZ 9,aa,o6,D,t,rfl,f.aaf.box L V V _ _⟩
end
end
section
def St.gW(s:St)(n:Int):St:={s with dW:=n}
section
variable{a:cO}{s:St}{f:aT}{x:Instr}{o:List Int}{b:List aT}
def lg.gW{n:Int}(h:lg a s f x o):lg a (s.gW n) f x o:=⟨h.nn,h.dst,h.nT,h.js,h.cU,h.zero,h.ret,h.apply,h.W7,h.drop,h.NL,h.load,h.Fm⟩
structure aak(s t:St):Prop where
 dW:t.dW=s.dW
 bu:s.bu<=t.bu
 aU:s.aU<+:t.aU
 cz:t.cz=s.cz\/t.cz=0
end
end
structure XZ where
 aD:Int
 QJ:Int
 Re:Int
 Xa:Int
 TC:Int
 YC:Int
 depth:Int
 Rj:Int
def mx(a b:Int):Int:=if b>a then b else a
def VW:List bM->Int
 |[]=>0
 |c::h=>(if 0<c.aQ then 1 else 0)+VW h
def Za(n:Int):List bM->Int
 |[]=>n
 |c::h=>Za (mx n c.aQ) h
def fP.nE{h:List bM}{b:Nat}(d:fP (nE h) b):fP h b:=by
 let⟨c,a,e⟩:=d;unfold Go.Proofs.YtkoifinbblcbiaaGreat.nE at a;rw[lQ]at a;split at a
 .exact⟨c,a,e⟩
 .simp at a
def fP.Gs{h:List bM}{w:Int}(e:fY h w)(c:bM){b:Nat}(d:fP (h.set (ix w) c) b):fP h b:=by
 by_cases a:b=ix w
 .subst a;exact e.2
 .exact(fP.ne a).1 d
def fP.jt:∀(a:List Int)(h:List bM)(b:Nat),(∀w∈a,fY h w)->fP (jt h a) b->fP h b
 |[],_,_,_,c=>c
 |w::a,h,b,d,c=>by
  have e:=d w bg;exact(fP.na e b).1 (fP.jt a _ b (λv f=>⟨(d v (ai _ f)).1,(fP.na e _).2 (d v (ai _ f)).2⟩) c)
def fP.ig:∀(n:Nat)(h:List bM)(j:List Int),Cn h+j.length<=n->∀b,fP (ig h j) b->fP h b
 |n,h,[],_,b,a=>by rw[ta]at a;exact a
 |0,h,w::r,d,b,_=>by simp at d
 |n+1,h,w::r,d,b,a=>by
  simp only[ba]at d;rcases dS (fY h w)with c|c
  .let⟨g,i⟩:=bS c;by_cases e:(aM h w).aQ=1
   .have f:=kE (d:=ji) g;simp only[an i,ji]at f;simp at f;rw[tc c e]at a;exact fP.Gs c _ (fP.ig n _ _ (by simp[ji];omega) b a)
   .have f:=kE (d:={aM h w with aQ:=(aM h w).aQ -1}) g;simp only[an i]at f;rw[an V]at f;rw[qB c e]at a;exact fP.Gs c _ (fP.ig n _ _ (by simp only[Go.Proofs.YtkoifinbblcbiaaGreat.fm];omega) b a)
  .rw[qC c]at a;exact fP.ig n _ _ V b a
def fP.apart{h:List bM}{e:Nat->Int}(g:fN h e){w:Int}(b:fY h w){c:Nat}(a:fP (apart h w) c):fP h c:=by
 let⟨d,l⟩:=bS b;unfold Go.Proofs.YtkoifinbblcbiaaGreat.apart at a;split at a
 .exact fP.Gs b _ (fP.nE a)
 .rename_i k;refine fP.Gs b {aM h w with aQ:=(aM h w).aQ -1} (fP.jt _ _ _ (λv i=>?_) a);let⟨j,f⟩:=lM.1 i;have:=g.field (iD d) j f;refine⟨f,?_⟩;by_cases e:ix v=ix w
  .rw[e,fP.yK d];show 0<(aM h w).aQ -1;omega
  .rw[fP.ne e];exact this.2
structure aal(c:XZ)(s:St):Prop where
 YC:VW s.heap<=c.YC
 depth:(s.ao.length:Int)<=c.depth
 Rj:Za c.Rj s.heap=c.Rj
structure aam(n:Nat)(c:XZ):Prop where
 aD:0<=c.aD/\c.aD<=n
 QJ:0<=c.QJ/\c.QJ<=n
 Re:0<=c.Re/\c.Re<=n
 Xa:0<=c.Xa/\c.Xa<=n
 TC:0<=c.TC/\c.TC<=n
section
section
variable{a:cO}{s:St}{f:aT}{x:Instr}{aR:List Int}{b:List aT}
def SK(h:cY a s)(i:s.cz=3)(g:(kZ a s).cz=3)(c:s.ao=b++[f]):
 lg a s f (cR a f) (bB f.ak f.aR (bT a (cR a f)))/\kZ a s=fF a s b f (cR a f) (bB f.ak f.aR (bT a (cR a f))):=by
 have d:s.ao.getLast?=some f:=by rw[c];simp
 have e:s.ao.dropLast=b:=by rw[c];simp
 revert g
 unfold kZ
 rw[ae (by simpa using i),d,e]
 simp only[]
 split
 .exactλh=>by simp at h
 .split
  .exactλ_=>⟨by assumption,rfl⟩
  .exactλh=>by simp at h
section
variable(h:cY a s)(e:s.cz=3)(d:(kZ a s).cz=3)(c:s.ao=b++[f])
include h e d c
theorem UL:∀b∈(cR a f).args,0<=b/\b<f.ak.length/\b<f.aR.length/\b<f.aZ.length:=λb i=>by
 have d:gR a f:=h.ao f (by rw[c];simp);let⟨p,l,e,j,k,g⟩:=d.Ab h.fg;have:=g.args b i;have⟨o,n,m⟩:(f.ak.length:Int)=p.ak/\(f.aR.length:Int)=p.ak/\(f.aZ.length:Int)=p.ak:=⟨e▸d.lr,e▸d.lo,e▸d.lh⟩;omega
def SJ(m:(cR a f).op=6)(q:(cR a f).bU≠0)(o:aE f.aZ ((cR a f).bU -1)≠0):∃g,(kZ a s).ao=b++[g]/\
 aE g.ak (cR a f).dst=aE f.aZ ((cR a f).bU -1)/\aE g.aZ ((cR a f).bU -1)=0/\(kZ a s).heap.length=s.heap.length/\aE g.aR (cR a f).dst=1/\g.ak.length=f.ak.length/\g.aR.length=f.aR.length/\g.aZ.length=f.aZ.length:=by
 let⟨t,n⟩:=SK h e d c
 have i:gR a f:=h.ao f (by rw[c];simp)
 let⟨p,w,j,u,v,k⟩:=i.Ab h.fg
 have l:=k.op
 unfold lV at l
 simp[m]at l
 have hd:=k.dst
 have⟨A,z,y⟩:(f.ak.length:Int)=p.ak/\(f.aR.length:Int)=p.ak/\(f.aZ.length:Int)=p.ak:=⟨j▸i.lr,j▸i.lo,j▸i.lh⟩
 have r:=jJ f.ak (bT a (cR a f)) f.aR
 rw[n]
 generalize cR a f=x at*
 unfold fF
 simp only[]
 rw[ae V,ae V,ae V,an m,an ⟨q,o⟩]
 refine⟨_,rfl,?_,?_,aL,?_,by simp only[aT.put,jc],by simp only[aT.put,jc,r],by simp only[aT.put,jc]⟩
 .simp only[aT.put];rw[Kn V V _ V,an rfl]
 .simp only[aT.put];rw[Kn V V _ V,an rfl]
 .simp only[aT.put];rw[Kn V V _ V,an rfl]
end
end
end
section
variable{m e a:E}{h:List bM}{d:Nat}
structure Oi(m:E)(hp:O)(h:List bM):Prop where
 len:hp.len=h.length
 iI:∀(k:Nat)(c:bM),h[k]? =some c->∃f,af m hp.D (hp.off+k*3)=some (vi c.aQ)/\af m hp.D (hp.off+k*3+1)=some (vi c.kv)/\af m hp.D (hp.off+k*3+2)=some (O.v f)
def Oi.eB{b:O}(H:Oi m b h)(k:h≠[]->e[b.D]? =m[b.D]?):Oi e b h:=
 ⟨H.len,λl d c=>by
  let⟨f,g,i,j⟩:=H.iI l d c;have a:=k (λa=>by subst a;simp at c);exact⟨f,by rw[aH a];exact g,by rw[aH a];exact i,by rw[aH a];exact j⟩⟩
def Oi.lt{a:O}(H:Oi m a h)(d:h≠[]):a.D<m.size:=by
 cases h with
 |nil=>exact absurd rfl d
 |cons c r=>
  obtain⟨f,b,_⟩:=H.iI 0 c rfl;exact my b
def Oi.ext{a:O}(H:Oi m a h)(c:J m e):Oi e a h:=H.eB λb=>c.same _ (H.lt b)
def dL.jB{N:Nat}{g:Nat->Nat}{a:O}(H:dL N g m a h):Oi m a h:=
 ⟨H.len,λ_ _ e=>let⟨f,b,c,d,_⟩:=H.bZ e;⟨f,b,c,d⟩⟩
structure pB(d:Nat)(m e:E):Prop where
 size:m.size<=e.size
 same:∀b,b<m.size->b≠d->e[b]? =m[b]?
def pB.az(d:Nat)(m:E):pB d m m:=⟨ad _,λ_ _ _=>rfl⟩
def pB.ext(h:pB d a m)(f:J m e):pB d a e:=⟨bH h.size f.size,λb c g=>by rw[f.same b (aO c h.size)];exact h.same b c g⟩
def pB.trans(h:pB d a m)(g:pB d m e):pB d a e:=⟨bH h.size g.size,λb c f=>by rw[g.same b (aO c h.size) f];exact h.same b c f⟩
def pB.ah(h:pB d a m)(o:Nat)(l:List Ce):pB d a (ah m d o l):=⟨by rw[av];exact h.size,λb e c=>by rw[bd l m d o c];exact h.same b e c⟩
def pB.dv(h:pB d m e){l:List Nat}(c:∀b∈l,b<m.size/\b≠d):eG l m e:=λb a=>h.same b (c b a).1 (c b a).2
end
section
section
variable{m:E}{a:O}{h:List bM}
end
section
variable{a:cO}{s:St}
def Xm{k:Int}(h:(uN a s k).ok=true):(cY a s/\0<=k/\k<=100000)/\uN a s k=⟨aD a k.toNat s,true⟩:=by
 have b:cY a s/\0<=k/\k<=100000:=by
  apply dR;intro c;rw[uN,ae c]at h;simp at h
 exact⟨b,an b⟩
def Vi(h:(uN a s 1).ok=true):cY a s/\uN a s 1=⟨kZ a s,true⟩:=let⟨b,e⟩:=Xm h;⟨b.1,e⟩
end
section
variable{a:E}
def Au{dq:O}(h:Jj a dq):aN cg 12 [O.v dq] a λv u=>AR [] v u/\J a u:=by
 apply vo;simp -zeta only[aC,aB];intro d c;let⟨e,g⟩:=dE (a:=d) (c:=c) rfl rfl;have P:d.size=a.size+1:=by simp[d]
 clear_value c;refine(IL (m:=c) ⟨h.1,λk i=>let⟨v,f,b,l⟩:=h.2 k i;⟨v,f,b,e.af l⟩⟩).mono λ_ M⟨H,j,y,p⟩=>⟨p.dv g,(c.size,0),j,?_⟩;have L:=y.lt;have I:=g a.size aL;have K:=g d.size aL;refine(Gv (a:=[d.size,a.size,c.size]) bE aL y (by simp[Cg])).mono λ_ i⟨⟨q,x,E,aU,t,r,G,j,s,D,C⟩,k,_⟩=>?_;refine⟨k.dv λb f=>by have:=g b f;simp only[lR];omega,q,x,_,_,_,_,aU,t,r,j,?_⟩;intro N w;have Q:=k.size;have F:∀{b o:Nat}{v:Value},af (bG [d.size,a.size,c.size] i) b o=some v->af (bG [] w) b o=some v:=λh=>by
  let⟨A,B⟩:=eQ.1 h;simp at A;refine eQ.2 ⟨aL,?_⟩;rw[aH ((bd _ _ _ _ V).trans (bd _ _ _ _ V))];exact B
 have n:Le (bG [d.size,a.size,c.size] i) (bG [] w):=λb o v h=>F h;refine⟨⟨q,x,E,aU,t,r,G,rfl,⟨s.bo.le n,iv.le n s.cB⟩,gE.le D n,C⟩,?_⟩;have z:Fz [c.size] c i:=(p.fz _).trans k;have l:J a i:=⟨by have:=e.size;have:=p.size;omega,λb f=>(z.same b (e.lt f) (by have:=e.size;simp;omega)).trans (e.same b f)⟩;exact(l.ah V _ _).ah V _ _
end
end
section
section
variable{b:cO}{s:St}{f:aT}{a:List aT}
end
end
section
section
open Tryz
variable{m:E}{R:Value->E->Prop}
def tx(a:O):=cZ m R ⟨[],[(7,[(54,.T)])],[(7,[164,162,161,160])]⟩ [a] func5
end
section
variable{m:E}
def we{dq:O}(h:Jj m dq):aN cg 5 [O.v dq] m (LwR m):=by
 apply tx;simp(config:={maxSteps:=1000000}) -zeta only[aC,aB];refine⟨λ_=>⟨rfl,J.az _⟩,λ_=>?_⟩;refine(Au h).mono λ_ t⟨⟨aa,ac,a,aU,hp,fr,s,j,hi,hs,I,ho⟩,C⟩=>⟨aa,ac,_,_,_,_,aU,hp,fr,j,?_⟩;have K:fy t aa ac a:=⟨hi.bo.le (bA _ _),iv.le (bA _ _) hi.cB⟩;have z:=hs.le (bA _ _);intro u a2 a3 a4;have z1:u.size=t.size+1:=by simp[u]
 have U:J t a4:=(((J.push t _).trans (J.push u _)).ah (ad _) _ _).ah V _ _;have z4:a4.size=t.size+2:=by simp[a4,a3,a2,u,av]
 clear_value a4;have sm:=Qa I V 1 (h:=a);refine(FT (K.ext U) (z.ext U) I V).mono λ_ A⟨ay,o5,k,f5,j,D⟩=>⟨D.bs.cx.dv bE,_,_,_,_,o5,k,f5,_,j,?_⟩;have x5:=D.bs.cx;have n:=D.Em sm;have u5:=x5.size;intro a6 F;have x7:J A F:=(J.push A _).ah (ad _) _ _;have z7:F.size=A.size+1:=by simp[F,a6,av]
 clear_value F;have Q:=(U.trans x5).trans x7;refine(Gt (K.ext Q) (z.ext Q) I V).mono λ_ L⟨az,o8,h8,f8,j,E⟩=>⟨E.bs.cx.dv bE,_,_,_,_,o8,h8,f8,_,j,?_⟩;have W:=E.bs.cx;have S8:=E.Em sm;have u8:=W.size;intro a9 i;have P:J L i:=(J.push L _).ah (ad _) _ _;have z0:i.size=L.size+1:=by simp[i,a9,av]
 clear_value i;have X:J A i:=(x7.trans W).trans P;clear D E;have hl:∀b∈[L.size,A.size,u.size,t.size],b<i.size:=bE;refine⟨λb ag=>J i ag/\(b=false->(uN a s 1).ok=true/\s.cz=3/\(uN a s 1).s.cz=3),?_,?_⟩
 .refine(tz (n.ext X) (S8.ext P)).aI (J.az _) hl λb M y c _=>⟨b,rfl,?_⟩;obtain rfl:=y.2 rfl;exact⟨sx,λ_=>⟨sx,λ_=>⟨λ_=>⟨c,aL⟩,λv=>⟨λ_=>⟨c,aL⟩,λw=>⟨c,λd=>⟨by simpa using v,by simpa using w,by simpa using d⟩⟩⟩⟩⟩⟩
 rintro b M ⟨c,y⟩;have g:=((Q.trans W).trans P).trans c;refine⟨λe=>(tz (n.ext (X.trans c)) (S8.ext (P.trans c))).aI c hl λb mB y xB _=>⟨b,rfl,λ_=>⟨aL,(C.trans g).trans xB⟩,λh=>by rw[y.2 rfl]at h;simp at h⟩,λR=>?_⟩;let⟨R,v,w⟩:=y R;let⟨B,ae⟩:=Vi R;have Y:(uN a s 1).s=kZ a s:=ov Zh.s ae;rw[Y]at n w;try rw[Y]
 let⟨q,f,x⟩:=B.split v;have d:=B.ao f (by rw[x];simp);let⟨pr,al,am,hP,ab,hI⟩:=d.Ab B.fg;have fl:=d.lr;have ai:=d.lo;have aj:=d.lh;rw[am]at fl ai aj;have rr:=hP.ak;have lf:=z.ao.len;have bf:=I.lf;have gF:s.ao[q.length]? =some f:=by simp[x]
 have lF:s.ao.length=q.length+1:=by simp[x]
 have iF:cQ ((fr.len:Int) -1)=(q.length:Int):=by rw[aP V V];omega
 rw[iF];let⟨r3,r4,r5,k3,k4,S,g0,g1,g2,g3,g4,g5⟩:=iH.aE (iH.ext g z.ao) gF;refine⟨V,V,_,g0,_,g1,_,g2,_,g3,_,g4,_,g5,?_⟩;intro b1 b2;have w2:J M b2:=(J.push M _).ah (ad _) _ _;have y2:b2.size=M.size+1:=by simp[b2,b1,av]
 clear_value b2;have uA:=c.size;let⟨pa,pl,pc,ka,kl,kc,P0,P1,P2,P3,P4⟩:=iv.aE (iv.ext (g.trans w2) K.cB) al;have lp:=K.cB.len;have lc:=kc.len;refine⟨d.fq.1,oh d.fq.2,pc,by simpa using P4,d.pc.1,OR (aw ab) d.pc,?_⟩;let⟨xa,xj,ia,ij,Z,I1,I2,I3,I4,I5⟩:=fj.aE kc ab;refine⟨_,Z,_,I1,_,I2,_,I3,_,I4,_,I5,?_⟩;intro b3;have T:J b2 b3:=J.push b2 _;have l:∀{b o:Nat}{an:Value},af b2 b o=some an->af b3 b o=af b2 b o:=λh=>(T.af h).trans h.symm;have kl:∀{b:Nat}(o:Nat),b<b2.size->af b3 b o=af b2 b o:=λo h=>aH (T.same _ h) o;refine⟨l Z,l I1,l I2,l I3,l I4,l I5,kl _ V,l P4,kl _ V,kl _ V,?_⟩;intro b4;have w4:J b2 b4:=T.ah (ad _) _ _;have y4:b4.size=b2.size+1:=by simp[b4,b3,av]
 clear_value b4;have p:=w2.trans w4;have ax:=n.ao.len;have ao:=UL B v w x;have aq:=ia.len;have lr:=k3.len;have lo:=k4.len;have lh:=S.len;have bi:(cR a f).op=6->0<=(cR a f).bU/\(cR a f).bU<=f.aZ.length/\(cR a f).bU<=f.aR.length:=λj=>by
  have o:=hI.op;unfold lV at o;simp[j]at o;omega
 have G:=hI.dst;refine⟨λk=>⟨rfl,(C.trans g).trans p⟩,λk=>⟨λH=>⟨rfl,(C.trans g).trans p⟩,λH=>?_⟩⟩;have k:(cR a f).op=6:=by simpa using k
 have H:(cR a f).bU≠0:=by simpa using H
 have bi:=bi k;have ei:cQ ((cR a f).bU -1)=(cR a f).bU -1:=aP V V;rw[ei];refine⟨V,V,_,(ap.ext p S).aE (lH V V),λh7=>⟨rfl,(C.trans g).trans p⟩,λh7=>?_⟩;let⟨ak,e1,e2,e3,e4,e5,hg⟩:=SJ B v w x k H (by simpa using h7);have lG:(kZ a s).ao.length=q.length+1:=by simp[e1]
 have r:cQ ((f5.len:Int) -1)=(q.length:Int):=by rw[aP V V];omega
 have gG:(kZ a s).ao[q.length]? =some ak:=by simp[e1]
 let⟨t3,t4,t5,l3,l4,l5,f0,f1,f2,f3,f4,ah⟩:=iH.aE (iH.ext (X.trans (c.trans p)) n.ao) gG;refine⟨λe=>by simp at e;omega,λ_=>⟨V,V,_,by rw[r];exact f0,_,by rw[r];exact f1,_,by rw[r];exact f2,_,by rw[r];exact f3,_,by rw[r];exact f4,_,by rw[r];exact ah,?_⟩⟩;intro b5 b6;have N:J b4 b6:=(J.push b4 _).ah (ad _) _ _;have y6:b6.size=b4.size+1:=by simp[b6,b5,av]
 clear_value b6;have W6:=p.trans N;have q3:=l3.len;have q4:=l4.len;have q5:=l5.len;have ar:=z.heap.len;have au:=n.heap.len;refine⟨G.1,V,_,(ap.ext N l3).aE (lH G.1 V),V,V,_,(ap.ext W6 S).aE (lH V V),λ_=>⟨V,V,_,(ap.ext N l5).aE (lH V V),λ_=>⟨λ_=>⟨G.1,V,_,(ap.ext N l4).aE (lH G.1 V),ov vb (by rw[e5];rfl),(C.trans g).trans W6⟩,λe=>?_⟩,λe=>?_⟩,λe=>?_⟩
 .simp at e;omega
 .simp[e3]at e
 .simp[e2]at e
end
end
end Go.Proofs.YtkoifinbblcbiaaGreat
section
namespace Go.Vc
variable{t:TypeId}{a:Addr}
open Go.ChangeShapes Go.WideShapes Go.RowKit
section
variable{H:Type}{b:TypeId×Value->H}{P:Program}{w:World}
def Tl(b:TypeId×Value->H)(P:Program)(w:World)(t:TypeId)(Q:List Ce->Prop):Prop:=
 ∀(n:Nat)(a:List Value)(x:DataW H×List MemPlace),DataW.trod b P w 0 (λ_=>true) true n t a=some x->∃c,a=c.map Ce.v/\Q c
def Tl.mono{Q Q':List Ce->Prop}(h:Tl b P w t Q)(f:∀a,Q a->Q' a):Tl b P w t Q':=λn a x g=>
 let⟨c,d,e⟩:=h n a x g
 ⟨c,d,f _ e⟩
def Sp{v:Value}(h:w.cell? a=some v):a.spot=none:=by
 unfold World.cell? at h;split at h
 .split at h
  .cases h
  .rename_i b;simpa using b
 .cases h
def Sn(h:a.spot=none)(i:Nat):a.add i=⟨a.block,a.off+i,none⟩:=by
 obtain⟨c,o,s⟩:=a;simp only at h;subst h;unfold Addr.add;by_cases b:i=0
 .subst b;simp
 .simp[b]
end
section
variable{H:Type}{b:TypeId×Value->H}{P:Program}
def DL(l:laidOutB P=true){W j:World}(k:Below W.heap.size W j):∀{f:List TypeId}{i:List Value}{g:List (DataW H)}{d:List MemPlace},
 (f.all λt=>P.readableRec t&&decide (t<P.types.size))=true->DataW.TrodAll b P W 0 (λ_=>true) true f i g d->(∀x∈d,x.block<W.heap.size)->∀e:Nat->Bool,(∀p∈d,e p.block=true)->
 DataW.TrodAll b P j 0 e true f i g d
 |[],_,_,_,_,h,_,_,_=>by
  obtain⟨rfl,rfl,rfl⟩:=trodAll_nil h;exact trodAll_mk0
 |t::f,_,_,_,c,h,m,e,n=>by
  obtain⟨v,i,s,g,p,r,rfl,rfl,rfl,o,q⟩:=trodAll_cons h;simp only[Oe,bK,ar]at c;exact⟨p,r,WideElems.Trod_stays l c.1.1 c.1.2 o (λx a=>k.same (m x (by simp[a]))) (λx a=>n x (by simp[a])),DL l k (by simpa using c.2) q (λx a=>m x (by simp[a])) e (λx a=>n x (by simp[a])),rfl⟩
def MU{f:Func}{s:ChangeSpec}{W g:World}{i:Array Value}{d:List (DataW H)}{o:List MemPlace}
 (J:laidOutB P=true)(L:(f.params.toList.all λt=>P.readableRec t&&decide (t<P.types.size))=true)(z:f.resultTypes=#[t])(v:P.underlying t=some .bool)(B:s.vars=[])
 (j:DataW.Whole b P f.params.toList s.vars false W i.toList d [] o)(F:(s.fn H (d++[])).args=d)(G:(s.fn H (d++[])).results=[.lit (.bool true)])(I:(s.fn H (d++[])).vars=[])
 (k:Below W.heap.size W g):s.post b P f false true false false W i (.bool true) g:=by
 have h:∀a∈o,a.block<W.heap.size:=λa l=>by simpa using j.lt a l
 have r:=j
 obtain⟨a,N,E,q,rfl,C,M⟩:=j
 rw[B]at q
 obtain⟨_,rfl⟩:=trodVars_none q
 simp only[dZ]at h C r
 have u:∀c:Nat->Bool,(∀x∈a,c x.block=true)->DataW.TrodAll b P g 0 c true f.params.toList i.toList (s.fn H (d++[])).args a:=λc K=>by
  rw[F];exact DL J k L E h c K
 have A:∀c:Nat->Bool,DataW.TrodVars b P g c s.vars (s.fn H (d++[])).vars []:=λc=>by rw[B,I];rfl
 have y:∀(e:Nat)(c:Nat->Bool)(hd:Bool),DataW.TrodAll b P g e c hd f.resultTypes.toList ((Value.bool true).resultList f.resultTypes.size) (s.fn H (d++[])).results []:=λe c hd=>by
  rw[G,z];exact trodAll_cons_mk (shut_bool v _) trodAll_mk0
 refine⟨d,[],a,[],a,[],r,y _ _ _,u _ (λx m=>by simpa using h x m),A _,k.frame _,λ_=>?_⟩
 refine⟨ok_one z rfl (okWide_bool_mk v _),_,_,([]++a)++[],⟨[]++a,[],trodAll_append (u _ (λ_ _=>rfl)) (y _ _ _),A _,rfl,?_,λD=>by cases D⟩,?_⟩
 .intro e n l
  have w:MemPlace.cell e n∈a:=by simpa using l
  rw[k.frozen (p:=⟨e,n,none⟩) (h _ w)]
  exact C e n w
 .intro x m _
  simpa using m
end
end Go.Vc
end
section
namespace Go.Proofs.YtkoifinbblcbiaaGreat
open Go.Vc Go.ChangeShapes
def SE{H:Type}{x:TypeId×Value->H}{P:Program}{w:World}{t e r:Nat}{v:Value}{u:DataW H}{I:List MemPlace}(p:P.underlying t=some (.slice e))(B:P.underlying e=some (.int .u8))(A:P.cellsOf e=1)
 (E:Value.okWide P w .any r t v)(y:DataW.Trod x P w 0 (λ_=>true) true t v u I):∃s,v=O.v s/\Jj w.heap s:=by
 obtain⟨J,q,h,rfl⟩:=Go.WideShapes.okWide_slice p E
 obtain⟨L,C⟩:=y
 rcases open_ints p B A C with⟨b,_⟩|⟨d,N,K,g,b,_,D,M,G,_,l,F⟩
 .simp[Value.cells]at b
  obtain⟨rfl,rfl,rfl⟩:=b
  exact⟨.nil,rfl,ad _,λk a=>by simp at a⟩
 .simp[Value.cells]at b
  obtain⟨rfl,rfl,rfl⟩:=b
  simp only[MB]at G
  rcases kj h with i|i
  .subst i
   have:q=0:=V
   subst this
   obtain⟨c,o,s⟩:=d
   cases s with
   |none=>exact⟨.mk c o 0 0,rfl,ad _,λk a=>by simp at a⟩
   |some f=>exact⟨.zN c o f,rfl,ad _,λk a=>by simp at a⟩
  .have z:=l 0 V
   have n:d.spot=none:=by
    have:=Sp z;simpa[Addr.add]using this
   obtain⟨c,o,s⟩:=d
   simp only at n
   subst n
   refine⟨.mk c o q h,rfl,D,λk a=>?_⟩
   simp only[O.gH]at a
   have m:k<g.length:=V
   have j:=l k m
   have f:=F (g.getD k 0) (by rw[fS,List.getElem?_eq_getElem m];simp)
   rw[Lit.wf,bK,ar,ar]at f
   refine⟨g.getD k 0,f.1,f.2,?_⟩
   .rw[Sn rfl,zJ]at j
    simpa using j
end Go.Proofs.YtkoifinbblcbiaaGreat
end
