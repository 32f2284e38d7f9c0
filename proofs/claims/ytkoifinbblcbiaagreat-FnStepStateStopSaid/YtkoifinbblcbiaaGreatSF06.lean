/- Part of a proof. -/
import Derived.Carry
import Derived.ChangeSame
import Derived.ChangeSlices
import Derived.Deep.Slices
import Derived.OpenShut
import Derived.RowKit
import Derived.WideShapes
import Derived.Test.YtkoifinbblcbiaaGreatSF00
import Derived.Test.YtkoifinbblcbiaaGreatSF02
import Derived.Test.YtkoifinbblcbiaaGreatSF03
import Derived.Test.YtkoifinbblcbiaaGreatSF04
import Derived.Test.YtkoifinbblcbiaaGreatSF05
set_option linter.all false
set_option maxHeartbeats 8000000
set_option maxRecDepth 100000
namespace Go.Proofs.YtkoifinbblcbiaaGreat
open Go.Vc
section
variable{M:E}
def RI{k b:Nat}(a:b<k)(h:k<=M.size):(M.extract 0 k)[b]? =M[b]? :=((J.MK h).same b (by rw[mg h];exact a)).symm
def pt.old{mx M':E}{f:Nat->Nat}{aT c a:O}{s:St}(h:pt mx f M aT c a s)(d:M.size<=M'.size)(g:∀b,mx.size<=b->b<M.size->M'[b]? =M[b]?):pt (M'.extract 0 mx.size) f M' aT c a s:=
 have e:=bH h.bs.cy.size d
 h.QX (by rw[mg e];exact ad _) d g (J.MK e)
def vy.old{a M M':E}{i:Nat->Nat}{c e:Nat}{d:List Ce}{aT h f:O}{s:St}(L:vy a i M c e d aT h f s.aT s.heap s.ao)(j:a.size<=c)(k:M.size<=M'.size)(g:∀b,a.size<=b->b<M.size->M'[b]? =M[b]?):vy (M'.extract 0 a.size) i M' c e d aT h f s.aT s.heap s.ao:=
 have N:=pt.old (s:=s) ⟨⟨L.cy,L.jR,L.new⟩,L.aT,L.heap,L.ao⟩ k g
 ⟨N.bs.cy,N.bs.jR,N.bs.new,L.box.congr (g _ j L.box.lt),L.Qn,N.aT,N.heap,N.ao⟩
def W0{Y:List Nat}{m:E}(f:Fz Y m M):Le (bG Y m) (M.extract 0 m.size):=λc o v e=>by
 let⟨d,a⟩:=eQ.1 e;have b:=mf a;rw[aJ ((RI b f.size).trans (f.same c b d))];exact a
def GSt(f:cO)(d:Nat)(e:O)(m:E)(P:Nat)(v:Value)(a:E):Prop:=∃n g aT c b s,v=Na s aT c b/\pt (a.extract 0 n) g a aT c b s/\m.size<=n/\n<=a.size/\cY f s/\Sm 100000 s/\Rd d e P a/\Fz [d] m a
section
variable{f:List Nat}{a:E}{b P:Nat}{e d p:O}{c:cO}
def Iq(H:Rd b e P a)(hP:P+100<=10^16)(hd:cx (bG [b] a) d c.bo)(hp:iH (bG [b] a) p c.cF)(K:nl c):aN cp 55 [vp b 0,.agg #[O.v d,O.v p]] a (GSt c b e a (P+6)):=by
 apply AH (b,0);simp -zeta only[aC,aB];have hr:=H.lt;intro l t;let⟨x2,r⟩:=dD (a:=l) (c:=t) rfl rfl;have s1:l.size=a.size+1:=by simp[l]
 have B2:cE t a.size vn [.s d,.s p]:=(cE.push a _ _).ext (J.push l _);clear_value t;have r2:Rs b e a P t:=⟨x2.fz _,H.ext x2⟩;intro N;have x3:J t N:=J.push _ _;have G3:∀o,af N a.size o=af t a.size o:=λo=>aJ (x3.same _ B2.lt) o;refine⟨G3 _,G3 _,G3 _,G3 _,?_⟩;refine(zX r2 V [40,40,12,3,0,20] rfl rfl aL).mono λ_ j⟨dV,h,aE,r4,w⟩=>?_;have z3:=x3.size;have z2:=x2.size;have w:Fz [b] N j:=w;have z4:=w.size;have aY:=r l.size aL;have Z:0<=dV/\dV<=40:=by simp at aE;omega
 have A:∀o,af j a.size o=af N a.size o:=λo=>aJ (w.same _ V bE) o;refine⟨w.dv λf g=>by have:=r f g;simp at g⊢;omega,dV,h,A _,A _,A _,A _,?_⟩;have aG:∀{M:E},Fz [b] a M->fw M d p c:=λG=>have aq:=(G.df (S:=[b]) aL).trans (bA _ _);⟨hd.le aq,iH.le aq hp⟩;refine(EO (aG r4.f) K dV).mono ?_;rintro _ u ⟨aT,aF,fr,rfl,x,b1,b2,b3,b4,aZ,q1,q2,q3,q4,q5,au,q6,k4⟩;have z5:=x.size;have G5:∀o,af u a.size o=af j a.size o:=λo=>aJ (x.same _ V) o;refine⟨x.dv λf g=>oh (r f g),_,_,_,_,_,_,_,rfl,G5 _,G5 _,?_⟩;intro n;have x6:J u n:=J.push _ _;have kb:cE n u.size bJ (SB d p (lO c dV) aT aF fr):=cE.push u _ _;have L6:=TW (m:=j) (MK:=[.s d,.s p]) ⟨q1,q2,q3,q4,q5⟩ au q6 k4 x6 (ad _) kb;have s6:n.size=u.size+1:=by simp[n]
 clear_value n;have r6:=(r4.ext x).ext x6;have L:∀{M:E},n.size<=M.size->Lw b [u.size,l.size,a.size] M:=λaX=>lw hr bE;refine(cq r6.r V 60).mono λ_ m7⟨B,h,aO,aP,d7,U⟩=>⟨(L (ad _)).dv U,B,h,?_⟩;have z7:=U.size;refine(cq d7 V 200).mono λ_ m8⟨C,h,aQ,aR,d8,W⟩=>⟨(L z7).dv W,C,h,?_⟩;have z8:=W.size;refine(cq d8 V 20).mono λ_ m9⟨D,h,aS,aU,d9,X⟩=>⟨(L V).dv X,D,h,?_⟩;have z9:=X.size;refine(cq d9 V 100).mono λ_ aa⟨F,h,aV,aW,ax,Q⟩=>⟨(L V).dv Q,F,h,?_⟩;have vw:=Q.size;have ai:=((U.trans W).trans X).trans Q;have ae:=J.push aa (.cells (bt [.i B,.i C,.i D,.i 100000,.i 0,.i F]) aA);have a2:=ae.size;refine(zX (r6.to ai ax) V [B,C,D,100000,0,F] rfl rfl aL).mono λ_ y⟨ab,h,aj,am,v⟩=>?_;have v:Fz [b] (aa.push (.cells (bt [.i B,.i C,.i D,.i 100000,.i 0,.i F]) aA)) y:=v;refine⟨(L (bH (by omega:n.size<=aa.size) ae.size)).dv v,ab,h,?_⟩;have a3:=v.size;obtain⟨q,rfl⟩:∃q:Nat,ab=q:=⟨ab.toNat,by simp at aj;omega⟩;have hn:q<=100000:=by simp at aj;omega
 have T:=(ai.trans (ae.fz _)).trans v;have ah:=L6.old (s:=lO c dV) (M':=y) V T.size λf h1 h2=>T.same f h2 bE;have e0:(y.extract 0 j.size).size=j.size:=mg V;have w4:Le (bG [b] a) (y.extract 0 j.size):=(r4.f.df aL).trans (W0 (((x.trans x6).fz [b]).trans T));refine(P4 (s:=lO c dV) ah ⟨hd.le w4,iH.le w4 hp⟩ (LZ K Z) (P6 c dV) q hn V).mono ?_;rintro _ z ⟨⟨nn,rfl⟩,a1,aH,az,ay,i,ap⟩;have ak:=Bv q (LZ K Z);have I:=Bw q (LZ K Z) (P6 c dV) V;have al:=ak.jf I V;generalize aD c q (lO c dV)=st at*;have a4:=ap.size;have ao:∀f,f<j.size->z[f]? =y[f]? :=λf g=>(i.cy.same f V).trans (RI g V);have aI:Rs b e a (P+6) z:=by
  have G:Fz [b] a z:=⟨V,λf g hn=>(ao f V).trans (am.f.same f g hn)⟩;exact⟨G,(H.MF am.r G (ao b V)).mono V⟩
 refine⟨ap.dI λf g=>⟨by have:=r f g;omega,ah.jR f (oh (r f g))⟩,nn,rfl,_,i.box.cg 2,_,i.box.cg 3,_,i.box.cg 4,_,i.box.cg 5,aH,i.box.cg 6,az,i.box.cg 7,ay,i.box.cg 8,(pR (Bs.yB z) (λ_=>dN _) (i.Ec al) al).mono ?_⟩;rintro _ a0 ⟨aK,ac,Y,R,rfl,av,ar⟩;have ag:=ar.uP;have aM:=ag.size;refine⟨ag.dv λf g=>oh (r f g),_,_,_,_,ac,Y,R,rfl,?_⟩;have an:=(aI.ext ag).put H (k:=l.size) V 0 [.i st.bV,.i st.value,.i st.bu,.i st.dV,.s ac,.s Y,.s R];exact⟨z.size,aK,ac,Y,R,st,rfl,av.old (tV (aw _ _ _ _).symm) λf g _=>bd _ _ _ _ V,V,by rw[aw];exact aM,ak,⟨by have:=I.heap;omega,oh I.aT,I.uv⟩,an.r,an.f⟩
end
end
section
variable{q:O}
def cY.ZJ{q:cO}{s:St}{n:Nat}(h:cY q s)(c:Sm n s)(x:n<=10000000):DH s:=by
 have l:=h.jf c V;have i:=h.bu;have v:=h.dV;have u:=c.heap;have C:=Oj h;have t:=l.depth;refine⟨⟨V,V⟩,λd i w a=>?_,λf b=>?_,V,V,λf b=>oh (l.ao f b)⟩
 .have k:=h.heap.cell d i;rcases I6 d.aP 1 with e|e
  .have:=(k.wM e).2.1 w a;exact⟨V,V⟩
  .rcases(k.oP V).1 w a with e|⟨e,j,g,_⟩
   .exact⟨by have:=e.1;omega,oh e.2⟩
   .have:=av g;have:=il e;exact⟨V,V⟩
 .let⟨k,o⟩:=List.mem_iff_getElem?.1 b;have F:=C.ao k f o;refine⟨λw a=>⟨?_,c.uv f b w a⟩,λr p=>?_,λw a=>?_⟩
  .rcases(h.ao f b).RK w a with e|e
   .have:=e.1;omega
   .omega
  .let⟨m,j⟩:=List.mem_iff_getElem?.1 p;have:=F.lr;have:=F.lo;have:=av j;let⟨w,a⟩:=cG f.ak m;have:=(F.ak.dz m w r a j).2.1;exact⟨V,V⟩
  .rcases C.ba.cL f b w a with e|⟨e,g⟩
   .exact⟨V,V⟩
   .have:=il e;exact⟨V,V⟩
structure Mv(n:Nat)(ro:Nat->Nat)(M:E)(ro':Nat->Nat)(M':E):Prop where
 size:M.size<=M'.size
 eB:∀b,b<M.size->n<=b->M'[b]? =M[b]?
 gU:∀b,b<M.size->ro' b=ro b
 new:∀b,M'.size<=b->ro' b=0
 jR:∀b,b<n->ro b=0
section
variable{n:Nat}{a d:Nat->Nat}{M b:E}
def iG.mv{e f k:Nat}{s:O}{l:List Ce}(h:iG a M e f k s l)(v:Mv n a M d b)(g:k≠0):iG d b e f k s l:=
 h.eB (λc=>v.eB _ (h.D c).1 (Hk λe=>g (by rw[<-(h.D c).2];exact v.jR _ e))) λc=>v.gU _ (h.D c).1
def dK.mv{i:O}{h:List bM}(q:dK n a M i h)(v:Mv n a M d b):dK n d b i h:=by
 let⟨l,j,a2,a3⟩:=q;refine⟨l,j.mv v bh,a2.mono λs r⟨o,m,f,g⟩=>⟨o,m,iQ f λc=>v.eB _ (iF f c) (g c).2.1,λc=>?_⟩,a3⟩;let⟨g1,g2,k,tail,p,e⟩:=g c;exact⟨(v.gU _ e.lt).trans g1,g2,k,tail,p,e.congr (v.eB _ e.lt g2)⟩
def SI.mv{i:Nat}{c:List Ce}{f:aX}(v:Mv n a M d b):SI a M i c f->SI d b i c f:=λ⟨r,o,k,j,e,g,h⟩=>⟨r,o,k,j,e.mv v V,g.mv v V,h.mv v V⟩
def sW.mv{e:O}{g:List aX}{f:aX}{r o h:O}{c:List (List Ce)}(T:sW a M e g f r o h c)(v:Mv n a M d b):sW d b e g f r o h c:=
 ⟨T.p7.mv v bh,T.len,T.size,λm i j k l=>(T.dz m i j k l).mv v,T.ak.mv v V,T.aR.mv v V,T.ba.mv v V⟩
def nG.mv{c:O}{e:List aX}(l:nG a M c e)(v:Mv n a M d b):nG d b c e:=by
 let⟨g,h⟩:=l;exact⟨g,h.p7.mv v bh,h.len,h.size,λm f i j k=>(h.dz m f i j k).mv v⟩
def sW.put{d:O}{b:List aX}{f g:aX}{s o p n m j:O}{h:List (List Ce)}(T:sW a M d b f s o p h)(v:∀e,M.size<=e->a e=0){i:Nat}(w:i<6){c:Ce}
 (u:jb [.i f.fE,.i f.pc,.i f.dst,.s s,.s o,.s p] i [c]=[.i g.fE,.i g.pc,.i g.dst,.s n,.s m,.s j])(t:iG a M aA 1 (10+3*b.length) n (g.ak.map Ce.i))(q:iG a M aA 1 (11+3*b.length) m (g.aR.map Ce.i))(r:iG a M aA 1 (12+3*b.length) j (g.ba.map Ce.i)):
 fK M d.D (d.off+b.length*6+i) 1/\sW a (ah M d.D (d.off+b.length*6+i) [c]) d b g n m j h/\dp (λk=>4<=k/\k≠9) a M a (ah M d.D (d.off+b.length*6+i) [c]):=by
 have e:dp (λk=>k=4) a M a (ah M d.D (d.off+b.length*6+i) [c]):=dp.ah v T.D.1 _ _
 have l:h.flatten.length=b.length*6:=by rw[cw T.size,T.len]
 refine⟨by rw[dj];exact T.p7.wr (by simp only[be,l,aZ,eW];omega),⟨?_,T.len,T.size,T.xS e λk q r=>V,t.eI e V,q.eI e V,r.eI e V⟩,e.mono λk x=>V⟩
 have:=T.p7.set (o:=b.length*6+i) (new:=[c]) (by simp[l];omega)
 rw[lD _ _ _ _ V,l,Hj,u]at this
 rw[dj];exact this
end
structure SO(n:Nat)(ro:Nat->Nat)(M:E)(aT hp fr:O)(s:St):Prop where
 le:n<=M.size
 jR:∀b,b<n->ro b=0
 new:∀b,M.size<=b->ro b=0
 aT:iG ro M aA 1 2 aT (s.aT.map Ce.i)
 heap:dK n ro M hp s.heap
 ao:nG ro M fr s.ao
structure FS(s:St):Prop where
 uv:DH s
 jf:zn s
 lo:s.aT.length<=1000000/\s.heap.length<=1000000
section
variable{n:Nat}{a e:Nat->Nat}{M b:E}{aT d c:O}{s:St}
def SO.of(N:pt (M.extract 0 n) a M aT d c s)(h:n<=M.size):SO n a M aT d c s:=⟨h,λb e=>N.bs.jR b (by rw[mg h];exact e),N.bs.new,N.aT,by have:=N.heap;rwa[mg h]at this,N.ao⟩
def SO.mv(w:SO n a M aT d c s)(v:Mv n a M e b):SO n e b aT d c s:=⟨bH w.le v.size,λf g=>(v.gU f (aO g w.le)).trans (w.jR f g),v.new,w.aT.mv v bh,w.heap.mv v,w.ao.mv v⟩
def SO.Z0(w:SO n a M aT d c s){h:Nat}(f:Fz [h] M b)(j:h<n):Mv n a M a b:=⟨f.size,λe g i=>f.same e g bE,λ_ _=>rfl,λe g=>w.new e (bH f.size g),w.jR⟩
def SO.eI{p:Nat->Prop}(w:SO n a M aT d c s)(C:dp p a M e b):n<=b.size/\(∀f,f<n->e f=0)/\∀f,b.size<=f->e f=0:=⟨bH w.le C.size,λf g=>(C.gU f (aO g w.le)).trans (w.jR f g),C.new⟩
def SO.box(w:SO n a M aT d c s){b:Nat}(g:a b=1)(o:Nat)(l:List Ce):SO n a (ah M b o l) aT d c s:=by
 have C:dp (λk=>k=1) a M a (ah M b o l):=dp.ah w.new g _ _;let⟨e,b,f⟩:=w.eI C;exact⟨e,b,f,w.aT.eI C bh,w.heap.eI C bh bh,w.ao.eI C λk h=>V⟩
def SO.Ib(w:SO n a M aT d c s)(C:dp (λk=>k=2) a M e b){l:List Int}(A:iG e b aA 1 2 q (l.map Ce.i)):SO n e b q d c {s with aT:=l}:=
 let⟨f,g,h⟩:=w.eI C
 ⟨f,g,h,A,w.heap.eI C bh bh,w.ao.eI C λk i=>V⟩
def SO.gB(w:SO n a M aT d c s)(C:dp (λk=>k=3) a M e b){h:List bM}(A:dK n e b q h):SO n e b aT q c {s with heap:=h}:=
 let⟨f,g,i⟩:=w.eI C
 ⟨f,g,i,w.aT.eI C bh,A,w.ao.eI C λk j=>V⟩
def SO.jJ(w:SO n a M aT d c s)(C:dp (λk=>4<=k/\k≠9) a M e b){l:List aX}(A:nG e b q l):SO n e b aT d q {s with ao:=l}:=
 let⟨f,g,h⟩:=w.eI C
 ⟨f,g,h,w.aT.eI C bh,w.heap.eI C bh bh,A⟩
def SO.Ec(w:SO n a M aT d c s)(h:zn s):gE M aT d c s:=⟨w.aT.nJ (oh h.aT),w.heap.cells (oh h.heap),w.ao.Ec (oh h.depth) h.ao⟩
end
end
section
variable{K:Int->E->Prop}{p:Nat->Prop}
def SP(n h:Nat)(f:O)(g:E)(P:Nat)(v:Value)(a:E):Prop:=∃aT e d s,v=Na s aT e d/\(∀c,a.size<=c.size->(∀b,b<a.size->n<=b->c[b]? =a[b]?)->gE c aT e d s)/\DH s/\(s.aT.length<=1000000/\s.heap.length<=1000000)/\Rs h f g P a
structure SQ(n rb:Nat)(bs:O)(ma:E)(k1 k2 Q:Nat)(ro:Nat->Nat)(M:E)(aT hp fr:O)(s:St):Prop where
 w:SO n ro M aT hp fr s
 r:Rs rb bs ma Q M
 k1:ro k1=1/\k1<M.size/\n<=k1
 k2:ro k2=1/\k2<M.size/\n<=k2
 fs:FS s
section
variable{n b m q Q w P t:Nat}{j aT h f:O}{e M d:E}{r u:Nat->Nat}{s v:St}{L:List Nat}
def SQ.fz(a:SQ n b j e m q Q r M aT h f s)(g:b<n)(c:Fz [b] M d)(i:Rs b j e w d):SQ n b j e m q w r d aT h f s:=
 ⟨a.w.mv (a.w.Z0 c g),i,⟨a.k1.1,aO a.k1.2.1 c.size,a.k1.2.2⟩,⟨a.k2.1,aO a.k2.2.1 c.size,a.k2.2.2⟩,a.fs⟩
def SQ.ext(a:SQ n b j e m q Q r M aT h f s)(c:b<n)(x:J M d):SQ n b j e m q Q r d aT h f s:=a.fz c (x.fz _) (a.r.ext x)
def SQ.gG(c:SQ n b j e m q Q r M aT h f s)(o:b<n)(k:∀a∈L,a=m\/a=q)(i:Fz [b] M d):eG L M d:=i.dv λa l=>by
 have:=c.k1;have:=c.k2;rcases k a l with g|g<;>simp only[lG]<;>omega
def SQ.gk(a:SQ n b j e m q Q r M aT h f s)(g:b<n)(c:Fz [b] M d)(o:Nat):af d q o=af M q o:=aJ (c.same _ a.k2.2.1 (by have:=a.k2;simp only[lG];omega)) o
def SQ.done(a:SQ n b j e m q Q r M aT h f s)(v:Rd b j t e)(C:e.size<=n)(x:Q<=P){o c g p:Int}(A:Hp g)(l:List Ce):SP n b j e P (.agg #[vi o,vi c,vi g,vi p,O.v aT,O.v h,O.v f]) (ah M m 0 l):=by
 have w:=a.w.box a.k1.1 0 l;have u:=a.r.put v (k:=m) (oh a.k1) 0 l;exact⟨aT,h,f,⟨o,c,g,p,s.aT,s.heap,s.ao⟩,rfl,λd z B=>have i:=(w.mv ⟨z,B,λ_ _=>rfl,λc y=>w.new c (bH z y),w.jR⟩).Ec a.fs.jf;⟨i.aT,i.heap,i.ao⟩,⟨A,a.fs.uv.heap,a.fs.uv.ao,a.fs.uv.lh,a.fs.uv.lf,a.fs.uv.lr⟩,a.fs.lo,u.f,u.r.mono x⟩
def SQ.box(a:SQ n b j e m q Q r M aT h f s)(c:Rd b j t e)(d:e.size<=n)(o:Nat)(l:List Ce):SQ n b j e m q Q r (ah M q o l) aT h f s:=
 ⟨a.w.box a.k2.1 o l,a.r.put c (oh a.k2) o l,by rw[aw];exact a.k1,by rw[aw];exact a.k2,a.fs⟩
def SQ.lK(l:SQ n b j e m q Q r M aT h f s)(g:b<n)(u:Q<=10^16)(p:∀a∈L,a=m\/a=q)(a:List Int){c:List Ce}{i:Nat}(w:c=a.map Ce.i)(v:i=a.length)(z:0<a.length/\a.length<=100)
 (y:∀t d,t∈a->SQ n b j e m q (Q+1) r d aT h f s->Fz [b] (M.push (.cells (bt c) aA)) d->K t d):aN cp 39 [vp b 0,O.v (.mk M.size 0 i i)] (M.push (.cells (bt c) aA)) λC d=>eG L (M.push (.cells (bt c) aA)) d/\∃t:Int,C=vi t/\K t d:=
 have x:=J.push M (.cells (bt c) aA)
 (zX l.r u a w v z).mono λ_ d⟨t,o,A,B,k⟩=>⟨(l.ext g x).gG g p k,t,o,y t d A ((l.ext g x).fz g k B) k⟩
def SQ.pick(c:SQ n b j e m q Q r M aT h f s)(i:b<n)(o:Q<=10^16)(l:∀a∈L,a=m\/a=q)(g:Int)
 (p:∀t d,0<=t->(t<g\/t=0)->SQ n b j e m q (Q+1) r d aT h f s->Fz [b] M d->K t d):aN cp 40 [vp b 0,vi g] M λw d=>eG L M d/\∃t:Int,w=vi t/\K t d:=
 (cq c.r.r o g).mono λ_ d⟨t,k,v,t1,u,a⟩=>⟨c.gG i l a,t,k,p t d v t1 (c.fz i a (c.r.to a u)) a⟩
def SQ.eI(a:SQ n b j e m q Q r M aT h f s)(l:Rd b j t e)(E:e.size<=n)(C:dp p r M u d)(h:∀k,p k->2<=k){x o k:O}(B:SO n u d x o k v)(z:FS v):SQ n b j e m q Q u d x o k v:=
 have D:=l.lt
 have w:∀c,c<n->d[c]? =M[c]? :=λc g=>C.eB c (aO g a.w.le) λy=>by have:=h _ y;have:=a.w.jR c g;omega
 have i:Fz [b] e d:=⟨bH a.r.f.size C.size,λc g A=>(w c V).trans (a.r.f.same c g A)⟩
 ⟨B,⟨i,l.MF a.r.r i (w b V)⟩,⟨(C.gU _ a.k1.2.1).trans a.k1.1,aO a.k1.2.1 C.size,a.k1.2.2⟩,⟨(C.gU _ a.k2.2.1).trans a.k2.1,aO a.k2.2.1 C.size,a.k2.2.2⟩,z⟩
def SQ.dv(g:SQ n b j e m q Q r M aT h f s)(i:∀a∈L,a=m\/a=q)(C:dp p r M u d)(h:∀k,p k->2<=k):eG L M d:=λa k=>by
 have l:=g.k1;have a2:=g.k2;rcases i a k with c|c<;>subst c<;>exact C.eB _ V λc=>by have:=h _ c;omega
def SQ.fU(t:SQ n b j e m q Q r M aT h f s)(u:cT ((f.len:Int) -1)>=0):∃a g l o k d,s.ao=a++[g]/\sW r M f a g l o k d/\cT ((f.len:Int) -1)=(a.length:Int)/\f.len=a.length+1:=by
 have F:=t.w.ao;have p:=t.fs.jf.depth;rcases List.eq_nil_or_concat s.ao with c|⟨a,g,c⟩
 .rw[c]at F;let⟨d,i⟩:=F;have:=i.p7.len;rw[cw i.size,i.len]at this;simp only[eW]at this;rw[aQ V V]at u;omega
 .rw[List.concat_eq_append]at c;rw[c]at F p;let⟨l,o,k,d,T⟩:=F.fU;have:=T.xO;simp at p;exact⟨a,g,l,o,k,d,c,T,by rw[aQ V V];omega,this⟩
def FS.fU(h:FS s){d:List aX}{j g:aX}(i:s.ao=d++[j])(k:RW g)(l:g.ak.length<=1000000/\g.aR.length<=1000000/\g.ba.length<=1000000):FS {s with ao:=d++[g]}:=by
 have b:=h.uv;have c:=h.jf;have e:∀x∈d,x∈s.ao:=λx a=>by rw[i];simp[a]
 have f:=c.depth;rw[i]at f;simp at f;refine⟨⟨b.bu,b.heap,λx a=>?_,b.lh,bE,λx a=>?_⟩,⟨c.aT,c.fl,c.heap,bE,λx a=>?_⟩,h.lo⟩<;>rcases List.mem_append.1 a with a|a
 .exact b.ao x (e x a)
 .simp at a;rw[a];exact k
 .exact b.lr x (e x a)
 .simp at a;rw[a];omega
 .exact c.ao x (e x a)
 .simp at a;rw[a];exact l
def SQ.sU(c:SQ n b j e m q Q r M aT h f s)(o:Rd b j t e)(p:e.size<=n){l:List aX}{z g:aX}(y:s.ao=l++[z]){J H I:O}{w:List (List Ce)}(T:sW r d f l g J H I w)(C:dp (λk=>4<=k/\k≠9) r M r d)(E:RW g)(G:g.ak.length<=1000000/\g.aR.length<=1000000/\g.ba.length<=1000000)
 (A:∀a∈L,a=m\/a=q)(B:Q<=P){v a i x:Int}(D:Hp i)(u:List Ce):eG L M d/\SP n b j e P (.agg #[vi v,vi a,vi i,vi x,O.v aT,O.v h,O.v f]) (ah d m 0 u):=
 ⟨c.dv A C λk F=>V,(c.eI o p C (λk F=>V) (c.w.jJ C T.sU) (c.fs.fU y E G)).done o p B D u⟩
def GU{im:cO}(I:Rd b j t e)(Q:e.size<=n)(aa:SO n r M aT h f s)(ae:Rs b j e P M)(hP:P+100<=10^16)(ok:cY im s)(hS:Sm 100000 s):aN cp 54 [vp b 0,Na s aT h f] M (SP n b j e (P+6)):=by
 apply yW (b,0);simp(config:={maxSteps:=1000000}) -zeta only[aC,aB];have k:b<n:=by have:=I.lt;omega
 have le:=aa.le;intro S m2;have s1:S.size=M.size+1:=by simp[S]
 have s2:m2.size=M.size+2:=by simp[m2,s1]
 have x2:J M m2:=(J.push M _).trans (J.push S _);clear_value m2;clear_value S;have q2:SQ n b j e S.size M.size P (od (od r M.size 1) S.size 1) m2 aT h f s:=⟨aa.mv ⟨x2.size,λW hb _=>x2.same W hb,λW hb=>by rw[eV V,eV V],λW hb=>by rw[eV V,eV V];exact aa.new W V,aa.jR⟩,ae.ext x2,⟨fI _ _ _,V,V⟩,⟨by rw[eV V];exact fI _ _ _,V,V⟩,⟨ok.ZJ hS V,ok.jf hS V,oh hS.aT,oh hS.heap⟩⟩;generalize od (od r M.size 1) S.size 1=ro2 at q2;have D:∀W∈[S.size,M.size],W=S.size\/W=M.size:=aL;have hc:=q2.fs.uv.bu;have ay:=ok.dV;refine q2.pick k V D 30 λaz y _ _ m f3=>?_;have ai:SP n b j e (P+6) (.agg #[vi s.bV,vi s.value,vi s.bu,vi s.dV,O.v aT,O.v h,O.v f]) (ah y S.size 0 [.i s.bV,.i s.value,.i s.bu,.i s.dV,.s aT,.s h,.s f]):=m.done I Q V hc _;have FY:∀p∈s.ao,(1<=p.ak.length/\p.ak.length<=2000)/\p.aR.length<=2000/\1<=p.ba.length:=λp hf=>by
  have hG:=ok.ao p hf;obtain⟨pg,_,au,ao,_⟩:=hG.Jf ok.fy;have R:=hG.lr;have W:=hG.lo;have X:=hG.lh;rw[au]at R W X;have:=ao.ak;omega
 have Kc:∀(R:O)(fb H:Nat)(ls:List Int){C:List Ce}{X:Nat},ro2 fb=4->fb<y.size->C=ls.map Ce.i->X=ls.length->0<ls.length/\ls.length<=100->∀{ak:Int->Int->E->Prop},(∀F x d,0<=F->(F<(R.len:Int)\/F=0)->x∈ls->SQ n b j e S.size M.size (P+3) ro2 d aT h f s->Mv n ro2 y ro2 d->ak F x d)->
  (aN cp 40 [vp b 0,vi (R.len:Int)] y λK v=>eG [S.size,M.size] y v/\∃F:Int,K=vi F/\af v fb H=af y fb H/\af v M.size 6=af y M.size 6/\(af (v.push (.cells (bt C) aA)) fb H=af v fb H/\af (v.push (.cells (bt C) aA)) M.size 6=af v M.size 6/\af (v.push (.cells (bt C) aA)) fb H=af v fb H/\af (v.push (.cells (bt C) aA)) M.size 6=af v M.size 6/\
   aN cp 39 [vp b 0,O.v (.mk v.size 0 X X)] (v.push (.cells (bt C) aA)) λK G=>eG [S.size,M.size] (v.push (.cells (bt C) aA)) G/\∃x:Int,K=vi x/\af G fb H=af (v.push (.cells (bt C) aA)) fb H/\af G M.size 6=af (v.push (.cells (bt C) aA)) M.size 6/\ak F x G))/\
  (af (y.push (.cells (bt C) aA)) fb H=af y fb H/\af (y.push (.cells (bt C) aA)) M.size 6=af y M.size 6/\af (y.push (.cells (bt C) aA)) fb H=af y fb H/\af (y.push (.cells (bt C) aA)) M.size 6=af y M.size 6/\
   aN cp 40 [vp b 0,vi (R.len:Int)] (y.push (.cells (bt C) aA)) λK v=>eG [S.size,M.size] (y.push (.cells (bt C) aA)) v/\∃F:Int,K=vi F/\af v fb H=af (y.push (.cells (bt C) aA)) fb H/\af v M.size 6=af (y.push (.cells (bt C) aA)) M.size 6/\
    aN cp 39 [vp b 0,O.v (.mk y.size 0 X X)] v λK G=>eG [S.size,M.size] v G/\∃x:Int,K=vi x/\af G fb H=af v fb H/\af G M.size 6=af v M.size 6/\ak F x G):=λR fb H ls C X h4 aw h1 h2 h3{ak} hX=>by
  have nb:fb∉[b]:=λw=>by simp at w;have:=q2.w.jR b k;rw[w]at h4;omega
  have ge:∀{M1 M2:E},y.size<=M1.size->Fz [b] M1 M2->af M2 fb H=af M1 fb H:=λav p=>aJ (p.same fb V nb) H
  refine⟨?_,?_⟩
  .refine m.pick k V D (R.len:Int) λF v k0 ab A Z=>?_
   have T:=J.push v (.cells (bt C) aA)
   have z4:=Z.size
   refine⟨ge (ad _) Z,m.gk k Z _,ge z4 (T.fz _),A.gk k (T.fz _) _,ge z4 (T.fz _),A.gk k (T.fz _) _,A.lK k V D ls h1 h2 h3 λx G z q N=>⟨ge (bH z4 T.size) N,(A.ext k T).gk k N _,hX F x G k0 ab z q (m.w.Z0 ((Z.trans (T.fz _)).trans N) k)⟩⟩
  .have U:=J.push y (.cells (bt C) aA)
   have A:=m.ext k U
   have z4:=U.size
   have L:ap (bG [b] (y.push (.cells (bt C) aA))) (.mk y.size 0 X X) ls:=ap.lit aA ls (by simp;exact m.r.r.lt) h1 h2 V
   refine⟨ge (ad _) (U.fz _),m.gk k (U.fz _) _,ge (ad _) (U.fz _),m.gk k (U.fz _) _,A.pick k V D (R.len:Int) λF m5 k0 ab B f5=>⟨ge z4 f5,A.gk k f5 _,?_⟩⟩
   refine(kA B.r.r V (ap.le (f5.df aL) L) h3.1).mono λ_ G⟨x,w,z,Y,N⟩=>⟨B.gG k D N,x,w,ge (bH z4 f5.size) N,B.gk k N _,hX F x G k0 ab z (B.fz k N (B.r.to N Y)) (m.w.Z0 (((U.fz _).trans f5).trans N) k)⟩
 refine⟨λ_=>m.lK k V D [0,1,2,3,4,-1] rfl rfl aL λx v _ A _=>(A.box I Q _ _).done I Q V hc _,λ_=>⟨λ_=>?_,λ_=>⟨λ_=>m.lK k V D [5,1000,0] rfl rfl aL λx v _ A _=>(A.box I Q _ _).done I Q V hc _,λ_=>⟨λ_=>?_,λ_=>⟨λ_=>?_,λ_=>⟨λ_=>⟨λz=>?_,λ_=>ai⟩,λ_=>⟨λ_=>⟨λz=>?_,λ_=>ai⟩,λ_=>⟨λ_=>⟨λz=>?_,λ_=>ai⟩,λ_=>⟨λ_=>⟨λz=>?_,λ_=>ai⟩,λ_=>⟨λ_=>⟨λz=>?_,λ_=>ai⟩,λ_=>ai⟩⟩⟩⟩⟩⟩⟩⟩⟩⟩
 .refine m.lK k V D [0,41,-1,cT (s.dV+1)] rfl rfl aL λx v z A _=>(A.box I Q _ _).done I Q V ?_ _;rw[aQ V V]at z;simp at z;exact⟨V,V⟩
 .have U:=J.push y (.cells (bt [.i 5,.i 1000]) aA);refine⟨m.gk k (U.fz _) _,m.lK k V D [5,1000] rfl rfl aL λx m5 _ B f5=>⟨(m.ext k U).gk k f5 _,?_⟩⟩;intro G;have Y:J m5 G:=J.push _ _;have iB:fQ G m5.size 0 [.i x]:=(cE.push m5 [.i x] aA).iB;clear_value G;have q:=B.ext k Y;have ol:=q.w.aT.len;have os:=hS.aT;simp at ol;refine⟨B.gk k (Y.fz _) _,q.w.aT.append (zs:=[.i 0]) q.w.new rfl iB bE λu ag m7 ac L=>⟨q.dv D L λF hk=>V,?_⟩⟩;have q7:=q.eI I Q L (λF hk=>V) (q.w.Ib (l:=s.aT++[x]) L (by rw[ft];exact ac)) ⟨⟨q.fs.uv.bu,q.fs.uv.heap,q.fs.uv.ao,q.fs.uv.lh,q.fs.uv.lf,q.fs.uv.lr⟩,⟨bE,q.fs.jf.fl,q.fs.jf.heap,q.fs.jf.depth,q.fs.jf.ao⟩,bE,q.fs.lo.2⟩;exact(q7.box I Q _ _).done I Q V hc _
 .have ax:=m.w.heap.len;refine⟨λh1=>?_,λ_=>ai⟩;simp only[kG,ar]at h1;refine m.pick k V D (h.len:Int) λR v a0 a1 A Z=>?_;let⟨X,al⟩:=cG s.heap R.toNat;obtain⟨_,g0,-⟩:=A.w.heap.cg al;have hb:=A.w.heap.D (a:=R.toNat) V;have nb:h.D≠b:=λw=>by have:=A.w.jR b k;rw[w]at hb;omega
  have T:=J.push v (.cells (bt [.i 1,.i (-1)]) aA);have e5:=λac=>aJ (T.same _ hb.2) ac;refine⟨a0,V,_,g0,e5 _,A.gk k (T.fz _) _,A.gk k (T.fz _) _,A.lK k V D [1,-1] rfl rfl aL λx G _ q N=>?_⟩;have e6:=λac=>aJ (N.same h.D (aO hb.2 T.size) (by simpa using nb)) ac;have B:=A.ext k T;refine⟨e6 _,B.gk k N _,B.gk k N _,a0,V,q.w.heap.wr (o:=0) V V,?_⟩;let⟨an,L⟩:=q.w.heap.rp q.w.new al (cT (X.aP+x));have Y:=q.fs.uv;have aj:=q.fs.jf;refine⟨q.dv D L λF hk=>V,SQ.done (q.eI I Q L (λF hk=>V) (q.w.gB L an) ⟨⟨Y.bu,λam hx=>?_,Y.ao,by simpa using Y.lh,Y.lf,Y.lr⟩,⟨aj.aT,λam hx=>?_,by simpa using aj.heap,aj.depth,aj.ao⟩,by simpa using q.fs.lo⟩) I Q V hc _⟩
  .rcases cB hx with w|w
   .exact Y.heap am w
   .rw[w];exact Y.heap X (aq al)
  .rcases cB hx with w|w
   .exact aj.fl am w
   .rw[w];exact aj.fl X (aq al)
 .simp only[om,ar]at z;have U:=J.push y (.cells (bt [.i 0,.i 1,.i 99,.i (-1)]) aA);refine⟨m.gk k (U.fz _) _,m.lK k V D [0,1,99,-1] rfl rfl aL λx m5 _ B f5=>⟨(m.ext k U).gk k f5 _,?_⟩⟩;let⟨fs,p,ae,ac,ag,aj,w,T,ew,el⟩:=B.fU z;have N:p∈s.ao:=by rw[w];simp
  have Y:=B.fs.uv.ao p N;have fl:=B.fs.jf.ao p N;rw[ew];let⟨wr,T',L⟩:=T.put (i:=1) (g:={p with pc:=x}) (c:=.i x) B.w.new bh rfl T.ak T.aR T.ba;exact⟨V,V,wr,B.sU I Q w T' L Y fl D V hc _⟩
 .simp only[om,ar]at z;let⟨fs,p,ae,ac,ag,aj,w,T,ew,el⟩:=m.fU z;have N:p∈s.ao:=by rw[w];simp
  have Y:=m.fs.uv.ao p N;have fl:=m.fs.jf.ao p N;rw[ew];obtain⟨_,_,_,_,g4,_⟩:=T.iB;have hl:=FY p N;refine⟨V,V,ac,g4,(qH m.r.r V (T.aR.nJ V) V).mono λ_ v⟨R,l',e',am,an,hm,r4,Z⟩=>⟨m.gG k D Z,R,e',m.gk k Z _,V,V,?_⟩⟩;have ax:=am.bn;have K:Mv n ro2 y (od ro2 R.D (11+3*fs.length)) v:=⟨Z.size,λW hb al=>Z.same W hb bE,λW hb=>eV V,λW hb=>by rw[eV V];exact m.w.new W (bH Z.size hb),m.w.jR⟩;have z4:=Z.size;have ab:=m.k1;have al:=m.k2;have A:SQ n b j e S.size M.size (P+4) (od ro2 R.D (11+3*fs.length)) v aT h f s:=⟨m.w.mv K,m.r.to Z r4,⟨(K.gU _ ab.2.1).trans ab.1,V,ab.2.2⟩,⟨(K.gU _ al.2.1).trans al.1,V,al.2.2⟩,m.fs⟩;have T4:=T.mv K;let⟨wr,T',L⟩:=T4.put (i:=4) (g:={p with aR:=l'}) (c:=.s R) A.w.new bh rfl T4.ak (iG.gA (GI.aT am) λ_=>fI _ _ _) T4.ba;exact⟨wr,A.sU I Q w T' L ⟨Y.1,λaa hw=>(hm aa hw).elim (Y.2.1 aa) λw=>⟨V,V⟩,Y.2.2⟩ ⟨fl.1,by show l'.length<=_;omega,fl.2.2⟩ D V hc _⟩
 .simp only[om,ar]at z;let⟨fs,p,ae,ac,ag,aj,w,T,ew,el⟩:=m.fU z;have N:p∈s.ao:=by rw[w];simp
  have Y:=m.fs.uv.ao p N;have fl:=m.fs.jf.ao p N;have hl:=FY p N;rw[ew];obtain⟨_,_,_,g3,_⟩:=T.iB;have Z:=T.ak.len;simp at Z;refine⟨V,V,ae,g3,V,V,ae,g3,Kc ae f.D _ [0,5,1000,1003,-1000] T.D.1 T.D.2 rfl rfl aL λF x G k0 ab z q K=>?_⟩;let⟨T',L⟩:=(T.mv K).Ag q.w.new k0 V x;exact⟨k0,V,(T.mv K).ak.NQ k0 V,q.sU I Q w T' L ⟨λaa hw=>(cB hw).elim (Y.1 aa) λw=>by simp at z;exact⟨V,V⟩,Y.2⟩ ⟨by show(p.ak.set _ _).length<=_;simp;omega,fl.2⟩ D V hc _⟩
 .simp only[om,ar]at z;let⟨fs,p,ae,ac,ag,aj,w,T,ew,el⟩:=m.fU z;have N:p∈s.ao:=by rw[w];simp
  have Y:=m.fs.uv.ao p N;have fl:=m.fs.jf.ao p N;have hl:=FY p N;rw[ew];obtain⟨_,_,_,_,_,g5⟩:=T.iB;have Z:=T.ba.len;simp at Z;refine⟨V,V,ag,g5,V,V,ag,g5,Kc ag f.D _ [1000,1,1001] T.D.1 T.D.2 rfl rfl aL λF x G k0 ab z q K=>?_⟩;let⟨T',L⟩:=(T.mv K).wX q.w.new k0 V x;exact⟨k0,V,(T.mv K).ba.NQ k0 V,q.sU I Q w T' L ⟨Y.1,Y.2.1,λaa hw=>(cB hw).elim (Y.2.2 aa) λw=>by simp at z;exact⟨V,V⟩⟩ ⟨fl.1,fl.2.1,by show(p.ba.set _ _).length<=_;simp;omega⟩ D V hc _⟩
 .simp only[om,ar]at z;have U:=J.push y (.cells (bt [.i 0,.i 1,.i 99,.i (-1)]) aA);refine⟨m.gk k (U.fz _) _,m.lK k V D [0,1,99,-1] rfl rfl aL λx m5 _ B f5=>⟨(m.ext k U).gk k f5 _,?_⟩⟩;let⟨fs,p,ae,ac,ag,aj,w,T,ew,el⟩:=B.fU z;have N:p∈s.ao:=by rw[w];simp
  have Y:=B.fs.uv.ao p N;have fl:=B.fs.jf.ao p N;rw[ew];let⟨wr,T',L⟩:=T.put (i:=2) (g:={p with dst:=x}) (c:=.i x) B.w.new bh rfl T.ak T.aR T.ba;exact⟨V,V,wr,B.sU I Q w T' L Y fl D V hc _⟩
end
end
section
def TF(S:List Nat)(m:E):(Vc.bG S m).size=m.size:=by simp[Vc.bG]
def TE{S:List Nat}{m:E}{b:Nat}(h:b∉S):(Vc.bG S m)[b]? =m[b]? :=by
 unfold Vc.bG;rw[Xt];cases m[b]? <;>simp[h]
def AR(S:List Nat)(v:Value)(c:E):Prop:=∃d p e aT b a s,v=.tuple #[.agg #[O.v d,O.v p],Na s aT b a]/\fw (bG S c) d p e/\gE (bG S c) aT b a s/\DH s/\s.aT.length<=1000000/\s.heap.length<=1000000
section
variable{a:List Nat}{m:E}{b P:Nat}{c:O}
def Gj(D:∀d∈a,d<m.size)(q:b∈a)(k:Rd b c P m)(hP:P+3000+4*(300+40*Cg 18)<=10^16):aN cp 29 [vp b 0] m λO I=>AR a O I/\Fz [b] m I/\Rd b c (P+3000+4*(300+40*Cg 18)) I:=by
 apply yG (b,0);simp -zeta only[aC,aB];have v:=k.lt;intro e W;have b2:BS [e.size,m.size] b c m P W:=BS.Z5 (BS.lK (S:=a) k _).1 _;have s1:e.size=m.size+1:=by simp[e]
 clear_value W;refine b2.call (S:=a) v (λ_ d=>d) (JH (b2.hS D) (by simp[q]) b2.s.r V) λt w x h _ t3 b3 f3=>?_;intro m4 X;obtain⟨b5,l5,-⟩:=b3.box (S:=a) (m1:=m4) (m2:=X) rfl rfl rfl;clear_value X;have N:=IT.mn _ _ _ _ _ l5 t3;refine(tG (b:=⟨x.1,x.2⟩) ⟨N.1.le (bA _ _),iH.le (bA _ _) N.2⟩).mono λ_ f⟨O,l,hv,A⟩=>⟨(b5.lw v λ_ d=>d).dv (A.fz _),O,l,λp=>?_,λhy=>?_⟩;all_goals
  have b6:=b5.to (A.fz _) (b5.s.r.ext A)
  have z:=IT.mn _ _ _ _ _ (BS.le (B:=[h.size,e.size,m.size]) q (A.fz [b])) N
  have g:=b6.gG
 .intro j K L;have u:J f j:=J.push _ _;have G:cE j f.size dP [.i 0,.i 0,.i 0,.s .nil,.s .nil,.s .nil]:=cE.push _ _ _;have R:=b6.to (u.fz _) (b6.s.r.ext u);have Z:=IT.mn _ _ _ _ _ (BS.le (B:=[h.size,e.size,m.size]) q (u.fz [b])) z;clear_value j;let⟨T,Y⟩:=R.put (S:=a) k (by simp:m.size∈_) [.s t,.s w];let⟨s,H⟩:=T.put (S:=a) k (by simp:e.size∈_) [.i 3,.i 0,.i 0,.i 0,.s .nil,.s .nil,.s (.mk f.size 0 1 1)];have C:=IT.mn _ _ _ _ _ ((Y.trans H).trans (iS _ λ_=>eE _)) Z;have ha:=g m.size aL;have i:=g e.size aL;have M:cE L f.size dP [.i 0,.i 0,.i 0,.s .nil,.s .nil,.s .nil]:=(G.congr (bd _ _ _ _ V)).congr (bd _ _ _ _ V);have U:f.size∉a:=λF=>by have:=D _ F;omega
  have o:∀{Q:E},ap Q .nil []:=⟨rfl,dN _,aL,aL⟩;refine⟨⟨t,w,⟨x.1,x.2⟩,.nil,.nil,.mk f.size 0 1 1,⟨3,0,0,0,[],[],[⟨0,0,0,[],[],[]⟩]⟩,rfl,⟨C.1,C.2⟩,⟨o,⟨rfl,dN _,aL,aL⟩,⟨rfl,ad _,aL,λy aa r=>?_⟩⟩,⟨⟨aL,aL⟩,by simp[RX],by simp[RW],aL,aL,aL⟩,aL⟩,s.s.f,s.s.r.mono V⟩;cases y with
  |zero=>
   simp at r;subst r;exact⟨_,⟨.nil,.nil,.nil,rfl,o,o,o⟩,Kf U M.iB⟩
  |succ y=>simp at r
 .have ok:nl ⟨x.1,x.2⟩:=hv.1 (by simpa using hy);have U:Le (bG ([h.size,e.size,m.size]++a) f) (bG [b] f):=iS _ (by simp[q]);refine(Iq b6.s.r V (z.1.le U) (iH.le U z.2) ok).mono λ_ j⟨ak,ro,aT,hp,fr,ao,l,aa,p,ae,al,ab,r7,u⟩=>?_;have R:∀o,af j h.size o=af f h.size o:=λo=>kg u v (g _ aL) o;refine⟨(b6.lw v λ_ d=>d).dv u,_,_,_,_,aT,hp,fr,l,R _,R _,?_⟩;have an:b<f.size:=b6.s.r.lt;refine(GU (n:=ak) b6.s.r p (SO.of aa ae) ⟨u,r7⟩ V al ab).mono λ_ K⟨M,G,C,r,l,ah,ac,ag,y⟩=>?_;have Y:∀d,d<f.size->d≠b->K[d]? =j[d]? :=λd i p=>(y.f.same d i (by simpa using p)).trans (u.same d i (by simpa using p)).symm;have T:∀o,af K h.size o=af j h.size o:=λo=>aJ (Y _ (g _ aL).2 (oh (g h.size aL))) o;refine⟨λd i=>Y d (g d i).2 (oh (g d i)),_,_,_,_,M,G,C,l,T _,T _,?_⟩;intro L aj;have t8:=IT.mn _ _ _ _ _ (BS.le (B:=[h.size,e.size,m.size]) q y.f) z;let⟨s,H⟩:=(b6.to y.f y.r).put (S:=a) k (by simp:m.size∈_) [.s t,.s w];let⟨Q,ai⟩:=s.put (S:=a) k (by simp:e.size∈_) [.i r.bV,.i r.value,.i r.bu,.i r.dV,.s M,.s G,.s C];have Z:=IT.mn _ _ _ _ _ ((H.trans ai).trans (iS _ λ_=>eE _)) t8;have ha:=g m.size aL;have i:=g e.size aL;refine⟨⟨t,w,⟨x.1,x.2⟩,M,G,C,r,rfl,⟨Z.1,Z.2⟩,ah _ (by rw[TF];simp[aj,L,aw]) λd _ am=>?_,ac,ag⟩,Q.s.f,Q.s.r.mono V⟩;rw[TE λF=>O8 (D d F) b6.s.f.size];exact(bd _ _ _ _ V).trans (bd _ _ _ _ V)
end
end
section
def Ri(f:Nat->Nat):∀n,∃B,∀i,i<n->f i<=B
 |0=>⟨0,aL⟩
 |n+1=>let⟨B,h⟩:=Ri f n;⟨B+f n,λi a=>by
  rcases aW i n with e|e
  .have:=h i e;omega
  .have:i=n:=V;subst this;omega⟩
def cY.Dj{w:cO}{s:St}(e:cY w s)(m:s.bV=0):s.heap=[]:=by
 have g:=e.done.1 m;let⟨l,t⟩:=e.heap.Mr;let⟨B,n⟩:=Ri l s.heap.length;apply dQ;intro q;have y:0<s.heap.length:=List.length_pos_iff.2 q;have fY:∀k,∃(b:Nat)(c:bM),s.heap[b]? =some c/\0<c.aP/\k<=l b:=λk=>by
  induction k with
  |zero=>
   let⟨c,d⟩:=cG s.heap (s.heap.length -1);refine⟨_,c,d,?_,dN _⟩;have i:=e.jz c d;rcases I6 c.aP 0 with f|f
   .have:=e.k8 _ ⟨c,d,f⟩;rw[g]at this;simp[dG]at this
   .omega
  |succ k v=>
   let⟨b,c,d,r,p⟩:=v;have:=e.heap.ex b c d r;rw[g]at this;simp only[fA]at this;let⟨f,o,i⟩:=Lm (h:=s.heap) (f:=b) V;let⟨j,hd⟩:=List.mem_iff_getElem?.1 o;have u:=t j f hd _ i V;rw[lA]at u;refine⟨j,f,hd,?_,V⟩;apply dQ;intro x;have:=((e.heap.cell f (aq hd)).wM V).2.1 _ i;omega
 obtain⟨b,c,d,_,p⟩:=fY (B+1);have:=n b (av d);omega
def cY.gY{a:cO}{s:St}(h:cY a s):cY a {s with dV:=40}:=⟨h.fy,h.bV,h.done,h.value,h.tP,aL,⟨h.bu.1,by have:=h.bu;have:=h.dV;show s.bu<=40;omega⟩,h.depth,h.aT,h.heap,h.jz,h.ao,h.first,h.chain,h.k8,h.nj⟩
def gE.le{m f:E}{aT d c:O}{s:St}(b:gE m aT d c s)(a:Le m f):gE f aT d c s:=⟨b.aT.le a,eT.le b.heap a λk j⟨n,e,h⟩=>⟨n,e,h.le a⟩,eT.le b.ao a λk j⟨r,o,h,e,g,i,l⟩=>⟨r,o,h,e,g.le a,i.le a,l.le a⟩⟩
def LwR(m:E)(v:Value)(a:E):Prop:=v=vb true/\J m a
section
variable{m:E}{d p aT b a:O}{c:cO}{s:St}
end
end
section
section
variable{f:Nat->Bool}
end
section
variable{m:E}{d p aT b a:O}{c:cO}{s:St}
end
end
section
variable{c:E}{a:Nat->Nat}{b e:Nat}{f:List Ce}
def pt.VH{m:E}{aT i d:O}{s:St}(h:pt c a m aT i d s)(g:a b=1)(l:List Ce)(kb:cE (ah m b 0 l) b e f):vy c a (ah m b 0 l) b e f aT i d s.aT s.heap s.ao:=by
 have C:dp (λk=>k=1) a m a (ah m b 0 l):=dp.ah h.bs.new g _ _;let⟨b1,b2⟩:=(C.mono λk j=>by omega:To a m a _).cy h.bs.cy h.bs.jR;exact⟨b1,b2,C.new,kb,g,h.aT.eI C bh,h.heap.eI C bh bh,h.ao.eI C λk j=>V⟩
def vy.Z7{m:E}{aT g d:O}{s:St}(L:vy c a m b e f aT g d s.aT s.heap s.ao):pt c a m aT g d s:=⟨⟨L.cy,L.jR,L.new⟩,L.aT,L.heap,L.ao⟩
section
variable{g:E}{d p aT j i:O}{h:cO}{s:St}
def MkL(b:E)(d p:O)(h:cO)(s:St)(o:Nat×Nat)(M:E):Prop:=o.2=0/\∃a aT j i,vy b a M o.1 bR (IB d p (cr h) s aT j i) aT j i s.aT s.heap s.ao
abbrev vw:List Ce:=[.s O.nil,.s O.nil,.i 0,.i 0,.i 0,.i 0,.i 0,.s O.nil,.s O.nil,.s O.nil]
variable(k:fw g d p h)(n:gE g aT j i s)(l:DH s)(q:s.aT.length<=10000000)
include k n l q
def FF:aN cp 13 [.agg #[O.v d,O.v p],Na s aT j i] g (WG g (xU h s 1)):=by
 apply zI;simp -zeta only[aC,aB];rw[NL];intro R S I;have s1:R.size=g.size+1:=by simp[R]
 have s2:S.size=g.size+2:=by simp[S,s1]
 have s3:I.size=g.size+3:=by simp[I,s2]
 have U:J g I:=(((J.az g).aK _).aK _).aK _;clear_value I;have H:∀u∈[S.size,R.size,g.size],u<I.size:=bE;refine(DP (k.ext U) (n.ext U) l).aH (J.az _) H λb4 B ai F _=>⟨b4,rfl,λh1=>RS U F V (by rw[ae (nb ai h1)]) _,λh1=>?_⟩;have P:=yb ai h1;rw[an P];have L:=U.trans F;have z4:=F.size;have N:=TB l q;have ao:=P.jf N V;have ht:=P.fy.nP.types;have cc:∀{M:E},J B M->Ho cp 31 [O.v d] M (vi (cr h)):=λG=>qy (k.ext (L.trans G)).bo ht.len (λc hd=>Ok ht c hd);have c:∀{M w:E}{u:Nat},J M w->u<M.size->∀Q,af w u Q=af M u Q:=λG al Q=>aJ (G.same _ al) Q;have Z:∀{a:Nat->Nat}{M:E}{ag:Value->E->Prop},Bs B a M->(∀u,a u<=1)->(∀T z y x w,pt B T w z y x s->dp (λ_=>False) a M T w->J M w->M.size<=w.size->ag (Na s z y x) w)->aN cp 32 [Na s aT j i] M ag:=λac am hK=>
  (DS ac am (n.ext (L.trans ac.cy)) ao).mono λ_ w⟨T,z,y,x,e,ak,W⟩=>by rw[e];exact hK T z y x w ak W W.uP W.size
 have aj:∀{M w:E},J B M->w=M.push (.cells (bt vw) bR)->Bs B (od (λ_=>0) M.size 1) w/\(∀u,od (λ_=>0) M.size 1 u<=1)/\cE w M.size bR vw:=λG e=>by
  have hz:=G.size;subst e;refine⟨⟨G.aK _,λu C=>eV V,λu C=>eV (by simp at C;omega)⟩,λu=>?_,cE.push _ _ _⟩;unfold od;split
  .omega
  .exact dN _
 refine⟨MkL B d p h s,⟨?_,?_⟩,?_⟩
 .refine(cc (J.az _)).mono ?_;rintro _ A ⟨rfl,r⟩;have z5:=r.size;refine⟨r.dv λu C=>F.lt (H u C),_,rfl,c r V _,c r V _,c r V _,c r V _,c r V _,c r V _,c r V _,c r V _,c r V _,?_,?_⟩
  .refine Z (a:=λ_=>0) ⟨r,λ_ _=>rfl,λ_ _=>rfl⟩ (λ_=>dN _) λaa z y x v K Y f z6=>?_;refine⟨f.dv λu C=>r.lt (F.lt (H u C)),_,_,_,_,z,y,x,rfl,c f V _,c f V _,?_⟩;intro D;have t:J v D:=J.push v _;have kb:cE D v.size bR vw:=cE.push v _ _;refine⟨c t V _,c t V _,c t V _,c t V _,c t V _,c t V _,c t V _,c t V _,c t V _,c t V _,rfl,od aa v.size 1,z,y,x,?_⟩;have X:J v (ah D v.size 0 [.s d,.s p,.i (cr h),.i s.bV,.i s.value,.i s.bu,.i s.dV,.s z,.s y,.s x]):=t.ah (ad _) _ _;exact K.cQ X (ad _) (cE.ah (m:=D) (o:=0) kb)
  .intro v;have f:J A v:=J.push A _;have s6:v.size=A.size+1:=by simp[v]
   let⟨K,ap,kb⟩:=aj (w:=v) r rfl;clear_value v;refine⟨c f V _,c f V _,c f V _,c f V _,c f V _,c f V _,c f V _,c f V _,c f V _,c f V _,Z K ap λab z y x D Y X t z7=>?_⟩;refine⟨t.dv bE,_,_,_,_,z,y,x,rfl,c t V _,c t V _,rfl,ab,z,y,x,?_⟩;exact Y.VH (by rw[X.gU _ V];exact fI _ _ _) _ (cE.ah (m:=D) (o:=0) (kb.ext t))
 .intro A;have r:J B A:=J.push B _;have s5:A.size=B.size+1:=by simp[A]
  let⟨K,ap,kb⟩:=aj (w:=A) (J.az B) rfl;clear_value A;refine⟨c r V _,c r V _,c r V _,c r V _,c r V _,c r V _,c r V _,c r V _,c r V _,c r V _,(cc r).mono ?_⟩;rintro _ v ⟨rfl,f⟩;have z6:=f.size;refine⟨f.dv bE,_,rfl,c f V _,c f V _,c f V _,c f V _,c f V _,c f V _,c f V _,c f V _,c f V _,Z (K.eI (dp.eH _ f K.new)) ap λab z y x D Y X t z7=>?_⟩;refine⟨t.dv bE,_,_,_,_,z,y,x,rfl,c t V _,c t V _,rfl,ab,z,y,x,?_⟩;exact Y.VH (by rw[X.gU _ V];exact fI _ _ _) _ (cE.ah (m:=D) (o:=0) (kb.ext (f.trans t)))
 .rintro⟨b,mo⟩ A ⟨rfl,X,o5,h5,f5,r⟩;simp only[]at r;have K:zi X A [S.size,R.size,g.size]:=λu C=>⟨r.cy.lt (F.lt (H u C)),r.jR u (F.lt (H u C))⟩;refine(OB r (k.ext L) P N.uv (oh N.heap) (oh N.aT)).mono ?_;rintro _ v ⟨aa,o6,D,t,f,Y⟩;refine⟨Y.dI K,_,f.box.cg 3,_,f.box.cg 4,_,f.box.cg 5,_,f.box.cg 6,o6,f.box.cg 7,D,f.box.cg 8,t,f.box.cg 9,aa,o6,D,t,rfl,f.Z7.box L V V _ _⟩
end
end
section
def St.gT(s:St)(n:Int):St:={s with dV:=n}
section
variable{a:cO}{s:St}{f:aX}{x:Instr}{o:List Int}{b:List aX}
def ln.gT{n:Int}(h:ln a s f x o):ln a (s.gT n) f x o:=⟨h.nn,h.dst,h.nJ,h.jd,h.cR,h.zero,h.ret,h.apply,h.WM,h.drop,h.NA,h.load,h.Fb⟩
def WV{P:St->Prop}{c:Prop}{i:Decidable c}{a b:St}(d:P a)(e:P b):P (ite c a b):=by split<;>assumption
structure Vi(s t:St):Prop where
 dV:t.dV=s.dV
 bu:s.bu<=t.bu
 aT:s.aT<+:t.aT
 bV:t.bV=s.bV\/t.bV=0
def OH:Vi s (fF a s b f x o):=by
 unfold fF;simp only[];repeat' refine WV (P:=Vi s) ?_ ?_
 all_goals first|exact⟨rfl,dg _,Ra _,Or.inl rfl⟩|exact⟨rfl,dg _,List.prefix_append _ _,Or.inl rfl⟩|exact⟨rfl,by simp only[];omega,Ra _,Or.inl rfl⟩|(cases b.getLast?<;>exact⟨rfl,dg _,Ra _,aL⟩)
end
end
structure XJ where
 aD:Int
 Qv:Int
 QZ:Int
 WN:Int
 Tl:Int
 Yq:Int
 depth:Int
 Q4:Int
def mx(a b:Int):Int:=if b>a then b else a
def VJ:List bM->Int
 |[]=>0
 |c::h=>(if 0<c.aP then 1 else 0)+VJ h
def YY(n:Int):List bM->Int
 |[]=>n
 |c::h=>YY (mx n c.aP) h
def fP.ns{h:List bM}{b:Nat}(d:fP (ns h) b):fP h b:=by
 let⟨c,a,e⟩:=d;unfold Go.Proofs.YtkoifinbblcbiaaGreat.ns at a;rw[lF]at a;split at a
 .exact⟨c,a,e⟩
 .simp at a
def fP.Gg{h:List bM}{w:Int}(e:fY h w)(c:bM){b:Nat}(d:fP (h.set (ix w) c) b):fP h b:=by
 by_cases a:b=ix w
 .subst a;exact e.2
 .exact(fP.ne a).1 d
def fP.je:∀(a:List Int)(h:List bM)(b:Nat),(∀w∈a,fY h w)->fP (je h a) b->fP h b
 |[],_,_,_,c=>c
 |w::a,h,b,d,c=>by
  have e:=d w bg;exact(fP.mQ e b).1 (fP.je a _ b (λv f=>⟨(d v (ai _ f)).1,(fP.mQ e _).2 (d v (ai _ f)).2⟩) c)
def fP.gZ:∀(n:Nat)(h:List bM)(j:List Int),Cb h+j.length<=n->∀b,fP (gZ h j) b->fP h b
 |n,h,[],_,b,a=>by rw[sS]at a;exact a
 |0,h,w::r,d,b,_=>by simp at d
 |n+1,h,w::r,d,b,a=>by
  simp only[aZ]at d;rcases dR (fY h w)with c|c
  .let⟨g,i⟩:=bS c;by_cases e:(aM h w).aP=1
   .have f:=km (d:=iZ) g;simp only[an i,iZ]at f;simp at f;rw[sT c e]at a;exact fP.Gg c _ (fP.gZ n _ _ (by simp[iZ];omega) b a)
   .have f:=km (d:={aM h w with aP:=(aM h w).aP -1}) g;simp only[an i]at f;rw[an V]at f;rw[ql c e]at a;exact fP.Gg c _ (fP.gZ n _ _ (by simp only[Go.Proofs.YtkoifinbblcbiaaGreat.fj];omega) b a)
  .rw[qt c]at a;exact fP.gZ n _ _ V b a
def fP.apart{h:List bM}{e:Nat->Int}(g:fN h e){w:Int}(b:fY h w){c:Nat}(a:fP (apart h w) c):fP h c:=by
 let⟨d,l⟩:=bS b;unfold Go.Proofs.YtkoifinbblcbiaaGreat.apart at a;split at a
 .exact fP.Gg b _ (fP.ns a)
 .rename_i k;refine fP.Gg b {aM h w with aP:=(aM h w).aP -1} (fP.je _ _ _ (λv i=>?_) a);let⟨j,f⟩:=lC.1 i;have:=g.field (iy d) j f;refine⟨f,?_⟩;by_cases e:ix v=ix w
  .rw[e,fP.yB d];show 0<(aM h w).aP -1;omega
  .rw[fP.ne e];exact this.2
structure aad(c:XJ)(s:St):Prop where
 Yq:VJ s.heap<=c.Yq
 depth:(s.ao.length:Int)<=c.depth
 Q4:YY c.Q4 s.heap=c.Q4
structure aae(n:Nat)(c:XJ):Prop where
 aD:0<=c.aD/\c.aD<=n
 Qv:0<=c.Qv/\c.Qv<=n
 QZ:0<=c.QZ/\c.QZ<=n
 WN:0<=c.WN/\c.WN<=n
 Tl:0<=c.Tl/\c.Tl<=n
section
section
variable{b:cO}{a:St}{c:aX}{e:Instr}{aR:List Int}{d:List aX}
def Sv(e:a.bV=3->(kD b a).bV=1\/(kD b a).bV=2):kD b a={a with bV:=(kD b a).bV}/\(a.bV=3\/(kD b a).bV=a.bV):=by
 by_cases d:a.bV=3
 .refine⟨?_,Or.inl d⟩;have h:=e d;revert h;unfold kD;rw[ae (by simpa using d)];cases a.ao.getLast? with
  |none=>exactλh=>by simp only[]at h;omega
  |some c=>
   simp only[];split
   .exactλ_=>rfl
   .split
    .intro h;have:=(OH (a:=b) (s:=a) (b:=a.ao.dropLast) (f:=c) (x:=ez b c) (o:=bC c.ak c.aR (bT b (ez b c)))).bV;omega
    .exactλ_=>rfl
 .rw[pT d];exact⟨rfl,Or.inr rfl⟩
section
variable(h:cY b a)(i:a.bV=3)(f:(kD b a).bV=3)(g:a.ao=d++[c])
include h i f g
end
end
end
section
variable{m e a:E}{h:List bM}{d:Nat}
structure NZ(m:E)(hp:O)(h:List bM):Prop where
 len:hp.len=h.length
 iB:∀(k:Nat)(c:bM),h[k]? =some c->∃f,af m hp.D (hp.off+k*3)=some (vi c.aP)/\af m hp.D (hp.off+k*3+1)=some (vi c.j9)/\af m hp.D (hp.off+k*3+2)=some (O.v f)
def NZ.eB{b:O}(H:NZ m b h)(k:h≠[]->e[b.D]? =m[b.D]?):NZ e b h:=
 ⟨H.len,λl d c=>by
  let⟨f,g,i,j⟩:=H.iB l d c;have a:=k (λa=>by subst a;simp at c);exact⟨f,by rw[aJ a];exact g,by rw[aJ a];exact i,by rw[aJ a];exact j⟩⟩
def NZ.lt{a:O}(H:NZ m a h)(d:h≠[]):a.D<m.size:=by
 cases h with
 |nil=>exact absurd rfl d
 |cons c r=>
  obtain⟨f,b,_⟩:=H.iB 0 c rfl;exact mf b
def NZ.ext{a:O}(H:NZ m a h)(c:J m e):NZ e a h:=H.eB λb=>c.same _ (H.lt b)
def dK.ju{N:Nat}{g:Nat->Nat}{a:O}(H:dK N g m a h):NZ m a h:=
 ⟨H.len,λ_ _ e=>let⟨f,b,c,d,_⟩:=H.cg e;⟨f,b,c,d⟩⟩
structure ph(d:Nat)(m e:E):Prop where
 size:m.size<=e.size
 same:∀b,b<m.size->b≠d->e[b]? =m[b]?
def ph.az(d:Nat)(m:E):ph d m m:=⟨ad _,λ_ _ _=>rfl⟩
def ph.ext(h:ph d a m)(f:J m e):ph d a e:=⟨bH h.size f.size,λb c g=>by rw[f.same b (aO c h.size)];exact h.same b c g⟩
def ph.trans(h:ph d a m)(g:ph d m e):ph d a e:=⟨bH h.size g.size,λb c f=>by rw[g.same b (aO c h.size) f];exact h.same b c f⟩
def ph.ah(h:ph d a m)(o:Nat)(l:List Ce):ph d a (ah m d o l):=⟨by rw[aw];exact h.size,λb e c=>by rw[bd l m d o c];exact h.same b e c⟩
def ph.dv(h:ph d m e){l:List Nat}(c:∀b∈l,b<m.size/\b≠d):eG l m e:=λb a=>h.same b (c b a).1 (c b a).2
end
section
section
variable{m:E}{a:O}{h:List bM}
end
section
variable{a:cO}{s:St}
def Xa{k:Int}(h:(xU a s k).ok=true):(cY a s/\0<=k/\k<=100000)/\xU a s k=⟨aD a k.toNat s,true⟩:=by
 have b:cY a s/\0<=k/\k<=100000:=by
  apply dQ;intro c;rw[xU,ae c]at h;simp at h
 exact⟨b,an b⟩
def UZ(h:(xU a s 1).ok=true):cY a s/\xU a s 1=⟨kD a s,true⟩:=let⟨b,e⟩:=Xa h;⟨b.1,e⟩
end
section
variable{a:E}
def Ai{dq:O}(h:I8 a dq):aN cp 12 [O.v dq] a λv u=>AR [] v u/\J a u:=by
 apply va;simp -zeta only[aC,aB];intro d c;let⟨e,g⟩:=dD (a:=d) (c:=c) rfl rfl;have P:d.size=a.size+1:=by simp[d]
 clear_value c;refine(IA (m:=c) ⟨h.1,λk i=>let⟨v,f,b,l⟩:=h.2 k i;⟨v,f,b,e.af l⟩⟩).mono λ_ M⟨H,j,y,p⟩=>⟨p.dv g,(c.size,0),j,?_⟩;have L:=y.lt;have I:=g a.size aL;have K:=g d.size aL;refine(Gj (a:=[d.size,a.size,c.size]) bE aL y (by simp[Cg])).mono λ_ i⟨⟨q,x,E,aT,t,r,G,j,s,D,C⟩,k,_⟩=>?_;refine⟨k.dv λb f=>by have:=g b f;simp only[lG];omega,q,x,_,_,_,_,aT,t,r,j,?_⟩;intro N w;have Q:=k.size;have F:∀{b o:Nat}{v:Value},af (bG [d.size,a.size,c.size] i) b o=some v->af (bG [] w) b o=some v:=λh=>by
  let⟨A,B⟩:=eQ.1 h;simp at A;refine eQ.2 ⟨aL,?_⟩;rw[aJ ((bd _ _ _ _ V).trans (bd _ _ _ _ V))];exact B
 have n:Le (bG [d.size,a.size,c.size] i) (bG [] w):=λb o v h=>F h;refine⟨⟨q,x,E,aT,t,r,G,rfl,⟨s.bo.le n,iH.le n s.cF⟩,gE.le D n,C⟩,?_⟩;have z:Fz [c.size] c i:=(p.fz _).trans k;have l:J a i:=⟨by have:=e.size;have:=p.size;omega,λb f=>(z.same b (e.lt f) (by have:=e.size;simp;omega)).trans (e.same b f)⟩;exact(l.ah V _ _).ah V _ _
end
end
section
section
open Tryz
variable{m:E}{R:Value->E->Prop}
def tj(a:O):=cX m R A0 [a] func6
end
section
variable{m:E}
def vS{dq:O}(h:I8 m dq):aN cp 6 [O.v dq] m (LwR m):=by
 apply tj;simp(config:={maxSteps:=1000000}) -zeta only[aC,aB];refine⟨λ_=>⟨rfl,J.az _⟩,λ_=>?_⟩;refine(Ai h).mono λ_ g⟨⟨K,P,c,aT,hp,fr,d,e,L,hs,C,ho⟩,z⟩=>⟨K,P,_,_,_,_,aT,hp,fr,e,?_⟩;have M:fw g K P c:=⟨L.bo.le (bA _ _),iH.le (bA _ _) L.cF⟩;have F:=hs.le (bA _ _);intro j a2 a3 a4;have z1:j.size=g.size+1:=by simp[j]
 have G:J g a4:=(((J.push g _).trans (J.push j _)).ah (ad _) _ _).ah V _ _;have z4:a4.size=g.size+2:=by simp[a4,a3,a2,j,aw]
 clear_value a4;have Q:=PV C V 1 (h:=c);refine(FF (M.ext G) (F.ext G) C V).mono λ_ k⟨ac,o5,h5,f5,e,r⟩=>⟨r.bs.cy.dv bE,_,_,_,_,o5,h5,f5,_,e,?_⟩;have R:=r.bs.cy;have n:=r.Ec Q;have u5:=R.size;intro U v;have S:J k v:=(J.push k _).ah (ad _) _ _;have z7:v.size=k.size+1:=by simp[v,U,aw]
 clear_value v;have B:=(G.trans R).trans S;refine(Gh (M.ext B) (F.ext B) C V).mono λ_ p⟨ae,o8,h8,f8,e,t⟩=>⟨t.bs.cy.dv bE,_,_,_,_,o8,h8,f8,_,e,?_⟩;have H:=t.bs.cy;have u:=t.Ec Q;have u8:=H.size;intro X i;have q:J p i:=(J.push p _).ah (ad _) _ _;have z0:i.size=p.size+1:=by simp[i,X,aw]
 clear_value i;have A:J k i:=(S.trans H).trans q;clear r t;have D:∀b∈[p.size,k.size,j.size,g.size],b<i.size:=bE;refine(lR (n.ext A) (u.ext q)).aH (J.az _) D λb w f a _=>⟨b,rfl,?_⟩;obtain rfl:=f.2 rfl;have o:=((B.trans H).trans q).trans a;refine⟨sx,λ_=>⟨sx,λ_=>⟨λE=>(lR (n.ext (A.trans a)) (u.ext (q.trans a))).aH a D λb N f l _=>⟨b,rfl,λ_=>⟨aL,(z.trans o).trans l⟩,λh=>by rw[f.2 rfl]at h;simp at h⟩,λhy=>?_⟩⟩⟩;let⟨ok,T⟩:=UZ (a:=c) (s:=d) (by simpa using hy);have I:(xU c d 1).s=kD c d:=nU Y5.s T;rw[I]at n u;try rw[I]
 refine⟨λh1=>⟨λh2=>⟨λh3=>?_,λh3=>?_⟩,λh2=>?_⟩,λh1=>?_⟩
 .exact(lR (n.ext (A.trans a)) (u.ext (q.trans a))).aH a D λb N f l _=>⟨b,rfl,λ_=>⟨aL,(z.trans o).trans l⟩,λh=>by rw[f.2 rfl]at h;simp at h⟩
 all_goals
  have ab:d.bV=3->(kD c d).bV=1\/(kD c d).bV=2:=by simp at*;omega
  let⟨Y,Z⟩:=Sv ab
  intro b1 b2 b3
  have x:J w b3:=((J.push w _).ah (ad _) _ _).ah (ad _) _ _
  have y3:b3.size=w.size+1:=by simp[b3,b2,b1,aw]
  clear_value b3
  have uA:=a.size
  have aa:∀b∈[w.size,p.size,k.size,j.size,g.size],b<b3.size:=bE
  have W:=F.ext (o.trans x)
  refine(lR (y:={d with bV:=(kD c d).bV}) (n.ext (A.trans (a.trans x))) ⟨W.aT,W.heap,W.ao⟩).aH (J.az _) aa λb N f l _=>⟨b,rfl,λ_=>⟨λ_=>⟨rfl,((z.trans o).trans x).trans l⟩,λh4=>⟨nU vb ?_,((z.trans o).trans x).trans l⟩⟩,λE=>by rw[f.2 Y]at E;simp at E⟩
  rcases Z with e|e
  .simp[e]at h4
  .simp[e]
end
end
end Go.Proofs.YtkoifinbblcbiaaGreat
section
namespace Go.Vc
variable{t:TypeId}{a:Addr}
open Go.ChangeShapes Go.WideShapes Go.RowKit
section
variable{H:Type}{b:TypeId×Value->H}{P:Program}{w:World}
def SX(b:TypeId×Value->H)(P:Program)(w:World)(t:TypeId)(Q:List Ce->Prop):Prop:=
 ∀(n:Nat)(a:List Value)(x:DataW H×List MemPlace),DataW.trod b P w 0 (λ_=>true) true n t a=some x->∃c,a=c.map Ce.v/\Q c
def SX.mono{Q Q':List Ce->Prop}(h:SX b P w t Q)(f:∀a,Q a->Q' a):SX b P w t Q':=λn a x g=>
 let⟨c,d,e⟩:=h n a x g
 ⟨c,d,f _ e⟩
def R9{v:Value}(h:w.cell? a=some v):a.spot=none:=by
 unfold World.cell? at h;split at h
 .split at h
  .cases h
  .rename_i b;simpa using b
 .cases h
def R1(h:a.spot=none)(i:Nat):a.add i=⟨a.block,a.off+i,none⟩:=by
 obtain⟨c,o,s⟩:=a;simp only at h;subst h;unfold Addr.add;by_cases b:i=0
 .subst b;simp
 .simp[b]
end
section
variable{H:Type}{b:TypeId×Value->H}{P:Program}
def DA(l:laidOutB P=true){W j:World}(k:Below W.heap.size W j):∀{f:List TypeId}{i:List Value}{g:List (DataW H)}{d:List MemPlace},
 (f.all λt=>P.readableRec t&&decide (t<P.types.size))=true->DataW.TrodAll b P W 0 (λ_=>true) true f i g d->(∀x∈d,x.block<W.heap.size)->∀e:Nat->Bool,(∀p∈d,e p.block=true)->
 DataW.TrodAll b P j 0 e true f i g d
 |[],_,_,_,_,h,_,_,_=>by
  obtain⟨rfl,rfl,rfl⟩:=trodAll_nil h;exact trodAll_mk0
 |t::f,_,_,_,c,h,m,e,n=>by
  obtain⟨v,i,s,g,p,r,rfl,rfl,rfl,o,q⟩:=trodAll_cons h;simp only[NV,bK,ar]at c;exact⟨p,r,WideElems.Trod_stays l c.1.1 c.1.2 o (λx a=>k.same (m x (by simp[a]))) (λx a=>n x (by simp[a])),DA l k (by simpa using c.2) q (λx a=>m x (by simp[a])) e (λx a=>n x (by simp[a])),rfl⟩
def MJ{f:Func}{s:ChangeSpec}{W g:World}{i:Array Value}{d:List (DataW H)}{o:List MemPlace}
 (J:laidOutB P=true)(L:(f.params.toList.all λt=>P.readableRec t&&decide (t<P.types.size))=true)(z:f.resultTypes=#[t])(v:P.underlying t=some .bool)(B:s.vars=[])
 (j:DataW.Whole b P f.params.toList s.vars false W i.toList d [] o)(F:(s.fn H (d++[])).args=d)(G:(s.fn H (d++[])).results=[.lit (.bool true)])(I:(s.fn H (d++[])).vars=[])
 (k:Below W.heap.size W g):s.post b P f false true false false W i (.bool true) g:=by
 have h:∀a∈o,a.block<W.heap.size:=λa l=>by simpa using j.lt a l
 have r:=j
 obtain⟨a,N,E,q,rfl,C,M⟩:=j
 rw[B]at q
 obtain⟨_,rfl⟩:=trodVars_none q
 simp only[dY]at h C r
 have u:∀c:Nat->Bool,(∀x∈a,c x.block=true)->DataW.TrodAll b P g 0 c true f.params.toList i.toList (s.fn H (d++[])).args a:=λc K=>by
  rw[F];exact DA J k L E h c K
 have A:∀c:Nat->Bool,DataW.TrodVars b P g c s.vars (s.fn H (d++[])).vars []:=λc=>by rw[B,I];rfl
 have y:∀(e:Nat)(c:Nat->Bool)(hd:Bool),DataW.TrodAll b P g e c hd f.resultTypes.toList ((Value.bool true).resultList f.resultTypes.size) (s.fn H (d++[])).results []:=λe c hd=>by
  rw[G,z];exact trodAll_cons_mk (shut_bool v _) trodAll_mk0
 refine⟨d,[],a,[],a,[],r,y _ _ _,u _ (λx m=>by simpa using h x m),A _,k.frame _,λ_=>?_⟩
 refine⟨ok_one z rfl (okWide_bool_mk v _),_,_,([]++a)++[],⟨[]++a,[],trodAll_append (u _ (λ_ _=>rfl)) (y _ _ _),A _,rfl,?_,λD=>by cases D⟩,?_⟩
 .intro e n l
  have w:MemPlace.cell e n∈a:=by simpa using l
  rw[k.frozen (p:=⟨e,n,none⟩) (h _ w)]
  exact C e n w
 .intro x m _
  simpa using m
end
end Go.Vc
end
section
namespace Go.Proofs.YtkoifinbblcbiaaGreat
open Go.Vc Go.ChangeShapes
def Sp{H:Type}{x:TypeId×Value->H}{P:Program}{w:World}{t e r:Nat}{v:Value}{u:DataW H}{I:List MemPlace}(p:P.underlying t=some (.slice e))(B:P.underlying e=some (.int .u8))(A:P.cellsOf e=1)
 (E:Value.okWide P w .any r t v)(y:DataW.Trod x P w 0 (λ_=>true) true t v u I):∃s,v=O.v s/\I8 w.heap s:=by
 obtain⟨J,q,h,rfl⟩:=Go.WideShapes.okWide_slice p E
 obtain⟨L,C⟩:=y
 rcases open_ints p B A C with⟨b,_⟩|⟨d,N,K,g,b,_,D,M,G,_,l,F⟩
 .simp[Value.cells]at b
  obtain⟨rfl,rfl,rfl⟩:=b
  exact⟨.nil,rfl,ad _,λk a=>by simp at a⟩
 .simp[Value.cells]at b
  obtain⟨rfl,rfl,rfl⟩:=b
  simp only[Mp]at G
  rcases jY h with i|i
  .subst i
   have:q=0:=V
   subst this
   obtain⟨c,o,s⟩:=d
   cases s with
   |none=>exact⟨.mk c o 0 0,rfl,ad _,λk a=>by simp at a⟩
   |some f=>exact⟨.zC c o f,rfl,ad _,λk a=>by simp at a⟩
  .have z:=l 0 V
   have n:d.spot=none:=by
    have:=R9 z;simpa[Addr.add]using this
   obtain⟨c,o,s⟩:=d
   simp only at n
   subst n
   refine⟨.mk c o q h,rfl,D,λk a=>?_⟩
   simp only[O.gF]at a
   have m:k<g.length:=V
   have j:=l k m
   have f:=F (g.getD k 0) (by rw[fS,List.getElem?_eq_getElem m];simp)
   rw[Lit.wf,bK,ar,ar]at f
   refine⟨g.getD k 0,f.1,f.2,?_⟩
   .rw[R1 rfl,zy]at j
    simpa using j
end Go.Proofs.YtkoifinbblcbiaaGreat
end
