/- Part of a proof. -/
import Derived.Carry
import Derived.ChangeSame
import Derived.ChangeSlices
import Derived.Deep.Slices
import Derived.OpenShut
import Derived.RowKit
import Derived.WideShapes
import Derived.Test.YtkoifinbblcbiaaGreatSB00
import Derived.Test.YtkoifinbblcbiaaGreatSB02
import Derived.Test.YtkoifinbblcbiaaGreatSB03
import Derived.Test.YtkoifinbblcbiaaGreatSB04
import Derived.Test.YtkoifinbblcbiaaGreatSB05
set_option linter.all false
set_option maxHeartbeats 8000000
set_option maxRecDepth 100000
namespace Go.Proofs.YtkoifinbblcbiaaGreat
open Go.Vc
section
variable{M:E}
def R9{k b:Nat}(a:b<k)(h:k<=M.size):(M.extract 0 k)[b]? =M[b]? :=((J.MV h).same b (by rw[mC h];exact a)).symm
def pE.old{mx M':E}{f:Nat->Nat}{aT c a:O}{s:St}(h:pE mx f M aT c a s)(d:M.size<=M'.size)(g:∀b,mx.size<=b->b<M.size->M'[b]? =M[b]?):pE (M'.extract 0 mx.size) f M' aT c a s:=
 have e:=bI h.bs.cz.size d
 h.Rc (by rw[mC e];exact ad _) d g (J.MV e)
def vJ.old{a M M':E}{i:Nat->Nat}{c e:Nat}{d:List Ce}{aT h f:O}{s:St}(L:vJ a i M c e d aT h f s.aT s.heap s.an)(j:a.size<=c)(k:M.size<=M'.size)(g:∀b,a.size<=b->b<M.size->M'[b]? =M[b]?):vJ (M'.extract 0 a.size) i M' c e d aT h f s.aT s.heap s.an:=
 have N:=pE.old (s:=s) ⟨⟨L.cz,L.jZ,L.new⟩,L.aT,L.heap,L.an⟩ k g
 ⟨N.bs.cz,N.bs.jZ,N.bs.new,L.box.congr (g _ j L.box.lt),L.QC,N.aT,N.heap,N.an⟩
def Xp{Y:List Nat}{m:E}(f:Fz Y m M):Le (bH Y m) (M.extract 0 m.size):=λc o v e=>by
 let⟨d,a⟩:=eR.1 e;have b:=mz a;rw[aH ((R9 b f.size).trans (f.same c b d))];exact a
def GSt(f:cU)(d:Nat)(e:O)(m:E)(P:Nat)(v:Value)(a:E):Prop:=∃n g aT c b s,v=Nm s aT c b/\pE (a.extract 0 n) g a aT c b s/\m.size<=n/\n<=a.size/\cX f s/\Sm 100000 s/\Rd d e P a/\Fz [d] m a
section
variable{f:List Nat}{a:E}{b P:Nat}{e d p:O}{c:cU}
def ID(H:Rd b e P a)(hP:P+100<=10^16)(hd:cy (bH [b] a) d c.bq)(hp:iz (bH [b] a) p c.cE)(K:nE c):aN cp 55 [vp b 0,.agg #[O.v d,O.v p]] a (GSt c b e a (P+6)):=by
 apply AZ (b,0);simp -zeta only[aC,aB];have hr:=H.lt;intro l t;let⟨x2,r⟩:=dF (a:=l) (c:=t) rfl rfl;have s1:l.size=a.size+1:=by simp[l]
 have B2:cJ t a.size vB [.s d,.s p]:=(cJ.push a _ _).ext (J.push l _);clear_value t;have r2:Rs b e a P t:=⟨x2.fz _,H.ext x2⟩;intro N;have x3:J t N:=J.push _ _;have G3:∀o,af N a.size o=af t a.size o:=λo=>aH (x3.same _ B2.lt) o;refine⟨G3 _,G3 _,G3 _,G3 _,?_⟩;refine(Am r2 V [40,40,12,3,0,20] rfl rfl aL).mono λ_ j⟨dX,h,aE,r4,w⟩=>?_;have z3:=x3.size;have z2:=x2.size;have w:Fz [b] N j:=w;have z4:=w.size;have aY:=r l.size aL;have Z:0<=dX/\dX<=40:=by simp at aE;omega
 have A:∀o,af j a.size o=af N a.size o:=λo=>aH (w.same _ V bF) o;refine⟨w.dy λf g=>by have:=r f g;simp at g⊢;omega,dX,h,A _,A _,A _,A _,?_⟩;have aG:∀{M:E},Fz [b] a M->fC M d p c:=λG=>have aq:=(G.dh (S:=[b]) aL).trans (bC _ _);⟨hd.le aq,iz.le aq hp⟩;refine(Fa (aG r4.f) K dX).mono ?_;rintro _ u ⟨aT,aF,fr,rfl,x,b1,b2,b3,b4,aZ,q1,q2,q3,q4,q5,au,q6,k4⟩;have z5:=x.size;have G5:∀o,af u a.size o=af j a.size o:=λo=>aH (x.same _ V) o;refine⟨x.dy λf g=>oh (r f g),_,_,_,_,_,_,_,rfl,G5 _,G5 _,?_⟩;intro n;have x6:J u n:=J.push _ _;have kb:cJ n u.size bK (SB d p (me c dX) aT aF fr):=cJ.push u _ _;have L6:=Um (m:=j) (MV:=[.s d,.s p]) ⟨q1,q2,q3,q4,q5⟩ au q6 k4 x6 (ad _) kb;have s6:n.size=u.size+1:=by simp[n]
 clear_value n;have r6:=(r4.ext x).ext x6;have L:∀{M:E},n.size<=M.size->Lw b [u.size,l.size,a.size] M:=λaX=>lw hr bF;refine(cq r6.r V 60).mono λ_ m7⟨B,h,aO,aP,d7,U⟩=>⟨(L (ad _)).dy U,B,h,?_⟩;have z7:=U.size;refine(cq d7 V 200).mono λ_ m8⟨C,h,aQ,aR,d8,W⟩=>⟨(L z7).dy W,C,h,?_⟩;have z8:=W.size;refine(cq d8 V 20).mono λ_ m9⟨D,h,aS,aU,d9,X⟩=>⟨(L V).dy X,D,h,?_⟩;have z9:=X.size;refine(cq d9 V 100).mono λ_ aa⟨F,h,aV,aW,ax,Q⟩=>⟨(L V).dy Q,F,h,?_⟩;have vH:=Q.size;have ai:=((U.trans W).trans X).trans Q;have ae:=J.push aa (.cells (bu [.i B,.i C,.i D,.i 100000,.i 0,.i F]) aA);have a2:=ae.size;refine(Am (r6.to ai ax) V [B,C,D,100000,0,F] rfl rfl aL).mono λ_ y⟨ab,h,aj,am,v⟩=>?_;have v:Fz [b] (aa.push (.cells (bu [.i B,.i C,.i D,.i 100000,.i 0,.i F]) aA)) y:=v;refine⟨(L (bI (by omega:n.size<=aa.size) ae.size)).dy v,ab,h,?_⟩;have a3:=v.size;obtain⟨q,rfl⟩:∃q:Nat,ab=q:=⟨ab.toNat,by simp at aj;omega⟩;have hn:q<=100000:=by simp at aj;omega
 have T:=(ai.trans (ae.fz _)).trans v;have ah:=L6.old (s:=me c dX) (M':=y) V T.size λf h1 h2=>T.same f h2 bF;have e0:(y.extract 0 j.size).size=j.size:=mC V;have w4:Le (bH [b] a) (y.extract 0 j.size):=(r4.f.dh aL).trans (Xp (((x.trans x6).fz [b]).trans T));refine(Qj (s:=me c dX) ah ⟨hd.le w4,iz.le w4 hp⟩ (Mk K Z) (Ql c dX) q hn V).mono ?_;rintro _ z ⟨⟨nn,rfl⟩,a1,aI,az,ay,i,ap⟩;have ak:=wP q (Mk K Z);have I:=wQ q (Mk K Z) (Ql c dX) V;have al:=ak.ju I V;generalize aD c q (me c dX)=st at*;have a4:=ap.size;have ao:∀f,f<j.size->z[f]? =y[f]? :=λf g=>(i.cz.same f V).trans (R9 g V);have aJ:Rs b e a (P+6) z:=by
  have G:Fz [b] a z:=⟨V,λf g hn=>(ao f V).trans (am.f.same f g hn)⟩;exact⟨G,(H.MQ am.r G (ao b V)).mono V⟩
 refine⟨ap.dK λf g=>⟨by have:=r f g;omega,ah.jZ f (oh (r f g))⟩,nn,rfl,_,i.box.cg 2,_,i.box.cg 3,_,i.box.cg 4,_,i.box.cg 5,aI,i.box.cg 6,az,i.box.cg 7,ay,i.box.cg 8,(p7 (Bs.yO z) (λ_=>dP _) (i.Eo al) al).mono ?_⟩;rintro _ a0 ⟨aK,ac,Y,R,rfl,av,ar⟩;have ag:=ar.va;have aM:=ag.size;refine⟨ag.dy λf g=>oh (r f g),_,_,_,_,ac,Y,R,rfl,?_⟩;have an:=(aJ.ext ag).put H (k:=l.size) V 0 [.i st.cx,.i st.value,.i st.bz,.i st.dX,.s ac,.s Y,.s R];exact⟨z.size,aK,ac,Y,R,st,rfl,av.old (ue (aw _ _ _ _).symm) λf g _=>bd _ _ _ _ V,V,by rw[aw];exact aM,ak,⟨by have:=I.heap;omega,oh I.aT,I.uG⟩,an.r,an.f⟩
end
end
section
variable{q:O}
def cX.Yw{q:cU}{s:St}{n:Nat}(h:cX q s)(c:Sm n s)(x:n<=10000000):zC s:=by
 have l:=h.ju c V;have i:=h.bz;have v:=h.dX;have u:=c.heap;have C:=Oy h;have t:=l.depth;refine⟨⟨V,V⟩,λd i w a=>?_,λf b=>?_,V,V,λf b=>oh (l.an f b)⟩
 .have k:=h.heap.cell d i;rcases Ji d.aQ 1 with e|e
  .have:=(k.wY e).2.1 w a;exact⟨V,V⟩
  .rcases(k.oZ V).1 w a with e|⟨e,j,g,_⟩
   .exact⟨by have:=e.1;omega,oh e.2⟩
   .have:=av g;have:=iu e;exact⟨V,V⟩
 .let⟨k,o⟩:=List.mem_iff_getElem?.1 b;have F:=C.an k f o;refine⟨λw a=>⟨?_,c.uG f b w a⟩,λr p=>?_,λw a=>?_⟩
  .rcases(h.an f b).Sb w a with e|e
   .have:=e.1;omega
   .omega
  .let⟨m,j⟩:=List.mem_iff_getElem?.1 p;have:=F.lr;have:=F.lo;have:=av j;let⟨w,a⟩:=cK f.ak m;have:=(F.ak.dB m w r a j).2.1;exact⟨V,V⟩
  .rcases C.aZ.cO f b w a with e|⟨e,g⟩
   .exact⟨V,V⟩
   .have:=iu e;exact⟨V,V⟩
structure Mv(n:Nat)(ro:Nat->Nat)(M:E)(ro':Nat->Nat)(M':E):Prop where
 size:M.size<=M'.size
 eC:∀b,b<M.size->n<=b->M'[b]? =M[b]?
 gZ:∀b,b<M.size->ro' b=ro b
 new:∀b,M'.size<=b->ro' b=0
 jZ:∀b,b<n->ro b=0
section
variable{n:Nat}{a d:Nat->Nat}{M b:E}
def iP.mv{e f k:Nat}{s:O}{l:List Ce}(h:iP a M e f k s l)(v:Mv n a M d b)(g:k≠0):iP d b e f k s l:=
 h.eC (λc=>v.eC _ (h.D c).1 (Hx λe=>g (by rw[<-(h.D c).2];exact v.jZ _ e))) λc=>v.gZ _ (h.D c).1
def dN.mv{i:O}{h:List bN}(q:dN n a M i h)(v:Mv n a M d b):dN n d b i h:=by
 let⟨l,j,a2,a3⟩:=q;refine⟨l,j.mv v bh,a2.mono λs r⟨o,m,f,g⟩=>⟨o,m,iX f λc=>v.eC _ (iO f c) (g c).2.1,λc=>?_⟩,a3⟩;let⟨g1,g2,k,tail,p,e⟩:=g c;exact⟨(v.gZ _ e.lt).trans g1,g2,k,tail,p,e.congr (v.eC _ e.lt g2)⟩
def Th.mv{i:Nat}{c:List Ce}{f:aX}(v:Mv n a M d b):Th a M i c f->Th d b i c f:=λ⟨r,o,k,j,e,g,h⟩=>⟨r,o,k,j,e.mv v V,g.mv v V,h.mv v V⟩
def th.mv{e:O}{g:List aX}{f:aX}{r o h:O}{c:List (List Ce)}(T:th a M e g f r o h c)(v:Mv n a M d b):th d b e g f r o h c:=
 ⟨T.qv.mv v bh,T.len,T.size,λm i j k l=>(T.dB m i j k l).mv v,T.ak.mv v V,T.aR.mv v V,T.aZ.mv v V⟩
def nR.mv{c:O}{e:List aX}(l:nR a M c e)(v:Mv n a M d b):nR d b c e:=by
 let⟨g,h⟩:=l;exact⟨g,h.qv.mv v bh,h.len,h.size,λm f i j k=>(h.dB m f i j k).mv v⟩
def th.put{d:O}{b:List aX}{f g:aX}{s o p n m j:O}{h:List (List Ce)}(T:th a M d b f s o p h)(v:∀e,M.size<=e->a e=0){i:Nat}(w:i<6){c:Ce}
 (u:jm [.i f.fw,.i f.pc,.i f.dst,.s s,.s o,.s p] i [c]=[.i g.fw,.i g.pc,.i g.dst,.s n,.s m,.s j])(t:iP a M aA 1 (10+3*b.length) n (g.ak.map Ce.i))(q:iP a M aA 1 (11+3*b.length) m (g.aR.map Ce.i))(r:iP a M aA 1 (12+3*b.length) j (g.aZ.map Ce.i)):
 fL M d.D (d.off+b.length*6+i) 1/\th a (ah M d.D (d.off+b.length*6+i) [c]) d b g n m j h/\dq (λk=>4<=k/\k≠9) a M a (ah M d.D (d.off+b.length*6+i) [c]):=by
 have e:dq (λk=>k=4) a M a (ah M d.D (d.off+b.length*6+i) [c]):=dq.ah v T.D.1 _ _
 have l:h.flatten.length=b.length*6:=by rw[cw T.size,T.len]
 refine⟨by rw[dk];exact T.qv.wr (by simp only[be,l,ba,eX];omega),⟨?_,T.len,T.size,T.yl e λk q r=>V,t.eJ e V,q.eJ e V,r.eJ e V⟩,e.mono λk x=>V⟩
 have:=T.qv.set (o:=b.length*6+i) (new:=[c]) (by simp[l];omega)
 rw[lP _ _ _ _ V,l,Hw,u]at this
 rw[dk];exact this
end
structure SO(n:Nat)(ro:Nat->Nat)(M:E)(aT hp fr:O)(s:St):Prop where
 le:n<=M.size
 jZ:∀b,b<n->ro b=0
 new:∀b,M.size<=b->ro b=0
 aT:iP ro M aA 1 2 aT (s.aT.map Ce.i)
 heap:dN n ro M hp s.heap
 an:nR ro M fr s.an
structure FS(s:St):Prop where
 uG:zC s
 ju:zI s
 lo:s.aT.length<=1000000/\s.heap.length<=1000000
section
variable{n:Nat}{a e:Nat->Nat}{M b:E}{aT d c:O}{s:St}
def SO.of(N:pE (M.extract 0 n) a M aT d c s)(h:n<=M.size):SO n a M aT d c s:=⟨h,λb e=>N.bs.jZ b (by rw[mC h];exact e),N.bs.new,N.aT,by have:=N.heap;rwa[mC h]at this,N.an⟩
def SO.mv(w:SO n a M aT d c s)(v:Mv n a M e b):SO n e b aT d c s:=⟨bI w.le v.size,λf g=>(v.gZ f (aO g w.le)).trans (w.jZ f g),v.new,w.aT.mv v bh,w.heap.mv v,w.an.mv v⟩
def SO.mvF(w:SO n a M aT d c s){h:Nat}(f:Fz [h] M b)(j:h<n):Mv n a M a b:=⟨f.size,λe g i=>f.same e g bF,λ_ _=>rfl,λe g=>w.new e (bI f.size g),w.jZ⟩
def SO.eJ{p:Nat->Prop}(w:SO n a M aT d c s)(C:dq p a M e b):n<=b.size/\(∀f,f<n->e f=0)/\∀f,b.size<=f->e f=0:=⟨bI w.le C.size,λf g=>(C.gZ f (aO g w.le)).trans (w.jZ f g),C.new⟩
def SO.box(w:SO n a M aT d c s){b:Nat}(g:a b=1)(o:Nat)(l:List Ce):SO n a (ah M b o l) aT d c s:=by
 have C:dq (λk=>k=1) a M a (ah M b o l):=dq.ah w.new g _ _;let⟨e,b,f⟩:=w.eJ C;exact⟨e,b,f,w.aT.eJ C bh,w.heap.eJ C bh bh,w.an.eJ C λk h=>V⟩
def SO.Io(w:SO n a M aT d c s)(C:dq (λk=>k=2) a M e b){l:List Int}(A:iP e b aA 1 2 q (l.map Ce.i)):SO n e b q d c {s with aT:=l}:=
 let⟨f,g,h⟩:=w.eJ C
 ⟨f,g,h,A,w.heap.eJ C bh bh,w.an.eJ C λk i=>V⟩
def SO.gC(w:SO n a M aT d c s)(C:dq (λk=>k=3) a M e b){h:List bN}(A:dN n e b q h):SO n e b aT q c {s with heap:=h}:=
 let⟨f,g,i⟩:=w.eJ C
 ⟨f,g,i,w.aT.eJ C bh,A,w.an.eJ C λk j=>V⟩
def SO.jR(w:SO n a M aT d c s)(C:dq (λk=>4<=k/\k≠9) a M e b){l:List aX}(A:nR e b q l):SO n e b aT d q {s with an:=l}:=
 let⟨f,g,h⟩:=w.eJ C
 ⟨f,g,h,w.aT.eJ C bh,w.heap.eJ C bh bh,A⟩
def SO.Eo(w:SO n a M aT d c s)(h:zI s):gH M aT d c s:=⟨w.aT.nV (oh h.aT),w.heap.cells (oh h.heap),w.an.Eo (oh h.depth) h.an⟩
end
end
section
variable{K:Int->E->Prop}{p:Nat->Prop}
def SP(n h:Nat)(f:O)(g:E)(P:Nat)(v:Value)(a:E):Prop:=∃aT e d s,v=Nm s aT e d/\(∀c,a.size<=c.size->(∀b,b<a.size->n<=b->c[b]? =a[b]?)->gH c aT e d s)/\zC s/\(s.aT.length<=1000000/\s.heap.length<=1000000)/\Rs h f g P a
structure SQ(n rb:Nat)(bs:O)(ma:E)(k1 k2 Q:Nat)(ro:Nat->Nat)(M:E)(aT hp fr:O)(s:St):Prop where
 w:SO n ro M aT hp fr s
 r:Rs rb bs ma Q M
 k1:ro k1=1/\k1<M.size/\n<=k1
 k2:ro k2=1/\k2<M.size/\n<=k2
 fs:FS s
section
variable{n b m q Q w P t:Nat}{j aT h f:O}{e M d:E}{r u:Nat->Nat}{s v:St}{L:List Nat}
def SQ.fz(a:SQ n b j e m q Q r M aT h f s)(g:b<n)(c:Fz [b] M d)(i:Rs b j e w d):SQ n b j e m q w r d aT h f s:=
 ⟨a.w.mv (a.w.mvF c g),i,⟨a.k1.1,aO a.k1.2.1 c.size,a.k1.2.2⟩,⟨a.k2.1,aO a.k2.2.1 c.size,a.k2.2.2⟩,a.fs⟩
def SQ.ext(a:SQ n b j e m q Q r M aT h f s)(c:b<n)(x:J M d):SQ n b j e m q Q r d aT h f s:=a.fz c (x.fz _) (a.r.ext x)
def SQ.gL(c:SQ n b j e m q Q r M aT h f s)(o:b<n)(k:∀a∈L,a=m\/a=q)(i:Fz [b] M d):eH L M d:=i.dy λa l=>by
 have:=c.k1;have:=c.k2;rcases k a l with g|g<;>simp only[lS]<;>omega
def SQ.gk(a:SQ n b j e m q Q r M aT h f s)(g:b<n)(c:Fz [b] M d)(o:Nat):af d q o=af M q o:=aH (c.same _ a.k2.2.1 (by have:=a.k2;simp only[lS];omega)) o
def SQ.done(a:SQ n b j e m q Q r M aT h f s)(v:Rd b j t e)(C:e.size<=n)(x:Q<=P){o c g p:Int}(A:zD g)(l:List Ce):SP n b j e P (.agg #[vi o,vi c,vi g,vi p,O.v aT,O.v h,O.v f]) (ah M m 0 l):=by
 have w:=a.w.box a.k1.1 0 l;have u:=a.r.put v (k:=m) (oh a.k1) 0 l;exact⟨aT,h,f,⟨o,c,g,p,s.aT,s.heap,s.an⟩,rfl,λd z B=>have i:=(w.mv ⟨z,B,λ_ _=>rfl,λc y=>w.new c (bI z y),w.jZ⟩).Eo a.fs.ju;⟨i.aT,i.heap,i.an⟩,⟨A,a.fs.uG.heap,a.fs.uG.an,a.fs.uG.lh,a.fs.uG.lf,a.fs.uG.lr⟩,a.fs.lo,u.f,u.r.mono x⟩
def SQ.box(a:SQ n b j e m q Q r M aT h f s)(c:Rd b j t e)(d:e.size<=n)(o:Nat)(l:List Ce):SQ n b j e m q Q r (ah M q o l) aT h f s:=
 ⟨a.w.box a.k2.1 o l,a.r.put c (oh a.k2) o l,by rw[aw];exact a.k1,by rw[aw];exact a.k2,a.fs⟩
def SQ.lX(l:SQ n b j e m q Q r M aT h f s)(g:b<n)(u:Q<=10^16)(p:∀a∈L,a=m\/a=q)(a:List Int){c:List Ce}{i:Nat}(w:c=a.map Ce.i)(v:i=a.length)(z:0<a.length/\a.length<=100)
 (y:∀t d,t∈a->SQ n b j e m q (Q+1) r d aT h f s->Fz [b] (M.push (.cells (bu c) aA)) d->K t d):aN cp 39 [vp b 0,O.v (.mk M.size 0 i i)] (M.push (.cells (bu c) aA)) λC d=>eH L (M.push (.cells (bu c) aA)) d/\∃t:Int,C=vi t/\K t d:=
 have x:=J.push M (.cells (bu c) aA)
 (Am l.r u a w v z).mono λ_ d⟨t,o,A,B,k⟩=>⟨(l.ext g x).gL g p k,t,o,y t d A ((l.ext g x).fz g k B) k⟩
def SQ.pick(c:SQ n b j e m q Q r M aT h f s)(i:b<n)(o:Q<=10^16)(l:∀a∈L,a=m\/a=q)(g:Int)
 (p:∀t d,0<=t->(t<g\/t=0)->SQ n b j e m q (Q+1) r d aT h f s->Fz [b] M d->K t d):aN cp 40 [vp b 0,vi g] M λw d=>eH L M d/\∃t:Int,w=vi t/\K t d:=
 (cq c.r.r o g).mono λ_ d⟨t,k,v,t1,u,a⟩=>⟨c.gL i l a,t,k,p t d v t1 (c.fz i a (c.r.to a u)) a⟩
def SQ.eJ(a:SQ n b j e m q Q r M aT h f s)(l:Rd b j t e)(E:e.size<=n)(C:dq p r M u d)(h:∀k,p k->2<=k){x o k:O}(B:SO n u d x o k v)(z:FS v):SQ n b j e m q Q u d x o k v:=
 have D:=l.lt
 have w:∀c,c<n->d[c]? =M[c]? :=λc g=>C.eC c (aO g a.w.le) λy=>by have:=h _ y;have:=a.w.jZ c g;omega
 have i:Fz [b] e d:=⟨bI a.r.f.size C.size,λc g A=>(w c V).trans (a.r.f.same c g A)⟩
 ⟨B,⟨i,l.MQ a.r.r i (w b V)⟩,⟨(C.gZ _ a.k1.2.1).trans a.k1.1,aO a.k1.2.1 C.size,a.k1.2.2⟩,⟨(C.gZ _ a.k2.2.1).trans a.k2.1,aO a.k2.2.1 C.size,a.k2.2.2⟩,z⟩
def SQ.dy(g:SQ n b j e m q Q r M aT h f s)(i:∀a∈L,a=m\/a=q)(C:dq p r M u d)(h:∀k,p k->2<=k):eH L M d:=λa k=>by
 have l:=g.k1;have a2:=g.k2;rcases i a k with c|c<;>subst c<;>exact C.eC _ V λc=>by have:=h _ c;omega
def SQ.fV(t:SQ n b j e m q Q r M aT h f s)(u:cT ((f.len:Int) -1)>=0):∃a g l o k d,s.an=a++[g]/\th r M f a g l o k d/\cT ((f.len:Int) -1)=(a.length:Int)/\f.len=a.length+1:=by
 have F:=t.w.an;have p:=t.fs.ju.depth;rcases List.eq_nil_or_concat s.an with c|⟨a,g,c⟩
 .rw[c]at F;let⟨d,i⟩:=F;have:=i.qv.len;rw[cw i.size,i.len]at this;simp only[eX]at this;rw[aP V V]at u;omega
 .rw[List.concat_eq_append]at c;rw[c]at F p;let⟨l,o,k,d,T⟩:=F.fV;have:=T.ye;simp at p;exact⟨a,g,l,o,k,d,c,T,by rw[aP V V];omega,this⟩
def FS.fV(h:FS s){d:List aX}{j g:aX}(i:s.an=d++[j])(k:So g)(l:g.ak.length<=1000000/\g.aR.length<=1000000/\g.aZ.length<=1000000):FS {s with an:=d++[g]}:=by
 have b:=h.uG;have c:=h.ju;have e:∀x∈d,x∈s.an:=λx a=>by rw[i];simp[a]
 have f:=c.depth;rw[i]at f;simp at f;refine⟨⟨b.bz,b.heap,λx a=>?_,b.lh,bF,λx a=>?_⟩,⟨c.aT,c.fl,c.heap,bF,λx a=>?_⟩,h.lo⟩<;>rcases List.mem_append.1 a with a|a
 .exact b.an x (e x a)
 .simp at a;rw[a];exact k
 .exact b.lr x (e x a)
 .simp at a;rw[a];omega
 .exact c.an x (e x a)
 .simp at a;rw[a];exact l
def SQ.tf(c:SQ n b j e m q Q r M aT h f s)(o:Rd b j t e)(p:e.size<=n){l:List aX}{z g:aX}(y:s.an=l++[z]){J H I:O}{w:List (List Ce)}(T:th r d f l g J H I w)(C:dq (λk=>4<=k/\k≠9) r M r d)(E:So g)(G:g.ak.length<=1000000/\g.aR.length<=1000000/\g.aZ.length<=1000000)
 (A:∀a∈L,a=m\/a=q)(B:Q<=P){v a i x:Int}(D:zD i)(u:List Ce):eH L M d/\SP n b j e P (.agg #[vi v,vi a,vi i,vi x,O.v aT,O.v h,O.v f]) (ah d m 0 u):=
 ⟨c.dy A C λk F=>V,(c.eJ o p C (λk F=>V) (c.w.jR C T.tf) (c.fs.fV y E G)).done o p B D u⟩
def He{im:cU}(I:Rd b j t e)(Q:e.size<=n)(aa:SO n r M aT h f s)(ae:Rs b j e P M)(hP:P+100<=10^16)(ok:cX im s)(hS:Sm 100000 s):aN cp 54 [vp b 0,Nm s aT h f] M (SP n b j e (P+6)):=by
 apply zj (b,0);simp(config:={maxSteps:=1000000}) -zeta only[aC,aB];have k:b<n:=by have:=I.lt;omega
 have le:=aa.le;intro S m2;have s1:S.size=M.size+1:=by simp[S]
 have s2:m2.size=M.size+2:=by simp[m2,s1]
 have x2:J M m2:=(J.push M _).trans (J.push S _);clear_value m2;clear_value S;have q2:SQ n b j e S.size M.size P (oG (oG r M.size 1) S.size 1) m2 aT h f s:=⟨aa.mv ⟨x2.size,λW hb _=>x2.same W hb,λW hb=>by rw[eW V,eW V],λW hb=>by rw[eW V,eW V];exact aa.new W V,aa.jZ⟩,ae.ext x2,⟨fJ _ _ _,V,V⟩,⟨by rw[eW V];exact fJ _ _ _,V,V⟩,⟨ok.Yw hS V,ok.ju hS V,oh hS.aT,oh hS.heap⟩⟩;generalize oG (oG r M.size 1) S.size 1=ro2 at q2;have D:∀W∈[S.size,M.size],W=S.size\/W=M.size:=aL;have hc:=q2.fs.uG.bz;have ay:=ok.dX;refine q2.pick k V D 30 λaz y _ _ m f3=>?_;have ai:SP n b j e (P+6) (.agg #[vi s.cx,vi s.value,vi s.bz,vi s.dX,O.v aT,O.v h,O.v f]) (ah y S.size 0 [.i s.cx,.i s.value,.i s.bz,.i s.dX,.s aT,.s h,.s f]):=m.done I Q V hc _;have Gk:∀p∈s.an,(1<=p.ak.length/\p.ak.length<=2000)/\p.aR.length<=2000/\1<=p.aZ.length:=λp hf=>by
  have hG:=ok.an p hf;obtain⟨pg,_,au,ao,_⟩:=hG.yg ok.fe;have R:=hG.lr;have W:=hG.lo;have X:=hG.lh;rw[au]at R W X;have:=ao.ak;omega
 have Kn:∀(R:O)(fb H:Nat)(ls:List Int){C:List Ce}{X:Nat},ro2 fb=4->fb<y.size->C=ls.map Ce.i->X=ls.length->0<ls.length/\ls.length<=100->∀{ak:Int->Int->E->Prop},(∀F x d,0<=F->(F<(R.len:Int)\/F=0)->x∈ls->SQ n b j e S.size M.size (P+3) ro2 d aT h f s->Mv n ro2 y ro2 d->ak F x d)->
  (aN cp 40 [vp b 0,vi (R.len:Int)] y λK v=>eH [S.size,M.size] y v/\∃F:Int,K=vi F/\af v fb H=af y fb H/\af v M.size 6=af y M.size 6/\(af (v.push (.cells (bu C) aA)) fb H=af v fb H/\af (v.push (.cells (bu C) aA)) M.size 6=af v M.size 6/\af (v.push (.cells (bu C) aA)) fb H=af v fb H/\af (v.push (.cells (bu C) aA)) M.size 6=af v M.size 6/\
   aN cp 39 [vp b 0,O.v (.mk v.size 0 X X)] (v.push (.cells (bu C) aA)) λK G=>eH [S.size,M.size] (v.push (.cells (bu C) aA)) G/\∃x:Int,K=vi x/\af G fb H=af (v.push (.cells (bu C) aA)) fb H/\af G M.size 6=af (v.push (.cells (bu C) aA)) M.size 6/\ak F x G))/\
  (af (y.push (.cells (bu C) aA)) fb H=af y fb H/\af (y.push (.cells (bu C) aA)) M.size 6=af y M.size 6/\af (y.push (.cells (bu C) aA)) fb H=af y fb H/\af (y.push (.cells (bu C) aA)) M.size 6=af y M.size 6/\
   aN cp 40 [vp b 0,vi (R.len:Int)] (y.push (.cells (bu C) aA)) λK v=>eH [S.size,M.size] (y.push (.cells (bu C) aA)) v/\∃F:Int,K=vi F/\af v fb H=af (y.push (.cells (bu C) aA)) fb H/\af v M.size 6=af (y.push (.cells (bu C) aA)) M.size 6/\
    aN cp 39 [vp b 0,O.v (.mk y.size 0 X X)] v λK G=>eH [S.size,M.size] v G/\∃x:Int,K=vi x/\af G fb H=af v fb H/\af G M.size 6=af v M.size 6/\ak F x G):=λR fb H ls C X h4 aw h1 h2 h3{ak} hX=>by
  have nb:fb∉[b]:=λw=>by simp at w;have:=q2.w.jZ b k;rw[w]at h4;omega
  have ge:∀{M1 M2:E},y.size<=M1.size->Fz [b] M1 M2->af M2 fb H=af M1 fb H:=λav p=>aH (p.same fb V nb) H
  refine⟨?_,?_⟩
  .refine m.pick k V D (R.len:Int) λF v k0 ab A Z=>?_
   have T:=J.push v (.cells (bu C) aA)
   have z4:=Z.size
   refine⟨ge (ad _) Z,m.gk k Z _,ge z4 (T.fz _),A.gk k (T.fz _) _,ge z4 (T.fz _),A.gk k (T.fz _) _,A.lX k V D ls h1 h2 h3 λx G z q N=>⟨ge (bI z4 T.size) N,(A.ext k T).gk k N _,hX F x G k0 ab z q (m.w.mvF ((Z.trans (T.fz _)).trans N) k)⟩⟩
  .have U:=J.push y (.cells (bu C) aA)
   have A:=m.ext k U
   have z4:=U.size
   have L:ap (bH [b] (y.push (.cells (bu C) aA))) (.mk y.size 0 X X) ls:=ap.lit aA ls (by simp;exact m.r.r.lt) h1 h2 V
   refine⟨ge (ad _) (U.fz _),m.gk k (U.fz _) _,ge (ad _) (U.fz _),m.gk k (U.fz _) _,A.pick k V D (R.len:Int) λF m5 k0 ab B f5=>⟨ge z4 f5,A.gk k f5 _,?_⟩⟩
   refine(kM B.r.r V (ap.le (f5.dh aL) L) h3.1).mono λ_ G⟨x,w,z,Y,N⟩=>⟨B.gL k D N,x,w,ge (bI z4 f5.size) N,B.gk k N _,hX F x G k0 ab z (B.fz k N (B.r.to N Y)) (m.w.mvF (((U.fz _).trans f5).trans N) k)⟩
 refine⟨λ_=>m.lX k V D [0,1,2,3,4,-1] rfl rfl aL λx v _ A _=>(A.box I Q _ _).done I Q V hc _,λ_=>⟨λ_=>?_,λ_=>⟨λ_=>m.lX k V D [5,1000,0] rfl rfl aL λx v _ A _=>(A.box I Q _ _).done I Q V hc _,λ_=>⟨λ_=>?_,λ_=>⟨λ_=>?_,λ_=>⟨λ_=>⟨λz=>?_,λ_=>ai⟩,λ_=>⟨λ_=>⟨λz=>?_,λ_=>ai⟩,λ_=>⟨λ_=>⟨λz=>?_,λ_=>ai⟩,λ_=>⟨λ_=>⟨λz=>?_,λ_=>ai⟩,λ_=>⟨λ_=>⟨λz=>?_,λ_=>ai⟩,λ_=>ai⟩⟩⟩⟩⟩⟩⟩⟩⟩⟩
 .refine m.lX k V D [0,41,-1,cT (s.dX+1)] rfl rfl aL λx v z A _=>(A.box I Q _ _).done I Q V ?_ _;rw[aP V V]at z;simp at z;exact⟨V,V⟩
 .have U:=J.push y (.cells (bu [.i 5,.i 1000]) aA);refine⟨m.gk k (U.fz _) _,m.lX k V D [5,1000] rfl rfl aL λx m5 _ B f5=>⟨(m.ext k U).gk k f5 _,?_⟩⟩;intro G;have Y:J m5 G:=J.push _ _;have iJ:fR G m5.size 0 [.i x]:=(cJ.push m5 [.i x] aA).iJ;clear_value G;have q:=B.ext k Y;have ol:=q.w.aT.len;have os:=hS.aT;simp at ol;refine⟨B.gk k (Y.fz _) _,q.w.aT.append (zs:=[.i 0]) q.w.new rfl iJ bF λu ag m7 ac L=>⟨q.dy D L λF hk=>V,?_⟩⟩;have q7:=q.eJ I Q L (λF hk=>V) (q.w.Io (l:=s.aT++[x]) L (by rw[fA];exact ac)) ⟨⟨q.fs.uG.bz,q.fs.uG.heap,q.fs.uG.an,q.fs.uG.lh,q.fs.uG.lf,q.fs.uG.lr⟩,⟨bF,q.fs.ju.fl,q.fs.ju.heap,q.fs.ju.depth,q.fs.ju.an⟩,bF,q.fs.lo.2⟩;exact(q7.box I Q _ _).done I Q V hc _
 .have ax:=m.w.heap.len;refine⟨λh1=>?_,λ_=>ai⟩;simp only[kQ,ar]at h1;refine m.pick k V D (h.len:Int) λR v a0 a1 A Z=>?_;let⟨X,al⟩:=cK s.heap R.toNat;obtain⟨_,g0,-⟩:=A.w.heap.cg al;have hb:=A.w.heap.D (a:=R.toNat) V;have nb:h.D≠b:=λw=>by have:=A.w.jZ b k;rw[w]at hb;omega
  have T:=J.push v (.cells (bu [.i 1,.i (-1)]) aA);have e5:=λac=>aH (T.same _ hb.2) ac;refine⟨a0,V,_,g0,e5 _,A.gk k (T.fz _) _,A.gk k (T.fz _) _,A.lX k V D [1,-1] rfl rfl aL λx G _ q N=>?_⟩;have e6:=λac=>aH (N.same h.D (aO hb.2 T.size) (by simpa using nb)) ac;have B:=A.ext k T;refine⟨e6 _,B.gk k N _,B.gk k N _,a0,V,q.w.heap.wr (o:=0) V V,?_⟩;let⟨an,L⟩:=q.w.heap.rG q.w.new al (cT (X.aQ+x));have Y:=q.fs.uG;have aj:=q.fs.ju;refine⟨q.dy D L λF hk=>V,SQ.done (q.eJ I Q L (λF hk=>V) (q.w.gC L an) ⟨⟨Y.bz,λam hx=>?_,Y.an,by simpa using Y.lh,Y.lf,Y.lr⟩,⟨aj.aT,λam hx=>?_,by simpa using aj.heap,aj.depth,aj.an⟩,by simpa using q.fs.lo⟩) I Q V hc _⟩
  .rcases cF hx with w|w
   .exact Y.heap am w
   .rw[w];exact Y.heap X (aq al)
  .rcases cF hx with w|w
   .exact aj.fl am w
   .rw[w];exact aj.fl X (aq al)
 .simp only[oH,ar]at z;have U:=J.push y (.cells (bu [.i 0,.i 1,.i 99,.i (-1)]) aA);refine⟨m.gk k (U.fz _) _,m.lX k V D [0,1,99,-1] rfl rfl aL λx m5 _ B f5=>⟨(m.ext k U).gk k f5 _,?_⟩⟩;let⟨fs,p,ae,ac,ag,aj,w,T,ew,el⟩:=B.fV z;have N:p∈s.an:=by rw[w];simp
  have Y:=B.fs.uG.an p N;have fl:=B.fs.ju.an p N;rw[ew];let⟨wr,T',L⟩:=T.put (i:=1) (g:={p with pc:=x}) (c:=.i x) B.w.new bh rfl T.ak T.aR T.aZ;exact⟨V,V,wr,B.tf I Q w T' L Y fl D V hc _⟩
 .simp only[oH,ar]at z;let⟨fs,p,ae,ac,ag,aj,w,T,ew,el⟩:=m.fV z;have N:p∈s.an:=by rw[w];simp
  have Y:=m.fs.uG.an p N;have fl:=m.fs.ju.an p N;rw[ew];obtain⟨_,_,_,_,g4,_⟩:=T.iJ;have hl:=Gk p N;refine⟨V,V,ac,g4,(qP m.r.r V (T.aR.nV V) V).mono λ_ v⟨R,l',e',am,an,hm,r4,Z⟩=>⟨m.gL k D Z,R,e',m.gk k Z _,V,V,?_⟩⟩;have ax:=am.bn;have K:Mv n ro2 y (oG ro2 R.D (11+3*fs.length)) v:=⟨Z.size,λW hb al=>Z.same W hb bF,λW hb=>eW V,λW hb=>by rw[eW V];exact m.w.new W (bI Z.size hb),m.w.jZ⟩;have z4:=Z.size;have ab:=m.k1;have al:=m.k2;have A:SQ n b j e S.size M.size (P+4) (oG ro2 R.D (11+3*fs.length)) v aT h f s:=⟨m.w.mv K,m.r.to Z r4,⟨(K.gZ _ ab.2.1).trans ab.1,V,ab.2.2⟩,⟨(K.gZ _ al.2.1).trans al.1,V,al.2.2⟩,m.fs⟩;have T4:=T.mv K;let⟨wr,T',L⟩:=T4.put (i:=4) (g:={p with aR:=l'}) (c:=.s R) A.w.new bh rfl T4.ak (iP.gB (GI.aT am) λ_=>fJ _ _ _) T4.aZ;exact⟨wr,A.tf I Q w T' L ⟨Y.1,λaa hw=>(hm aa hw).elim (Y.2.1 aa) λw=>⟨V,V⟩,Y.2.2⟩ ⟨fl.1,by show l'.length<=_;omega,fl.2.2⟩ D V hc _⟩
 .simp only[oH,ar]at z;let⟨fs,p,ae,ac,ag,aj,w,T,ew,el⟩:=m.fV z;have N:p∈s.an:=by rw[w];simp
  have Y:=m.fs.uG.an p N;have fl:=m.fs.ju.an p N;have hl:=Gk p N;rw[ew];obtain⟨_,_,_,g3,_⟩:=T.iJ;have Z:=T.ak.len;simp at Z;refine⟨V,V,ae,g3,V,V,ae,g3,Kn ae f.D _ [0,5,1000,1003,-1000] T.D.1 T.D.2 rfl rfl aL λF x G k0 ab z q K=>?_⟩;let⟨T',L⟩:=(T.mv K).Ax q.w.new k0 V x;exact⟨k0,V,(T.mv K).ak.Ob k0 V,q.tf I Q w T' L ⟨λaa hw=>(cF hw).elim (Y.1 aa) λw=>by simp at z;exact⟨V,V⟩,Y.2⟩ ⟨by show(p.ak.set _ _).length<=_;simp;omega,fl.2⟩ D V hc _⟩
 .simp only[oH,ar]at z;let⟨fs,p,ae,ac,ag,aj,w,T,ew,el⟩:=m.fV z;have N:p∈s.an:=by rw[w];simp
  have Y:=m.fs.uG.an p N;have fl:=m.fs.ju.an p N;have hl:=Gk p N;rw[ew];obtain⟨_,_,_,_,_,g5⟩:=T.iJ;have Z:=T.aZ.len;simp at Z;refine⟨V,V,ag,g5,V,V,ag,g5,Kn ag f.D _ [1000,1,1001] T.D.1 T.D.2 rfl rfl aL λF x G k0 ab z q K=>?_⟩;let⟨T',L⟩:=(T.mv K).xu q.w.new k0 V x;exact⟨k0,V,(T.mv K).aZ.Ob k0 V,q.tf I Q w T' L ⟨Y.1,Y.2.1,λaa hw=>(cF hw).elim (Y.2.2 aa) λw=>by simp at z;exact⟨V,V⟩⟩ ⟨fl.1,fl.2.1,by show(p.aZ.set _ _).length<=_;simp;omega⟩ D V hc _⟩
 .simp only[oH,ar]at z;have U:=J.push y (.cells (bu [.i 0,.i 1,.i 99,.i (-1)]) aA);refine⟨m.gk k (U.fz _) _,m.lX k V D [0,1,99,-1] rfl rfl aL λx m5 _ B f5=>⟨(m.ext k U).gk k f5 _,?_⟩⟩;let⟨fs,p,ae,ac,ag,aj,w,T,ew,el⟩:=B.fV z;have N:p∈s.an:=by rw[w];simp
  have Y:=B.fs.uG.an p N;have fl:=B.fs.ju.an p N;rw[ew];let⟨wr,T',L⟩:=T.put (i:=2) (g:={p with dst:=x}) (c:=.i x) B.w.new bh rfl T.ak T.aR T.aZ;exact⟨V,V,wr,B.tf I Q w T' L Y fl D V hc _⟩
end
end
section
def T5(S:List Nat)(m:E):(Vc.bH S m).size=m.size:=by simp[Vc.bH]
def T0{S:List Nat}{m:E}{b:Nat}(h:b∉S):(Vc.bH S m)[b]? =m[b]? :=by
 unfold Vc.bH;rw[XQ];cases m[b]? <;>simp[h]
def AR(S:List Nat)(v:Value)(c:E):Prop:=∃d p e aT b a s,v=.tuple #[.agg #[O.v d,O.v p],Nm s aT b a]/\fC (bH S c) d p e/\gH (bH S c) aT b a s/\zC s/\s.aT.length<=1000000/\s.heap.length<=1000000
section
variable{a:List Nat}{m:E}{b P:Nat}{c:O}
def Gx(D:∀d∈a,d<m.size)(q:b∈a)(k:Rd b c P m)(hP:P+3000+4*(300+40*Cg 18)<=10^16):aN cp 29 [vp b 0] m λO I=>AR a O I/\Fz [b] m I/\Rd b c (P+3000+4*(300+40*Cg 18)) I:=by
 apply yT (b,0);simp -zeta only[aC,aB];have v:=k.lt;intro e W;have b2:BS [e.size,m.size] b c m P W:=BS.psh (BS.lX (S:=a) k _).1 _;have s1:e.size=m.size+1:=by simp[e]
 clear_value W;refine b2.call (S:=a) v (λ_ d=>d) (JS (b2.hS D) (by simp[q]) b2.s.r V) λt w x h _ t3 b3 f3=>?_;intro m4 X;obtain⟨b5,l5,-⟩:=b3.box (S:=a) (m1:=m4) (m2:=X) rfl rfl rfl;clear_value X;have N:=IT.mn _ _ _ _ _ l5 t3;refine(tR (b:=⟨x.1,x.2⟩) ⟨N.1.le (bC _ _),iz.le (bC _ _) N.2⟩).mono λ_ f⟨O,l,hv,A⟩=>⟨(b5.lw v λ_ d=>d).dy (A.fz _),O,l,λp=>?_,λhy=>?_⟩;all_goals
  have b6:=b5.to (A.fz _) (b5.s.r.ext A)
  have z:=IT.mn _ _ _ _ _ (BS.le (B:=[h.size,e.size,m.size]) q (A.fz [b])) N
  have g:=b6.gL
 .intro j K L;have u:J f j:=J.push _ _;have G:cJ j f.size dR [.i 0,.i 0,.i 0,.s .nil,.s .nil,.s .nil]:=cJ.push _ _ _;have R:=b6.to (u.fz _) (b6.s.r.ext u);have Z:=IT.mn _ _ _ _ _ (BS.le (B:=[h.size,e.size,m.size]) q (u.fz [b])) z;clear_value j;let⟨T,Y⟩:=R.put (S:=a) k (by simp:m.size∈_) [.s t,.s w];let⟨s,H⟩:=T.put (S:=a) k (by simp:e.size∈_) [.i 3,.i 0,.i 0,.i 0,.s .nil,.s .nil,.s (.mk f.size 0 1 1)];have C:=IT.mn _ _ _ _ _ ((Y.trans H).trans (iZ _ λ_=>eF _)) Z;have ha:=g m.size aL;have i:=g e.size aL;have M:cJ L f.size dR [.i 0,.i 0,.i 0,.s .nil,.s .nil,.s .nil]:=(G.congr (bd _ _ _ _ V)).congr (bd _ _ _ _ V);have U:f.size∉a:=λF=>by have:=D _ F;omega
  have o:∀{Q:E},ap Q .nil []:=⟨rfl,dP _,aL,aL⟩;refine⟨⟨t,w,⟨x.1,x.2⟩,.nil,.nil,.mk f.size 0 1 1,⟨3,0,0,0,[],[],[⟨0,0,0,[],[],[]⟩]⟩,rfl,⟨C.1,C.2⟩,⟨o,⟨rfl,dP _,aL,aL⟩,⟨rfl,ad _,aL,λy aa r=>?_⟩⟩,⟨⟨aL,aL⟩,by simp[Sp],by simp[So],aL,aL,aL⟩,aL⟩,s.s.f,s.s.r.mono V⟩;cases y with
  |zero=>
   simp at r;subst r;exact⟨_,⟨.nil,.nil,.nil,rfl,o,o,o⟩,Kq U M.iJ⟩
  |succ y=>simp at r
 .have ok:nE ⟨x.1,x.2⟩:=hv.1 (by simpa using hy);have U:Le (bH ([h.size,e.size,m.size]++a) f) (bH [b] f):=iZ _ (by simp[q]);refine(ID b6.s.r V (z.1.le U) (iz.le U z.2) ok).mono λ_ j⟨ak,ro,aT,hp,fr,ao,l,aa,p,ae,al,ab,r7,u⟩=>?_;have R:∀o,af j h.size o=af f h.size o:=λo=>kg u v (g _ aL) o;refine⟨(b6.lw v λ_ d=>d).dy u,_,_,_,_,aT,hp,fr,l,R _,R _,?_⟩;have an:b<f.size:=b6.s.r.lt;refine(He (n:=ak) b6.s.r p (SO.of aa ae) ⟨u,r7⟩ V al ab).mono λ_ K⟨M,G,C,r,l,ah,ac,ag,y⟩=>?_;have Y:∀d,d<f.size->d≠b->K[d]? =j[d]? :=λd i p=>(y.f.same d i (by simpa using p)).trans (u.same d i (by simpa using p)).symm;have T:∀o,af K h.size o=af j h.size o:=λo=>aH (Y _ (g _ aL).2 (oh (g h.size aL))) o;refine⟨λd i=>Y d (g d i).2 (oh (g d i)),_,_,_,_,M,G,C,l,T _,T _,?_⟩;intro L aj;have t8:=IT.mn _ _ _ _ _ (BS.le (B:=[h.size,e.size,m.size]) q y.f) z;let⟨s,H⟩:=(b6.to y.f y.r).put (S:=a) k (by simp:m.size∈_) [.s t,.s w];let⟨Q,ai⟩:=s.put (S:=a) k (by simp:e.size∈_) [.i r.cx,.i r.value,.i r.bz,.i r.dX,.s M,.s G,.s C];have Z:=IT.mn _ _ _ _ _ ((H.trans ai).trans (iZ _ λ_=>eF _)) t8;have ha:=g m.size aL;have i:=g e.size aL;refine⟨⟨t,w,⟨x.1,x.2⟩,M,G,C,r,rfl,⟨Z.1,Z.2⟩,ah _ (by rw[T5];simp[aj,L,aw]) λd _ am=>?_,ac,ag⟩,Q.s.f,Q.s.r.mono V⟩;rw[T0 λF=>OS (D d F) b6.s.f.size];exact(bd _ _ _ _ V).trans (bd _ _ _ _ V)
end
end
section
def RB(f:Nat->Nat):∀n,∃B,∀i,i<n->f i<=B
 |0=>⟨0,aL⟩
 |n+1=>let⟨B,h⟩:=RB f n;⟨B+f n,λi a=>by
  rcases aW i n with e|e
  .have:=h i e;omega
  .have:i=n:=V;subst this;omega⟩
def cX.Dx{w:cU}{s:St}(e:cX w s)(m:s.cx=0):s.heap=[]:=by
 have g:=e.done.1 m;let⟨l,t⟩:=e.heap.MD;let⟨B,n⟩:=RB l s.heap.length;apply dS;intro q;have y:0<s.heap.length:=List.length_pos_iff.2 q;have fW:∀k,∃(b:Nat)(c:bN),s.heap[b]? =some c/\0<c.aQ/\k<=l b:=λk=>by
  induction k with
  |zero=>
   let⟨c,d⟩:=cK s.heap (s.heap.length -1);refine⟨_,c,d,?_,dP _⟩;have i:=e.jG c d;rcases Ji c.aQ 0 with f|f
   .have:=e.lB _ ⟨c,d,f⟩;rw[g]at this;simp[dI]at this
   .omega
  |succ k v=>
   let⟨b,c,d,r,p⟩:=v;have:=e.heap.ex b c d r;rw[g]at this;simp only[fD]at this;let⟨f,o,i⟩:=LC (h:=s.heap) (f:=b) V;let⟨j,hd⟩:=List.mem_iff_getElem?.1 o;have u:=t j f hd _ i V;rw[lL]at u;refine⟨j,f,hd,?_,V⟩;apply dS;intro x;have:=((e.heap.cell f (aq hd)).wY V).2.1 _ i;omega
 obtain⟨b,c,d,_,p⟩:=fW (B+1);have:=n b (av d);omega
def cX.il{a:cU}{s:St}(h:cX a s):cX a {s with dX:=40}:=⟨h.fe,h.cx,h.done,h.value,h.tY,aL,⟨h.bz.1,by have:=h.bz;have:=h.dX;show s.bz<=40;omega⟩,h.depth,h.aT,h.heap,h.jG,h.an,h.first,h.chain,h.lB,h.nB⟩
def gH.le{m f:E}{aT d c:O}{s:St}(b:gH m aT d c s)(a:Le m f):gH f aT d c s:=⟨b.aT.le a,eU.le b.heap a λk j⟨n,e,h⟩=>⟨n,e,h.le a⟩,eU.le b.an a λk j⟨r,o,h,e,g,i,l⟩=>⟨r,o,h,e,g.le a,i.le a,l.le a⟩⟩
def LwR(m:E)(v:Value)(a:E):Prop:=v=vb true/\J m a
section
variable{m:E}{d p aT b a:O}{c:cU}{s:St}
end
end
section
section
variable{f:Nat->Bool}
end
section
variable{m:E}{d p aT b a:O}{c:cU}{s:St}
end
end
section
variable{c:E}{a:Nat->Nat}{b e:Nat}{f:List Ce}
def pE.V1{m:E}{aT i d:O}{s:St}(h:pE c a m aT i d s)(g:a b=1)(l:List Ce)(kb:cJ (ah m b 0 l) b e f):vJ c a (ah m b 0 l) b e f aT i d s.aT s.heap s.an:=by
 have C:dq (λk=>k=1) a m a (ah m b 0 l):=dq.ah h.bs.new g _ _;let⟨b1,b2⟩:=(C.mono λk j=>by omega:To a m a _).cz h.bs.cz h.bs.jZ;exact⟨b1,b2,C.new,kb,g,h.aT.eJ C bh,h.heap.eJ C bh bh,h.an.eJ C λk j=>V⟩
def vJ.aaf{m:E}{aT g d:O}{s:St}(L:vJ c a m b e f aT g d s.aT s.heap s.an):pE c a m aT g d s:=⟨⟨L.cz,L.jZ,L.new⟩,L.aT,L.heap,L.an⟩
section
variable{g:E}{d p aT j i:O}{h:cU}{s:St}
def MkL(b:E)(d p:O)(h:cU)(s:St)(o:Nat×Nat)(M:E):Prop:=o.2=0/\∃a aT j i,vJ b a M o.1 bU (IB d p (cr h) s aT j i) aT j i s.aT s.heap s.an
abbrev vH:List Ce:=[.s O.nil,.s O.nil,.i 0,.i 0,.i 0,.i 0,.i 0,.s O.nil,.s O.nil,.s O.nil]
variable(k:fC g d p h)(n:gH g aT j i s)(l:zC s)(q:s.aT.length<=10000000)
include k n l q
def FV:aN cp 13 [.agg #[O.v d,O.v p],Nm s aT j i] g (Xb g (uO h s 1)):=by
 apply zY;simp -zeta only[aC,aB];rw[NX];intro R S I;have s1:R.size=g.size+1:=by simp[R]
 have s2:S.size=g.size+2:=by simp[S,s1]
 have s3:I.size=g.size+3:=by simp[I,s2]
 have U:J g I:=(((J.az g).aK _).aK _).aK _;clear_value I;have H:∀u∈[S.size,R.size,g.size],u<I.size:=bF;refine(Ea (k.ext U) (n.ext U) l).aI (J.az _) H λb4 B ai F _=>⟨b4,rfl,λh1=>Sj U F V (by rw[ae (nb ai h1)]) _,λh1=>?_⟩;have P:=yb ai h1;rw[ao P];have L:=U.trans F;have z4:=F.size;have N:=TX l q;have an:=P.ju N V;have ht:=P.fe.om.types;have cc:∀{M:E},J B M->HA cp 31 [O.v d] M (vi (cr h)):=λG=>qH (k.ext (L.trans G)).bq ht.len (λc hd=>Oz ht c hd);have c:∀{M w:E}{u:Nat},J M w->u<M.size->∀Q,af w u Q=af M u Q:=λG al Q=>aH (G.same _ al) Q;have Z:∀{a:Nat->Nat}{M:E}{ag:Value->E->Prop},Bs B a M->(∀u,a u<=1)->(∀T z y x w,pE B T w z y x s->dq (λ_=>False) a M T w->J M w->M.size<=w.size->ag (Nm s z y x) w)->aN cp 32 [Nm s aT j i] M ag:=λac am hK=>
  (Ed ac am (n.ext (L.trans ac.cz)) an).mono λ_ w⟨T,z,y,x,e,ak,W⟩=>by rw[e];exact hK T z y x w ak W W.va W.size
 have aj:∀{M w:E},J B M->w=M.push (.cells (bu vH) bU)->Bs B (oG (λ_=>0) M.size 1) w/\(∀u,oG (λ_=>0) M.size 1 u<=1)/\cJ w M.size bU vH:=λG e=>by
  have hz:=G.size;subst e;refine⟨⟨G.aK _,λu C=>eW V,λu C=>eW (by simp at C;omega)⟩,λu=>?_,cJ.push _ _ _⟩;unfold oG;split
  .omega
  .exact dP _
 refine⟨MkL B d p h s,⟨?_,?_⟩,?_⟩
 .refine(cc (J.az _)).mono ?_;rintro _ A ⟨rfl,r⟩;have z5:=r.size;refine⟨r.dy λu C=>F.lt (H u C),_,rfl,c r V _,c r V _,c r V _,c r V _,c r V _,c r V _,c r V _,c r V _,c r V _,?_,?_⟩
  .refine Z (a:=λ_=>0) ⟨r,λ_ _=>rfl,λ_ _=>rfl⟩ (λ_=>dP _) λaa z y x v K Y f z6=>?_;refine⟨f.dy λu C=>r.lt (F.lt (H u C)),_,_,_,_,z,y,x,rfl,c f V _,c f V _,?_⟩;intro D;have t:J v D:=J.push v _;have kb:cJ D v.size bU vH:=cJ.push v _ _;refine⟨c t V _,c t V _,c t V _,c t V _,c t V _,c t V _,c t V _,c t V _,c t V _,c t V _,rfl,oG aa v.size 1,z,y,x,?_⟩;have X:J v (ah D v.size 0 [.s d,.s p,.i (cr h),.i s.cx,.i s.value,.i s.bz,.i s.dX,.s z,.s y,.s x]):=t.ah (ad _) _ _;exact K.cV X (ad _) (cJ.ah (m:=D) (o:=0) kb)
  .intro v;have f:J A v:=J.push A _;have s6:v.size=A.size+1:=by simp[v]
   let⟨K,ap,kb⟩:=aj (w:=v) r rfl;clear_value v;refine⟨c f V _,c f V _,c f V _,c f V _,c f V _,c f V _,c f V _,c f V _,c f V _,c f V _,Z K ap λab z y x D Y X t z7=>?_⟩;refine⟨t.dy bF,_,_,_,_,z,y,x,rfl,c t V _,c t V _,rfl,ab,z,y,x,?_⟩;exact Y.V1 (by rw[X.gZ _ V];exact fJ _ _ _) _ (cJ.ah (m:=D) (o:=0) (kb.ext t))
 .intro A;have r:J B A:=J.push B _;have s5:A.size=B.size+1:=by simp[A]
  let⟨K,ap,kb⟩:=aj (w:=A) (J.az B) rfl;clear_value A;refine⟨c r V _,c r V _,c r V _,c r V _,c r V _,c r V _,c r V _,c r V _,c r V _,c r V _,(cc r).mono ?_⟩;rintro _ v ⟨rfl,f⟩;have z6:=f.size;refine⟨f.dy bF,_,rfl,c f V _,c f V _,c f V _,c f V _,c f V _,c f V _,c f V _,c f V _,c f V _,Z (K.eJ (dq.eI _ f K.new)) ap λab z y x D Y X t z7=>?_⟩;refine⟨t.dy bF,_,_,_,_,z,y,x,rfl,c t V _,c t V _,rfl,ab,z,y,x,?_⟩;exact Y.V1 (by rw[X.gZ _ V];exact fJ _ _ _) _ (cJ.ah (m:=D) (o:=0) (kb.ext (f.trans t)))
 .rintro⟨b,mo⟩ A ⟨rfl,X,o5,h5,f5,r⟩;simp only[]at r;have K:zA X A [S.size,R.size,g.size]:=λu C=>⟨r.cz.lt (F.lt (H u C)),r.jZ u (F.lt (H u C))⟩;refine(ON r (k.ext L) P N.uG (oh N.heap) (oh N.aT)).mono ?_;rintro _ v ⟨aa,o6,D,t,f,Y⟩;refine⟨Y.dK K,_,f.box.cg 3,_,f.box.cg 4,_,f.box.cg 5,_,f.box.cg 6,o6,f.box.cg 7,D,f.box.cg 8,t,f.box.cg 9,aa,o6,D,t,rfl,f.aaf.box L V V _ _⟩
end
end
section
def St.gY(s:St)(n:Int):St:={s with dX:=n}
section
variable{a:cU}{s:St}{f:aX}{x:Instr}{o:List Int}{b:List aX}
def lj.gY{n:Int}(h:lj a s f x o):lj a (s.gY n) f x o:=⟨h.nn,h.dst,h.nV,h.js,h.cW,h.zero,h.ret,h.apply,h.VF,h.drop,h.NL,h.load,h.Fp⟩
structure aak(s t:St):Prop where
 dX:t.dX=s.dX
 bz:s.bz<=t.bz
 aT:s.aT<+:t.aT
 cx:t.cx=s.cx\/t.cx=0
end
end
structure Ye where
 aD:Int
 QK:Int
 Rf:Int
 Xg:Int
 TH:Int
 YI:Int
 depth:Int
 Rk:Int
def mx(a b:Int):Int:=if b>a then b else a
def V3:List bN->Int
 |[]=>0
 |c::h=>(if 0<c.aQ then 1 else 0)+V3 h
def Zg(n:Int):List bN->Int
 |[]=>n
 |c::h=>Zg (mx n c.aQ) h
def fQ.ny{h:List bN}{b:Nat}(d:fQ (ny h) b):fQ h b:=by
 let⟨c,a,e⟩:=d;unfold Go.Proofs.YtkoifinbblcbiaaGreat.ny at a;rw[lR]at a;split at a
 .exact⟨c,a,e⟩
 .simp at a
def fQ.Gu{h:List bN}{w:Int}(e:fW h w)(c:bN){b:Nat}(d:fQ (h.set (ix w) c) b):fQ h b:=by
 by_cases a:b=ix w
 .subst a;exact e.2
 .exact(fQ.ne a).1 d
def fQ.jt:∀(a:List Int)(h:List bN)(b:Nat),(∀w∈a,fW h w)->fQ (jt h a) b->fQ h b
 |[],_,_,_,c=>c
 |w::a,h,b,d,c=>by
  have e:=d w bg;exact(fQ.mO e b).1 (fQ.jt a _ b (λv f=>⟨(d v (ai _ f)).1,(fQ.mO e _).2 (d v (ai _ f)).2⟩) c)
def fQ.gX:∀(n:Nat)(h:List bN)(j:List Int),Cq h+j.length<=n->∀b,fQ (gX h j) b->fQ h b
 |n,h,[],_,b,a=>by rw[tc]at a;exact a
 |0,h,w::r,d,b,_=>by simp at d
 |n+1,h,w::r,d,b,a=>by
  simp only[ba]at d;rcases dT (fW h w)with c|c
  .let⟨g,i⟩:=bS c;by_cases e:(aM h w).aQ=1
   .have f:=kJ (d:=ji) g;simp only[ao i,ji]at f;simp at f;rw[td c e]at a;exact fQ.Gu c _ (fQ.gX n _ _ (by simp[ji];omega) b a)
   .have f:=kJ (d:={aM h w with aQ:=(aM h w).aQ -1}) g;simp only[ao i]at f;rw[ao V]at f;rw[qC c e]at a;exact fQ.Gu c _ (fQ.gX n _ _ (by simp only[Go.Proofs.YtkoifinbblcbiaaGreat.ft];omega) b a)
  .rw[qD c]at a;exact fQ.gX n _ _ V b a
def fQ.apart{h:List bN}{e:Nat->Int}(g:fO h e){w:Int}(b:fW h w){c:Nat}(a:fQ (apart h w) c):fQ h c:=by
 let⟨d,l⟩:=bS b;unfold Go.Proofs.YtkoifinbblcbiaaGreat.apart at a;split at a
 .exact fQ.Gu b _ (fQ.ny a)
 .rename_i k;refine fQ.Gu b {aM h w with aQ:=(aM h w).aQ -1} (fQ.jt _ _ _ (λv i=>?_) a);let⟨j,f⟩:=lO.1 i;have:=g.field (iE d) j f;refine⟨f,?_⟩;by_cases e:ix v=ix w
  .rw[e,fQ.yO d];show 0<(aM h w).aQ -1;omega
  .rw[fQ.ne e];exact this.2
structure aal(c:Ye)(s:St):Prop where
 YI:V3 s.heap<=c.YI
 depth:(s.an.length:Int)<=c.depth
 Rk:Zg c.Rk s.heap=c.Rk
structure aam(n:Nat)(c:Ye):Prop where
 aD:0<=c.aD/\c.aD<=n
 QK:0<=c.QK/\c.QK<=n
 Rf:0<=c.Rf/\c.Rf<=n
 Xg:0<=c.Xg/\c.Xg<=n
 TH:0<=c.TH/\c.TH<=n
section
section
variable{a:cU}{s:St}{f:aX}{x:Instr}{aR:List Int}{b:List aX}
def N3(h:cX a s)(i:s.cx=3)(g:(kC a s).cx=3)(c:s.an=b++[f]):
 lj a s f (cB a f) (bB f.ak f.aR (bR a (cB a f)))/\kC a s=fu a s b f (cB a f) (bB f.ak f.aR (bR a (cB a f))):=by
 have d:s.an.getLast?=some f:=by rw[c];simp
 have e:s.an.dropLast=b:=by rw[c];simp
 revert g
 unfold kC
 rw[ae (by simpa using i),d,e]
 simp only[]
 split
 .exactλh=>by simp at h
 .split
  .exactλ_=>⟨by assumption,rfl⟩
  .exactλh=>by simp at h
section
variable(h:cX a s)(e:s.cx=3)(d:(kC a s).cx=3)(c:s.an=b++[f])
include h e d c
theorem Ry:∀b∈(cB a f).args,0<=b/\b<f.ak.length/\b<f.aR.length/\b<f.aZ.length:=λb i=>by
 have d:gT a f:=h.an f (by rw[c];simp);let⟨p,l,e,j,k,g⟩:=d.yg h.fe;have:=g.args b i;have⟨o,n,m⟩:(f.ak.length:Int)=p.ak/\(f.aR.length:Int)=p.ak/\(f.aZ.length:Int)=p.ak:=⟨e▸d.lr,e▸d.lo,e▸d.lh⟩;omega
def Un(g:(cB a f).op=14):fW s.heap (aE f.ak (aE (cB a f).args 0))/\
 kC a s={s with heap:=mO s.heap (aE f.ak (aE (cB a f).args 0)),an:=b++[{f with pc:=f.pc+1,aR:=gJ f.aR (aE (cB a f).args 0) (aE f.aR (aE (cB a f).args 0)+1)}]}:=by
 let⟨k,i⟩:=N3 h e d c
 refine⟨(k.VF g).1,?_⟩
 have j:bR a (cB a f)=[]:=by unfold bR;simp[g]
 rw[i,j]
 simp only[bB]
 unfold fu
 simp[g]
def SS(i:(cB a f).op=15):kC a s={s with heap:=ny (gX s.heap [aE f.ak (aE (cB a f).args 0)]),an:=b++[{f with pc:=f.pc+1,aR:=gJ f.aR (aE (cB a f).args 0) (aE f.aR (aE (cB a f).args 0) -1)}]}:=by
 let⟨q,m⟩:=N3 h e d c;have o:gT a f:=h.an f (by rw[c];simp);let⟨w,u,v,r,t,p⟩:=o.yg h.fe;have j:=p.op;unfold lW at j;simp[i]at j;have n:bR a (cB a f)=(cB a f).args:=by unfold bR;simp[i]
 have hd:=q.drop i;rw[m,n];generalize cB a f=x at*;obtain⟨g,k⟩:∃g,x.args=[g]:=List.length_eq_one_iff.1 j.1;rw[k]at hd⊢;have l:aE [g] 0=g:=rfl;rw[l]at hd⊢;simp only[bB,ao hd];unfold fu;simp[i,k,l]
end
end
end
section
variable{m e a:E}{h:List bN}{d:Nat}
structure Oj(m:E)(hp:O)(h:List bN):Prop where
 len:hp.len=h.length
 iJ:∀(k:Nat)(c:bN),h[k]? =some c->∃f,af m hp.D (hp.off+k*3)=some (vi c.aQ)/\af m hp.D (hp.off+k*3+1)=some (vi c.kD)/\af m hp.D (hp.off+k*3+2)=some (O.v f)
def Oj.eC{b:O}(H:Oj m b h)(k:h≠[]->e[b.D]? =m[b.D]?):Oj e b h:=
 ⟨H.len,λl d c=>by
  let⟨f,g,i,j⟩:=H.iJ l d c;have a:=k (λa=>by subst a;simp at c);exact⟨f,by rw[aH a];exact g,by rw[aH a];exact i,by rw[aH a];exact j⟩⟩
def Oj.lt{a:O}(H:Oj m a h)(d:h≠[]):a.D<m.size:=by
 cases h with
 |nil=>exact absurd rfl d
 |cons c r=>
  obtain⟨f,b,_⟩:=H.iJ 0 c rfl;exact mz b
def Oj.ext{a:O}(H:Oj m a h)(c:J m e):Oj e a h:=H.eC λb=>c.same _ (H.lt b)
def dN.jC{N:Nat}{g:Nat->Nat}{a:O}(H:dN N g m a h):Oj m a h:=
 ⟨H.len,λ_ _ e=>let⟨f,b,c,d,_⟩:=H.cg e;⟨f,b,c,d⟩⟩
structure pC(d:Nat)(m e:E):Prop where
 size:m.size<=e.size
 same:∀b,b<m.size->b≠d->e[b]? =m[b]?
def pC.az(d:Nat)(m:E):pC d m m:=⟨ad _,λ_ _ _=>rfl⟩
def pC.ext(h:pC d a m)(f:J m e):pC d a e:=⟨bI h.size f.size,λb c g=>by rw[f.same b (aO c h.size)];exact h.same b c g⟩
def pC.trans(h:pC d a m)(g:pC d m e):pC d a e:=⟨bI h.size g.size,λb c f=>by rw[g.same b (aO c h.size) f];exact h.same b c f⟩
def pC.ah(h:pC d a m)(o:Nat)(l:List Ce):pC d a (ah m d o l):=⟨by rw[aw];exact h.size,λb e c=>by rw[bd l m d o c];exact h.same b e c⟩
def pC.dy(h:pC d m e){l:List Nat}(c:∀b∈l,b<m.size/\b≠d):eH l m e:=λb a=>h.same b (c b a).1 (c b a).2
end
section
section
variable{m:E}{a:O}{h:List bN}
end
section
variable{a:cU}{s:St}
def Xs{k:Int}(h:(uO a s k).ok=true):(cX a s/\0<=k/\k<=100000)/\uO a s k=⟨aD a k.toNat s,true⟩:=by
 have b:cX a s/\0<=k/\k<=100000:=by
  apply dS;intro c;rw[uO,ae c]at h;simp at h
 exact⟨b,ao b⟩
def Vn(h:(uO a s 1).ok=true):cX a s/\uO a s 1=⟨kC a s,true⟩:=let⟨b,e⟩:=Xs h;⟨b.1,e⟩
def SU(c:cX a s)(d:zC s)(b:s.aT.length<=1000000/\s.heap.length<=1000000){k:Nat}(e:k<=100000):zC (aD a k s)/\cX a (aD a k s)/\Sm (1000000+k) (aD a k s):=
 have h:=wP k c
 have S:=wQ k c (d.sm b.2 b.1) V
 ⟨h.Yw S V,h,S⟩
end
section
variable{a:E}
def Az{dv:O}(h:Jk a dv):aN cp 12 [O.v dv] a λv u=>AR [] v u/\J a u:=by
 apply vr;simp -zeta only[aC,aB];intro d c;let⟨e,g⟩:=dF (a:=d) (c:=c) rfl rfl;have P:d.size=a.size+1:=by simp[d]
 clear_value c;refine(IM (m:=c) ⟨h.1,λk i=>let⟨v,f,b,l⟩:=h.2 k i;⟨v,f,b,e.af l⟩⟩).mono λ_ M⟨H,j,y,p⟩=>⟨p.dy g,(c.size,0),j,?_⟩;have L:=y.lt;have I:=g a.size aL;have K:=g d.size aL;refine(Gx (a:=[d.size,a.size,c.size]) bF aL y (by simp[Cg])).mono λ_ i⟨⟨q,x,E,aT,t,r,G,j,s,D,C⟩,k,_⟩=>?_;refine⟨k.dy λb f=>by have:=g b f;simp only[lS];omega,q,x,_,_,_,_,aT,t,r,j,?_⟩;intro N w;have Q:=k.size;have F:∀{b o:Nat}{v:Value},af (bH [d.size,a.size,c.size] i) b o=some v->af (bH [] w) b o=some v:=λh=>by
  let⟨A,B⟩:=eR.1 h;simp at A;refine eR.2 ⟨aL,?_⟩;rw[aH ((bd _ _ _ _ V).trans (bd _ _ _ _ V))];exact B
 have n:Le (bH [d.size,a.size,c.size] i) (bH [] w):=λb o v h=>F h;refine⟨⟨q,x,E,aT,t,r,G,rfl,⟨s.bq.le n,iz.le n s.cE⟩,gH.le D n,C⟩,?_⟩;have z:Fz [c.size] c i:=(p.fz _).trans k;have l:J a i:=⟨by have:=e.size;have:=p.size;omega,λb f=>(z.same b (e.lt f) (by have:=e.size;simp;omega)).trans (e.same b f)⟩;exact(l.ah V _ _).ah V _ _
end
end
section
section
variable{a:cU}{s:St}{f:aX}{b:List aX}
def Sc{l:List Int}{i:Int}(h:0<=i/\i<l.length)(v:Int):aE (gJ l i v) i=v:=by rw[Rz h.1 h.2 _ h.1,ao rfl]
def Rp(h:cX a s)(n:s.cx=3)(l:(kC a s).cx=3)(j:s.an=b++[f])(u:(cB a f).op=14\/(cB a f).op=15):∃(g:aX)(r:Int),(kC a s).an=b++[g]/\g.pc=f.pc+1/\g.ak=f.ak/\(cB a f).args[0]? =some r/\
 (0<=r/\r<f.ak.length/\r<f.aR.length)/\g.aR.length=f.aR.length/\((cB a f).op=15->aE g.aR r=aE f.aR r -1)/\
 ((cB a f).op=14->aE g.aR r=aE f.aR r+1/\1000<=aE f.ak r/\∃p q,s.heap[ix (aE f.ak r)]? =some p/\(kC a s).heap[ix (aE f.ak r)]? =some q/\q.aQ=p.aQ+1):=by
 have A:=Ry h n l j
 let⟨E,C,D,y,z,x⟩:=(h.an f (by rw[j];simp)).yg h.fe
 have m:=x.op
 have k:(cB a f).args.length=1:=by
  unfold lW at m;rcases u with e|e<;>simp[e]at m<;>exact m.1
 let⟨r,i⟩:=cK ((cB a f).args) 0
 have v:=VE i
 have c:=A r (aq i)
 rcases u with e|e
 .let⟨k,d⟩:=Un h n l j e
  have o:aE (cB a f).args 0=r:=v
  rw[o]at d k
  rw[d]
  let⟨t,B⟩:=bS k
  exact⟨_,r,rfl,rfl,rfl,i,⟨c.1,c.2.1,c.2.2.1⟩,jz _ _ _,λw=>V,λ_=>⟨Sc ⟨c.1,c.2.2.1⟩ _,k.1,_,_,t,by unfold mO;rw[dt (av t)],rfl⟩⟩
 .have d:=SS h n l j e
  have o:aE (cB a f).args 0=r:=v
  rw[o]at d
  rw[d]
  exact⟨_,r,rfl,rfl,rfl,i,⟨c.1,c.2.1,c.2.2.1⟩,jz _ _ _,λ_=>Sc ⟨c.1,c.2.2.1⟩ _,λw=>V⟩
end
end
section
section
open Tryz
variable{m:E}{R:Value->E->Prop}
def ui(a:O):=da m R ⟨[],[(7,[(56,.T)]),(12,[])],[(7,[181,179,178,177]),(12,[184,183,181,179,178,177])]⟩ [a] func3
end
section
variable{m:E}
def xk{dv:O}(j:Jk m dv):aN cp 3 [O.v dv] m (LwR m):=by
 apply ui;simp(config:={maxSteps:=1000000}) -zeta only[aC,aB];refine⟨λ_=>⟨rfl,J.az _⟩,λ_=>?_⟩;refine(Az j).mono λ_ v⟨⟨Y,ae,d,aT,hp,fr,s,g,hi,hs,z,ho⟩,T⟩=>⟨Y,ae,_,_,_,_,aT,hp,fr,g,?_⟩;have Q:fC v Y ae d:=⟨hi.bq.le (bC _ _),iz.le (bC _ _) hi.cE⟩;have A:=hs.le (bC _ _);intro w a2 a3 a4;have z1:w.size=v.size+1:=by simp[w]
 have x4:J v a4:=(((J.push v _).trans (J.push w _)).ah (ad _) _ _).ah V _ _;have z4:a4.size=v.size+2:=by simp[a4,a3,a2,w,aw]
 clear_value a4;have sm:=Qb z V 1 (h:=d);refine(FV (Q.ext x4) (A.ext x4) z V).mono λ_ C⟨aJ,o5,l,f5,g,K⟩=>⟨K.bs.cz.dy bF,_,_,_,_,o5,l,f5,_,g,?_⟩;have x5:=K.bs.cz;have p:=K.Eo sm;have u5:=x5.size;intro a6 M;have D:J C M:=(J.push C _).ah (ad _) _ _;have z7:M.size=C.size+1:=by simp[M,a6,aw]
 clear_value M;have c:=(x4.trans x5).trans D;refine(Gv (Q.ext c) (A.ext c) z V).mono λ_ G⟨aK,o8,h8,f8,g,L⟩=>⟨L.bs.cz.dy bF,_,_,_,_,o8,h8,f8,_,g,?_⟩;have x8:=L.bs.cz;have S8:=L.Eo sm;have u8:=x8.size;intro a9 r;have S:J G r:=(J.push G _).ah (ad _) _ _;have z0:r.size=G.size+1:=by simp[r,a9,aw]
 clear_value r;have U:J C r:=(D.trans x8).trans S;clear K L;have hl:∀b∈[G.size,C.size,w.size,v.size],b<r.size:=bF;refine⟨λb W=>J r W/\(b=false->(uO d s 1).ok=true/\s.cx=3/\(uO d s 1).s.cx=3),?_,?_⟩
 .refine(tz (p.ext U) (S8.ext S)).aI (J.az _) hl λb H t e _=>⟨b,rfl,?_⟩;obtain rfl:=t.2 rfl;exact⟨sx,λ_=>⟨sx,λ_=>⟨λ_=>⟨e,aL⟩,λE=>⟨λ_=>⟨e,aL⟩,λF=>⟨e,λa=>⟨by simpa using E,by simpa using F,by simpa using a⟩⟩⟩⟩⟩⟩
 rintro b H ⟨e,t⟩;have q:=((c.trans x8).trans S).trans e;refine⟨λf=>(tz (p.ext (U.trans e)) (S8.ext (S.trans e))).aI e hl λb mB t xB _=>⟨b,rfl,λ_=>⟨aL,(T.trans q).trans xB⟩,λj=>by rw[t.2 rfl]at j;simp at j⟩,λhy=>?_⟩;let⟨hy,E,F⟩:=t hy;let⟨n,ag⟩:=Vn hy;have ES:(uO d s 1).s=kC d s:=nD Zn.s ag;rw[ES]at p F;try rw[ES]
 let⟨x,h,y⟩:=n.split E;have i:=n.an h (by rw[y];simp);let⟨pr,am,ao,hP,aa,hI⟩:=i.yg n.fe;have fl:=i.lr;have ai:=i.lo;have aj:=i.lh;rw[ao]at fl ai aj;have rr:=hP.ak;have lf:=A.an.len;have bf:=z.lf;have gF:s.an[x.length]? =some h:=by simp[y]
 have lF:s.an.length=x.length+1:=by simp[y]
 have iF:cT ((fr.len:Int) -1)=(x.length:Int):=by rw[aP V V];omega
 rw[iF];let⟨r3,r4,r5,k3,k4,k5,g0,g1,g2,g3,g4,g5⟩:=iI.aE (iI.ext q A.an) gF;refine⟨V,V,_,g0,_,g1,_,g2,_,g3,_,g4,_,g5,?_⟩;intro b1 b2;have w2:J H b2:=(J.push H _).ah (ad _) _ _;have y2:b2.size=H.size+1:=by simp[b2,b1,aw]
 clear_value b2;have uA:=e.size;let⟨pa,pl,pc,ka,kl,kc,P0,P1,P2,P3,P4⟩:=iz.aE (iz.ext (q.trans w2) Q.cE) am;have lp:=Q.cE.len;have lc:=kc.len;refine⟨i.fw.1,oh i.fw.2,pc,by simpa using P4,i.pc.1,OS (av aa) i.pc,?_⟩;let⟨xa,xj,ia,ij,I0,I1,I2,I3,I4,I5⟩:=fq.aE kc aa;refine⟨_,I0,_,I1,_,I2,_,I3,_,I4,_,I5,?_⟩;intro b3;have w3:J b2 b3:=J.push b2 _;have u:∀{b o:Nat}{ax:Value},af b2 b o=some ax->af b3 b o=af b2 b o:=λj=>(w3.af j).trans j.symm;have kl:∀{b:Nat}(o:Nat),b<b2.size->af b3 b o=af b2 b o:=λo j=>aH (w3.same _ j) o;refine⟨u I0,u I1,u I2,u I3,u I4,u I5,kl _ V,u P4,kl _ V,kl _ V,?_⟩;intro b4;have w4:J b2 b4:=w3.ah (ad _) _ _;have y4:b4.size=b2.size+1:=by simp[b4,b3,aw]
 clear_value b4;have X:=w2.trans w4;have aI:=p.an.len;have ay:=Ry n E F y;have aA:=ia.len;have lr:=k3.len;have lo:=k4.len;have lh:=k5.len;refine⟨λW=>b4=W/\((cB d h).op=14\/(cB d h).op=15),⟨λl=>⟨λa=>⟨rfl,(T.trans q).trans X⟩,λa=>⟨rfl,Or.inr (by simpa using a)⟩⟩,λl=>⟨rfl,Or.inl (by simpa using l)⟩⟩,?_⟩;rintro _ ⟨rfl,ac⟩;let⟨N,R,Z,e2,e3,e4,a,e5,e6,e7⟩:=Rp n E F y ac;have lG:(kC d s).an.length=x.length+1:=by simp[Z]
 have B:cT ((f5.len:Int) -1)=(x.length:Int):=by rw[aP V V];omega
 have gG:(kC d s).an[x.length]? =some N:=by simp[Z]
 let⟨t3,t4,t5,l3,l4,l5,f0,f1,f2,f3,f4,ah⟩:=iI.aE (iI.ext (U.trans (e.trans X)) p.an) gG;refine⟨λf=>by simp at f;omega,λ_=>⟨V,V,_,by rw[B];exact f0,_,by rw[B];exact f1,_,by rw[B];exact f2,_,by rw[B];exact f3,_,by rw[B];exact f4,_,by rw[B];exact ah,?_⟩⟩;intro b5 b6;have I:J b4 b6:=(J.push b4 _).ah (ad _) _ _;have y6:b6.size=b4.size+1:=by simp[b6,b5,aw]
 clear_value b6;have W6:=X.trans I;have an:cT (h.pc+1)=h.pc+1:=by have:=av aa;have:=hP.len;have:=i.pc;exact aP V V
 refine⟨dx _,oh (av e4),R,by simpa using(ap.ext (w4.trans I) ia).aE e4,λf=>by simp[e2,an]at f,λ_=>?_⟩;have al:∀b∈[b4.size,b2.size,H.size,G.size,C.size,w.size,v.size],b<b6.size:=bF;refine(jQ (l3.ext I) (k3.ext W6)).aI (J.az _) al λb m7 t D _=>⟨b,rfl,λf=>by rw[t.2 e3]at f;simp at f,λ_=>⟨λl=>?_,λl=>?_⟩⟩;all_goals
  have c:=W6.trans D
  have ar:=SU n z ho (k:=1) V
  have bo:zD (aE N.aR R):=(ar.1.an N (by show N∈(kC d s).an;simp[Z])).2.1 _ (fm a.1 V)
  have aG:=l4.len
 .have g:=e6 (by simpa using l);unfold zD at bo;exact⟨a.1,V,_,(ap.ext (I.trans D) l4).aE (lI a.1 V),a.1,V,_,(ap.ext c k4).aE (lI a.1 V),nD vb (by rw[g,aP V V];simp),(T.trans q).trans c⟩
 .let⟨g,au,ab,Y,P,hd,ak⟩:=e7 (ac.resolve_right (by simpa using l));unfold zD at bo;have bw:=(z.an h (by rw[y];simp)).1 _ (fm a.1 a.2.1);unfold zD at bw;have ew:cT (aE h.ak R -1000)=(ix (aE h.ak R):Int):=by have:=iu au;rw[aP V V];omega
  have bc:=(n.heap.cell ab (aq P)).hi;have az:=(n.heap.cell ab (aq P)).lo;obtain⟨_,_,z1,-,-⟩:=cR.aE (cR.ext (q.trans c) A.heap) P;obtain⟨_,_,z2,-,-⟩:=cR.aE (cR.ext (U.trans (e.trans c)) p.heap) hd;have aD:=A.heap.len;have aF:=p.heap.len;have ls:=av P;have ld:=av hd;refine⟨a.1,V,_,(ap.ext c k3).aE (lI a.1 V),a.1,V,_,(ap.ext (I.trans D) l4).aE (lI a.1 V),a.1,V,_,(ap.ext c k4).aE (lI a.1 V),λ_=>?_,λf=>?_⟩
  .rw[ew];exact⟨V,V,_,z2,V,V,_,z1,nD vb (by rw[ak,aP V V];simp),(T.trans q).trans c⟩
  .rw[g,aP V V]at f;simp at f
end
end
end Go.Proofs.YtkoifinbblcbiaaGreat
section
namespace Go.Vc
variable{t:TypeId}{a:Addr}
open Go.ChangeShapes Go.WideShapes Go.RowKit
section
variable{H:Type}{b:TypeId×Value->H}{P:Program}{w:World}
def Ts(b:TypeId×Value->H)(P:Program)(w:World)(t:TypeId)(Q:List Ce->Prop):Prop:=
 ∀(n:Nat)(a:List Value)(x:DataW H×List MemPlace),DataW.trod b P w 0 (λ_=>true) true n t a=some x->∃c,a=c.map Ce.v/\Q c
def Ts.mono{Q Q':List Ce->Prop}(h:Ts b P w t Q)(f:∀a,Q a->Q' a):Ts b P w t Q':=λn a x g=>
 let⟨c,d,e⟩:=h n a x g
 ⟨c,d,f _ e⟩
def Sv{v:Value}(h:w.cell? a=some v):a.spot=none:=by
 unfold World.cell? at h;split at h
 .split at h
  .cases h
  .rename_i b;simpa using b
 .cases h
def Ss(h:a.spot=none)(i:Nat):a.add i=⟨a.block,a.off+i,none⟩:=by
 obtain⟨c,o,s⟩:=a;simp only at h;subst h;unfold Addr.add;by_cases b:i=0
 .subst b;simp
 .simp[b]
end
section
variable{H:Type}{b:TypeId×Value->H}{P:Program}
def DO(l:laidOutB P=true){W j:World}(k:Below W.heap.size W j):∀{f:List TypeId}{i:List Value}{g:List (DataW H)}{d:List MemPlace},
 (f.all λt=>P.readableRec t&&decide (t<P.types.size))=true->DataW.TrodAll b P W 0 (λ_=>true) true f i g d->(∀x∈d,x.block<W.heap.size)->∀e:Nat->Bool,(∀p∈d,e p.block=true)->
 DataW.TrodAll b P j 0 e true f i g d
 |[],_,_,_,_,h,_,_,_=>by
  obtain⟨rfl,rfl,rfl⟩:=trodAll_nil h;exact trodAll_mk0
 |t::f,_,_,_,c,h,m,e,n=>by
  obtain⟨v,i,s,g,p,r,rfl,rfl,rfl,o,q⟩:=trodAll_cons h;simp only[Of,bL,ar]at c;exact⟨p,r,WideElems.Trod_stays l c.1.1 c.1.2 o (λx a=>k.same (m x (by simp[a]))) (λx a=>n x (by simp[a])),DO l k (by simpa using c.2) q (λx a=>m x (by simp[a])) e (λx a=>n x (by simp[a])),rfl⟩
def MU{f:Func}{s:ChangeSpec}{W g:World}{i:Array Value}{d:List (DataW H)}{o:List MemPlace}
 (J:laidOutB P=true)(L:(f.params.toList.all λt=>P.readableRec t&&decide (t<P.types.size))=true)(z:f.resultTypes=#[t])(v:P.underlying t=some .bool)(B:s.vars=[])
 (j:DataW.Whole b P f.params.toList s.vars false W i.toList d [] o)(F:(s.fn H (d++[])).args=d)(G:(s.fn H (d++[])).results=[.lit (.bool true)])(I:(s.fn H (d++[])).vars=[])
 (k:Below W.heap.size W g):s.post b P f false true false false W i (.bool true) g:=by
 have h:∀a∈o,a.block<W.heap.size:=λa l=>by simpa using j.lt a l
 have r:=j
 obtain⟨a,N,E,q,rfl,C,M⟩:=j
 rw[B]at q
 obtain⟨_,rfl⟩:=trodVars_none q
 simp only[eg]at h C r
 have u:∀c:Nat->Bool,(∀x∈a,c x.block=true)->DataW.TrodAll b P g 0 c true f.params.toList i.toList (s.fn H (d++[])).args a:=λc K=>by
  rw[F];exact DO J k L E h c K
 have A:∀c:Nat->Bool,DataW.TrodVars b P g c s.vars (s.fn H (d++[])).vars []:=λc=>by rw[B,I];rfl
 have y:∀(e:Nat)(c:Nat->Bool)(hd:Bool),DataW.TrodAll b P g e c hd f.resultTypes.toList ((Value.bool true).resultList f.resultTypes.size) (s.fn H (d++[])).results []:=λe c hd=>by
  rw[G,z];exact trodAll_cons_mk (shut_bool v _) trodAll_mk0
 refine⟨d,[],a,[],a,[],r,y _ _ _,u _ (λx m=>by simpa using h x m),A _,k.frame _,λ_=>?_⟩
 refine⟨ok_one z rfl (okWide_bool_mk v _),_,_,([]++a)++[],⟨[]++a,[],trodAll_append (u _ (λ_ _=>rfl)) (y _ _ _),A _,rfl,?_,λD=>by cases D⟩,?_⟩
 .intro e n l
  have w:MemPlace.cell e n∈a:=by simpa using l
  rw[k.frozen (p:=⟨e,n,none⟩) (h _ w)]
  exact C e n w
 .intro x m _
  simpa using m
end
end Go.Vc
end
section
namespace Go.Proofs.YtkoifinbblcbiaaGreat
open Go.Vc Go.ChangeShapes
def SJ{H:Type}{x:TypeId×Value->H}{P:Program}{w:World}{t e r:Nat}{v:Value}{u:DataW H}{I:List MemPlace}(p:P.underlying t=some (.slice e))(B:P.underlying e=some (.int .u8))(A:P.cellsOf e=1)
 (E:Value.okWide P w .any r t v)(y:DataW.Trod x P w 0 (λ_=>true) true t v u I):∃s,v=O.v s/\Jk w.heap s:=by
 obtain⟨J,q,h,rfl⟩:=Go.WideShapes.okWide_slice p E
 obtain⟨L,C⟩:=y
 rcases open_ints p B A C with⟨b,_⟩|⟨d,N,K,g,b,_,D,M,G,_,l,F⟩
 .simp[Value.cells]at b
  obtain⟨rfl,rfl,rfl⟩:=b
  exact⟨.nil,rfl,ad _,λk a=>by simp at a⟩
 .simp[Value.cells]at b
  obtain⟨rfl,rfl,rfl⟩:=b
  simp only[MB]at G
  rcases km h with i|i
  .subst i
   have:q=0:=V
   subst this
   obtain⟨c,o,s⟩:=d
   cases s with
   |none=>exact⟨.mk c o 0 0,rfl,ad _,λk a=>by simp at a⟩
   |some f=>exact⟨.zT c o f,rfl,ad _,λk a=>by simp at a⟩
  .have z:=l 0 V
   have n:d.spot=none:=by
    have:=Sv z;simpa[Addr.add]using this
   obtain⟨c,o,s⟩:=d
   simp only at n
   subst n
   refine⟨.mk c o q h,rfl,D,λk a=>?_⟩
   simp only[O.gK]at a
   have m:k<g.length:=V
   have j:=l k m
   have f:=F (g.getD k 0) (by rw[fU,List.getElem?_eq_getElem m];simp)
   rw[Lit.wf,bL,ar,ar]at f
   refine⟨g.getD k 0,f.1,f.2,?_⟩
   .rw[Ss rfl,zQ]at j
    simpa using j
end Go.Proofs.YtkoifinbblcbiaaGreat
end
