/- Part of a proof. -/
import Derived.Carry
import Derived.ChangeSame
import Derived.ChangeSlices
import Derived.Deep.Slices
import Derived.OpenShut
import Derived.RowKit
import Derived.WideShapes
import Derived.Test.YtkoifinbblcbiaaGreatSG00
import Derived.Test.YtkoifinbblcbiaaGreatSG02
import Derived.Test.YtkoifinbblcbiaaGreatSG03
import Derived.Test.YtkoifinbblcbiaaGreatSG04
import Derived.Test.YtkoifinbblcbiaaGreatSG05
set_option linter.all false
set_option maxHeartbeats 8000000
set_option maxRecDepth 100000
namespace Go.Proofs.YtkoifinbblcbiaaGreat
open Go.Vc
section
variable{M:E}
def R9{k b:Nat}(a:b<k)(h:k<=M.size):(M.extract 0 k)[b]? =M[b]? :=((J.MZ h).same b (by rw[mg h];exact a)).symm
def pC.old{mx M':E}{f:Nat->Nat}{aS c a:O}{s:St}(h:pC mx f M aS c a s)(d:M.size<=M'.size)(g:∀b,mx.size<=b->b<M.size->M'[b]? =M[b]?):pC (M'.extract 0 mx.size) f M' aS c a s:=
 have e:=bI h.bs.cv.size d
 h.Rf (by rw[mg e];exact ad _) d g (J.MZ e)
def vf.old{a M M':E}{i:Nat->Nat}{c e:Nat}{d:List Ce}{aS h f:O}{s:St}(L:vf a i M c e d aS h f s.aS s.heap s.ao)(j:a.size<=c)(k:M.size<=M'.size)(g:∀b,a.size<=b->b<M.size->M'[b]? =M[b]?):vf (M'.extract 0 a.size) i M' c e d aS h f s.aS s.heap s.ao:=
 have N:=pC.old (s:=s) ⟨⟨L.cv,L.jK,L.new⟩,L.aS,L.heap,L.ao⟩ k g
 ⟨N.bs.cv,N.bs.jK,N.bs.new,L.box.congr (g _ j L.box.lt),L.QF,N.aS,N.heap,N.ao⟩
def Xk{Y:List Nat}{m:E}(f:Fz Y m M):Le (bH Y m) (M.extract 0 m.size):=λc o v e=>by
 let⟨d,a⟩:=eQ.1 e;have b:=lB a;rw[aE ((R9 b f.size).trans (f.same c b d))];exact a
def GSt(f:cT)(d:Nat)(e:O)(m:E)(P:Nat)(v:Value)(a:E):Prop:=∃n g aS c b s,v=MD s aS c b/\pC (a.extract 0 n) g a aS c b s/\m.size<=n/\n<=a.size/\cY f s/\Sm 100000 s/\Rd d e P a/\Fz [d] m a
section
variable{f:List Nat}{a:E}{b P:Nat}{e d p:O}{c:cT}
def IF(H:Rd b e P a)(hP:P+100<=10^16)(hd:cx (bH [b] a) d c.bo)(hp:iK (bH [b] a) p c.cF)(K:ns c):aN cq 55 [vp b 0,.agg #[O.v d,O.v p]] a (GSt c b e a (P+6)):=by
 apply AZ (b,0);simp -zeta only[aD,aC];have hr:=H.lt;intro l t;let⟨x2,r⟩:=dD (a:=l) (c:=t) rfl rfl;have s1:l.size=a.size+1:=by simp[l]
 have B2:cD t a.size vD [.s d,.s p]:=(cD.push a _ _).ext (J.push l _);clear_value t;have r2:Rs b e a P t:=⟨x2.fz _,H.ext x2⟩;intro N;have x3:J t N:=J.push _ _;have G3:∀o,af N a.size o=af t a.size o:=λo=>aE (x3.same _ B2.lt) o;refine⟨G3 _,G3 _,G3 _,G3 _,?_⟩;refine(yo r2 V [40,40,12,3,0,20] rfl rfl aL).mono λ_ j⟨dU,h,aF,r4,w⟩=>?_;have z3:=x3.size;have z2:=x2.size;have w:Fz [b] N j:=w;have z4:=w.size;have aY:=r l.size aL;have Z:0<=dU/\dU<=40:=by simp at aF;omega
 have A:∀o,af j a.size o=af N a.size o:=λo=>aE (w.same _ V bF) o;refine⟨w.dq λf g=>by have:=r f g;simp at g⊢;omega,dU,h,A _,A _,A _,A _,?_⟩;have aH:∀{M:E},Fz [b] a M->fg M d p c:=λG=>have aq:=(G.df (S:=[b]) aL).trans (bA _ _);⟨hd.le aq,iK.le aq hp⟩;refine(Fb (aH r4.f) K dU).mono ?_;rintro _ u ⟨aS,aG,fr,rfl,x,b1,b2,b3,b4,aZ,q1,q2,q3,q4,q5,au,q6,k4⟩;have z5:=x.size;have G5:∀o,af u a.size o=af j a.size o:=λo=>aE (x.same _ V) o;refine⟨x.dq λf g=>oh (r f g),_,_,_,_,_,_,_,rfl,G5 _,G5 _,?_⟩;intro n;have x6:J u n:=J.push _ _;have kb:cD n u.size bL (SB d p (lQ c dU) aS aG fr):=cD.push u _ _;have L6:=Ui (m:=j) (MZ:=[.s d,.s p]) ⟨q1,q2,q3,q4,q5⟩ au q6 k4 x6 (ad _) kb;have s6:n.size=u.size+1:=by simp[n]
 clear_value n;have r6:=(r4.ext x).ext x6;have L:∀{M:E},n.size<=M.size->Lw b [u.size,l.size,a.size] M:=λaX=>lw hr bF;refine(bY r6.r V 60).mono λ_ m7⟨B,h,aO,aP,d7,U⟩=>⟨(L (ad _)).dq U,B,h,?_⟩;have z7:=U.size;refine(bY d7 V 200).mono λ_ m8⟨C,h,aQ,aR,d8,W⟩=>⟨(L z7).dq W,C,h,?_⟩;have z8:=W.size;refine(bY d8 V 20).mono λ_ m9⟨D,h,aT,aU,d9,X⟩=>⟨(L V).dq X,D,h,?_⟩;have z9:=X.size;refine(bY d9 V 100).mono λ_ aa⟨F,h,aV,aW,ax,Q⟩=>⟨(L V).dq Q,F,h,?_⟩;have vG:=Q.size;have ai:=((U.trans W).trans X).trans Q;have ae:=J.push aa (.cells (bt [.i B,.i C,.i D,.i 100000,.i 0,.i F]) aA);have a2:=ae.size;refine(yo (r6.to ai ax) V [B,C,D,100000,0,F] rfl rfl aL).mono λ_ y⟨ab,h,aj,am,v⟩=>?_;have v:Fz [b] (aa.push (.cells (bt [.i B,.i C,.i D,.i 100000,.i 0,.i F]) aA)) y:=v;refine⟨(L (bI (by omega:n.size<=aa.size) ae.size)).dq v,ab,h,?_⟩;have a3:=v.size;obtain⟨q,rfl⟩:∃q:Nat,ab=q:=⟨ab.toNat,by simp at aj;omega⟩;have hn:q<=100000:=by simp at aj;omega
 have T:=(ai.trans (ae.fz _)).trans v;have ah:=L6.old (s:=lQ c dU) (M':=y) V T.size λf h1 h2=>T.same f h2 bF;have e0:(y.extract 0 j.size).size=j.size:=mg V;have w4:Le (bH [b] a) (y.extract 0 j.size):=(r4.f.df aL).trans (Xk (((x.trans x6).fz [b]).trans T));refine(JJ (s:=lQ c dU) ah ⟨hd.le w4,iK.le w4 hp⟩ (Mp K Z) (Qo c dU) q hn V).mono ?_;rintro _ z ⟨⟨nn,rfl⟩,a1,aI,az,ay,i,ap⟩;have ak:=tT q (Mp K Z);have I:=tU q (Mp K Z) (Qo c dU) V;have al:=ak.iP I V;generalize aB c q (lQ c dU)=st at*;have a4:=ap.size;have ao:∀f,f<j.size->z[f]? =y[f]? :=λf g=>(i.cv.same f V).trans (R9 g V);have aJ:Rs b e a (P+6) z:=by
  have G:Fz [b] a z:=⟨V,λf g hn=>(ao f V).trans (am.f.same f g hn)⟩;exact⟨G,(H.MU am.r G (ao b V)).mono V⟩
 refine⟨ap.dJ λf g=>⟨by have:=r f g;omega,ah.jK f (oh (r f g))⟩,nn,rfl,_,i.box.cp 2,_,i.box.cp 3,_,i.box.cp 4,_,i.box.cp 5,aI,i.box.cp 6,az,i.box.cp 7,ay,i.box.cp 8,(pY (Bs.yT z) (λ_=>dH _) (i.Ap al) al).mono ?_⟩;rintro _ a0 ⟨aK,ac,Y,R,rfl,aw,ar⟩;have ag:=ar.va;have aM:=ag.size;refine⟨ag.dq λf g=>oh (r f g),_,_,_,_,ac,Y,R,rfl,?_⟩;have an:=(aJ.ext ag).put H (k:=l.size) V 0 [.i st.cE,.i st.value,.i st.bu,.i st.dU,.s ac,.s Y,.s R];exact⟨z.size,aK,ac,Y,R,st,rfl,aw.old (uf (av _ _ _ _).symm) λf g _=>bd _ _ _ _ V,V,by rw[av];exact aM,ak,⟨by have:=I.heap;omega,oh I.aS,I.vh⟩,an.r,an.f⟩
end
end
section
variable{q:O}
def cY.Yr{q:cT}{s:St}{n:Nat}(h:cY q s)(c:Sm n s)(x:n<=10000000):yE s:=by
 have l:=h.iP c V;have i:=h.bu;have v:=h.dU;have u:=c.heap;have C:=OD h;have t:=l.depth;refine⟨⟨V,V⟩,λd i w a=>?_,λf b=>?_,V,V,λf b=>oh (l.ao f b)⟩
 .have k:=h.heap.cell d i;rcases Jk d.aQ 1 with e|e
  .have:=(k.wZ e).2.1 w a;exact⟨V,V⟩
  .rcases(k.oX V).1 w a with e|⟨e,j,g,_⟩
   .exact⟨by have:=e.1;omega,oh e.2⟩
   .have:=aw g;have:=iv e;exact⟨V,V⟩
 .let⟨k,o⟩:=List.mem_iff_getElem?.1 b;have F:=C.ao k f o;refine⟨λw a=>⟨?_,c.vh f b w a⟩,λr p=>?_,λw a=>?_⟩
  .rcases(h.ao f b).Sb w a with e|e
   .have:=e.1;omega
   .omega
  .let⟨m,j⟩:=List.mem_iff_getElem?.1 p;have:=F.lr;have:=F.lo;have:=aw j;let⟨w,a⟩:=cG f.ak m;have:=(F.ak.dz m w r a j).2.1;exact⟨V,V⟩
  .rcases C.ba.cL f b w a with e|⟨e,g⟩
   .exact⟨V,V⟩
   .have:=iv e;exact⟨V,V⟩
structure Mv(n:Nat)(ro:Nat->Nat)(M:E)(ro':Nat->Nat)(M':E):Prop where
 size:M.size<=M'.size
 eA:∀b,b<M.size->n<=b->M'[b]? =M[b]?
 gW:∀b,b<M.size->ro' b=ro b
 new:∀b,M'.size<=b->ro' b=0
 jK:∀b,b<n->ro b=0
section
variable{n:Nat}{a d:Nat->Nat}{M b:E}
def iJ.mv{e f k:Nat}{s:O}{l:List Ce}(h:iJ a M e f k s l)(v:Mv n a M d b)(g:k≠0):iJ d b e f k s l:=
 h.eA (λc=>v.eA _ (h.D c).1 (Hx λe=>g (by rw[<-(h.D c).2];exact v.jK _ e))) λc=>v.gW _ (h.D c).1
def dL.mv{i:O}{h:List bN}(q:dL n a M i h)(v:Mv n a M d b):dL n d b i h:=by
 let⟨l,j,a2,a3⟩:=q;refine⟨l,j.mv v bn,a2.mono λs r⟨o,m,f,g⟩=>⟨o,m,iT f λc=>v.eA _ (iI f c) (g c).2.1,λc=>?_⟩,a3⟩;let⟨g1,g2,k,tail,p,e⟩:=g c;exact⟨(v.gW _ e.lt).trans g1,g2,k,tail,p,e.congr (v.eA _ e.lt g2)⟩
def Td.mv{i:Nat}{c:List Ce}{f:aY}(v:Mv n a M d b):Td a M i c f->Td d b i c f:=λ⟨r,o,k,j,e,g,h⟩=>⟨r,o,k,j,e.mv v V,g.mv v V,h.mv v V⟩
def th.mv{e:O}{g:List aY}{f:aY}{r o h:O}{c:List (List Ce)}(T:th a M e g f r o h c)(v:Mv n a M d b):th d b e g f r o h c:=
 ⟨T.qt.mv v bn,T.len,T.size,λm i j k l=>(T.dz m i j k l).mv v,T.ak.mv v V,T.aR.mv v V,T.ba.mv v V⟩
def nJ.mv{c:O}{e:List aY}(l:nJ a M c e)(v:Mv n a M d b):nJ d b c e:=by
 let⟨g,h⟩:=l;exact⟨g,h.qt.mv v bn,h.len,h.size,λm f i j k=>(h.dz m f i j k).mv v⟩
def th.put{d:O}{b:List aY}{f g:aY}{s o p n m j:O}{h:List (List Ce)}(T:th a M d b f s o p h)(v:∀e,M.size<=e->a e=0){i:Nat}(w:i<6){c:Ce}
 (u:je [.i f.fG,.i f.pc,.i f.dst,.s s,.s o,.s p] i [c]=[.i g.fG,.i g.pc,.i g.dst,.s n,.s m,.s j])(t:iJ a M aA 1 (10+3*b.length) n (g.ak.map Ce.i))(q:iJ a M aA 1 (11+3*b.length) m (g.aR.map Ce.i))(r:iJ a M aA 1 (12+3*b.length) j (g.ba.map Ce.i)):
 fL M d.D (d.off+b.length*6+i) 1/\th a (ah M d.D (d.off+b.length*6+i) [c]) d b g n m j h/\dm (λk=>4<=k/\k≠9) a M a (ah M d.D (d.off+b.length*6+i) [c]):=by
 have e:dm (λk=>k=4) a M a (ah M d.D (d.off+b.length*6+i) [c]):=dm.ah v T.D.1 _ _
 have l:h.flatten.length=b.length*6:=by rw[cw T.size,T.len]
 refine⟨by rw[di];exact T.qt.wr (by simp only[be,l,aZ,eW];omega),⟨?_,T.len,T.size,T.yp e λk q r=>V,t.eH e V,q.eH e V,r.eH e V⟩,e.mono λk x=>V⟩
 have:=T.qt.set (o:=b.length*6+i) (new:=[c]) (by simp[l];omega)
 rw[lF _ _ _ _ V,l,Hw,u]at this
 rw[di];exact this
end
structure SO(n:Nat)(ro:Nat->Nat)(M:E)(aS hp fr:O)(s:St):Prop where
 le:n<=M.size
 jK:∀b,b<n->ro b=0
 new:∀b,M.size<=b->ro b=0
 aS:iJ ro M aA 1 2 aS (s.aS.map Ce.i)
 heap:dL n ro M hp s.heap
 ao:nJ ro M fr s.ao
structure FS(s:St):Prop where
 vh:yE s
 iP:zL s
 lo:s.aS.length<=1000000/\s.heap.length<=1000000
section
variable{n:Nat}{a e:Nat->Nat}{M b:E}{aS d c:O}{s:St}
def SO.of(N:pC (M.extract 0 n) a M aS d c s)(h:n<=M.size):SO n a M aS d c s:=⟨h,λb e=>N.bs.jK b (by rw[mg h];exact e),N.bs.new,N.aS,by have:=N.heap;rwa[mg h]at this,N.ao⟩
def SO.mv(w:SO n a M aS d c s)(v:Mv n a M e b):SO n e b aS d c s:=⟨bI w.le v.size,λf g=>(v.gW f (aO g w.le)).trans (w.jK f g),v.new,w.aS.mv v bn,w.heap.mv v,w.ao.mv v⟩
def SO.mvF(w:SO n a M aS d c s){h:Nat}(f:Fz [h] M b)(j:h<n):Mv n a M a b:=⟨f.size,λe g i=>f.same e g bF,λ_ _=>rfl,λe g=>w.new e (bI f.size g),w.jK⟩
def SO.eH{p:Nat->Prop}(w:SO n a M aS d c s)(C:dm p a M e b):n<=b.size/\(∀f,f<n->e f=0)/\∀f,b.size<=f->e f=0:=⟨bI w.le C.size,λf g=>(C.gW f (aO g w.le)).trans (w.jK f g),C.new⟩
def SO.box(w:SO n a M aS d c s){b:Nat}(g:a b=1)(o:Nat)(l:List Ce):SO n a (ah M b o l) aS d c s:=by
 have C:dm (λk=>k=1) a M a (ah M b o l):=dm.ah w.new g _ _;let⟨e,b,f⟩:=w.eH C;exact⟨e,b,f,w.aS.eH C bn,w.heap.eH C bn bn,w.ao.eH C λk h=>V⟩
def SO.Ip(w:SO n a M aS d c s)(C:dm (λk=>k=2) a M e b){l:List Int}(A:iJ e b aA 1 2 q (l.map Ce.i)):SO n e b q d c {s with aS:=l}:=
 let⟨f,g,h⟩:=w.eH C
 ⟨f,g,h,A,w.heap.eH C bn bn,w.ao.eH C λk i=>V⟩
def SO.gE(w:SO n a M aS d c s)(C:dm (λk=>k=3) a M e b){h:List bN}(A:dL n e b q h):SO n e b aS q c {s with heap:=h}:=
 let⟨f,g,i⟩:=w.eH C
 ⟨f,g,i,w.aS.eH C bn,A,w.ao.eH C λk j=>V⟩
def SO.jM(w:SO n a M aS d c s)(C:dm (λk=>4<=k/\k≠9) a M e b){l:List aY}(A:nJ e b q l):SO n e b aS d q {s with ao:=l}:=
 let⟨f,g,h⟩:=w.eH C
 ⟨f,g,h,w.aS.eH C bn,w.heap.eH C bn bn,A⟩
def SO.Ap(w:SO n a M aS d c s)(h:zL s):gC M aS d c s:=⟨w.aS.nM (oh h.aS),w.heap.cells (oh h.heap),w.ao.Ap (oh h.depth) h.ao⟩
end
end
section
variable{K:Int->E->Prop}{p:Nat->Prop}
def SP(n h:Nat)(f:O)(g:E)(P:Nat)(v:Value)(a:E):Prop:=∃aS e d s,v=MD s aS e d/\(∀c,a.size<=c.size->(∀b,b<a.size->n<=b->c[b]? =a[b]?)->gC c aS e d s)/\yE s/\(s.aS.length<=1000000/\s.heap.length<=1000000)/\Rs h f g P a
structure SQ(n rb:Nat)(bs:O)(ma:E)(k1 k2 Q:Nat)(ro:Nat->Nat)(M:E)(aS hp fr:O)(s:St):Prop where
 w:SO n ro M aS hp fr s
 r:Rs rb bs ma Q M
 k1:ro k1=1/\k1<M.size/\n<=k1
 k2:ro k2=1/\k2<M.size/\n<=k2
 fs:FS s
section
variable{n b m q Q w P t:Nat}{j aS h f:O}{e M d:E}{r u:Nat->Nat}{s v:St}{L:List Nat}
def SQ.fz(a:SQ n b j e m q Q r M aS h f s)(g:b<n)(c:Fz [b] M d)(i:Rs b j e w d):SQ n b j e m q w r d aS h f s:=
 ⟨a.w.mv (a.w.mvF c g),i,⟨a.k1.1,aO a.k1.2.1 c.size,a.k1.2.2⟩,⟨a.k2.1,aO a.k2.2.1 c.size,a.k2.2.2⟩,a.fs⟩
def SQ.ext(a:SQ n b j e m q Q r M aS h f s)(c:b<n)(x:J M d):SQ n b j e m q Q r d aS h f s:=a.fz c (x.fz _) (a.r.ext x)
def SQ.gJ(c:SQ n b j e m q Q r M aS h f s)(o:b<n)(k:∀a∈L,a=m\/a=q)(i:Fz [b] M d):eF L M d:=i.dq λa l=>by
 have:=c.k1;have:=c.k2;rcases k a l with g|g<;>simp only[lI]<;>omega
def SQ.gk(a:SQ n b j e m q Q r M aS h f s)(g:b<n)(c:Fz [b] M d)(o:Nat):af d q o=af M q o:=aE (c.same _ a.k2.2.1 (by have:=a.k2;simp only[lI];omega)) o
def SQ.done(a:SQ n b j e m q Q r M aS h f s)(v:Rd b j t e)(C:e.size<=n)(x:Q<=P){o c g p:Int}(A:HB g)(l:List Ce):SP n b j e P (.agg #[vi o,vi c,vi g,vi p,O.v aS,O.v h,O.v f]) (ah M m 0 l):=by
 have w:=a.w.box a.k1.1 0 l;have u:=a.r.put v (k:=m) (oh a.k1) 0 l;exact⟨aS,h,f,⟨o,c,g,p,s.aS,s.heap,s.ao⟩,rfl,λd z B=>have i:=(w.mv ⟨z,B,λ_ _=>rfl,λc y=>w.new c (bI z y),w.jK⟩).Ap a.fs.iP;⟨i.aS,i.heap,i.ao⟩,⟨A,a.fs.vh.heap,a.fs.vh.ao,a.fs.vh.lh,a.fs.vh.lf,a.fs.vh.lr⟩,a.fs.lo,u.f,u.r.mono x⟩
def SQ.box(a:SQ n b j e m q Q r M aS h f s)(c:Rd b j t e)(d:e.size<=n)(o:Nat)(l:List Ce):SQ n b j e m q Q r (ah M q o l) aS h f s:=
 ⟨a.w.box a.k2.1 o l,a.r.put c (oh a.k2) o l,by rw[av];exact a.k1,by rw[av];exact a.k2,a.fs⟩
def SQ.lM(l:SQ n b j e m q Q r M aS h f s)(g:b<n)(u:Q<=10^16)(p:∀a∈L,a=m\/a=q)(a:List Int){c:List Ce}{i:Nat}(w:c=a.map Ce.i)(v:i=a.length)(z:0<a.length/\a.length<=100)
 (y:∀t d,t∈a->SQ n b j e m q (Q+1) r d aS h f s->Fz [b] (M.push (.cells (bt c) aA)) d->K t d):aN cq 39 [vp b 0,O.v (.mk M.size 0 i i)] (M.push (.cells (bt c) aA)) λC d=>eF L (M.push (.cells (bt c) aA)) d/\∃t:Int,C=vi t/\K t d:=
 have x:=J.push M (.cells (bt c) aA)
 (yo l.r u a w v z).mono λ_ d⟨t,o,A,B,k⟩=>⟨(l.ext g x).gJ g p k,t,o,y t d A ((l.ext g x).fz g k B) k⟩
def SQ.pick(c:SQ n b j e m q Q r M aS h f s)(i:b<n)(o:Q<=10^16)(l:∀a∈L,a=m\/a=q)(g:Int)
 (p:∀t d,0<=t->(t<g\/t=0)->SQ n b j e m q (Q+1) r d aS h f s->Fz [b] M d->K t d):aN cq 40 [vp b 0,vi g] M λw d=>eF L M d/\∃t:Int,w=vi t/\K t d:=
 (bY c.r.r o g).mono λ_ d⟨t,k,v,t1,u,a⟩=>⟨c.gJ i l a,t,k,p t d v t1 (c.fz i a (c.r.to a u)) a⟩
def SQ.eH(a:SQ n b j e m q Q r M aS h f s)(l:Rd b j t e)(E:e.size<=n)(C:dm p r M u d)(h:∀k,p k->2<=k){x o k:O}(B:SO n u d x o k v)(z:FS v):SQ n b j e m q Q u d x o k v:=
 have D:=l.lt
 have w:∀c,c<n->d[c]? =M[c]? :=λc g=>C.eA c (aO g a.w.le) λy=>by have:=h _ y;have:=a.w.jK c g;omega
 have i:Fz [b] e d:=⟨bI a.r.f.size C.size,λc g A=>(w c V).trans (a.r.f.same c g A)⟩
 ⟨B,⟨i,l.MU a.r.r i (w b V)⟩,⟨(C.gW _ a.k1.2.1).trans a.k1.1,aO a.k1.2.1 C.size,a.k1.2.2⟩,⟨(C.gW _ a.k2.2.1).trans a.k2.1,aO a.k2.2.1 C.size,a.k2.2.2⟩,z⟩
def SQ.dq(g:SQ n b j e m q Q r M aS h f s)(i:∀a∈L,a=m\/a=q)(C:dm p r M u d)(h:∀k,p k->2<=k):eF L M d:=λa k=>by
 have l:=g.k1;have a2:=g.k2;rcases i a k with c|c<;>subst c<;>exact C.eA _ V λc=>by have:=h _ c;omega
def SQ.fW(t:SQ n b j e m q Q r M aS h f s)(u:cO ((f.len:Int) -1)>=0):∃a g l o k d,s.ao=a++[g]/\th r M f a g l o k d/\cO ((f.len:Int) -1)=(a.length:Int)/\f.len=a.length+1:=by
 have F:=t.w.ao;have p:=t.fs.iP.depth;rcases List.eq_nil_or_concat s.ao with c|⟨a,g,c⟩
 .rw[c]at F;let⟨d,i⟩:=F;have:=i.qt.len;rw[cw i.size,i.len]at this;simp only[eW]at this;rw[aP V V]at u;omega
 .rw[List.concat_eq_append]at c;rw[c]at F p;let⟨l,o,k,d,T⟩:=F.fW;have:=T.yh;simp at p;exact⟨a,g,l,o,k,d,c,T,by rw[aP V V];omega,this⟩
def FS.fW(h:FS s){d:List aY}{j g:aY}(i:s.ao=d++[j])(k:Sk g)(l:g.ak.length<=1000000/\g.aR.length<=1000000/\g.ba.length<=1000000):FS {s with ao:=d++[g]}:=by
 have b:=h.vh;have c:=h.iP;have e:∀x∈d,x∈s.ao:=λx a=>by rw[i];simp[a]
 have f:=c.depth;rw[i]at f;simp at f;refine⟨⟨b.bu,b.heap,λx a=>?_,b.lh,bF,λx a=>?_⟩,⟨c.aS,c.fl,c.heap,bF,λx a=>?_⟩,h.lo⟩<;>rcases List.mem_append.1 a with a|a
 .exact b.ao x (e x a)
 .simp at a;rw[a];exact k
 .exact b.lr x (e x a)
 .simp at a;rw[a];omega
 .exact c.ao x (e x a)
 .simp at a;rw[a];exact l
def SQ.tf(c:SQ n b j e m q Q r M aS h f s)(o:Rd b j t e)(p:e.size<=n){l:List aY}{z g:aY}(y:s.ao=l++[z]){J H I:O}{w:List (List Ce)}(T:th r d f l g J H I w)(C:dm (λk=>4<=k/\k≠9) r M r d)(E:Sk g)(G:g.ak.length<=1000000/\g.aR.length<=1000000/\g.ba.length<=1000000)
 (A:∀a∈L,a=m\/a=q)(B:Q<=P){v a i x:Int}(D:HB i)(u:List Ce):eF L M d/\SP n b j e P (.agg #[vi v,vi a,vi i,vi x,O.v aS,O.v h,O.v f]) (ah d m 0 u):=
 ⟨c.dq A C λk F=>V,(c.eH o p C (λk F=>V) (c.w.jM C T.tf) (c.fs.fW y E G)).done o p B D u⟩
def He{im:cT}(I:Rd b j t e)(Q:e.size<=n)(aa:SO n r M aS h f s)(ae:Rs b j e P M)(hP:P+100<=10^16)(ok:cY im s)(hS:Sm 100000 s):aN cq 54 [vp b 0,MD s aS h f] M (SP n b j e (P+6)):=by
 apply zo (b,0);simp(config:={maxSteps:=1000000}) -zeta only[aD,aC];have k:b<n:=by have:=I.lt;omega
 have le:=aa.le;intro S m2;have s1:S.size=M.size+1:=by simp[S]
 have s2:m2.size=M.size+2:=by simp[m2,s1]
 have x2:J M m2:=(J.push M _).trans (J.push S _);clear_value m2;clear_value S;have q2:SQ n b j e S.size M.size P (oA (oA r M.size 1) S.size 1) m2 aS h f s:=⟨aa.mv ⟨x2.size,λW hb _=>x2.same W hb,λW hb=>by rw[eV V,eV V],λW hb=>by rw[eV V,eV V];exact aa.new W V,aa.jK⟩,ae.ext x2,⟨fJ _ _ _,V,V⟩,⟨by rw[eV V];exact fJ _ _ _,V,V⟩,⟨ok.Yr hS V,ok.iP hS V,oh hS.aS,oh hS.heap⟩⟩;generalize oA (oA r M.size 1) S.size 1=ro2 at q2;have D:∀W∈[S.size,M.size],W=S.size\/W=M.size:=aL;have hc:=q2.fs.vh.bu;have ay:=ok.dU;refine q2.pick k V D 30 λaz y _ _ m f3=>?_;have ai:SP n b j e (P+6) (.agg #[vi s.cE,vi s.value,vi s.bu,vi s.dU,O.v aS,O.v h,O.v f]) (ah y S.size 0 [.i s.cE,.i s.value,.i s.bu,.i s.dU,.s aS,.s h,.s f]):=m.done I Q V hc _;have Gl:∀p∈s.ao,(1<=p.ak.length/\p.ak.length<=2000)/\p.aR.length<=2000/\1<=p.ba.length:=λp hf=>by
  have hG:=ok.ao p hf;obtain⟨pg,_,au,ao,_⟩:=hG.Jt ok.fy;have R:=hG.lr;have W:=hG.lo;have X:=hG.lh;rw[au]at R W X;have:=ao.ak;omega
 have Kr:∀(R:O)(fb H:Nat)(ls:List Int){C:List Ce}{X:Nat},ro2 fb=4->fb<y.size->C=ls.map Ce.i->X=ls.length->0<ls.length/\ls.length<=100->∀{ak:Int->Int->E->Prop},(∀F x d,0<=F->(F<(R.len:Int)\/F=0)->x∈ls->SQ n b j e S.size M.size (P+3) ro2 d aS h f s->Mv n ro2 y ro2 d->ak F x d)->
  (aN cq 40 [vp b 0,vi (R.len:Int)] y λK v=>eF [S.size,M.size] y v/\∃F:Int,K=vi F/\af v fb H=af y fb H/\af v M.size 6=af y M.size 6/\(af (v.push (.cells (bt C) aA)) fb H=af v fb H/\af (v.push (.cells (bt C) aA)) M.size 6=af v M.size 6/\af (v.push (.cells (bt C) aA)) fb H=af v fb H/\af (v.push (.cells (bt C) aA)) M.size 6=af v M.size 6/\
   aN cq 39 [vp b 0,O.v (.mk v.size 0 X X)] (v.push (.cells (bt C) aA)) λK G=>eF [S.size,M.size] (v.push (.cells (bt C) aA)) G/\∃x:Int,K=vi x/\af G fb H=af (v.push (.cells (bt C) aA)) fb H/\af G M.size 6=af (v.push (.cells (bt C) aA)) M.size 6/\ak F x G))/\
  (af (y.push (.cells (bt C) aA)) fb H=af y fb H/\af (y.push (.cells (bt C) aA)) M.size 6=af y M.size 6/\af (y.push (.cells (bt C) aA)) fb H=af y fb H/\af (y.push (.cells (bt C) aA)) M.size 6=af y M.size 6/\
   aN cq 40 [vp b 0,vi (R.len:Int)] (y.push (.cells (bt C) aA)) λK v=>eF [S.size,M.size] (y.push (.cells (bt C) aA)) v/\∃F:Int,K=vi F/\af v fb H=af (y.push (.cells (bt C) aA)) fb H/\af v M.size 6=af (y.push (.cells (bt C) aA)) M.size 6/\
    aN cq 39 [vp b 0,O.v (.mk y.size 0 X X)] v λK G=>eF [S.size,M.size] v G/\∃x:Int,K=vi x/\af G fb H=af v fb H/\af G M.size 6=af v M.size 6/\ak F x G):=λR fb H ls C X h4 aw h1 h2 h3{ak} hX=>by
  have nb:fb∉[b]:=λw=>by simp at w;have:=q2.w.jK b k;rw[w]at h4;omega
  have ge:∀{M1 M2:E},y.size<=M1.size->Fz [b] M1 M2->af M2 fb H=af M1 fb H:=λav p=>aE (p.same fb V nb) H
  refine⟨?_,?_⟩
  .refine m.pick k V D (R.len:Int) λF v k0 ab A Z=>?_
   have T:=J.push v (.cells (bt C) aA)
   have z4:=Z.size
   refine⟨ge (ad _) Z,m.gk k Z _,ge z4 (T.fz _),A.gk k (T.fz _) _,ge z4 (T.fz _),A.gk k (T.fz _) _,A.lM k V D ls h1 h2 h3 λx G z q N=>⟨ge (bI z4 T.size) N,(A.ext k T).gk k N _,hX F x G k0 ab z q (m.w.mvF ((Z.trans (T.fz _)).trans N) k)⟩⟩
  .have U:=J.push y (.cells (bt C) aA)
   have A:=m.ext k U
   have z4:=U.size
   have L:ap (bH [b] (y.push (.cells (bt C) aA))) (.mk y.size 0 X X) ls:=ap.lit aA ls (by simp;exact m.r.r.lt) h1 h2 V
   refine⟨ge (ad _) (U.fz _),m.gk k (U.fz _) _,ge (ad _) (U.fz _),m.gk k (U.fz _) _,A.pick k V D (R.len:Int) λF m5 k0 ab B f5=>⟨ge z4 f5,A.gk k f5 _,?_⟩⟩
   refine(kE B.r.r V (ap.le (f5.df aL) L) h3.1).mono λ_ G⟨x,w,z,Y,N⟩=>⟨B.gJ k D N,x,w,ge (bI z4 f5.size) N,B.gk k N _,hX F x G k0 ab z (B.fz k N (B.r.to N Y)) (m.w.mvF (((U.fz _).trans f5).trans N) k)⟩
 refine⟨λ_=>m.lM k V D [0,1,2,3,4,-1] rfl rfl aL λx v _ A _=>(A.box I Q _ _).done I Q V hc _,λ_=>⟨λ_=>?_,λ_=>⟨λ_=>m.lM k V D [5,1000,0] rfl rfl aL λx v _ A _=>(A.box I Q _ _).done I Q V hc _,λ_=>⟨λ_=>?_,λ_=>⟨λ_=>?_,λ_=>⟨λ_=>⟨λz=>?_,λ_=>ai⟩,λ_=>⟨λ_=>⟨λz=>?_,λ_=>ai⟩,λ_=>⟨λ_=>⟨λz=>?_,λ_=>ai⟩,λ_=>⟨λ_=>⟨λz=>?_,λ_=>ai⟩,λ_=>⟨λ_=>⟨λz=>?_,λ_=>ai⟩,λ_=>ai⟩⟩⟩⟩⟩⟩⟩⟩⟩⟩
 .refine m.lM k V D [0,41,-1,cO (s.dU+1)] rfl rfl aL λx v z A _=>(A.box I Q _ _).done I Q V ?_ _;rw[aP V V]at z;simp at z;exact⟨V,V⟩
 .have U:=J.push y (.cells (bt [.i 5,.i 1000]) aA);refine⟨m.gk k (U.fz _) _,m.lM k V D [5,1000] rfl rfl aL λx m5 _ B f5=>⟨(m.ext k U).gk k f5 _,?_⟩⟩;intro G;have Y:J m5 G:=J.push _ _;have iD:fR G m5.size 0 [.i x]:=(cD.push m5 [.i x] aA).iD;clear_value G;have q:=B.ext k Y;have ol:=q.w.aS.len;have os:=hS.aS;simp at ol;refine⟨B.gk k (Y.fz _) _,q.w.aS.append (zs:=[.i 0]) q.w.new rfl iD bF λu ag m7 ac L=>⟨q.dq D L λF hk=>V,?_⟩⟩;have q7:=q.eH I Q L (λF hk=>V) (q.w.Ip (l:=s.aS++[x]) L (by rw[fu];exact ac)) ⟨⟨q.fs.vh.bu,q.fs.vh.heap,q.fs.vh.ao,q.fs.vh.lh,q.fs.vh.lf,q.fs.vh.lr⟩,⟨bF,q.fs.iP.fl,q.fs.iP.heap,q.fs.iP.depth,q.fs.iP.ao⟩,bF,q.fs.lo.2⟩;exact(q7.box I Q _ _).done I Q V hc _
 .have ax:=m.w.heap.len;refine⟨λh1=>?_,λ_=>ai⟩;simp only[kH,ar]at h1;refine m.pick k V D (h.len:Int) λR v a0 a1 A Z=>?_;let⟨X,al⟩:=cG s.heap R.toNat;obtain⟨_,g0,-⟩:=A.w.heap.cp al;have hb:=A.w.heap.D (a:=R.toNat) V;have nb:h.D≠b:=λw=>by have:=A.w.jK b k;rw[w]at hb;omega
  have T:=J.push v (.cells (bt [.i 1,.i (-1)]) aA);have e5:=λac=>aE (T.same _ hb.2) ac;refine⟨a0,V,_,g0,e5 _,A.gk k (T.fz _) _,A.gk k (T.fz _) _,A.lM k V D [1,-1] rfl rfl aL λx G _ q N=>?_⟩;have e6:=λac=>aE (N.same h.D (aO hb.2 T.size) (by simpa using nb)) ac;have B:=A.ext k T;refine⟨e6 _,B.gk k N _,B.gk k N _,a0,V,q.w.heap.wr (o:=0) V V,?_⟩;let⟨an,L⟩:=q.w.heap.rG q.w.new al (cO (X.aQ+x));have Y:=q.fs.vh;have aj:=q.fs.iP;refine⟨q.dq D L λF hk=>V,SQ.done (q.eH I Q L (λF hk=>V) (q.w.gE L an) ⟨⟨Y.bu,λam hx=>?_,Y.ao,by simpa using Y.lh,Y.lf,Y.lr⟩,⟨aj.aS,λam hx=>?_,by simpa using aj.heap,aj.depth,aj.ao⟩,by simpa using q.fs.lo⟩) I Q V hc _⟩
  .rcases cA hx with w|w
   .exact Y.heap am w
   .rw[w];exact Y.heap X (aq al)
  .rcases cA hx with w|w
   .exact aj.fl am w
   .rw[w];exact aj.fl X (aq al)
 .simp only[oD,ar]at z;have U:=J.push y (.cells (bt [.i 0,.i 1,.i 99,.i (-1)]) aA);refine⟨m.gk k (U.fz _) _,m.lM k V D [0,1,99,-1] rfl rfl aL λx m5 _ B f5=>⟨(m.ext k U).gk k f5 _,?_⟩⟩;let⟨fs,p,ae,ac,ag,aj,w,T,ew,el⟩:=B.fW z;have N:p∈s.ao:=by rw[w];simp
  have Y:=B.fs.vh.ao p N;have fl:=B.fs.iP.ao p N;rw[ew];let⟨wr,T',L⟩:=T.put (i:=1) (g:={p with pc:=x}) (c:=.i x) B.w.new bn rfl T.ak T.aR T.ba;exact⟨V,V,wr,B.tf I Q w T' L Y fl D V hc _⟩
 .simp only[oD,ar]at z;let⟨fs,p,ae,ac,ag,aj,w,T,ew,el⟩:=m.fW z;have N:p∈s.ao:=by rw[w];simp
  have Y:=m.fs.vh.ao p N;have fl:=m.fs.iP.ao p N;rw[ew];obtain⟨_,_,_,_,g4,_⟩:=T.iD;have hl:=Gl p N;refine⟨V,V,ac,g4,(qP m.r.r V (T.aR.nM V) V).mono λ_ v⟨R,l',e',am,an,hm,r4,Z⟩=>⟨m.gJ k D Z,R,e',m.gk k Z _,V,V,?_⟩⟩;have ax:=am.bh;have K:Mv n ro2 y (oA ro2 R.D (11+3*fs.length)) v:=⟨Z.size,λW hb al=>Z.same W hb bF,λW hb=>eV V,λW hb=>by rw[eV V];exact m.w.new W (bI Z.size hb),m.w.jK⟩;have z4:=Z.size;have ab:=m.k1;have al:=m.k2;have A:SQ n b j e S.size M.size (P+4) (oA ro2 R.D (11+3*fs.length)) v aS h f s:=⟨m.w.mv K,m.r.to Z r4,⟨(K.gW _ ab.2.1).trans ab.1,V,ab.2.2⟩,⟨(K.gW _ al.2.1).trans al.1,V,al.2.2⟩,m.fs⟩;have T4:=T.mv K;let⟨wr,T',L⟩:=T4.put (i:=4) (g:={p with aR:=l'}) (c:=.s R) A.w.new bn rfl T4.ak (iJ.gD (GI.aS am) λ_=>fJ _ _ _) T4.ba;exact⟨wr,A.tf I Q w T' L ⟨Y.1,λaa hw=>(hm aa hw).elim (Y.2.1 aa) λw=>⟨V,V⟩,Y.2.2⟩ ⟨fl.1,by show l'.length<=_;omega,fl.2.2⟩ D V hc _⟩
 .simp only[oD,ar]at z;let⟨fs,p,ae,ac,ag,aj,w,T,ew,el⟩:=m.fW z;have N:p∈s.ao:=by rw[w];simp
  have Y:=m.fs.vh.ao p N;have fl:=m.fs.iP.ao p N;have hl:=Gl p N;rw[ew];obtain⟨_,_,_,g3,_⟩:=T.iD;have Z:=T.ak.len;simp at Z;refine⟨V,V,ae,g3,V,V,ae,g3,Kr ae f.D _ [0,5,1000,1003,-1000] T.D.1 T.D.2 rfl rfl aL λF x G k0 ab z q K=>?_⟩;let⟨T',L⟩:=(T.mv K).Az q.w.new k0 V x;exact⟨k0,V,(T.mv K).ak.Of k0 V,q.tf I Q w T' L ⟨λaa hw=>(cA hw).elim (Y.1 aa) λw=>by simp at z;exact⟨V,V⟩,Y.2⟩ ⟨by show(p.ak.set _ _).length<=_;simp;omega,fl.2⟩ D V hc _⟩
 .simp only[oD,ar]at z;let⟨fs,p,ae,ac,ag,aj,w,T,ew,el⟩:=m.fW z;have N:p∈s.ao:=by rw[w];simp
  have Y:=m.fs.vh.ao p N;have fl:=m.fs.iP.ao p N;have hl:=Gl p N;rw[ew];obtain⟨_,_,_,_,_,g5⟩:=T.iD;have Z:=T.ba.len;simp at Z;refine⟨V,V,ag,g5,V,V,ag,g5,Kr ag f.D _ [1000,1,1001] T.D.1 T.D.2 rfl rfl aL λF x G k0 ab z q K=>?_⟩;let⟨T',L⟩:=(T.mv K).xu q.w.new k0 V x;exact⟨k0,V,(T.mv K).ba.Of k0 V,q.tf I Q w T' L ⟨Y.1,Y.2.1,λaa hw=>(cA hw).elim (Y.2.2 aa) λw=>by simp at z;exact⟨V,V⟩⟩ ⟨fl.1,fl.2.1,by show(p.ba.set _ _).length<=_;simp;omega⟩ D V hc _⟩
 .simp only[oD,ar]at z;have U:=J.push y (.cells (bt [.i 0,.i 1,.i 99,.i (-1)]) aA);refine⟨m.gk k (U.fz _) _,m.lM k V D [0,1,99,-1] rfl rfl aL λx m5 _ B f5=>⟨(m.ext k U).gk k f5 _,?_⟩⟩;let⟨fs,p,ae,ac,ag,aj,w,T,ew,el⟩:=B.fW z;have N:p∈s.ao:=by rw[w];simp
  have Y:=B.fs.vh.ao p N;have fl:=B.fs.iP.ao p N;rw[ew];let⟨wr,T',L⟩:=T.put (i:=2) (g:={p with dst:=x}) (c:=.i x) B.w.new bn rfl T.ak T.aR T.ba;exact⟨V,V,wr,B.tf I Q w T' L Y fl D V hc _⟩
end
end
section
def TX(S:List Nat)(m:E):(Vc.bH S m).size=m.size:=by simp[Vc.bH]
def TW{S:List Nat}{m:E}{b:Nat}(h:b∉S):(Vc.bH S m)[b]? =m[b]? :=by
 unfold Vc.bH;rw[XI];cases m[b]? <;>simp[h]
def AR(S:List Nat)(v:Value)(c:E):Prop:=∃d p e aS b a s,v=.tuple #[.agg #[O.v d,O.v p],MD s aS b a]/\fg (bH S c) d p e/\gC (bH S c) aS b a s/\yE s/\s.aS.length<=1000000/\s.heap.length<=1000000
section
variable{a:List Nat}{m:E}{b P:Nat}{c:O}
def Gx(D:∀d∈a,d<m.size)(q:b∈a)(k:Rd b c P m)(hP:P+3000+4*(300+40*Cg 18)<=10^16):aN cq 29 [vp b 0] m λO I=>AR a O I/\Fz [b] m I/\Rd b c (P+3000+4*(300+40*Cg 18)) I:=by
 apply yY (b,0);simp -zeta only[aD,aC];have v:=k.lt;intro e W;have b2:BS [e.size,m.size] b c m P W:=BS.psh (BS.lM (S:=a) k _).1 _;have s1:e.size=m.size+1:=by simp[e]
 clear_value W;refine b2.call (S:=a) v (λ_ d=>d) (JW (b2.hS D) (by simp[q]) b2.s.r V) λt w x h _ t3 b3 f3=>?_;intro m4 X;obtain⟨b5,l5,-⟩:=b3.box (S:=a) (m1:=m4) (m2:=X) rfl rfl rfl;clear_value X;have N:=IT.mn _ _ _ _ _ l5 t3;refine(tR (b:=⟨x.1,x.2⟩) ⟨N.1.le (bA _ _),iK.le (bA _ _) N.2⟩).mono λ_ f⟨O,l,hv,A⟩=>⟨(b5.lw v λ_ d=>d).dq (A.fz _),O,l,λp=>?_,λhy=>?_⟩;all_goals
  have b6:=b5.to (A.fz _) (b5.s.r.ext A)
  have z:=IT.mn _ _ _ _ _ (BS.le (B:=[h.size,e.size,m.size]) q (A.fz [b])) N
  have g:=b6.gJ
 .intro j K L;have u:J f j:=J.push _ _;have G:cD j f.size dP [.i 0,.i 0,.i 0,.s .nil,.s .nil,.s .nil]:=cD.push _ _ _;have R:=b6.to (u.fz _) (b6.s.r.ext u);have Z:=IT.mn _ _ _ _ _ (BS.le (B:=[h.size,e.size,m.size]) q (u.fz [b])) z;clear_value j;let⟨T,Y⟩:=R.put (S:=a) k (by simp:m.size∈_) [.s t,.s w];let⟨s,H⟩:=T.put (S:=a) k (by simp:e.size∈_) [.i 3,.i 0,.i 0,.i 0,.s .nil,.s .nil,.s (.mk f.size 0 1 1)];have C:=IT.mn _ _ _ _ _ ((Y.trans H).trans (iV _ λ_=>eD _)) Z;have ha:=g m.size aL;have i:=g e.size aL;have M:cD L f.size dP [.i 0,.i 0,.i 0,.s .nil,.s .nil,.s .nil]:=(G.congr (bd _ _ _ _ V)).congr (bd _ _ _ _ V);have U:f.size∉a:=λF=>by have:=D _ F;omega
  have o:∀{Q:E},ap Q .nil []:=⟨rfl,dH _,aL,aL⟩;refine⟨⟨t,w,⟨x.1,x.2⟩,.nil,.nil,.mk f.size 0 1 1,⟨3,0,0,0,[],[],[⟨0,0,0,[],[],[]⟩]⟩,rfl,⟨C.1,C.2⟩,⟨o,⟨rfl,dH _,aL,aL⟩,⟨rfl,ad _,aL,λy aa r=>?_⟩⟩,⟨⟨aL,aL⟩,by simp[Sn],by simp[Sk],aL,aL,aL⟩,aL⟩,s.s.f,s.s.r.mono V⟩;cases y with
  |zero=>
   simp at r;subst r;exact⟨_,⟨.nil,.nil,.nil,rfl,o,o,o⟩,Kw U M.iD⟩
  |succ y=>simp at r
 .have ok:ns ⟨x.1,x.2⟩:=hv.1 (by simpa using hy);have U:Le (bH ([h.size,e.size,m.size]++a) f) (bH [b] f):=iV _ (by simp[q]);refine(IF b6.s.r V (z.1.le U) (iK.le U z.2) ok).mono λ_ j⟨ak,ro,aS,hp,fr,ao,l,aa,p,ae,al,ab,r7,u⟩=>?_;have R:∀o,af j h.size o=af f h.size o:=λo=>kg u v (g _ aL) o;refine⟨(b6.lw v λ_ d=>d).dq u,_,_,_,_,aS,hp,fr,l,R _,R _,?_⟩;have an:b<f.size:=b6.s.r.lt;refine(He (n:=ak) b6.s.r p (SO.of aa ae) ⟨u,r7⟩ V al ab).mono λ_ K⟨M,G,C,r,l,ah,ac,ag,y⟩=>?_;have Y:∀d,d<f.size->d≠b->K[d]? =j[d]? :=λd i p=>(y.f.same d i (by simpa using p)).trans (u.same d i (by simpa using p)).symm;have T:∀o,af K h.size o=af j h.size o:=λo=>aE (Y _ (g _ aL).2 (oh (g h.size aL))) o;refine⟨λd i=>Y d (g d i).2 (oh (g d i)),_,_,_,_,M,G,C,l,T _,T _,?_⟩;intro L aj;have t8:=IT.mn _ _ _ _ _ (BS.le (B:=[h.size,e.size,m.size]) q y.f) z;let⟨s,H⟩:=(b6.to y.f y.r).put (S:=a) k (by simp:m.size∈_) [.s t,.s w];let⟨Q,ai⟩:=s.put (S:=a) k (by simp:e.size∈_) [.i r.cE,.i r.value,.i r.bu,.i r.dU,.s M,.s G,.s C];have Z:=IT.mn _ _ _ _ _ ((H.trans ai).trans (iV _ λ_=>eD _)) t8;have ha:=g m.size aL;have i:=g e.size aL;refine⟨⟨t,w,⟨x.1,x.2⟩,M,G,C,r,rfl,⟨Z.1,Z.2⟩,ah _ (by rw[TX];simp[aj,L,av]) λd _ am=>?_,ac,ag⟩,Q.s.f,Q.s.r.mono V⟩;rw[TW λF=>Ps (D d F) b6.s.f.size];exact(bd _ _ _ _ V).trans (bd _ _ _ _ V)
end
end
section
def Rx(f:Nat->Nat):∀n,∃B,∀i,i<n->f i<=B
 |0=>⟨0,aL⟩
 |n+1=>let⟨B,h⟩:=Rx f n;⟨B+f n,λi a=>by
  rcases aW i n with e|e
  .have:=h i e;omega
  .have:i=n:=V;subst this;omega⟩
def cY.DA{w:cT}{s:St}(e:cY w s)(m:s.cE=0):s.heap=[]:=by
 have g:=e.done.1 m;let⟨l,t⟩:=e.heap.MH;let⟨B,n⟩:=Rx l s.heap.length;apply dQ;intro q;have y:0<s.heap.length:=List.length_pos_iff.2 q;have gA:∀k,∃(b:Nat)(c:bN),s.heap[b]? =some c/\0<c.aQ/\k<=l b:=λk=>by
  induction k with
  |zero=>
   let⟨c,d⟩:=cG s.heap (s.heap.length -1);refine⟨_,c,d,?_,dH _⟩;have i:=e.jB c d;rcases Jk c.aQ 0 with f|f
   .have:=e.lg _ ⟨c,d,f⟩;rw[g]at this;simp[dG]at this
   .omega
  |succ k v=>
   let⟨b,c,d,r,p⟩:=v;have:=e.heap.ex b c d r;rw[g]at this;simp only[fA]at this;let⟨f,o,i⟩:=LH (h:=s.heap) (f:=b) V;let⟨j,hd⟩:=List.mem_iff_getElem?.1 o;have u:=t j f hd _ i V;rw[lC]at u;refine⟨j,f,hd,?_,V⟩;apply dQ;intro x;have:=((e.heap.cell f (aq hd)).wZ V).2.1 _ i;omega
 obtain⟨b,c,d,_,p⟩:=gA (B+1);have:=n b (aw d);omega
def cY.hO{a:cT}{s:St}(h:cY a s):cY a {s with dU:=40}:=⟨h.fy,h.cE,h.done,h.value,h.ua,aL,⟨h.bu.1,by have:=h.bu;have:=h.dU;show s.bu<=40;omega⟩,h.depth,h.aS,h.heap,h.jB,h.ao,h.first,h.chain,h.lg,h.nm⟩
def gC.le{m f:E}{aS d c:O}{s:St}(b:gC m aS d c s)(a:Le m f):gC f aS d c s:=⟨b.aS.le a,eT.le b.heap a λk j⟨n,e,h⟩=>⟨n,e,h.le a⟩,eT.le b.ao a λk j⟨r,o,h,e,g,i,l⟩=>⟨r,o,h,e,g.le a,i.le a,l.le a⟩⟩
def LwR(m:E)(v:Value)(a:E):Prop:=v=vb true/\J m a
section
variable{m:E}{d p aS b a:O}{c:cT}{s:St}
end
end
section
section
variable{f:Nat->Bool}
end
section
variable{m:E}{d p aS b a:O}{c:cT}{s:St}
end
end
section
variable{c:E}{b:Nat->Nat}{a e:Nat}{f:List Ce}
def pC.VV{m:E}{aS i d:O}{s:St}(h:pC c b m aS i d s)(g:b a=1)(l:List Ce)(kb:cD (ah m a 0 l) a e f):vf c b (ah m a 0 l) a e f aS i d s.aS s.heap s.ao:=by
 have C:dm (λk=>k=1) b m b (ah m a 0 l):=dm.ah h.bs.new g _ _;let⟨b1,b2⟩:=(C.mono λk j=>by omega:To b m b _).cv h.bs.cv h.bs.jK;exact⟨b1,b2,C.new,kb,g,h.aS.eH C bn,h.heap.eH C bn bn,h.ao.eH C λk j=>V⟩
def vf.aaf{m:E}{aS g d:O}{s:St}(L:vf c b m a e f aS g d s.aS s.heap s.ao):pC c b m aS g d s:=⟨⟨L.cv,L.jK,L.new⟩,L.aS,L.heap,L.ao⟩
section
variable{h:E}{d p aS j i:O}{g:cT}{s:St}
def MkL(a:E)(d p:O)(g:cT)(s:St)(o:Nat×Nat)(M:E):Prop:=o.2=0/\∃b aS j i,vf a b M o.1 bK (IB d p (cg g) s aS j i) aS j i s.aS s.heap s.ao
abbrev vG:List Ce:=[.s O.nil,.s O.nil,.i 0,.i 0,.i 0,.i 0,.i 0,.s O.nil,.s O.nil,.s O.nil]
variable(k:fg h d p g)(q:gC h aS j i s)(l:yE s)(r:s.aS.length<=10000000)
include k q l r
def qG(R:Int):aN cq 19 [.agg #[O.v d,O.v p],MD s aS j i,vi R] h (UL h (qu g s R)):=by
 apply Cs;simp -zeta only[aD,aC];intro W Q X;have s1:W.size=h.size+1:=by simp[W]
 have s2:Q.size=h.size+2:=by simp[Q,s1]
 have s3:X.size=h.size+3:=by simp[X,s2]
 have S:J h X:=(((J.az h).aK _).aK _).aK _;clear_value X;have N:∀v∈[Q.size,W.size,h.size],v<X.size:=bF;refine(tw (k.ext S) (q.ext S) l).aH (J.az _) N λb4 D ak I _=>⟨b4,rfl,λh1=>Hv S I V (by unfold qu;rw[ae λc=>nb ak h1 c.1]) _,λh1=>?_⟩;have U:=yb ak h1;refine⟨λh2=>Hv S I V (by unfold qu;rw[ae λc=>by simp at h2;omega]) _,λh2=>⟨λT=>Hv S I V (by unfold qu;rw[ae λc=>by simp at T;omega]) _,λT=>?_⟩⟩;have hm:0<=R/\R<=100000:=by simp at h2 T;omega
 obtain⟨A,rfl⟩:∃A:Nat,R=A:=⟨R.toNat,V⟩;have hr:qu g s (A:Int)=⟨aB g A s,true⟩:=by unfold qu;rw[an ⟨U,hm⟩];simp
 rw[hr];have X4:=S.trans I;have z4:=I.size;have aj:=TS l r;have aw:=U.iP aj V;have ht:=U.fy.nT.types;have cc:∀{M:E},J D M->HA cq 31 [O.v d] M (vi (cg g)):=λP=>qH (k.ext (X4.trans P)).bo ht.len (λc hd=>OE ht c hd);have c:∀{M x:E}{v:Nat},J M x->v<M.size->∀K,af x v K=af M v K:=λP aq K=>aE (P.same _ aq) K;have cl:∀{b:Nat->Nat}{M:E}{ai:Value->E->Prop},Bs D b M->(∀v,b v<=1)->(∀aa B z y x,pC D aa x B z y s->dm (λ_=>False) b M aa x->J M x->M.size<=x.size->ai (MD s B z y) x)->aN cq 32 [MD s aS j i] M ai:=λag av hK=>
  (Ee ag av (q.ext (X4.trans ag.cv)) aw).mono λ_ x⟨aa,B,z,y,e,ao,ab⟩=>by rw[e];exact hK aa B z y x ao ab ab.va ab.size
 have al:∀{M x:E},J D M->x=M.push (.cells (bt vG) bK)->Bs D (oA (λ_=>0) M.size 1) x/\(∀v,oA (λ_=>0) M.size 1 v<=1)/\cD x M.size bK vG:=λP e=>by
  have hz:=P.size;subst e;refine⟨⟨P.aK _,λv C=>eV V,λv C=>eV (by simp at C;omega)⟩,λv=>?_,cD.push _ _ _⟩;unfold oA;split
  .omega
  .exact dH _
 refine⟨MkL D d p g s,⟨?_,?_⟩,?_⟩
 .refine(cc (J.az _)).mono ?_;rintro _ G ⟨rfl,u⟩;have z5:=u.size;refine⟨u.dq λv C=>I.lt (N v C),_,rfl,c u V _,c u V _,c u V _,c u V _,c u V _,c u V _,c u V _,c u V _,c u V _,?_,?_⟩
  .refine cl (b:=λ_=>0) ⟨u,λ_ _=>rfl,λ_ _=>rfl⟩ (λ_=>dH _) λH B z y t F Z f z6=>?_;refine⟨f.dq λv C=>u.lt (I.lt (N v C)),_,_,_,_,B,z,y,rfl,c f V _,c f V _,?_⟩;intro L;have w:J t L:=J.push t _;have kb:cD L t.size bK vG:=cD.push t _ _;refine⟨c w V _,c w V _,c w V _,c w V _,c w V _,c w V _,c w V _,c w V _,c w V _,c w V _,rfl,oA H t.size 1,B,z,y,?_⟩;have Y:J t (ah L t.size 0 [.s d,.s p,.i (cg g),.i s.cE,.i s.value,.i s.bu,.i s.dU,.s B,.s z,.s y]):=w.ah (ad _) _ _;exact F.cQ Y (ad _) (cD.ah (m:=L) (o:=0) kb)
  .intro t;have f:J G t:=J.push G _;have s6:t.size=G.size+1:=by simp[t]
   let⟨B6,ac,kb⟩:=al (x:=t) u rfl;clear_value t;refine⟨c f V _,c f V _,c f V _,c f V _,c f V _,c f V _,c f V _,c f V _,c f V _,c f V _,cl B6 ac λY B z y L Z F w z7=>?_⟩;refine⟨w.dq bF,_,_,_,_,B,z,y,rfl,c w V _,c w V _,rfl,Y,B,z,y,?_⟩;exact Z.VV (by rw[F.gW _ V];exact fJ _ _ _) _ (cD.ah (m:=L) (o:=0) (kb.ext w))
 .intro G;have u:J D G:=J.push D _;have s5:G.size=D.size+1:=by simp[G]
  let⟨B5,ac,kb⟩:=al (x:=G) (J.az D) rfl;clear_value G;refine⟨c u V _,c u V _,c u V _,c u V _,c u V _,c u V _,c u V _,c u V _,c u V _,c u V _,(cc u).mono ?_⟩;rintro _ t ⟨rfl,f⟩;have z6:=f.size;refine⟨f.dq bF,_,rfl,c f V _,c f V _,c f V _,c f V _,c f V _,c f V _,c f V _,c f V _,c f V _,cl (B5.eH (dm.eG _ f B5.new)) ac λY B z y L Z F w z7=>?_⟩;refine⟨w.dq bF,_,_,_,_,B,z,y,rfl,c w V _,c w V _,rfl,Y,B,z,y,?_⟩;exact Z.VV (by rw[F.gW _ V];exact fJ _ _ _) _ (cD.ah (m:=L) (o:=0) (kb.ext (f.trans w)))
 .rintro⟨a,mo⟩ G ⟨rfl,am,o5,h5,f5,Z⟩;simp only[]at Z;have B5:zE am G [Q.size,W.size,h.size]:=λv C=>⟨Z.cv.lt (I.lt (N v C)),Z.jK v (I.lt (N v C))⟩;have iH:∀{f:Nat}{t:E},aB g A s=aB g f s->(∃H o6 F w,vf D H t a bK (IB d p (cg g) (aB g f s) o6 F w) o6 F w (aB g f s).aS (aB g f s).heap (aB g f s).ao)->
   ∃v0:Int,af t a (0+3)=some (vi v0)/\∃v1:Int,af t a (0+3+1)=some (vi v1)/\∃v2:Int,af t a (0+3+2)=some (vi v2)/\∃v3:Int,af t a (0+3+3)=some (vi v3)/\
   ∃v4:O,af t a (0+3+4)=some (O.v v4)/\∃v5:O,af t a (0+3+5)=some (O.v v5)/\∃v6:O,af t a (0+3+6)=some (O.v v6)/\
   UL h ⟨aB g A s,true⟩ (.tuple #[.agg #[vi v0,vi v1,vi v2,vi v3,O.v v4,O.v v5,O.v v6],vb true]) (ah t Q.size 0 [.i v0,.i v1,.i v2,.i v3,.s v4,.s v5,.s v6]):=λ{f t} e⟨H,o6,F,w,u⟩=>by
   rw[e]
   exact⟨_,u.box.cp 3,_,u.box.cp 4,_,u.box.cp 5,_,u.box.cp 6,o6,u.box.cp 7,F,u.box.cp 8,w,u.box.cp 9,H,o6,F,w,rfl,u.aaf.box X4 V V _ _⟩
  refine⟨λK M=>∃f:Nat,K=f/\f<=A/\∃H o6 F w,vf D H M a bK (IB d p (cg g) (aB g f s) o6 F w) o6 F w (aB g f s).aS (aB g f s).heap (aB g f s).ao,λK _=>((A:Int) -K).toNat,⟨0,rfl,dH _,am,o5,h5,f5,Z⟩,?_⟩;rintro K t ⟨f,rfl,hk,H,o6,F,w,u⟩;have au:=tT f U;have ac:=tU f U aj V;have B6:zE H t [Q.size,W.size,h.size]:=λv C=>⟨u.cv.lt (I.lt (N v C)),u.jK v (I.lt (N v C))⟩;refine⟨λh7=>⟨_,u.box.cp 3,λh8=>?_,λh8=>?_⟩,λh7=>?_⟩
  .simp only[ar]at h7;refine(OS u (k.ext X4) au ac.vh (oh ac.heap) (oh ac.aS)).mono ?_;rintro _ L ⟨Y,o7,ap,f7,L7,t7⟩;have e:cO ((f:Int)+1)=((f+1:Nat):Int):=jW (n:=A) V V;rw[e];refine⟨t7.dJ B6,⟨f+1,rfl,V,Y,o7,ap,f7,by rw[Fq];exact L7⟩,?_⟩;show((A:Int) -((f+1:Nat):Int)).toNat<((A:Int) -(f:Int)).toNat;omega
  .simp at h8;refine iH ?_ ⟨H,o6,F,w,u⟩;have T:A=f+(A -f):=V;rw[T,Je,vB _ h8]
  .simp only[bE]at h7;have:f=A:=V;subst this;exact iH rfl ⟨H,o6,F,w,u⟩
end
end
section
def St.gV(s:St)(n:Int):St:={s with dU:=n}
section
variable{a:cT}{s:St}{f:aY}{x:Instr}{o:List Int}{b:List aY}
def lp.gV{n:Int}(h:lp a s f x o):lp a (s.gV n) f x o:=⟨h.nn,h.dst,h.nM,h.jg,h.cR,h.zero,h.ret,h.apply,h.Xa,h.drop,h.NQ,h.load,h.Fs⟩
structure aak(s t:St):Prop where
 dU:t.dU=s.dU
 bu:s.bu<=t.bu
 aS:s.aS<+:t.aS
 cE:t.cE=s.cE\/t.cE=0
end
end
structure WZ where
 aB:Int
 Oy:Int
 OZ:Int
 U7:Int
 RG:Int
 Xj:Int
 depth:Int
 O8:Int
def mx(a b:Int):Int:=if b>a then b else a
def VX:List bN->Int
 |[]=>0
 |c::h=>(if 0<c.aQ then 1 else 0)+VX h
def Za(n:Int):List bN->Int
 |[]=>n
 |c::h=>Za (mx n c.aQ) h
def fQ.nv{h:List bN}{b:Nat}(d:fQ (nv h) b):fQ h b:=by
 let⟨c,a,e⟩:=d;unfold Go.Proofs.YtkoifinbblcbiaaGreat.nv at a;rw[lH]at a;split at a
 .exact⟨c,a,e⟩
 .simp at a
def fQ.Gv{h:List bN}{w:Int}(e:gA h w)(c:bN){b:Nat}(d:fQ (h.set (ix w) c) b):fQ h b:=by
 by_cases a:b=ix w
 .subst a;exact e.2
 .exact(fQ.ne a).1 d
def fQ.ji:∀(a:List Int)(h:List bN)(b:Nat),(∀w∈a,gA h w)->fQ (ji h a) b->fQ h b
 |[],_,_,_,c=>c
 |w::a,h,b,d,c=>by
  have e:=d w bg;exact(fQ.mT e b).1 (fQ.ji a _ b (λv f=>⟨(d v (ai _ f)).1,(fQ.mT e _).2 (d v (ai _ f)).2⟩) c)
def fQ.ic:∀(n:Nat)(h:List bN)(j:List Int),Cq h+j.length<=n->∀b,fQ (ic h j) b->fQ h b
 |n,h,[],_,b,a=>by rw[tc]at a;exact a
 |0,h,w::r,d,b,_=>by simp at d
 |n+1,h,w::r,d,b,a=>by
  simp only[aZ]at d;rcases eg (gA h w)with c|c
  .let⟨g,i⟩:=bS c;by_cases e:(aM h w).aQ=1
   .have f:=kA (d:=jd) g;simp only[an i,jd]at f;simp at f;rw[td c e]at a;exact fQ.Gv c _ (fQ.ic n _ _ (by simp[jd];omega) b a)
   .have f:=kA (d:={aM h w with aQ:=(aM h w).aQ -1}) g;simp only[an i]at f;rw[an V]at f;rw[qB c e]at a;exact fQ.Gv c _ (fQ.ic n _ _ (by simp only[Go.Proofs.YtkoifinbblcbiaaGreat.fm];omega) b a)
  .rw[qC c]at a;exact fQ.ic n _ _ V b a
def fQ.apart{h:List bN}{e:Nat->Int}(g:fO h e){w:Int}(b:gA h w){c:Nat}(a:fQ (apart h w) c):fQ h c:=by
 let⟨d,l⟩:=bS b;unfold Go.Proofs.YtkoifinbblcbiaaGreat.apart at a;split at a
 .exact fQ.Gv b _ (fQ.nv a)
 .rename_i k;refine fQ.Gv b {aM h w with aQ:=(aM h w).aQ -1} (fQ.ji _ _ _ (λv i=>?_) a);let⟨j,f⟩:=lE.1 i;have:=g.field (iA d) j f;refine⟨f,?_⟩;by_cases e:ix v=ix w
  .rw[e,fQ.yT d];show 0<(aM h w).aQ -1;omega
  .rw[fQ.ne e];exact this.2
structure aal(c:WZ)(s:St):Prop where
 Xj:VX s.heap<=c.Xj
 depth:(s.ao.length:Int)<=c.depth
 O8:Za c.O8 s.heap=c.O8
structure aam(n:Nat)(c:WZ):Prop where
 aB:0<=c.aB/\c.aB<=n
 Oy:0<=c.Oy/\c.Oy<=n
 OZ:0<=c.OZ/\c.OZ<=n
 U7:0<=c.U7/\c.U7<=n
 RG:0<=c.RG/\c.RG<=n
section
section
variable{a:cT}{s:St}{f:aY}{x:Instr}{aR:List Int}{b:List aY}
section
variable(h:cY a s)(e:s.cE=3)(c:(nV a s).cE=3)(d:s.ao=b++[f])
include h e c d
end
end
end
section
variable{m e a:E}{h:List bN}{d:Nat}
structure On(m:E)(hp:O)(h:List bN):Prop where
 len:hp.len=h.length
 iD:∀(k:Nat)(c:bN),h[k]? =some c->∃f,af m hp.D (hp.off+k*3)=some (vi c.aQ)/\af m hp.D (hp.off+k*3+1)=some (vi c.kj)/\af m hp.D (hp.off+k*3+2)=some (O.v f)
def On.eA{b:O}(H:On m b h)(k:h≠[]->e[b.D]? =m[b.D]?):On e b h:=
 ⟨H.len,λl d c=>by
  let⟨f,g,i,j⟩:=H.iD l d c;have a:=k (λa=>by subst a;simp at c);exact⟨f,by rw[aE a];exact g,by rw[aE a];exact i,by rw[aE a];exact j⟩⟩
def On.lt{a:O}(H:On m a h)(d:h≠[]):a.D<m.size:=by
 cases h with
 |nil=>exact absurd rfl d
 |cons c r=>
  obtain⟨f,b,_⟩:=H.iD 0 c rfl;exact lB b
def On.ext{a:O}(H:On m a h)(c:J m e):On e a h:=H.eA λb=>c.same _ (H.lt b)
def dL.jw{N:Nat}{g:Nat->Nat}{a:O}(H:dL N g m a h):On m a h:=
 ⟨H.len,λ_ _ e=>let⟨f,b,c,d,_⟩:=H.cp e;⟨f,b,c,d⟩⟩
structure pA(d:Nat)(m e:E):Prop where
 size:m.size<=e.size
 same:∀b,b<m.size->b≠d->e[b]? =m[b]?
def pA.az(d:Nat)(m:E):pA d m m:=⟨ad _,λ_ _ _=>rfl⟩
def pA.ext(h:pA d a m)(f:J m e):pA d a e:=⟨bI h.size f.size,λb c g=>by rw[f.same b (aO c h.size)];exact h.same b c g⟩
def pA.trans(h:pA d a m)(g:pA d m e):pA d a e:=⟨bI h.size g.size,λb c f=>by rw[g.same b (aO c h.size) f];exact h.same b c f⟩
def pA.ah(h:pA d a m)(o:Nat)(l:List Ce):pA d a (ah m d o l):=⟨by rw[av];exact h.size,λb e c=>by rw[bd l m d o c];exact h.same b e c⟩
def pA.dq(h:pA d m e){l:List Nat}(c:∀b∈l,b<m.size/\b≠d):eF l m e:=λb a=>h.same b (c b a).1 (c b a).2
def NB(c:WZ):List Ce:=[.i c.aB,.i c.Oy,.i c.OZ,.i c.U7,.i c.RG,.i c.Xj,.i c.depth,.i c.O8]
end
section
section
variable{m:E}{a:O}{h:List bN}
end
section
variable{a:cT}{s:St}
def Xn{k:Int}(h:(qu a s k).ok=true):(cY a s/\0<=k/\k<=100000)/\qu a s k=⟨aB a k.toNat s,true⟩:=by
 have b:cY a s/\0<=k/\k<=100000:=by
  apply dQ;intro c;rw[qu,ae c]at h;simp at h
 exact⟨b,an b⟩
def Oc(c:cY a s)(d:yE s)(b:s.aS.length<=1000000/\s.heap.length<=1000000){k:Nat}(e:k<=100000):yE (aB a k s)/\cY a (aB a k s)/\Sm (1000000+k) (aB a k s):=
 have h:=tT k c
 have S:=tU k c (d.sm b.2 b.1) V
 ⟨h.Yr S V,h,S⟩
end
section
variable{m:E}
end
end
section
section
variable{a:E}
def CA{dp:O}(A:Jm a dp):aN cq 18 [O.v dp] a λC L=>(∃p v H aS r q s k,C=.tuple #[.agg #[O.v p,O.v v],MD s aS r q,vi k]/\fg (bH [] L) p v H/\gC (bH [] L) aS r q s/\yE s/\s.aS.length<=1000000/\s.heap.length<=1000000)/\J a L:=by
 apply wy;simp -zeta only[aD,aC];intro l c;let⟨w,B⟩:=dD (a:=l) (c:=c) rfl rfl;have s1:l.size=a.size+1:=by simp[l]
 clear_value c;refine(IP (m:=c) ⟨A.1,λk e=>let⟨C,d,b,G⟩:=A.2 k e;⟨C,d,b,w.af G⟩⟩).mono λ_ m3⟨bs,j,Z,x3⟩=>⟨x3.dq B,(c.size,0),j,?_⟩;have hr:=Z.lt;have hm:=B a.size aL;have ah:=B l.size aL;refine(Gx (a:=[l.size,a.size,c.size]) bF aL Z (by simp[Cg])).mono λ_ n⟨⟨p,v,H,aS,r,q,s,j,U,hs,hf⟩,F,r4⟩=>?_;refine⟨F.dq λb e=>by have:=B b e;simp only[lI];omega,p,v,_,_,_,_,aS,r,q,j,?_⟩;have z4:=F.size;intro P m6 m7 d;have z5:P.size=n.size+1:=by simp[P]
 have x8:J n d:=(((J.push n _).trans (J.push P _)).ah (ad _) _ _).ah V _ _;have z8:d.size=n.size+2:=by simp[d,m7,m6,z5,av]
 clear_value d;have I:∀{M R:E}{b:Nat}(o:Nat),Fz [c.size] M R->d.size<=M.size->b<d.size->b≠c.size->af R b o=af M b o:=λo x ai e hn=>aE (x.same _ V (by simpa using hn)) o;refine(bY (r4.ext x8) (by simp[Cg]) 40).mono λ_ Y⟨W,j,_,_,r9,z⟩=>⟨z.dq bF,W,j,?_⟩;have z9:=z.size;have i:∀{b:Nat}(o:Nat),b<d.size->b≠c.size->af Y b o=af d b o:=λo=>I o z (ad _);refine⟨i _ V V,i _ V V,i _ V V,i _ V V,i _ V V,i _ V V,i _ V V,i _ V V,i _ V V,?_⟩;refine(bY r9 (by simp[Cg]) 40).mono λ_ t⟨X,j,_,_,ag,y⟩=>⟨y.dq bF,X,j,?_⟩;have vG:=y.size;have f:∀{b:Nat}(o:Nat),b<d.size->b≠c.size->af t b o=af Y b o:=λo=>I o y z9;refine⟨f _ V V,f _ V V,f _ V V,f _ V V,f _ V V,f _ V V,f _ V V,f _ V V,f _ V V,?_⟩;intro N;have g:∀{b:Nat}(o:Nat),b<d.size->af N b o=af t b o:=λo e=>aE ((J.push t _).same _ V) o;refine⟨g _ V,g _ V,g _ V,g _ V,g _ V,g _ V,g _ V,g _ V,g _ V,?_⟩;refine(yo (Rs.mk (Fz.az _ _) ag) (by simp[Cg]) [W,X,1,0,100000,100001,-1,100] rfl rfl aL).mono λ_ u⟨aa,j,_,_,D⟩=>?_;have ab:J t N:=J.push t _;have aj:=ab.size;have h:∀{b:Nat}(o:Nat),b<d.size->b≠c.size->af u b o=af N b o:=λo=>I o D V;refine⟨D.dq bF,aa,j,h _ V V,h _ V V,h _ V V,h _ V V,h _ V V,h _ V V,h _ V V,h _ V V,h _ V V,?_⟩;intro ac;have k:∀{b:Nat}(o:Nat),b≠a.size->af ac b o=af u b o:=λo e=>aE (bd _ _ _ _ e) o;refine⟨k _ V,k _ V,k _ V,k _ V,k _ V,k _ V,k _ V,?_⟩;intro ae;have Q:Fz [c.size] n u:=(((x8.fz _).trans z).trans y).trans ((ab.fz _).trans D);have K:Le (bH [l.size,a.size,c.size] n) (bH [] ae):=λb o C A=>by
  let⟨h1,T⟩:=eQ.1 A;simp at h1;refine eQ.2 ⟨aL,?_⟩;have e:=lB T;rw[aE ((bd _ _ _ _ V).trans (bd _ _ _ _ V)),aE (Q.same _ e bF)];exact T
 refine⟨⟨p,v,H,aS,r,q,s,aa,rfl,⟨U.bo.le K,iK.le K U.cF⟩,gC.le hs K,hf⟩,?_⟩;have x:Fz [c.size] c u:=((x3.fz _).trans F).trans Q;have G:J a u:=⟨by have:=w.size;have:=x.size;omega,λb e=>(x.same b (w.lt e) (by have:=w.size;simp;omega)).trans (w.same b e)⟩;exact(G.ah V _ _).ah V _ _
end
end
section
section
open Tryz
variable{m:E}{R:Value->E->Prop}
def yQ(a:O):=cX m R A0 [a] func7
end
section
variable{m:E}
def El{dp:O}(l:Jm m dp):aN cq 7 [O.v dp] m (LwR m):=by
 apply yQ;simp(config:={maxSteps:=1000000}) -zeta only[aD,aC];refine⟨λ_=>⟨rfl,J.az _⟩,λ_=>?_⟩;refine(CA l).mono λ_ f⟨⟨W,ae,a,aS,hp,fr,x,d,e,hi,hs,o,ho⟩,x1⟩=>⟨W,ae,_,_,_,_,aS,hp,fr,d,e,?_⟩;have u:fg f W ae a:=⟨hi.bo.le (bA _ _),iK.le (bA _ _) hi.cF⟩;have L:=hs.le (bA _ _);intro j a2 a3 a4;have z1:j.size=f.size+1:=by simp[j]
 have r:J f a4:=(((J.push f _).trans (J.push j _)).ah (ad _) _ _).ah V _ _;have z4:a4.size=f.size+2:=by simp[a4,a3,a2,j,av]
 clear_value a4;have sm:=Qf o V d (c:=a);refine(qG (u.ext r) (L.ext r) o V d).mono λ_ p⟨aj,o5,h5,f5,e,z⟩=>⟨z.bs.cv.dq bF,_,_,_,_,o5,h5,f5,_,e,?_⟩;have x5:=z.bs.cv;have t:=z.Ap sm;have u5:=x5.size;intro a6 B;have x7:J p B:=(J.push p _).ah (ad _) _ _;have z7:B.size=p.size+1:=by simp[B,a6,av]
 clear_value B;have I:=(r.trans x5).trans x7;refine(Iq (u.ext I) (L.ext I) o V d).mono λ_ v⟨ak,o8,h8,f8,e,A⟩=>⟨A.bs.cv.dq bF,_,_,_,_,o8,h8,f8,_,e,?_⟩;have R:=A.bs.cv;have H:=A.Ap sm;have u8:=R.size;intro a9 i;have D:J v i:=(J.push v _).ah (ad _) _ _;have z0:i.size=v.size+1:=by simp[i,a9,av]
 clear_value i;have F:J p i:=(x7.trans R).trans D;clear z A;have hl:∀b∈[v.size,p.size,j.size,f.size],b<i.size:=bF;refine(oN (t.ext F) (H.ext D)).aH (J.az _) hl λb mA c g _=>⟨b,rfl,?_⟩;obtain rfl:=c.2 rfl;have h:=((I.trans R).trans D).trans g;refine⟨sx,λ_=>⟨sx,λ_=>⟨λK=>(oN (t.ext (F.trans g)) (H.ext (D.trans g))).aH g hl λb q c y _=>⟨b,rfl,λ_=>⟨aL,(x1.trans h).trans y⟩,λl=>by rw[c.2 rfl]at l;simp at l⟩,λhy=>?_⟩⟩⟩;let⟨⟨N,b0,b1⟩,ah⟩:=Xn (a:=a) (s:=x) (k:=d) (by simpa using hy);obtain⟨n,rfl⟩:∃n:Nat,d=n:=⟨d.toNat,V⟩;have S:(qu a x n).s=aB a n x:=nY Zh.s ah;rw[S]at t H;try rw[S]
 have uA:=g.size;have af:∀{P:St}{M:Nat},cY a P->M<=100000->qu a P M=⟨aB a M P,true⟩:=λl hj=>an ⟨l,V,V⟩;have e3:cO (Int.tdiv (n:Int) 3)=((n/3:Nat):Int):=by rw[show Int.tdiv (n:Int) 3=((n/3:Nat):Int)from rfl,aP V V]
 have e4:cO ((n:Int) -((n/3:Nat):Int))=((n -n/3:Nat):Int):=by rw[aP V V];omega
 rw[e3,e4];refine⟨bn,?_⟩;have T:=qG (u.ext h) (L.ext h) o V ((n/3:Nat):Int);rw[af N V]at T;let⟨f1,ab,ag⟩:=Oc N o ho (k:=n/3) V;have s1:=ab.iP ag V;refine T.mono λ_ q⟨al,oB,Z,X,e,NB⟩=>⟨NB.bs.cv.dq bF,_,_,_,_,oB,Z,X,_,e,?_⟩;have y:=NB.bs.cv;have SB:gC q oB Z X (aB a (n/3) x):=NB.Ap s1;have uB:=y.size;intro b1 b2;have Q:J q b2:=(J.push q _).ah (ad _) _ _;have y2:b2.size=q.size+1:=by simp[b2,b1,av]
 clear_value b2;have U:=qG (u.ext ((h.trans y).trans Q)) (SB.ext Q) f1 (oh ag.aS) ((n -n/3:Nat):Int);rw[af ab V,<-Je,show n/3+(n -n/3)=n by omega]at U;let⟨f2,ac,ai⟩:=Oc N o ho (k:=n) V;refine U.mono λ_ w⟨am,oC,hC,Y,e,G⟩=>⟨G.bs.cv.dq bF,_,_,_,_,oC,hC,Y,_,e,?_⟩;have xC:=G.bs.cv;have SC:gC w oC hC Y (aB a n x):=G.Ap (ac.iP ai V);have uC:=xC.size;intro b3 b4;have r:J w b4:=(J.push w _).ah (ad _) _ _;have y4:b4.size=w.size+1:=by simp[b4,b3,av]
 clear_value b4;have C:J mA b4:=((y.trans Q).trans xC).trans r;have aa:∀b∈[w.size,q.size,v.size,p.size,j.size,f.size],b<b4.size:=bF;refine⟨λ_=>⟨λ_=>?_,sx⟩,sx⟩;refine(oN (SC.ext r) (t.ext (F.trans (g.trans C)))).aH (J.az _) aa λb mD c E _=>⟨b,rfl,λ_=>?_,λK=>by rw[c.2 rfl]at K;simp at K⟩;exact(tw (u.ext ((h.trans C).trans E)) (t.ext (F.trans ((g.trans C).trans E))) f2).aH E aa λb mE c xE _=>⟨b,rfl,nY vb (c.2 ac),(x1.trans (h.trans C)).trans (E.trans xE)⟩
end
end
end Go.Proofs.YtkoifinbblcbiaaGreat
section
namespace Go.Vc
variable{t:TypeId}{a:Addr}
open Go.ChangeShapes Go.WideShapes Go.RowKit
section
variable{H:Type}{b:TypeId×Value->H}{P:Program}{w:World}
def Tn(b:TypeId×Value->H)(P:Program)(w:World)(t:TypeId)(Q:List Ce->Prop):Prop:=
 ∀(n:Nat)(a:List Value)(x:DataW H×List MemPlace),DataW.trod b P w 0 (λ_=>true) true n t a=some x->∃c,a=c.map Ce.v/\Q c
def Tn.mono{Q Q':List Ce->Prop}(h:Tn b P w t Q)(f:∀a,Q a->Q' a):Tn b P w t Q':=λn a x g=>
 let⟨c,d,e⟩:=h n a x g
 ⟨c,d,f _ e⟩
def Ss{v:Value}(h:w.cell? a=some v):a.spot=none:=by
 unfold World.cell? at h;split at h
 .split at h
  .cases h
  .rename_i b;simpa using b
 .cases h
def Sq(h:a.spot=none)(i:Nat):a.add i=⟨a.block,a.off+i,none⟩:=by
 obtain⟨c,o,s⟩:=a;simp only at h;subst h;unfold Addr.add;by_cases b:i=0
 .subst b;simp
 .simp[b]
end
section
variable{H:Type}{b:TypeId×Value->H}{P:Program}
def DQ(l:laidOutB P=true){W j:World}(k:Below W.heap.size W j):∀{f:List TypeId}{i:List Value}{g:List (DataW H)}{d:List MemPlace},
 (f.all λt=>P.readableRec t&&decide (t<P.types.size))=true->DataW.TrodAll b P W 0 (λ_=>true) true f i g d->(∀x∈d,x.block<W.heap.size)->∀e:Nat->Bool,(∀p∈d,e p.block=true)->
 DataW.TrodAll b P j 0 e true f i g d
 |[],_,_,_,_,h,_,_,_=>by
  obtain⟨rfl,rfl,rfl⟩:=trodAll_nil h;exact trodAll_mk0
 |t::f,_,_,_,c,h,m,e,n=>by
  obtain⟨v,i,s,g,p,r,rfl,rfl,rfl,o,q⟩:=trodAll_cons h;simp only[Oj,bM,ar]at c;exact⟨p,r,WideElems.Trod_stays l c.1.1 c.1.2 o (λx a=>k.same (m x (by simp[a]))) (λx a=>n x (by simp[a])),DQ l k (by simpa using c.2) q (λx a=>m x (by simp[a])) e (λx a=>n x (by simp[a])),rfl⟩
def MY{f:Func}{s:ChangeSpec}{W g:World}{i:Array Value}{d:List (DataW H)}{o:List MemPlace}
 (J:laidOutB P=true)(L:(f.params.toList.all λt=>P.readableRec t&&decide (t<P.types.size))=true)(z:f.resultTypes=#[t])(v:P.underlying t=some .bool)(B:s.vars=[])
 (j:DataW.Whole b P f.params.toList s.vars false W i.toList d [] o)(F:(s.fn H (d++[])).args=d)(G:(s.fn H (d++[])).results=[.lit (.bool true)])(I:(s.fn H (d++[])).vars=[])
 (k:Below W.heap.size W g):s.post b P f false true false false W i (.bool true) g:=by
 have h:∀a∈o,a.block<W.heap.size:=λa l=>by simpa using j.lt a l
 have r:=j
 obtain⟨a,N,E,q,rfl,C,M⟩:=j
 rw[B]at q
 obtain⟨_,rfl⟩:=trodVars_none q
 simp only[dX]at h C r
 have u:∀c:Nat->Bool,(∀x∈a,c x.block=true)->DataW.TrodAll b P g 0 c true f.params.toList i.toList (s.fn H (d++[])).args a:=λc K=>by
  rw[F];exact DQ J k L E h c K
 have A:∀c:Nat->Bool,DataW.TrodVars b P g c s.vars (s.fn H (d++[])).vars []:=λc=>by rw[B,I];rfl
 have y:∀(e:Nat)(c:Nat->Bool)(hd:Bool),DataW.TrodAll b P g e c hd f.resultTypes.toList ((Value.bool true).resultList f.resultTypes.size) (s.fn H (d++[])).results []:=λe c hd=>by
  rw[G,z];exact trodAll_cons_mk (shut_bool v _) trodAll_mk0
 refine⟨d,[],a,[],a,[],r,y _ _ _,u _ (λx m=>by simpa using h x m),A _,k.frame _,λ_=>?_⟩
 refine⟨ok_one z rfl (okWide_bool_mk v _),_,_,([]++a)++[],⟨[]++a,[],trodAll_append (u _ (λ_ _=>rfl)) (y _ _ _),A _,rfl,?_,λD=>by cases D⟩,?_⟩
 .intro e n l
  have w:MemPlace.cell e n∈a:=by simpa using l
  rw[k.frozen (p:=⟨e,n,none⟩) (h _ w)]
  exact C e n w
 .intro x m _
  simpa using m
end
end Go.Vc
end
section
namespace Go.Proofs.YtkoifinbblcbiaaGreat
open Go.Vc Go.ChangeShapes
def SI{H:Type}{x:TypeId×Value->H}{P:Program}{w:World}{t e r:Nat}{v:Value}{u:DataW H}{I:List MemPlace}(p:P.underlying t=some (.slice e))(B:P.underlying e=some (.int .u8))(A:P.cellsOf e=1)
 (E:Value.okWide P w .any r t v)(y:DataW.Trod x P w 0 (λ_=>true) true t v u I):∃s,v=O.v s/\Jm w.heap s:=by
 obtain⟨J,q,h,rfl⟩:=Go.WideShapes.okWide_slice p E
 obtain⟨L,C⟩:=y
 rcases open_ints p B A C with⟨b,_⟩|⟨d,N,K,g,b,_,D,M,G,_,l,F⟩
 .simp[Value.cells]at b
  obtain⟨rfl,rfl,rfl⟩:=b
  exact⟨.nil,rfl,ad _,λk a=>by simp at a⟩
 .simp[Value.cells]at b
  obtain⟨rfl,rfl,rfl⟩:=b
  simp only[MF]at G
  rcases j8 h with i|i
  .subst i
   have:q=0:=V
   subst this
   obtain⟨c,o,s⟩:=d
   cases s with
   |none=>exact⟨.mk c o 0 0,rfl,ad _,λk a=>by simp at a⟩
   |some f=>exact⟨.zW c o f,rfl,ad _,λk a=>by simp at a⟩
  .have z:=l 0 V
   have n:d.spot=none:=by
    have:=Ss z;simpa[Addr.add]using this
   obtain⟨c,o,s⟩:=d
   simp only at n
   subst n
   refine⟨.mk c o q h,rfl,D,λk a=>?_⟩
   simp only[O.gH]at a
   have m:k<g.length:=V
   have j:=l k m
   have f:=F (g.getD k 0) (by rw[fU,List.getElem?_eq_getElem m];simp)
   rw[Lit.wf,bM,ar,ar]at f
   refine⟨g.getD k 0,f.1,f.2,?_⟩
   .rw[Sq rfl,zT]at j
    simpa using j
end Go.Proofs.YtkoifinbblcbiaaGreat
end
