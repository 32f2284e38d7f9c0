/- Part of a proof. -/
import Derived.Test.YtkicoahejfbjhaaGreatSA11
set_option linter.all false
set_option maxHeartbeats 8000000
set_option maxRecDepth 100000
namespace Go.Proofs.YtkicoahejfbjhaaGreat
open Go.Vc
def ZI(c:List bz)(d:List gN)(b:Bk):Prop:=∀(S:List Nat)(m:E),(∀a∈S,a<m.size)->∀(f r t:O)(a:Nat),eK m f r c d->eO m t b.aD->WB c d.length True a b->a+4*b.w<=10^12->9*b.w<=100000000000->
 ns 233 [.agg #[O.v f,O.v r],.agg #[O.v t,vi b.aS],vi a] m S λe=>WB c d.length True a e/\e.w+8<=9*b.w
def Da{z:List bz}{rs:List gN}:∀B:Bk,ZI z rs B:=by
 refine Bk.ind ?_;intro aD X ih p ac hS aS a6 bW q I hs bk bx bB;have a1:=bk.aT;rw[Bk.qG]at*;simp only[Bk.jS,Bk.ju]at*;apply wz;simp -zeta only[aC,aB];intro ag j t g m5 m6;let⟨x3,hl,s1,s2,s3⟩:=p7 (a:=ag) (b:=j) (c:=t) rfl rfl rfl;have s4:g.size=t.size+1:=by simp[g]
 have a8:J g m6:=(J.push g _).ah (ad _) _ _;have bp:J t m6:=(J.push t _).trans a8;have g0:GS (g.size::j.size::p) t m6 (.mk t.size 0 0 0) []:=(GS.new _ t).ext gD.mono a8;have B0:cE m6 g.size di [.s (.mk t.size 0 0 0),.i X]:=cE.ah (m:=m5) (o:=0) (r:=[.s (.mk t.size 0 0 0),.i X]) (cE.push g _ _);have a_:∀d∈j.size::p,d<t.size:=bO hS x3.size (hl _ aL);clear_value m6;clear_value t;have be:=hs.len;have bg:=Bw aD;have bM:=fY aD;refine ez (n:=aD.length) (be▸hs.gS) (λk(v:Int) M=>v=((q+dc (aD.take k):Nat):Int)/\J t M/\∃s w,GS (g.size::j.size::p) t M s w/\cE M g.size di [.s s,.i X]/\w.length=k/\WL z rs.length True q w/\dc w=dc (aD.take k)/\sw w<=9*sw (aD.take k)) ⟨aL,bp,_,[],g0,B0,rfl,WL.nil _ _ _ _,aL,aL⟩ ?_;rintro k v0 M aR μ hk ⟨bj,xM,s,w,am,Z,bI,wl,au,bi⟩ a5
 subst bj;have v:=x3.trans xM;have hy:=am.bn;have zM:=xM.size;have bs:=Z.lt;refine dit (λao=>?_) λao=>?_
 .let⟨c,N⟩:=cG aD k;let⟨pa,pk,ha,aK,e0,e1,e2,e3,e4⟩:=hs.aF N;have bR:=OS N;have bT:=cV.mr c;have bC:=qb c.bC;have bS:=pR N;have bQ:=qL N;have U:=a1.1 k c N;have bF:=sX (aD.take k);have bL:=fY (aD.take k);have bP:=bg (k+1);refine⟨V,V,_,v.af e0,_,v.af e1,_,v.af e2,_,v.af e3,_,v.af e4,?_⟩;intro m7 l Q;have x8:J M l:=(J.push M _).ah (ad _) _ _;have s8:l.size=M.size+1:=by simp[l,m7,aw]
  have x9:J l Q:=J.push _ _;have s9:Q.size=l.size+1:=by simp[Q]
  have a9:GB (s.D::g.size::j.size::p) l Q (.mk l.size 0 0 0) []:=GB.new _ l;clear_value Q;clear_value l;have aF:∀d∈s.D::g.size::j.size::p,d<l.size:=λd h=>by
   simp only[aV]at h;rcases h with e|e|e|e
   .omega
   .omega
   .omega
   .have:=hS d e;omega
  have aM:=aK.len;have D:∀{f:E},l.size<=f.size->∀d∈[M.size,j.size,ag.size,ac.size],d<f.size:=λao d h=>by simp at h;omega
  have z9:Q.size=l.size+1:=s9;refine(il (e:=[l.size]) bE (I.bo.le (v.trans (x8.trans x9)).le) I.types c.bP).aH (J.az Q) (D x9.size) λsc lc bU aY e a7 _=>⟨_,rfl,?_⟩;subst e;have bJ:=aY.len;refine ez (n:=c.bC.length) (aM▸aK.gS) (λu ks f=>J l f/\ap (bG [ks.D] f) sc (cy z c.bP)/\∃lk,GB (s.D::g.size::j.size::p) l f ks lk/\lk.length=u/\(∀(P:Nat)(B:Bk),lk[P]? =some B->WB z rs.length True (q+dc (aD.take k)+BG z c.op c.bP P) B)/\bw lk<=9*bw (c.bC.take u)) ⟨x9.trans a7,aY,[],a9.ext rH.mono a7,rfl,aL,aL⟩ ?_;rintro u ks A I2 μ2 hj ⟨ak,aZ,lk,gk,bH,aU,bd⟩ bn;have F:J ac A:=v.trans (x8.trans ak);have yk:=gk.bn;have R:=ak.size;refine dit (λh2=>?_) λh2=>?_
  .let⟨B,T⟩:=cG c.bC u;let⟨tb,a0,f0,f1⟩:=aK.aF T;have bD:=wJ T;have bb:=uq T;have ar:=U.bC u B T;have h3:=Qv I.types c.op c.bP u;have aE:∀{f:E},J A f->∀d∈ks.D::s.D::g.size::j.size::p,d<f.size:=λxx d h=>by
    have:=xx.size;rcases List.mem_cons.1 h with e|e
    .omega
    .have:=aF d e;omega
   have al:∀{f:E}{Y:O}{C:Bk},J A f->eO (bG (ks.D::s.D::g.size::j.size::p) f) Y C.aD->WB z rs.length True (q+dc (aD.take k)+BG z c.op c.bP u) C->C.w<=9*B.w->
    jK (f.push (.cells (bt [.s Y,.i C.aS]) di)) di [.s .nil,.i 0] 32 ks (.mk f.size 0 1 1) λW M3=>eF [M.size,j.size,ag.size,ac.size] (f.push (.cells (bt [.s Y,.i C.aS]) di)) M3/\I2 W (cT ((u:Int)+1)) M3/\μ2 W (cT ((u:Int)+1)) M3<μ2 ks u A:=λ{f Y C} x11 ab hwb' hw'=>by
    refine GB.kH (c:=C) (gk.ext rH.mono x11) ((ak.trans x11).fz []) ab V λW M3 g2 f2 bq q2=>⟨J.oE ((ak.trans x11).aK _) f2.ext (D (ad _)),bn V _ _ ⟨f2.ext,(aZ.le (x11.df _)).le (pA λd h aX=>?_),_,g2,bE,λP b2 H=>?_,?_⟩⟩
    .simp at aX
     refine⟨?_,q2 d h aX⟩
     simp
     rcases bq.2 with e|e<;>omega
    .rcases aW P lk.length with y|y
     .rw[ax y]at H;exact aU P b2 H
     .rw[aI y]at H
      have:P -lk.length=0:=by have:=av H;simp at this;omega
      rw[this]at H;simp at H;subst H
      have:P=u:=V
      subst this;exact hwb'
    .rw[oN,uo,zy,bb]
     omega
   refine⟨λG=>?_,λG=>?_⟩
   .simp only[aG]at G;obtain⟨bv,_⟩:=U.eZ.all G;have br:=U.eZ.lJ (Or.inr (Or.inr G));let⟨aP,a2⟩:=cG c.args 0;let⟨y0,y1⟩:=U.eZ.args aP (aq a2);have bu:=ha.len;let⟨cn,aT⟩:=cG (cy z c.bP) u;refine⟨V,V,cn,(aZ.le (bA _ _)).aF aT,?_⟩;refine(dI (e:=[]) aL (I.bo.le (F.le.trans (zW _))) I.types cn).aH (J.az A) (D R) λsf lf a3 ay e az _=>⟨_,rfl,?_⟩;subst e;have ay:=ay.le (bA _ _);have bK:=ay.len;have aa:=F.trans az;rw[Ku G aT]at ar h3 al;have aA:af a3 pa.D (pa.off+Int.toNat (0:Int)*1)=some (vi aP):=(ha.ext aa).aF a2;refine⟨V,V,_,aa.af f0,_,aa.af f1,bh,V,aP,aA,?_⟩;have ew:cT (((q+dc (aD.take k):Nat):Int)+(sf.len:Int))=((q+dc (aD.take k)+(cD z cn).length:Nat):Int):=by rw[aQ V V];omega
    rw[ew];refine(ih c (aq N) B (aq T) (ks.D::s.D::g.size::j.size::p) a3 (aE az) aS a6 tb _ (I.le aa.le) (a0.le aa.le) ar V V).aH az (D R) λY C bl ab aH ah aO=>⟨_,_,rfl,?_⟩;refine⟨by rw[ah.af aA,aA],aJ (ah.same _ (az.lt (D R _ aL))) _,?_⟩;refine(LQ (a:=ks.D::s.D::g.size::j.size::p) (aE aO) ab (ay.ext ah) V aH.1 V V ⟨y0,y1⟩).aH aO (D R) λbV b2 a4 bf ba y bo=>⟨_,_,rfl,?_⟩;intro bm;exact al bo bf ba.1 V
   .simp only[aj]at G;rw[Kv G]at ar al;refine⟨V,V,_,F.af f0,_,F.af f1,?_⟩;refine(ih c (aq N) B (aq T) (ks.D::s.D::g.size::j.size::p) A (aE (J.az _)) aS a6 tb _ (I.le F.le) (a0.le F.le) ar V V).aH (J.az A) (D R) λY C bl ab aH ah aO=>⟨_,_,rfl,?_⟩;intro a4;exact al ah ab aH.1 V
  .have ar:lk.length=c.bC.length:=V;rw[bX V]at bd;have T:J M A:=x8.trans ak;have H:=Z.ext T;have G2:=am.ext gD.mono T;refine⟨s,H.bZ 0,?_⟩;refine(bN (s.D::g.size::j.size::p) (ha.ext F) V).aH (J.az A) (D R) λs' l' a4 ga e y _=>⟨_,rfl,aJ (y.same _ V) _,aJ (y.same _ V) _,aJ (y.same _ V) _,aJ (y.same _ H.lt) _,?_⟩;subst e;intro bm;refine Gr.box (g:=[.i 0,.i 0,.i 0,.s .nil,.s .nil]) (K:=λf=>aN cg 181 [vi c.op] f λv G=>eF [M.size,j.size,ag.size,ac.size] f G/\∃C:Bool,v=vb C/\
    (C=true->aR (cT (((q+dc (aD.take k):Nat):Int)+1)) (cT ((k:Int)+1)) G/\μ (cT (((q+dc (aD.take k):Nat):Int)+1)) (cT ((k:Int)+1)) G<μ ((q+dc (aD.take k):Nat):Int) (k:Int) M)/\
    (C=false->aR ((q+dc (aD.take k):Nat):Int) (cT ((k:Int)+1)) G/\μ ((q+dc (aD.take k):Nat):Int) (cT ((k:Int)+1)) G<μ ((q+dc (aD.take k):Nat):Int) (k:Int) M)) (L:=[M.size,j.size,ag.size,ac.size]) (j:=0) (y:=72) (i:=[.s s,.i X]) (w:=⟨c.op,c.bP,c.bY,c.args,lk⟩) gD.mono bh (G2.ext gD.mono y) (((xM.trans T).trans y).fz []) ⟨s',ks,rfl,(ga.done (λd h=>oh (aF d h)) V),nD.le (y.df _) (gk.done rH.mono aF bh (by show lk.length<=_;omega))⟩ V (H.ext y) aL bh ⟨V,aL⟩ (λd h=>by have C:=y.size;simp at h;omega) λW m' g' Y f' z' q'=>?_
   have W':WL z rs.length True q (w++[⟨c.op,c.bP,c.bY,c.args,lk⟩]):=wl.yD (U.PG id U.eZ.bY ar aU|>λao=>by rw[au];exact ao);have ay:=y.size;refine(jN c.op m').mono λv G⟨bb,e,al,C⟩=>⟨λd h=>C.same d (oh (D R d h)),bb,e,?_⟩;have ab:=sZ c bb al;have aa:dc (w++[⟨c.op,c.bP,c.bY,c.args,lk⟩])=dc (aD.take (k+1)):=by
    rw[cW,kK,sY,au];have e:dn (⟨c.op,c.bP,c.bY,c.args,lk⟩:cV)=dn c:=rfl;omega
   have ah:sw (w++[⟨c.op,c.bP,c.bY,c.args,lk⟩])<=9*sw (aD.take (k+1)):=by
    rw[dC,mI,vj];have h5:(⟨c.op,c.bP,c.bY,c.args,lk⟩:cV).w=1+c.args.length+bw lk:=cV.mr _;omega
   refine⟨λht=>?_,λhf=>?_⟩
   .rw[an ht]at ab;rw[aQ (b:=((q+dc (aD.take k):Nat):Int)+1) V V];exact a5 V _ _ ⟨V,f'.ext.trans C,W,_,g'.ext gD.mono C,Y.ext C,bE,W',aa,ah⟩
   .rw[ae (by simp[hf])]at ab;exact a5 V _ _ ⟨V,f'.ext.trans C,W,_,g'.ext gD.mono C,Y.ext C,bE,W',aa,ah⟩
 .have aM:k=aD.length:=V;subst aM;rw[fu]at au bi;refine⟨s,Z.bZ 0,X,Z.bZ 1,?_⟩;intro m7;have c:Le (bG (g.size::j.size::p) M) (bG p m7):=cA aL λd h=>ai _ (ai _ h);have f:=am.ne Z bh;refine⟨s,.mk w X,rfl,eO.le c (am.nF gD.mono (λh=>?_) bh (by show w.length<=_;omega)),⟨.of wl (by rw[au];exact a1.2),by rw[Bk.qG];omega⟩,v.ah V _ _⟩;rcases List.mem_cons.1 h with e|e
  .exact f e
  .have:=a_ _ e;omega
def EL{d:List Nat}{f:E}(A:∀c∈d,c<f.size){j r:O}{h:List bz}{k:List gN}(i:eK f j r h k){W:Nat}(hW:9*W<=100000000000)(X:yi h k True W):uP 212 [.agg #[O.v j,O.v r]] f d h λu=>yi h u True (9*W):=by
 apply xE;simp -zeta only[aC,aB];intro b a2;let⟨y,t⟩:=dD (a:=b) (c:=a2) rfl rfl;have s1:b.size=f.size+1:=by simp[b]
 clear_value a2;have al:=i.iT.len;have aA:=i.oA;refine(fU (b:=b.size::d) (bO A y.size (t _ aL)) (i.le y.le).bo i.types).mono λ_ I⟨ac,e,ah,z⟩=>?_;subst e;refine⟨z.dv t,_,rfl,?_⟩;intro K ap aa;have u2:=y.trans z;let⟨x5,B0,g0,s3,s5⟩:=kW (b:=K.size::b.size::d) iQ.mono (d:=I) (a:=K) (c:=ap) (h:=aa) rfl rfl rfl;clear_value aa;have F:∀c∈[b.size,f.size],c<I.size:=λc a=>z.lt (t c a);have D:∀c∈b.size::d,c<I.size:=λc a=>z.lt (bO A y.size (t _ aL) c a);refine kQ (R:=λg o M=>∃j r u,Value.agg #[O.v g,O.v o]=.agg #[O.v j,O.v r]/\eK (bG d M) j r h u/\yi h u True (9*W)/\J f M) (r:=k.length) (f:=f) (b:=d) iQ.mono bh bh A ⟨V,F _ aL⟩ u2 s3 ah al V x5 B0 g0 (λ_ q=>q.params.length<=3/\q.cR.length<=3/\WB h k.length True q.params.length q.body/\q.body.w<=9*W) (λg w H x T s o p v=>⟨g,w,H,rfl,⟨T,s,i.types,V⟩,HN X.iV o p,v⟩) λao M st H av μ ai ay N Q B ar=>?_
 let⟨q,Z⟩:=cG k ao ai;let⟨ak,aj,an,hw⟩:=X.dz q (aq Z);have v:=u2.trans N;let⟨au,aD,p,P,c2,c3,e0,e1,e2,e3,e4⟩:=i.iT.aF Z;have G:∀{ab:Value}{p o:Nat},af f p o=some ab->af M p o=some ab:=λag=>v.af ag;refine⟨V,V,_,G e0,_,G e1,_,G e2,_,G e3,_,G e4,?_⟩;intro m7 g;have hy:=Q.bn;have ax:=B.lt;have zM:=N.size;have L:J M g:=(J.push M _).ah (ad _) _ _;have s8:g.size=M.size+1:=by simp[g,m7,aw]
 clear_value g;have Y:∀c∈[M.size,b.size,f.size],c<g.size:=λc a=>by
  rcases List.mem_cons.1 a with e|e
  .omega
  .have:=F c e;omega
 have w8:=v.trans L;have az:=P.len;have ae:(au.len:Int)=(q.params.length:Nat):=V;refine⟨st,(B.ext L).bZ 1,?_⟩;rw[ae];refine(Da q.body (st.D::K.size::b.size::d) g (λc a=>?_) j r p q.params.length (i.le w8.le) (c3.le w8.le) an V V).aH (J.az g) Y λss b' M1 am U w _=>⟨_,_,rfl,?_⟩
 .simp only[aV]at a;rcases a with e|e|e|e
  .omega
  .omega
  .have:=D c (by simp[e]);omega
  .have:=D c (by simp[e]);omega
 have C:∀o,af M1 M.size o=af g M.size o:=λo=>aJ (w.same _ V) o;refine⟨C 0,C 1,C 2,C 3,C 4,aJ (w.same _ V) _,?_⟩;have x:=L.trans w;have z1:=w.size;exact vR (b:=b.size::d) (v:=ac) (x:=H) D (λc a=>by have T:=Y c a;have s:=F c;simp only[aV]at a s;rcases a with e|e|e|e<;>first|omega|(have:=s (by simp[e]);omega)|simp at e) (N.trans x) (Q.ext iQ.mono x) (B.ext x) V (P.ext (v.trans x)) (c2.ext (v.trans x)) am ⟨V,V⟩ V λs' T g' s x'=>ar s' T _ g' s x' ⟨ak,aj,U.1,by have:=U.2;show b'.w<=_;omega⟩
section
variable{S:List Nat}{m:E}{c:O}{l:List Instr}
def dS.le{m b:E}(h:Le m b){a:List Ce}{x:Instr}:dS m a x->dS b a x:=λ⟨c,j,d,e,f⟩=>⟨c,j,d,e.le h,f.le h⟩
def dS.mono:om 6 dS:=⟨λh=>dS.le h,λh=>by obtain⟨_,_,rfl,_⟩:=h;rfl⟩
def fe.le{m b:E}(a:Le m b){s:O}{l:List Instr}(h:fe m s l):fe b s l:=eS.le h a λ_ _=>dS.le a
def lj.le{m b:E}(h:Le m b){a:List Ce}{x:dy}:lj m a x->lj b a x:=λ⟨d,l,c,e,f,g,i⟩=>⟨d,l,c,e,f.le h,g.le h,fe.le h i⟩
def lj.mono:om 5 lj:=⟨λh=>lj.le h,λh=>by obtain⟨_,_,_,rfl,_⟩:=h;rfl⟩
def iG.le{m b:E}(a:Le m b){s:O}{l:List dy}(h:iG m s l):iG b s l:=eS.le h a λ_ _=>lj.le a
def VL(x:Instr)(a j:O):Value:=.agg #[vi x.op,vi x.dst,vi x.bP,vi x.bY,O.v a,O.v j]
def we(A:∀c∈S,c<m.size){r u:O}{x:Instr}(B:ap m r x.args)(C:ap m u x.eL)(h:x.args.length<=10^12/\x.eL.length<=10^12):
 aN cg 215 [VL x r u] m λH p=>∃g j,H=VL x g j/\ap (bG S p) g x.args/\ap (bG S p) j x.eL/\J m p:=by
 apply ry
 simp -zeta only[aC,aB]
 intro d e
 let⟨k,i⟩:=dD (a:=d) (c:=e) rfl rfl
 have K:d.size=m.size+1:=by simp[d]
 clear_value e
 have s:∀c∈d.size::S,c<e.size:=bO A k.size (i _ aL)
 have b:∀{M q:E},J e M->J M q->∀o,af q m.size o=af M m.size o:=λy z o=>aJ (z.same _ (y.lt (i _ aL))) o
 refine(bN (d.size::S) (B.ext k) h.1).aH (J.az e) i λg _ I v l a _=>⟨_,rfl,b (J.az _) a _,b (J.az _) a _,b (J.az _) a _,b (J.az _) a _,b (J.az _) a _,?_⟩
 subst l
 refine(bN (d.size::S) (C.ext (k.trans a)) h.2).aH a i λj _ D w l f G=>⟨_,rfl,b a f _,b a f _,b a f _,b a f _,?_⟩
 subst l
 intro F
 have t:Le (bG (d.size::S) D) (bG S F):=cA aL λc n=>ai _ n
 exact⟨g,j,rfl,((v.done s h.1).le (f.df _)).le t,(w.done (λc n=>a.lt (s c n)) h.2).le t,(k.trans G).ah V _ _⟩
def MU(d:fe m c l)(s:Int):Fh 208 [O.v c,vi s] m:=by
 apply GH;have k:=d.len;refine ez (n:=l.length) (k▸d.gS) (λ_ _ M=>J m M) (J.az _) ?_;rintro q K M I μ F e u
 refine⟨λh=>?_,λ_=>rN e⟩;simp only[ar]at h;let⟨x,o⟩:=cG l q;let⟨z,H,b,E,A,g,B,C,f,D⟩:=(fe.ext e d).aF o;have j:=b.len;refine⟨V,V,_,g,?_⟩;refine ez (n:=x.args.length) (j▸b.gS) (λ_ _ a=>J M a) (J.az _) ?_;rintro r L w v μ2 G a t;refine⟨V,V,_,a.af f,λi=>?_,λ_=>u V _ _ (e.trans a)⟩;simp only[ar]at i;let⟨y,p⟩:=cG x.args r;exact⟨V,V,_,a.af f,V,V,y,(b.ext a).aF p,t V _ _ a⟩
structure Pe(k:Nat)(x:Instr):Prop where
 ME:x.op=22->(k:Int)<x.bP
 arg:x.op=18\/x.op=23\/x.op=16\/x.op=17->0<x.args.length
def RU(l:List Instr):Prop:=∀(k:Nat)(x:Instr),l[k]? =some x->Pe k x
def II(f:fe m c l)(E:RU l){n:Int}(C:0<=n)(RL:Int):oJ 235 [O.v c,vi n,vi RL] m:=by
 apply Be;simp -zeta only[aC,aB];have I:=f.len;have L:=f.gS;refine⟨λv _ M=>0<=v/\J m M,λv _ _=>((l.length:Int) -v).toNat,⟨C,J.az _⟩,?_⟩;rintro v G M ⟨F,k⟩;refine⟨λh=>?_,λ_=>rA k⟩;simp only[ar]at h;let⟨a,o⟩:=cG l v.toNat;let⟨d,N,e,K,s,t,w,z,A,B⟩:=(fe.ext k f).aF o;have H:=e.len;have g:=E _ a o;refine⟨F,V,_,s,_,t,_,w,_,z,_,A,_,B,?_⟩;intro P b;have j:J M b:=(J.push M _).ah (ad _) _ _;clear_value b;have u:=k.trans j;have ME:(a.op==22)=true->(0<=a.bP/\J m b)/\((l.length:Int) -a.bP).toNat<((l.length:Int) -v).toNat:=λh=>by
  simp only[aG]at h;have:=g.ME h;exact⟨⟨V,u⟩,V⟩
 have p:(a.op==23)=true->(0:Int)<=0/\(0:Int)<(d.len:Int)/\∃q:Int,af b d.D (d.off+Int.toNat (0:Int)*1)=some (vi q)/\∃r:Bool,vb (q==G)=.bool r/\J m b:=λh=>by
  simp only[aG]at h;have:=g.arg V;let⟨y,i⟩:=cG a.args 0;exact⟨bh,V,y,(e.ext j).aF i,rA u⟩
 refine⟨λD=>?_,λ_=>⟨ME,λ_=>⟨p,λ_=>rA u⟩⟩⟩;simp only[aG]at D;have:=g.arg V;let⟨y,i⟩:=cG a.args 0;refine⟨bh,V,y,(e.ext j).aF i,λ_=>?_,λ_=>⟨ME,λ_=>⟨p,λ_=>rA u⟩⟩⟩;rw[aQ (b:=v+1) V V];exact⟨⟨V,u⟩,by show((l.length:Int) -(v+1)).toNat<((l.length:Int) -v).toNat;omega⟩
def Kq(l b:List Instr):Prop:=b.length=l.length/\∀(k:Nat)(a:Instr),b[k]? =some a->∃x,l[k]? =some x/\(a=x\/a=⟨24,0,x.bP,0,x.args,x.eL⟩)
def Qp(l:List Instr):Prop:=∀x∈l,x.args.length<=10^12/\x.eL.length<=10^12
abbrev Vm(S:List Nat)(a m:E)(s:O)(l:List Instr):Prop:=Gr S a m dW 6 dS s l
def J7(hS:∀c∈S,c<m.size)(f:fe m c l)(ae:RU l)(af:Qp l)(hb:l.length<=10^12):
 aN cg 214 [O.v c] m λN L=>∃s e,N=O.v s/\Vm S m L s e/\Kq l e/\J m L:=by
 apply Dc
 simp -zeta only[aC,aB]
 intro H
 have x1:J m H:=J.push _ _
 have g0:Vm S m H (.mk m.size 0 0 0) []:=Gr.new S (ad _) _ _ _
 clear_value H
 have ac:=f.len
 refine ez (n:=l.length) (ac▸f.gS) (λk s M=>J m M/\∃e,Vm S m M s e/\Kq (l.take k) e) ⟨x1,[],g0,by simp[Kq]⟩ ?_
 rintro k s M Q μ hk ⟨q,e,A,D,F⟩ ai
 refine dit (λaa=>?_) λaa=>?_
 .let⟨d,G⟩:=cG l k
  let⟨al,an,ha,hj,R,T,U,W,X,Y⟩:=(fe.ext q f).aF G
  have ag:=af d (aq G)
  have hy:=A.bn
  have zM:=q.size
  have am:e.length=k:=by rw[D];simp;omega
  have ab:∀c∈s.D::S,c<M.size:=λc f=>by
   rcases List.mem_cons.1 f with u|u
   .omega
   .have:=hS c u;omega
  refine⟨V,V,_,R,_,T,_,U,_,W,_,X,_,Y,?_⟩
  refine(we ab ha hj ag).mono λN y⟨t,w,u,B,C,P⟩=>⟨_,_,_,_,_,_,u,?_⟩
  intro m3 j
  have i:J y j:=(J.push y _).ah (ad _) _ _
  have s4:j.size=y.size+1:=by simp[j,m3,aw]
  clear_value j
  have p:=P.trans i
  have z:∀{g:E}{b:Instr},J j g->ap (bG (s.D::S) g) t b.args->ap (bG (s.D::S) g) w b.eL->(b=d\/b=⟨24,0,d.bP,0,d.args,d.eL⟩)->
   jK (g.push (.cells (bt [.i b.op,.i b.dst,.i b.bP,.i b.bY,.s t,.s w]) dW)) dW [.i 0,.i 0,.i 0,.i 0,.s .nil,.s .nil] 80 s (.mk g.size 0 1 1) λI r=>eF [y.size] (g.push (.cells (bt [.i b.op,.i b.dst,.i b.bP,.i b.bY,.s t,.s w]) dW)) r/\Q I (cT ((k:Int)+1)) r/\μ I (cT ((k:Int)+1)) r<μ s k M:=λ{g b} xx h1 h2 h3=>by
   have z4:=p.size
   have zx:=xx.size
   refine Gr.kH (g:=[.i 0,.i 0,.i 0,.i 0,.s .nil,.s .nil]) (k:=b) dS.mono bh (A.ext dS.mono (p.trans xx)) ((q.trans (p.trans xx)).fz []) ⟨t,w,rfl,h1,h2⟩ V λI r g3 Z z3 q3=>⟨λc f=>?_,ai V _ _ ⟨Z.ext,_,g3,bE,λv aj h=>?_⟩⟩
   .have o:=P.size
    simp at f;subst f
    rw[q3 _ V V,(J.push g _).same _ V]
   .rcases aW v e.length with o|o
    .rw[ax o]at h
     let⟨ak,K,ah⟩:=F v aj h
     rw[dG V]at K⊢
     exact⟨ak,K,ah⟩
    .rw[aI o]at h
     have:v -e.length=0:=by have:=av h;simp at this;omega
     rw[this]at h;simp at h;subst h
     have:v=k:=V
     subst this
     exact⟨d,by rw[dG V];exact G,h3⟩
  have z4:=p.size
  refine⟨λh9=>?_,λ_=>?_⟩
  .rw[aQ (b:=(k:Int)+1) V V]
   refine(II (fe.ext (q.trans p) f) ae V d.dst).aH (J.az j) bE λah K o _=>⟨_,rfl,λ_=>?_,λ_=>?_⟩
   .intro m6
    have:=z (b:=⟨24,0,d.bP,0,d.args,d.eL⟩) o ((B.le (i.df _)).le (o.df _)) ((C.le (i.df _)).le (o.df _)) (Or.inr rfl)
    rw[aQ (b:=(k:Int)+1) V V]at this
    exact this
   .intro m6
    have:=z (b:=d) o ((B.le (i.df _)).le (o.df _)) ((C.le (i.df _)).le (o.df _)) (Or.inl rfl)
    rw[aQ (b:=(k:Int)+1) V V]at this
    exact this
  .intro K
   exact z (b:=d) (J.az _) (B.le (i.df _)) (C.le (i.df _)) (Or.inl rfl)
 .rw[bX V]at D F
  exact⟨s,e,rfl,A,⟨D,F⟩,q⟩
end
section
variable{b:List dy}
structure SW(p:dy):Prop where
 params:p.params.length<=3
 cR:p.cR.length<=3
 iV:0<p.dq.length
 oA:p.dq.length<=10^12
 dq:RU p.dq
 je:Qp p.dq
structure DJ(b:List dy):Prop where
 iV:0<b.length
 oA:b.length<=4
 dz:∀p∈b,SW p
def Qo(f:Nat)(c:List Value)(m:E)(S:List Nat)(e:List bz)(Q:List dy->Prop):Prop:=aN cg f c m λv a=>∃d p b,v=.agg #[O.v d,O.v p]/\cw (bG S a) d e/\iG (bG S a) p b/\Q b/\J m a
def Kq.ok{l d:List Instr}(h:Kq l d)(g:RU l)(f:Qp l):RU d/\Qp d:=by
 let⟨j,e⟩:=h;refine⟨λk a c=>?_,λa c=>?_⟩
 .obtain⟨x,b,rfl|rfl⟩:=e k a c
  .exact g k a b
  .exact⟨sx,sx⟩
 .let⟨k,i⟩:=List.mem_iff_getElem?.1 c;obtain⟨x,b,rfl|rfl⟩:=e k a i
  .exact f a (aq b)
  .exact f x (aq b)
def U7{a:List dy}(h:DJ b)(f:a.length=b.length)(c:∀(i:Nat)(q:dy),a[i]? =some q->SW q):DJ a:=
 ⟨by have:=h.iV;omega,oh h.oA,λq e=>by obtain⟨i,d⟩:=List.mem_iff_getElem?.1 e;exact c i q d⟩
def IL{d:List Nat}{l:E}(T:∀c∈d,c<l.size){y z:O}{A:List bz}(hd:cw l y A)(ht:dT A)(hp:iG l z b)(W:DJ b):Qo 166 [.agg #[O.v y,O.v z]] l d A DJ:=by
 apply Bj;simp -zeta only[aC,aB];intro f a2;let⟨K,F⟩:=dD (a:=f) (c:=a2) rfl rfl;have s1:f.size=l.size+1:=by simp[f]
 clear_value a2;have ao:=hp.len;have aG:=W.oA;refine(fU (b:=f.size::d) (bO T K.size (F _ aL)) (hd.le K.le) ht).mono λ_ Z⟨dd,e,am,L⟩=>?_;subst e;refine⟨L.dv F,_,rfl,?_⟩;intro o au ai;have u2:=K.trans L;let⟨x5,B0,g0,s3,s5⟩:=kW (b:=o.size::f.size::d) lj.mono (d:=Z) (a:=o) (c:=au) (h:=ai) rfl rfl rfl;clear_value ai;have U:∀c∈[f.size,l.size],c<Z.size:=λc g=>L.lt (F c g);have ae:∀c∈f.size::d,c<Z.size:=λc g=>L.lt (bO T K.size (F _ aL) c g);refine kQ (R:=λj k M=>∃y z h,Value.agg #[O.v j,O.v k]=.agg #[O.v y,O.v z]/\cw (bG d M) y A/\iG (bG d M) z h/\DJ h/\J l M) (r:=b.length) (f:=l) (b:=d) lj.mono bh bh T ⟨V,U _ aL⟩ u2 s3 am ao V x5 B0 g0 (λ_ r=>SW r) (λh r' ah m' h1 C j k p=>⟨h,r',ah,rfl,h1,C,U7 W j k,p⟩) λar M s ah az μ an aE xM ac N av=>?_
 let⟨r,hq⟩:=cG b ar an;have t:=W.dz r (aq hq);have q3:=t.params;have q4:=t.cR;have qf:=t.oA;have qs:=t.iV;have v6:=u2.trans xM;let⟨aA,p,c,c1,c2,c3,e0,e1,e2,e3,e4⟩:=hp.aF hq;have G:∀{aa:Value}{p v:Nat},af l p v=some aa->af M p v=some aa:=λB=>v6.af B;refine⟨V,V,_,G e0,_,G e1,_,G e2,_,G e3,_,G e4,?_⟩;intro m7 k;have hy:=ac.bn;have aD:=N.lt;have zM:=xM.size;have x8:J M k:=(J.push M _).ah (ad _) _ _;have s8:k.size=M.size+1:=by simp[k,m7,aw]
 clear_value k;have H:∀c∈[M.size,f.size,l.size],c<k.size:=λc g=>by
  rcases List.mem_cons.1 g with e|e
  .omega
  .have:=U c e;omega
 have w8:=v6.trans x8;have D:∀{M':E},k.size<=M'.size->∀c∈s.D::o.size::f.size::d,c<M'.size:=λB c g=>by
  simp only[aV]at g;rcases g with e|e|e|e
  .omega
  .omega
  .have:=ae c (by simp[e]);omega
  .have:=ae c (by simp[e]);omega
 have h:∀{P M2:E},J k P->J P M2->∀p,p<k.size->∀v,af M2 p v=af P p v:=λB h' p hb v=>aJ (h'.same p (B.lt hb)) v;have q:M.size<k.size:=V;have X:o.size<k.size:=V;refine⟨s,(N.ext x8).bZ 1,?_⟩;refine(bN (s.D::o.size::f.size::d) (c1.ext w8) V).aH (J.az k) H λa' _ m9 ga e j _=>⟨_,rfl,h (J.az _) j _ q _,h (J.az _) j _ q _,h (J.az _) j _ q _,h (J.az _) j _ q _,h (J.az _) j _ X _,?_⟩;subst e;refine(bN (s.D::o.size::f.size::d) (c2.ext (w8.trans j)) V).aH j H λb' _ aH gb e x w=>⟨_,rfl,h j x _ q _,h j x _ q _,h j x _ q _,h j x _ X _,?_⟩;subst e;have z9:=j.size;have vu:=x.size;refine(J7 (S:=s.D::o.size::f.size::d) (D V) (fe.ext (w8.trans w) c3) t.dq t.je qf).mono λaa Y⟨Q,I,e,gc,ag,u⟩=>⟨λc g=>u.same c (w.lt (H c g)),Q,e,h w u _ q _,h w u _ q _,h w u _ X _,?_⟩;intro aI;have ab:=x8.trans (w.trans u);have aK:=u.size;let⟨ax,ay⟩:=ag.ok t.dq t.je;have aF:=ag.1;have aj:ap (bG (s.D::o.size::f.size::d) Y) a' r.params:=(ga.done (D V) V).le ((x.trans u).df _);have ak:ap (bG (s.D::o.size::f.size::d) Y) b' r.cR:=(gb.done (D V) V).le (u.df _);have al:fe (bG (s.D::o.size::f.size::d) Y) Q I:=gc.done dS.mono (D V) bh V;exact Gr.box (g:=[.s .nil,.s .nil,.i 0,.i 0,.s .nil]) (j:=1) (y:=88) (i:=[.s dd,.s s]) (w:=⟨r.params,r.cR,r.aS,r.ak,I⟩) lj.mono bh (ac.ext lj.mono ab) ((xM.trans ab).fz []) ⟨a',b',Q,rfl,aj,ak,al⟩ V (N.ext ab) aL bh ⟨V,aL⟩ (λc g=>by have h1:=H c g;have C:=U c;simp only[aV]at g C;rcases g with e|e|e|e<;>first|omega|(have:=C (by simp[e]);omega)|simp at e) λr' m' g' C f' z' q'=>av r' m' _ g' C f'.ext ⟨q3,q4,by show 0<I.length;omega,by show I.length<=_;omega,ax,ay⟩
end
section
variable{S:List Nat}{d c:E}{b:Nat}{s:O}{l:List Instr}{x:Instr}
structure Fc(S:List Nat)(d c:E)(b:Nat)(s:O)(l:List Instr):Prop where
 box:cE c b nW [.s s]
 gr:Vm (b::S) d c s l
 up:d.size<=b
def Fc.ext{S:List Nat}{d c a:E}{b:Nat}{s:O}{l:List Instr}(h:Fc S d c b s l)(x:J c a):Fc S d a b s l:=⟨h.box.ext x,h.gr.ext dS.mono x,h.up⟩
def Fc.ne{S:List Nat}{d c:E}{b:Nat}{s:O}{l:List Instr}(h:Fc S d c b s l):s.D≠b:=h.gr.ne h.box bh
def Pc(S:List Nat)(d c:E)(b:Nat)(s:O)(P:List Instr->Prop)(f:E):Prop:=∃a e,Fc S d f b a e/\P e/\Fz [b,s.D] c f/\(a.D=s.D\/c.size<=a.D)
def qD{v z:O}(p:Fc S d c b s l)(E:d.size<=c.size)(H:ap (bG (s.D::b::S) c) v x.args)(I:ap (bG (s.D::b::S) c) z x.eL)(q:l.length<=10^12):
 aN cg 207 [vp b 0,VL x v z] c λP M=>P=vi (l.length:Nat)/\Pc S d c b s (l++[x]=·) M:=by
 apply xf (b,0)
 simp -zeta only[aC,aB]
 intro g
 have n:J c g:=J.push _ _
 have s1:g.size=c.size+1:=by simp[g]
 clear_value g
 have h:=p.ext n
 have W:=h.gr.bn
 have D:=h.box.lt
 have T:=p.box.lt
 have X:=p.gr.bn
 refine⟨s,h.box.bZ 0,?_⟩
 intro N
 have F:J g N:=J.push _ _
 refine⟨aJ (F.same _ D) _,?_⟩
 have U:(c.extract 0 d.size).size=d.size:=me E
 have g1:Vm (b::S) (c.extract 0 d.size) g s l:=Gr.cx dS.mono h.gr (λG q=>Or.inl q) V
 refine Gr.kH (g:=[.i 0,.i 0,.i 0,.i 0,.s .nil,.s .nil]) (k:=x) dS.mono bh g1 ((((J.MI E).trans n).fz [])) ⟨v,z,rfl,H.le (n.df _),I.le (n.df _)⟩ V λi k A R Q u=>?_
 have Z:∀e,e<g.size->e≠s.D->k[e]? =g[e]? :=u
 have y:cE k b nW [.s s]:=h.box.congr (u b D (kC h.ne))
 have L:=A.ne y bh
 refine⟨λe f=>?_,y.fJ aL,?_⟩
 .simp at f;subst f
  rw[u c.size V V,F.same _ V]
 intro t
 have C:cE t b nW [.s i]:=cE.ah (m:=k) (o:=0) (r:=[.s i]) y
 have w:∀e,e≠b->t[e]? =k[e]? :=λe f=>bd _ _ _ _ f
 have s4:t.size=k.size:=aw _ _ _ _
 refine⟨λe f=>w e (by simp at f;omega),i,C.bZ 0,?_⟩
 have B:Vm (b::S) d t i (l++[x]):=by
  refine Gr.cx dS.mono (A.re dS.mono (Y:=[b]) ⟨V,λe f j=>w e (by simpa using j)⟩ aL (by simp;exact L) λe f=>Or.inl f) (λG q=>Or.inl q) V
 have G:=B.len bh
 have K:i.len=l.length+1:=by rw[G];simp
 refine⟨?_,i,_,⟨C,B,p.up⟩,rfl,⟨V,λe f j=>?_⟩,oh Q.2⟩
 .rw[K,aQ V V];congr 1;omega
 .simp only[aV,jW,BD,vt]at j
  rw[w e j.1,u e V j.2,n.same e f]
def Q6{j:Nat}(h:Fc S d c b s l)(o:d.size<=c.size)(r:l[j]? =some x):
 aN cg 236 [vp b 0,vi j] c λ_ K=>Pc S d c b s (l.set j ⟨x.op,0,l.length,0,x.args,x.eL⟩=·) K:=by
 apply xe (b,0)
 simp -zeta only[aC,aB]
 have G:=av r
 have I:=h.gr.len bh
 obtain⟨M,⟨q,t,rfl,E,F⟩,jt⟩:=h.gr.cells r
 have w:=jt 0 _ rfl;have y:=jt 1 _ rfl;have z:=jt 2 _ rfl;have A:=jt 3 _ rfl;have B:=jt 4 _ rfl;have C:=jt 5 _ rfl
 refine⟨s,h.box.bZ 0,V,V,_,w,_,y,_,z,_,A,_,B,_,C,?_⟩
 intro L e
 have g:J c e:=(J.push c _).ah (ad _) _ _
 have Q:e.size=c.size+1:=by simp[e,L,aw]
 clear_value e
 have i:=h.ext g
 have H:=i.ne
 have O:=h.gr.bn
 have P:=g.size
 refine⟨s,i.box.bZ 0,s,i.box.bZ 0,V,V,?_⟩
 have g1:Vm (b::S) (c.extract 0 d.size) e s l:=Gr.cx dS.mono i.gr (λv m=>Or.inl m) (by rw[me o];exact ad _)
 rw[I]
 let⟨wr,D,N,p⟩:=Gr.set (k:=j) (cs:=[.i x.op,.i 0,.i l.length,.i 0,.s q,.s t]) (a:=⟨x.op,0,l.length,0,x.args,x.eL⟩) dS.mono g1 (((J.MI o).trans g).fz []) G ⟨q,t,rfl,E.le (g.df _),F.le (g.df _)⟩
 refine⟨wr,?_⟩
 intro u
 have R:u.size=e.size:=aw _ _ _ _
 refine⟨λf n=>p f (by simp at n;omega),s,_,⟨i.box.congr (p b (kC H)),Gr.cx dS.mono D (λv m=>Or.inl m) (by rw[me o];exact ad _),h.up⟩,rfl,⟨V,λf n m=>?_⟩,Or.inl rfl⟩
 simp only[aV,jW,BD,vt]at m
 have v:u[f]? =e[f]? :=p f m.2
 rw[v,g.same f n]
end
section
variable{n a:Nat}
def mN(l b:List Instr)(n:Nat):Prop:=∃a,b=l++a/\(∀(i:Nat)(x:Instr),a[i]? =some x->Pe (l.length+i) x)/\Qp a/\a.length<=n
def mN.az(l:List Instr):mN l l 0:=⟨[],aL,aL,λ_ h=>by simp at h,ad _⟩
def mN.fg{l b:List Instr}(h:mN l b n)(i:n<=a):mN l b a:=let⟨f,c,d,e,g⟩:=h;⟨f,c,d,e,V⟩
def mN.len{l a:List Instr}(h:mN l a n):a.length<=l.length+n:=by obtain⟨b,rfl,_,_,d⟩:=h;simp;omega
def mN.trans{l e f:List Instr}(h:mN l e n)(p:mN e f a):mN l f (n+a):=by
 obtain⟨c,rfl,g,k,s⟩:=h;obtain⟨r,rfl,j,m,t⟩:=p;refine⟨c++r,aL,λi x b=>?_,λx q=>?_,bE⟩
 .rcases aW i c.length with d|d
  .rw[ax d]at b;exact g i x b
  .rw[aI d]at b;have:=j _ x b;have o:(l++c).length+(i -c.length)=l.length+i:=bE;rw[o]at this;exact this
 .rcases List.mem_append.1 q with h|h
  .exact k x h
  .exact m x h
def mN.lJ{l:List Instr}{x:Instr}(h:Pe l.length x)(c:x.args.length<=10^12/\x.eL.length<=10^12):mN l (l++[x]) 1:=
 ⟨[x],rfl,λi y a=>by
  have:i=0:=by have:=av a;simp at this;omega
  subst this;simp at a;subst a;exact h,λy b=>by simp at b;subst b;exact c,aL⟩
section
variable{S:List Nat}{d m c:E}{b:Nat}{s e:O}{l f:List Instr}
def Fc.gF(h:Fc S d m b s l)(f:J d m)(e:Fz [b,s.D] m c):J d c:=by
 have j:=h.gr.bn;have i:=h.up;exact Fz.ext (((f.fz [b,s.D]).trans e).DB λg a=>Or.inr (by simp at a;omega))
def QB(h:Fz [b,s.D] m c)(f:e.D=s.D\/m.size<=e.D):Le (bG [s.D,b] m) (bG [e.D,b] c):=pA λa g i=>by
 simp at i;refine⟨by simp;rcases f with d|d<;>omega,h.same a g bE⟩
def Pc.dv{L:List Nat}(f:Fz [b,s.D] m c)(d:∀a∈L,a<m.size/\a≠b/\a≠s.D):eF L m c:=λa e=>f.same a (d a e).1 (by have:=d a e;simp;omega)
end
structure RW(S:List Nat)(mb m:E)(eb:Nat)(s:O)(l:List Instr)(cons first:O)(cl fl:List Int):Prop where
 em:Fc S mb m eb s l
 x:J mb m
 gF:∀c∈S,c<m.size
 cons:ap (bG [s.D,eb] m) cons cl
 first:ap (bG [s.D,eb] m) first fl
 same:fl.length=cl.length
 je:∀y∈fl,0<=y/\y<=900000000000
def RW.ext{S:List Nat}{e m d:E}{b:Nat}{s:O}{l:List Instr}{cons first:O}{a c:List Int}(h:RW S e m b s l cons first a c)(x:J m d):RW S e d b s l cons first a c:=
 ⟨h.em.ext x,h.x.trans x,λf g=>x.lt (h.gF f g),h.cons.le (x.df _),h.first.le (x.df _),h.same,h.je⟩
def RW.next{S:List Nat}{e m d:E}{a:Nat}{s c:O}{o j:List Instr}{cons first:O}{f g:List Int}(h:RW S e m a s o cons first f g)(l:Fc S e d a c j)(b:Fz [a,s.D] m d)(i:c.D=s.D\/m.size<=c.D):RW S e d a c j cons first f g:=
 ⟨l,h.em.gF h.x b,λk n=>aO (h.gF k n) b.size,h.cons.le (QB b i),h.first.le (QB b i),h.same,h.je⟩
def XK(f:List bz)(g:List gN)(x:cV):Prop:=∀(S:List Nat)(a m:E)(c:Nat)(s:O)(l:List Instr)(cons first:O)(b h:List Int)(e r d k:O),RW S a m c s l cons first b h->WS f g.length True b.length x->b.length+4*x.w<=900000000000->l.length+6*x.w<=10^12->eK a e r f g->ap a d x.args->nD a k x.bC->
 aN cg 221 [vp c 0,.agg #[O.v e,O.v r],oW x d k,O.v cons,O.v first] m λ_ j=>Pc S a m c s (λi=>mN l i (6*x.w)) j
def WG(f:List bz)(g:List gN)(b:Bk):Prop:=∀(S:List Nat)(a m:E)(d:Nat)(s:O)(l:List Instr)(cons first:O)(c h:List Int)(e r t:O),RW S a m d s l cons first c h->WB f g.length True c.length b->c.length+4*b.w<=900000000000->l.length+6*b.w<=10^12->eK a e r f g->eO a t b.aD->
 aN cg 206 [vp d 0,.agg #[O.v e,O.v r],.agg #[O.v t,vi b.aS],O.v cons,O.v first] m λ_ j=>Pc S a m d s (λi=>mN l i (6*(b.w -1))) j
end
def tj(m:E):ap m .nil []:=⟨rfl,ad _,aL,aL⟩
def LC{ds:List bz}{rs:List gN}{aD:List cV}{a8:Int}(b:∀a∈aD,a.op=7\/a.op=8->XK ds rs a):WG ds rs (.mk aD a8):=by
 intro z mb D f ab ah cons first cl fl aN a7 bw E0 a1 be bf hn hs
 have a2:=a1.aT;rw[Bk.qG]at*;simp only[Bk.jS,Bk.ju]at*;apply va (f,0);simp -zeta only[aC,aB];intro Q F;let⟨x2,hl⟩:=dD (a:=Q) (c:=F) rfl rfl;have s1:Q.size=D.size+1:=by simp[Q]
 have s2:F.size=D.size+2:=by simp[F,s1]
 clear_value F;have a0:=hs.len;have az:=Bw aD;have bm:=fY aD;have bi:=E0.em.box.lt;have bt:=E0.em.gr.bn;have bk:=E0.x.size;refine wN (n:=aD.length) (a0▸hs.gS) (λo cons first M=>∃m P A L,RW z mb M f m P cons first A L/\A.length=cl.length+dc (aD.take o)/\mN ah P (6*sw (aD.take o))/\Fz [f,ab.D] D M/\(m.D=ab.D\/F.size<=m.D)/\F.size<=M.size) ⟨ab,ah,cl,fl,E0.ext x2,aL,(mN.az ah).fg (dL _),x2.fz _,Or.inl rfl,ad _⟩ ?_;rintro o cons first M a9 μ hk ⟨m,P,A,L,R,aW,ag,fz,aZ,hM⟩ aI
 have bj:=ag.len;have bo:=az o;have s:=R.em.gr.bn;refine dit (λk=>?_) λk=>?_
 .let⟨a,Z⟩:=cG aD o;let⟨pa,pk,O,aX,e0,e1,e2,e3,e4⟩:=hs.aF Z;have bq:=pR Z;have bp:=qL Z;have bs:=cV.mr a;have bn:=az (o+1);have bg:=sX (aD.take o);have bl:=fY (aD.take o);have Y:=a2.1 o a Z;rw[<-aW]at Y;have X:=R.x;refine⟨V,V,_,X.af e0,_,X.af e1,_,X.af e2,_,X.af e3,_,X.af e4,?_⟩;intro m3 p;have x4:J M p:=(J.push M _).ah (ad _) _ _;have s4:p.size=M.size+1:=by simp[p,m3,aw]
  clear_value p;have j:=R.ext x4;have N:∀{T:E},p.size<=T.size->∀h∈[M.size,Q.size,D.size],h<T.size/\h≠f/\h≠m.D:=λhz h r=>by simp at r;omega
  have kS:∀{y U:E},p.size<=y.size->J y U->eF [M.size,Q.size,D.size] y U:=λhz xx h r=>xx.same h (N hz h r).1;have C:∀{y U:E},p.size<=y.size->J y U->∀ai,af U M.size ai=af y M.size ai:=λhz xx ai=>aJ (xx.same _ V) ai;have ao:∀{T:E},p.size<=T.size->∀c∈m.D::f::z,c<T.size:=λhz c b=>by
   simp only[aV]at b;rcases b with e|e|e
   .omega
   .omega
   .have:=R.gF c e;have:=X.size;omega
  refine⟨λI=>∃g u,RW z mb I f g u cons first A L/\mN P u (6*a.w)/\Fz [f,m.D] p I/\(g.D=m.D\/p.size<=g.D),⟨λh7=>?_,λn7=>⟨λaR=>?_,λa5=>⟨λaS=>?_,λa6=>?_⟩⟩⟩,?_⟩
  .simp only[bQ,aG]at h7;refine(b a (aq Z) h7 z mb p f m P cons first A L aN a7 pa pk j Y V V hn O aX).mono λv m5⟨g,u,ac,p5,K,b5⟩=>⟨Pc.dv K (N (ad _)),g,u,j.next ac K b5,p5,K,b5⟩
  .simp only[bQ,aG]at aR;refine(bN (m.D::f::z) (O.ext j.x) V).mono λv m5⟨a',la,e,ga,ea,d⟩=>⟨kS (ad _) d,a',e,C (ad _) d _,?_⟩;subst ea;have l:=j.ext d;have t:=d.size;refine(qD (x:=⟨a.op,0,0,0,a.args,[]⟩) l.em l.x.size (GI.done ga (ao (ad _)) (by show a.args.length<=_;omega)) (tj _) V).mono λv G⟨ev,s6,l6,ak,p6,B,b6⟩=>⟨Pc.dv B (N t),_,ev,s6,l6,l.next ak B b6,?_,(d.fz _).trans B,V⟩;subst p6;exact(mN.lJ ⟨λk=>by simp only at k;omega,λk=>by simp only at k;omega⟩ ⟨by show a.args.length<=_;omega,aL⟩).fg V
  .simp only[bQ,aG]at aS;have bb:=Y.eZ.lJ V;let⟨H,ar⟩:=cG a.args 0;let⟨y0,y1⟩:=Y.eZ.args H (aq ar);have bd:=O.len;have c4:=(j.cons.le (bA _ _));have f4:=(j.first.le (bA _ _));have a3:=c4.len;have a4:=f4.len;have aY:=j.same;let⟨cn,aP⟩:=cG A H.toNat;let⟨fn,am⟩:=cG L H.toNat;let⟨a_,ba⟩:=j.je fn (aq am);have F4:=f4.aF am;refine⟨bh,V,H,(O.ext j.x).aF ar,y0,V,cn,c4.aF aP,y0,V,fn,F4,?_⟩;refine(dI (e:=[]) aL (hn.bo.le (j.x.le.trans (zW _))) hn.types cn).mono λv m5⟨aT,bu,e,aK,ax,d⟩=>⟨kS (ad _) d,aT,e,by rw[d.af F4,F4],C (ad _) d _,C (ad _) d _,?_⟩;subst ax;have t:=d.size;have F3:=Fy hn.types cn;obtain⟨fk,aQ⟩:∃fk:Nat,fn=fk:=⟨fn.toNat,V⟩;subst aQ;refine(rQ (S:=[]) aL aK fk V).mono λv G⟨aU,bv,e,aE,al,i⟩=>⟨kS t i,aU,e,C t i _,C t i _,?_⟩;have z6:=i.size;refine(eN (S:=[]) aL ((O.ext (j.x.trans (d.trans i))).le (zW _)) (aE.done tV.mono aL bh (oh al.2)) (oh al.2)).mono λv m7⟨av,aa,e,aF,au,q⟩=>⟨kS V q,av,e,C V q _,?_⟩;have W:=(d.trans i).trans q;have w:=j.ext W;have z7:=q.size;have aH:GI (m.D::f::z) G m7 av aa:=GI.any aF;have bc:aa.length<=a.args.length+3:=by rw[<-au];simp;have:=al.2;omega
   have aM:0<aa.length:=by rw[<-au];simp;omega
   refine(qD (x:=⟨a.op,0,0,0,aa,[]⟩) w.em w.x.size (aH.done (ao V) V) (tj _) V).mono λv m8⟨ev,s8,l8,ay,p8,f8,b8⟩=>⟨Pc.dv f8 (N V),_,ev,s8,l8,w.next ay f8 b8,?_,(W.fz _).trans f8,V⟩;subst p8;exact(mN.lJ ⟨λk=>by simp only at k;omega,λ_=>aM⟩ ⟨by show aa.length<=_;omega,aL⟩).fg V
  .refine(bN (m.D::f::z) (O.ext j.x) V).mono λv m5⟨a',la,e,ga,ea,d⟩=>⟨kS (ad _) d,a',e,C (ad _) d _,C (ad _) d _,C (ad _) d _,?_⟩;subst ea;simp only[br,aj]at a5 a6;have l:=j.ext d;have t:=d.size;have aa:a.op<=11:=by
    rcases Y.eZ.op with k|k
    .exact k.2
    .omega
   refine(qD (x:=⟨a.op,(cons.len:Int),a.bP,a.bY,a.args,[]⟩) l.em l.x.size (GI.done ga (ao (ad _)) (by show a.args.length<=_;omega)) (tj _) V).mono λv G⟨ev,s6,l6,ak,p6,B,b6⟩=>⟨Pc.dv B (N t),_,ev,s6,l6,l.next ak B b6,?_,(d.fz _).trans B,V⟩;subst p6;exact(mN.lJ ⟨λk=>by simp only at k;omega,λk=>by simp only at k;omega⟩ ⟨by show a.args.length<=_;omega,aL⟩).fg V
  .rintro I ⟨g,u,l,p5,K,b5⟩;have t:=K.size;have ac:mN ah u (6*sw (aD.take (o+1))):=(ag.trans p5).fg V;have av:Fz [f,ab.D] D I:=(fz.then x4).rV K λH s=>by
    simp only[aV,jW,BD]at s⊢;rcases s with e|e
    .exact Or.inl (Or.inl e)
    .rcases aZ with d|d
     .exact Or.inl (Or.inr V)
     .exact Or.inr V
   have ax:g.D=ab.D\/F.size<=g.D:=V;have bb:=l.em.gr.bn;have al:∀h∈[M.size,Q.size,D.size],h<I.size:=λh r=>aO (N (ad _) h r).1 t;have ay:=λh r=>sZ a h r;refine(jN a.op I).mono λv G⟨h,e,r,i⟩=>⟨λc b=>i.same c (al c b),h,e,λht=>?_,λhf=>?_⟩
   .have hd:=ay h r;rw[an ht]at hd;intro m7;have q:J G m7:=J.push _ _;have ba:=l.em.box.lt;have z6:=i.size;have aa:∀c∈[g.D,f],c<G.size:=λc b=>by simp at b;omega
    have a3:ap (bG [g.D,f] m7) (.mk G.size 0 1 1) [0]:=ap.lit aA [0] aa rfl rfl aL;have W:=i.trans q;have w:=l.ext W;have a_:=w.cons.len;refine(eN (S:=[g.D,f]) (λc b=>q.lt (aa c b)) w.cons a3 bE).mono λv m8⟨aK,aE,e,aP,ar,x8⟩=>⟨λc b=>x8.same c (q.lt (i.lt (al c b))),aK,e,?_⟩;intro m9;have d:J m8 m9:=J.push _ _;have z7:=q.size;have z8:=x8.size;have am:∀c∈[g.D,f],c<m8.size:=λc b=>by have:=aa c b;omega
    have a4:ap (bG [g.D,f] m9) (.mk m8.size 0 1 1) [0]:=ap.lit aA [0] am rfl rfl aL;have E9:=w.ext (x8.trans d);have aY:=E9.same;refine(eN (S:=[g.D,f]) (λc b=>d.lt (am c b)) E9.first a4 bE).mono λv aH⟨aM,aF,e,aQ,au,B⟩=>⟨λc b=>B.same c (d.lt (x8.lt (q.lt (i.lt (al c b))))),aM,e,?_⟩;have ak:=E9.ext B;have aT:ap (bG [g.D,f] aH) aK aE:=(GI.done aP (λc b=>q.lt (aa c b)) (by rw[<-ar];simp;omega)).le ((d.trans B).df _);have aU:ap (bG [g.D,f] aH) aM aF:=GI.done aQ (λc b=>d.lt (am c b)) (by rw[<-au];simp;omega);refine aI V _ _ _ ⟨g,u,aE,aF,⟨ak.em,ak.x,ak.gF,aT,aU,by rw[<-ar,<-au];simp;omega,λH s=>?_⟩,by rw[<-ar];simp;omega,ac,av.then (((W.trans x8).trans d).trans B),ax,?_⟩
    .rw[<-au]at s;rcases List.mem_append.1 s with s|s
     .exact l.je H s
     .simp at s;omega
    .have:=d.size;have:=B.size;omega
   .have hd:=ay h r;rw[ae (by simp[hf])]at hd;exact aI V _ _ _ ⟨g,u,A,L,l.ext i,V,ac,av.then i,ax,oh i.size⟩
 .have a:o=aD.length:=V;subst a;rw[fu]at ag;exact⟨m,P,R.em,ag.fg V,fz,V⟩
section
variable{m:E}
def I6(m:E)(s:O):Prop:=s.len<=s.cap/\∀k:Nat,k<s.len->∃v:Int,0<=v/\v<=255/\af m s.D (s.off+k*1)=some (.int .u8 v)
def Iy{dq:O}(h:I6 m dq):aN cg 32 [O.v dq] m λv i=>∃a,v=vp m.size 0/\Rd m.size a 0 i/\J m i:=by
 let⟨g,f⟩:=h;apply AW;have R:∀a:O,I6 m a->∃l,vp m.size 0=vp m.size 0/\Rd m.size l 0 (m.push (.cells (bt [.s a,.i 0]) pT))/\J m (m.push (.cells (bt [.s a,.i 0]) pT)):=λa⟨n,o⟩=>by
  refine⟨a,rfl,⟨⟨0,cE.push _ _ _,dg _,aL⟩,n,λk c=>?_⟩,J.push _ _⟩;let⟨v,d,e,b⟩:=o k c;have s:=lZ b;exact⟨v,d,e,eP.2 ⟨bE,(J.push m _).af b⟩⟩
 refine⟨λh=>?_,λ_=>R dq ⟨g,f⟩⟩;simp only[ar]at h;refine⟨bh,bh,V,?_⟩;refine R _ ?_;cases dq with
 |nil=>simp at h
 |zD j p q=>simp at h
 |mk j p t q=>
  simp only[O.gE,O.Oh]at h g;refine⟨by simp[O.cut];omega,λk c=>?_⟩;have r:k<2000:=by simpa[O.cut]using c
  let⟨v,d,e,b⟩:=f k bE;exact⟨v,d,e,by simpa[O.cut]using b⟩
def Kl(f:Nat)(b:List Value)(m:E)(S:List Nat)(Q:Ex->Prop):Prop:=aN cg f b m λv a=>∃s e,v=.agg #[vi e.op,vi e.bP,O.v s]/\fF (bG S a) s e.bC/\Q e/\J m a
def AK(S:List Nat)(n:Int)(m:E):Kl 282 [vi n] m S (.mk 0 n []=·):=by
 apply Ey;simp -zeta only[aC,aB];intro a b d;have c:J m b:=(J.push m _).trans (J.push a _);exact⟨_,.mk 0 n [],rfl,mD _ _ _ _ _ _,rfl,c.ah (ad _) _ _⟩
def mq(S:List Nat)(n:Int)(m:E):Kl 317 [vi n] m S (.mk 12 n []=·):=by
 apply Dd;simp -zeta only[aC,aB];intro a b d;have c:J m b:=(J.push m _).trans (J.push a _);exact⟨_,.mk 12 n [],rfl,mD _ _ _ _ _ _,rfl,c.ah (ad _) _ _⟩
def Js{S:List Nat}{s:O}{bC:List Ex}(h:fF (bG S m) s bC)(a bP:Int):Kl 315 [vi a,vi bP,O.v s] m S (.mk a bP bC=·):=by
 apply JY;simp -zeta only[aC,aB];intro d c;have b:J m c:=(J.push m _).ah (ad _) _ _;exact⟨s,.mk a bP bC,rfl,h.le (b.df _),rfl,b⟩
def Bh{a P:Nat}{b:O}(r:Rd a b P m)(x:P+4<=10^16):aN cg 334 [vp a 0] m λv h=>∃k:Int,v=vi k/\Rd a b (P+4) h/\Fz [a] m h:=by
 apply EK (a,0);refine(cp r V 6).mono λv y⟨d,e,_,_,s,n⟩=>⟨d,e,?_⟩;refine(cp s V 6).mono λv z⟨f,e,_,_,t,o⟩=>⟨f,e,?_⟩;refine(cp t V 40).mono λv i⟨g,e,_,_,c,p⟩=>⟨g,e,?_⟩;intro j;have l:J i j:=J.push _ _;have w:ap (bG [a] j) (.mk i.size 0 10 10) [d,f,0,1,2,-1,3,g,999,-998]:=ap.lit aA _ (by have:=c.lt;simpa using this) rfl rfl aL;refine(kv (c.ext l) V w aL).mono λv A⟨k,e,_,u,q⟩=>⟨k,e,k,rfl,u,((n.trans o).trans p).then l|>.trans q⟩
end
section
variable{m:E}
def ZG(e:Ex):Prop:=∀(m:E)(t:O),fF m t e.bC->∀left:Int,left<=600->sT 319 [.agg #[vi e.op,vi e.bP,O.v t],vi left] m λk=>k= -1\/0<=k/\k+e.n=left
def Iz:∀e:Ex,ZG e:=by
 refine Ex.ind ?_;intro L bP bC s m N c left F;simp only[Ex.VQ,Ex.TS,Ex.RD,Ex.Sn]at*;apply AX;simp -zeta only[aC,aB];intro a;have f:J m a:=J.push _ _;have p:∀h∈[m.size],h<a.size:=by simp[a]
 clear_value a;have d:∀{M:E},J m M->∃k:Int,vi (-1:Int)=vi k/\(k= -1\/0<=k/\k+((1+en bC:Nat):Int)=left)/\J m M:=λB=>⟨-1,rfl,Or.inl rfl,B⟩;refine⟨λ_=>d f,λl=>?_⟩;simp only[bL]at l;have r:=c.len;rw[aQ (b:=left -1) V V];refine ez (n:=bC.length) (r▸c.gS) (λk(v:Int) M=>J a M/\0<=v/\v+1+en (bC.take k)=left) ⟨J.az _,V,aL⟩ ?_;rintro k v M I μ D ⟨g,z,A⟩ t
 have u:=f.trans g;refine dit (λj=>?_) λj=>?_
 .let⟨e,b⟩:=cG bC k;let⟨w,q,i,g1,g2⟩:=c.aF b;refine⟨V,V,_,u.af i,_,u.af g1,_,u.af g2,?_⟩;refine(s e (aq b) M w (fF.le u.le q) v V).aH g p λK H G C y=>⟨_,rfl,λ_=>d (u.trans C),λo=>?_⟩;simp only[bL]at o;refine t V _ _ ⟨y,V,?_⟩
  rw[Kc b];omega
 .rw[bX V]at A;exact⟨v,rfl,Or.inr ⟨z,V⟩,u⟩
def AY{t:O}{e:Ex}(h:fF m t e.bC):sT 288 [.agg #[vi e.op,vi e.bP,O.v t]] m λk=>k= -1\/k=e.n/\e.n<=30:=by
 apply EE;simp -zeta only[aC,aB];intro a;have b:J m a:=J.push _ _;have g:∀d∈[m.size],d<a.size:=by simp[a]
 clear_value a;refine(Iz e a t (fF.le b.le h) 30 bh).aH (J.az a) g λn j i c l=>⟨_,rfl,λ_=>⟨-1,rfl,Or.inl rfl,b.trans c⟩,λf=>?_⟩;simp only[bL]at f;rw[aQ (b:=30 -n) V V];exact⟨_,rfl,Or.inr ⟨V,V⟩,b.trans c⟩
def LR{s:O}{l:List Int}(h:ap m s l)(e:Int):sT 281 [O.v s,vi e] m λk=>-1<=k/\k<l.length:=by
 apply EH;have c:=h.len;refine dU (n:=l.length) (c▸h.gS) (λ_ M=>J m M) (J.az _) ?_;rintro k M I μ g a f
 refine⟨λb=>?_,λ_=>⟨-1,rfl,⟨V,V⟩,a⟩⟩;simp only[ar]at b;let⟨x,d⟩:=cG l k;exact⟨V,V,x,(h.ext a).aF d,λ_=>⟨k,rfl,⟨V,V⟩,a⟩,λ_=>f V _ a⟩
def Ly(f:O)(m:E):aN cg 217 [O.v f] m λv a=>v=.agg #[O.v f]/\J m a:=by
 apply Lv;simp -zeta only[aC,aB];intro b c;exact⟨trivial,(J.push m _).ah (ad _) _ _⟩
def Q8(p:O)(r:Int)(m:E):aN cg 252 [O.v p,vi r] m λv a=>v=.agg #[O.v p,vi r,vi 0,vi 0,O.v .nil]/\J m a:=by
 apply LU;simp -zeta only[aC,aB];intro b c;exact⟨trivial,(J.push m _).ah (ad _) _ _⟩
end
section
variable{a:List Nat}{m:E}{b d p:O}
def G9(q:∀c∈a,c<m.size){l:List Int}(h:ap m b l)(w:l.length<=10^12)(u:Int):kY 335 [O.v b,vi u] m a λc=>(∀y∈c,0<=y/\y<(l.length:Int))/\c.length<=l.length:=by
 apply ze;intro B;have r:=h.len;refine ez (n:=l.length) (r▸h.gS) (λk s M=>J m M/\∃c,GI a m M s c/\(∀y∈c,0<=y/\y<(l.length:Int))/\c.length<=k) ⟨J.push m _,[],GI.nil a m,aL,ad _⟩ ?_;rintro k s M I μ z ⟨e,c,g,f,A⟩ j
 refine⟨λi=>?_,λi=>⟨s,c,rfl,g,⟨f,V⟩,e⟩⟩;simp only[ar]at i;let⟨x,t⟩:=cG l k;refine⟨V,V,x,(h.ext e).aF t,λ_=>?_,λ_=>j V _ _ ⟨e,c,g,f,V⟩⟩;intro C;exact GI.kH g (e.fz []) q V λD v p o _ _=>j V _ _ ⟨o.ext,_,p,λy d=>by
  rcases List.mem_append.1 d with d|d
  .exact f y d
  .simp at d;omega,bE⟩
def SZ(m:E)(b:List Ce)(p:dy):Prop:=∃a x y z,b=[.s a,.i p.aS,.i x,.i y,.s z]/\ap m a p.params
abbrev pp(m:E)(s:O)(l:List dy):Prop:=eS m 5 (SZ m) s l
def SZ.le{m b:E}(h:Le m b){a:List Ce}{p:dy}:SZ m a p->SZ b a p:=λ⟨c,x,y,z,d,e⟩=>⟨c,x,y,z,d,e.le h⟩
def pp.le{m b:E}(a:Le m b){s:O}{l:List dy}(h:pp m s l):pp b s l:=eS.le h a λ_ _=>SZ.le a
def pp.aF{s:O}{l:List dy}(h:pp m s l){k:Nat}{p:dy}(d:l[k]? =some p):∃a,ap m a p.params/\af m s.D (s.off+k*5)=some (O.v a)/\af m s.D (s.off+k*5+1)=some (vi p.aS):=by
 obtain⟨e,⟨a,x,y,z,rfl,c⟩,b⟩:=h.iA k p d;exact⟨a,c,b 0 _ rfl,b 1 _ rfl⟩
def ClQ(a:List bz)(b:List dy)(t y:Int):Prop:=∃(f:Nat)(q:dy),y=f/\b[f]? =some q/\0<q.params.length/\(0<t->∃d∈a,d.cons.length=0/\q.params.getLast?=some d.sS/\q.aS=d.to)
def xW(X:∀g∈a,g<m.size){h:List bz}{e:List dy}(hd:cw m d h)(ht:dT h)(o:pp m p e)(hf:e.length<=1000)(v:Int):kY 341 [.agg #[O.v d,O.v p],vi v] m a λb=>(∀y∈b,ClQ h e v y)/\b.length<=e.length:=by
 apply Cs;simp -zeta only[aC,aB];intro c q;have z:J m c:=J.push _ _;have G:∀g∈[m.size],g<c.size:=by simp[c]
 have R:GI a c q (.mk c.size 0 0 0) []:=GI.nil a c;have x2:J c q:=J.push _ _;clear_value q;clear_value c;have aa:=o.len;refine ez (n:=e.length) (aa▸o.gS) (λk t M=>J c M/\∃b,GI a c M t b/\(∀y∈b,ClQ h e v y)/\b.length<=k) ⟨x2,[],R,aL,ad _⟩ ?_;rintro k t M ac μ hk ⟨A,b,i,j,af⟩ r
 have u:=z.trans A;refine⟨λF=>?_,λF=>⟨t,b,rfl,i.cx (λ_ E=>E) z.size,⟨j,V⟩,u⟩⟩;simp only[ar]at F;let⟨s,I⟩:=cG e k;let⟨B,l,C,P⟩:=o.aF I;have ae:=l.len;have ag:=l.gS;refine⟨V,V,_,u.af C,λS=>?_,λ_=>r V _ _ ⟨A,b,i,j,V⟩⟩;simp only[ar]at S;rw[aQ (b:=(B.len:Int) -1) V V];let⟨y,K⟩:=cG s.params (((B.len:Int) -1).toNat);refine⟨V,V,_,u.af C,V,V,y,(l.ext u).aF K,V,V,_,u.af P,?_⟩;refine(An (hd.le u.le) ht y s.aS).aH A G λai m3 H L w=>⟨_,rfl,λZ=>?_,λ_=>r V _ _ ⟨w,b,i.ext L,j,V⟩⟩;intro m4;refine GI.kH (i.ext L) (w.fz []) (λg f=>z.lt (X g f)) V λaj M' Q D _ _=>⟨J.oE (w.aK _) D.ext G,r V _ _ ⟨D.ext,_,Q,λab f=>?_,bE⟩⟩;rcases List.mem_append.1 f with f|f
 .exact j ab f
 .simp at f Z;refine⟨k,s,f,I,V,λE=>?_⟩;rcases H with H|⟨ah,N,_,Y,T,U,W⟩
  .omega
  .refine⟨N,aq Y,T,?_,W.symm⟩;rw[List.getLast?_eq_getElem?,U,<-K];congr 1;omega
def pN{i:List bz}{j:List dy}{v:List Int}(hd:cw m d i)(k:dT i)(q:pp m p j)(o:j.length<=1000)(r:ap m b v)(t:Int):oJ 336 [.agg #[O.v d,O.v p],O.v b,vi t] m:=by
 apply El;simp -zeta only[aC,aB];intro a;have f:J m a:=J.push _ _;have e:∀n∈[m.size],n<a.size:=by simp[a]
 clear_value a;refine(mV (hd.le f.le) k t).any.aH (J.az a) e λl x g _=>⟨_,rfl,λ_=>rA (f.trans g),λ_=>?_⟩;have c:=f.trans g;refine(xW (a:=[]) aL (hd.le c.le) k (pp.le c.le q) o t).aH g e λA w y _ _ h s=>⟨_,rfl,λ_=>rA (c.trans h),λ_=>?_⟩;exact(dw (r.ext (c.trans h)) t).any.aH s e λl z u _=>⟨_,rfl,rA ((c.trans h).trans u)⟩
end
def Lt{a P:Nat}{p:O}{m:E}(h:Rd a p P m)(Q:P+1<=10^16){q v x:O}{i:List bz}{r:List dy}{L:List Int}(hd:cw (bG [a] m) q i)(H:dT i)(G:pp (bG [a] m) v r)(B:r.length<=1000)(I:ap (bG [a] m) x L):
 aN cg 329 [vp a 0,.agg #[O.v q,O.v v],O.v x] m λw u=>∃k:Int,w=vi k/\(k=1\/0<=k/\k<=4/\k<=i.length)/\Rd a p (P+1) u/\Fz [a] m u:=by
 apply Ej (a,0)
 simp -zeta only[aC,aB]
 intro b d
 have U:b.size=m.size+1:=by simp[b]
 have M:J m b:=J.push _ _
 have y:J b d:=J.push _ _
 have z:J m d:=M.trans y
 have S:=h.lt
 have t:∀c∈[m.size],c<d.size/\c∉[a]:=λc n=>by have:=y.size;simp at n⊢;omega
 have K:ap (bG [a] d) (.mk b.size 0 7 7) [1,1,3,0,2,4,3]:=ap.lit aA _ bE rfl rfl aL
 clear_value d
 have R:=hd.len
 refine(kv (h.ext z) V K aL).mono λw f⟨k,A,C,l,j⟩=>⟨j.dv t,k,A,?_⟩
 have e:Fz [a] m f:=(z.fz _).trans j
 have s:0<=k/\k<=4:=by simp at C;omega
 refine⟨λ_=>⟨1,rfl,Or.inl rfl,l,e⟩,λF=>?_⟩
 simp only[bL]at F
 have o:Le (bG [a] m) f:=(e.df λ_ h=>h).trans (bA _ _)
 have D:∀c∈[m.size],c<f.size:=λc n=>aO (t c n).1 j.size
 refine(pN (hd.le o) H (pp.le o G) B (I.le o) k).aH (J.az f) D λN T g _=>⟨_,rfl,λ_=>⟨1,rfl,Or.inl rfl,l.ext g,e.then g⟩,λ_=>⟨k,rfl,Or.inr ⟨s.1,s.2,V⟩,l.ext g,e.then g⟩⟩

section
variable{t:Int}{x:Ex}
def Kr:List bz:=[⟨0,0,[[],[0,1]]⟩,⟨0,0,[]⟩,⟨0,0,[[],[3,0,3]]⟩]
def RE:List bz:=[⟨0,0,[[1,3]]⟩,⟨1,0,[]⟩,⟨0,0,[[1,1,0],[0],[3]]⟩,⟨0,1,[]⟩]
def rI:List (List bz):=Kr::RE.map λd=>Kr++[d]
def Pk:List (List Int×Int):=[([],0),([1],0),([1,1],1),([1],1),([1,0],1),([2,1],1),([1,1],0),([3],0),([0],1),([0,1],1),([3,0],3),([3],1),([1,3,0],0),([0],0),([0,0],0),([1,0],0)]
structure GP(ds:List bz)(fs:List dy):Prop where
 ds:ds∈rI
 iV:0<fs.length
 oA:fs.length<=4
 dz:∀q∈fs,(q.params,q.aS)∈Pk
def Lo(t:Int):Prop:=t=0\/t=1\/t=3
instance(t:Int):Decidable (Lo t):=inferInstanceAs (Decidable (_\/_))
def Ty(a:List bz)(t:Int):Prop:=0<=t/\t<=(a.length:Int)
instance(a:List bz)(t:Int):Decidable (Ty a t):=inferInstanceAs (Decidable (_/\_))
section
variable{a:List bz}{b:List dy}
def pu:∀a∈rI,3<=a.length/\a.length<=4:=bh
def Qs:∀a∈rI,∀t∈[(0:Int),1,2,3,4],∀c∈(cy a t).take 2,((cy a t).head?=some c\/t∉cD a c)->(cD a c).length<=3/\(∀f∈cD a c,Lo f)/\(Lo t->(cD a c).length=0):=bh
def Ri:∀a∈rI,0<(cy a 1).length/\0<(cy a 3).length/\(cy a 0).length=0:=bh
def Qq:∀a∈rI,∀d∈a,d.cons.length=0->∀s∈Pk,s.1.getLast?=some d.sS->s.2=d.to->∀f∈s.1.dropLast,Lo f:=bh
def Ni:∀a∈rI,cy a 1=[0,1]/\cy a 3=[2,3]/\cD a 0=[]/\cD a 1=[0,1]/\cD a 2=[]/\cD a 3=[3,0,3]:=bh
def zp:∀a∈rI,(∀t∈[(0:Int),1,2,3,4],∀c∈cy a t,(cD a c).length<=3/\∀f∈cD a c,Ty a f)/\(∀t∈[(0:Int),1,2,3,4],(cy a t).length<=3)/\(∀d∈a,Ty a d.sS):=bh
def Qr:∀a∈rI,∀t∈[(1:Int),3,4],(t:Int)<=a.length->(∀d∈a[t.toNat -1]?,d.cons.length≠0)->0<(cy a t).length:=bh
def wG:∀s∈Pk,s.1.length<=3/\(∀t∈s.1,0<=t/\t<=3)/\0<=s.2/\s.2<=3:=bh
def UR(a:0<=t)(b:t<=4):t∈[(0:Int),1,2,3,4]:=bE
def Ty.Yq(hd:a∈rI)(h:Ty a t):t∈[(0:Int),1,2,3,4]:=UR h.1 (O6 (pu a hd) h.2)
def GP.ty(h:GP a b)(c:0<=t)(d:t<=3):Ty a t:=⟨c,oh (pu a h.ds)⟩
def Lo.ty(hd:a∈rI)(h:Lo t):Ty a t:=by have:=pu a hd;unfold Lo at h;constructor<;>omega
end
def Tb:∀a∈rI,∀d∈a,0<d.cons.length->d.cons.length<=3/\d.sS=0/\d.to=0/\∀f∈d.cons,f.length<=3/\∀t∈f,0<=t/\t<=(a.length:Int):=bh
def Tc:∀a∈rI,∀k∈List.range a.length,∀d∈a[k]?,d.cons.length=0->(∀e∈a.take k,¬(e.cons.length=0/\e.sS=d.sS/\e.to=d.to))/\Ty a d.sS/\Ty a d.to:=bh
def sV{a:List bz}(h:a∈rI):dT a:=
 ⟨(pu a h).2,λk d b=>⟨Tb a h d (aq b),Tc a h k (List.mem_range.2 (av b)) d b⟩⟩
structure XF(ds:List bz)(nf a:Nat)(op bP:Int)(n:Nat):Prop where
 o:0<=op/\op<=13
 Ud:op=12->0<=bP/\bP<(a:Int)
 Ka:op=13->n=2
 Y9:op=7->n=3
 all:op=8->n=1+(cy ds bP).length/\0<(cy ds bP).length
 call:op=9->0<=bP/\bP<(nf:Int)
def xb(b:List bz)(a bP:Int):Nat->Nat
 |0=>0
 |i+1=>if a=13 then 1 else BG b a bP i
inductive WX(ds:List bz)(nf:Nat):Nat->Ex->Prop
 |mk {a:Nat} {op bP:Int} {bC:List Ex} (eZ:XF ds nf a op bP bC.length) (hk:∀(i:Nat)(e:Ex),bC[i]? =some e->WX ds nf (a+xb ds op bP i) e):WX ds nf a (.mk op bP bC)
section
variable{b:List bz}{c a:Nat}{d bP:Int}{bC:List Ex}
def WX.aT{e:Ex}(h:WX b c a e):XF b c a e.op e.bP e.bC.length/\∀(i:Nat)(x:Ex),e.bC[i]? =some x->WX b c (a+xb b e.op e.bP i) x:=by
 cases h with
 |mk eZ d=>exact⟨eZ,d⟩
def Zc(a:d≠13)(c:d≠8)(i:Nat):xb b d bP i=0:=by
 cases i with
 |zero=>rfl
 |succ i=>show(if d=13 then 1 else BG b d bP i)=0;rw[ae a,Kv c]
def WX.eZ(k:0<=d/\d<=11)(g:d=7->bC.length=3)(f:d≠8)(i:d=9->0<=bP/\bP<(c:Int))(j:∀e∈bC,WX b c a e):WX b c a (.mk d bP bC):=
 .mk ⟨⟨V,V⟩,λh=>V,λh=>V,g,λh=>absurd h f,i⟩ λl e h=>by rw[Zc V f];exact j e (aq h)
def WX.int(n:Int):WX b c a (.mk 0 n []):=.eZ bh (λh=>V) bh (λh=>V) aL
def WX.Ud(h:0<=bP/\bP<(a:Int)):WX b c a (.mk 12 bP []):=.mk ⟨bh,λ_=>h,λh=>V,λh=>V,λh=>V,λh=>V⟩ aL
def WX.lt{y:Ex}(e:WX b c a x)(f:WX b c (a+1) y):WX b c a (.mk 13 0 [x,y]):=
 .mk ⟨bh,λh=>V,λ_=>rfl,λh=>V,λh=>V,λh=>V⟩ λi g d=>by
  rcases i with _|_|i
  .simp at d;subst d;exact e
  .simp at d;subst d;exact f
  .simp at d
def WX.mt{l:List Ex}(k:WX b c a x)(n:l.length=(cy b bP).length)(m:0<l.length)(j:∀(i:Nat)(e:Ex)(f:Int),l[i]? =some e->(cy b bP)[i]? =some f->WX b c (a+(cD b f).length) e):WX b c a (.mk 8 bP (x::l)):=
 .mk ⟨bh,λh=>V,λh=>V,λh=>V,λ_=>⟨bE,V⟩,λh=>V⟩ λi e d=>by
  rcases i with _|i
  .simp at d;subst d;exact k
  .simp at d;let⟨f,g⟩:=cG (cy b bP) i (oh (av d));have:=j i e f d g;show WX b c (a+BG b 8 bP i) e;rw[Ku rfl g];exact this
end
end
section
variable{X:List Nat}{b k c:Nat}{s:O}
structure GC(rb:Nat)(bs:O)(P:Nat)(d p:O)(ds:List bz)(fs:List dy)(m:E):Prop where
 rd:Rd rb bs P m
 hd:cw (bG [rb] m) d ds
 hp:pp (bG [rb] m) p fs
 gp:GP ds fs
def Lw(a:Nat)(L:List Nat)(m:E):Prop:=∀b∈L,b<m.size/\b≠a
def XP(S:List Nat)(b:Nat)(c:O)(m:E)(P:Nat)(Q:Ex->Prop)(v:Value)(a:E):Prop:=∃s e,v=.agg #[vi e.op,vi e.bP,O.v s]/\fF (bG S a) s e.bC/\Q e/\Rd b c P a/\Fz [b] m a
abbrev IR(a:Nat)(m:E)(s:O)(l:List Int):Prop:=ap (bG [a] m) s l
section
variable{e P i:Nat}{h d p:O}{l:List bz}{n:List dy}{m M g:E}{S L:List Nat}{f:Nat}{j:List Value}{Q Q':Ex->Prop}
def fh(f:Fz [e] m M):Le (bG [e] m) (bG [e] M):=f.df λ_ h=>h
def GC.to(a:GC e h P d p l n m)(f:Fz [e] m M)(r:Rd e h i M):GC e h i d p l n M:=⟨r,a.hd.le (fh f),pp.le (fh f) a.hp,a.gp⟩
def GC.ext(a:GC e h P d p l n m)(x:J m M):GC e h P d p l n M:=a.to (x.fz _) (a.rd.ext x)
def GC.types(a:GC e h P d p l n m):dT l:=sV a.gp.ds
def Lw.fz(h:Lw e L m)(f:Fz X m M):Lw e L M:=λb a=>⟨aO (h b a).1 f.size,(h b a).2⟩
def Lw.lt(h:Lw e L m)(f:Fz X m M):∀b∈L,b<M.size:=λb a=>(h.fz f b a).1
def Lw.dv(h:Lw e L m)(f:Fz [e] m M):eF L m M:=f.dv λb a=>⟨(h b a).1,by have:=(h b a).2;simpa using this⟩
def Lw.bZ(h:Lw e L m)(f:Fz [e] m M)(c:Fz [e] M g)(a:b∈L)(o:Nat):af g b o=af M b o:=aJ (c.same b (h.fz f b a).1 (by have:=(h b a).2;simpa using this)) o
def XP.mono{P i:Nat}(k:∀a,Q a->Q' a)(j:P<=i){v:Value}:XP S e h m P Q v M->XP S e h m i Q' v M:=λ⟨s,a,b,c,d,f,g⟩=>⟨s,a,b,c,k a d,f.mono j,g⟩
def XP.then{K:Value->E->Prop}(c:aN cg f j M (XP S e h M P Q))(m:Lw e L M)(n:∀s a g,fF (bG S g) s a.bC->Q a->Rd e h P g->Fz [e] M g->K (.agg #[vi a.op,vi a.bP,O.v s]) g):aN cg f j M λv g=>eF L M g/\K v g:=
 c.mono λv g⟨s,a,d,i,k,l,b⟩=>⟨m.dv b,d▸n s a g i k l b⟩
def Lw.tv(h:Lw e L m)(f:Fz [e] m M)(a:Fz [e] m g):eF L M g:=λb c=>by
 have:=h b c;rw[f.same b this.1 (by simpa using this.2),a.same b this.1 (by simpa using this.2)]
def XP.ret{p:Nat}(q:aN cg f j M (XP (b::S) e h M P Q))(t:Lw e L M)(o:Fz [e] m M)(r:Rd e h p m)(n:m.size<=b)(v:∀a,Q a->Q' a)(u:P<=i):
 aN cg f j M λA g=>eF L M g/\∃c d:Int,∃k:O,A=.agg #[vi c,vi d,O.v k]/\XP S e h m i Q' (.agg #[vi c,vi d,O.v k]) (ah g b 0 [.i c,.i d,.s k]):=
 XP.then q t λs a g z y w l=>⟨_,_,_,rfl,s,a,rfl,fF.le (cA aL λB x=>ai _ x) z,v a y,r.ah (w.mono u) (o.trans l) n 0 _,(o.trans l).ah (Or.inr n) _ _⟩
abbrev GE(S:List Nat)(a m:E)(s:O)(l:List Ex):Prop:=Gr S a m bF 3 BE s l
def XP.kH{B:Nat}{i:E}{s:O}{n:List Ex}{K:O->E->Prop}(D:aN cg f j M (XP (s.D::S) e h M P Q))(t:GE S i M s n)(z:Fz [e] i M)(w:Lw e L i)(u:Rd e h B i)(H:e∈S)(l:n.length<=1000)
 (F:∀c r g,Q c->GE S i g r (n++[c])->Rd e h P g->Fz [e] i g->Fz [e,s.D] M g->(r.D=s.D\/M.size<=r.D)->K r g):
 aN cg f j M λN k=>eF L M k/\∃o p:Int,∃q:O,N=.agg #[vi o,vi p,O.v q]/\
  jK (k.push (.cells (bt [.i o,.i p,.s q]) bF)) bF [.i 0,.i 0,.s .nil] 40 s (O.mk k.size 0 1 1) λr g=>eF L (k.push (.cells (bt [.i o,.i p,.s q]) bF)) g/\K r g:=
 XP.then D (w.fz z) λU c k J G x d=>⟨_,_,_,rfl,by
  have T:=t.bn;have I:=u.lt;have v:=z.trans d;refine Gr.kH (g:=[.i 0,.i 0,.s .nil]) (k:=c) BE.mono bh (t.eA BE.mono d (by simp;exact⟨H,I⟩)) v (by cases c;exact BE.of J) V λr g C m R A=>⟨w.tv (v.push _) m,F c r g G C (u.MD x m (A e x.lt V)) m ⟨bH d.size R.1,λb y l=>?_⟩ (oh d.size)⟩;simp only[aV,jW,BD,vt]at l;rw[A b (aO y d.size) l.2,d.same b y (by simpa using l.1)]⟩
def Ys{b:E}(h:Fz [e,k] b M)(d:s.D=k\/b.size<=s.D)(a:Fz [e,s.D] M g):Fz [e,k] b g:=
 h.rV a λy c=>by simp at c⊢;omega
end
def mW{S:List Nat}{d P:Nat}{b:O}{m:E}{bC:List Ex}(j:Rd d b P m)(h:fF (bG S m) s bC)(a bP:Int):aN cg 315 [vi a,vi bP,O.v s] m (XP S d b m P (.mk a bP bC=·)):=
 (Js h a bP).mono λv l⟨k,e,f,g,i,c⟩=>⟨k,e,f,g,i,j.ext c,c.fz _⟩
def Xr(b:List bz)(d:List dy)(c:Nat)(e:Ex):Prop:=(∀a,WX b d.length a e)/\e.n<=c
def WN(c k:Nat)(e:List bz)(f:List dy)(t:Int):Prop:=∀(S:List Nat)(a P:Nat)(b d p:O)(m:E),(∀g∈S,g<m.size)->a∈S->GC a b P d p e f m->P+k<=10^16->
 aN cg 337 [vp a 0,.agg #[O.v d,O.v p],vi t] m (XP S a b m (P+k) (Xr e f c))
def RN{a:List bz}{b:List dy}{l:List Ex}{f i:Int}(m:f=6\/f=10)(h:∀e∈l,Xr a b 1 e)(k:l.length+1<=c):Xr a b c (.mk f i l):=
 ⟨λg=>.eZ V (λh=>V) V (λh=>V) λe d=>(h e d).1 g,by
  rw[Ex.Sn];have:∀l:List Ex,(∀e∈l,Xr a b 1 e)->en l<=l.length:=λl=>by
   induction l with
   |nil=>simp
   |cons x l j=>intro h;rw[Om,aZ];have:=(h x aL).2;have:=j λe d=>h e (by simp[d]);omega
  have:=this l h;omega⟩
def Jr{d:List bz}{fs:List dy}{t:Int}(ht:Ty d t)(D:(Lo t/\c=1/\k=5)\/((∀a,Lo a->WN 1 5 d fs a)/\c=4/\k=20)):WN c k d fs t:=by
 intro r f B H ao ax al hS aa a hP;apply C0 (f,0);simp -zeta only[aC,aB];intro m ab;let⟨x2,hl⟩:=dD (a:=m) (c:=ab) rfl rfl;have s1:m.size=al.size+1:=by simp[m]
 clear_value ab;have hr:=a.rd.lt;have L2:Lw f [m.size,al.size] ab:=λb K=>⟨hl b K,by simp at K;omega⟩;have Y:=a.types;have h5:=Ty.Yq a.gp.ds ht;have ag:∀e∈m.size::r,e<ab.size:=bO hS x2.size (hl _ aL);have c2:=a.ext x2;refine(il (e:=[f]) (by simp;exact c2.rd.lt) (c2.hd.le (bA _ _)) Y t).mono λA m3⟨cs,l,e,hc,q,G⟩=>⟨L2.dv (G.fz _),cs,e,?_⟩;subst q;have u:=c2.ext G;have N:=L2.fz (G.fz []);have u3:=x2.trans G;have aN:=hc.len;refine dit (λh0=>?_) λh0=>?_
 .let⟨X,ak⟩:=cG (cy d t) 0;have hh:(cy d t).head?=some X:=by rw[List.head?_eq_getElem?];exact ak
  have L:X∈(cy d t).take 2:=List.mem_take_iff_getElem.2 ⟨0,V,by have:=List.getElem?_eq_some_iff.1 ak;exact this.2⟩;have A0:∀{M:E},Fz [f] m3 M->af M cs.D (cs.off+Int.toNat 0*1)=some (vi X):=λR=>(eP.1 ((hc.le (fh R)).aF ak)).2;refine⟨bh,V,X,A0 (Fz.az _ _),λa M=>a∈(cy d t).take 2/\Rd f H (B+1) M/\Fz [f] m3 M,⟨λI=>?_,λI=>⟨L,u.rd.mono V,Fz.az _ _⟩⟩,?_⟩
  .simp only[ar]at I;let⟨o,i⟩:=cG (cy d t) 1;have t1:o∈(cy d t).take 2:=List.mem_take_iff_getElem.2 ⟨1,V,by have:=List.getElem?_eq_some_iff.1 i;exact this.2⟩;refine(cp u.rd V 4).mono λA m4⟨F,e,_,_,j,g⟩=>⟨N.dv g,F,e,λh=>⟨bh,V,o,(eP.1 ((hc.le (fh g)).aF i)).2,t1,j,g⟩,λh=>⟨L,j,g⟩⟩
  rintro c' v ⟨aA,w,i⟩;have O:=N.fz i;refine⟨λa M=>a∈(cy d t).take 2/\((cy d t).head?=some a\/t∉cD d a)/\Rd f H (B+1) M/\Fz [f] m3 M,?_,?_⟩
  .refine(dI (e:=[]) aL ((u.to i w).hd.le ((bA _ _).trans (zW _))) Y c').mono λA m6⟨R,l,e,hf,q,x⟩=>⟨O.dv (x.fz _),R,e,?_⟩;subst q;refine(dw (hf.le (bA _ _)) t).mono λA o⟨b,e,K,g⟩=>⟨(O.fz (x.fz [])).dv (g.fz _),b,e,λau=>?_,λah=>⟨aA,Or.inr λj=>by rw[K.2 j]at ah;exact absurd ah bh,(w.ext x).ext g,(i.then x).then g⟩⟩;have j:=(i.then x).then g;exact⟨bh,V,X,A0 j,L,Or.inl hh,(w.ext x).ext g,j⟩
  rintro Q p ⟨I,h2,r8,Z⟩;let⟨z3,aE,zz⟩:=Qs d a.gp.ds t h5 Q I h2;have c8:=u.to Z r8;have L8:=N.fz Z;have F8:Fz [f] al p:=(u3.fz _).trans Z;have z8:=Z.size;have aG:=G.size;have z2:=x2.size;intro U;have x9:J p U:=J.push _ _;have g9:GE (m.size::r) p U (.mk p.size 0 0 0) []:=Gr.new _ (ad _) _ _ _;have s9:U.size=p.size+1:=by simp[U]
  clear_value U;refine(dI (e:=[f,p.size]) bE (c8.hd.le (x9.bG aL)) Y Q).mono λA aw⟨R,l,e,hf,q,ac⟩=>⟨(L8.fz (x9.fz [])).dv (ac.fz _),R,e,?_⟩;subst q;have aD:=hf.len;refine ez (n:=(cD d Q).length) V (λj s M=>∃l,GE (m.size::r) p M s l/\l.length=j/\(∀e∈l,Xr d fs 1 e)/\Rd f H (B+1+5*j) M/\Fz [f] p M/\Fz [f,p.size] aw M/\(s.D=p.size\/aw.size<=s.D)) ⟨[],g9.ext BE.mono ac,rfl,aL,(r8.ext x9).ext ac,((x9.trans ac).fz _),Fz.az _ _,Or.inl rfl⟩ ?_;rintro j s M ay μ hj ⟨l,C,aF,T,W,o,ae,hs⟩ am
  have LM:=L8.fz o;refine dit (λh=>?_) λh=>?_
  .rcases D with⟨aj,_,_⟩|⟨ih,e1,e2⟩
   .have:=zz aj;omega
   let⟨y,z⟩:=cG (cD d Q) j;refine⟨V,V,y,(eP.1 ((hf.le (ae.df λ_ h=>h)).aF z)).2,?_⟩;exact XP.kH (ih y (aE y (aq z)) (s.D::m.size::r) f (B+1+5*j) H ao ax M (bO (λe g=>by have:=ag e g;have:=o.size;have:=G.size;omega) (ad _) C.bn.2) (by simp[aa]) (c8.to o W) V) C o L8 r8 (by simp[aa]) V λe aM M' g g' r' f' ap aI=>
    am V _ _ ⟨_,g',bE,λe' ai=>by rcases List.mem_append.1 ai with h|h;exact T e' h;simp at h;subst h;exact g,r'.mono V,f',Ys ae hs ap,oh ae.size⟩
  .have az:∀e∈m.size::r,e<p.size:=λe g=>by have:=ag e g;omega
   exact XP.ret (mW W (C.done BE.mono az bh V) 6 Q) LM (F8.trans o) a.rd V (λe g=>g▸RN (Or.inl rfl) T (by rcases D with⟨h,e,_⟩|⟨_,e,_⟩;have:=zz h;omega;omega)) (by rcases D with⟨h,_,e⟩|⟨_,_,e⟩;have:=zz h;omega;omega)
 .refine(xW (a:=[f]) (by simp;exact u.rd.lt) (u.hd.le (bA _ _)) Y (pp.le (bA _ _) u.hp) (oh a.gp.oA) t).mono λA m4⟨R,l,e,gl,T,p⟩=>⟨N.dv (p.fz _),R,e,?_⟩;have ae:IR f m4 R l:=GI.done gl (by simp;exact u.rd.lt) (O6 T.2 a.gp.oA);have aP:=ae.len;have X:=u.ext p;have Q:=N.fz (p.fz []);have u4:=u3.trans p;have z4:=p.size;have z3:=G.size;refine⟨λb M=>(b=true->0<t/\0<R.len)/\M=m4,⟨λh=>⟨λU=>by simp only[ar]at h U;omega,rfl⟩,λh=>⟨aL,rfl⟩⟩,?_⟩;rintro b _ ⟨K,rfl⟩;refine⟨λau=>?_,λah=>?_⟩
  .let⟨L,aO⟩:=K au;refine(cp X.rd V R.len).mono λA v⟨F,e,k0,k2,w,i⟩=>⟨Q.dv i,F,e,k0,V,?_⟩;let⟨y,z⟩:=cG l F.toNat;obtain⟨fi,q,rfl,U,aT,aH⟩:=T.1 y (aq z);let⟨dd,aA,az,aE,aJ⟩:=aH L;have aj:=Qq d a.gp.ds dd aA az _ (a.gp.dz q (aq U)) aE aJ;have aU:q.params.length<=3:=(wG _ (a.gp.dz q (aq U))).1;have Z:=X.to i w;have O:=Q.fz i;let⟨ps,ak,e0,e1⟩:=Z.hp.aF U;have aR:=ak.len;have aD:=av U;have aS:=Z.hp.len;refine⟨_,(eP.1 ((ae.le (fh i)).aF z)).2,V,V,ps,(eP.1 e0).2,?_⟩;intro m6;have x:J v m6:=J.push _ _;have g6:GE (m.size::r) v m6 (.mk v.size 0 0 0) []:=Gr.new _ (ad _) _ _ _;clear_value m6;have z5:=i.size;have ac:∀e∈m.size::r,e<v.size:=λe g=>by have:=ag e g;omega
   have aV:¬Lo t\/(Lo t/\0<t):=by by_cases h:Lo t;exact Or.inr ⟨h,L⟩;exact Or.inl h
   have hd:=Ri d a.gp.ds;rcases D with⟨aG,_,_⟩|⟨ih,e2,e3⟩
   .exfalso;rcases aG with h|h|h
    .omega
    .subst h;omega
    .subst h;omega
   refine ez (n:=q.params.length -1) V (λj s M=>∃l,GE (m.size::r) v M s l/\l.length=j/\(∀e∈l,Xr d fs 1 e)/\Rd f H (B+1+5*j) M/\Fz [f] v M) ⟨[],g6,rfl,aL,w.ext x,x.fz _⟩ ?_;rintro j s M ay μ hj ⟨l',C,aF,aw,W,o⟩ am
   have ew:cT ((j:Int)+1)=j+1:=aQ V V;refine⟨λh=>?_,λh=>?_⟩
   .simp only[ew,ar]at h;let⟨y,z⟩:=cG q.params j;have aK:y∈q.params.dropLast:=List.mem_iff_getElem?.2 ⟨j,by rw[List.getElem?_dropLast,an V];exact z⟩;refine⟨V,V,y,(eP.1 ((ak.le (fh o)).aF z)).2,?_⟩;exact XP.kH (ih y (aj y aK) (s.D::m.size::r) f (B+1+5*j) H ao ax M (bO (λe g=>O6 (ac e g) o.size) (ad _) C.bn.2) (by simp[aa]) (Z.to o W) V) C o O w (by simp[aa]) V λe aM M' g g' r' f' ap aI=>
     am V _ _ ⟨_,g',bE,λe' ai=>by rcases List.mem_append.1 ai with h|h;exact aw e' h;simp at h;subst h;exact g,r'.mono V,f'⟩
   .simp only[ew,bL]at h;exact XP.ret (mW W (C.done BE.mono ac bh V) 10 _) (O.fz o) (((u4.fz _).trans i).trans o) a.rd V (λe g=>g▸RN (Or.inr rfl) aw V) V
  .refine(Bh X.rd (by rcases D with⟨_,_,e⟩|⟨_,_,e⟩<;>omega)).mono λA v⟨F,e,w,i⟩=>⟨Q.dv i,F,e,?_⟩;exact XP.ret (P:=B+4) ((AK (m.size::r) F v).mono λA x⟨o,e,I,h2,j,h⟩=>⟨o,e,I,h2,j,w.ext h,h.fz _⟩) (Q.fz i) ((u4.fz _).trans i) a.rd V (λe g=>g▸⟨λh=>.int _,by rw[Ex.Sn];rcases D with⟨_,e,_⟩|⟨_,e,_⟩<;>simp[e]⟩) (by rcases D with⟨_,_,e⟩|⟨_,_,e⟩<;>omega)
end
section
variable{a:Nat}{t:Int}
def _root_.Go.Vc.QG{σ:Type}(o:a<=9223372036854775807)(e:1<=a){m:E}{h:σ}{g:(σ->Int->E->Prop)->(σ->Int->E->Nat)->σ->Int->E->Prop}(Q:Nat->σ->E->Prop)(l:Q 1 h m)
 (j:∀(k:Nat)(s:σ)(b:E)(I:σ->Int->E->Prop)(μ:σ->Int->E->Nat),1<=k->k<=a->Q k s b->
  (k<a->∀d c,Q (k+1) d c->I d (cT ((k:Int)+1)) c/\μ d (cT ((k:Int)+1)) c<μ s k b)->g I μ s k b):
 ∃(I:σ->Int->E->Prop)(μ:σ->Int->E->Nat),I h 1 m/\∀s i b,I s i b->g I μ s i b:=by
 refine⟨λs i c=>∃k:Nat,i=k/\1<=k/\k<=a/\Q k s c,λ_ i _=>(a -i).toNat,⟨1,rfl,ad _,e,l⟩,?_⟩
 rintro s i b ⟨k,rfl,e,n,p⟩
 refine j k s b _ _ e n p λf d c q=>?_
 rw[kA f o]
 exact⟨⟨k+1,rfl,V,f,q⟩,Dr f⟩
def _root_.Go.Vc.Yr(l:a<=9223372036854775807)(d:1<=a){m:E}{f:(Int->E->Prop)->(Int->E->Nat)->Int->E->Prop}(Q:Nat->E->Prop)(g:Q 1 m)
 (h:∀(k:Nat)(b:E)(I:Int->E->Prop)(μ:Int->E->Nat),1<=k->k<=a->Q k b->
  (k<a->∀c,Q (k+1) c->I (cT ((k:Int)+1)) c/\μ (cT ((k:Int)+1)) c<μ k b)->f I μ k b):
 ∃(I:Int->E->Prop)(μ:Int->E->Nat),I 1 m/\∀i b,I i b->f I μ i b:=by
 refine⟨λi c=>∃k:Nat,i=k/\1<=k/\k<=a/\Q k c,λi _=>(a -i).toNat,⟨1,rfl,ad _,d,g⟩,?_⟩
 rintro i b ⟨k,rfl,d,j,n⟩
 refine h k b _ _ d j n λe c o=>?_
 rw[kA e l]
 exact⟨⟨k+1,rfl,V,e,o⟩,Dr e⟩
def J6{a:List bz}{b:List dy}(hd:a∈rI)(c:Ty a t):WN 4 20 a b t:=Jr c (Or.inr ⟨λ_ h=>Jr (h.ty hd) (Or.inl ⟨h,rfl,rfl⟩),rfl,rfl⟩)
def Kl.x{f:Nat}{a:List Value}{S:List Nat}{d P:Nat}{b:O}{m:E}{Q:Ex->Prop}(h:Kl f a m S Q)(k:Rd d b P m):aN cg f a m (XP S d b m P Q):=
 h.mono λv n⟨l,e,g,i,j,c⟩=>⟨l,e,g,i,j,k.ext c,c.fz _⟩
section
variable{f:List Nat}{c P:Nat}{h d p j:O}{g:List bz}{e:List dy}{b:E}{i:List Int}
def rB(hS:∀o∈f,o<b.size)(ag:c∈f)(o:GC c h P d p g e b)(hP:P+22<=10^16)(hv:IR c b j i)(ak:i.length<=1000)(ht:Ty g t):
 aN cg 318 [vp c 0,.agg #[O.v d,O.v p],O.v j,vi t] b (XP f c h b (P+22) λa=>WX g e.length i.length a/\a.n<=4):=by
 apply JU (c,0)
 simp -zeta only[aC,aB]
 intro k y
 let⟨A,hl⟩:=dD (a:=k) (c:=y) rfl rfl
 have s1:k.size=b.size+1:=by simp[k]
 clear_value y
 have hr:=o.rd.lt
 have Y:Lw c [k.size,b.size] y:=λN hb=>⟨hl N hb,by simp at hb;omega⟩
 have ae:∀a∈k.size::f,a<y.size:=bO hS A.size (hl _ aL)
 have z2:=A.size
 refine(G9 (a:=[c]) (m:=y) bE ((hv.le (bA _ _)).ext A) V t).mono λ_ U⟨r,ac,a,gl,ai,B⟩=>⟨Y.dv (B.fz _),r,a,?_⟩
 have aa:IR c U r ac:=GI.done gl bE V
 have F:=(o.ext A).ext B
 have D:=Y.fz (B.fz [])
 have C:Fz [c] b U:=(A.trans B).fz _
 have al:=aa.len
 have z3:=B.size
 have je:∀{Q:Nat}{M:E},GC c h Q d p g e M->Fz [c] b M->y.size<=M.size->Lw c [k.size,b.size] M->Q<=P+2->aN cg 337 [vp c 0,.agg #[O.v d,O.v p],vi t] M λW n=>eF [k.size,b.size] M n/\∃s u:Int,∃w:O,W=.agg #[vi s,vi u,O.v w]/\XP f c h b (P+22) (λa=>WX g e.length i.length a/\a.n<=4) (.agg #[vi s,vi u,O.v w]) (ah n k.size 0 [.i s,.i u,.s w]):=λR T h1 I hq=>
  XP.ret (J6 o.gp.ds ht (k.size::f) c _ h d p _ (λa l=>oh (ae a l)) (by simp[ag]) R V) I T o.rd V (λa l=>⟨l.1 _,l.2⟩) V
 have Ud:∀{Q:Nat}{M:E},GC c h Q d p g e M->Fz [c] b M->Fz [c] U M->Lw c [k.size,b.size] M->Q<=P+2->0<r.len->aN cg 44 [vp c 0,vi (r.len:Int)] M λaj n=>eF [k.size,b.size] M n/\∃K:Int,aj=vi K/\(0:Int)<=K/\K<(r.len:Int)/\∃ad:Int,af n r.D (r.off+Int.toNat K*1)=some (vi ad)/\
  aN cg 317 [vi ad] n λW Z=>eF [k.size,b.size] n Z/\∃s u:Int,∃w:O,W=.agg #[vi s,vi u,O.v w]/\XP f c h b (P+22) (λa=>WX g e.length i.length a/\a.n<=4) (.agg #[vi s,vi u,O.v w]) (ah Z k.size 0 [.i s,.i u,.s w]):=λR T f3 I hq h0=>
  (cp R.rd V r.len).mono λ_ n⟨ab,a,k0,k1,r',H⟩=>by
   let⟨X,hy⟩:=cG ac ab.toNat;exact⟨I.dv H,ab,a,k0,V,X,(eP.1 ((aa.le (fh (f3.trans H))).aF hy)).2,XP.ret ((mq (k.size::f) X n).x r') (I.fz H) (T.trans H) o.rd V (λa l=>l▸⟨.Ud (ai.1 X (aq hy)),by rw[Ex.Sn];simp⟩) V⟩
 refine⟨λx=>?_,λx=>je F C z3 D V⟩
 simp only[ar]at x
 refine(cp F.rd V 6).mono λ_ m4⟨k1,a,_,_,r4,l⟩=>⟨D.dv l,k1,a,λx=>Ud (F.to l r4) (C.trans l) l (D.fz l) V V,λx=>?_⟩
 intro m5
 have z:J m4 m5:=J.push _ _
 have G:=(F.to l r4).ext z
 have L:=(D.fz l).fz (z.fz [])
 exact(pN (v:=[]) (G.hd.le (bA _ _)) o.types (pp.le (bA _ _) G.hp) (oh o.gp.oA) (mD _ _ _ _ _ _) t).mono λ_ m6⟨N,a,q⟩=>⟨L.dv (q.fz _),N,a,λx=>Ud (G.ext q) ((C.trans l).then (z.trans q)) (l.then (z.trans q)) (L.fz (q.fz [])) V V,λx=>je (G.ext q) ((C.trans l).then (z.trans q)) (by have:=l.size;have:=z.size;have:=q.size;omega) (L.fz (q.fz [])) V⟩
def JG(Y:∀m∈f,m<b.size)(hd:cw b d g)(ht:dT g)(C:pp b p e)(hf:e.length<=1000)(X:1<=e.length)(t:Int):kY 332 [.agg #[O.v d,O.v p],vi t] b f λh=>(∀y∈h,∃(o:Nat)(q:dy),y=o/\e[o]? =some q)/\h.length<=e.length:=by
 apply Cr;simp -zeta only[aC,aB];intro a E;have L:J b a:=J.push _ _;have A:∀m∈[b.size],m<a.size:=by simp[a]
 have W:GI f a E (.mk a.size 0 0 0) []:=GI.nil f a;have x2:J a E:=J.push _ _;clear_value E;clear_value a;have ah:=C.len;refine QG (a:=e.length) V X (λu I M=>J a M/\∃h,GI f a M I h/\(∀y∈h,∃(o:Nat)(q:dy),y=o/\e[o]? =some q)/\h.length<=u) ⟨x2,[],W,aL,aL⟩ ?_;rintro u I M ac μ ae hk ⟨l,h,x,D,ag⟩ T
 have K:=L.trans l;refine⟨λQ=>?_,λQ=>⟨I,h,rfl,x.cx (λ_ i=>i) L.size,⟨D,V⟩,K⟩⟩;simp only[ar]at Q;let⟨q,R⟩:=cG e u;let⟨ad,z,w,U⟩:=C.aF R;have Z:=z.len;refine⟨V,V,_,K.af U,?_⟩;refine ez (n:=q.params.length) (Z▸z.gS) (λ_ _ N=>J M N) (J.az _) ?_;rintro aa ok r I2 μ2 hj c S;have k:=K.trans c;refine⟨V,V,_,k.af w,λi=>⟨λ_=>?_,λ_=>S (by simp only[ar]at i;omega) _ _ c⟩,λi=>⟨λ_=>?_,λ_=>T V _ _ ⟨l.trans c,h,x.ext c,D,V⟩⟩⟩
 .simp only[ar]at i;let⟨y,hy⟩:=cG q.params aa;have P:=(z.ext k).aF hy;refine⟨V,V,_,k.af w,V,V,y,P,?_⟩;intro F;have j:J r F:=J.push _ _;have G:∀{s H:Nat}{ab:Value},af r s H=some ab->af F s H=af r s H:=λi=>by rw[j.af i,i]
  have B:b.size<r.size:=aO (A _ aL) (l.trans c).size;refine⟨G P,G (k.af w),aJ (j.same _ B) _,aJ (j.same _ B) _,aJ (j.same _ B) _,?_⟩;exact(pN (v:=[]) (hd.le (k.trans j).le) ht (pp.le (k.trans j).le C) hf (mD _ _ _ _ _ _) y).aH ((l.trans c).trans j) A λs m5 x5 _=>⟨_,rfl,S V _ _ ((c.trans j).trans x5)⟩
 .intro F;refine GI.kH (x.ext c) ((l.trans c).fz []) (λm j=>L.lt (Y m j)) V λP N B s _ _=>⟨J.oE ((l.trans c).aK _) s.ext A,T V _ _ ⟨s.ext,_,B,λH j=>?_,bE⟩⟩;rcases List.mem_append.1 j with j|j
  .exact D H j
  .simp at j;exact⟨u,q,j,R⟩
end
end
section
variable{f c:Int}{g:O}{e:List Int}
def Cg(c:Int):Nat:=30*4^c.toNat
def uh(h:f<=c):Cg f<=Cg c:=Nat.mul_le_mul_left _ (Nat.pow_le_pow_right bh V)
def Qn(c:Int):30<=Cg c:=Nat.le_mul_of_pos_right _ (Nat.pow_pos bh)
def Rc(a:0<=f)(h:f+1<=c):4*Cg f<=Cg c:=by
 refine bH (tU ?_) (uh h);unfold Cg;rw[show(f+1).toNat=f.toNat+1 by omega,Nat.pow_succ];omega
def Kk(b:List bz)(g:List dy)(c:Int):Prop:=∀(S:List Nat)(a P:Nat)(d e p h:O)(m:E)(v:List Int)(t:Int),(∀f∈S,f<m.size)->a∈S->GC a d P e p b g m->P+Cg c<=10^16->IR a m h v->v.length+3*c.toNat<=1000->Ty b t->
 aN cg 314 [vp a 0,.agg #[O.v e,O.v p],O.v h,vi t,vi c] m (XP S a d m (P+Cg c) λf=>WX b g.length v.length f/\(c<=2->f.n<=4))
def XL(S:List Nat)(b:Nat)(c:O)(m:E)(P:Nat)(Q:List Ex->Prop)(v:Value)(a:E):Prop:=∃s l,v=O.v s/\fF (bG S a) s l/\Q l/\Rd b c P a/\Fz [b] m a
def KJ{S:List Nat}{M:E}(i:∀c∈S,c<M.size)(p:Nat):∀(l:List (Ex×O))(_:l.length<=1000)(_:∀x∈l,fF (bG S M) x.2 x.1.bC){a:List Ce}{n:Nat},a=l.flatMap (λx=>[.i x.1.op,.i x.1.bP,.s x.2])->n=l.length->
 GE S M (M.push (.cells (bt a) bF)) (.mk M.size 0 n n) (l.map (·.1)):=by
 intro l q h a n j k
 refine Gr.lit (f:=l.map λx=>[.i x.1.op,.i x.1.bP,.s x.2]) BE.mono (ad _) i (by rw[j,List.flatMap_def]) (by simp[k]) ⟨aL,λc d=>?_,λr c o f e=>?_⟩
 .simp at d;obtain⟨_,_,_,rfl⟩:=d;rfl
 .simp only[cJ,jF]at f e
  obtain⟨x,g,rfl⟩:=f
  obtain⟨y,b,rfl⟩:=e
  rw[g]at b;simp at b;subst b
  have:=h x (aq g)
  cases m:x.1 with
  |mk t n s=>rw[m]at this;exact BE.of this
section
variable{j L:List Nat}{h P:Nat}{k d p o:O}{i:List bz}{l:List dy}{m:E}{v:List Int}
def MP(z:0<=c)(ih:∀a,0<=a->a<=c->Kk i l a)(G:∀s∈j,s<m.size)(I:h∈j)(s:GC h k P d p i l m)(hP:P+3*Cg c<=10^16)(hv:IR h m o v)(ah:v.length+3*c.toNat<=1000)(ae:c<=1000)(K:IR h m g e)(h3:e.length<=3)(aa:∀u∈e,Ty i u):
 aN cg 330 [vp h 0,.agg #[O.v d,O.v p],O.v o,O.v g,vi c] m (XL j h k m (P+3*Cg c) λb=>b.length=e.length/\∀f∈b,WX i l.length v.length f):=by
 apply Gs (h,0)
 simp -zeta only[aC,aB]
 intro a B
 have C:J m a:=J.push _ _
 have hr:=s.rd.lt
 have R:Lw h [m.size] a:=by intro c z;simp[a]at z⊢;omega
 have X:GE j a B (.mk a.size 0 0 0) []:=Gr.new _ (ad _) _ _ _
 have Q:J a B:=J.push _ _
 clear_value B
 clear_value a
 have D:=s.ext C
 have ag:=K.len
 refine ez (n:=e.length) V (λr w M=>∃b,GE j a M w b/\b.length=r/\(∀f∈b,WX i l.length v.length f)/\Rd h k (P+r*Cg c) M/\Fz [h] a M) ⟨[],X,rfl,aL,by simpa using D.rd.ext Q,Q.fz _⟩ ?_
 rintro r w M ac μ hk ⟨b,y,af,H,N,F⟩ ab
 have t:=(C.fz [h]).trans F
 refine dit (λq=>?_) λq=>?_
 .let⟨u,L⟩:=cG e r
  let⟨S,E⟩:=NO (d:=(g.len:Int)) z V
  rw[aQ (b:=Int.tdiv c _) V V]
  have hm:=uh E
  have Z:r*Cg c+Cg c<=3*Cg c:=by rw[<-pW];exact dh _ V
  refine⟨V,V,u,(eP.1 ((K.le (fh t)).aF L)).2,V,?_⟩
  exact XP.kH (ih _ S E (w.D::j) h _ k d p o M v u (bO G t.size y.bn.2) (by simp[I]) (s.to t N) V (hv.le (fh t)) V (aa u (aq L))) y F R D.rd I V λf ai M' A W r' U _ _=>
   ab V _ _ ⟨_,W,bE,λT Y=>by rcases List.mem_append.1 Y with q|q;exact H T q;simp at q;subst q;exact A.1,r'.mono (by rw[pW];omega),U⟩
 .have Z:r*Cg c<=3*Cg c:=dh _ V
  exact⟨w,b,rfl,y.done BE.mono (λf A=>C.lt (G f A)) bh V,⟨V,H⟩,N.mono V,t⟩
def zq{n F B:Nat}{q:E}{Q:Ex->Prop}{u bP:Int}(T:0<=c)(ih:∀a,0<=a->a<=c->Kk i l a)(R:∀r∈n::j,r<m.size)(Y:h∈j)(r:GC h k P d p i l m)(K:P+3*Cg c<=10^16)(hv:IR h m o v)(ab:v.length+3*c.toNat<=1000)(U:c<=1000)(Z:IR h m g e)(I:e.length<=3)(aa:∀t∈e,Ty i t)
 (D:Lw h L m)(W:Fz [h] q m)(G:Rd h k F q)(X:q.size<=n)(N:∀a,a.length=e.length->(∀f∈a,WX i l.length v.length f)->Q (.mk u bP a))(M:P+3*Cg c<=B):
 aN cg 330 [vp h 0,.agg #[O.v d,O.v p],O.v o,O.v g,vi c] m λw b=>eF L m b/\∃s:O,w=O.v s/\
  aN cg 315 [vi u,vi bP,O.v s] b λw A=>eF L b A/\∃x y:Int,∃z:O,w=.agg #[vi x,vi y,O.v z]/\XP j h k q B Q (.agg #[vi x,vi y,O.v z]) (ah A n 0 [.i x,.i y,.s z]):=
 (MP (j:=n::j) T ih R (by simp[Y]) r K hv ab U Z I aa).mono λ_ b⟨s,a,f,H,C,J,t⟩=>⟨D.dv t,s,f,XP.ret (mW J H u bP) (D.fz t) (W.trans t) G X (λf V=>V▸N a C.1 C.2) M⟩
def JK(I:3<=c/\c<=100)(ih:∀e,0<=e->e<=c -1->Kk i l e)(hS:∀r∈j,r<m.size)(ag:h∈j)(r:GC h k P d p i l m)(hP:P+23+3*Cg (c -1)<=10^16)(hv:IR h m o v)(aU:v.length+3*c.toNat<=1000){al:Int}(ht:Ty i al):
 aN cg 331 [vp h 0,.agg #[O.v d,O.v p],O.v o,vi al,vi c] m (XP j h k m (P+23+3*Cg (c -1)) (WX i l.length v.length)):=by
 apply CE (h,0)
 simp -zeta only[aC,aB]
 intro q E m3
 let⟨T,hl⟩:=dD (a:=q) (c:=E) rfl rfl
 have s1:q.size=m.size+1:=by simp[q]
 have U:J E m3:=J.push _ _
 have hr:=r.rd.lt
 have z2:=T.size
 have aE:ap (bG [h] m3) (.mk E.size 0 4 4) [1,1,3,4]:=ap.lit aA _ bE rfl rfl aL
 clear_value m3
 clear_value E
 have L2:Lw h [q.size,m.size] E:=λc I=>⟨hl c I,by simp at I;omega⟩
 have ay:∀e∈q.size::j,e<E.size:=bO hS T.size (hl _ aL)
 have c3:=(r.ext T).ext U
 have L3:=L2.fz (U.fz [])
 have W:=r.types
 refine(kv c3.rd V aE aL).mono λ_ m4⟨R,e,hk,r4,G⟩=>⟨L3.dv G,R,e,?_⟩
 have X:=c3.to G r4
 have L4:=L3.fz G
 have aM:=X.hd.len
 have dl:=pu i r.gp.ds
 have af:R∈[(1:Int),3,4]:=by simp at hk⊢;omega
 have lJ:0<(cy i 1).length:=(Ri i r.gp.ds).1
 refine⟨λg M=>g∈[(1:Int),3,4]/\g<=i.length/\0<(cy i g).length/\J m4 M,⟨λ_=>⟨bh,V,lJ,J.az _⟩,λab=>?_⟩,?_⟩
 .simp only[bL]at ab
  refine(mV (X.hd.le (bA _ _)) W R).mono λ_ m5⟨c,e,I,u⟩=>⟨L4.dv (u.fz _),c,e,λ_=>⟨bh,V,lJ,u⟩,λf=>⟨af,V,Qr i r.gp.ds R af V λai N s=>?_,u⟩⟩
  rw[I.2 ⟨ai,by simp at af;omega,N,s⟩]at f;exact absurd f bh
 rintro g m5 ⟨an,az,aH,u⟩
 have Y:=X.ext u
 have L5:=L4.fz (u.fz [])
 have F5:Fz [h] m m5:=(((T.trans U).fz _).trans G).then u
 have k5:g∈[(0:Int),1,2,3,4]:=by simp at an⊢;omega
 have hf:=zp i r.gp.ds
 have aJ:=hf.2.1 g k5
 refine(il (e:=[h]) (by simp;exact Y.rd.lt) (Y.hd.le (bA _ _)) W g).mono λ_ m6⟨Z,t,e,hc,ai,L⟩=>⟨L5.dv (L.fz _),Z,e,?_⟩
 subst ai
 have c6:=Y.ext L
 have L6:=L5.fz (L.fz [])
 have F6:=F5.then L
 have aK:=hc.len
 have z3:=U.size;have z4:=G.size;have z5:=u.size;have z6:=L.size
 have am:∀e∈q.size::j,e<m6.size:=λe s=>by have:=ay e s;omega
 refine XP.then (rB (f:=q.size::j) am (by simp[ag]) c6 V (hv.le (fh F6)) V ⟨by simp at an;omega,az⟩) L6 λs0 e0 F h7 q7 r7 H=>⟨_,_,_,rfl,?_⟩
 intro m8
 have x8:J F m8:=J.push _ _
 have z7:=H.size
 have ac:∀e∈q.size::j,e<F.size:=λe s=>by have:=am e s;omega
 have g8:GE (q.size::j) F m8 (.mk F.size 0 1 1) [e0]:=KJ ac 0 [(e0,s0)] aL (by simpa using h7) rfl rfl
 clear_value m8
 have L7:=L6.fz H
 have F7:=F6.trans H
 refine ez (n:=(cy i g).length) V (λA aj M=>∃t,GE (q.size::j) F M aj (e0::t)/\t.length=A/\(∀(z:Nat)(e:Ex)(C:Int),t[z]? =some e->(cy i g)[z]? =some C->WX i l.length (v.length+(cD i C).length) e)/\Rd h k (P+23+A*Cg (c -1)) M/\Fz [h] F M) ⟨[],g8,rfl,aL,by simpa using(r7.ext x8).mono V,x8.fz _⟩ ?_
 rintro A aj M aG μ hj ⟨t,aa,aT,N,K,D⟩ aF
 have w:=L7.fz D
 have aR:A*Cg (c -1)<=3*Cg (c -1):=dh _ V
 refine dit (λab=>?_) λab=>?_
 .let⟨C,hy⟩:=cG (cy i g) A
  let⟨aO,aP⟩:=hf.1 g k5 C (aq hy)
  have aV:=aa.bn
  have cM:=(c6.to H r7).to D K
  refine⟨V,V,C,(eP.1 ((hc.le (fh (H.trans D))).aF hy)).2,V,?_⟩
  refine(dI (e:=[h]) (by simp;exact K.lt) cM.hd W C).mono λ_ m9⟨f9,l9,e,h9,q9,f⟩=>⟨w.dv (f.fz _),f9,e,w.bZ (Fz.az _ _) (f.fz _) aL _,w.bZ (Fz.az _ _) (f.fz _) aL _,?_⟩
  subst q9
  refine(eN (S:=[h]) (by simp;exact(K.ext f).lt) (hv.le (fh ((F7.trans D).then f))) h9 V).mono λ_ ao⟨ak,ah,e,au,ar,B⟩=>⟨(w.fz (f.fz [])).dv (B.fz _),ak,e,w.bZ (f.fz _) (B.fz _) aL _,w.bZ (f.fz _) (B.fz _) aL _,?_⟩
  have aw:IR h ao ak ah:=GI.done au (by simp;exact(K.ext f).lt) (by rw[<-ar];simp;omega)
  let⟨d0,d1⟩:=NO (f:=c -2) (d:=(Z.len:Int)) V V
  rw[aQ (b:=c -2) V V,aQ (b:=Int.tdiv _ _) V V]
  have hm:=uh (f:=Int.tdiv (c -2) Z.len) (c:=c -1) V
  have aS:A*Cg (c -1)+Cg (c -1)<=3*Cg (c -1):=by rw[<-pW];exact dh _ V
  have fT:=(D.then f).then B
  have aD:ah.length=v.length+(cD i C).length:=by rw[<-ar];simp
  refine XP.kH (ih _ d0 V (aj.D::q.size::j) h _ k d p ak ao ah al (bO (λe s=>O6 (ac e s) fT.size) (ad _) (O6 f.size B.size)) (by simp[ag]) ((cM.ext f).ext B) V aw V ht) ((aa.ext BE.mono f).ext BE.mono B) fT L7 r7 (by simp[ag]) bE λe aX M' s g' r' f' _ _=>
   aF V _ _ ⟨t++[e],g',bE,λz e' y' y Q=>?_,r'.mono (by rw[pW];omega),f'⟩
  rcases aW z t.length with ae|ae
  .rw[ax ae]at y;exact N z e' y' y Q
  .rw[aI ae]at y
   have:z -t.length=0:=by have:=av y;simp at this;omega
   rw[this]at y;simp at y;subst y
   have:z=A:=V
   subst this
   rw[hy]at Q;simp at Q;subst Q
   rw[<-aD];exact s.1
 .exact XP.ret (mW K (aa.done BE.mono ac bh bE) 8 g) w (F7.trans D) r.rd V (λe s=>s▸.mt q7.1 V V N) V
end
end
section
section
variable{e L:List Nat}{c P:Nat}{g d p i:O}{f:List bz}{h:List dy}{m:E}{v:List Int}
def JL{o:Int}(hb:3<=o/\o<=100)(ih:∀j,0<=j->j<=o -1->Kk f h j)(hS:∀q∈e,q<m.size)(R:c∈e)(q:GC c g P d p f h m)(hP:P+24+3*Cg (o -1)<=10^16)(T:IR c m i v)(aF:v.length+3*o.toNat<=1000){ab:Int}(ht:Ty f ab):
 aN cg 333 [vp c 0,.agg #[O.v d,O.v p],O.v i,vi ab,vi o] m (XP e c g m (P+24+3*Cg (o -1)) (WX f h.length v.length)):=by
 apply CF (c,0)
 simp -zeta only[aC,aB]
 intro x aa
 let⟨W,N⟩:=dD (a:=x) (c:=aa) rfl rfl
 have s1:x.size=m.size+1:=by simp[x]
 clear_value aa
 have hr:=q.rd.lt
 have z2:=W.size
 have L2:Lw c [x.size,m.size] aa:=λo hb=>⟨N o hb,by simp at hb;omega⟩
 have ao:∀j∈x.size::e,j<aa.size:=bO hS W.size (N _ aL)
 have c2:=q.ext W
 have ac:=q.types
 have aE:=q.hd.len
 have dl:=pu f q.gp.ds
 have av:cT (o -2)=o -2:=aQ V V
 have ak:cT (o -1)=o -1:=aQ V V
 have oA:=q.gp.oA
 have ax:v.length+3*(o -2).toNat<=1000:=V
 have hm:=uh (f:=o -2) (c:=o -1) V
 have az:P+24+Cg (o -2)<=10^16:=V
 refine⟨λM=>Rd c g (P+1) M/\Fz [c] aa M,?_,?_⟩
 .refine(cp c2.rd V 4).mono λ_ m3⟨y,j,_,_,r3,X⟩=>⟨L2.dv X,y,j,λ_=>?_,λ_=>⟨r3,X⟩⟩
  refine Yr (a:=f.length+1) V V (λ_ M=>Rd c g (P+1) M/\Fz [c] aa M) ⟨r3,X⟩ ?_
  rintro Y M au μ aw ha ⟨Q,H⟩ ae
  have L:=c2.to H Q
  have LM:=L2.fz H
  refine⟨λs=>?_,λs=>⟨Q,H⟩⟩
  simp only[ar]at s
  have ea:cT ((Y:Int) -1)=Y -1:=aQ V V
  rw[ea]
  refine(mV (L.hd.le (bA _ _)) ac Y).mono λ_ I⟨b4,j,an,K⟩=>⟨LM.dv (K.fz _),b4,j,λh1=>?_,λ_=>ae V _ ⟨Q.ext K,H.then K⟩⟩
  obtain⟨aj,_,hq,ay⟩:=an.1 h1
  have U:f[((Y:Int) -1).toNat]? =some aj:=by rw[<-hq];congr 1;omega
  obtain⟨_,_,g0,g1,_⟩:=L.hd.aF U
  have D:=L.ext K
  have u:=LM.fz (K.fz [])
  have l:=H.then K
  refine⟨V,V,_,K.af (eP.1 g1).2,λ_=>?_,λ_=>ae V _ ⟨Q.ext K,l⟩⟩
  refine(pN (D.hd.le (bA _ _)) ac (pp.le (bA _ _) D.hp) V ((T.le (fh ((W.fz _).trans l))).le (bA _ _)) Y).mono λ_ t⟨b5,j,k⟩=>⟨u.dv (k.fz _),b5,j,λ_=>?_,λ_=>ae V _ ⟨(Q.ext K).ext k,l.then k⟩⟩
  have F:=D.ext k
  have w:=u.fz (k.fz [])
  have f5:=l.then k
  have z5:=f5.size
  have ag:∀j∈x.size::e,j<t.size:=λj G=>by have:=ao j G;omega
  obtain⟨_,_,af,_,_⟩:=F.hd.aF U
  refine⟨V,V,_,(eP.1 af).2,?_⟩
  refine XP.then (rB (f:=x.size::e) ag (by simp[R]) F V (T.le (fh ((W.fz _).trans f5))) V ⟨V,V⟩) w λs6 e6 B h6 q6 r6 z=>⟨_,_,_,rfl,?_⟩
  have c6:=F.to z r6
  have A:=w.fz z
  obtain⟨_,_,am,_,_⟩:=c6.hd.aF U
  refine⟨by rw[(eP.1 am).2,(eP.1 af).2],w.bZ (Fz.az _ _) z aL _,w.bZ (Fz.az _ _) z aL _,w.bZ (Fz.az _ _) z aL _,?_⟩
  rw[av]
  have F6:=(W.fz [c]).trans (f5.trans z)
  have ai:∀j∈x.size::e,j<B.size:=λj G=>by have:=ag j G;have:=z.size;omega
  refine XP.then (ih (o -2) V V (x.size::e) c (P+1+22) g d p i B v _ ai (by simp[R]) c6 V (T.le (fh F6)) ax ((zp f q.gp.ds).2.2 aj (aq U))) A λs7 e7 C h7 q7 r7 r=>⟨_,_,_,rfl,?_⟩
  intro Z
  have x8:J C Z:=J.push _ _
  have al:∀j∈x.size::e,j<C.size:=λj G=>by have:=ai j G;have:=r.size;omega
  have g8:GE (x.size::e) C Z (.mk C.size 0 2 2) [e6,e7]:=KJ al 0 [(e6,s6),(e7,s7)] aL (by simp;exact⟨fF.le (r.df (by simp[R])) h6,h7⟩) rfl rfl
  clear_value Z
  exact XP.ret (mW (r7.ext x8) (g8.done BE.mono al bh aL) 11 0) ((A.fz r).fz (x8.fz [])) ((F6.trans r).then x8) q.rd V (λj G=>G▸.eZ bh (λs=>V) bh (λs=>V) (by simp;exact⟨q6.1,q7.1⟩)) V
 rintro M ⟨Q,H⟩
 have L:=c2.to H Q
 have LM:=L2.fz H
 have zM:=H.size
 have FM:=(W.fz [c]).trans H
 refine(il (e:=[c]) (by simp;exact Q.lt) (L.hd.le (bA _ _)) ac ab).mono λ_ m3⟨cs,al,j,hc,aj,x3⟩=>⟨LM.dv (x3.fz _),cs,j,?_⟩
 subst aj
 have Z:=L.ext x3
 have X:=LM.fz (x3.fz [])
 have K:=FM.then x3
 have z3:=x3.size
 have aD:=hc.len
 have af:∀{M:E},m3.size<=M.size->∀j∈x.size::e,j<M.size:=λs j G=>by have:=ao j G;omega
 refine⟨λs=>?_,λs=>⟨λs=>XP.ret (rB (f:=x.size::e) (af (ad _)) (by simp[R]) Z V (T.le (fh K)) V ht) X K q.rd V (λj G=>G.1) V,λs=>?_⟩⟩
 .simp only[ar]at s
  refine(cp Z.rd V cs.len).mono λ_ I⟨y,j,k0,k1,U,l⟩=>⟨X.dv l,y,j,k0,V,?_⟩
  let⟨ae,hy⟩:=cG (cy f ab) y.toNat
  have ag:=(zp f q.gp.ds).1 ab (Ty.Yq q.gp.ds ht) ae (aq hy)
  have D:=Z.to l U
  have u:=X.fz l
  refine⟨ae,(eP.1 ((hc.le (fh l)).aF hy)).2,?_⟩
  refine(dI (e:=[c]) (by simp;exact U.lt) D.hd ac ae).mono λ_ t⟨f5,l5,j,h5,q5,k⟩=>⟨u.dv (k.fz _),f5,j,u.bZ (Fz.az _ _) (k.fz _) aL _,u.bZ (Fz.az _ _) (k.fz _) aL _,?_⟩
  subst q5
  rw[ak]
  exact zq V ih (af (O6 l.size k.size)) R (D.ext k) V (T.le (fh ((K.trans l).then k))) V V h5 ag.1 ag.2 (u.fz (k.fz [])) ((K.trans l).then k) q.rd V (λal _ N=>.eZ bh (λs=>V) bh (λs=>V) N) V
 .refine(cp Z.rd V 3).mono λ_ I⟨y,j,k0,k1,U,l⟩=>⟨X.dv l,y,j,λ_=>?_,λ_=>?_⟩
  .have D:=Z.to l U
   have u:=X.fz l
   have z4:=l.size;have aw:=U.lt
   intro t
   have k:J I t:=J.push _ _
   have ae:ap (bG [c] t) (.mk I.size 0 1 1) [0]:=ap.lit aA _ bE rfl rfl aL
   clear_value t
   have z5:=k.size
   rw[ak]
   exact zq V ih (af V) R (D.ext k) V (T.le (fh ((K.trans l).then k))) V V ae aL (by simp[q.gp.ty]) (u.fz (k.fz [])) ((K.trans l).then k) q.rd V (λal _ N=>.eZ bh (λs=>V) bh (λs=>V) N) V
  .have D:=Z.to l U
   have u:=X.fz l
   have F4:=K.trans l
   have z4:=l.size;have aw:=U.lt
   have iH:∀{ay M:E}{Y t0:Nat},GC c g (P+3) d p f h M->Fz [c] I M->ap (bG [c] M) (.mk t0 0 2 2) [0,0]->∀op:Int,op∈[(1:Int),2,3,4]->aN cg 330 [vp c 0,.agg #[O.v d,O.v p],O.v i,O.v (.mk t0 0 2 2),vi (o -1)] M λan M1=>eF [x.size,m.size] M M1/\∃au:O,an=O.v au/\
    aN cg 315 [vi op,vi 0,O.v au] M1 λan M2=>eF [x.size,m.size] M1 M2/\∃r0 r1:Int,∃r2:O,an=.agg #[vi r0,vi r1,O.v r2]/\XP e c g m (P+24+3*Cg (o -1)) (WX f h.length v.length) (.agg #[vi r0,vi r1,O.v r2]) (ah M2 x.size 0 [.i r0,.i r1,.s r2]):=λL ae s op ag=>
    zq V ih (af (oh ae.size)) R L V (T.le (fh (F4.trans ae))) V V s aL (by simp[q.gp.ty]) (u.fz ae) (F4.trans ae) q.rd V (λal _ N=>.eZ (by simp at ag;omega) (λs=>by simp at ag;omega) (by simp at ag;omega) (λs=>by simp at ag;omega) N) V
   rw[ak]
   refine⟨?_,?_⟩
   .intro t
    have k:J I t:=J.push _ _
    have ai:ap (bG [c] t) (.mk I.size 0 4 4) [1,2,3,4]:=ap.lit aA _ bE rfl rfl aL
    clear_value t
    have F:=D.ext k
    have w:=u.fz (k.fz [])
    have z5:=k.size
    refine⟨u.bZ (Fz.az _ _) (k.fz _) aL _,u.bZ (Fz.az _ _) (k.fz _) aL _,?_,?_⟩
    .refine(kv F.rd V ai aL).mono λ_ B⟨y,j,hk,r6,z⟩=>⟨w.dv z,y,j,w.bZ (Fz.az _ _) z aL _,w.bZ (Fz.az _ _) z aL _,?_⟩
     intro C
     have x7:J B C:=J.push _ _
     have am:ap (bG [c] C) (.mk B.size 0 2 2) [0,0]:=ap.lit aA _ (by simp;exact r6.lt) rfl rfl aL
     clear_value C
     have A:=w.fz z
     exact⟨A.bZ (Fz.az _ _) (x7.fz _) aL _,A.bZ (Fz.az _ _) (x7.fz _) aL _,iH (ay:=C) (Y:=0) ((F.to z r6).ext x7) (((k.fz _).trans z).then x7) am y hk⟩
    .intro B
     have z:J t B:=J.push _ _
     have am:ap (bG [c] B) (.mk t.size 0 2 2) [0,0]:=ap.lit aA _ bE rfl rfl aL
     clear_value B
     have A:=w.fz (z.fz [])
     refine⟨w.bZ (Fz.az _ _) (z.fz _) aL _,w.bZ (Fz.az _ _) (z.fz _) aL _,?_⟩
     refine(kv (F.ext z).rd V (ai.le (fh (z.fz _))) aL).mono λ_ C⟨y,j,hk,r7,r⟩=>⟨A.dv r,y,j,A.bZ (Fz.az _ _) r aL _,A.bZ (Fz.az _ _) r aL _,iH (ay:=C) (Y:=0) ((F.ext z).to r r7) (((k.trans z).fz _).trans r) (am.le (fh r)) y hk⟩
   .intro t
    have k:J I t:=J.push _ _
    have ai:ap (bG [c] t) (.mk I.size 0 2 2) [0,0]:=ap.lit aA _ bE rfl rfl aL
    clear_value t
    have F:=D.ext k
    have w:=u.fz (k.fz [])
    have z5:=k.size
    refine⟨u.bZ (Fz.az _ _) (k.fz _) aL _,u.bZ (Fz.az _ _) (k.fz _) aL _,?_⟩
    intro B
    have z:J t B:=J.push _ _
    have am:ap (bG [c] B) (.mk t.size 0 4 4) [1,2,3,4]:=ap.lit aA _ bE rfl rfl aL
    clear_value B
    have A:=w.fz (z.fz [])
    refine⟨w.bZ (Fz.az _ _) (z.fz _) aL _,w.bZ (Fz.az _ _) (z.fz _) aL _,?_⟩
    refine(kv (F.ext z).rd V am aL).mono λ_ C⟨y,j,hk,r7,r⟩=>⟨A.dv r,y,j,A.bZ (Fz.az _ _) r aL _,A.bZ (Fz.az _ _) r aL _,iH (ay:=C) (Y:=0) ((F.ext z).to r r7) (((k.trans z).fz _).trans r) ((ai.le (fh (z.fz _))).le (fh r)) y hk⟩
end
end
section
variable{c:Int}
def WZ{l:List bz}{q:List dy}(hb:0<=c/\c<=100)(ih:∀d,0<=d->d<=c -1->Kk l q d):Kk l q c:=by
 intro r e P G R U ae v w A hS z j hP K aI I;apply LI (e,0);simp -zeta only[aC,aB];intro h aa;let⟨x2,hl⟩:=dD (a:=h) (c:=aa) rfl rfl;have s1:h.size=v.size+1:=by simp[h]
 clear_value aa;have hr:=j.rd.lt;have z2:=x2.size;have L2:Lw e [h.size,v.size] aa:=λc hb=>⟨hl c hb,by simp at hb;omega⟩;have H:∀{d:E},aa.size<=d.size->∀f∈h.size::r,f<d.size:=λy f he=>by have:=bO hS x2.size (hl h.size aL) f he;omega
 have c2:=j.ext x2;have am:=j.types;have oA:=j.gp.oA;have iV:=j.gp.iV;have aF:=Qn c;have au:∀{al:Nat}{d:E},GC e G al R U l q d->Fz [e] aa d->al+22<=P+Cg c->aN cg 318 [vp e 0,.agg #[O.v R,O.v U],O.v ae,vi A] d λad M2=>eF [h.size,v.size] d M2/\∃W X:Int,∃Y:O,ad=.agg #[vi W,vi X,O.v Y]/\XP r e G v (P+Cg c) (λf=>WX l q.length w.length f/\(c<=2->f.n<=4)) (.agg #[vi W,vi X,O.v Y]) (ah M2 h.size 0 [.i W,.i X,.s Y]):=λcM g hq=>
  XP.ret (rB (f:=h.size::r) (H g.size) (by simp[z]) cM V (K.le (fh ((x2.fz _).trans g))) V I) (L2.fz g) ((x2.fz _).trans g) j.rd V (λf he=>⟨he.1,λ_=>he.2⟩) hq
 refine⟨λ_=>au c2 (Fz.az _ _) V,λh3=>?_⟩;simp only[bL]at h3;have aG:=Rc (f:=c -1) (c:=c) V V;have aH:=Rc (f:=c -2) (c:=c -1) V V;have aE:=Qn (c -2);have an:cT (c -1)=c -1:=aQ V V;have hQ:∀f,WX l q.length w.length f->WX l q.length w.length f/\(c<=2->f.n<=4):=λf y=>⟨y,λy=>V⟩;refine(cp c2.rd V 12).mono λ_ m3⟨ab,f,k0,k1,r3,f3⟩=>⟨L2.dv f3,ab,f,?_⟩;have u:=c2.to f3 r3;have N:=L2.fz f3;have t:=(x2.fz [e]).trans f3;have z3:=f3.size;have ay:=H z3;have aw:∀{d:E},J m3 d->aN cg 333 [vp e 0,.agg #[O.v R,O.v U],O.v ae,vi A,vi c] d λad M2=>eF [h.size,v.size] d M2/\∃W X:Int,∃Y:O,ad=.agg #[vi W,vi X,O.v Y]/\XP r e G v (P+Cg c) (λf=>WX l q.length w.length f/\(c<=2->f.n<=4)) (.agg #[vi W,vi X,O.v Y]) (ah M2 h.size 0 [.i W,.i X,.s Y]):=λC=>
  XP.ret (JL (e:=h.size::r) ⟨V,V⟩ ih (H (oh C.size)) (by simp[z]) (u.ext C) V (K.le (fh (t.then C))) V I) (N.fz (C.fz [])) (t.then C) j.rd V hQ V
 refine⟨λ_=>au u f3 V,λ_=>⟨λ_=>?_,λ_=>⟨λ_=>?_,λ_=>⟨λ_=>XP.ret (JK (j:=h.size::r) ⟨V,V⟩ ih ay (by simp[z]) u V (K.le (fh t)) V I) N t j.rd V hQ V,λ_=>⟨λ_=>?_,λ_=>aw (J.az _)⟩⟩⟩⟩⟩
 .refine(Lt r3 V u.hd am u.hp V (K.le (fh t))).mono λ_ k⟨B,f,hu,r4,f4⟩=>⟨N.dv f4,B,f,bh,bh,?_⟩;have Q:=u.to f4 r4;have p:=N.fz f4;have F4:=t.trans f4;have z4:=f4.size;have az:Ty l B:=by have:=pu l j.gp.ds;unfold Ty;omega
  let⟨d0,d1⟩:=NO (f:=c) (d:=2) V V;have d2:Int.tdiv c 2<=c -1:=by rw[pU V];omega
  have d3:Int.tdiv c 2+Int.tdiv c 2<=c:=by rw[pU V];omega
  rw[aQ (b:=Int.tdiv c 2) V V];generalize Int.tdiv c 2=h2 at*;have hm:=uh d2;have D:∀{d M':E},Fz [e] k d->Fz [e] d M'->af M' v.size 0=af d v.size 0:=λg f'=>p.bZ g f' aL _;have F:∀{d M':E},Fz [e] k d->Fz [e] d M'->af M' v.size 1=af d v.size 1:=λg f'=>p.bZ g f' aL _;have ag:=λ(d:E)(cM:GC e G (P+2) R U l q d)(g:Fz [e] k d)=>ih h2 d0 d2 (h.size::r) e (P+2) G R U ae d w B (H (oh g.size)) (by simp[z]) cM V (K.le (fh (F4.trans g))) V az;have ai:=λ(d:E)(ac:O)(cM:GC e G (P+2+Cg h2) R U l q d)(g:Fz [e] k d)(hw:IR e d ac (w++[B]))=>ih h2 d0 d2 (h.size::r) e (P+2+Cg h2) G R U ac d (w++[B]) A (H (oh g.size)) (by simp[z]) cM V hw bE I;have aj:=λ(d:E)(ac:O)(g:Fz [e] k d)(hR:e<d.size)(y:IR e d ac [B])=>eN (S:=[e]) (by simp;exact hR) (K.le (fh (F4.trans g))) y bE;have ak:=λ(M0 d:E)(Z e2:Ex)(t1 t2:O)(g:Fz [e] k d)(hR:Rd e G (P+2+Cg h2+Cg h2) d)(h1:fF (bG (h.size::r) d) t1 Z.bC)(ax:fF (bG (h.size::r) d) t2 e2.bC)(w1:WX l q.length w.length Z)(w2:WX l q.length (w++[B]).length e2)=>
   have C:=J.push d (.cells (bt [.i Z.op,.i Z.bP,.s t1,.i e2.op,.i e2.bP,.s t2]) bF)
   have ao:=H (d:=d) (oh g.size)
   XP.ret (S:=r) (Q':=λf=>WX l q.length w.length f/\(c<=2->f.n<=4)) (mW (hR.ext C) ((KJ ao 0 [(Z,t1),(e2,t2)] aL (by simp;exact⟨h1,ax⟩) rfl rfl).done BE.mono ao bh aL) 13 0) ((p.fz g).fz (C.fz [])) ((F4.trans g).then C) j.rd V (λf he=>he▸hQ _ (.lt w1 (by simpa using w2))) (i:=P+Cg c) V
  refine⟨?_,?_⟩
  .refine XP.then (ag k Q (Fz.az _ _)) p λs5 T L h5 q5 r5 m=>⟨_,_,_,rfl,D (Fz.az _ _) m,F (Fz.az _ _) m,?_⟩;intro m6;have s:J L m6:=J.push _ _;have aD:ap (bG [e] m6) (.mk L.size 0 1 1) [B]:=ap.lit aA _ (by simp;exact r5.lt) rfl rfl aL;clear_value m6;have o:=m.then s;refine⟨D m (s.fz _),F m (s.fz _),D m (s.fz _),F m (s.fz _),?_⟩;refine(aj m6 _ o (r5.ext s).lt aD).mono λ_ m7⟨s7,l7,f,g7,q7,i⟩=>⟨(p.fz o).dv (i.fz _),s7,f,D o (i.fz _),F o (i.fz _),?_⟩;subst q7;refine XP.then (ai m7 s7 (((Q.to m r5).ext s).ext i) (o.then i) (GI.done g7 (by simp;exact(r5.ext s).lt) bE)) ((p.fz o).fz (i.fz [])) λs8 e8 m8 h8 q8 r8 f8=>⟨_,_,_,rfl,?_⟩;exact ak m8 m8 T e8 s5 s8 ((o.then i).trans f8) r8 (fF.le (((s.trans i).fz [e]).trans f8|>.df (by simp[z])) h5) h8 q5.1 q8.1
  .intro L;have s:J k L:=J.push _ _;have aD:ap (bG [e] L) (.mk k.size 0 1 1) [B]:=ap.lit aA _ (by simp;exact r4.lt) rfl rfl aL;clear_value L;refine⟨D (Fz.az _ _) (s.fz _),F (Fz.az _ _) (s.fz _),D (Fz.az _ _) (s.fz _),F (Fz.az _ _) (s.fz _),?_⟩;refine XP.then (ag L (Q.ext s) (s.fz _)) (p.fz (s.fz [])) λs6 e6 m6 h6 q6 r6 o=>⟨_,_,_,rfl,D (s.fz _) o,F (s.fz _) o,?_⟩;have T:=(s.fz [e]).trans o;refine(aj m6 _ T r6.lt (aD.le (fh o))).mono λ_ m7⟨s7,l7,f,g7,q7,i⟩=>⟨(p.fz T).dv (i.fz _),s7,f,D T (i.fz _),F T (i.fz _),?_⟩;subst q7;refine XP.then (ai m7 s7 (((Q.ext s).to o r6).ext i) (T.then i) (GI.done g7 (by simp;exact r6.lt) bE)) ((p.fz T).fz (i.fz [])) λs8 e8 m8 h8 q8 r8 f8=>⟨_,_,_,rfl,?_⟩;exact ak m8 m8 e6 e8 s6 s8 ((T.then i).trans f8) r8 (fF.le ((i.fz [e]).trans f8|>.df (by simp[z])) h6) h8 q6.1 q8.1
 .intro k;have i:J m3 k:=J.push _ _;have s:ap (bG [e] k) (.mk m3.size 0 3 3) [0,A,A]:=ap.lit aA _ (by simp;exact r3.lt) rfl rfl aL;clear_value k;rw[an];exact zq V ih (H (oh i.size)) z (u.ext i) V (K.le (fh (t.then i))) V V s aL (by simp;exact⟨j.gp.ty bh bh,I⟩) (N.fz (i.fz [])) (t.then i) j.rd V (λo hl hw=>hQ _ (.eZ bh (λ_=>by simpa using hl) bh (λy=>V) hw)) V
 .refine(JG (f:=[e]) (by simp;exact r3.lt) (u.hd.le (bA _ _)) am (pp.le (bA _ _) u.hp) V iV A).mono λ_ k⟨B,o,f,gl,hq,i⟩=>⟨N.dv (i.fz _),B,f,λy=>?_,λ_=>aw i⟩;simp only[ar]at y;have ac:IR e k B o:=GI.done gl (by simp;exact r3.lt) V;have ao:=ac.len;have Q:=u.ext i;have p:=N.fz (i.fz []);refine(cp Q.rd V B.len).mono λ_ L⟨ab,f,k0,k1,r5,m⟩=>⟨p.dv m,ab,f,k0,V,?_⟩;let⟨aj,hy⟩:=cG o ab.toNat;obtain⟨fi,ai,rfl,F⟩:=hq.1 aj (aq hy);have s:=Q.to m r5;let⟨ps,ag,e0,Z⟩:=s.hp.aF F;have ak:=av F;have ax:=s.hp.len;have T:=wG _ (j.gp.dz ai (aq F));have D:=(i.fz [e]).trans m;refine⟨_,(eP.1 ((ac.le (fh m)).aF hy)).2,V,V,ps,(eP.1 e0).2,?_⟩;rw[an];exact zq V ih (H (oh D.size)) z s V (K.le (fh (t.trans D))) V V ag T.1 (λA I=>j.gp.ty (T.2.1 A I).1 (T.2.1 A I).2) (p.fz m) (t.trans D) j.rd V (λo _ hw=>hQ _ (.eZ bh (λy=>V) bh (λ_=>⟨V,V⟩) hw)) V
def QJ{b:List bz}{d:List dy}:∀(n:Nat)(c:Int),c.toNat=n->0<=c/\c<=100->Kk b d c:=λn=>by
 induction n using Nat.strongRecOn with
 |ind n f=>exactλc i h=>WZ h λa e g=>f a.toNat V a rfl ⟨e,V⟩
section
variable{S:List Nat}{e P:Nat}{h d p j:O}{g:List bz}{i:List dy}{f:E}{v:List Int}
def XN(g:List bz)(b a:Nat)(e:Ex):Prop:=WX g b a e/\e.n<=30
def LG(hS:∀y∈S,y<f.size)(ab:e∈S)(y:GC e h P d p g i f)(hP:P+20*Cg 18<=10^16)(hv:IR e f j v)(ak:v.length<=100){T:Int}(ht:Ty g T)(s:0<=c/\c<=18):
 aN cg 287 [vp e 0,.agg #[O.v d,O.v p],O.v j,vi T,vi c] f (XP S e h f (P+20*Cg 18) (XN g i.length v.length)):=by
 apply Es (e,0)
 simp -zeta only[aC,aB]
 intro t B
 let⟨w,hl⟩:=dD (a:=t) (c:=B) rfl rfl
 have s1:t.size=f.size+1:=by simp[t]
 clear_value B
 have hr:=y.rd.lt
 have z2:=w.size
 have N:Lw e [t.size,f.size] B:=λc s=>⟨hl c s,by simp at s;omega⟩
 have aa:∀{M:E},B.size<=M.size->∀k∈t.size::S,k<M.size:=λR k Z=>by have:=bO hS w.size (hl t.size aL) k Z;omega
 have W:=y.ext w
 have hm:=uh s.2
 refine XP.then (QJ _ c rfl ⟨s.1,V⟩ (t.size::S) e P h d p j B v T (aa (ad _)) (by simp[ab]) W V (hv.le (fh (w.fz _))) V ht) N λs3 F l h3 q3 r3 f3=>⟨_,_,_,rfl,?_⟩
 intro m4 C
 have U:J l C:=(J.push l _).ah (ad _) _ _
 have B5:cE C l.size bF [.i F.op,.i F.bP,.s s3]:=cE.ah (m:=m4) (o:=0) (r:=[.i F.op,.i F.bP,.s s3]) (cE.push l _ _)
 have s5:C.size=l.size+1:=by simp[C,m4,aw]
 clear_value C
 have z3:=f3.size
 have ae:∀k∈l.size::t.size::S,k<C.size:=bO (aa z3) U.size V
 refine⟨λq M=>∃(I:O)(k:Ex)(u:Nat),0<=q/\q<=18/\q.toNat<=u/\u<=18/\cE M l.size bF [.i k.op,.i k.bP,.s I]/\fF (bG (l.size::t.size::S) M) I k.bC/\WX g i.length v.length k/\(q<=2->k.n<=4)/\Rd e h (P+(19 -u)*Cg 18) M/\Fz [e] B M/\C.size<=M.size,λq _=>q.toNat,⟨s3,F,18,s.1,s.2,V,ad _,B5,fF.le (U.bG λc s=>(List.mem_cons.1 s).elim (λR=>Or.inr V) Or.inl) h3,q3.1,q3.2,(r3.ext U).mono V,(f3.then U),ad _⟩,?_⟩
 rintro q M ⟨I,k,u,b0,b1,bk,al,K,hs,hw,hn,rM,X,zM⟩
 have FM:=(w.fz [e]).trans X
 refine⟨_,K.bZ 0,_,K.bZ 1,_,K.bZ 2,?_⟩
 refine(AY (fF.le (bA _ _) hs)).mono λ_ H⟨n6,e6,q6,D⟩=>⟨(N.fz X).dv (D.fz _),n6,e6,?_⟩
 have L:=K.ext D
 have r6:=rM.ext D
 have z:=X.then D
 have z6:=D.size
 have kc:(19 -u)*Cg 18+Cg 18<=20*Cg 18:=by rw[<-pW];exact dh _ V
 have aT:k.n<=30->∃v0:Int,af H l.size 0=some (vi v0)/\∃v1:Int,af H l.size 1=some (vi v1)/\∃v2:O,af H l.size 2=some (O.v v2)/\XP S e h f (P+20*Cg 18) (XN g i.length v.length) (.agg #[vi v0,vi v1,O.v v2]) (ah H t.size 0 [.i v0,.i v1,.s v2]):=λac=>
  ⟨_,L.bZ 0,_,L.bZ 1,_,L.bZ 2,I,k,rfl,fF.le (cA aL λy Y=>ai _ (ai _ Y)) (fF.le (D.df _) hs),⟨hw,ac⟩,y.rd.ah (r6.mono V) ((w.fz _).trans z) V 0 _,((w.fz _).trans z).ah (Or.inr V) _ _⟩
 refine⟨λR=>⟨λA=>?_,λA=>aT (by simp only[bL]at A;have:=hn V;omega)⟩,λR=>aT (by simp only[bL]at R;omega)⟩
 simp only[ar]at A
 let⟨d0,d1⟩:=NO (f:=q) (d:=2) b0 V
 have d2:Int.tdiv q 2<=q -1:=by rw[pU b0];omega
 rw[aQ (b:=Int.tdiv q 2) V V]
 generalize Int.tdiv q 2=A at*
 have ag:=uh (f:=A) (c:=18) V
 refine⟨bh,?_⟩
 refine XP.then (QJ _ A rfl ⟨d0,V⟩ (l.size::t.size::S) e _ h d p j H v T (λk Z=>oh (ae k Z)) (by simp[ab]) (W.to z r6) V (hv.le (fh ((w.fz _).trans z))) V ht) (N.fz z) λs7 G m7 h7 q7 r7 Q=>⟨_,_,_,rfl,?_⟩
 have aj:e≠l.size:=V
 have B7:cE m7 l.size bF [.i k.op,.i k.bP,.s I]:=L.congr (Q.same _ V bE)
 refine⟨B7.fJ aL,?_⟩
 intro m8
 have B8:cE m8 l.size bF [.i G.op,.i G.bP,.s s7]:=cE.ah (m:=m7) (o:=0) (r:=[.i G.op,.i G.bP,.s s7]) B7
 have f8:Fz [e] B m8:=(z.trans Q).ah (Or.inr V) _ _
 have s8:m8.size=m7.size:=aw _ _ _ _
 have z7:=Q.size
 refine⟨λc s=>bd _ _ _ _ (oh ((N c s).1)),⟨s7,G,u -1,d0,V,V,V,B8,fF.le (cA aL λy Y=>Y) h7,q7.1,q7.2,?_,f8,V⟩,by show A.toNat<q.toNat;omega⟩
 refine W.rd.ah (r7.mono ?_) (z.trans Q) V 0 _
 rw[show 19 -(u -1)=19 -u+1 by omega,pW];omega
end
end
section
structure HX(S:List Nat)(ds:List bz)(nf a:Nat)(M:E)(s:O)(e:Ex):Prop where
 sl:fF (bG S M) s e.bC
 wx:WX ds nf a e
structure Rs(rb:Nat)(bs:O)(m:E)(Q:Nat)(M:E):Prop where
 f:Fz [rb] m M
 r:Rd rb bs Q M
section
variable{S L:List Nat}{f Q q u k a i:Nat}{j d p s w:O}{h:List bz}{t:List dy}{n M c:E}{g:Ex}{v:List Int}{K:Int->Int->O->E->Prop}
def HX.fz(b:HX S h i a M s g)(e:f∈S)(d:Fz [f] M c):HX S h i a c s g:=⟨fF.le (d.df (by simp[e])) b.sl,b.wx⟩
def HX.ext(b:HX S h i a M s g)(x:J M c):HX S h i a c s g:=⟨fF.le (x.df _) b.sl,b.wx⟩
def HX.gX(b:HX S h i a M s g)(x:J M c)(f:M.size<=k):HX (k::S) h i a c s g:=⟨fF.le (x.bG λe d=>(List.mem_cons.1 d).elim (λb=>Or.inr V) Or.inl) b.sl,b.wx⟩
def HX.fg(b:HX (k::S) h i a M s g):HX S h i a M s g:=⟨fF.le (iR M λ_=>ai _) b.sl,b.wx⟩
def HX.put(b:HX S h i a M s g)(c:k∈S)(o:Nat)(l:List Ce):HX S h i a (ah M k o l) s g:=⟨fF.le (cA c λ_ b=>b) b.sl,b.wx⟩
def Rs.ext(h:Rs f j n Q M)(x:J M c):Rs f j n Q c:=⟨h.f.then x,h.r.ext x⟩
def Rs.to(h:Rs f j n Q M)(a:Fz [f] M c)(r:Rd f j q c):Rs f j n q c:=⟨h.f.trans a,r⟩
def Rs.put(h:Rs f j n Q M)(b:Rd f j u n)(a:n.size<=k)(o:Nat)(l:List Ce):Rs f j n Q (ah M k o l):=⟨h.f.ah (Or.inr a) _ _,b.ah h.r h.f a o l⟩
def lw(h:f<n.size)(a:∀b∈L,n.size<=b/\b<M.size):Lw f L M:=λb c=>⟨(a b c).2,oh ((a b c).1)⟩
def kg(a:Fz [f] M c)(h:f<n.size)(b:n.size<=k/\k<M.size)(o:Nat):af c k o=af M k o:=aJ (a.same k b.2 bE) o
def kE{d c:E}{z a:List Ce}{t:Nat}(f:d=M.push (.cells (bt z) t))(g:c=ah d M.size 0 a)(i:a.length=z.length):J M c/\cE c M.size t a/\c.size=M.size+1:=by
 subst f g;refine⟨(J.push M _).ah (ad _) _ _,?_,by rw[aw];simp⟩;have h:=cE.ah (m:=M.push (.cells (bt z) t)) (b:=M.size) (e:=t) (l:=z) (o:=0) (r:=a) (cE.push _ _ _);rwa[show iZ z 0 a=a from by
  have h:=BU [] a z V;rw[I5 V]at h;simpa using h]at h
def XP.kk{e:Nat}{b:List Value}{T:Ex->Prop}(n:aN cg e b M (XP S f j M Q T))(o:Lw f L M)(p:∀s g c,fF (bG S c) s g.bC->T g->Rd f j Q c->Fz [f] M c->K g.op g.bP s c):aN cg e b M λv c=>eF L M c/\∃h i:Int,∃k:O,v=.agg #[vi h,vi i,O.v k]/\K h i k c:=
 XP.then n o λs g c a l m d=>⟨_,_,_,rfl,p s g c a l m d⟩
def wE(S:List Nat)(h:List bz)(i:Nat)(m:Lw f L M){n:Int}(p:0<=n/\n<(a:Int))(o:∀s c,HX S h i a c s (.mk 12 n [])->J M c->K 12 n s c):aN cg 317 [vi n] M λv c=>eF L M c/\∃b d:Int,∃e:O,v=.agg #[vi b,vi d,O.v e]/\K b d e c:=
 (mq S n M).mono λv c⟨s,g,j,k,l,x⟩=>⟨m.dv (x.fz _),by subst l;exact⟨_,_,_,j,o s c ⟨k,.Ud p⟩ x⟩⟩
def Jf(S:List Nat)(h:List bz)(i a:Nat)(m:Lw f L M)(n:Int)(o:∀s c,HX S h i a c s (.mk 0 n [])->J M c->K 0 n s c):aN cg 282 [vi n] M λv c=>eF L M c/\∃b d:Int,∃e:O,v=.agg #[vi b,vi d,O.v e]/\K b d e c:=
 (AK S n M).mono λv c⟨s,g,j,k,l,x⟩=>⟨m.dv (x.fz _),by subst l;exact⟨_,_,_,j,o s c ⟨k,.int n⟩ x⟩⟩
def oO(l:List (Ex×O))(d:l.length<=1000)(b:∀c∈S,c<M.size)(h:∀x∈l,fF (bG S M) x.2 x.1.bC){a:List Ce}{n:Nat}(c:a=l.flatMap λx=>[.i x.1.op,.i x.1.bP,.s x.2])(e:n=l.length):fF (bG S (M.push (.cells (bt a) bF))) (.mk M.size 0 n n) (l.map (·.1)):=
 (KJ b 0 l d h c e).done BE.mono b bh bE
def jB{bC:List Ex}(k:fF (bG S M) s bC){b bP:Int}(q:WX h i a (.mk b bP bC))(o:Lw f L M)(p:∀s c,HX S h i a c s (.mk b bP bC)->J M c->K b bP s c):
 aN cg 315 [vi b,vi bP,O.v s] M λv c=>eF L M c/\∃d e:Int,∃j:O,v=.agg #[vi d,vi e,O.v j]/\K d e j c:=
 (Js k b bP).mono λv c⟨s,g,l,m,n,x⟩=>⟨o.dv (x.fz _),by subst n;exact⟨_,_,_,l,p s c ⟨m,q⟩ x⟩⟩
def FC(x:∀a∈S,a<M.size)(z:f∈S)(a:GC f j Q d p h t M)(C:Q+Cg 18<=10^16)(B:IR f M w v)(E:v.length<=100){e b:Int}(A:Ty h e)(i:0<=b/\b<=18)(u:Lw f L M)(y:∀g s c,HX S h t.length v.length c s g->Rd f j (Q+Cg 18) c->Fz [f] M c->K g.op g.bP s c):
 aN cg 314 [vp f 0,.agg #[O.v d,O.v p],O.v w,vi e,vi b] M λv c=>eF L M c/\∃k l:Int,∃m:O,v=.agg #[vi k,vi l,O.v m]/\K k l m c:=
 have D:=uh i.2
 XP.kk (QJ _ b rfl ⟨i.1,V⟩ S f Q j d p w M v e x z a V B V A) u λs g c n o q r=>y g s c ⟨n,o.1⟩ (q.mono V) r
end
end
end Go.Proofs.YtkicoahejfbjhaaGreat
