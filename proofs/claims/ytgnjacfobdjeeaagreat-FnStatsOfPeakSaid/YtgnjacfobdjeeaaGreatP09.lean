/- Part of a proof, joined by a program. -/
import Derived.Test.YtgnjacfobdjeeaaGreatP07
import Derived.Test.YtgnjacfobdjeeaaGreatP08
set_option linter.unusedVariables false
set_option linter.unusedSimpArgs false
set_option linter.defProp false
set_option linter.constructorNameAsVariable false
set_option maxHeartbeats 8000000
set_option maxRecDepth 100000
namespace Go.Proofs.YtgnjacfobdjeeaaGreat
open Go.Vc
structure XZ(ds:List bu)(nr:Nat)(v lm:List Int)(b:Bk):Prop where
 aQ:∀o∈lm,0<=o/\o<(v.length:Int)
 lN:lm.length+5*b.w<=1000000
 vN:v.length+5*b.w<=1000000
 wb:WB ds nr False v.length b
def V7(a:List bu)(d:List gB)(b:Bk):Prop:=∀(S:List Nat)(m:J),(∀c∈S,c<m.size)->∀(f r h t g:O)(v c:List Int),eg m f r a d->aq m h v->eD m t b.ar->aq m g c->XZ a d.length v c b->
 mX 238 [.agg #[O.v f,O.v r],O.v h,.agg #[O.v t,vi b.aV],O.v g] m S λe=>WB a d.length True v.length e/\e.w+20<=40*b.w+2*c.length
def Io{q:List Nat}{m:J}(hS:∀c∈q,c<m.size){aj an ax aY L:O}{H:List bu}{rs:List gB}{v:List Int}{x:cK}(hn:eg m aj an H rs)(hv:aq m ax v)(ha:aq m aY x.args)(hk:np m L x.bD)
 (vN:v.length+5*x.w<=1000000)(aP:WS H rs.length False v.length x)(ih:∀h∈x.bD,V7 H rs h):
 IY 258 [.agg #[O.v aj,O.v an],O.v ax,oG x aY L] m q λx'=>WS H rs.length True v.length x'/\x'.op=x.op/\x'.w<=1+x.args.length+40*bw x.bD:=by
 apply BH
 simp -zeta only[aC,aB]
 intro G e o a5
 obtain⟨Q,I,s0,s1,s2⟩:=pH (a:=G) (b:=e) (c:=o) rfl rfl rfl
 have a_:N o a5:=N.push _ _
 have gk:=GB.new (e.size::q) o
 clear_value o
 have bs:=ha.len;have bk:=hk.len;have hw:=cK.lO x;have bE:=Je x.bD;have bo:=hv.len
 have aN:∀c∈e.size::q,c<o.size:=bP hS Q.size (I _ aJ)
 refine(gN (e:=[o.size]) (by simp[a5]) (hn.le (Q.trans a_).le).aT hn.types x.bL).aK a_ I λc cl m4 d aS x4 u4=>⟨_,rfl,?_⟩
 subst aS
 have bF:=d.len
 refine dS (n:=x.bD.length) (bk▸hk.gV) (λj s M=>Fz [o.size] m4 M/\(s.E=o.size\/m4.size<=s.E)/\∃r,GB (e.size::q) o M s r/\r.length=j/\(∀(aa:Nat)(h:Bk),r[aa]? =some h->WB H rs.length True (v.length+AG H x.op x.bL aa) h)/\bw r<=40*bw (x.bD.take j)) ⟨Fz.az _ _,Or.inl rfl,[],gk.ext qO.mono x4,rfl,aJ,aJ⟩ ?_
 rintro j s m5 aX μ hj ⟨f5,bm,r,F,bH,a4,a0⟩ bq
 have P:=Uc u4 f5 (ad _)
 have hy:=F.be
 refine dit (λy=>?_) λy=>?_
 ·intro m6
  have x6:N m5 m6:=N.push _ _
  have u6:=P.trans x6
  obtain⟨h,R⟩:=ag (l:=x.bD) (k:=j) V
  have bz:=we R
  have bD:=tL R
  have bt:=O8 hn.types x.op x.bL j
  have bx:=pI x.bD
  refine⟨λaZ M=>N m5 M/\∃D,aq M aZ D/\D.length=AG H x.op x.bL j,⟨λh8=>?_,λh8=>?_⟩,?_⟩
  ·simp only[aE]at h8
   have i:=(aP.eO.all h8).1
   obtain⟨f,a⟩:=ag (l:=cg H x.bL) (k:=j) V
   refine⟨V,V,f,(dV.1 ((d.le ((f5.then x6).cW aJ)).D a)).2,?_⟩
   refine(dC (e:=[]) aJ ((hn.le (Q.trans u6).le).aT.le (zc _)) hn.types f).aK u6 I λaZ D m7 hf aS g p=>⟨_,rfl,x6.trans g,D,hf.le (bG _ _),?_⟩
   subst aS;exact(Jb h8 a).symm
  ·simp only[ak]at h8
   exact⟨x6,[],lZ _ _ _ _ _ _,(Jc h8).symm⟩
  rintro fs m8 ⟨U,D,hf,a2⟩
  have u8:=P.trans U
  have e8:(ax.len:Int)=((v.length:Nat):Int):=by rw[bo]
  rw[e8]
  refine(qW (S:=[]) aJ (hf.le (zc _)) v.length V).aK u8 I λmi ml A gm qm W u9=>⟨_,rfl,?_⟩
  obtain⟨aV,hs,e0,e1⟩:=hk.D R
  have v9:=Q.trans u9
  refine⟨V,V,_,v9.af e0,_,v9.af e1,?_⟩
  have z5:=P.size
  have g9:=F.ext qO.mono (U.trans W)
  have a3:∀{M:J},N A M->aq M mi ml:=λy=>((gm.done aJ (by have:=qm.2;omega)).le (bG _ _)).ext y
  have bI:=qm.2
  have E5:∀{M f:J},N o M->N o f->∀{a6:Prop},a6->af f L.E (L.off+Int.toNat (j:Int)*2)=af M L.E (L.off+Int.toNat (j:Int)*2)/\af f L.E (L.off+Int.toNat (j:Int)*2+1)=af M L.E (L.off+Int.toNat (j:Int)*2+1)/\
   af f G.size 4=af M G.size 4/\af f m.size 0=af M m.size 0/\af f m.size 1=af M m.size 1/\a6:=λ{M f} y h' _ hp=>by
   have aG:∀h,h<o.size->∀B,af f h B=af M h B:=λh R B=>aM (by rw[h'.same h R,y.same h R]) B
   exact⟨((Q.trans h').af e0).trans ((Q.trans y).af e0).symm,((Q.trans h').af e1).trans ((Q.trans y).af e1).symm,aG _ V _,aG _ V _,aG _ V _,hp⟩
  have ap:∀{M:J},N m5 M->∀c∈s.E::e.size::q,c<M.size:=λy c d=>by
   have:=y.size;rcases List.mem_cons.1 d with g|g
   ·omega
   ·have:=aN c g;omega
  have hL:∀{M:J}{a:Nat},N m5 M->a<M.size->∀c∈[a,e.size,G.size,m.size],c<M.size:=λy R c d=>by
   rcases List.mem_cons.1 d with g|g
   ·omega
   ·exact(P.trans y).lt (I c g)
  have tail:∀(M:J)(a:Nat)(T:O)(i:Bk),GB (a::e.size::q) o M s r->N m5 M->N A M->A.size<=a->a<M.size->eD (bM (a::s.E::e.size::q) M) T i.ar->WB H rs.length True (v.length+D.length) i/\i.w+20<=40*h.w+2*ml.length->
   let p:J:=ah M a 0 [.s T,.i i.aV]
   aL cp 255 [vi (14:Int),O.v mi] p λrv t=>dR [a,e.size,G.size,m.size] p t/\∃ab:O,rv=O.v ab/\af t a 1=af p a 1/\af t a 0=af p a 0/\
    jh t fJ [.i (0:Int),.i (0:Int),.i (0:Int),.s O.nil,.s O.nil] 72 ab T λau z=>dR [a,e.size,G.size,m.size] t z/\af z a 1=af t a 1/\
     let M4:J:=z.push (.cells (bC [.s au,.i i.aV]) da)
     jh M4 da [.s O.nil,.i (0:Int)] 32 s (O.mk z.size 0 1 1) λac Z=>dR [a,e.size,G.size,m.size] M4 Z/\aX ac (cR ((j:Int)+(1:Int))) Z/\μ ac (cR ((j:Int)+(1:Int))) Z<μ s j m5:=by
   intro M a T i F K bp bj bv al hq p
   have z1:p.size=M.size:=ay _ _ _ _
   have z9:=(U.trans W).size
   have ba:N A p:=bp.ah bj _ _
   have X:N m5 p:=(U.trans W).trans ba
   have bl:s.E≠a:=V
   have g1:GB (e.size::q) o p s r:=F.re qO.mono (Y:=[a]) ((Fz.az [a] M).ah (Or.inl aJ) _ _) aJ (by simpa using bl) λc d=>Or.inl (ai _ d)
   have bn:eD (bM (s.E::e.size::q) p) T i.ar:=al.le (cv aJ λc d=>ai _ d)
   have bB:=Bk.lO i;have a0:=fH i.ar
   refine(eI (c:=s.E::e.size::q) (ap X) 14 (a3 ba) V).aK (N.az p) (hL X V) λab _ t aK g ao _=>⟨_,rfl,aM (ao.same _ V) _,aM (ao.same _ V) _,?_⟩
   subst g
   have z2:=ao.size
   refine GS.all aK (ao.fz []) (bn.le (sC ao aK.be.1)) bR λau z be bd bL a7=>?_
   have ae:N p z:=bd.ext
   have z3:=ae.size
   have bJ:=aK.be
   refine⟨λc d=>a7 c (by have:=hL X (a:=a) V c d;omega) (by have:=hL X (a:=a) V c d;omega),aM (a7 _ V V) _,?_⟩
   intro M4
   have bg:=be.done gG.mono (ap X) bh bR
   refine GB.jY (c:=.mk (ml.map (eN 14)++i.ar) i.aV) (g1.ext qO.mono ae) ((((P.trans X).trans ae)).fz []) bg V λac Z bf br bc a8=>⟨λc d=>?_,bq V _ _ ⟨(f5.then (X.trans ae)).Mx bm bc.1 a8,?_,_,bf,bR,λaa b2 u=>?_,?_⟩⟩
   ·have:=hL (X.trans ae) (a:=a) V c d
    rw[a8 c this (by simp at d;omega),(N.push z _).same c this]
   ·have h1:=(f5.then (X.trans ae)).size
    rcases bc.2 with g|g<;>omega
   ·rcases bA aa r.length with w|w
    ·rw[aw w]at u;exact a4 aa b2 u
    ·rw[aF w]at u
     have:aa -r.length=0:=by have:=aD u;simp at this;omega
     rw[this]at u;simp at u;subst u
     have:aa=j:=V
     subst this
     rw[<-a2]
     refine WB.of ((qT V λB ho=>?_).append ?_) ?_
     ·have:=qm.1 B ho;omega
     ·rw[js V];exact hq.1.bd.1
     ·rw[cL,js V,cO];exact hq.1.bd.2
   ·rw[oh,tK,yN,Bk.pW,dq,nO]
    have:=hq.2;omega
  have a1:∀(M:J)(aI:List Nat)(aH:Value->J->Prop),N A M->(∀c∈aI,c<M.size)->(∀s f,aq f s (v++D)->N M f->aH (O.v s) f)->aL cp 213 [O.v ax,O.v fs] M λv m'=>dR aI M m'/\aH v m':=λM aI aH K hL hK=>
   (eB (S:=[]) aJ ((hv.ext (v9.trans K)).le (zc _)) ((hf.ext (W.trans K)).le (zc _)) V).aK (N.az M) hL λs ll f F g x _=>hK s f (by subst g;exact(F.done aJ bR).le (bG _ _)) x
  have E:∀(M:J)(S':List Nat)(w:O),(∀c∈S',c<M.size)->N A M->aq M w (v++D)->mX 238 [.agg #[O.v aj,O.v an],O.v w,.agg #[O.v aV,vi h.aV],O.v mi] M S' λi=>WB H rs.length True (v.length+D.length) i/\i.w+20<=40*h.w+2*ml.length:=by
   intro M S' w bi K u;have hm:=v9.trans K;have:=ih h (av R) S' M bi aj an w aV mi (v++D) ml (hn.le hm.le) u (hs.le hm.le) (a3 K) ⟨λB ho=>?_,V,bR,by simp;rw[a2];exact aP.bD j h R⟩
   ·simpa using this
   ·have:=qm.1 B ho;simp;omega
  have gW:∀(M:J)(a:Nat)(w:O),GB (a::e.size::q) o M s r->N A M->A.size<=a->a<M.size->aq M w (v++D)->
   aL cp 238 [.agg #[O.v aj,O.v an],O.v w,.agg #[O.v aV,vi h.aV],O.v mi] M λrv f=>dR [a,e.size,G.size,m.size] M f/\∃aT:O,∃aU:Int,rv=.agg #[O.v aT,vi aU]/\
    let p:J:=ah f a 0 [.s aT,.i aU]
    aL cp 255 [vi (14:Int),O.v mi] p λrv t=>dR [a,e.size,G.size,m.size] p t/\∃ab:O,rv=O.v ab/\af t a 1=af p a 1/\af t a 0=af p a 0/\
     jh t fJ [.i (0:Int),.i (0:Int),.i (0:Int),.s O.nil,.s O.nil] 72 ab aT λau z=>dR [a,e.size,G.size,m.size] t z/\af z a 1=af t a 1/\
      let M4:J:=z.push (.cells (bC [.s au,.i aU]) da)
      jh M4 da [.s O.nil,.i (0:Int)] 32 s (O.mk z.size 0 1 1) λac Z=>dR [a,e.size,G.size,m.size] M4 Z/\aX ac (cR ((j:Int)+(1:Int))) Z/\μ ac (cR ((j:Int)+(1:Int))) Z<μ s j m5:=by
   intro M a w F K h1 h2 h3
   have x5:=(U.trans W).trans K
   have z9:=(U.trans W).size
   refine(E M (a::s.E::e.size::q) w (λc d=>?_) K h3).aK (N.az M) (hL x5 h2) λT i f al hq ar _=>⟨_,_,rfl,tail f a T i (F.ext qO.mono ar) (x5.trans ar) (K.trans ar) h1 (ar.lt h2) al hq⟩
   rcases List.mem_cons.1 d with g|g
   ·omega
   ·exact ap x5 c g
  have aR:∀(M:J)(B:Obj),GB (e.size::q) o M s r->GB (M.size::e.size::q) o (M.push B) s r:=λM B F=>
   F.re qO.mono (Y:=[]) ((N.push M B).fz []) aJ aJ λc d=>by
    rcases List.mem_cons.1 d with g|g
    ·exact Or.inr V
    ·exact Or.inl g
  refine⟨a1 A _ _ (N.az _) (λc d=>u9.lt (I c d)) λw aQ u C=>⟨_,rfl,E5 u9 (u9.trans C) ⟨?_,?_⟩⟩,?_⟩
  ·have am:=u9.trans C
   have yz:=C.size
   refine(E aQ (s.E::e.size::q) w (ap ((U.trans W).trans C)) C u).aK am I λT i aA al hq az a9=>⟨_,_,rfl,?_⟩
   intro aW
   have bK:=az.size
   exact E5 a9 (a9.aN _) (tail aW aA.size T i (aR aA _ ((g9.ext qO.mono C).ext qO.mono az)) ((((U.trans W).trans C).trans az).aN _) ((C.trans az).aN _) V (by simp[aW]) (al.le (sC (N.push aA _) (ad _))) hq)
  ·intro az
   have am:=u9.trans C
   have yz:=C.size
   exact E5 am (am.aN _) (gW az aQ.size w (aR aQ _ (g9.ext qO.mono C)) (C.aN _) V (by simp[az]) (u.ext (N.push _ _)))
  ·intro am
   have az:N A am:=N.push _ _
   have aW:N o am:=u9.trans az
   refine E5 u9 aW (a1 am _ _ az (hL ((U.trans W).trans az) (by simp[am])) λw a9 u aA=>⟨_,rfl,E5 aW (aW.trans aA) ?_⟩)
   exact gW a9 A.size w ((aR A _ g9).ext qO.mono aA) (az.trans aA) (ad _) (aA.lt (by simp[am])) u
 ·have f:r.length=x.bD.length:=V
  rw[cN V]at a0
  refine(bN (e.size::q) (ha.ext (Q.trans P)) V).aK P I λi p m6 a g x6 u6=>⟨_,rfl,aM (x6.same _ (P.lt (I _ aJ))) _,aM (x6.same _ (P.lt (I _ aJ))) _,?_⟩
  subst g
  intro m7
  refine⟨i,s,⟨x.op,x.bL,0,x.args,r⟩,rfl,?_,?_,⟨aP.Od (λy=>y.elim) ⟨V,V⟩ f a4,rfl,?_⟩,(Q.trans u6).ah V _ _⟩
  ·exact(a.done (λc d=>aO (aN c d) P.size) V).le (cv aJ λc d=>ai _ d)
  ·exact np.le (cv aJ λc d=>ai _ d) ((F.ext qO.mono x6).done qO.mono aN bh (by have:=pI x.bD;show r.length<=_;omega))
  ·rw[cK.lO]
   simp only
   omega
structure LB(ds:List bu)(nr:Nat)(S:List Nat)(m2 M:J)(v lm:List Int)(ar:List cK)(k:Nat)(st inn ow:O):Prop where
 x:N m2 M
 hs:∃l,GS (inn.E::ow.E::S) m2 M st l/\WL ds nr True v.length l/\dc l=dc (ar.take k)/\sw l+2*k<=40*sw (ar.take k)
 hi:∃l,GI S m2 M inn l/\l.length=v.length+dc (ar.take k)
 ho:∃l,GI S m2 M ow l/\l.length<=lm.length+k/\∀o∈l,0<=o/\o<((v.length+dc (ar.take k):Nat):Int)
 ne:inn.E≠ow.E
def Gz{F:List bu}{H:List gB}:∀r:Bk,V7 F H r:=by
 refine Bk.ind ?_;intro ar C ih m E hS bg bT cm cl ci I lm hn hv hs bv hp;have ax:=hp.wb.bd;have hw:=Bk.pW ar C;simp only[Bk.jq,Bk.iH]at*;have lN:=hp.lN;have vN:=hp.vN;rw[hw]at lN vN;apply zT;simp -zeta only[aC,aB];intro q d f ae;obtain⟨D,w,s0,s1,s2⟩:=pH (a:=q) (b:=d) (c:=f) rfl rfl rfl;have aP:N f ae:=N.push _ _;have aY:∀K,GS K f ae (.mk f.size 0 0 0) []:=λK=>GS.new K f;have s3:ae.size=f.size+1:=by simp[ae]
 clear_value ae;clear_value f;have bE:=hs.len;have bH:=Aw ar;have b5:=fH ar;refine(bN m (hv.ext (D.trans aP)) V).aK aP w λg _ m4 t e x4 u4=>⟨_,rfl,?_⟩;subst e;refine(bN m (bv.ext (D.trans u4)) V).aK u4 w λj _ m5 B e x5 u5=>⟨_,rfl,?_⟩;subst e;have a7:=t.be;have bK:=B.be;refine Qc (n:=ar.length) (bE▸hs.gV) (λi v g j a=>LB F H.length (d.size::m) f a I lm ar i v g j) ⟨u5,⟨[],((aY _).ext gG.mono x4).ext gG.mono x5,WL.nil _ _ _ _,rfl,aJ⟩,⟨I,((t.ext x5).ct (λ_ h=>h) aP.size).any,aJ⟩,⟨lm,(B.ct (λ_ h=>h) u4.size).any,V,by simpa using hp.aQ⟩,V⟩ ?_;clear t B a7 bK aY;rintro i v g j u bc μ hk ⟨Z,⟨U,L,az,R,b6⟩,⟨li,t,ap⟩,⟨lo,B,bW,a3⟩,a5⟩ bQ
 have v6:=D.trans Z;have bZ:=t.len bh;have bX:=sq (ar.take i);have b1:=pX i ar;have P:∀c∈d.size::m,c<f.size:=bP hS D.size (w _ aJ);have cf:=L.be;have a7:=t.be;have ce:=B.be;have bF:=fH (ar.take i);have b0:i<=sw (ar.take i):=by rw[gU]at bF;omega
 have b2:=fH U;have z6:=Z.size;have am:∀{a:J},GI (d.size::m) f a g li->aq a g li:=λs=>(s.done P V).le (bG _ _);have a1:∀{a:J},GI (d.size::m) f a j lo->aq a j lo:=λs=>(s.done P V).le (bG _ _);have Q:∀{a:J}{K:List Nat},u.size<=a.size->(∀c∈K,c<a.size)->∀c∈K++d.size::m,c<a.size:=λh hb c b=>by
  rcases List.mem_append.1 b with h|h
  ·exact hb c h
  ·have:=P c h;omega
 have aZ:∀{a:J},N u a->∀c∈[d.size,q.size,E.size],c<a.size:=λh c b=>(Z.trans h).lt (w c b);have bx:v.E≠g.E:=L.JJ t bh;have a6:v.E≠j.E:=L.JJ B bh;refine dit (λh=>?_) λh=>?_
 ·obtain⟨aj,y⟩:=ag (l:=ar) (k:=i) V;obtain⟨bf,kk,ha,a2,g0,g1,g2,g3,g4⟩:=hs.D y;refine⟨V,V,_,v6.af g0,_,v6.af g1,_,v6.af g2,_,v6.af g3,_,v6.af g4,?_⟩;intro m7 A;have x8:N u A:=(N.push u _).ah (ad _) _ _;have s8:A.size=u.size+1:=by simp[A,m7,ay]
  clear_value A;have u8:=Z.trans x8;have z:∀{a:J},A.size<=a.size->∀r∈[u.size,d.size,q.size,E.size],r<a.size:=λh r hb=>by
   rcases List.mem_cons.1 hb with e|e
   ·omega
   ·have:=u8.lt (w r e);omega
  have cb:=pu y;have b9:=qd y;have b_:=cK.lO aj;have ab:WS F H.length False li.length aj:=by rw[ap];exact ax.1 i aj y
  have a0:=Yn ab;have b7:=bH (i+1);have aa:∀{a:J},N f a->At a bg bT bf kk F H aj:=λh=>⟨hn.le (D.trans h).le,ha.ext (D.trans h),ab.eO.call⟩;refine(nJ (aa u8).Pv (am (t.ext x8)) (aa u8).args (a2.le (D.trans u8).le) V λr _=>mR r).aK (N.az A) (z (ad _)) λty m9 x9 _=>⟨_,rfl,?_⟩;have X9:=u8.trans x9;have z9:=x9.size;refine(xU (b:=[]) aJ (aa X9) (am ((t.ext x8).ext x9)) ab.eO.args V).aK (N.az m9) (z V) λdu dl bL bp a_ aN _=>⟨_,rfl,?_⟩;have bV:=a_.2;have yz:=aN.size;refine(eI (c:=[v.E,g.E,j.E]++d.size::m) (Q V bR) 14 ((bp.done aJ V).le (bG _ _)) V).aK (N.az bL) (z V) λcj _ aA bm e aO _=>⟨_,rfl,?_⟩;subst e;have bd:=(X9.trans aN).trans aO;have cn:=aO.size;have aQ:N u aA:=(((x8.trans x9).trans aN).trans aO);refine GS.all (L.ext gG.mono aQ) (bd.fz []) (bm.done gG.mono (Q (K:=[v.E,g.E,j.E]) V bR) bh bR) bR λaH a8 aT bi ba aD=>⟨λc b=>aD c (z V c b) ?_,?_⟩
  ·simp at b;omega
  have al:N f a8:=bi.ext;have aV:=(t.ext aQ).iL (aD _ V bx.symm);have bq:=(B.ext aQ).iL (aD _ V a6.symm);have b3:aH.E=v.E\/aA.size<=aH.E:=ba.2;have cc:=aT.be;have co:=ba.1;refine(Io (q:=[aH.E,g.E,j.E]++d.size::m) (Q V bR) (aa al).Pv (am aV) (aa al).args (a2.le (D.trans al).le) V ab (ih aj (av y))).aK (N.az a8) (z V) λca ck X a9 bs bt bS ak _=>⟨_,_,_,_,_,rfl,?_⟩;obtain⟨bI,bB,b8⟩:=bS;have be:=al.trans ak;have cq:=ak.size;refine GS.jY (x:=X) (aT.ext gG.mono ak) (be.fz []) bs bt bR λG an au bj bb aE=>⟨λc b=>?_,?_⟩
  ·have:=z (a:=a9) V c b;rw[aE c this (by simp at b;omega),(N.push a9 _).same c this]
  have aS:N f an:=bj.ext;have cr:=bb.1;have aW:=(aV.ext ak).iL (aE _ V V);have aw:=(bq.ext ak).iL (aE _ V V);have b4:G.E=v.E\/aA.size<=G.E:=by have:=bb.2;omega
  have B1:WL F H.length True I.length (U++dl.map (eN 14)++[X])/\dc (U++dl.map (eN 14)++[X])=dc (ar.take (i+1))/\sw (U++dl.map (eN 14)++[X])+2*(i+1)<=40*sw (ar.take (i+1)):=by
   have bY:dn X=1:=by unfold dn at a0⊢;rw[bB];exact a0
   have d1:dc (dl.map (eN 14))=0:=js V _;refine⟨((az.append (qT V λo p=>?_)).zp ?_),?_,?_⟩
   ·rw[R,<-ap];exact ab.eO.args o (a_.1 o p)
   ·rw[cL,d1,R,jF,<-ap];exact bI
   ·rw[cL,cL,d1,R,jR,sA];omega
   ·rw[dq,dq,nO,mh,uH];omega
  have a4:∀o∈lo,0<=o/\o<((I.length+dc (ar.take (i+1)):Nat):Int):=λo p=>by
   have:=a3 o p;omega
  have aX:∀(a:J)(W:O)(ac:List Int),N f a->A.size<=a.size->GS (g.E::W.E::d.size::m) f a G (U++dl.map (eN 14)++[X])->GI (d.size::m) f a g li->GI (d.size::m) f a W ac->g.E≠W.E->ac.length<=lm.length+(i+1)->(∀o∈ac,0<=o/\o<((I.length+dc (ar.take (i+1)):Nat):Int))->
   jh (a.push (.cells (bC [.i ty]) aI)) aI [.i (0:Int)] 8 g (O.mk a.size 0 1 1) λaK M'=>dR [u.size,d.size,q.size,E.size] (a.push (.cells (bC [.i ty]) aI)) M'/\bc G aK W (cR ((i:Int)+(1:Int))) M'/\μ G aK W (cR ((i:Int)+(1:Int))) M'<μ v g j i u:=by
   intro a W ac y T s gI gO bw br bD
   have cd:=gI.be;have bJ:=gO.be
   have bA:G.E≠g.E:=s.JJ gI bh
   refine GI.jY gI (y.fz []) P V λaK M' bo bl aR aG=>⟨λc b=>?_,bQ V _ _ _ _ ⟨bl.ext,⟨_,s.re gG.mono (Y:=[g.E]) ⟨aR.1,λc b hn=>aG c b (by simpa using hn)⟩ aJ (by simpa using bA) (λc b=>?_),B1.1,B1.2.1,B1.2.2⟩,⟨_,bo,bR⟩,⟨ac,gO.iL (aG _ bJ.2 bw.symm),br,bD⟩,?_⟩⟩
   ·have:=z T c b
    rw[aG c this (by simp at b;omega),(N.push a _).same c this]
   ·simp only[aU]at b⊢
    rcases b with h|h|h
    ·rcases aR.2 with e|e
     ·exact Or.inl (Or.inl (h.trans e))
     ·exact Or.inr V
    ·exact Or.inl (Or.inr (Or.inl h))
    ·exact Or.inl (Or.inr (Or.inr h))
   ·rcases aR.2 with e|e<;>omega
  refine⟨λ_=>?_,λ_=>?_⟩
  ·intro cg;have bz:G.E≠j.E:=au.JJ aw bh;refine GI.jY aw (aS.fz []) P V λbU bO bn bk ao aF=>⟨λc b=>?_,?_⟩
   ·have:=z (a:=an) V c b;rw[aF c this (by simp at b;omega),(N.push an _).same c this]
   intro ch;have cs:=ao.1;refine aX bO bU _ bk.ext V (au.re gG.mono (Y:=[j.E]) ⟨ao.1,λc b hn=>aF c b (by simpa using hn)⟩ aJ (by simpa using bz) λc b=>?_) (aW.iL (aF _ V a5)) bn ?_ bR ?_
   ·simp only[cA,dN,aU]at b⊢;rcases b with h|h|h
    ·exact Or.inl (Or.inl h)
    ·rcases ao.2 with e|e
     ·exact Or.inl (Or.inr (Or.inl (h.trans e)))
     ·exact Or.inr V
    ·exact Or.inl (Or.inr (Or.inr h))
   ·rcases ao.2 with e|e<;>omega
   ·intro o p;rcases List.mem_append.1 p with p|p
    ·exact a4 o p
    ·simp at p;omega
  ·intro ao;exact aX an j lo aS V au aW aw a5 V a4
 ·have aw:i=ar.length:=V;subst aw;rw[fE]at*;have an:∀(a:J)(aa:O)(G:List cK),N f a->u.size<=a.size->GS (g.E::j.E::d.size::m) f a aa G->aq a j lo->WL F H.length True I.length G->dc G=dc ar->sw G+2*ar.length<=40*sw ar+2->
   aL cp 255 [vi (15:Int),O.v j] a λrv A=>dR [d.size,q.size,E.size] a A/\∃aj:O,rv=O.v aj/\af A q.size 1=af a q.size 1/\
    jh A fJ [.i (0:Int),.i (0:Int),.i (0:Int),.s O.nil,.s O.nil] 72 aa aj λab M2=>dR [d.size,q.size,E.size] A M2/\af M2 q.size 1=af A q.size 1/\
     let W:J:=ah M2 d.size 0 [.s ab,.i C]
     ∃ao r,Value.agg #[O.v ab,vi C]=.agg #[O.v ao,vi r.aV]/\eD (bM m W) ao r.ar/\(WB F H.length True I.length r/\r.w+20<=40*(Bk.mk ar C).w+2*lm.length)/\N E W:=by
   intro a aa G y T s p aF al aH
   have hy:=s.be
   have aG:=fH G
   have aE:q.size<a.size:=y.lt (w _ aJ)
   refine(eI (c:=[aa.E,g.E,j.E]++d.size::m) (Q T bR) 15 p V).aK y w λaj _ A au e z u1=>⟨_,rfl,aM (z.same _ aE) _,?_⟩
   subst e
   have z1:=z.size
   have aA:∀c∈[d.size,q.size,E.size],c<A.size:=λc b=>u1.lt (w c b)
   have aD:∀c∈[d.size,q.size,E.size],c<f.size:=w
   refine GS.all (s.ext gG.mono z) (u1.fz []) (au.done gG.mono (Q (K:=[aa.E,g.E,j.E]) T bR) bh bR) bR λab M2 g2 ac ak X=>⟨λc b=>X c (aA c b) (by have:=aD c b;omega),aM (X _ V V) _,?_⟩
   intro W
   refine⟨ab,.mk _ C,rfl,eD.le (cv aJ λc b=>ai _ b) ((g2.re gG.mono (S':=d.size::m) (Y:=[]) (Fz.az _ _) aJ aJ (λc b=>Or.inl (ai _ (ai _ b)))).done gG.mono P bh bR),⟨WB.of (aF.append (qT V λo p=>?_)) ?_,?_⟩,(D.trans ac.ext).ah V _ _⟩
   ·have:=a3 o p;rw[al];exact this
   ·rw[cL,js V,al];exact ax.2
   ·rw[Bk.pW,Bk.pW,dq,nO];omega
  obtain⟨ak,T⟩:=ag (l:=li) (k:=C.toNat) V;refine⟨V,V,ak,(am t).D T,λ_=>?_,λ_=>?_⟩
  ·refine(iz (c:=[v.E,g.E,j.E]++d.size::m) (Q (ad _) bR) 14 C).mono λrv A⟨pa,pk,e,h1,h2,z⟩=>?_;subst e;refine⟨z.dv (aZ (N.az _)),_,_,_,_,_,rfl,?_⟩;have z1:=z.size;refine GS.jY (x:=eN 14 C) (L.ext gG.mono z) ((Z.trans z).fz []) h1 h2 V λr' W s ac ak X=>⟨λc b=>?_,an W r' _ ac.ext V s (a1 ((B.ext z).iL (X _ V a6.symm))) (az.zp (CL V (by rw[R];exact ax.2))) ?_ ?_⟩
   ·have:=aZ z c b;have h5:=w c b;rw[X c this V,(N.push A _).same c this]
   ·rw[cL,R];simp[jR,dn,eN,oI]
   ·rw[dq,mh,uH];have h5:(eN 14 C).w=2:=by rw[cK.lO];rfl
    omega
  ·exact an u v U Z (ad _) L (a1 B) az R V
section
variable{b:List Nat}{f d h:J}{p t u s:O}{q:gB}{v:Int}{g e j:Nat}
def mw.mono:nM 1 mw:=⟨λh=>mw.le h _ _,λ⟨_,h,_⟩=>by rw[h];rfl⟩
def hO.mono:nM 3 hO:=⟨λh=>hO.le h _ _,λ⟨_,h,_⟩=>by rw[h];rfl⟩
def fG(x:∀c∈b,c<f.size){aT:O}{j:List bu}(hd:cr f aT j)(y:dI j):aL cp 188 [O.v aT] f λW D=>∃s,W=O.v s/\cr (bM b D) s j/\N f D:=by
 apply zD;intro P;have ae:=hd.len;have ac:=y.len;have w:Gr b f P jw 3 hO (.mk f.size 0 0 0) []:=Gr.new b (ad _) _ _ _;refine dS (n:=j.length) V (λt s M=>N f M/\Gr b f M jw 3 hO s (j.take t)) ⟨N.push _ _,w⟩ ?_;rintro t s d aa μ hk ⟨u,p⟩ T
 have hy:=p.be;refine dit (λo=>?_) λo=>?_
 ·obtain⟨i,q⟩:=ag (l:=j) (k:=t) V;obtain⟨B,C,w,g1,g2⟩:=hd.D q;have af:=C.len;have ab:=kL y q;intro Q;have m:Gr (s.E::b) d Q oC 1 mw (.mk d.size 0 0 0) []:=Gr.new _ (ad _) _ _ _;refine dS (n:=i.cons.length) V (λA c M=>N d M/\Gr (s.E::b) d M oC 1 mw c (i.cons.take A)) ⟨N.push _ _,m⟩ ?_;rintro A c E I2 μ2 hj ⟨v,m⟩ S;have g:=u.trans v;refine⟨V,V,B,g.af g2,dit (λL=>?_) λL=>?_⟩
  ·obtain⟨G,z⟩:=ag (l:=i.cons) (k:=A) V;obtain⟨Y,M,J⟩:=C.D z;have ah:G.length<=3:=(((y.dz t i q).iu V).2.2.2 G (av z)).1;refine⟨V,V,B,g.af g2,V,V,Y,g.af J,?_⟩;have ai:=m.be;refine(bN (c.E::s.E::b) (M.ext g) V).then λZ _ h K e F=>⟨_,rfl,?_⟩;subst e;have X:=v.trans F;intro R;refine Gr.jY (g:=[.s .nil]) mw.mono bh (m.ext mw.mono F) (X.fz []) ⟨Z,rfl,K.done (λe r=>?_) V⟩ bR λU m7 I H _ _=>S V _ _ ⟨H.ext,by rw[bn z];exact I⟩;have:=v.size;simp only[aU]at r;rcases r with o|o|o
   ·omega
   ·omega
   ·have:=x e o;have:=u.size;omega
  ·refine⟨V,V,_,g.af w,V,V,_,g.af g1,?_⟩;intro h;rw[cN V]at m;have F:eK (bM (s.E::b) E) 1 (mw (bM (s.E::b) E)) c i.cons:=m.done mw.mono (λe r=>by
    rcases List.mem_cons.1 r with z|z
    ·omega
    ·have:=x e z;have:=u.size;omega) bh V
   refine Gr.jY (g:=[.i 0,.i 0,.s .nil]) (k:=i) hO.mono bh (p.ext hO.mono v) (g.fz []) ⟨c,rfl,F⟩ bR λU R z r _ _=>T V _ _ ⟨r.ext,by rw[bn q];exact z⟩
 ·rw[cN V]at p;exact⟨s,rfl,p.done hO.mono x bh V,u⟩
def xB(G:∀g∈b,g<f.size){b1:Int}(H:aq f p q.params)(I:aq f t q.cG)(n:q.params.length<=100/\q.cG.length<=100):
 aL cp 227 [.agg #[O.v p,O.v t,vi q.aV,O.v u,vi v],.agg #[O.v s,vi b1]] f λP x=>∃j k,P=.agg #[O.v j,O.v k,vi q.aV,O.v s,vi b1]/\aq (bM b x) j q.params/\aq (bM b x) k q.cG/\N f x:=by
 apply Cf
 simp -zeta only[aC,aB]
 intro K i d
 obtain⟨m,w,S,T,U⟩:=pH (a:=K) (b:=i) (c:=d) rfl rfl rfl
 clear_value d
 have z:∀g∈i.size::b,g<d.size:=bP G m.size (w _ aJ)
 have E:∀{M y:J},N d M->N d y->∀c,c<d.size->∀o,af y c o=af M c o:=λD F c n o=>aM (by rw[F.same c n,D.same c n]) o
 refine(bN (i.size::b) (H.ext m) V).aK (N.az d) w λj _ R B e a _=>⟨_,rfl,E (N.az _) a _ V _,E (N.az _) a _ V _,E (N.az _) a _ V _,E (N.az _) a _ V _,?_⟩
 subst e
 refine(bN (i.size::b) (I.ext (m.trans a)) V).aK a w λk _ L C e Q l=>⟨_,rfl,E a l _ V _,E a l _ V _,E a l _ V _,?_⟩
 subst e
 intro h
 have A:Le (bM (i.size::b) L) (bM b h):=cv aJ λg r=>ai _ r
 exact⟨j,k,rfl,((B.done z V).le (Q.cW _)).le A,(C.done (λg r=>a.lt (z g r)) V).le A,(m.trans l).ah V _ _⟩
abbrev GR(b:List Nat)(a f:J)(s:O)(l:List gB):Prop:=Gr b a f jf 5 ik s l
def vr{L:List Nat}{l M:J}{w h:O}{y:List gB}{o:Bk}{K:J->Prop}(W:∀c∈b,c<l.size)(x:∀c∈L,c<M.size/\c≠g/\c≠h.E)(B:N l M)(z:GR (g::b) l M h y)
 (A:cx M g mN [.s w,.s h])(Z:l.size<=g)(hp:aq M p q.params)(ht:aq M t q.cG)(aa:eD (bM (h.E::g::b) M) s o.ar)(X:q.params.length<=100/\q.cG.length<=100)(hl:y.length<=100)
 (U:∀r d,GR (g::b) l d r (y++[⟨q.params,q.cG,q.aV,o⟩])->cx d g mN [.s w,.s r]->N l d->K d):
 aL cp 227 [.agg #[O.v p,O.v t,vi q.aV,O.v u,vi v],.agg #[O.v s,vi o.aV]] M λH k=>dR L M k/\∃C:O,∃D:O,∃E:Int,∃F:O,∃G:Int,H=.agg #[O.v C,O.v D,vi E,O.v F,vi G]/\af k g 1=af M g 1/\
  let m:J:=k.push (.cells (bC [.s C,.s D,.i E,.s F,.i G]) jf)
  af m g 1=af k g 1/\
  jh m jf [.s O.nil,.s O.nil,.i (0:Int),.s O.nil,.i (0:Int)] 88 h (O.mk k.size 0 1 1) λab n=>dR L m n/\dZ n g 1 1/\
   let d:J:=ah n g 1 [.s ab]
   dR L n d/\K d:=by
 have hy:=z.be
 have Y:=A.lt
 have hz:=B.size
 refine(xB (b:=h.E::g::b) (λc f=>?_) hp ht X).mono λH k⟨p',t',e,R,T,j⟩=>?_
 ·simp only[aU]at f
  rcases f with e|e|e
  ·omega
  ·omega
  ·have:=W c e;omega
 subst e
 refine⟨j.dv λc f=>(x c f).1,_,_,_,_,_,rfl,aM (j.same _ Y) _,?_⟩
 intro m
 refine Gr.box (g:=[.s .nil,.s .nil,.i 0,.s .nil,.i 0]) (j:=1) (i:=[.s w,.s h]) (w:=⟨q.params,q.cG,q.aV,o⟩) ik.mono bh (z.ext ik.mono j) ((B.trans j).fz []) ⟨p',t',s,rfl,R,T,aa.le (j.cW _)⟩ V (A.ext j) aJ bh ⟨Z,aJ⟩ (λc f=>⟨j.lt (x c f).1,(x c f).2⟩) λr m' Q I P z' q'=>U r m' Q I P.ext
def ka{β:Type}{a c:J}{g:O}{l:Nat}{f:J->List Ce->β->Prop}(q:nM l f)(p:a=d.push (.cells (bC []) e))(i:c=a.push (.cells (bC [.s O.nil,.s O.nil]) j))(k:h=ah c a.size 0 [.s g,.s (O.mk d.size 0 0 0)]):
 N d h/\cx h a.size j [.s g,.s (O.mk d.size 0 0 0)]/\Gr b d h e l f (.mk d.size 0 0 0) []/\a.size=d.size+1/\h.size=d.size+2:=by
 subst p
 have n:N (d.push (.cells (bC []) e)) h:=by subst i k;exact(N.push _ _).ah (ad _) _ _
 refine⟨(N.push d _).trans n,?_,(Gr.new b (ad _) e l f).ext q n,aJ,by subst i k;simp[ay]⟩
 have s:cx c (d.push (.cells (bC []) e)).size j [.s O.nil,.s O.nil]:=by rw[i];exact cx.push _ _ _
 rw[k]
 exact cx.ah (m:=c) (o:=0) (r:=[.s g,.s (.mk d.size 0 0 0)]) s
def jW{β:Type}{o b1 r:Nat}{p:J->List Ce->β->Prop}{c A:O}{E:List bu}(F:nM o p)(hz:0<o)(ac:j≠e)(X:∀w∈b,w<f.size)(Y:f.size<=b1/\b1<d.size)(H:N f d)(ak:g=d.size+1)
 (Z:cr (bM (b1::b) d) c E)(hn:A.len=r)(al:r<=1000)(ad:N d h)(U:cx h g j [.s c,.s (O.mk d.size 0 0 0)])(aa:Gr (g::b1::b) d h e o p (.mk d.size 0 0 0) [])(y:Nat->β->Prop)
 {C:(Int->J->Prop)->(Int->J->Nat)->Int->J->Prop}{R:O->O->J->Prop}
 (W:∀D L l q,cr (bM b q) D E->eK (bM b q) o (p (bM b q)) L l->l.length=r->(∀(i:Nat)(x:β),l[i]? =some x->y i x)->N f q->R D L q)
 (T:∀(k:Nat)(M:J)(s:O)(l:List β)(I:Int->J->Prop)(μ:Int->J->Nat),k<r->l.length=k->N d M->Gr (g::b1::b) d M e o p s l->cx M g j [.s c,.s s]->
  (∀u a x,Gr (g::b1::b) d a e o p u (l++[x])->cx a g j [.s c,.s u]->N d a->y k x->I (cR ((k:Int)+1)) a/\μ (cR ((k:Int)+1)) a<μ k M)->C I μ k M):
 ∃(v:Int->J->Prop)(μ0:Int->J->Nat),v (0:Int) h/\(∀(i:Int)(M:J),v i M->
  ((decide (i<(A.len:Int)))=true->C v μ0 i M)/\
  ((decide (i<(A.len:Int)))=false->∃m:O,af M g 0=some (O.v m)/\∃t:O,af M g 1=some (O.v t)/\
   let a:J:=ah M b1 0 [.s m,.s t]
   R m t a)):=by
 refine fB (n:=r) V (λk M=>N d M/\∃s l,Gr (g::b1::b) d M e o p s l/\cx M g j [.s c,.s s]/\l.length=k/\∀(i:Nat)(x:β),l[i]? =some x->y i x) ⟨ad,_,[],aa,U,rfl,aJ⟩ ?_
 rintro k M I μ hk ⟨x,s,l,t,B,ab,G⟩ ae
 refine dit (λS=>?_) λS=>?_
 ·refine T k M s l I μ V ab x t B λu a ag Q P x' K=>ae V _ ⟨x',u,_,Q,P,bR,λi aj m=>?_⟩
  rcases bA i l.length with z|z
  ·rw[aw z]at m;exact G i aj m
  ·rw[aF z]at m
   have:i -l.length=0:=by have:=aD m;simp at this;omega
   rw[this]at m;simp at m;subst m
   have:i=k:=V
   subst this;exact K
 ·refine⟨c,B.bV 0,s,B.bV 1,?_⟩
  intro a
  have K:=t.be
  have z:=t.ne B ac
  have u:Le (bM (g::b1::b) M) (bM b a):=cv aJ λw m=>ai _ (ai _ m)
  refine W c s l a (Z.le ((x.bM λw m=>?_).trans u)) (eK.le (t.ns F (λm=>?_) hz V) u λP ag=>F.le u) V G ((H.trans x).ah Y.1 _ _)
  ·rcases List.mem_cons.1 m with e|e
   ·exact Or.inr V
   ·exact Or.inl e
  ·simp only[aU]at m
   rcases m with e|e|e
   ·exact z e
   ·omega
   ·have:=X _ e;have:=H.size;omega
structure xH(ds:List bu)(rs:List gB)(c:Prop)(W:Nat):Prop where
 iu:0<rs.length
 dz:∀q∈rs,q.params.length<=3/\q.cG.length<=3/\WB ds rs.length c q.params.length q.body/\q.body.w<=W
def ue(h:Nat)(e:List Value)(f:J)(b:List Nat)(g:List bu)(Q:List gB->Prop):Prop:=aL cp h e f λv a=>∃d r c,v=.agg #[O.v d,O.v r]/\eg (bM b a) d r g c/\Q c/\N f a
def Ga{d:List bu}{a b:List gB}{c:Prop}{W:Nat}(j:0<a.length)(f:b.length=a.length)(h:∀(i:Nat)(q:gB),b[i]? =some q->q.params.length<=3/\q.cG.length<=3/\WB d a.length c q.params.length q.body/\q.body.w<=W):xH d b c W:=
 ⟨V,λq g=>by obtain⟨i,e⟩:=List.mem_iff_getElem?.1 g;rw[f];exact h i q e⟩
def GW(I:∀i∈b,i<f.size){e cG:List Int}{L:Int}(E:aq f p e)(J:aq f t cG)(R:e.length<=100):
 ku 239 [.agg #[O.v p,O.v t,vi L,O.v u,vi v]] f b λa=>(∀o∈a,0<=o/\o<(e.length:Int))/\a.length<=e.length:=by
 apply Ad
 simp -zeta only[aC,aB]
 intro c d
 have y:N f c:=N.push _ _
 have D:∀A∈[f.size],A<c.size:=by simp[c]
 have G:GI b c d (.mk c.size 0 0 0) []:=GI.nil b c
 have P:N c d:=N.push _ _
 clear_value d
 clear_value c
 have T:=E.len
 refine dS (n:=e.length) V (λq s M=>N c M/\∃a,GI b c M s a/\(∀o∈a,0<=o/\o<(e.length:Int))/\a.length<=q) ⟨P,[],G,aJ,ad _⟩ ?_
 rintro q s U Q μ S ⟨z,a,j,m,C⟩ r
 have w:=y.trans z
 refine⟨λg=>?_,λg=>?_⟩
 ·simp only[au]at g
  obtain⟨M,K⟩:=ag (l:=e) (k:=q) V
  refine⟨V,V,M,(E.ext w).D K,λ_=>?_,λ_=>r V _ _ ⟨z,a,j,m,V⟩⟩
  refine(dj (J.ext w) q).any.aK z D λA W F x=>⟨_,rfl,λ_=>?_,λ_=>r V _ _ ⟨x,a,j.ext F,m,V⟩⟩
  intro h
  refine GI.jY (j.ext F) (x.fz []) (λi C=>y.lt (I i C)) V λY X H B _ _=>⟨N.nW (x.aN _) B.ext D,r V _ _ ⟨B.ext,_,H,λo i=>?_,bR⟩⟩
  rcases List.mem_append.1 i with i|i
  ·exact m o i
  ·simp at i;omega
 ·exact⟨s,a,rfl,j.ct (λ_ g=>g) y.size,⟨m,by simp at g;omega⟩,w⟩
end
section
variable{a:List Nat}{b:J}{d r:O}{c:List gB}
def Gw(hS:∀e∈a,e<b.size){aa al v:O}{T:List bu}{q:gB}(hn:eg b d r T c)(Y:aq b aa q.params)(ht:aq b al q.cG)(hs:eD b v q.body.ar)(aK:q.params.length<=3)(au:WB T c.length False q.params.length q.body)(hw:q.body.w<=95):
 mX 237 [.agg #[O.v d,O.v r],.agg #[O.v aa,O.v al,vi q.aV,O.v v,vi q.body.aV]] b a λp=>WB T c.length True q.params.length p/\p.w<=1100*q.body.w:=by
 apply zG
 simp -zeta only[aC,aB]
 intro m0 F I
 obtain⟨y,h,s0,s1,s2⟩:=pH (a:=m0) (b:=F) (c:=I) rfl rfl rfl
 clear_value I
 have aL:=Y.len
 have W:∀e∈F.size::a,e<I.size:=bP hS y.size (h _ aJ)
 refine(Cz (S:=[]) aJ (hs.le y.le) _ V).aK (N.az I) h λus ul g hu aN R _=>⟨_,rfl,?_⟩
 have ar:aq g us ul:=hu.le (bG _ _)
 intro u K
 have aE:N g K:=(N.push g _).trans (N.push u _)
 have s4:u.size=g.size+1:=by simp[u]
 have i:GI a g K (.mk g.size 0 0 0) []:=(GI.nil a g).ext (N.push u _)
 have gd:GI a g K (.mk u.size 0 0 0) []:=(GI.nil a u).ct (λ_ U=>U) V
 clear_value K
 have z3:=R.size
 have ao:∀e∈a,e<g.size:=λe f=>by have:=hS e f;have:=y.size;omega
 refine wi (n:=q.params.length) V (λj P sd M=>N g M/\∃m t,GI a g M P m/\GI a g M sd t/\P.E≠sd.E/\(∀o∈m,0<=o/\o<(q.params.length:Int))/\(∀o∈t,0<=o/\o<(q.params.length:Int))/\m.length<=j/\t.length<=j) ⟨aE,[],[],i,gd,bR,aJ,aJ,ad _,ad _⟩ ?_
 rintro j P sd m6 aF μ hk ⟨z,m,t,i,gd,H,D,C,cm,cd⟩ L
 have G:=R.trans z
 have v6:=y.trans G
 refine dit (λU=>?_) λU=>?_
 ·obtain⟨ac,hy⟩:=ag (l:=q.params) (k:=j) V
  have Z:∀{s:List Int},(∀o∈s,0<=o/\o<(q.params.length:Int))->∀o∈s++[(j:Int)],0<=o/\o<(q.params.length:Int):=λh o E=>by
   rcases List.mem_append.1 E with E|E
   ·exact h o E
   ·simp at E;omega
  refine⟨V,V,ac,(Y.ext v6).D hy,λ_=>?_,λ_=>L V _ _ _ ⟨z,m,t,i,gd,H,D,C,V,V⟩⟩
  refine(dj (ht.ext v6) j).any.aK G h λab m7 w u7=>⟨_,rfl,λ_=>?_,λ_=>L V _ _ _ ⟨z.trans w,m,t,i.ext w,gd.ext w,H,D,C,V,V⟩⟩
  refine(dj (ar.ext (z.trans w)) j).any.aK u7 h λab m8 x8 u8=>⟨_,rfl,λ_=>?_,λ_=>?_⟩
  ·have x:=w.trans x8
   intro m9
   exact GI.QB (i.ext x) (gd.ext x) H ((z.trans x).fz []) V λr m' B Q X A=>⟨N.nW ((G.trans x).aN _) (R.trans A.ext) h,L V _ _ _ ⟨A.ext,_,_,B,Q,X,Z D,C,bR,V⟩⟩
  ·have x:=w.trans x8
   intro m9
   exact GI.QB (gd.ext x) (i.ext x) H.symm ((z.trans x).fz []) V λr m' B Q X A=>⟨N.nW ((G.trans x).aN _) (R.trans A.ext) h,L V _ _ _ ⟨A.ext,_,_,Q,B,X.symm,D,Z C,V,bR⟩⟩
 intro A
 have ae:N m6 A:=N.push _ _
 have ab:=G.trans ae
 have ac:=y.trans ab
 have e0:aq A (.mk m6.size 0 0 0) []:=lZ _ _ _ _ _ _
 have aj:∀{M:J}{v:O}{s:List Int},GI a g M v s->s.length<=3->aq M v s:=λB h=>(B.done ao V).le (bG _ _)
 clear_value A
 have aI:=q.body.Fu
 refine(EN q.body (F.size::a) A (λe f=>ab.lt (W e f)) d r aa v P _ q.params m [] (hn.le ac.le) (Y.ext ac) (hs.le ac.le) ((aj i V).ext ae) e0 ⟨D,V,bR,V,au⟩).aK ab h λss p E ap Z aA az=>⟨_,_,rfl,?_⟩
 intro av o
 have af:N E o:=(N.push E _).ah (ad _) _ _
 have aS:o.size=E.size+1:=by simp[o,av,ay]
 clear_value o
 have Q:=az.trans af
 have X:∀e∈[E.size,F.size,m0.size,b.size],e<o.size:=λe f=>by
  rcases List.mem_cons.1 f with x|x
  ·omega
  ·exact Q.lt (h e x)
 have aH:=Bk.lO p;have aG:=fH p.ar
 have aO:=Z.2
 refine(eI (c:=F.size::a) (λe f=>Q.lt (W e f)) 15 ((aj gd V).ext ((ae.trans aA).trans af)) V).aK (N.az o) X λaR _ aP ah x w _=>⟨_,rfl,aM (w.same _ V) _,aM (w.same _ V) _,?_⟩
 subst x
 have aT:=w.size
 have hy:=ah.be
 refine GS.all ah (w.fz []) ((ap.le (af.cW _)).le (sC w hy.1)) bR λax aw an am aU ak=>⟨λe f=>ak e (w.lt (X e f)) (by have:=X e f;omega),aM (ak _ V V) _,?_⟩
 intro aQ
 have aD:N b aw:=(y.trans Q).trans am.ext
 refine⟨ax,.mk _ p.aV,rfl,eD.le (cv aJ λe f=>ai _ f) (an.done gG.mono (λe f=>Q.lt (W e f)) bh bR),⟨WB.of ((qT V C).append ?_) ?_,?_⟩,aD.ah V _ _⟩
 ·rw[js V];exact Z.1.bd.1
 ·rw[cL,js V,cO];exact Z.1.bd.2
 ·rw[Bk.pW,dq,nO];omega
def J6(K:∀e∈a,e<b.size){i:List bu}(o:eg b d r i c)(hk:xH i c False 95):ue 220 [.agg #[O.v d,O.v r]] b a i λy=>xH i y True 104500:=by
 apply Df;simp -zeta only[aC,aB];intro f a2;obtain⟨A,w⟩:=dF (a:=f) (c:=a2) rfl rfl;have s1:f.size=b.size+1:=by simp[f]
 clear_value a2;have ak:=o.ir.len;have au:=o.nR;refine(fG (b:=f.size::a) (bP K A.size (w _ aJ)) (o.le A.le).aT o.types).mono λ_ Q⟨ad,j,ah,B⟩=>?_;subst j;refine⟨B.dv w,_,rfl,?_⟩;intro T ao ac;have u2:=A.trans B;obtain⟨x5,B0,g0,s3,s5⟩:=ka (b:=T.size::f.size::a) ik.mono (d:=Q) (a:=T) (c:=ao) (h:=ac) rfl rfl rfl;clear_value ac;have x:∀e∈[f.size,b.size],e<Q.size:=λe g=>B.lt (w e g);have L:∀e∈f.size::a,e<Q.size:=λe g=>B.lt (bP K A.size (w _ aJ) e g);refine jW (R:=λh p M=>∃d r y,Value.agg #[O.v h,O.v p]=.agg #[O.v d,O.v r]/\eg (bM a M) d r i y/\xH i y True 104500/\N b M) (r:=c.length) (f:=b) (b:=a) ik.mono bh bh K ⟨V,x _ aJ⟩ u2 s3 ah ak V x5 B0 g0 (λ_ q=>q.params.length<=3/\q.cG.length<=3/\WB i c.length True q.params.length q.body/\q.body.w<=104500) (λh u P v Y Z p s t=>⟨h,u,P,rfl,⟨Y,Z,o.types,V⟩,Ga hk.iu p s,t⟩) λan M st P aq μ ai ar C X D ap=>?_
 obtain⟨q,hq⟩:=ag (l:=c) (k:=an) ai;obtain⟨ab,aj,am,hw⟩:=hk.dz q (av hq);have p:=u2.trans C;obtain⟨aw,ax,h,U,W,c3,E,F,H,I,J⟩:=o.ir.D hq;have G:∀{z:Value}{h t:Nat},af b h t=some z->af M h t=some z:=λv=>p.af v;refine⟨st,D.bV 1,V,V,_,G E,_,G F,_,G H,_,G I,_,G J,V,V,_,G E,_,G F,_,G H,_,G I,_,G J,?_⟩;have hy:=X.be;have ae:=D.lt;have zM:=C.size;refine(Gw (a:=st.E::T.size::f.size::a) (λe g=>?_) (o.le p.le) (U.ext p) (W.ext p) (c3.le p.le) ab am hw).aK C x λss b' M1 al aa s u1=>⟨_,_,rfl,?_⟩
 ·simp only[aU]at g;rcases g with j|j|j|j
  ·omega
  ·omega
  ·have:=L e (by simp[j]);omega
  ·have:=L e (by simp[j]);omega
 have u:∀{z:Value}{h t:Nat},af b h t=some z->af M1 h t=af M h t:=λv=>by rw[s.af (G v),G v]
 refine⟨u E,u F,u H,u I,u J,aM (s.same _ (C.lt (x _ aJ))) _,aM (s.same _ ae) _,?_⟩;exact vr (b:=f.size::a) (w:=ad) (y:=P) L (λe g=>by have Y:=x e g;have Z:=u1.size;omega) u1 (X.ext ik.mono s) (D.ext s) V (U.ext (p.trans s)) (W.ext (p.trans s)) al ⟨V,V⟩ V λs' Z g' Y x'=>ap s' Z _ g' Y x' ⟨ab,aj,aa.1,by have:=aa.2;simp only;omega⟩
def OE(L:∀f∈a,f<b.size){t:List bu}(u:eg b d r t c)(hk:xH t c False 95):ue 221 [.agg #[O.v d,O.v r]] b a t λB=>xH t B True 104500:=by
 apply Ip;simp -zeta only[aC,aB];intro p a2;obtain⟨D,y⟩:=dF (a:=p) (c:=a2) rfl rfl;have s1:p.size=b.size+1:=by simp[p]
 clear_value a2;have am:=u.ir.len;have aA:=u.nR;refine(fG (b:=p.size::a) (bP L D.size (y _ aJ)) (u.le D.le).aT u.types).mono λ_ U⟨ah,g,ai,F⟩=>?_;subst g;refine⟨F.dv y,_,rfl,?_⟩;intro A aq ac;have u2:=D.trans F;obtain⟨x5,B0,g0,s3,s5⟩:=ka (b:=A.size::p.size::a) ik.mono (d:=U) (a:=A) (c:=aq) (h:=ac) rfl rfl rfl;clear_value ac;have Q:∀f∈[p.size,b.size],f<U.size:=λf h=>F.lt (y f h);have P:∀f∈p.size::a,f<U.size:=λf h=>F.lt (bP L D.size (y _ aJ) f h);refine jW (R:=λe i M=>∃d r B,Value.agg #[O.v e,O.v i]=.agg #[O.v d,O.v r]/\eg (bM a M) d r t B/\xH t B True 104500/\N b M) (r:=c.length) (f:=b) (b:=a) ik.mono bh bh L ⟨V,Q _ aJ⟩ u2 s3 ai am V x5 B0 g0 (λ_ q=>q.params.length<=3/\q.cG.length<=3/\WB t c.length True q.params.length q.body/\q.body.w<=104500) (λe s T v h1 w i j o=>⟨e,s,T,rfl,⟨h1,w,u.types,V⟩,Ga hk.iu i j,o⟩) λap M st T aw μ aj az Z aa H ar=>?_
 obtain⟨q,hq⟩:=ag (l:=c) (k:=ap) aj;obtain⟨al,ak,ao,hw⟩:=hk.dz q (av hq);have C:=u2.trans Z;obtain⟨au,aE,o,I,c2,c3,e0,e1,e2,e3,e4⟩:=u.ir.D hq;have G:∀{ae:Value}{o v:Nat},af b o v=some ae->af M o v=some ae:=λK=>C.af K;refine⟨V,V,_,G e0,_,G e1,_,G e2,_,G e3,_,G e4,?_⟩;intro m7 j;have hy:=aa.be;have ax:=H.lt;have zM:=Z.size;have Y:N M j:=(N.push M _).ah (ad _) _ _;have s8:j.size=M.size+1:=by simp[j,m7,ay]
 clear_value j;have z:∀f∈[M.size,p.size,b.size],f<j.size:=λf h=>by
  rcases List.mem_cons.1 h with g|g
  ·omega
  ·have:=Q f g;omega
 have W:=C.trans Y;have E:∀{M1 M2:J},N j M1->N j M2->∀o,o<j.size->∀v,af M2 o v=af M1 o v:=λK h' o hb v=>aM (by rw[h'.same o hb,K.same o hb]) v;have i:M.size<j.size:=V;have i1:b.size<j.size:=z _ aJ;have i2:A.size<j.size:=V;refine⟨st,(H.ext Y).bV 1,?_⟩;refine(GW (b:=[]) aJ (I.ext W) (c2.ext W) V).aK (N.az j) z λow lo m9 go ho e _=>⟨_,rfl,E (N.az _) e _ i _,E (N.az _) e _ i _,E (N.az _) e _ i _,E (N.az _) e _ i1 _,E (N.az _) e _ i1 _,E (N.az _) e _ i _,E (N.az _) e _ i _,E (N.az _) e _ i _,E (N.az _) e _ i _,E (N.az _) e _ i _,E (N.az _) e _ i2 _,?_⟩;have X:=W.trans e;have z9:=e.size;have h:=ho.2;refine(Gz q.body (st.E::A.size::p.size::a) m9 (λf h=>?_) d r au o ow q.params lo (u.le X.le) (I.ext X) (c3.le X.le) ((go.done aJ V).le (bG _ _)) ⟨ho.1,V,V,ao⟩).aK e z λss b' aD an ab aF s=>⟨_,_,rfl,E e s _ i _,E e s _ i _,E e s _ i _,E e s _ i _,E e s _ i _,E e s _ i2 _,?_⟩
 ·simp only[aU]at h;rcases h with g|g|g|g
  ·omega
  ·omega
  ·have:=P f (by simp[g]);omega
  ·have:=P f (by simp[g]);omega
 have x:=Y.trans s;have yz:=s.size;exact vr (b:=p.size::a) (w:=ah) (y:=T) P (λf h=>by have h1:=z f h;have w:=Q f;simp only[aU]at h w;rcases h with g|g|g|g<;>first|omega|(have:=w (by simp[g]);omega)|simp at g) (Z.trans x) (aa.ext ik.mono x) (H.ext x) V (I.ext (C.trans x)) (c2.ext (C.trans x)) an ⟨V,V⟩ V λs' M' g' w x'=>ar s' M' _ g' w x' ⟨al,ak,ab.1,by have:=ab.2;simp only;omega⟩
end
section
variable{x:cK}{b:List cK}{m e M:J}{j g f i:O}{c:List Nat}{d h:List Int}{a:Int}{K:O->J->Prop}
def zQ(a k:O)(m:J):dW cp 243 [oG x a k] m (x.op=14\/x.op=15):=by
 apply EX;simp -zeta only[aC,aB];intro c;have b:N m c:=N.push _ _;refine⟨λh=>jM (Or.inl (by simpa using h)) b,λh=>fF ?_ b⟩;simp only[ak]at h;simp only[aE];omega
def VK(b:List cK):Prop:=∀x∈b,x.args.length=1
def yF(b:List cK)(o:Int):Prop:=∃x∈b,o∈x.args
def VK.at(h:VK b){d:Nat}(a:b[d]? =some x):∃y,x.args[0]? =some y/\yF b y:=by
 have e:=h x (av a);obtain⟨y,c⟩:=ag (l:=x.args) (k:=0) V;exact⟨y,c,x,av a,av c⟩
def MV(s:eD m j b)(F:VK b)(L:b.length<=1000000000000)(v:Int):sg 268 [O.v j,vi v] m λd=>-(b.length:Int)<=d/\d<=b.length:=by
 apply GJ;have Q:=s.len;refine dS (n:=b.length) V (λc d M=>N m M/\-(c:Int)<=d/\d<=(c:Int)) ⟨N.az _,V,V⟩ ?_;rintro c d e I μ P ⟨g,H,J⟩ G
 refine⟨λq=>?_,λq=>⟨d,rfl,⟨V,V⟩,g⟩⟩;simp only[au]at q;obtain⟨x,t⟩:=ag (l:=b) (k:=c) V;obtain⟨y,u,_⟩:=F.at t;obtain⟨a,S,r,_,C,_,_,E,_⟩:=s.D t;have K:=r.len;have R:=aD u;have w:=g.af C;have G3:=g.af E;have p:=(r.ext g).D u;have A:cR (d+1)=d+1:=aP V V;have B:cR (d -1)=d -1:=aP V V;rw[A,B];have i:∀f,-((c+1:Nat):Int)<=f->f<=((c+1:Nat):Int)->I f (cR ((c:Int)+1)) e/\μ f (cR ((c:Int)+1)) e<μ d c e:=λf a z=>G V _ _ ⟨g,a,z⟩
 have D:(0:Int)<=(c:Int)/\(c:Int)<(j.len:Int)/\∃h:O,af e j.E (j.off+Int.toNat (c:Int)*5+3)=some (O.v h)/\(0:Int)<=(0:Int)/\(0:Int)<(h.len:Int)/\∃o:Int,af e h.E (h.off+Int.toNat (0:Int)*1)=some (vi o)/\
  ((o==v)=true->I (d -1) (cR ((c:Int)+1)) e/\μ (d -1) (cR ((c:Int)+1)) e<μ d c e)/\((o==v)=false->I d (cR ((c:Int)+1)) e/\μ d (cR ((c:Int)+1)) e<μ d c e):=
  ⟨V,V,a,G3,V,V,y,p,λ_=>i _ V V,λ_=>i _ V V⟩
 exact⟨V,V,a,G3,V,V,y,p,λ_=>⟨V,V,_,w,λ_=>i _ V V,λ_=>D⟩,λ_=>D⟩
def Lb(t:∀g∈c,g<m.size)(w:eD m j b)(p:VK b)(J:b.length<=100000000000):ku 267 [O.v j] m c λd=>(∀o∈d,yF b o)/\d.length<=b.length:=by
 apply Fl;intro Q;have L:=w.len;refine dS (n:=b.length) V (λq s M=>N m M/\∃d,GI c m M s d/\(∀o∈d,yF b o)/\d.length<=q) ⟨N.push m _,[],GI.nil c m,aJ,ad _⟩ ?_;rintro q s e I μ K ⟨f,d,r,y,v⟩ E
 refine⟨λh=>?_,λh=>⟨s,d,rfl,r,⟨y,V⟩,f⟩⟩;simp only[au]at h;obtain⟨x,z⟩:=ag (l:=b) (k:=q) V;obtain⟨B,A,C⟩:=p.at z;obtain⟨a,U,u,_,G,_,_,i,_⟩:=w.D z;have H:=u.len;have P:=aD A;refine⟨V,V,a,f.af i,V,V,B,(u.ext f).D A,?_⟩;refine(lT (S:=c) (λg v=>aO (t g v) f.size) (r.done t V) B V).then λT D R i g F=>⟨_,rfl,E V _ _ ⟨f.trans F,D,i.ct (λ_ h=>h) f.size,λo p=>?_,by have:=g.2;omega⟩⟩;rcases g.1 o p with h|h
 ·exact y o h
 ·subst h;exact C
structure uU(c:List Nat)(m e M:J)(g f i:O)(d lr h:List Int):Prop where
 x:N m M
 gd:GI c m M g d
 gr:GI c m M f lr
 gv:GI [] e M i h
 n1:g.E≠f.E
 n2:g.E≠i.E
 n3:f.E≠i.E
def uU.ext{c:List Nat}{m e M b:J}{g f i:O}{d j h:List Int}(T:uU c m e M g f i d j h)(a:N M b):uU c m e b g f i d j h:=
 ⟨T.x.trans a,T.gd.ext a,T.gr.ext a,T.gv.ext a,T.n1,T.n2,T.n3⟩
def uU.Yg{j:List Int}(T:uU c m e M g f i d j h)(s:∀b∈c,b<m.size)(t:d.length<=1000000000000)(u:∀r b,uU c m e b r f i (d++[a]) j h->K r b):
 jh (M.push (.cells (bC [.i a]) aI)) aI [.i 0] 8 g (.mk M.size 0 1 1) K:=by
 have o:=T.gr.be;have p:=T.gv.be;have v:=T.n1;have w:=T.n2
 refine GI.jY T.gd (T.x.fz []) s t λr b n l z q=>u r b ⟨l.ext,n,T.gr.iL (q _ o.2 T.n1.symm),T.gv.iL (q _ p.2 T.n2.symm),?_,?_,T.n3⟩<;>rcases z.2 with k|k<;>omega
def uU.QB{j:List Int}(T:uU c m e M g f i d j h)(s:∀b∈c,b<m.size)(t:j.length<=1000000000000)(u:∀r b,uU c m e b g r i d (j++[a]) h->K r b):
 jh (M.push (.cells (bC [.i a]) aI)) aI [.i 0] 8 f (.mk M.size 0 1 1) K:=by
 have o:=T.gd.be;have p:=T.gv.be;have v:=T.n1;have w:=T.n3
 refine GI.jY T.gr (T.x.fz []) s t λr b n l z q=>u r b ⟨l.ext,T.gd.iL (q _ o.2 T.n1),n,T.gv.iL (q _ p.2 T.n3.symm),?_,T.n2,?_⟩<;>rcases z.2 with k|k<;>omega
def TN(b:List cK)(d:List cK):Prop:=∃c a:List Int,d=c.map (eN 14)++a.map (eN 15)/\(∀o∈c,yF b o)/\(∀o∈a,yF b o)/\c.length+a.length<=b.length*b.length
def xA(x:∀v∈c,v<m.size)(hl:eD m j b)(a:VK b)(A:b.length<=500000):PU 244 [O.v j] m c (TN b):=by
 apply BV;intro t e;have R:N m e:=(N.push m _).trans (N.push t _);have s1:t.size=m.size+1:=by simp[t]
 have gd:GI c m e (.mk m.size 0 0 0) []:=(GI.nil c m).ext (N.push t _);have X:GI c m e (.mk t.size 0 0 0) []:=(GI.nil c t).ct (λ_ G=>G) V;clear_value e;have ak:b.length*b.length<=250000000000:=bX (KB A A) bh;refine(Lb (c:=[]) aJ (hl.le R.le) a V).then λi h m3 F P U=>⟨_,rfl,?_⟩;have hv:aq m3 i h:=(F.done aJ (by have:=P.2;omega)).le (bG _ _);have ap:=hv.len;have ao:=P.2;have ai:=R.trans U;have ar:=F.be;have ax:=R.size;refine wi (n:=h.length) V (λr g f M=>∃d p,uU c m e M g f i d p h/\(∀o∈d,yF b o)/\(∀o∈p,yF b o)/\d.length+p.length<=r*b.length) ⟨[],[],⟨ai,gd.ext U,X.ext U,F,bR,by have:=gd.be;omega,by have:=X.be;omega⟩,aJ,aJ,aJ⟩ ?_;rintro r g f m4 aj μ hi ⟨d,p,T,hd,hr,Z⟩ af
 have ad:r*b.length<=b.length*b.length:=dp _ V;have H:∀{M:J}{g f:O}{d p:List Int},uU c m e M g f i d p h->aq M i h:=λT=>(T.gv.done aJ V).le (bG _ _);refine dit (λG=>?_) λG=>?_
 ·obtain⟨z,B⟩:=ag (l:=h) (k:=r) V;have ac:=P.1 z (av B);refine⟨V,V,z,(H T).D B,?_⟩;refine(MV (hl.le T.x.le) a V z).then λy m5 hn u=>⟨_,rfl,?_⟩;have an:(r+1)*b.length=r*b.length+b.length:=pE _ _;refine⟨λg q M=>q<=y/\(y<=0->q=y)/\(0<y->0<=q)/\∃I,uU c m e M g f i I p h/\(∀o∈I,yF b o)/\I.length+p.length+q.toNat<=r*b.length+y.toNat,λ_ q _=>q.toNat,⟨V,V,V,d,T.ext u,hd,V⟩,?_⟩;rintro ah q m6 ⟨n1,n2,n3,K,C,aa,al⟩;refine dit (λh1=>?_) λh1=>?_
  ·refine⟨V,V,z,(H C).D B,?_⟩;intro s;have w:cR (q -1)=q -1:=aP V V;rw[w];exact C.Yg x V λQ W D=>⟨⟨V,V,V,_,D,λo a=>by
    rcases List.mem_append.1 a with a|a
    ·exact aa o a
    ·simp at a;subst a;exact ac,bR⟩,by dsimp only;omega⟩
  ·refine⟨λf s M=>q<=s/\s<=0/\∃L,uU c m e M ah f i K L h/\(∀o∈L,yF b o)/\K.length+L.length+(-s).toNat<=r*b.length+b.length,λ_ s _=>(-s).toNat,⟨V,V,p,C,hr,V⟩,?_⟩;rintro aw s m8 ⟨p1,p2,ae,E,ab,am⟩;refine⟨λY=>?_,λY=>?_⟩
   ·simp only[au]at Y;refine⟨V,V,z,(H E).D B,?_⟩;intro m9;have w:cR (s+1)=s+1:=aP V V;rw[w];exact E.QB x V λQ W D=>⟨⟨V,V,_,D,λo a=>by
     rcases List.mem_append.1 a with a|a
     ·exact ab o a
     ·simp at a;subst a;exact ac,bR⟩,by dsimp only;omega⟩
   ·exact af V _ _ _ ⟨K,ae,E,aa,ab,V⟩
 ·have q:∀v∈c,v<m4.size:=λv Z=>by have:=x v Z;have:=T.x.size;omega
  refine(eI (c:=c) q 14 ((T.gd.done x V).le (bG _ _)) V).mono λ_ m5⟨s1,I,o,g1,w,u⟩=>?_;subst o;subst w;refine⟨_,rfl,?_⟩;have z:=T.ext u;have s:=g1.be;refine(eI (c:=s1.E::c) (bP q u.size s.2) 15 ((z.gr.done x V).le (bG _ _)) V).mono λ_ m6⟨L,K,o,g2,B,y⟩=>?_;subst o;subst B;refine⟨_,rfl,?_⟩;refine GS.all (g1.ext gG.mono y) ((u.trans y).fz []) (g2.done gG.mono (bP q u.size s.2) bh bR) bR λQ W D C _ _=>⟨Q,_,rfl,D.ct gG.mono (λE A=>Or.inl A) T.x.size,⟨d,p,rfl,hd,hr,?_⟩,T.x.trans C.ext⟩;have:r*b.length<=b.length*b.length:=ad;omega
end
section
variable{a c:Nat}
def Hc(a b:Nat):a*a+b*b<=(a+b)*(a+b):=by
 rw[gq,Nat.mul_add,Nat.mul_add];omega
def OG{b:Nat}(h:a<=b):a*a<=b*b:=KB h h
structure CN(ds:List bu)(c:Nat)(S:List Nat)(m2 M:J)(a:Nat)(ar:List cK)(k:Nat)(st run:O)(lo lr:List cK)(P:Nat):Prop where
 x:N m2 M
 gs:GS (run.E::S) m2 M st lo
 gr:GS [st.E] m2 M run lr
 wl:WL ds c True a lo
 VM:dc lo=dc (ar.take k)
 ZS:sw lo<=P*P
 P':P+2*lr.length<=sw (ar.take k)
 jZ:VK lr
 VU:∀o,yF lr o->0<=o/\o<((a+dc (ar.take k):Nat):Int)
 ne:st.E≠run.E
def OB{f:List bu}{l b:List cK}(h:TN l b)(e:∀o,yF l o->0<=o/\o<(a:Int)):WL f c True a b/\dc b=0/\sw b<=(2*l.length)*(2*l.length):=by
 obtain⟨k,j,rfl,g,i,m⟩:=h;refine⟨(qT V λo d=>e o (g o d)).append ?_,?_,?_⟩
 ·rw[js V];exact qT V λo d=>e o (i o d)
 ·rw[cL,js V,js V]
 ·rw[dq,nO,nO];have:(2*l.length)*(2*l.length)=4*(l.length*l.length):=by
   rw[Nat.mul_mul_mul_comm]
  omega
def XO(e:List bu)(c:Nat)(b:Bk):Prop:=∀(S:List Nat)(m:J),(∀d∈S,d<m.size)->∀(t:O)(a:Nat),eD m t b.ar->WB e c True a b->b.w<=400000->mX 228 [.agg #[O.v t,vi b.aV]] m S λd=>WB e c True a d/\d.w<=b.w*b.w
def Dc{L:List bu}:∀g:Bk,XO L c g:=by
 refine Bk.ind ?_;intro ar bi ih u K hS bV a hs ba hw;have aL:=ba.bd;rw[Bk.pW]at hw⊢;simp only[Bk.jq,Bk.iH]at*;apply wE;simp -zeta only[aC,aB];intro j m T m3;obtain⟨x1,hl⟩:=dF (a:=j) (c:=m) rfl rfl;have s0:j.size=K.size+1:=by simp[j]
 have s1:m.size=K.size+2:=by simp[m,s0]
 have bm:N m m3:=(N.push m _).trans (N.push T _);have s2:T.size=m.size+1:=by simp[T]
 have a3:∀w,GS w m m3 (.mk m.size 0 0 0) []:=λw=>(GS.new w m).ext gG.mono (N.push T _);have a2:∀w,GS w m m3 (.mk T.size 0 0 0) []:=λw=>(GS.new w T).ct gG.mono (λg p=>Or.inl p) V;clear_value m3;clear_value m;have a_:=hs.len;have aK:=Aw ar;have bC:=fH ar;have aA:∀e∈j.size::u,e<m.size:=bP hS x1.size (hl _ aJ);refine wi (n:=ar.length) (a_▸hs.gV) (λy H B s=>∃lo v P,CN L c (j.size::u) m s a ar y H B lo v P) ⟨[],[],0,bm,a3 _,a2 _,WL.nil _ _ _ _,rfl,aJ,aJ,λ_ h=>by simp at h,λaf⟨_,h,_⟩=>by simp at h,bR⟩ ?_;rintro y H B A bo μ hk ⟨lo,v,P,C⟩ aN
 have W:=C.x;have U:=x1.trans W;have bL:=C.gs.be;have bK:=C.gr.be;have z4:=W.size;have az:=C.P';have bD:=aK y;have bq:P*P<=160000000000:=bX (OG (b:=400000) V) bh;have bB:=fH lo;have a8:=C.ZS;have aH:=C.ne;have O:∀{s:J}{w:List Nat},A.size<=s.size->(∀e∈w,e<s.size)->∀e∈w++j.size::u,e<s.size:=λh p e f=>by
  rcases List.mem_append.1 f with h|h
  ·exact p e h
  ·have:=aA e h;omega
 have aI:∀{s:J},N A s->eD s B v:=λh=>eD.le (bG _ _) ((C.gr.ext gG.mono h).ns gG.mono (by simpa using aH.symm) bh V);refine dit (λh=>?_) λh=>?_
 ·obtain⟨d,hx⟩:=ag (l:=ar) (k:=y) V;obtain⟨pa,pk,ha,ab,g0,g1,g2,g3,g4⟩:=hs.D hx;refine⟨V,V,_,U.af g0,_,U.af g1,_,U.af g2,_,U.af g3,_,U.af g4,?_⟩;intro m5 G;have x6:N A G:=(N.push A _).ah (ad _) _ _;have s6:G.size=A.size+1:=by simp[G,m5,ay]
  clear_value G;have R:∀{s:J},G.size<=s.size->∀g∈[A.size,j.size,K.size],g<s.size:=λh g p=>by
   rcases List.mem_cons.1 p with i|i
   ·omega
   ·have:=hl g i;omega
  have bH:=pu hx;have bF:=qd hx;have bb:=cK.lO d;have Z:=aL.1 y d hx;have bE:=aK (y+1);have bs:=pI d.bD;refine(zQ pa pk G).aK (N.az G) (R (ad _)) λbp m7 a5 x7 _=>⟨_,rfl,λhp=>?_,λhp=>?_⟩
  · -- a pair goes to the run
   have hp:=a5.1 hp;have F:d.args.length=1:=Z.eO.jZ V;have aa:dn d=0:=ae λh:oI d.op=>by have:=h.2;omega
   have D:=x6.trans x7;have Q:=U.trans D;intro m8;have r:Le K (bM (B.E::[H.E]) m7):=(zc K).trans ((Q.fz []).bM aJ λe f=>by simp at f;have:=x1.size;exact Or.inr V);refine GS.jY (x:=d) (C.gr.ext gG.mono D) ((W.trans D).fz []) (ha.le r) (ab.le r) V λa1 M' X E z t=>⟨λe f=>?_,aN V _ _ _ ⟨lo,v++[d],P,E.ext,(C.gs.ext gG.mono D).re gG.mono (Y:=[B.E]) ⟨z.1,λe f o=>t e f (by simpa using o)⟩ aJ (by simpa using aH) (λe f=>?_),X,C.wl,by rw[C.VM];omega,a8,bR,λal q=>?_,λaf I=>?_,?_⟩⟩
   ·have:=R (s:=m7) x7.size e f;rw[t e this (by simp at f;omega),(N.push m7 _).same e this]
   ·rcases List.mem_cons.1 f with i|i
    ·rcases z.2 with o|o
     ·exact Or.inl (by rw[i,o];exact aX)
     ·exact Or.inr V
    ·exact Or.inl (ai _ i)
   ·rcases List.mem_append.1 q with q|q
    ·exact C.jZ al q
    ·simp at q;subst q;exact F
   ·obtain⟨al,q,o⟩:=I;have i:dc (ar.take (y+1))=dc (ar.take y):=V;rw[i];rcases List.mem_append.1 q with q|q
    ·exact C.VU af ⟨al,q,o⟩
    ·simp at q;subst q;exact Z.eO.args af o
   ·have:=(C.gs.ext gG.mono D).be;rcases z.2 with i|i<;>omega
  · -- another step ends the run
   have D:=x6.trans x7;have aT:=D.size;refine(xA (c:=[H.E,B.E]++j.size::u) (O aT bR) (aI D) C.jZ V).aK (N.az m7) (R x7.size) λbT bc bO aZ bf aP _=>⟨_,rfl,?_⟩;obtain⟨ao,ah,bk⟩:=OB (f:=L) (c:=c) bf C.VU;have bx:=fH bc;have yz:=aP.size;have z7:=x7.size;have a4:(2*v.length)*(2*v.length)<=160000000000:=bX (OG (b:=400000) V) bh;have aR:=D.trans aP;refine GS.all (C.gs.ext gG.mono aR) ((W.trans aR).fz []) (aZ.done gG.mono (O (w:=[H.E,B.E]) aT bR) bh V) V λz o ax aW aS bg=>⟨λe f=>bg e (R V e f) (by simp at f;omega),?_⟩;have aq:N m o:=aW.ext;have bW:=aS.1;have bI:=ax.be;have br:z.E=H.E\/G.size<=z.E:=by have:=aS.2;omega
   intro r an;have aQ:N o r:=N.push o _;have bU:r.size=o.size+1:=by simp[r]
   have bl:N r an:=N.push r _;have au:=aq.trans aQ;have gn:GS [z.E] m r (.mk o.size 0 0 0) []:=(GS.new _ o).ct gG.mono (λg p=>Or.inl p) aq.size;have gk:GB ([z.E,o.size]++j.size::u) r an (.mk r.size 0 0 0) []:=GB.new _ r;have a0:GS ([o.size]++j.size::u) m r z _:=ax.re gG.mono (Y:=[]) (aQ.fz []) aJ aJ λe f=>by
    rcases List.mem_cons.1 f with i|i
    ·exact Or.inr V
    ·exact Or.inl (ai _ i)
   clear_value an;clear_value r;have am:=ab.len;have bt:=Je d.bD;have bv:bw d.bD<=400000:=V;refine dS (n:=d.bD.length) (am▸ab.gV) (λF bj s=>N r s/\∃t,GB ([z.E,o.size]++j.size::u) r s bj t/\t.length=F/\(∀(E:Nat)(g:Bk),t[E]? =some g->WB L c True (a+dc (ar.take y)+AG L d.op d.bL E) g)/\bw t<=bw (d.bD.take F)*bw (d.bD.take F)) ⟨bl,[],gk,rfl,aJ,aJ⟩ ?_;rintro F ks ac I2 μ2 hj ⟨aa,t,X,bz,aG,a6⟩ be;have aU:=au.trans aa;have aj:=x1.trans aU;have bY:=aa.size;have bJ:=X.be;have Q:∀g∈[A.size,j.size,K.size],g<ac.size:=R V;refine dit (λh2=>?_) λh2=>?_
   ·obtain⟨g,p⟩:=ag (l:=d.bD) (k:=F) V;obtain⟨tb,aY,f0,f1⟩:=ab.D p;have a7:=we p;have aO:=tL p;refine⟨V,V,_,aj.af f0,_,aj.af f1,?_⟩;refine(ih d (av hx) g (av p) ([ks.E,z.E,o.size]++j.size::u) ac (O V bR) tb _ (aY.le aj.le) (Z.bD F g p) V).aK (N.az ac) Q λss b' a9 aV aE ap _=>⟨_,_,rfl,?_⟩;refine GB.jY (c:=b') (X.ext qO.mono ap) ((aa.trans ap).fz []) aV V λa1 M' g2 f2 z2 q2=>⟨N.nW ((aa.trans ap).aN _) f2.ext (λe f=>by have:=R (s:=r) V e f;omega),be V _ _ ⟨f2.ext,_,g2,bR,λE b2 I=>?_,?_⟩⟩
    ·rcases bA E t.length with ak|ak
     ·rw[aw ak]at I;exact aG E b2 I
     ·rw[aF ak]at I;have:E -t.length=0:=by have:=aD I;simp at this;omega
      rw[this]at I;simp at I;subst I;have:E=F:=V;subst this;exact aE.1
    ·rw[oh,tK,yN,aO];have h3:=Hc (bw (d.bD.take F)) g.w;have:=aE.2;omega
   ·have a7:t.length=d.bD.length:=V;rw[cN V]at a6;refine(bN ([z.E,o.size]++j.size::u) (ha.ext aj) V).aK (N.az ac) Q λs' l' bd ga i I _=>⟨_,rfl,aM (I.same _ (Q _ aJ)) _,aM (I.same _ (Q _ aJ)) _,aM (I.same _ (Q _ aJ)) _,?_⟩;subst i;intro bQ;have ak:=aa.trans I;have bZ:=I.size;have ap:∀e∈[z.E,o.size]++j.size::u,e<r.size:=O V bR;have a9:z.E≠o.size:=V;refine GS.jY (x:=⟨d.op,d.bL,d.bH,d.args,t⟩) (a0.ext gG.mono ak) ((au.trans ak).fz []) (ga.done (λe f=>by have:=ap e f;omega) V) (np.le (I.cW _) (X.done qO.mono ap bh (by show t.length<=_;omega))) bR λaO bS a1 aY bn aE=>⟨λe f=>?_,aN V _ _ _ ⟨_,[],P+2*v.length+d.w,aY.ext,a1,?_,((C.wl.append (by rw[C.VM];exact ao)).zp (Z.Od id Z.eO.bH a7 aG|>λh=>by rw[cL,C.VM,ah,jF];exact h)),?_,?_,bR,λ_ h=>by simp at h,λaf⟨_,h,_⟩=>by simp at h,?_⟩⟩
    ·have h3:=Q e f;rw[aE e V (by simp at f;omega),(N.push bd _).same e V]
    · -- the new run is empty
     have i:=gn.ext gG.mono ak;obtain⟨p0,aV,p1,p2⟩:=i;refine⟨p0,aV,p1.congr (aE _ (by have:=ak.size;show o.size<_;omega) (km a9)),p2.len,p2.size,λE cs al _ q=>by simp at q⟩
    ·rw[cL,cL,C.VM,ah,jR,sA];have i:dn (⟨d.op,d.bL,d.bH,d.args,t⟩:cK)=dn d:=rfl;omega
    ·rw[dq,dq,mh,uH];have h3:=Hc P (2*v.length);have h4:=Hc (P+2*v.length) d.w;have h5:(⟨d.op,d.bL,d.bH,d.args,t⟩:cK).w=1+d.args.length+bw t:=cK.lO _;have q:=Hc (1+d.args.length) (bw d.bD);have h7:1+d.args.length<=(1+d.args.length)*(1+d.args.length):=Nat.le_mul_of_pos_left _ V;rw[<-bb]at q;omega
    ·rcases bn.2 with i|i
     ·show aO.E≠o.size;omega
     ·show aO.E≠o.size;omega
 ·have am:y=ar.length:=V;subst am;rw[fE]at az;have hd:dc (ar.take ar.length)=dc ar:=by rw[fE]
  have i:∀g∈[j.size,K.size],g<A.size:=λg p=>W.lt (hl g p);refine(xA (c:=[H.E,B.E]++j.size::u) (O (ad _) bR) (aI (N.az _)) C.jZ V).aK (N.az A) i λR o G t D d _=>⟨_,rfl,aM (d.same _ (i _ aJ)) _,?_⟩;obtain⟨ao,ah,bk⟩:=OB (f:=L) (c:=c) D C.VU;have F:=fH o;have a4:(2*v.length)*(2*v.length)<=160000000000:=bX (OG (b:=400000) V) bh;have X:=d.size;refine GS.all (C.gs.ext gG.mono d) ((W.trans d).fz []) (t.done gG.mono (O (w:=[H.E,B.E]) (ad _) bR) bh V) V λE I z r Z q=>⟨λe f=>q e (d.lt (i e f)) (by have:=hl e f;omega),aM (q _ (d.lt (i _ aJ)) V) _,?_⟩;intro Q;refine⟨E,.mk (lo++o) bi,rfl,eD.le (cv aJ λe f=>ai _ f) ((z.re gG.mono (S':=j.size::u) (Y:=[]) (Fz.az _ _) aJ aJ (λe f=>Or.inl (ai _ f))).done gG.mono aA bh bR),⟨WB.of (C.wl.append (by rw[C.VM];exact ao)) ?_,?_⟩,(x1.trans r.ext).ah V _ _⟩
  ·rw[cL,C.VM,ah,hd];exact aL.2
  ·rw[Bk.pW,dq];have h3:=Hc P (2*v.length);have h4:=OG az;have h5:=Hc 1 (sw ar);omega
end
section
variable{e:List Nat}{c:J}{d f:O}{g:List gB}{W:Nat}
def Gq(H:∀a∈e,a<c.size){j:List bu}(r:eg c d f j g)(hW:W<=400000)(hk:xH j g True W):ue 195 [.agg #[O.v d,O.v f]] c e j λx=>xH j x True (W*W):=by
 apply zA;simp -zeta only[aC,aB];intro b a2;obtain⟨A,v⟩:=dF (a:=b) (c:=a2) rfl rfl;have s1:b.size=c.size+1:=by simp[b]
 clear_value a2;have aj:=r.ir.len;have ar:=r.nR;refine(fG (b:=b.size::e) (bP H A.size (v _ aJ)) (r.le A.le).aT r.types).mono λ_ K⟨ab,o,ad,B⟩=>?_;subst o;refine⟨B.dv v,_,rfl,?_⟩;intro L an aa;have u2:=A.trans B;obtain⟨x5,B0,g0,s3,s5⟩:=ka (b:=L.size::b.size::e) ik.mono (d:=K) (a:=L) (c:=an) (h:=aa) rfl rfl rfl;clear_value aa;have w:∀a∈[b.size,c.size],a<K.size:=λa i=>B.lt (v a i);have I:∀a∈b.size::e,a<K.size:=λa i=>B.lt (bP H A.size (v _ aJ) a i);refine jW (R:=λh p M=>∃d f x,Value.agg #[O.v h,O.v p]=.agg #[O.v d,O.v f]/\eg (bM e M) d f j x/\xH j x True (W*W)/\N c M) (r:=g.length) (f:=c) (b:=e) ik.mono bh bh H ⟨V,w _ aJ⟩ u2 s3 ad aj V x5 B0 g0 (λ_ q=>q.params.length<=3/\q.cG.length<=3/\WB j g.length True q.params.length q.body/\q.body.w<=W*W) (λh u J y X Y p s t=>⟨h,u,J,rfl,⟨X,Y,r.types,V⟩,Ga hk.iu p s,t⟩) λam M st J ap μ ae aq C U D ao=>?_
 obtain⟨q,hq⟩:=ag (l:=g) (k:=am) ae;obtain⟨ai,ah,al,hw⟩:=hk.dz q (av hq);have z:=u2.trans C;obtain⟨au,aw,h,c1,c2,c3,P,Q,T,E,F⟩:=r.ir.D hq;have G:∀{y:Value}{h s:Nat},af c h s=some y->af M h s=some y:=λu=>z.af u;refine⟨st,D.bV 1,V,V,_,G P,_,G Q,_,G T,_,G E,_,G F,V,V,_,G E,_,G F,?_⟩;have hy:=U.be;have ac:=D.lt;have zM:=C.size;refine(Dc q.body (st.E::L.size::b.size::e) M (λa i=>?_) h q.params.length (c3.le z.le) al V).aK C w λss b' M1 ak Z p u1=>⟨_,_,rfl,?_⟩
 ·simp only[aU]at i;rcases i with o|o|o|o
  ·omega
  ·omega
  ·have:=I a (by simp[o]);omega
  ·have:=I a (by simp[o]);omega
 have t:∀{y:Value}{h s:Nat},af c h s=some y->af M1 h s=af M h s:=λu=>by rw[p.af (G u),G u]
 refine⟨t P,t Q,t T,t E,t F,aM (p.same _ (C.lt (w _ aJ))) _,aM (p.same _ ac) _,?_⟩;exact vr (b:=b.size::e) (w:=ab) (y:=J) I (λa i=>by have X:=w a i;have Y:=u1.size;omega) u1 (U.ext ik.mono p) (D.ext p) V (c1.ext (z.trans p)) (c2.ext (z.trans p)) ak ⟨V,V⟩ V λs' Y g' X x'=>ao s' Y _ g' X x' ⟨ai,ah,Z.1,bX Z.2 (OG hw)⟩
def V1(b:Bk):Prop:=∀(e:List Nat)(c:J),(∀a∈e,a<c.size)->∀t:O,eD c t b.ar->b.w<=1000000000000->mX 285 [.agg #[O.v t,vi b.aV]] c e (b=·)
def xy(J:∀i∈e,i<c.size){B D:O}{x:cK}(K:aq c B x.args)(w:np c D x.bD)(hw:x.w<=1000000000000)(R:∀h∈x.bD,V1 h):IY 316 [oG x B D] c e (x=·):=by
 apply Br;simp -zeta only[aC,aB];intro d a A;obtain⟨F,y⟩:=dF (a:=d) (c:=a) rfl rfl;have T:d.size=c.size+1:=by simp[d]
 have s1:a.size=c.size+2:=by simp[a,T]
 have U:N a A:=N.push _ _;have H:GB (d.size::e) a A (.mk a.size 0 0 0) []:=GB.new _ a;clear_value A;clear_value a;have u:∀i∈d.size::e,i<a.size:=bP J F.size (y _ aJ);have L:=w.len;have ac:=cK.lO x;have aa:=pI x.bD;refine dS (n:=x.bD.length) (L▸w.gV) (λz s M=>N a M/\GB (d.size::e) a M s (x.bD.take z)) ⟨U,H⟩ ?_;rintro z s r X μ hj ⟨p,q⟩ S
 have o:=F.trans p;have m:∀h∈[d.size,c.size],h<r.size:=λh j=>p.lt (y h j);have Q:=q.be;have W:=p.size;refine dit (λI=>?_) λI=>?_
 ·obtain⟨h,j⟩:=ag (l:=x.bD) (k:=z) V;obtain⟨tb,P,C,G⟩:=w.D j;have ab:=we j;refine⟨V,V,_,o.af C,_,o.af G,?_⟩;refine(R h (av j) (s.E::d.size::e) r (bP u W Q.2) tb (P.le o.le) V).aK (N.az r) m λss Z E M t g _=>⟨_,_,rfl,?_⟩;subst t;refine GB.jY (c:=h) (q.ext qO.mono g) ((p.trans g).fz []) M bR λf Y g2 v z2 q2=>⟨N.nW ((p.trans g).aN _) v.ext y,S V _ _ ⟨v.ext,?_⟩⟩;rw[bn j];exact g2
 ·rw[cN V]at q;refine(bN (d.size::e) (K.ext o) V).aK (N.az r) m λP Y E G t g _=>⟨_,rfl,aM (g.same _ (m _ aJ)) _,aM (g.same _ (m _ aJ)) _,aM (g.same _ (m _ aJ)) _,?_⟩;subst t;intro M;have C:Le (bM (d.size::e) E) (bM e M):=cv aJ λi v=>ai _ v;exact⟨P,s,x,rfl,(G.done (λi v=>by have:=u i v;omega) V).le C,np.le C ((q.ext qO.mono g).done qO.mono u bh V),rfl,(o.trans g).ah V _ _⟩
def vA:∀j:Bk,V1 j:=by
 refine Bk.ind ?_;intro ar h ih e c Y an C hw;rw[Bk.pW]at hw;simp only[Bk.jq,Bk.iH]at*;apply qI;simp -zeta only[aC,aB];intro f b d E u;obtain⟨K,A⟩:=dF (a:=f) (c:=b) rfl rfl;have s0:f.size=c.size+1:=by simp[f]
 have s1:b.size=c.size+2:=by simp[b,s0]
 have s2:d.size=b.size+1:=by simp[d]
 have s3:E.size=d.size+1:=by simp[E]
 have L:N d u:=(N.push d _).ah (ad _) _ _;have aj:N b u:=(N.push b _).trans L;have z:GS (d.size::f.size::e) b u (.mk b.size 0 0 0) []:=(GS.new _ b).ext gG.mono L;have O:cx u d.size da [.s (.mk b.size 0 0 0),.i h]:=cx.ah (m:=E) (o:=0) (r:=[.s (.mk b.size 0 0 0),.i h]) (cx.push d _ _);clear_value u;have H:∀w∈f.size::e,w<b.size:=bP Y K.size (A _ aJ);have af:=C.len;have al:=fH ar;refine fB (n:=ar.length) (af▸C.gV) (λD M=>N b M/\∃s,GS (d.size::f.size::e) b M s (ar.take D)/\cx M d.size da [.s s,.i h]) ⟨aj,_,z,O⟩ ?_;rintro D F ak μ hk ⟨y,s,q,B⟩ ah
 have g:=K.trans y;have ae:∀j∈[f.size,c.size],j<F.size:=λj hb=>y.lt (A j hb);have hy:=q.be;have z5:=y.size;have G:=B.lt;refine dit (λX=>?_) λX=>?_
 ·obtain⟨J,x⟩:=ag (l:=ar) (k:=D) V;obtain⟨pa,pk,Z,ac,z,g1,g2,U,W⟩:=C.D x;have am:=Nd x;refine⟨s,B.bV 0,V,V,_,g.af z,_,g.af g1,_,g.af g2,_,g.af U,_,g.af W,?_⟩;refine(xy (e:=s.E::d.size::f.size::e) (bP (bP H z5 G) (ad _) hy.2) (Z.ext g) (ac.le g.le) V (ih J (av x))).aK (N.az F) ae λP Q x' I aa ab p v _=>⟨_,_,_,_,_,rfl,aM (v.same _ G) _,?_⟩;subst p;intro m7;refine Gr.box (g:=[.i 0,.i 0,.i 0,.s .nil,.s .nil]) (j:=0) (i:=[.s s,.i h]) (w:=J) gG.mono bh (q.ext gG.mono v) ((y.trans v).fz []) ⟨P,Q,rfl,aa,ab⟩ bR (B.ext v) aJ bh ⟨V,aJ⟩ (λw t=>by have M:=A w t;have R:=v.size;omega) λr' m' T M R z' q'=>ah V _ ⟨R.ext,r',?_,M⟩
  rw[bn x];exact T
 ·rw[cN V]at q;refine⟨s,B.bV 0,h,B.bV 1,?_⟩;intro I;have x:=q.ne B bh;have v:Le (bM (d.size::f.size::e) F) (bM e I):=cv aJ λw t=>ai _ (ai _ t);refine⟨s,.mk ar h,rfl,eD.le v (q.ns gG.mono (λt=>?_) bh (by show ar.length<=_;omega)),rfl,g.ah V _ _⟩;rcases List.mem_cons.1 t with p|p
  ·exact x p
  ·have:=H _ p;omega
def XK(b:Bk):Prop:=∀(c:J)(t:O)(f:Int),eD c t b.ar->od 317 [.agg #[O.v t,vi b.aV],vi f] c
def Ib:∀d:Bk,XK d:=by
 refine Bk.ind ?_;intro ar aa H c t v p;simp only[Bk.jq,Bk.iH]at*;apply Bp;simp -zeta only[aC,aB];intro h;have C:N c h:=N.push _ _;have F:∀d∈[c.size],d<h.size:=by simp[h]
 clear_value h;have G:=p.len;refine fB (n:=ar.length) (G▸p.gV) (λ_ M=>N h M) (N.az _) ?_;rintro a q I μ Z u Q
 have i:=C.trans u;refine⟨λm=>?_,λ_=>rA i⟩;simp only[au]at m;obtain⟨x,y⟩:=ag (l:=ar) (k:=a) V;obtain⟨pa,z,X,o,D,g1,g2,W,w⟩:=p.D y;have E:=o.len;have L:∃(j:Int->J->Prop)(μ0_1:Int->J->Nat),j (0:Int) q/\(∀(b:Int)(M:J),j b M->
  (0:Int)<=(a:Int)/\(a:Int)<(t.len:Int)/\∃s:O,af M t.E (t.off+Int.toNat (a:Int)*5+4)=some (O.v s)/\
  ((decide (b<(s.len:Int)))=true->(0:Int)<=(a:Int)/\(a:Int)<(t.len:Int)/\∃e:O,af M t.E (t.off+Int.toNat (a:Int)*5+4)=some (O.v e)/\
   (0:Int)<=b/\b<(e.len:Int)/\∃A:O,af M e.E (e.off+Int.toNat b*2)=some (O.v A)/\∃B:Int,af M e.E (e.off+Int.toNat b*2+1)=some (vi B)/\
   aL cp 317 [.agg #[O.v A,vi B],vi v] M λf g=>dR [c.size] M g/\∃r:Bool,f=vb r/\(r=true->∃d:Bool,vb true=.bool d/\N c g)/\(r=false->j (cR (b+(1:Int))) g/\μ0_1 (cR (b+(1:Int))) g<μ0_1 b M))/\
  ((decide (b<(s.len:Int)))=false->I (cR ((a:Int)+(1:Int))) M/\μ (cR ((a:Int)+(1:Int))) M<μ a q)):=by
  refine fB (n:=x.bD.length) (E▸o.gV) (λ_ M=>N q M) (N.az _) ?_
  rintro K M T μ2 Y e P
  have b:=i.trans e
  refine⟨V,V,z,b.af w,λm=>?_,λ_=>Q V _ (u.trans e)⟩
  simp only[au]at m
  obtain⟨d,r⟩:=ag (l:=x.bD) (k:=K) V
  obtain⟨tb,B,s,A⟩:=o.D r
  refine⟨V,V,z,b.af w,V,V,_,b.af s,_,b.af A,?_⟩
  exact(H x (av y) d (av r) M tb v (B.le b.le)).aK (u.trans e) F λU g S R=>⟨_,rfl,λ_=>rA (C.trans R),λ_=>P V _ (e.trans S)⟩
 exact⟨V,V,_,i.af D,λ_=>⟨V,V,_,i.af g1,λ_=>rA i,λ_=>L⟩,λ_=>L⟩
def Ij{q:List bu}(h:eg c d f q g)(i:Int):od 286 [.agg #[O.v d,O.v f],vi i] c:=by
 apply BD;simp -zeta only[aC,aB];intro a;have m:N c a:=N.push _ _;have u:∀e∈[c.size],e<a.size:=by simp[a]
 clear_value a;have K:=h.ir.len;have J:=h.nR;refine fB (n:=g.length) V (λ_ M=>N a M) (N.az _) ?_;rintro w x I μ H o y
 have b:=m.trans o;refine⟨λt=>?_,λ_=>rA b⟩;simp only[au]at t;obtain⟨z,v⟩:=ag (l:=g) (k:=w) V;obtain⟨L,M,e,C,D,p,E,F,G,r,s⟩:=h.ir.D v;exact⟨V,V,_,b.af r,_,b.af s,(Ib z.body x e i (p.le b.le)).aK o u λB A P j=>⟨_,rfl,λ_=>rA (m.trans j),λ_=>y V _ j⟩⟩
abbrev Xv(e:List Nat)(a c:J)(s:O)(l:List (List Int)):Prop:=Gr e a c xc 1 mw s l
def EK(hS:∀a∈e,a<c.size){U:List bu}(q:eg c d f U g)(hp:∀A∈g,A.params.length<=3):
 aL cp 251 [.agg #[O.v d,O.v f]] c λaf H=>∃s h,af=O.v s/\oH (bM e H) s h/\h.length=g.length/\(∀a∈h,a.length<=3)/\N c H:=by
 apply xT
 simp -zeta only[aC,aB]
 intro b z
 have Q:N c b:=N.push _ _
 have x:∀B∈[c.size],B<b.size:=by simp[b]
 have ah:N b z:=N.push _ _
 have Y:Xv e b z (.mk b.size 0 0 0) []:=Gr.new e (ad _) _ _ _
 clear_value z
 clear_value b
 have al:=q.ir.len;have ak:=q.nR
 have E:∀a∈e,a<b.size:=λa w=>Q.lt (hS a w)
 refine dS (n:=g.length) V (λj s M=>N b M/\∃h,Xv e b M s h/\h.length=j/\∀a∈h,a.length<=3) ⟨ah,[],Y,rfl,aJ⟩ ?_
 rintro j s I R μ hk ⟨u,h,v,ai,D⟩ ab
 have t:=Q.trans u
 have i:=v.be
 refine dit (λaa=>?_) λaa=>?_
 ·obtain⟨A,F⟩:=ag (l:=g) (k:=j) V
  obtain⟨ac,am,B,T,c2,c3,W,e1,e2,e3,e4⟩:=q.ir.D F
  have aj:=hp A (av F)
  have gW:∀(M:J)(m:O)(a:List Int),N I M->aq (bM (s.E::e) M) m a->a.length<=3->jh (M.push (.cells (bC [.s m]) xc)) xc [.s O.nil] 24 s (O.mk M.size 0 1 1) λL p=>dR [c.size] (M.push (.cells (bC [.s m]) xc)) p/\R L (cR ((j:Int)+(1:Int))) p/\μ L (cR ((j:Int)+(1:Int))) p<μ s j I:=λM m a y hf w=>
   Gr.jY (g:=[.s .nil]) mw.mono bh (v.ext mw.mono y) ((u.trans y).fz []) ⟨m,rfl,hf⟩ V λr' p X C _ _=>⟨N.nW ((u.trans y).aN _) C.ext x,ab V _ _ ⟨C.ext,_,X,bR,λo i=>by
    rcases List.mem_append.1 i with i|i
    ·exact D o i
    ·simp at i;subst i;exact w⟩⟩
  refine(Ij (q.le t.le) j).aK u x λa m4 o P=>⟨_,rfl,λ_=>?_,λ_=>⟨V,V,ac,(t.trans o).af W,?_⟩⟩
  ·intro r m6
   exact gW r _ [] (o.aN _) (lZ _ _ _ _ _ _) aJ
  ·refine(qW (S:=[]) aJ (a:=0) ((T.ext (t.trans o)).le (zc _)) V).aK P x λae G r Z K x5 u5=>⟨_,rfl,?_⟩
   intro m6
   have hg:GI (s.E::e) m4 r ae G:=Z.any
   exact gW r _ G (o.trans x5) (hg.done (bP E P.size (by have:=o.size;omega)) (by have:=K.2;omega)) (by have:=K.2;omega)
 ·exact⟨s,h,rfl,v.done mw.mono E bh V,V,D,t⟩
def XN(a:List bu)(g:List gB)(b:Bk):Prop:=∀(c:J)(d f t:O)(v:Int)(h:Prop)(e:Nat),eg c d f a g->eD c t b.ar->WB a g.length h e b->od 287 [.agg #[O.v d,O.v f],.agg #[O.v t,vi b.aV],vi v] c
def zC{E:List bu}:∀b:Bk,XN E g b:=by
 refine Bk.ind ?_;intro ar ak ih c d f al ah p aj G v ab;have ac:=ab.bd.1;simp only[Bk.jq,Bk.iH]at*;apply ux;simp -zeta only[aC,aB];intro L y;obtain⟨Q,Y⟩:=dF (a:=L) (c:=y) rfl rfl;clear_value y;have Z:=v.len;refine⟨λ_=>rA Q,λ_=>?_⟩;refine fB (n:=ar.length) (Z▸v.gV) (λ_ M=>N y M) (N.az _) ?_;rintro K r ai μ hk C af
 have e:=Q.trans C;refine⟨λj=>?_,λ_=>rA e⟩;simp only[au]at j;obtain⟨x,w⟩:=ag (l:=ar) (k:=K) V;obtain⟨pa,pk,q,t,S,g1,g2,T,U⟩:=v.D w;have H:=ac K x w;have W:=q.len;have X:=t.len;refine⟨V,V,_,e.af S,_,e.af g1,_,e.af g2,_,e.af T,_,e.af U,?_⟩;intro m3 h;have D:N r h:=(N.push r _).ah (ad _) _ _;have s4:h.size=r.size+1:=by simp[h,m3,ay]
 clear_value h;have u:∀b∈[r.size,L.size,c.size],b<h.size:=λb m=>by
  rcases List.mem_cons.1 m with F|F
  ·omega
  ·exact(C.trans D).lt (Y b F)
 refine fB (n:=x.args.length) (W▸q.gV) (λ_ M=>N h M) (N.az _) ?_;rintro J O I1 μ1 hj o A;have B:=(e.trans D).trans o;refine⟨λj=>?_,λ_=>?_⟩
 ·simp only[au]at j;obtain⟨aa,R⟩:=ag (l:=x.args) (k:=J) V;refine⟨V,V,aa,(q.ext B).D R,λ_=>?_,λ_=>A V _ o⟩;refine(xw x.op O).aK o u λp z i I=>⟨_,rfl,λ_=>?_,λ_=>A V _ I⟩;have a:=B.trans i;exact(nE (⟨G.le a.le,q.ext a,H.eO.call⟩:At z d f pa pk E g x) J).aK I u λp m7 s P=>⟨_,rfl,λ_=>rA (a.trans s),λ_=>A V _ P⟩
 ·refine fB (n:=x.bD.length) (X▸t.gV) (λ_ M=>N O M) (N.az _) ?_;rintro I z I2 μ2 hi i ae;have a:=B.trans i;refine⟨λj=>?_,λ_=>af V _ (((C.trans D).trans o).trans i)⟩;simp only[au]at j;obtain⟨b,m⟩:=ag (l:=x.bD) (k:=I) V;obtain⟨tb,aa,M,R⟩:=t.D m;refine⟨V,V,_,a.af M,_,a.af R,?_⟩;exact(ih x (av w) b (av m) z d f tb ah p _ (G.le a.le) (aa.le a.le) (H.bD I b m)).aK (o.trans i) u λp m7 s P=>⟨_,rfl,λ_=>rA (a.trans s),λ_=>ae V _ (i.trans s)⟩
def Il(R:∀i∈e,i<c.size){C:List bu}(t:eg c d f C g){i:Prop}(S:xH C g i W){D:Nat}{q:gB}(u:g[D]? =some q):ku 252 [.agg #[O.v d,O.v f],vi D] c e λh=>h.length<=q.cG.length:=by
 apply BE;simp -zeta only[aC,aB];intro a w;have A:N c a:=N.push _ _;have G:∀o∈[c.size],o<a.size:=by simp[a]
 have X:N a w:=N.push _ _;have Q:GI e a w (.mk a.size 0 0 0) []:=GI.nil e a;clear_value w;clear_value a;have af:=t.ir.len;have aa:=aD u;obtain⟨ae,ac,T,hw⟩:=S.dz q (av u);obtain⟨ai,y,o,Z,p,K,e0,r,e2,L,P⟩:=t.ir.D u;have ah:=p.len;refine dS (n:=q.cG.length) V (λv x M=>N a M/\∃h,GI e a M x h/\h.length<=v) ⟨X,[],Q,ad _⟩ ?_;rintro v x U Y μ ab ⟨J,h,s,F⟩ I
 have b:=A.trans J;refine⟨V,V,y,b.af r,λj=>?_,λj=>⟨x,h,rfl,s.ct (λ_ j=>j) A.size,V,b⟩⟩;simp only[au]at j;obtain⟨B,H⟩:=ag (l:=q.cG) (k:=v) V;refine⟨V,V,_,b.af L,_,b.af P,V,V,y,b.af r,V,V,B,(p.ext b).D H,?_⟩;refine(zC q.body U d f o B i _ (t.le b.le) (K.le b.le) T).aK J G λcc m4 m z=>⟨_,rfl,λ_=>⟨V,V,y,(b.trans m).af r,V,V,B,(p.ext (b.trans m)).D H,?_⟩,λ_=>I V _ _ ⟨z,h,s.ext m,V⟩⟩;intro m5;exact GI.jY (s.ext m) (z.fz []) (λi F=>A.lt (R i F)) V λf m6 M E _ _=>⟨N.nW (z.aN _) E.ext G,I V _ _ ⟨E.ext,_,M,bR⟩⟩
end
section
variable{b:List Nat}{e:J}{d g:O}{f:List gB}{c:Prop}{W:Nat}
def xC(U:∀c∈b,c<e.size){lt:O}{w:List bu}{I:List (List Int)}(z:eg e d g w f)(hW:W<=1000000)(hk:xH w f c W)(ai:oH e lt I)(aT:I.length=f.length)(ax:∀c∈I,c.length<=3):
 ue 250 [.agg #[O.v d,O.v g],O.v lt] e b w λA=>xH w A c W/\A.length=f.length:=by
 apply Ch
 simp -zeta only[aC,aB]
 intro j a2
 obtain⟨L,F⟩:=dF (a:=j) (c:=a2) rfl rfl
 have s1:j.size=e.size+1:=by simp[j]
 clear_value a2
 have aD:=z.ir.len;have aW:=z.nR
 refine(fG (b:=j.size::b) (bP U L.size (F _ aJ)) (z.le L.le).aT z.types).mono λ_ aa⟨dd,h,au,P⟩=>?_
 subst h
 refine⟨P.dv F,_,rfl,?_⟩
 intro t aL an
 have u2:=L.trans P
 obtain⟨x5,B0,g0,s3,s5⟩:=ka (b:=t.size::j.size::b) ik.mono (d:=aa) (a:=t) (c:=aL) (h:=an) rfl rfl rfl
 clear_value an
 have Y:∀c∈[j.size,e.size],c<aa.size:=λc o=>P.lt (F c o)
 have ah:∀c∈j.size::b,c<aa.size:=λc o=>P.lt (bP U L.size (F _ aJ) c o)
 refine jW (R:=λp q M=>∃d g A,Value.agg #[O.v p,O.v q]=.agg #[O.v d,O.v g]/\eg (bM b M) d g w A/\(xH w A c W/\A.length=f.length)/\N e M) (r:=f.length) (f:=e) (b:=b) ik.mono bh bh U ⟨V,Y _ aJ⟩ u2 s3 au aD V x5 B0 g0 (λ_ q=>q.params.length<=3/\q.cG.length<=3/\WB w f.length c q.params.length q.body/\q.body.w<=W) (λr r' al m' h1 D p s u=>⟨r,r',al,rfl,⟨h1,D,z.types,V⟩,⟨Ga hk.iu p s,p⟩,u⟩) λak M u al aP μ aw aS xM ae Q aN=>?_
 obtain⟨q,hq⟩:=ag (l:=f) (k:=ak) aw
 obtain⟨aA,aR,aG,hw⟩:=hk.dz q (av hq)
 have v6:=u2.trans xM
 obtain⟨aY,aZ,s,c1,c2,c3,e0,e1,e2,e3,e4⟩:=z.ir.D hq
 have G:∀{ao:Value}{s y:Nat},af e s y=some ao->af M s y=some ao:=λC=>v6.af C
 refine⟨V,V,_,G e0,_,G e1,_,G e2,_,G e3,_,G e4,?_⟩
 intro m7 p
 have hy:=ae.be
 have aQ:=Q.lt
 have zM:=xM.size
 have x8:N M p:=(N.push M _).ah (ad _) _ _
 have s8:p.size=M.size+1:=by simp[p,m7,ay]
 clear_value p
 have H:∀c∈[M.size,j.size,e.size],c<p.size:=λc o=>by
  rcases List.mem_cons.1 o with h|h
  ·omega
  ·have:=Y c h;omega
 have B:=v6.trans x8
 have E:∀{M1 M2:J},N p M1->N p M2->∀s,s<p.size->∀y,af M2 s y=af M1 s y:=λC h' s hb y=>aM (by rw[h'.same s hb,C.same s hb]) y
 have x:M.size<p.size:=V
 have Z:t.size<p.size:=V
 obtain⟨ac,aj⟩:=ag (l:=I) (k:=ak) V
 obtain⟨yt,aI,T⟩:=ai.D aj
 have aH:=ax ac (av aj)
 have aV:=ai.len
 have X:∀{M':J},p.size<=M'.size->∀c∈u.E::t.size::j.size::b,c<M'.size:=λC c o=>by
  simp only[aU]at o;rcases o with h|h|h|h
  ·omega
  ·omega
  ·have:=ah c (by simp[h]);omega
  ·have:=ah c (by simp[h]);omega
 refine⟨u,(Q.ext x8).bV 1,V,V,yt,B.af T,?_⟩
 refine(bN (u.E::t.size::j.size::b) (c1.ext B) V).aK (N.az p) H λp' _ m9 gp h r _=>⟨_,rfl,E (N.az _) r _ x _,E (N.az _) r _ x _,E (N.az _) r _ x _,?_,E (N.az _) r _ Z _,?_⟩
 ·exact((B.trans r).af T).trans (B.af T).symm
 subst h
 refine(bN (u.E::t.size::j.size::b) (aI.ext (B.trans r)) V).aK r H λt' _ aK gt h ap v=>⟨_,rfl,E r v _ x _,E r v _ x _,E r v _ x _,E r v _ Z _,?_⟩
 subst h
 have z9:=r.size;have yz:=ap.size
 have aO:=B.trans v
 refine(vA q.body (u.E::t.size::j.size::b) aK (X V) s (c3.le aO.le) V).aK v H λss b' am aE h ar K=>⟨_,_,rfl,E v K _ x _,E v K _ Z _,?_⟩
 subst h
 intro aX
 have ab:=x8.trans K
 have a0:=K.size
 have az:aq (bM (u.E::t.size::j.size::b) am) p' q.params:=(gp.done (X V) V).le ((ap.trans ar).cW _)
 have aF:aq (bM (u.E::t.size::j.size::b) am) t' ac:=(gt.done (X V) V).le (ar.cW _)
 exact Gr.box (g:=[.s .nil,.s .nil,.i 0,.s .nil,.i 0]) (j:=1) (y:=88) (i:=[.s dd,.s u]) (w:=⟨q.params,ac,q.aV,q.body⟩) ik.mono bh (ae.ext ik.mono ab) ((xM.trans ab).fz []) ⟨p',t',ss,rfl,az,aF,aE⟩ V (Q.ext ab) aJ bh ⟨V,aJ⟩ (λc o=>by have h1:=H c o;have D:=Y c;simp only[aU]at o D;rcases o with h|h|h|h<;>first|omega|(have:=D (by simp[h]);omega)|simp at h) λr' m' g' D f' z' q'=>aN r' m' _ g' D f'.ext ⟨aA,aH,aG,hw⟩
def Ir(hS:∀c∈b,c<e.size){D:List bu}(hn:eg e d g D f)(hW:W<=1000000)(hk:xH D f c W):ue 236 [.agg #[O.v d,O.v g]] e b D λv=>xH D v c W:=by
 apply BJ;simp -zeta only[aC,aB];intro j a2;obtain⟨x2,I⟩:=dF (a:=j) (c:=a2) rfl rfl;have s1:j.size=e.size+1:=by simp[j]
 have s2:a2.size=e.size+2:=by simp[a2,s1]
 clear_value a2;have aI:=hn.ir.len;have aG:=hn.nR;have al:∀c∈j.size::b,c<a2.size:=bP hS x2.size (I _ aJ);have t:∀{M u:J},N a2 M->N a2 u->∀ae,af u e.size ae=af M e.size ae:=λw h' ae=>aM (by rw[h'.same _ (I _ aJ),w.same _ (I _ aJ)]) ae;have tail:∀(T:J)(a:Nat)(C A:O)(F:List gB),N a2 T->a2.size<=a->cx T a mN [.s C,.s A]->eg (bM (a::j.size::b) T) C A D F->xH D F c W->
  ∃(I0:Int->J->Prop)(μ0:Int->J->Nat),I0 (0:Int) T/\(∀(q:Int)(x:J),I0 q x->
   ((decide (q<=(12:Int)))=true->
    let Y:J:=x.push (.cells (bC []) xc)
    ∃(y:O->Int->J->Prop)(μ1:O->Int->J->Nat),y (O.mk x.size 0 0 0) (0:Int) Y/\(∀(s:O)(z:Int)(i:J),y s z i->
     ∃E:O,af i a 1=some (O.v E)/\
     ((decide (z<(E.len:Int)))=true->∃h:O,af i a 0=some (O.v h)/\∃p:O,af i a 1=some (O.v p)/\
      aL cp 252 [.agg #[O.v h,O.v p],vi z] i λr2 R=>dR [j.size,e.size] i R/\∃aa:O,r2=O.v aa/\
       let ac:J:=R.push (.cells (bC [.s aa]) xc)
       jh ac xc [.s O.nil] 24 s (O.mk R.size 0 1 1) λG B=>dR [j.size,e.size] ac B/\y G (cR (z+(1:Int))) B/\μ1 G (cR (z+(1:Int))) B<μ1 s z i)/\
     ((decide (z<(E.len:Int)))=false->∃h:O,af i a 0=some (O.v h)/\∃p:O,af i a 1=some (O.v p)/\
      aL cp 250 [.agg #[O.v h,O.v p],O.v s] i λH P=>dR [j.size,e.size] i P/\∃B:O,∃G:O,H=.agg #[O.v B,O.v G]/\dZ P a 0 2/\
       let Q:J:=ah P a 0 [.s B,.s G]
       dR [j.size,e.size] P Q/\I0 (cR (q+(1:Int))) Q/\μ0 (cR (q+(1:Int))) Q<μ0 q x)))/\
   ((decide (q<=(12:Int)))=false->∃h:O,af x a 0=some (O.v h)/\∃p:O,af x a 1=some (O.v p)/\
    let aj:J:=ah x j.size 0 [.s h,.s p]
    ∃d g v,Value.agg #[O.v h,O.v p]=.agg #[O.v d,O.v g]/\eg (bM b aj) d g D v/\xH D v c W/\N e aj)):=by
  intro T a C A F X aw hB hN U
  refine fB (n:=13) V (λ_ M=>N a2 M/\∃C A F,cx M a mN [.s C,.s A]/\eg (bM (a::j.size::b) M) C A D F/\xH D F c W) ⟨X,C,A,F,hB,hN,U⟩ ?_
  rintro aN x aD μ aF ⟨x6,C,A,F,L,B,K⟩ aA
  have aE:=L.lt
  have aK:=B.ir.len
  have aH:=B.nR
  refine⟨λw=>?_,λw=>?_⟩
  ·simp only[au]at w
   intro Y
   have ap:N x Y:=N.push _ _
   have g0:Xv [] x Y (.mk x.size 0 0 0) []:=Gr.new _ (ad _) _ _ _
   refine dS (n:=F.length) V (λz s M=>N x M/\∃h,Xv [] x M s h/\h.length=z/\∀c∈h,c.length<=3) ⟨ap,[],g0,rfl,aJ⟩ ?_
   rintro z s i I2 μ2 hf ⟨G,h,ab,aq,E⟩ an
   have u8:=x6.trans G
   have N8:=B.le (G.cW _)
   refine⟨A,(L.ext G).bV 1,dit (λH=>?_) λH=>?_⟩
   ·obtain⟨Z,hq⟩:=ag (l:=F) (k:=z) V
    have ao:=(K.dz Z (av hq)).2.1
    have p:=ab.be
    refine⟨C,(L.ext G).bV 0,A,(L.ext G).bV 1,?_⟩
    refine(Il (e:=[s.E]) bR (N8.le (bG _ _)) K hq).aK u8 I λaa ar R ak ax x9 u9=>⟨_,rfl,?_⟩
    intro ac
    refine Gr.jY (g:=[.s .nil]) mw.mono bh (ab.ext mw.mono x9) ((G.trans x9).fz []) ⟨aa,rfl,ak.done bR V⟩ V λy u g' q _ _=>⟨N.nW (u9.aN _) (x6.trans q.ext) I,an V _ _ ⟨q.ext,_,g',bR,λam p=>?_⟩⟩
    rcases List.mem_append.1 p with p|p
    ·exact E am p
    ·simp at p;subst p;omega
   ·refine⟨C,(L.ext G).bV 0,A,(L.ext G).bV 1,?_⟩
    have ak:oH i s h:=eK.le (ab.done mw.mono aJ bh V) (bG _ _) (mw.le (bG _ _))
    have z8:=G.size;have z6:=x6.size
    refine(xC (b:=a::j.size::b) (λc q=>?_) (N8.le (bG _ _)) hW K ak V E).mono λ_ P⟨d2,r2,ao,p,N2,⟨K2,_⟩,aa⟩=>?_
    ·rcases List.mem_cons.1 q with p|p
     ·omega
     ·have:=al c p;omega
    subst p
    have ac:=(L.ext G).ext aa
    refine⟨u8.Tv I aa,_,_,rfl,ac.dZ aJ,?_⟩
    intro Q
    have am:∀R,R≠a->Q[R]? =P[R]? :=λR hb=>bt _ _ _ _ hb
    refine⟨λc q=>am c (by have:=I c q;omega),aA V _ ⟨(u8.trans aa).ah aw _ _,d2,r2,ao,cx.ah (m:=P) (o:=0) (r:=[.s d2,.s r2]) ac,N2.le (cv aJ λ_ w=>w),K2⟩⟩
  ·refine⟨C,L.bV 0,A,L.bV 1,?_⟩
   intro aj
   exact⟨C,A,F,rfl,(B.le (ji x λc q=>ai _ q)).le (cv aJ λc q=>ai _ q),K,(x2.trans x6).ah V _ _⟩
 have ax:∀Z∈f,Z.params.length<=3:=λZ hq=>(hk.dz Z hq).1;have an:∀(M:J)(Q:List Nat)(K:Value->J->Prop),N a2 M->(∀c∈Q,c<M.size)->(∀s h u,oH u s h->h.length=f.length->(∀c∈h,c.length<=3)->N M u->K (O.v s) u)->aL cp 251 [.agg #[O.v d,O.v g]] M λam Y=>dR Q M Y/\K am Y:=λM Q K X hL U=>
  (EK (e:=[]) aJ (hn.le (x2.trans X).le) ax).mono λ_ u⟨s,h,p,P,H,E,aa⟩=>⟨aa.dv hL,p▸U s h u (eK.le P (bG _ _) (mw.le (bG _ _))) H E aa⟩
 have cG:∀(M:J)(S' Q:List Nat)(K:Value->J->Prop)(s:O)(h:List (List Int)),N a2 M->(∀c∈Q,c<M.size)->(∀c∈S',c<M.size)->oH M s h->h.length=f.length->(∀c∈h,c.length<=3)->(∀z y v u,eg (bM S' u) z y D v->xH D v c W->N M u->K (.agg #[O.v z,O.v y]) u)->aL cp 250 [.agg #[O.v d,O.v g],O.v s] M λam Y=>dR Q M Y/\K am Y:=λM S' Q K s h X hL ar P H E U=>
  (xC ar (hn.le (x2.trans X).le) hW hk P H E).mono λ_ u⟨z,y,v,p,B,⟨K1,_⟩,aa⟩=>⟨aa.dv hL,p▸U z y v u B K1 aa⟩
 have ao:∀{M:J}{a:Nat},N a2 M->a<M.size->∀c∈a::j.size::b,c<M.size:=λw hb c q=>by
  have:=w.size;rcases List.mem_cons.1 q with p|p
  ·omega
  ·have:=al c p;omega
 have ak:∀{M:J}{a:Nat},N a2 M->a<M.size->∀c∈[a,j.size,e.size],c<M.size:=λw hb c q=>by
  rcases List.mem_cons.1 q with p|p
  ·omega
  ·exact w.lt (I c p)
 refine⟨an a2 _ _ (N.az _) I λs h ac P H E i=>⟨_,rfl,t (N.az _) i _,t (N.az _) i _,⟨?_,?_⟩⟩,?_⟩
 ·refine cG ac (j.size::b) _ _ s h i (λc q=>i.lt (I c q)) (λc q=>i.lt (al c q)) P H E λz y v m3 B K R=>⟨_,_,rfl,?_⟩;have G:=i.trans R;intro m4;have u4:N a2 m4:=G.aN _;refine⟨t G u4 _,t G u4 _,t G u4 _,t G u4 _,?_⟩;intro m5;have ab:N m3 m5:=(N.push m3 _).ah (ad _) _ _;exact tail m5 m3.size z y v (G.trans ab) G.size (cx.ah (m:=m4) (o:=0) (r:=[.s z,.s y]) (cx.push m3 _ _)) (B.le (ab.bM λc q=>by
   rcases List.mem_cons.1 q with p|p
   ·exact Or.inr V
   ·exact Or.inl p)) K
 ·intro ab;have G:N a2 ab:=i.aN _;refine⟨t i G _,t i G _,t i G _,t i G _,?_⟩;refine cG ab (ac.size::j.size::b) _ _ s h G (ak G (by simp[ab])) (ao G (by simp[ab])) (oH.ext (N.push _ _) P) H E λz y v aj B K R=>⟨_,_,rfl,?_⟩;intro ap;exact tail ap ac.size z y v ((G.trans R).ah i.size _ _) i.size (cx.ah (m:=aj) (o:=0) (r:=[.s z,.s y]) ((cx.push ac _ _).ext R)) (B.le (cv aJ λ_ w=>w)) K
 ·intro ab;have G:N a2 ab:=N.push _ _;refine⟨t (N.az _) G _,t (N.az _) G _,t (N.az _) G _,t (N.az _) G _,?_⟩;refine an ab _ _ G (ak G (by simp[ab])) λs h aq P H E i=>⟨_,rfl,t G (G.trans i) _,t G (G.trans i) _,?_⟩;have aj:=G.trans i;have ap:a2.size<aq.size:=i.lt (by simp[ab]);refine cG aq (a2.size::j.size::b) _ _ s h aj (ak aj ap) (ao aj ap) P H E λz y v ay B K R=>⟨_,_,rfl,?_⟩;intro az;exact tail az a2.size z y v ((aj.trans R).ah (ad _) _ _) (ad _) (cx.ah (m:=ay) (o:=0) (r:=[.s z,.s y]) ((cx.push a2 _ _).ext (i.trans R))) (B.le (cv aJ λ_ w=>w)) K
end
section
variable{w:Int}{r:List Int}
structure bQ where
 aS:Int
 kd:Int
 aR:List Int
structure aW where
 eu:Int
 pc:Int
 dst:Int
 ao:List Int
 aQ:List Int
 br:List Int
structure St where
 bW:Int
 value:Int
 bE:Int
 aY:Int
 bd:List Int
 heap:List bQ
 aA:List aW
def D(l:List Int)(i:Int):Int:=l.getD i.toNat 0
def gF(l:List Int)(i:Int)(v:Int):List Int:=l.set i.toNat v
def ix(w:Int):Nat:=(w -1000).toNat
def jm(w:Int):Prop:=-999<=w/\w<=999
def eH(h:List bQ)(a:Nat):Prop:=∃c,h[a]? =some c/\0<c.aS
def fQ(h:List bQ)(w:Int):Prop:=1000<=w/\eH h (ix w)
def wo(h:List bQ)(w:Int):Prop:=jm w\/fQ h w
def ic:bQ:=⟨0,0,[]⟩
def aG(h:List bQ)(w:Int):bQ:=(h[ix w]?).getD ic
def YO:dk:=⟨[],[],0,0,[]⟩
def dy(a:cq)(n:Int):dk:=(a.cB[n.toNat]?).getD YO
def bz(a:cq):Int:=(eE a.aT).length
def fR:List Int->Nat->Int
 |[],_=>0
 |w::b,a=>(if w=1000+(a:Int)then 1 else 0)+fR b a
def mj:List bQ->Nat->Int
 |[],_=>0
 |c::h,a=>fR c.aR a+mj h a
def fq:List Int->List Int->Nat->Int
 |r::c,o::b,a=>(if r=1000+(a:Int)then o else 0)+fq c b a
 |_,_,_=>0
def lB:List aW->Nat->Int
 |[],_=>0
 |f::b,a=>fq f.ao f.aQ a+lB b a
def holds:List aW->Nat->Int
 |[],_=>0
 |f::b,a=>fR f.br a+holds b a
def na(a:cq)(x:Instr)(k:Nat):Bool:=(dy a x.bL).cG.any (λy=>y==(k:Int))
def gT(a:cq)(x:Instr):Nat->List Int->List Int
 |_,[]=>[]
 |k,r::b=>if na a x k then gT a x (k+1) b else r::gT a x (k+1) b
def fg(a:cq)(x:Instr):Nat->List Int->List Int
 |_,[]=>[]
 |k,r::b=>if na a x k then r::fg a x (k+1) b else fg a x (k+1) b
def bS(a:cq)(x:Instr):List Int:=
 if x.op=15\/x.op=6\/x.op=10\/x.op=11\/x.op=18\/x.op=23 then x.args
 else if x.op=16\/x.op=17 then x.args.take 1
 else if x.op=9\/x.op=24 then gT a x 0 x.args
 else[]
def bB(ao aQ:List Int):List Int->List Int
 |[]=>aQ
 |r::a=>bB ao (if 1000<=D ao r then gF aQ r (D aQ r -1)else aQ) a
def cy(f:aW)(a:List Int):List Int:=a.map (D f.ao)
def j7(l:List Int):List Int:=l.filter (λw=>decide (1000<=w))
def kH(h:List bQ)(a:List Int):Prop:=∀w∈a,1000<=w->(aG h w).aS+fR a (ix w)<=999999
def D0(h:List bQ)(f:aW)(x:Instr):Prop:=
 let w:=D f.ao (D x.args 0)
 fQ h w/\j7 (aG h w).aR=cy f (x.args.drop 1)/\((aG h w).aS=1\/kH h (aG h w).aR)/\(x.op=17->D f.br (D x.args 0)=0)
def uS(a:cq)(h:List bQ)(w:Int):Prop:=
 fQ h w/\0<=(aG h w).kd -bz a/\(aG h w).kd -bz a<a.cB.length/\
  (dy a ((aG h w).kd -bz a)).params.length=(aG h w).aR.length+1/\(dy a ((aG h w).kd -bz a)).cG.length=0/\
  ((aG h w).aS=1\/kH h (aG h w).aR)
def Ea(h:List bQ)(f:aW)(x:Instr):Prop:=
 x.bH≠0->D f.br (x.bH -1)≠0->(aG h (D f.br (x.bH -1))).aR.length=x.args.length
def I5(a:cq)(h:List bQ)(f:aW)(x:Instr):Prop:=∀r∈fg a x 0 x.args,1000<=D f.ao r->fQ h (D f.ao r)
def Qy(l:List Int):Prop:=∀n∈l,n=0
structure jr(im:cq)(s:St)(f:aW)(x:Instr)(aQ:List Int):Prop where
 nn:∀o∈aQ,0<=o
 dst:lx x.op->D aQ x.dst<=0
 nu:(x.op=1\/x.op=2\/x.op=3\/x.op=4\/x.op=5\/x.op=20)->∀r∈x.args,D f.ao r<1000
 gL:x.op=6->Ea s.heap f x
 cG:(x.op=9\/x.op=24)->I5 im s.heap f x
 zero:(x.op=24\/x.op=23)->Qy aQ/\Qy f.br
 ret:x.op=23->1<s.aA.length\/D f.ao (D x.args 0)<1000
 apply:x.op=11->uS im s.heap (D f.ao (D x.args 0))
 Th:x.op=14->fQ s.heap (D f.ao (D x.args 0))/\(aG s.heap (D f.ao (D x.args 0))).aS<999999
 drop:x.op=15->1000<=D f.ao (D x.args 0)
 Ct:(x.op=16\/x.op=17)->D0 s.heap f x
 load:x.op=19->fQ s.heap (D f.ao (D x.args 0))/\x.bL<(aG s.heap (D f.ao (D x.args 0))).aR.length
 Ax:x.op=21->fQ s.heap (D f.ao (D x.args 0))/\(aG s.heap (D f.ao (D x.args 0))).kd∈cg im.aT x.bL
def Ef(n:Int):Int:=if n< -999 then -999 else if 999<n then 999 else n
def MN(c a b:Int):Int:=
 if c=1 then Ef (a+b)else if c=2 then Ef (a -b)else if c=3 then Ef (a*b)else if c=4/\a<b then 1 else 0
def dg:List bQ->Nat
 |[]=>0
 |c::h=>if c.aS=0 then 0 else dg h+1
def gL(h:List bQ)(a:Nat)(c:bQ):List bQ:=if a=h.length then h++[c]else h.set a c
def lW(h:List bQ)(w:Int):List bQ:=h.set (ix w) {aG h w with aS:=(aG h w).aS+1}
def eQ(h:List bQ)(w:Int):List bQ:=h.set (ix w) {aG h w with aS:=(aG h w).aS -1}
def il(h:List bQ):List Int->List bQ
 |[]=>h
 |w::a=>il (lW h w) a
def iA(h:List bQ):Nat->Nat
 |0=>0
 |n+1=>match h[n]? with
  |some c=>if c.aS=0 then iA h n else n+1
  |none=>iA h n
def mM(h:List bQ):List bQ:=h.take (iA h h.length)
def yM:List bQ->Nat
 |[]=>0
 |c::h=>(if 0<c.aS then c.aS.toNat+c.aR.length else 0)+yM h
def iQ:∀{e:List bQ}{f:Nat}{b d:bQ},e[f]? =some b->yM (e.set f d)+(if 0<b.aS then b.aS.toNat+b.aR.length else 0)=yM e+(if 0<d.aS then d.aS.toNat+d.aR.length else 0)
 |[],f,b,d,e=>by simp at e
 |i::e,0,b,d,g=>by simp at g;subst g;simp only[fj,yM];omega
 |i::e,f+1,b,d,g=>by
  have:=iQ (e:=e) (f:=f) (b:=b) (d:=d) (by simpa using g);simp only[fO,yM];omega
def bY{h:List bQ}(b:fQ h w):h[ix w]? =some (aG h w)/\0<(aG h w).aS:=by
 obtain⟨_,d,a,c⟩:=b;simp[aG,a,c]
open Classical in
noncomputable def fY (h:List bQ) (c:List Int):List bQ:=
 match c with
 |[]=>h
 |w::r=>
  if b:fQ h w then
   if a:(aG h w).aS=1 then fY (h.set (ix w) ic) ((aG h w).aR.reverse++r)
   else fY (eQ h w) r
  else fY h r
termination_by yM h+c.length
decreasing_by
 ·obtain⟨e,a⟩:=bY b
  have:=iQ (d:=ic) e
  simp only[ic,an a]at this
  simp[ic]
  simp at this
  omega
 ·obtain⟨e,a⟩:=bY b
  have b:=iQ (d:={aG h w with aS:=(aG h w).aS -1}) e
  simp only[an a]at b
  rw[an V]at b
  simp[eQ]
  omega
 ·simp
def pK(h:List bQ):fY h []=h:=by rw[fY]
def pL{h:List bQ}(b:fQ h w)(a:(aG h w).aS=1):fY h (w::r)=fY (h.set (ix w) ic) ((aG h w).aR.reverse++r):=by
 rw[fY,Q6 b,Q6 a]
def nP{h:List bQ}(b:fQ h w)(a:(aG h w).aS≠1):fY h (w::r)=fY (eQ h w) r:=by
 rw[fY,Q6 b,dif_neg a]
def nQ{h:List bQ}(a:¬fQ h w):fY h (w::r)=fY h r:=by
 rw[fY,dif_neg a]
def aW.put(f:aW)(r w o:Int):aW:={f with ao:=gF f.ao r w,aQ:=gF f.aQ r o}
def fV(w:Int):Int:=if 1000<=w then 1 else 0
def dw(aQ:List Int):List Int->List Int
 |[]=>aQ
 |r::a=>dw (gF aQ r (D aQ r+1)) a
def cZ(n:Nat):List Int:=List.replicate n 0
def dA(cG:List Int):Nat->List Int->List Int
 |_,[]=>[]
 |k,w::a=>(if cG.any (λy=>y==(k:Int))then 0 else fV w)::dA cG (k+1) a
def bg(a:cq)(g c:Int)(b:List Int):aW:=
 ⟨g,0,c,b++cZ ((dy a g).ao.toNat -b.length),dA (dy a g).cG 0 b++cZ ((dy a g).ao.toNat -b.length),cZ (dy a g).ao.toNat⟩
open Classical in
noncomputable def apart (h:List bQ) (w:Int):List bQ:=
 if(aG h w).aS=1 then mM (h.set (ix w) ic)else il (eQ h w) (j7 (aG h w).aR)
def qA(l:List Int)(n:Int):Nat:=l.findIdx (λy=>y==n)
open Classical in
noncomputable def dJ (b:cq) (s:St) (a:List aW) (f:aW) (x:Instr) (aQ:List Int):St:=
 let g:aW:={f with aQ:=aQ,pc:=f.pc+1}
 let c:=D x.args 0
 let w:=D f.ao c
 if x.op=0 then{s with aA:=a++[g.put x.dst x.bL 0]}
 else if x.op=1\/x.op=2\/x.op=3\/x.op=4 then{s with aA:=a++[g.put x.dst (MN x.op w (D f.ao (D x.args 1))) 0]}
 else if x.op=5 then{s with bd:=s.bd++[w],aA:=a++[g.put x.dst w 0]}
 else if x.op=6 then
  if x.bH≠0/\D f.br (x.bH -1)≠0 then
   {s with heap:=s.heap.set (ix (D f.br (x.bH -1))) ⟨1,x.bL,cy f x.args⟩,aA:=a++[{g with br:=gF f.br (x.bH -1) 0}.put x.dst (D f.br (x.bH -1)) 1]}
  else{s with heap:=gL s.heap (dg s.heap) ⟨1,x.bL,cy f x.args⟩,aA:=a++[g.put x.dst (1000+dg s.heap) 1]}
 else if x.op=10 then{s with heap:=gL s.heap (dg s.heap) ⟨1,bz b+x.bL,cy f x.args⟩,aA:=a++[g.put x.dst (1000+dg s.heap) 1]}
 else if x.op=14 then{s with heap:=lW s.heap w,aA:=a++[{g with aQ:=gF aQ c (D aQ c+1)}]}
 else if x.op=15 then{s with heap:=mM (fY s.heap [w]),aA:=a++[g]}
 else if x.op=16\/x.op=17 then
  let d:={g with aQ:=dw aQ (x.args.drop 1)}
  if(aG s.heap w).aS=1/\x.op=17 then{s with heap:=s.heap.set (ix w) ⟨-1,0,cZ (aG s.heap w).aR.length⟩,aA:=a++[{d with br:=gF f.br c w}]}
  else{s with heap:=apart s.heap w,aA:=a++[d]}
 else if x.op=18 then{s with aA:=a++[g.put x.dst w (fV w)]}
 else if x.op=19 then{s with aA:=a++[g.put x.dst (D (aG s.heap w).aR x.bL) 0]}
 else if x.op=20 then{s with aA:=a++[{g with pc:=if w=0 then x.bL else f.pc+1}]}
 else if x.op=21 then{s with aA:=a++[{g with pc:=D x.dX (qA (cg b.aT x.bL) (aG s.heap w).kd)}]}
 else if x.op=22 then{s with aA:=a++[{g with pc:=x.bL}]}
 else if x.op=9 then{s with bE:=s.bE+1,aA:=a++[g,bg b x.bL x.dst (cy f x.args)]}
 else if x.op=24 then{s with bE:=s.bE+1,aA:=a++[bg b x.bL f.dst (cy f x.args)]}
 else if x.op=11 then
  {s with bE:=s.bE+1,heap:=apart s.heap w,aA:=a++[g,bg b ((aG s.heap w).kd -bz b) x.dst ((aG s.heap w).aR++[D f.ao (D x.args 1)])]}
 else -- 23
  match a.getLast? with
  |none=>{s with bW:=0,value:=w,aA:=[]}
  |some p=>{s with aA:=a.dropLast++[p.put f.dst w (fV w)]}
def mE(a:Int):Prop:=a=9\/a=11\/a=24
instance(a:Int):Decidable (mE a):=by unfold mE;infer_instance
def dh(a:cq)(f:aW):Instr:=((dy a f.eu).cJ[f.pc.toNat]?).getD ⟨0,0,0,0,[],[]⟩
open Classical in
noncomputable def mT (a:cq) (s:St):St:=
 if s.bW≠3 then s else
 match s.aA.getLast? with
 |none=>s
 |some f=>
  if mE (dh a f).op/\s.bE=s.aY then{s with bW:=1}
  else if jr a s f (dh a f) (bB f.ao f.aQ (bS a (dh a f)))then
   dJ a s s.aA.dropLast f (dh a f) (bB f.ao f.aQ (bS a (dh a f)))
  else{s with bW:=2}
end
end Go.Proofs.YtgnjacfobdjeeaaGreat
