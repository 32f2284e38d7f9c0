/- Part of a proof, joined by a program. -/
import Derived.Test.YtakpkjhmbbfniaaGreatU06
import Derived.Test.YtakpkjhmbbfniaaGreatU07
set_option linter.unusedVariables false
set_option linter.unusedSimpArgs false
set_option linter.defProp false
set_option linter.constructorNameAsVariable false
set_option maxHeartbeats 8000000
set_option maxRecDepth 100000
namespace Go.Proofs.YtakpkjhmbbfniaaGreat
open Go.Vc
structure Wt(ds:List bO)(nr:Nat)(v lm:List Int)(b:Bk):Prop where
 aV:∀o∈lm,0<=o/\o<(v.length:Int)
 lN:lm.length+5*b.w<=1000000
 vN:v.length+5*b.w<=1000000
 wb:WB ds nr False v.length b
def UO(a:List bO)(d:List fF)(b:Bk):Prop:=∀(S:List Nat)(m:I),(∀c∈S,c<m.size)->∀(f r h t g:O)(v c:List Int),dI m f r a d->au m h v->dL m t b.aA->au m g c->Wt a d.length v c b->
 lV 160 [.agg #[O.v f,O.v r],O.v h,.agg #[O.v t,vi b.aR],O.v g] m S λe=>WB a d.length True v.length e/\e.w+20<=40*b.w+2*c.length
def Hi{q:List Nat}{m:I}(hS:∀c∈q,c<m.size){ai am ay aY Q:O}{L:List bO}{rs:List fF}{v:List Int}{x:cg}(hn:dI m ai am L rs)(hv:au m ay v)(ha:au m aY x.args)(hk:mf m Q x.bt)
 (vN:v.length+5*x.w<=1000000)(aO:WS L rs.length False v.length x)(ih:∀h∈x.bt,UO L rs h):
 HP 190 [.agg #[O.v ai,O.v am],O.v ay,np x aY Q] m q λx'=>WS L rs.length True v.length x'/\x'.op=x.op/\x'.w<=1+x.args.length+40*bw x.bt:=by
 apply Ad
 simp -zeta only[aE,aD]
 intro K e o a5
 obtain⟨T,N,s0,s1,s2⟩:=oE (c:=K) (a:=e) (b:=o) rfl rfl rfl
 have a_:J o a5:=J.push _ _
 have gk:=GB.new (e.size::q) o
 clear_value o
 have bu:=ha.len;have bk:=hk.len;have hw:=cg.kT x;have bH:=H9 x.bt;have bp:=hv.len
 have aM:∀c∈e.size::q,c<o.size:=bD hS T.size (N _ E)
 refine(fV (S:=[o.size]) (by simp[a5]) (hn.le (T.trans a_).le).aY hn.types x.bJ).aG a_ N λc cl m4 d aR x4 u4=>⟨_,rfl,?_⟩
 subst aR
 have bI:=d.len
 refine dt (n:=x.bt.length) (bk▸hk.gA) (λj s M=>Fz [o.size] m4 M/\(s.F=o.size\/m4.size<=s.F)/\∃r,GB (e.size::q) o M s r/\r.length=j/\(∀(ab:Nat)(h:Bk),r[ab]? =some h->WB L rs.length True (v.length+y9 L x.op x.bJ ab) h)/\bw r<=40*bw (x.bt.take j)) ⟨Fz.aC _ _,Or.inl rfl,[],gk.ext pL.mono x4,rfl,E,E⟩ ?_
 rintro j s m5 aW μ hj ⟨f5,bm,r,H,bJ,a4,a0⟩ bs
 have R:=SR u4 f5 (ad _)
 have hy:=H.aZ
 refine dit (λy=>?_) λy=>?_
 ·intro m6
  have x6:J m5 m6:=J.push _ _
  have u6:=R.trans x6
  obtain⟨h,U⟩:=ag (l:=x.bt) (k:=j) V
  have bC:=uE U
  have bG:=sI U
  have bv:=NJ hn.types x.op x.bJ j
  have bA:=oF x.bt
  refine⟨λaZ M=>J m5 M/\∃G,au M aZ G/\G.length=y9 L x.op x.bJ j,⟨λh8=>?_,λh8=>?_⟩,?_⟩
  ·simp only[aL]at h8
   have i:=(aO.dX.all h8).1
   obtain⟨f,a⟩:=ag (l:=bU L x.bJ) (k:=j) V
   refine⟨V,V,f,(dN.1 ((d.le ((f5.then x6).cK E)).u a)).2,?_⟩
   refine(dm (S:=[]) E ((hn.le (T.trans u6).le).aY.le (xy _)) hn.types f).aG u6 N λaZ G m7 hf aR g p=>⟨_,rfl,x6.trans g,G,hf.le (bo _ _),?_⟩
   subst aR;exact(HY h8 a).symm
  ·simp only[an]at h8
   exact⟨x6,[],lg _ _ _ _ _ _,(HZ h8).symm⟩
  rintro fs m8 ⟨X,G,hf,a2⟩
  have u8:=R.trans X
  have e8:(ay.len:Int)=((v.length:Nat):Int):=by rw[bp]
  rw[e8]
  refine(pS (S:=[]) E (hf.le (xy _)) v.length V).aG u8 N λmi ml A gm qm Z u9=>⟨_,rfl,?_⟩
  obtain⟨aU,hs,e0,e1⟩:=hk.u U
  have v9:=T.trans u9
  refine⟨V,V,_,v9.D e0,_,v9.D e1,?_⟩
  have z5:=R.size
  have g9:=H.ext pL.mono (X.trans Z)
  have a3:∀{M:I},J A M->au M mi ml:=λy=>((gm.done E (by have:=qm.2;omega)).le (bo _ _)).ext y
  have bK:=qm.2
  have E5:∀{M f:I},J o M->J o f->∀{a6:Prop},a6->D f Q.F (Q.off+Int.toNat (j:Int)*2)=D M Q.F (Q.off+Int.toNat (j:Int)*2)/\D f Q.F (Q.off+Int.toNat (j:Int)*2+1)=D M Q.F (Q.off+Int.toNat (j:Int)*2+1)/\
   D f K.size 4=D M K.size 4/\D f m.size 0=D M m.size 0/\D f m.size 1=D M m.size 1/\a6:=λ{M f} y h' _ hp=>by
   have aC:∀h,h<o.size->∀B,D f h B=D M h B:=λh U B=>aJ (by rw[h'.same h U,y.same h U]) B
   exact⟨((T.trans h').D e0).trans ((T.trans y).D e0).symm,((T.trans h').D e1).trans ((T.trans y).D e1).symm,aC _ V _,aC _ V _,aC _ V _,hp⟩
  have ap:∀{M:I},J m5 M->∀c∈s.F::e.size::q,c<M.size:=λy c d=>by
   have:=y.size;rcases List.mem_cons.1 d with g|g
   ·omega
   ·have:=aM c g;omega
  have hL:∀{M:I}{a:Nat},J m5 M->a<M.size->∀c∈[a,e.size,K.size,m.size],c<M.size:=λy U c d=>by
   rcases List.mem_cons.1 d with g|g
   ·omega
   ·exact(R.trans y).lt (N c g)
  have tail:∀(M:I)(a:Nat)(W:O)(i:Bk),GB (a::e.size::q) o M s r->J m5 M->J A M->A.size<=a->a<M.size->dL (bz (a::s.F::e.size::q) M) W i.aA->WB L rs.length True (v.length+G.length) i/\i.w+20<=40*h.w+2*ml.length->
   let p:I:=aj M a 0 [.s W,.i i.aR]
   aN bY 187 [vi (14:Int),O.v mi] p λrv t=>dV [a,e.size,K.size,m.size] p t/\∃ac:O,rv=O.v ac/\D t a 1=D p a 1/\D t a 0=D p a 0/\
    iP t fp [.i (0:Int),.i (0:Int),.i (0:Int),.s O.nil,.s O.nil] 72 ac W λav z=>dV [a,e.size,K.size,m.size] t z/\D z a 1=D t a 1/\
     let M4:I:=z.push (.cells (br [.s av,.i i.aR]) cQ)
     iP M4 cQ [.s O.nil,.i (0:Int)] 32 s (O.mk z.size 0 1 1) λae M5=>dV [a,e.size,K.size,m.size] M4 M5/\aW ae (cO ((j:Int)+(1:Int))) M5/\μ ae (cO ((j:Int)+(1:Int))) M5<μ s j m5:=by
   intro M a W i H P bq bj bx ak hq p
   have z1:p.size=M.size:=az _ _ _ _
   have z9:=(X.trans Z).size
   have ba:J A p:=bq.aj bj _ _
   have aa:J m5 p:=(X.trans Z).trans ba
   have bl:s.F≠a:=V
   have g1:GB (e.size::q) o p s r:=H.re pL.mono (Y:=[a]) ((Fz.aC [a] M).aj (Or.inl E) _ _) E (by simpa using bl) λc d=>Or.inl (ah _ d)
   have bn:dL (bz (s.F::e.size::q) p) W i.aA:=ak.le (bS E λc d=>ah _ d)
   have bE:=Bk.kT i;have a0:=eY i.aA
   refine(dU (S:=s.F::e.size::q) (ap aa) 14 (a3 ba) V).aG (J.aC p) (hL aa V) λac _ t aI g ao _=>⟨_,rfl,aJ (ao.same _ V) _,aJ (ao.same _ V) _,?_⟩
   subst g
   have z2:=ao.size
   refine GS.all aI (ao.fz []) (bn.le (qX ao aI.aZ.1)) bF λav z bf be bN a7=>?_
   have af:J p z:=be.ext
   have z3:=af.size
   have bL:=aI.aZ
   refine⟨λc d=>a7 c (by have:=hL aa (a:=a) V c d;omega) (by have:=hL aa (a:=a) V c d;omega),aJ (a7 _ V V) _,?_⟩
   intro M4
   have bh:=bf.done fA.mono (ap aa) bd bF
   refine GB.jN (b:=.mk (ml.map (dW 14)++i.aA) i.aR) (g1.ext pL.mono af) ((((R.trans aa).trans af)).fz []) bh V λae M5 bg bt bc a8=>⟨λc d=>?_,bs V _ _ ⟨(f5.then (aa.trans af)).LA bm bc.1 a8,?_,_,bg,bF,λab b2 u=>?_,?_⟩⟩
   ·have:=hL (aa.trans af) (a:=a) V c d
    rw[a8 c this (by simp at d;omega),(J.push z _).same c this]
   ·have h1:=(f5.then (aa.trans af)).size
    rcases bc.2 with g|g<;>omega
   ·rcases aX ab r.length with w|w
    ·rw[aw w]at u;exact a4 ab b2 u
    ·rw[aF w]at u
     have:ab -r.length=0:=by have:=ax u;simp at this;omega
     rw[this]at u;simp at u;subst u
     have:ab=j:=V
     subst this
     rw[<-a2]
     refine WB.of ((pO V λB ho=>?_).append ?_) ?_
     ·have:=qm.1 B ho;omega
     ·rw[jc V];exact hq.1.bq.1
     ·rw[cp,jc V,bQ];exact hq.1.bq.2
   ·rw[mX,sH,xe,Bk.oU,db,mE]
    have:=hq.2;omega
  have a1:∀(M:I)(aH:List Nat)(aG:Value->I->Prop),J A M->(∀c∈aH,c<M.size)->(∀s f,au f s (v++G)->J M f->aG (O.v s) f)->aN bY 116 [O.v ay,O.v fs] M λv m'=>dV aH M m'/\aG v m':=λM aH aG P hL hK=>
   (dK (S:=[]) E ((hv.ext (v9.trans P)).le (xy _)) ((hf.ext (Z.trans P)).le (xy _)) V).aG (J.aC M) hL λs ll f H g x _=>hK s f (by subst g;exact(H.done E bF).le (bo _ _)) x
  have F:∀(M:I)(S':List Nat)(w:O),(∀c∈S',c<M.size)->J A M->au M w (v++G)->lV 160 [.agg #[O.v ai,O.v am],O.v w,.agg #[O.v aU,vi h.aR],O.v mi] M S' λi=>WB L rs.length True (v.length+G.length) i/\i.w+20<=40*h.w+2*ml.length:=by
   intro M S' w bi P u;have hm:=v9.trans P;have:=ih h (ar U) S' M bi ai am w aU mi (v++G) ml (hn.le hm.le) u (hs.le hm.le) (a3 P) ⟨λB ho=>?_,V,bF,by simp;rw[a2];exact aO.bt j h U⟩
   ·simpa using this
   ·have:=qm.1 B ho;simp;omega
  have ij:∀(M:I)(a:Nat)(w:O),GB (a::e.size::q) o M s r->J A M->A.size<=a->a<M.size->au M w (v++G)->
   aN bY 160 [.agg #[O.v ai,O.v am],O.v w,.agg #[O.v aU,vi h.aR],O.v mi] M λrv f=>dV [a,e.size,K.size,m.size] M f/\∃aS:O,∃aT:Int,rv=.agg #[O.v aS,vi aT]/\
    let p:I:=aj f a 0 [.s aS,.i aT]
    aN bY 187 [vi (14:Int),O.v mi] p λrv t=>dV [a,e.size,K.size,m.size] p t/\∃ac:O,rv=O.v ac/\D t a 1=D p a 1/\D t a 0=D p a 0/\
     iP t fp [.i (0:Int),.i (0:Int),.i (0:Int),.s O.nil,.s O.nil] 72 ac aS λav z=>dV [a,e.size,K.size,m.size] t z/\D z a 1=D t a 1/\
      let M4:I:=z.push (.cells (br [.s av,.i aT]) cQ)
      iP M4 cQ [.s O.nil,.i (0:Int)] 32 s (O.mk z.size 0 1 1) λae M5=>dV [a,e.size,K.size,m.size] M4 M5/\aW ae (cO ((j:Int)+(1:Int))) M5/\μ ae (cO ((j:Int)+(1:Int))) M5<μ s j m5:=by
   intro M a w H P h1 h2 h3
   have x5:=(X.trans Z).trans P
   have z9:=(X.trans Z).size
   refine(F M (a::s.F::e.size::q) w (λc d=>?_) P h3).aG (J.aC M) (hL x5 h2) λW i f ak hq aq _=>⟨_,_,rfl,tail f a W i (H.ext pL.mono aq) (x5.trans aq) (P.trans aq) h1 (aq.lt h2) ak hq⟩
   rcases List.mem_cons.1 d with g|g
   ·omega
   ·exact ap x5 c g
  have aQ:∀(M:I)(B:Obj),GB (e.size::q) o M s r->GB (M.size::e.size::q) o (M.push B) s r:=λM B H=>
   H.re pL.mono (Y:=[]) ((J.push M B).fz []) E E λc d=>by
    rcases List.mem_cons.1 d with g|g
    ·exact Or.inr V
    ·exact Or.inl g
  refine⟨a1 A _ _ (J.aC _) (λc d=>u9.lt (N c d)) λw aP u C=>⟨_,rfl,E5 u9 (u9.trans C) ⟨?_,?_⟩⟩,?_⟩
  ·have al:=u9.trans C
   have vP:=C.size
   refine(F aP (s.F::e.size::q) w (ap ((X.trans Z).trans C)) C u).aG al N λW i aB ak hq aA a9=>⟨_,_,rfl,?_⟩
   intro aV
   have bM:=aA.size
   exact E5 a9 (a9.aM _) (tail aV aB.size W i (aQ aB _ ((g9.ext pL.mono C).ext pL.mono aA)) ((((X.trans Z).trans C).trans aA).aM _) ((C.trans aA).aM _) V (by simp[aV]) (ak.le (qX (J.push aB _) (ad _))) hq)
  ·intro aA
   have al:=u9.trans C
   have vP:=C.size
   exact E5 al (al.aM _) (ij aA aP.size w (aQ aP _ (g9.ext pL.mono C)) (C.aM _) V (by simp[aA]) (u.ext (J.push _ _)))
  ·intro al
   have aA:J A al:=J.push _ _
   have aV:J o al:=u9.trans aA
   refine E5 u9 aV (a1 al _ _ aA (hL ((X.trans Z).trans aA) (by simp[al])) λw a9 u aB=>⟨_,rfl,E5 aV (aV.trans aB) ?_⟩)
   exact ij a9 A.size w ((aQ A _ g9).ext pL.mono aB) (aA.trans aB) (ad _) (aB.lt (by simp[al])) u
 ·have f:r.length=x.bt.length:=V
  rw[cE V]at a0
  refine(bB (e.size::q) (ha.ext (T.trans R)) V).aG R N λi p m6 a g x6 u6=>⟨_,rfl,aJ (x6.same _ (R.lt (N _ E))) _,aJ (x6.same _ (R.lt (N _ E))) _,?_⟩
  subst g
  intro m7
  refine⟨i,s,⟨x.op,x.bJ,0,x.args,r⟩,rfl,?_,?_,⟨aO.MQ (λy=>y.elim) ⟨V,V⟩ f a4,rfl,?_⟩,(T.trans u6).aj V _ _⟩
  ·exact(a.done (λc d=>aK (aM c d) R.size) V).le (bS E λc d=>ah _ d)
  ·exact mf.le (bS E λc d=>ah _ d) ((H.ext pL.mono x6).done pL.mono aM bd (by have:=oF x.bt;show r.length<=_;omega))
  ·rw[cg.kT]
   simp only
   omega
structure LB(ds:List bO)(nr:Nat)(S:List Nat)(m2 M:I)(v lm:List Int)(aA:List cg)(k:Nat)(st inn ow:O):Prop where
 x:J m2 M
 hs:∃l,GS (inn.F::ow.F::S) m2 M st l/\WL ds nr True v.length l/\dc l=dc (aA.take k)/\sw l+2*k<=40*sw (aA.take k)
 hi:∃l,GI S m2 M inn l/\l.length=v.length+dc (aA.take k)
 ho:∃l,GI S m2 M ow l/\l.length<=lm.length+k/\∀o∈l,0<=o/\o<((v.length+dc (aA.take k):Nat):Int)
 ne:inn.F≠ow.F
def Fq{H:List bO}{L:List fF}:∀r:Bk,UO H L r:=by
 refine Bk.ind ?_;intro aA C ih m G hS bf bR cn cm cj N lm hn hv hs bu hp;have av:=hp.wb.bq;have hw:=Bk.oU aA C;simp only[Bk.iY,Bk.iu]at*;have lN:=hp.lN;have vN:=hp.vN;rw[hw]at lN vN;apply yp;simp -zeta only[aE,aD];intro q d f ae;obtain⟨F,w,s0,s1,s2⟩:=oE (c:=q) (a:=d) (b:=f) rfl rfl rfl;have aM:J f ae:=J.push _ _;have aW:∀P,GS P f ae (.mk f.size 0 0 0) []:=λP=>GS.new P f;have s3:ae.size=f.size+1:=by simp[ae]
 clear_value ae;clear_value f;have bG:=hs.len;have bI:=yV aA;have b5:=eY aA;refine(bB m (hv.ext (F.trans aM)) V).aG aM w λg _ m4 t e x4 u4=>⟨_,rfl,?_⟩;subst e;refine(bB m (bu.ext (F.trans u4)) V).aG u4 w λj _ m5 B e x5 u5=>⟨_,rfl,?_⟩;subst e;have a5:=t.aZ;have bL:=B.aZ;refine OT (n:=aA.length) (bG▸hs.gA) (λi v g j a=>LB H L.length (d.size::m) f a N lm aA i v g j) ⟨u5,⟨[],((aW _).ext fA.mono x4).ext fA.mono x5,WL.nil _ _ _ _,rfl,E⟩,⟨N,((t.ext x5).cF (λ_ h=>h) aM.size).any,E⟩,⟨lm,(B.cF (λ_ h=>h) u4.size).any,V,by simpa using hp.aV⟩,V⟩ ?_;clear t B a5 bL aW;rintro i v g j u ba μ hk ⟨x6,⟨X,Q,aw,U,b6⟩,⟨li,t,ao⟩,⟨lo,B,bV,a1⟩,a3⟩ bP
 have v6:=F.trans x6;have bZ:=t.len bd;have bW:=qT (aA.take i);have b1:=oV i aA;have R:∀c∈d.size::m,c<f.size:=bD hS F.size (w _ E);have cf:=Q.aZ;have a5:=t.aZ;have ce:=B.aZ;have bH:=eY (aA.take i);have b0:i<=sw (aA.take i):=by rw[cZ]at bH;omega
 have b2:=eY X;have z6:=x6.size;have al:∀{a:I},GI (d.size::m) f a g li->au a g li:=λs=>(s.done R V).le (bo _ _);have aZ:∀{a:I},GI (d.size::m) f a j lo->au a j lo:=λs=>(s.done R V).le (bo _ _);have T:∀{a:I}{P:List Nat},u.size<=a.size->(∀c∈P,c<a.size)->∀c∈P++d.size::m,c<a.size:=λh hb c b=>by
  rcases List.mem_append.1 b with h|h
  ·exact hb c h
  ·have:=R c h;omega
 have aX:∀{a:I},J u a->∀c∈[d.size,q.size,G.size],c<a.size:=λh c b=>(x6.trans h).lt (w c b);have bw:v.F≠g.F:=Q.IH t bd;have a4:v.F≠j.F:=Q.IH B bd;refine dit (λh=>?_) λh=>?_
 ·obtain⟨af,y⟩:=ag (l:=aA) (k:=i) V;obtain⟨be,kk,ha,a0,g0,g1,g2,g3,g4⟩:=hs.u y;refine⟨V,V,_,v6.D g0,_,v6.D g1,_,v6.D g2,_,v6.D g3,_,v6.D g4,?_⟩;intro m7 A;have x8:J u A:=(J.push u _).aj (ad _) _ _;have s8:A.size=u.size+1:=by simp[A,m7,az]
  clear_value A;have u8:=x6.trans x8;have z:∀{a:I},A.size<=a.size->∀r∈[u.size,d.size,q.size,G.size],r<a.size:=λh r hb=>by
   rcases List.mem_cons.1 hb with e|e
   ·omega
   ·have:=u8.lt (w r e);omega
  have cb:=nY y;have b9:=oX y;have b_:=cg.kT af;have ab:WS H L.length False li.length af:=by rw[ao];exact av.1 i af y
  have aY:=WC ab;have b7:=bI (i+1);have aa:∀{a:I},J f a->At a bf bR be kk H L af:=λh=>⟨hn.le (F.trans h).le,ha.ext (F.trans h),ab.dX.call⟩;refine(mu (aa u8).Od (al (t.ext x8)) (aa u8).args (a0.le (F.trans u8).le) V λr _=>lQ r).aG (J.aC A) (z (ad _)) λty m9 x9 _=>⟨_,rfl,?_⟩;have X9:=u8.trans x9;have z9:=x9.size;refine(wh (S:=[]) E (aa X9) (al ((t.ext x8).ext x9)) ab.dX.args V).aG (J.aC m9) (z V) λdu dl bM bn a8 aK _=>⟨_,rfl,?_⟩;have bU:=a8.2;have vP:=aK.size;refine(dU (S:=[v.F,g.F,j.F]++d.size::m) (T V bF) 14 ((bn.done E V).le (bo _ _)) V).aG (J.aC bM) (z V) λcl _ ax bk e aL _=>⟨_,rfl,?_⟩;subst e;have bb:=(X9.trans aK).trans aL;have co:=aL.size;have aO:J u ax:=(((x8.trans x9).trans aK).trans aL);refine GS.all (Q.ext fA.mono aO) (bb.fz []) (bk.done fA.mono (T (P:=[v.F,g.F,j.F]) V bF) bd bF) bF λaH a6 aR bg a9 ay=>⟨λc b=>ay c (z V c b) ?_,?_⟩
  ·simp at b;omega
  have ak:J f a6:=bg.ext;have aS:=(t.ext aO).iv (ay _ V bw.symm);have bp:=(B.ext aO).iv (ay _ V a4.symm);have b3:aH.F=v.F\/ax.size<=aH.F:=a9.2;have cc:=aR.aZ;have cq:=a9.1;refine(Hi (q:=[aH.F,g.F,j.F]++d.size::m) (T V bF) (aa ak).Od (al aS) (aa ak).args (a0.le (F.trans ak).le) V ab (ih af (ar y))).aG (J.aC a6) (z V) λca ck x' a7 bs bt bQ ai _=>⟨_,_,_,_,_,rfl,?_⟩;obtain⟨bJ,bC,b8⟩:=bQ;have bc:=ak.trans ai;have cr:=ai.size;refine GS.jN (x:=x') (aR.ext fA.mono ai) (bc.fz []) bs bt bF λK am ap bh a_ aC=>⟨λc b=>?_,?_⟩
  ·have:=z (a:=a7) V c b;rw[aC c this (by simp at b;omega),(J.push a7 _).same c this]
  have aQ:J f am:=bh.ext;have cs:=a_.1;have aU:=(aS.ext ai).iv (aC _ V V);have aq:=(bp.ext ai).iv (aC _ V V);have b4:K.F=v.F\/ax.size<=K.F:=by have:=a_.2;omega
  have B1:WL H L.length True N.length (X++dl.map (dW 14)++[x'])/\dc (X++dl.map (dW 14)++[x'])=dc (aA.take (i+1))/\sw (X++dl.map (dW 14)++[x'])+2*(i+1)<=40*sw (aA.take (i+1)):=by
   have bX:dn x'=1:=by unfold dn at aY⊢;rw[bC];exact aY
   have d1:dc (dl.map (dW 14))=0:=jc V _;refine⟨((aw.append (pO V λo p=>?_)).xH ?_),?_,?_⟩
   ·rw[U,<-ao];exact ab.dX.args o (a8.1 o p)
   ·rw[cp,d1,U,iJ,<-ao];exact bJ
   ·rw[cp,cp,d1,U,jG,qU];omega
   ·rw[db,db,mE,ly,tw];omega
  have a2:∀o∈lo,0<=o/\o<((N.length+dc (aA.take (i+1)):Nat):Int):=λo p=>by
   have:=a1 o p;omega
  have aV:∀(a:I)(Z:O)(ac:List Int),J f a->A.size<=a.size->GS (g.F::Z.F::d.size::m) f a K (X++dl.map (dW 14)++[x'])->GI (d.size::m) f a g li->GI (d.size::m) f a Z ac->g.F≠Z.F->ac.length<=lm.length+(i+1)->(∀o∈ac,0<=o/\o<((N.length+dc (aA.take (i+1)):Nat):Int))->
   iP (a.push (.cells (br [.i ty]) aB)) aB [.i (0:Int)] 8 g (O.mk a.size 0 1 1) λaI M'=>dV [u.size,d.size,q.size,G.size] (a.push (.cells (br [.i ty]) aB)) M'/\ba K aI Z (cO ((i:Int)+(1:Int))) M'/\μ K aI Z (cO ((i:Int)+(1:Int))) M'<μ v g j i u:=by
   intro a Z ac y W s gI gO bv bq bE
   have cd:=gI.aZ;have bK:=gO.aZ
   have bA:K.F≠g.F:=s.IH gI bd
   refine GI.jN gI (y.fz []) R V λaI M' bm bj aP aG=>⟨λc b=>?_,bP V _ _ _ _ ⟨bj.ext,⟨_,s.re fA.mono (Y:=[g.F]) ⟨aP.1,λc b hn=>aG c b (by simpa using hn)⟩ E (by simpa using bA) (λc b=>?_),B1.1,B1.2.1,B1.2.2⟩,⟨_,bm,bF⟩,⟨ac,gO.iv (aG _ bK.2 bv.symm),bq,bE⟩,?_⟩⟩
   ·have:=z W c b
    rw[aG c this (by simp at b;omega),(J.push a _).same c this]
   ·simp only[aT]at b⊢
    rcases b with h|h|h
    ·rcases aP.2 with e|e
     ·exact Or.inl (Or.inl (h.trans e))
     ·exact Or.inr V
    ·exact Or.inl (Or.inr (Or.inl h))
    ·exact Or.inl (Or.inr (Or.inr h))
   ·rcases aP.2 with e|e<;>omega
  refine⟨λ_=>?_,λ_=>?_⟩
  ·intro ch;have bx:K.F≠j.F:=ap.IH aq bd;refine GI.jN aq (aQ.fz []) R V λbT bN bl bi an aF=>⟨λc b=>?_,?_⟩
   ·have:=z (a:=am) V c b;rw[aF c this (by simp at b;omega),(J.push am _).same c this]
   intro ci;have ct:=an.1;refine aV bN bT _ bi.ext V (ap.re fA.mono (Y:=[j.F]) ⟨an.1,λc b hn=>aF c b (by simpa using hn)⟩ E (by simpa using bx) λc b=>?_) (aU.iv (aF _ V a3)) bl ?_ bF ?_
   ·simp only[cN,dS,aT]at b⊢;rcases b with h|h|h
    ·exact Or.inl (Or.inl h)
    ·rcases an.2 with e|e
     ·exact Or.inl (Or.inr (Or.inl (h.trans e)))
     ·exact Or.inr V
    ·exact Or.inl (Or.inr (Or.inr h))
   ·rcases an.2 with e|e<;>omega
   ·intro o p;rcases List.mem_append.1 p with p|p
    ·exact a2 o p
    ·simp at p;omega
  ·intro an;exact aV am j lo aQ V ap aU aq a3 V a2
 ·have ax:i=aA.length:=V;subst ax;rw[eT]at*;have an:∀(a:I)(ab:O)(K:List cg),J f a->u.size<=a.size->GS (g.F::j.F::d.size::m) f a ab K->au a j lo->WL H L.length True N.length K->dc K=dc aA->sw K+2*aA.length<=40*sw aA+2->
   aN bY 187 [vi (15:Int),O.v j] a λrv A=>dV [d.size,q.size,G.size] a A/\∃ai:O,rv=O.v ai/\D A q.size 1=D a q.size 1/\
    iP A fp [.i (0:Int),.i (0:Int),.i (0:Int),.s O.nil,.s O.nil] 72 ab ai λac M2=>dV [d.size,q.size,G.size] A M2/\D M2 q.size 1=D A q.size 1/\
     let Z:I:=aj M2 d.size 0 [.s ac,.i C]
     ∃ap r,Value.agg #[O.v ac,vi C]=.agg #[O.v ap,vi r.aR]/\dL (bz m Z) ap r.aA/\(WB H L.length True N.length r/\r.w+20<=40*(Bk.mk aA C).w+2*lm.length)/\J G Z:=by
   intro a ab K y W s p aG am aI
   have hy:=s.aZ
   have aH:=eY K
   have aF:q.size<a.size:=y.lt (w _ E)
   refine(dU (S:=[ab.F,g.F,j.F]++d.size::m) (T W bF) 15 p V).aG y w λai _ A aq e z u1=>⟨_,rfl,aJ (z.same _ aF) _,?_⟩
   subst e
   have z1:=z.size
   have ay:∀c∈[d.size,q.size,G.size],c<A.size:=λc b=>u1.lt (w c b)
   have aC:∀c∈[d.size,q.size,G.size],c<f.size:=w
   refine GS.all (s.ext fA.mono z) (u1.fz []) (aq.done fA.mono (T (P:=[ab.F,g.F,j.F]) W bF) bd bF) bF λac M2 g2 af ak aa=>⟨λc b=>aa c (ay c b) (by have:=aC c b;omega),aJ (aa _ V V) _,?_⟩
   intro Z
   refine⟨ac,.mk _ C,rfl,dL.le (bS E λc b=>ah _ b) ((g2.re fA.mono (S':=d.size::m) (Y:=[]) (Fz.aC _ _) E E (λc b=>Or.inl (ah _ (ah _ b)))).done fA.mono R bd bF),⟨WB.of (aG.append (pO V λo p=>?_)) ?_,?_⟩,(F.trans af.ext).aj V _ _⟩
   ·have:=a1 o p;rw[am];exact this
   ·rw[cp,jc V,am];exact av.2
   ·rw[Bk.oU,Bk.oU,db,mE];omega
  obtain⟨ak,W⟩:=ag (l:=li) (k:=C.toNat) V;refine⟨V,V,ak,(al t).u W,λ_=>?_,λ_=>?_⟩
  ·refine(hO (S:=[v.F,g.F,j.F]++d.size::m) (T (ad _) bF) 14 C).mono λrv A⟨pa,pk,e,h1,h2,z⟩=>?_;subst e;refine⟨z.de (aX (J.aC _)),_,_,_,_,_,rfl,?_⟩;have z1:=z.size;refine GS.jN (x:=dW 14 C) (Q.ext fA.mono z) ((x6.trans z).fz []) h1 h2 V λr' Z s af ak aa=>⟨λc b=>?_,an Z r' _ af.ext V s (aZ ((B.ext z).iv (aa _ V a4.symm))) (aw.xH (Bg V (by rw[U];exact av.2))) ?_ ?_⟩
   ·have:=aX z c b;have h5:=w c b;rw[aa c this V,(J.push A _).same c this]
   ·rw[cp,U];simp[jG,dn,dW,nt]
   ·rw[db,ly,tw];have h5:(dW 14 C).w=2:=by rw[cg.kT];rfl
    omega
  ·exact an u v X x6 (ad _) Q (aZ B) aw U V
section
variable{S:List Nat}{m b f:I}{g:List bO}{p t v u h:O}{q:fF}{w:Int}{d e s j:Nat}
def lB.mono:mD 1 lB:=⟨λh=>lB.le h _ _,λ⟨_,h,_⟩=>by rw[h];rfl⟩
def gH.mono:mD 3 gH:=⟨λh=>gH.le h _ _,λ⟨_,h,_⟩=>by rw[h];rfl⟩
def eV(w:∀c∈S,c<m.size){aY:O}(C:bR m aY g)(x:dx g):aN bY 87 [O.v aY] m λZ E=>∃s,Z=O.v s/\bR (bz S E) s g/\J m E:=by
 apply xS;intro R;have ah:=C.len;have af:=x.len;have v:Gr S m R jh 3 gH (.mk m.size 0 0 0) []:=Gr.new S (ad _) _ _ _;refine dt (n:=g.length) V (λr s M=>J m M/\Gr S m M jh 3 gH s (g.take r)) ⟨J.push _ _,v⟩ ?_;rintro r s b ac μ hk ⟨t,o⟩ X
 have hy:=o.aZ;refine dit (λj=>?_) λj=>?_
 ·obtain⟨h,p⟩:=ag (l:=g) (k:=r) V;obtain⟨A,D,v,K,B⟩:=C.u p;have ai:=D.len;have ae:=jY x p;intro T;have i:Gr (s.F::S) b T nj 1 lB (.mk b.size 0 0 0) []:=Gr.new _ (ad _) _ _ _;refine dt (n:=h.cons.length) V (λz c M=>J b M/\Gr (s.F::S) b M nj 1 lB c (h.cons.take z)) ⟨J.push _ _,i⟩ ?_;rintro z c F I2 μ2 hj ⟨u,i⟩ W;have d:=t.trans u;refine⟨V,V,A,d.D B,dit (λP=>?_) λP=>?_⟩
  ·obtain⟨H,y⟩:=ag (l:=h.cons) (k:=z) V;obtain⟨ab,Q,M⟩:=D.u y;have aj:H.length<=3:=(((x.dh r h p).gR V).2.2.2 H (ar y)).1;refine⟨V,V,A,d.D B,V,V,ab,d.D M,?_⟩;have ak:=i.aZ;refine(bB (c.F::s.F::S) (Q.ext d) V).then λz' _ f N e G=>⟨_,rfl,?_⟩;subst e;have aa:=u.trans G;intro U;refine Gr.jN (f:=[.s .nil]) lB.mono bd (i.ext lB.mono G) (aa.fz []) ⟨z',rfl,N.done (λe q=>?_) V⟩ bF λY m7 L I _ _=>W V _ _ ⟨I.ext,by rw[bK y];exact L⟩;have:=u.size;simp only[aT]at q;rcases q with j|j|j
   ·omega
   ·omega
   ·have:=w e j;have:=t.size;omega
  ·refine⟨V,V,_,d.D v,V,V,_,d.D K,?_⟩;intro f;rw[cE V]at i;have G:dT (bz (s.F::S) F) 1 (lB (bz (s.F::S) F)) c h.cons:=i.done lB.mono (λe q=>by
    rcases List.mem_cons.1 q with y|y
    ·omega
    ·have:=w e y;have:=t.size;omega) bd V
   refine Gr.jN (f:=[.i 0,.i 0,.s .nil]) (j:=h) gH.mono bd (o.ext gH.mono u) (d.fz []) ⟨c,rfl,G⟩ bF λY U y q _ _=>X V _ _ ⟨q.ext,by rw[bK p];exact y⟩
 ·rw[cE V]at o;exact⟨s,rfl,o.done gH.mono w bd V,t⟩
def vK(K:∀g∈S,g<m.size){z:Int}(L:au m p q.params)(N:au m t q.cV)(n:q.params.length<=100/\q.cV.length<=100):
 aN bY 127 [.agg #[O.v p,O.v t,vi q.aR,O.v v,vi w],.agg #[O.v u,vi z]] m λR x=>∃i j,R=.agg #[O.v i,O.v j,vi q.aR,O.v u,vi z]/\au (bz S x) i q.params/\au (bz S x) j q.cV/\J m x:=by
 apply Ay
 simp -zeta only[aE,aD]
 intro P h b
 obtain⟨l,s,W,X,Y⟩:=oE (c:=P) (a:=h) (b:=b) rfl rfl rfl
 clear_value b
 have A:∀g∈h.size::S,g<b.size:=bD K l.size (s _ E)
 have c:∀{M y:I},J b M->J b y->∀d,d<b.size->∀o,D y d o=D M d o:=λG H d n o=>aJ (by rw[H.same d n,G.same d n]) o
 refine(bB (h.size::S) (L.ext l) V).aG (J.aC b) s λi _ U C e a _=>⟨_,rfl,c (J.aC _) a _ V _,c (J.aC _) a _ V _,c (J.aC _) a _ V _,c (J.aC _) a _ V _,?_⟩
 subst e
 refine(bB (h.size::S) (N.ext (l.trans a)) V).aG a s λj _ Q F e T k=>⟨_,rfl,c a k _ V _,c a k _ V _,c a k _ V _,?_⟩
 subst e
 intro f
 have B:Le (bz (h.size::S) Q) (bz S f):=bS E λg r=>ah _ r
 exact⟨i,j,rfl,((C.done A V).le (T.cK _)).le B,(F.done (λg r=>a.lt (A g r)) V).le B,(l.trans k).aj V _ _⟩
abbrev GR(S:List Nat)(a m:I)(s:O)(l:List fF):Prop:=Gr S a m iU 5 gK s l
def tS{L:List Nat}{k M:I}{s:O}{x:List fF}{n:Bk}{K:I->Prop}(X:∀c∈S,c<k.size)(r:∀c∈L,c<M.size/\c≠d/\c≠s.F)(A:J k M)(y:GR (d::S) k M s x)
 (z:cD M d lL [.s h,.s s])(aa:k.size<=d)(hp:au M p q.params)(ht:au M t q.cV)(ab:dL (bz (s.F::d::S) M) u n.aA)(Y:q.params.length<=100/\q.cV.length<=100)(hl:x.length<=100)
 (W:∀o b,GR (d::S) k b o (x++[⟨q.params,q.cV,q.aR,n⟩])->cD b d lL [.s h,.s o]->J k b->K b):
 aN bY 127 [.agg #[O.v p,O.v t,vi q.aR,O.v v,vi w],.agg #[O.v u,vi n.aR]] M λN j=>dV L M j/\∃B:O,∃C:O,∃F:Int,∃G:O,∃H:Int,N=.agg #[O.v B,O.v C,vi F,O.v G,vi H]/\D j d 1=D M d 1/\
  let l:I:=j.push (.cells (br [.s B,.s C,.i F,.s G,.i H]) iU)
  D l d 1=D j d 1/\
  iP l iU [.s O.nil,.s O.nil,.i (0:Int),.s O.nil,.i (0:Int)] 88 s (O.mk j.size 0 1 1) λac m=>dV L l m/\fu m d 1 1/\
   let b:I:=aj m d 1 [.s ac]
   dV L m b/\K b:=by
 have hy:=y.aZ
 have Z:=z.lt
 have hz:=A.size
 refine(vK (S:=s.F::d::S) (λc f=>?_) hp ht Y).mono λN j⟨p',t',e,T,U,g⟩=>?_
 ·simp only[aT]at f
  rcases f with e|e|e
  ·omega
  ·omega
  ·have:=X c e;omega
 subst e
 refine⟨g.de λc f=>(r c f).1,_,_,_,_,_,rfl,aJ (g.same _ Z) _,?_⟩
 intro l
 refine Gr.box (f:=[.s .nil,.s .nil,.i 0,.s .nil,.i 0]) (j:=1) (o:=[.s h,.s s]) (y:=⟨q.params,q.cV,q.aR,n⟩) gK.mono bd (y.ext gK.mono g) ((A.trans g).fz []) ⟨p',t',u,rfl,T,U,ab.le (g.cK _)⟩ V (z.ext g) E bd ⟨aa,E⟩ (λc f=>⟨g.lt (r c f).1,(r c f).2⟩) λo m' R P Q z' q'=>W o m' R P Q.ext
def jQ{β:Type}{a c:I}{d:I->List Ce->β->Prop}(n:mD j d)(l:a=b.push (.cells (br []) e))(g:c=a.push (.cells (br [.s O.nil,.s O.nil]) s))(i:f=aj c a.size 0 [.s h,.s (O.mk b.size 0 0 0)]):
 J b f/\cD f a.size s [.s h,.s (O.mk b.size 0 0 0)]/\Gr S b f e j d (.mk b.size 0 0 0) []/\a.size=b.size+1/\f.size=b.size+2:=by
 subst l
 have k:J (b.push (.cells (br []) e)) f:=by subst g i;exact(J.push _ _).aj (ad _) _ _
 refine⟨(J.push b _).trans k,?_,(Gr.new S (ad _) e j d).ext n k,E,by subst g i;simp[az]⟩
 have p:cD c (b.push (.cells (br []) e)).size s [.s O.nil,.s O.nil]:=by rw[g];exact cD.push _ _ _
 rw[i]
 exact cD.aj (m:=c) (o:=0) (r:=[.s h,.s (.mk b.size 0 0 0)]) p
def jL{β:Type}{c t:Nat}{q:I->List Ce->β->Prop}{F:O}(K:mD j q)(hz:0<j)(ae:s≠e)(hS:∀z∈S,z<m.size)(aa:m.size<=c/\c<b.size)(N:J m b)(al:d=b.size+1)
 (ab:bR (bz (c::S) b) h g)(hn:F.len=t)(am:t<=1000)(af:J b f)(Y:cD f d s [.s h,.s (O.mk b.size 0 0 0)])(ac:Gr (d::c::S) b f e j q (.mk b.size 0 0 0) [])(A:Nat->β->Prop)
 {G:(Int->I->Prop)->(Int->I->Nat)->Int->I->Prop}{R:O->O->I->Prop}
 (Z:∀H Q l r,bR (bz S r) H g->dT (bz S r) j (q (bz S r)) Q l->l.length=t->(∀(i:Nat)(x:β),l[i]? =some x->A i x)->J m r->R H Q r)
 (X:∀(k:Nat)(M:I)(o:O)(l:List β)(u:Int->I->Prop)(μ:Int->I->Nat),k<t->l.length=k->J b M->Gr (d::c::S) b M e j q o l->cD M d s [.s h,.s o]->
  (∀w a x,Gr (d::c::S) b a e j q w (l++[x])->cD a d s [.s h,.s w]->J b a->A k x->u (cO ((k:Int)+1)) a/\μ (cO ((k:Int)+1)) a<μ k M)->G u μ k M):
 ∃(y:Int->I->Prop)(μ0:Int->I->Nat),y (0:Int) f/\(∀(i:Int)(M:I),y i M->
  ((decide (i<(F.len:Int)))=true->G y μ0 i M)/\
  ((decide (i<(F.len:Int)))=false->∃p:O,D M d 0=some (O.v p)/\∃v:O,D M d 1=some (O.v v)/\
   let a:I:=aj M c 0 [.s p,.s v]
   R p v a)):=by
 refine eg (n:=t) V (λk M=>J b M/\∃o l,Gr (d::c::S) b M e j q o l/\cD M d s [.s h,.s o]/\l.length=k/\∀(i:Nat)(x:β),l[i]? =some x->A i x) ⟨af,_,[],ac,Y,rfl,E⟩ ?_
 rintro k M u μ hk ⟨x,o,l,v,B,ad,L⟩ ag
 refine dit (λW=>?_) λW=>?_
 ·refine X k M o l u μ V ad x v B λw a ai U T x' P=>ag V _ ⟨x',w,_,U,T,bF,λi ak p=>?_⟩
  rcases aX i l.length with C|C
  ·rw[aw C]at p;exact L i ak p
  ·rw[aF C]at p
   have:i -l.length=0:=by have:=ax p;simp at this;omega
   rw[this]at p;simp at p;subst p
   have:i=k:=V
   subst this;exact P
 ·refine⟨h,B.cy 0,o,B.cy 1,?_⟩
  intro a
  have P:=v.aZ
  have C:=v.ne B ae
  have w:Le (bz (d::c::S) M) (bz S a):=bS E λz p=>ah _ (ah _ p)
  refine Z h o l a (ab.le ((x.bz λz p=>?_).trans w)) (dT.le (v.mg K (λp=>?_) hz V) w λT ai=>K.le w) V L ((N.trans x).aj aa.1 _ _)
  ·rcases List.mem_cons.1 p with e|e
   ·exact Or.inr V
   ·exact Or.inl e
  ·simp only[aT]at p
   rcases p with e|e|e
   ·exact C e
   ·omega
   ·have:=hS _ e;have:=N.size;omega
structure vS(g:List bO)(rs:List fF)(c:Prop)(W:Nat):Prop where
 gR:0<rs.length
 dh:∀q∈rs,q.params.length<=3/\q.cV.length<=3/\WB g rs.length c q.params.length q.body/\q.body.w<=W
def sY(f:Nat)(c:List Value)(m:I)(S:List Nat)(g:List bO)(Q:List fF->Prop):Prop:=aN bY f c m λv a=>∃d r b,v=.agg #[O.v d,O.v r]/\dI (bz S a) d r g b/\Q b/\J m a
def EQ{a b:List fF}{c:Prop}{W:Nat}(j:0<a.length)(e:b.length=a.length)(h:∀(i:Nat)(q:fF),b[i]? =some q->q.params.length<=3/\q.cV.length<=3/\WB g a.length c q.params.length q.body/\q.body.w<=W):vS g b c W:=
 ⟨V,λq f=>by obtain⟨i,d⟩:=List.mem_iff_getElem?.1 f;rw[e];exact h i q d⟩
def FF(I:∀e∈S,e<m.size){d cV:List Int}{N:Int}(D:au m p d)(K:au m t cV)(R:d.length<=100):
 jS 161 [.agg #[O.v p,O.v t,vi N,O.v v,vi w]] m S λa=>(∀o∈a,0<=o/\o<(d.length:Int))/\a.length<=d.length:=by
 apply yB
 simp -zeta only[aE,aD]
 intro c b
 have x:J m c:=J.push _ _
 have C:∀z∈[m.size],z<c.size:=by simp[c]
 have G:GI S c b (.mk c.size 0 0 0) []:=GI.nil S c
 have P:J c b:=J.push _ _
 clear_value b
 clear_value c
 have U:=D.len
 refine dt (n:=d.length) V (λj s M=>J c M/\∃a,GI S c M s a/\(∀o∈a,0<=o/\o<(d.length:Int))/\a.length<=j) ⟨P,[],G,E,ad _⟩ ?_
 rintro j s W Q μ T ⟨y,a,g,i,B⟩ q
 have r:=x.trans y
 refine⟨λh=>?_,λh=>?_⟩
 ·simp only[ao]at h
  obtain⟨M,L⟩:=ag (l:=d) (k:=j) V
  refine⟨V,V,M,(D.ext r).u L,λ_=>?_,λ_=>q V _ _ ⟨y,a,g,i,V⟩⟩
  refine(cU (K.ext r) j).any.aG y C λz X F u=>⟨_,rfl,λ_=>?_,λ_=>q V _ _ ⟨u,a,g.ext F,i,V⟩⟩
  intro f
  refine GI.jN (g.ext F) (u.fz []) (λe B=>x.lt (I e B)) V λZ Y H A _ _=>⟨J.mO (u.aM _) A.ext C,q V _ _ ⟨A.ext,_,H,λo e=>?_,bF⟩⟩
  rcases List.mem_append.1 e with e|e
  ·exact i o e
  ·simp at e;omega
 ·exact⟨s,a,rfl,g.cF (λ_ h=>h) x.size,⟨i,by simp at h;omega⟩,r⟩
end
section
variable{S:List Nat}{m:I}{d r:O}{a:List bO}{b:List fF}
def Fk(hS:∀c∈S,c<m.size){aa al w:O}{q:fF}(hn:dI m d r a b)(Z:au m aa q.params)(ht:au m al q.cV)(hs:dL m w q.body.aA)(aK:q.params.length<=3)(ar:WB a b.length False q.params.length q.body)(hw:q.body.w<=95):
 lV 159 [.agg #[O.v d,O.v r],.agg #[O.v aa,O.v al,vi q.aR,O.v w,vi q.body.aR]] m S λs=>WB a b.length True q.params.length s/\s.w<=1100*q.body.w:=by
 apply xV
 simp -zeta only[aE,aD]
 intro m0 H N
 obtain⟨y,g,s0,s1,s2⟩:=oE (c:=m0) (a:=H) (b:=N) rfl rfl rfl
 clear_value N
 have aL:=Z.len
 have X:∀c∈H.size::S,c<N.size:=bD hS y.size (g _ E)
 refine(AQ (S:=[]) E (hs.le y.le) _ V).aG (J.aC N) g λus ul f hu aM U _=>⟨_,rfl,?_⟩
 have aq:au f us ul:=hu.le (bo _ _)
 intro v P
 have aC:J f P:=(J.push f _).trans (J.push v _)
 have s4:v.size=f.size+1:=by simp[v]
 have i:GI S f P (.mk f.size 0 0 0) []:=(GI.nil S f).ext (J.push v _)
 have h:GI S f P (.mk v.size 0 0 0) []:=(GI.nil S v).cF (λ_ W=>W) V
 clear_value P
 have z3:=U.size
 have ao:∀c∈S,c<f.size:=λc e=>by have:=hS c e;have:=y.size;omega
 refine tc (n:=q.params.length) V (λj R sd M=>J f M/\∃p u,GI S f M R p/\GI S f M sd u/\R.F≠sd.F/\(∀o∈p,0<=o/\o<(q.params.length:Int))/\(∀o∈u,0<=o/\o<(q.params.length:Int))/\p.length<=j/\u.length<=j) ⟨aC,[],[],i,h,bF,E,E,ad _,ad _⟩ ?_
 rintro j R sd m6 aF μ hk ⟨z,p,u,i,h,L,F,D,cm,cd⟩ Q
 have K:=U.trans z
 have v6:=y.trans K
 refine dit (λW=>?_) λW=>?_
 ·obtain⟨ac,hy⟩:=ag (l:=q.params) (k:=j) V
  have sn:∀{t:List Int},(∀o∈t,0<=o/\o<(q.params.length:Int))->∀o∈t++[(j:Int)],0<=o/\o<(q.params.length:Int):=λg o G=>by
   rcases List.mem_append.1 G with G|G
   ·exact g o G
   ·simp at G;omega
  refine⟨V,V,ac,(Z.ext v6).u hy,λ_=>?_,λ_=>Q V _ _ _ ⟨z,p,u,i,h,L,F,D,V,V⟩⟩
  refine(cU (ht.ext v6) j).any.aG K g λab m7 A u7=>⟨_,rfl,λ_=>?_,λ_=>Q V _ _ _ ⟨z.trans A,p,u,i.ext A,h.ext A,L,F,D,V,V⟩⟩
  refine(cU (aq.ext (z.trans A)) j).any.aG u7 g λab m8 x8 u8=>⟨_,rfl,λ_=>?_,λ_=>?_⟩
  ·have x:=A.trans x8
   intro m9
   exact GI.Pu (i.ext x) (h.ext x) L ((z.trans x).fz []) V λr m' C T Y B=>⟨J.mO ((K.trans x).aM _) (U.trans B.ext) g,Q V _ _ _ ⟨B.ext,_,_,C,T,Y,sn F,D,bF,V⟩⟩
  ·have x:=A.trans x8
   intro m9
   exact GI.Pu (h.ext x) (i.ext x) L.symm ((z.trans x).fz []) V λr m' C T Y B=>⟨J.mO ((K.trans x).aM _) (U.trans B.ext) g,Q V _ _ _ ⟨B.ext,_,_,T,C,Y.symm,F,sn D,V,bF⟩⟩
 intro B
 have ae:J m6 B:=J.push _ _
 have ab:=K.trans ae
 have ac:=y.trans ab
 have e0:au B (.mk m6.size 0 0 0) []:=lg _ _ _ _ _ _
 have aj:∀{M:I}{w:O}{t:List Int},GI S f M w t->t.length<=3->au M w t:=λC g=>(C.done ao V).le (bo _ _)
 clear_value B
 have aI:=q.body.Eo
 refine(DF q.body (H.size::S) B (λc e=>ab.lt (X c e)) d r aa w R _ q.params p [] (hn.le ac.le) (Z.ext ac) (hs.le ac.le) ((aj i V).ext ae) e0 ⟨F,V,bF,V,ar⟩).aG ab g λss s G ap hq aA ay=>⟨_,_,rfl,?_⟩
 intro av o
 have af:J G o:=(J.push G _).aj (ad _) _ _
 have aR:o.size=G.size+1:=by simp[o,av,az]
 clear_value o
 have T:=ay.trans af
 have Y:∀c∈[G.size,H.size,m0.size,m.size],c<o.size:=λc e=>by
  rcases List.mem_cons.1 e with A|A
  ·omega
  ·exact T.lt (g c A)
 have aH:=Bk.kT s;have aG:=eY s.aA
 have aN:=hq.2
 refine(dU (S:=H.size::S) (λc e=>T.lt (X c e)) 15 ((aj h V).ext ((ae.trans aA).trans af)) V).aG (J.aC o) Y λaQ _ aO ai A x _=>⟨_,rfl,aJ (x.same _ V) _,aJ (x.same _ V) _,?_⟩
 subst A
 have aS:=x.size
 have hy:=ai.aZ
 refine GS.all ai (x.fz []) ((ap.le (af.cK _)).le (qX x hy.1)) bF λax aw an am aT ak=>⟨λc e=>ak c (x.lt (Y c e)) (by have:=Y c e;omega),aJ (ak _ V V) _,?_⟩
 intro aP
 have aB:J m aw:=(y.trans T).trans am.ext
 refine⟨ax,.mk _ s.aR,rfl,dL.le (bS E λc e=>ah _ e) (an.done fA.mono (λc e=>T.lt (X c e)) bd bF),⟨WB.of ((pO V D).append ?_) ?_,?_⟩,aB.aj V _ _⟩
 ·rw[jc V];exact hq.1.bq.1
 ·rw[cp,jc V,bQ];exact hq.1.bq.2
 ·rw[Bk.oU,db,mE];omega
def Jf(L:∀c∈S,c<m.size)(i:dI m d r a b)(hk:vS a b False 95):sY 120 [.agg #[O.v d,O.v r]] m S a λw=>vS a w True 104500:=by
 apply BN;simp -zeta only[aE,aD];intro e U;obtain⟨y,u⟩:=dj (a:=e) (b:=U) rfl rfl;have s1:e.size=m.size+1:=by simp[e]
 clear_value U;have aj:=i.gQ.len;have au:=i.mG;refine(eV (S:=e.size::S) (bD L y.size (u _ E)) (i.le y.le).aY i.types).mono λ_ Q⟨ad,h,af,z⟩=>?_;subst h;refine⟨z.de u,_,rfl,?_⟩;intro T an ac;have u2:=y.trans z;obtain⟨x5,B0,g0,s3,s5⟩:=jQ (S:=T.size::e.size::S) gK.mono (b:=Q) (a:=T) (c:=an) (f:=ac) rfl rfl rfl;clear_value ac;have v:∀c∈[e.size,m.size],c<Q.size:=λc f=>z.lt (u c f);have N:∀c∈e.size::S,c<Q.size:=λc f=>z.lt (bD L y.size (u _ E) c f);refine jL (R:=λg j M=>∃d r w,Value.agg #[O.v g,O.v j]=.agg #[O.v d,O.v r]/\dI (bz S M) d r a w/\vS a w True 104500/\J m M) (t:=b.length) (m:=m) (S:=S) gK.mono bd bd L ⟨V,v _ E⟩ u2 s3 af aj V x5 B0 g0 (λ_ q=>q.params.length<=3/\q.cV.length<=3/\WB a b.length True q.params.length q.body/\q.body.w<=104500) (λg s P t Z h2 j o p=>⟨g,s,P,rfl,⟨Z,h2,i.types,V⟩,EQ hk.gR j o,p⟩) λam M st P ap μ ah aq A Y B ao=>?_
 obtain⟨q,hq⟩:=ag (l:=b) (k:=am) ah;obtain⟨ab,ai,al,hw⟩:=hk.dh q (ar hq);have j:=u2.trans A;obtain⟨av,aw,g,W,X,c3,C,F,H,I,K⟩:=i.gQ.u hq;have G:∀{x:Value}{g p:Nat},D m g p=some x->D M g p=some x:=λt=>j.D t;refine⟨st,B.cy 1,V,V,_,G C,_,G F,_,G H,_,G I,_,G K,V,V,_,G C,_,G F,_,G H,_,G I,_,G K,?_⟩;have hy:=Y.aZ;have ae:=B.lt;have zM:=A.size;refine(Fk (S:=st.F::T.size::e.size::S) (λc f=>?_) (i.le j.le) (W.ext j) (X.ext j) (c3.le j.le) ab al hw).aG A v λss b' M1 ak aa o u1=>⟨_,_,rfl,?_⟩
 ·simp only[aT]at f;rcases f with h|h|h|h
  ·omega
  ·omega
  ·have:=N c (by simp[h]);omega
  ·have:=N c (by simp[h]);omega
 have s:∀{x:Value}{g p:Nat},D m g p=some x->D M1 g p=D M g p:=λt=>by rw[o.D (G t),G t]
 refine⟨s C,s F,s H,s I,s K,aJ (o.same _ (A.lt (v _ E))) _,aJ (o.same _ ae) _,?_⟩;exact tS (S:=e.size::S) (h:=ad) (x:=P) N (λc f=>by have Z:=v c f;have h2:=u1.size;omega) u1 (Y.ext gK.mono o) (B.ext o) V (W.ext (j.trans o)) (X.ext (j.trans o)) ak ⟨V,V⟩ V λs' M' g' Z x'=>ao s' M' _ g' Z x' ⟨ab,ai,aa.1,by have:=aa.2;simp only;omega⟩
def Nh(N:∀e∈S,e<m.size)(t:dI m d r a b)(hk:vS a b False 95):sY 121 [.agg #[O.v d,O.v r]] m S a λA=>vS a A True 104500:=by
 apply Hj;simp -zeta only[aE,aD];intro p a2;obtain⟨C,w⟩:=dj (a:=p) (b:=a2) rfl rfl;have s1:p.size=m.size+1:=by simp[p]
 clear_value a2;have al:=t.gQ.len;have ay:=t.mG;refine(eV (S:=p.size::S) (bD N C.size (w _ E)) (t.le C.le).aY t.types).mono λ_ U⟨af,g,ah,F⟩=>?_;subst g;refine⟨F.de w,_,rfl,?_⟩;intro z ap ac;have u2:=C.trans F;obtain⟨x5,B0,g0,s3,s5⟩:=jQ (S:=z.size::p.size::S) gK.mono (b:=U) (a:=z) (c:=ap) (f:=ac) rfl rfl rfl;clear_value ac;have Q:∀e∈[p.size,m.size],e<U.size:=λe h=>F.lt (w e h);have P:∀e∈p.size::S,e<U.size:=λe h=>F.lt (bD N C.size (w _ E) e h);refine jL (R:=λc f M=>∃d r A,Value.agg #[O.v c,O.v f]=.agg #[O.v d,O.v r]/\dI (bz S M) d r a A/\vS a A True 104500/\J m M) (t:=b.length) (m:=m) (S:=S) gK.mono bd bd N ⟨V,Q _ E⟩ u2 s3 ah al V x5 B0 g0 (λ_ q=>q.params.length<=3/\q.cV.length<=3/\WB a b.length True q.params.length q.body/\q.body.w<=104500) (λc o T s h1 v f i j=>⟨c,o,T,rfl,⟨h1,v,t.types,V⟩,EQ hk.gR f i,j⟩) λao M st T av μ ai ax Z aa H aq=>?_
 obtain⟨q,hq⟩:=ag (l:=b) (k:=ao) ai;obtain⟨ak,aj,an,hw⟩:=hk.dh q (ar hq);have B:=u2.trans Z;obtain⟨au,aB,o,K,c2,c3,e0,e1,e2,e3,e4⟩:=t.gQ.u hq;have G:∀{ae:Value}{o u:Nat},D m o u=some ae->D M o u=some ae:=λL=>B.D L;refine⟨V,V,_,G e0,_,G e1,_,G e2,_,G e3,_,G e4,?_⟩;intro m7 j;have hy:=aa.aZ;have aw:=H.lt;have zM:=Z.size;have Y:J M j:=(J.push M _).aj (ad _) _ _;have s8:j.size=M.size+1:=by simp[j,m7,az]
 clear_value j;have y:∀e∈[M.size,p.size,m.size],e<j.size:=λe h=>by
  rcases List.mem_cons.1 h with g|g
  ·omega
  ·have:=Q e g;omega
 have W:=B.trans Y;have f:∀{M1 M2:I},J j M1->J j M2->∀o,o<j.size->∀u,D M2 o u=D M1 o u:=λL h' o hb u=>aJ (by rw[h'.same o hb,L.same o hb]) u;have i:M.size<j.size:=V;have i1:m.size<j.size:=y _ E;have i2:z.size<j.size:=V;refine⟨st,(H.ext Y).cy 1,?_⟩;refine(FF (S:=[]) E (K.ext W) (c2.ext W) V).aG (J.aC j) y λow lo m9 go ho c _=>⟨_,rfl,f (J.aC _) c _ i _,f (J.aC _) c _ i _,f (J.aC _) c _ i _,f (J.aC _) c _ i1 _,f (J.aC _) c _ i1 _,f (J.aC _) c _ i _,f (J.aC _) c _ i _,f (J.aC _) c _ i _,f (J.aC _) c _ i _,f (J.aC _) c _ i _,f (J.aC _) c _ i2 _,?_⟩;have X:=W.trans c;have z9:=c.size;have h:=ho.2;refine(Fq q.body (st.F::z.size::p.size::S) m9 (λe h=>?_) d r au o ow q.params lo (t.le X.le) (K.ext X) (c3.le X.le) ((go.done E V).le (bo _ _)) ⟨ho.1,V,V,an⟩).aG c y λss b' aA am ab aC s=>⟨_,_,rfl,f c s _ i _,f c s _ i _,f c s _ i _,f c s _ i _,f c s _ i _,f c s _ i2 _,?_⟩
 ·simp only[aT]at h;rcases h with g|g|g|g
  ·omega
  ·omega
  ·have:=P e (by simp[g]);omega
  ·have:=P e (by simp[g]);omega
 have x:=Y.trans s;have vP:=s.size;exact tS (S:=p.size::S) (h:=af) (x:=T) P (λe h=>by have h1:=y e h;have v:=Q e;simp only[aT]at h v;rcases h with g|g|g|g<;>first|omega|(have:=v (by simp[g]);omega)|simp at g) (Z.trans x) (aa.ext gK.mono x) (H.ext x) V (K.ext (B.trans x)) (c2.ext (B.trans x)) am ⟨V,V⟩ V λs' M' g' v x'=>aq s' M' _ g' v x' ⟨ak,aj,ab.1,by have:=ab.2;simp only;omega⟩
end
section
variable{x:cg}{l:List cg}{m d M:I}{i f e h:O}{S:List Nat}{c b g:List Int}{a:Int}{K:O->I->Prop}
def yl(a k:O)(m:I):dq bY 165 [np x a k] m (x.op=14\/x.op=15):=by
 apply DP;simp -zeta only[aE,aD];intro c;have b:J m c:=J.push _ _;refine⟨λh=>je (Or.inl (by simpa using h)) b,λh=>fB ?_ b⟩;simp only[an]at h;simp only[aL];omega
def Uq(l:List cg):Prop:=∀x∈l,x.args.length=1
def wT(l:List cg)(o:Int):Prop:=∃x∈l,o∈x.args
def Uq.at(h:Uq l){c:Nat}(a:l[c]? =some x):∃y,x.args[0]? =some y/\wT l y:=by
 have d:=h x (ar a);obtain⟨y,b⟩:=ag (l:=x.args) (k:=0) V;exact⟨y,b,x,ar a,ar b⟩
def LU(s:dL m i l)(F:Uq l)(P:l.length<=1000000000000)(v:Int):qM 200 [O.v i,vi v] m λc=>-(l.length:Int)<=c/\c<=l.length:=by
 apply Fw;have R:=s.len;refine dt (n:=l.length) V (λb c M=>J m M/\-(b:Int)<=c/\c<=(b:Int)) ⟨J.aC _,V,V⟩ ?_;rintro b c d I μ Q ⟨f,H,K⟩ G
 refine⟨λq=>?_,λq=>⟨c,rfl,⟨V,V⟩,f⟩⟩;simp only[ao]at q;obtain⟨x,t⟩:=ag (l:=l) (k:=b) V;obtain⟨y,u,_⟩:=F.at t;obtain⟨a,T,r,_,C,_,_,E,_⟩:=s.u t;have L:=r.len;have S:=ax u;have w:=f.D C;have o:=f.D E;have p:=(r.ext f).u u;have A:cO (c+1)=c+1:=aP V V;have B:cO (c -1)=c -1:=aP V V;rw[A,B];have N:∀e,-((b+1:Nat):Int)<=e->e<=((b+1:Nat):Int)->I e (cO ((b:Int)+1)) d/\μ e (cO ((b:Int)+1)) d<μ c b d:=λe a z=>G V _ _ ⟨f,a,z⟩
 have j:(0:Int)<=(b:Int)/\(b:Int)<(i.len:Int)/\∃g:O,D d i.F (i.off+Int.toNat (b:Int)*5+3)=some (O.v g)/\(0:Int)<=(0:Int)/\(0:Int)<(g.len:Int)/\∃h:Int,D d g.F (g.off+Int.toNat (0:Int)*1)=some (vi h)/\
  ((h==v)=true->I (c -1) (cO ((b:Int)+1)) d/\μ (c -1) (cO ((b:Int)+1)) d<μ c b d)/\((h==v)=false->I c (cO ((b:Int)+1)) d/\μ c (cO ((b:Int)+1)) d<μ c b d):=
  ⟨V,V,a,o,V,V,y,p,λ_=>N _ V V,λ_=>N _ V V⟩
 exact⟨V,V,a,o,V,V,y,p,λ_=>⟨V,V,_,w,λ_=>N _ V V,λ_=>j⟩,λ_=>j⟩
def Kd(q:∀e∈S,e<m.size)(u:dL m i l)(g:Uq l)(H:l.length<=100000000000):jS 199 [O.v i] m S λb=>(∀o∈b,wT l o)/\b.length<=l.length:=by
 apply Eh;intro P;have L:=u.len;refine dt (n:=l.length) V (λj s M=>J m M/\∃b,GI S m M s b/\(∀o∈b,wT l o)/\b.length<=j) ⟨J.push m _,[],GI.nil S m,E,ad _⟩ ?_;rintro j s d I μ K ⟨c,b,p,v,t⟩ C
 refine⟨λh=>?_,λh=>⟨s,b,rfl,p,⟨v,V⟩,c⟩⟩;simp only[ao]at h;obtain⟨x,w⟩:=ag (l:=l) (k:=j) V;obtain⟨z,y,A⟩:=g.at w;obtain⟨a,T,r,_,F,_,_,f,_⟩:=u.u w;have G:=r.len;have N:=ax y;refine⟨V,V,a,c.D f,V,V,z,(r.ext c).u y,?_⟩;refine(kX (S:=S) (λe t=>aK (q e t) c.size) (p.done q V) z V).then λR B Q f e D=>⟨_,rfl,C V _ _ ⟨c.trans D,B,f.cF (λ_ h=>h) c.size,λo g=>?_,by have:=e.2;omega⟩⟩;rcases e.1 o g with h|h
 ·exact v o h
 ·subst h;exact A
structure tG(S:List Nat)(m d M:I)(f e h:O)(c b g:List Int):Prop where
 x:J m M
 gd:GI S m M f c
 gr:GI S m M e b
 gv:GI [] d M h g
 n1:f.F≠e.F
 n2:f.F≠h.F
 n3:e.F≠h.F
def tG.ext{S:List Nat}{m d M i:I}{f e h:O}{c b g:List Int}(T:tG S m d M f e h c b g)(a:J M i):tG S m d i f e h c b g:=
 ⟨T.x.trans a,T.gd.ext a,T.gr.ext a,T.gv.ext a,T.n1,T.n2,T.n3⟩
def tG.Wz(T:tG S m d M f e h c b g)(p:∀i∈S,i<m.size)(s:c.length<=1000000000000)(t:∀r i,tG S m d i r e h (c++[a]) b g->K r i):
 iP (M.push (.cells (br [.i a]) aB)) aB [.i 0] 8 f (.mk M.size 0 1 1) K:=by
 have n:=T.gr.aZ;have o:=T.gv.aZ;have u:=T.n1;have v:=T.n2
 refine GI.jN T.gd (T.x.fz []) p s λr i l k z q=>t r i ⟨k.ext,l,T.gr.iv (q _ n.2 T.n1.symm),T.gv.iv (q _ o.2 T.n2.symm),?_,?_,T.n3⟩<;>rcases z.2 with j|j<;>omega
def tG.Pu(T:tG S m d M f e h c b g)(p:∀i∈S,i<m.size)(s:b.length<=1000000000000)(t:∀r i,tG S m d i f r h c (b++[a]) g->K r i):
 iP (M.push (.cells (br [.i a]) aB)) aB [.i 0] 8 e (.mk M.size 0 1 1) K:=by
 have n:=T.gd.aZ;have o:=T.gv.aZ;have u:=T.n1;have v:=T.n3
 refine GI.jN T.gr (T.x.fz []) p s λr i l k z q=>t r i ⟨k.ext,T.gd.iv (q _ n.2 T.n1),l,T.gv.iv (q _ o.2 T.n3.symm),?_,T.n2,?_⟩<;>rcases z.2 with j|j<;>omega
def Su(l:List cg)(c:List cg):Prop:=∃b a:List Int,c=b.map (dW 14)++a.map (dW 15)/\(∀o∈b,wT l o)/\(∀o∈a,wT l o)/\b.length+a.length<=l.length*l.length
def vJ(v:∀t∈S,t<m.size)(hl:dL m i l)(a:Uq l)(x:l.length<=500000):OB 166 [O.v i] m S (Su l):=by
 apply Ap;intro r d;have Q:J m d:=(J.push m _).trans (J.push r _);have s1:r.size=m.size+1:=by simp[r]
 have W:GI S m d (.mk m.size 0 0 0) []:=(GI.nil S m).ext (J.push r _);have X:GI S m d (.mk r.size 0 0 0) []:=(GI.nil S r).cF (λ_ F=>F) V;clear_value d;have ak:l.length*l.length<=250000000000:=bI (Ri x x) bd;refine(Kd (S:=[]) E (hl.le Q.le) a V).then λh g m3 D N R=>⟨_,rfl,?_⟩;have hv:au m3 h g:=(D.done E (by have:=N.2;omega)).le (bo _ _);have aq:=hv.len;have ap:=N.2;have ai:=Q.trans R;have av:=D.aZ;have ax:=Q.size;refine tc (n:=g.length) V (λp f e M=>∃c b,tG S m d M f e h c b g/\(∀o∈c,wT l o)/\(∀o∈b,wT l o)/\c.length+b.length<=p*l.length) ⟨[],[],⟨ai,W.ext R,X.ext R,D,bF,by have:=W.aZ;omega,by have:=X.aZ;omega⟩,E,E,E⟩ ?_;rintro p f e m4 aj μ hi ⟨c,b,T,hd,hr,Z⟩ af
 have ad:p*l.length<=l.length*l.length:=da _ V;have G:∀{M:I}{f e:O}{c b:List Int},tG S m d M f e h c b g->au M h g:=λT=>(T.gv.done E V).le (bo _ _);refine dit (λF=>?_) λF=>?_
 ·obtain⟨y,z⟩:=ag (l:=g) (k:=p) V;have ac:=N.1 y (ar z);refine⟨V,V,y,(G T).u z,?_⟩;refine(LU (hl.le T.x.le) a V y).then λw m5 hn s=>⟨_,rfl,?_⟩;have an:(p+1)*l.length=p*l.length+l.length:=om _ _;refine⟨λf j M=>j<=w/\(w<=0->j=w)/\(0<w->0<=j)/\∃H,tG S m d M f e h H b g/\(∀o∈H,wT l o)/\H.length+b.length+j.toNat<=p*l.length+w.toNat,λ_ j _=>j.toNat,⟨V,V,V,c,T.ext s,hd,V⟩,?_⟩;rintro ah j m6 ⟨n1,n2,n3,K,A,aa,al⟩;refine dit (λh1=>?_) λh1=>?_
  ·refine⟨V,V,y,(G A).u z,?_⟩;intro q;have u:cO (j -1)=j -1:=aP V V;rw[u];exact A.Wz v V λP U B=>⟨⟨V,V,V,_,B,λo a=>by
    rcases List.mem_append.1 a with a|a
    ·exact aa o a
    ·simp at a;subst a;exact ac,bF⟩,by dsimp only;omega⟩
  ·refine⟨λe q M=>j<=q/\q<=0/\∃L,tG S m d M ah e h K L g/\(∀o∈L,wT l o)/\K.length+L.length+(-q).toNat<=p*l.length+l.length,λ_ q _=>(-q).toNat,⟨V,V,b,A,hr,V⟩,?_⟩;rintro aw q m8 ⟨p1,p2,ae,C,ab,am⟩;refine⟨λY=>?_,λY=>?_⟩
   ·simp only[ao]at Y;refine⟨V,V,y,(G C).u z,?_⟩;intro m9;have u:cO (q+1)=q+1:=aP V V;rw[u];exact C.Pu v V λP U B=>⟨⟨V,V,_,B,λo a=>by
     rcases List.mem_append.1 a with a|a
     ·exact ab o a
     ·simp at a;subst a;exact ac,bF⟩,by dsimp only;omega⟩
   ·exact af V _ _ _ ⟨K,ae,C,aa,ab,V⟩
 ·have o:∀t∈S,t<m4.size:=λt Z=>by have:=v t Z;have:=T.x.size;omega
  refine(dU (S:=S) o 14 ((T.gd.done v V).le (bo _ _)) V).mono λ_ m5⟨s1,L,j,q,u,s⟩=>?_;subst j;subst u;refine⟨_,rfl,?_⟩;have z:=T.ext s;have w:=q.aZ;refine(dU (S:=s1.F::S) (bD o s.size w.2) 15 ((z.gr.done v V).le (bo _ _)) V).mono λ_ m6⟨s2,Y,j,C,A,y⟩=>?_;subst j;subst A;refine⟨_,rfl,?_⟩;refine GS.all (q.ext fA.mono y) ((s.trans y).fz []) (C.done fA.mono (bD o s.size w.2) bd bF) bF λP U H B _ _=>⟨P,_,rfl,H.cF fA.mono (λK x=>Or.inl x) T.x.size,⟨c,b,rfl,hd,hr,?_⟩,T.x.trans B.ext⟩;have:p*l.length<=l.length*l.length:=ad;omega
end
section
variable{a d:Nat}{c:List bO}
def FU(a b:Nat):a*a+b*b<=(a+b)*(a+b):=by
 rw[fD,Nat.mul_add,Nat.mul_add];omega
def Nk{b:Nat}(h:a<=b):a*a<=b*b:=Ri h h
structure CN(c:List bO)(d:Nat)(S:List Nat)(m2 M:I)(a:Nat)(aA:List cg)(k:Nat)(st run:O)(lo lr:List cg)(P:Nat):Prop where
 x:J m2 M
 gs:GS (run.F::S) m2 M st lo
 gr:GS [st.F] m2 M run lr
 wl:WL c d True a lo
 Ut:dc lo=dc (aA.take k)
 Yu:sw lo<=P*P
 P':P+2*lr.length<=sw (aA.take k)
 kv:Uq lr
 Uz:∀o,wT lr o->0<=o/\o<((a+dc (aA.take k):Nat):Int)
 ne:st.F≠run.F
def Nd{l b:List cg}(h:Su l b)(f:∀o,wT l o->0<=o/\o<(a:Int)):WL c d True a b/\dc b=0/\sw b<=(2*l.length)*(2*l.length):=by
 obtain⟨k,j,rfl,g,i,m⟩:=h;refine⟨(pO V λo e=>f o (g o e)).append ?_,?_,?_⟩
 ·rw[jc V];exact pO V λo e=>f o (i o e)
 ·rw[cp,jc V,jc V]
 ·rw[db,mE,mE];have:(2*l.length)*(2*l.length)=4*(l.length*l.length):=by
   rw[Nat.mul_mul_mul_comm]
  omega
def Wn(c:List bO)(d:Nat)(b:Bk):Prop:=∀(S:List Nat)(m:I),(∀e∈S,e<m.size)->∀(t:O)(a:Nat),dL m t b.aA->WB c d True a b->b.w<=400000->lV 128 [.agg #[O.v t,vi b.aR]] m S λe=>WB c d True a e/\e.w<=b.w*b.w
def BK:∀i:Bk,Wn c d i:=by
 refine Bk.ind ?_;intro aA bj ih v O hS bW a hs bb hw;have aM:=bb.bq;rw[Bk.oU]at hw⊢;simp only[Bk.iY,Bk.iu]at*;apply uT;simp -zeta only[aE,aD];intro m o U m3;obtain⟨x1,hl⟩:=dj (a:=m) (b:=o) rfl rfl;have s0:m.size=O.size+1:=by simp[m]
 have s1:o.size=O.size+2:=by simp[o,s0]
 have bn:J o m3:=(J.push o _).trans (J.push U _);have s2:U.size=o.size+1:=by simp[U]
 have a4:∀y,GS y o m3 (.mk o.size 0 0 0) []:=λy=>(GS.new y o).ext fA.mono (J.push U _);have a3:∀y,GS y o m3 (.mk U.size 0 0 0) []:=λy=>(GS.new y U).cF fA.mono (λi q=>Or.inl q) V;clear_value m3;clear_value o;have ba:=hs.len;have aL:=yV aA;have bG:=eY aA;have aC:∀f∈m.size::v,f<o.size:=bD hS x1.size (hl _ E);refine tc (n:=aA.length) (ba▸hs.gA) (λz L D t=>∃lo w P,CN c d (m.size::v) o t a aA z L D lo w P) ⟨[],[],0,bn,a4 _,a3 _,WL.nil _ _ _ _,rfl,E,E,λ_ h=>by simp at h,λai⟨_,h,_⟩=>by simp at h,bF⟩ ?_;rintro z L D B bq μ hk ⟨lo,w,P,C⟩ aN
 have X:=C.x;have W:=x1.trans X;have bP:=C.gs.aZ;have bO:=C.gr.aZ;have z4:=X.size;have aB:=C.P';have bH:=aL z;have bs:P*P<=160000000000:=bI (Nk (b:=400000) V) bd;have bE:=eY lo;have a9:=C.Yu;have aI:=C.ne;have Q:∀{t:I}{y:List Nat},B.size<=t.size->(∀f∈y,f<t.size)->∀f∈y++m.size::v,f<t.size:=λh q f g=>by
  rcases List.mem_append.1 g with h|h
  ·exact q f h
  ·have:=aC f h;omega
 have aK:∀{t:I},J B t->dL t D w:=λh=>dL.le (bo _ _) ((C.gr.ext fA.mono h).mg fA.mono (by simpa using aI.symm) bd V);refine dit (λh=>?_) λh=>?_
 ·obtain⟨e,hx⟩:=ag (l:=aA) (k:=z) V;obtain⟨pa,pk,ha,ac,g0,g1,g2,g3,g4⟩:=hs.u hx;refine⟨V,V,_,W.D g0,_,W.D g1,_,W.D g2,_,W.D g3,_,W.D g4,?_⟩;intro m5 K;have x6:J B K:=(J.push B _).aj (ad _) _ _;have s6:K.size=B.size+1:=by simp[K,m5,az]
  clear_value K;have T:∀{t:I},K.size<=t.size->∀i∈[B.size,m.size,O.size],i<t.size:=λh i q=>by
   rcases List.mem_cons.1 q with j|j
   ·omega
   ·have:=hl i j;omega
  have bL:=nY hx;have bK:=oX hx;have bc:=cg.kT e;have aa:=aM.1 z e hx;have bJ:=aL (z+1);have bu:=oF e.bt;refine(yl pa pk K).aG (J.aC K) (T (ad _)) λbr m7 a6 x7 _=>⟨_,rfl,λhp=>?_,λhp=>?_⟩
  · -- a pair goes to the run
   have hp:=a6.1 hp;have H:e.args.length=1:=aa.dX.kv V;have ab:dn e=0:=ae λh:nt e.op=>by have:=h.2;omega
   have F:=x6.trans x7;have R:=W.trans F;intro m8;have u:Le O (bz (D.F::[L.F]) m7):=(xy O).trans ((R.fz []).bz E λf g=>by simp at g;have:=x1.size;exact Or.inr V);refine GS.jN (x:=e) (C.gr.ext fA.mono F) ((X.trans F).fz []) (ha.le u) (ac.le u) V λa2 M' Z G p A=>⟨λf g=>?_,aN V _ _ _ ⟨lo,w++[e],P,G.ext,(C.gs.ext fA.mono F).re fA.mono (Y:=[D.F]) ⟨p.1,λf g r=>A f g (by simpa using r)⟩ E (by simpa using aI) (λf g=>?_),Z,C.wl,by rw[C.Ut];omega,a9,bF,λam r=>?_,λai N=>?_,?_⟩⟩
   ·have:=T (t:=m7) x7.size f g;rw[A f this (by simp at g;omega),(J.push m7 _).same f this]
   ·rcases List.mem_cons.1 g with j|j
    ·rcases p.2 with s|s
     ·exact Or.inl (by rw[j,s];exact aS)
     ·exact Or.inr V
    ·exact Or.inl (ah _ j)
   ·rcases List.mem_append.1 r with r|r
    ·exact C.kv am r
    ·simp at r;subst r;exact H
   ·obtain⟨am,r,s⟩:=N;have j:dc (aA.take (z+1))=dc (aA.take z):=V;rw[j];rcases List.mem_append.1 r with r|r
    ·exact C.Uz ai ⟨am,r,s⟩
    ·simp at r;subst r;exact aa.dX.args ai s
   ·have:=(C.gs.ext fA.mono F).aZ;rcases p.2 with j|j<;>omega
  · -- another step ends the run
   have F:=x6.trans x7;have aU:=F.size;refine(vJ (S:=[L.F,D.F]++m.size::v) (Q aU bF) (aK F) C.kv V).aG (J.aC m7) (T x7.size) λbU be bQ a0 bh aP _=>⟨_,rfl,?_⟩;obtain⟨ap,aj,bl⟩:=Nd (c:=c) (d:=d) bh C.Uz;have bA:=eY be;have vP:=aP.size;have z7:=x7.size;have a5:(2*w.length)*(2*w.length)<=160000000000:=bI (Nk (b:=400000) V) bd;have aR:=F.trans aP;refine GS.all (C.gs.ext fA.mono aR) ((X.trans aR).fz []) (a0.done fA.mono (Q (y:=[L.F,D.F]) aU bF) bd V) V λA p ay aY aT bi=>⟨λf g=>bi f (T V f g) (by simp at g;omega),?_⟩;have au:J o p:=aY.ext;have bX:=aT.1;have bM:=ay.aZ;have bt:A.F=L.F\/K.size<=A.F:=by have:=aT.2;omega
   intro s ao;have aQ:J p s:=J.push p _;have bV:s.size=p.size+1:=by simp[s]
   have bm:J s ao:=J.push s _;have av:=au.trans aQ;have gn:GS [A.F] o s (.mk p.size 0 0 0) []:=(GS.new _ p).cF fA.mono (λi q=>Or.inl q) au.size;have gk:GB ([A.F,p.size]++m.size::v) s ao (.mk s.size 0 0 0) []:=GB.new _ s;have a1:GS ([p.size]++m.size::v) o s A _:=ay.re fA.mono (Y:=[]) (aQ.fz []) E E λf g=>by
    rcases List.mem_cons.1 g with j|j
    ·exact Or.inr V
    ·exact Or.inl (ah _ j)
   clear_value ao;clear_value s;have an:=ac.len;have bv:=H9 e.bt;have bx:bw e.bt<=400000:=V;refine dt (n:=e.bt.length) (an▸ac.gA) (λH bk t=>J s t/\∃u,GB ([A.F,p.size]++m.size::v) s t bk u/\u.length=H/\(∀(G:Nat)(i:Bk),u[G]? =some i->WB c d True (a+dc (aA.take z)+y9 c e.op e.bJ G) i)/\bw u<=bw (e.bt.take H)*bw (e.bt.take H)) ⟨bm,[],gk,rfl,E,E⟩ ?_;rintro H ks af I2 μ2 hj ⟨ab,u,Z,bC,aH,a7⟩ bg;have aV:=av.trans ab;have ak:=x1.trans aV;have bY:=ab.size;have bN:=Z.aZ;have R:∀i∈[B.size,m.size,O.size],i<af.size:=T V;refine dit (λh2=>?_) λh2=>?_
   ·obtain⟨i,q⟩:=ag (l:=e.bt) (k:=H) V;obtain⟨tb,aZ,f0,f1⟩:=ac.u q;have a8:=uE q;have aO:=sI q;refine⟨V,V,_,ak.D f0,_,ak.D f1,?_⟩;refine(ih e (ar hx) i (ar q) ([ks.F,A.F,p.size]++m.size::v) af (Q V bF) tb _ (aZ.le ak.le) (aa.bt H i q) V).aG (J.aC af) R λss b' a_ aW aG aq _=>⟨_,_,rfl,?_⟩;refine GB.jN (b:=b') (Z.ext pL.mono aq) ((ab.trans aq).fz []) aW V λa2 M' g2 f2 z2 q2=>⟨J.mO ((ab.trans aq).aM _) f2.ext (λf g=>by have:=T (t:=s) V f g;omega),bg V _ _ ⟨f2.ext,_,g2,bF,λG b2 N=>?_,?_⟩⟩
    ·rcases aX G u.length with al|al
     ·rw[aw al]at N;exact aH G b2 N
     ·rw[aF al]at N;have:G -u.length=0:=by have:=ax N;simp at this;omega
      rw[this]at N;simp at N;subst N;have:G=H:=V;subst this;exact aG.1
    ·rw[mX,sH,xe,aO];have h3:=FU (bw (e.bt.take H)) i.w;have:=aG.2;omega
   ·have a8:u.length=e.bt.length:=V;rw[cE V]at a7;refine(bB ([A.F,p.size]++m.size::v) (ha.ext ak) V).aG (J.aC af) R λs' l' bf ga j N _=>⟨_,rfl,aJ (N.same _ (R _ E)) _,aJ (N.same _ (R _ E)) _,aJ (N.same _ (R _ E)) _,?_⟩;subst j;intro bR;have al:=ab.trans N;have bZ:=N.size;have aq:∀f∈[A.F,p.size]++m.size::v,f<s.size:=Q V bF;have a_:A.F≠p.size:=V;refine GS.jN (x:=⟨e.op,e.bJ,e.bV,e.args,u⟩) (a1.ext fA.mono al) ((av.trans al).fz []) (ga.done (λf g=>by have:=aq f g;omega) V) (mf.le (N.cK _) (Z.done pL.mono aq bd (by show u.length<=_;omega))) bF λaO bT a2 aZ bp aG=>⟨λf g=>?_,aN V _ _ _ ⟨_,[],P+2*w.length+e.w,aZ.ext,a2,?_,((C.wl.append (by rw[C.Ut];exact ap)).xH (aa.MQ id aa.dX.bV a8 aH|>λh=>by rw[cp,C.Ut,aj,iJ];exact h)),?_,?_,bF,λ_ h=>by simp at h,λai⟨_,h,_⟩=>by simp at h,?_⟩⟩
    ·have h3:=R f g;rw[aG f V (by simp at g;omega),(J.push bf _).same f V]
    · -- the new run is empty
     have j:=gn.ext fA.mono al;obtain⟨p0,aW,p1,p2⟩:=j;refine⟨p0,aW,p1.congr (aG _ (by have:=al.size;show p.size<_;omega) (km a_)),p2.len,p2.size,λG cs am _ r=>by simp at r⟩
    ·rw[cp,cp,C.Ut,aj,jG,qU];have j:dn (⟨e.op,e.bJ,e.bV,e.args,u⟩:cg)=dn e:=rfl;omega
    ·rw[db,db,ly,tw];have h3:=FU P (2*w.length);have h4:=FU (P+2*w.length) e.w;have h5:(⟨e.op,e.bJ,e.bV,e.args,u⟩:cg).w=1+e.args.length+bw u:=cg.kT _;have r:=FU (1+e.args.length) (bw e.bt);have h7:1+e.args.length<=(1+e.args.length)*(1+e.args.length):=Nat.le_mul_of_pos_left _ V;rw[<-bc]at r;omega
    ·rcases bp.2 with j|j
     ·show aO.F≠p.size;omega
     ·show aO.F≠p.size;omega
 ·have an:z=aA.length:=V;subst an;rw[eT]at aB;have F:dc (aA.take aA.length)=dc aA:=by rw[eT]
  have j:∀i∈[m.size,O.size],i<B.size:=λi q=>X.lt (hl i q);refine(vJ (S:=[L.F,D.F]++m.size::v) (Q (ad _) bF) (aK (J.aC _)) C.kv V).aG (J.aC B) j λZ p N u G e _=>⟨_,rfl,aJ (e.same _ (j _ E)) _,?_⟩;obtain⟨ap,aj,bl⟩:=Nd (c:=c) (d:=d) G C.Uz;have K:=eY p;have a5:(2*w.length)*(2*w.length)<=160000000000:=bI (Nk (b:=400000) V) bd;have aa:=e.size;refine GS.all (C.gs.ext fA.mono e) ((X.trans e).fz []) (u.done fA.mono (Q (y:=[L.F,D.F]) (ad _) bF) bd V) V λH R A s ab r=>⟨λf g=>r f (e.lt (j f g)) (by have:=hl f g;omega),aJ (r _ (e.lt (j _ E)) V) _,?_⟩;intro T;refine⟨H,.mk (lo++p) bj,rfl,dL.le (bS E λf g=>ah _ g) ((A.re fA.mono (S':=m.size::v) (Y:=[]) (Fz.aC _ _) E E (λf g=>Or.inl (ah _ g))).done fA.mono aC bd bF),⟨WB.of (C.wl.append (by rw[C.Ut];exact ap)) ?_,?_⟩,(x1.trans s.ext).aj V _ _⟩
  ·rw[cp,C.Ut,aj,F];exact aM.2
  ·rw[Bk.oU,db];have h3:=FU P (2*w.length);have h4:=Nk aB;have h5:=FU 1 (sw aA);omega
end
section
variable{S:List Nat}{m:I}{d r:O}{e:List bO}{c:List fF}{W:Nat}
def Fe(H:∀a∈S,a<m.size)(j:dI m d r e c)(hW:W<=400000)(hk:vS e c True W):sY 94 [.agg #[O.v d,O.v r]] m S e λv=>vS e v True (W*W):=by
 apply xP;simp -zeta only[aE,aD];intro b P;obtain⟨y,t⟩:=dj (a:=b) (b:=P) rfl rfl;have s1:b.size=m.size+1:=by simp[b]
 clear_value P;have aj:=j.gQ.len;have au:=j.mG;refine(eV (S:=b.size::S) (bD H y.size (t _ E)) (j.le y.le).aY j.types).mono λ_ L⟨ac,h,ae,z⟩=>?_;subst h;refine⟨z.de t,_,rfl,?_⟩;intro N an ab;have u2:=y.trans z;obtain⟨x5,B0,g0,s3,s5⟩:=jQ (S:=N.size::b.size::S) gK.mono (b:=L) (a:=N) (c:=an) (f:=ab) rfl rfl rfl;clear_value ab;have u:∀a∈[b.size,m.size],a<L.size:=λa g=>z.lt (t a g);have I:∀a∈b.size::S,a<L.size:=λa g=>z.lt (bD H y.size (t _ E) a g);refine jL (R:=λf i M=>∃d r v,Value.agg #[O.v f,O.v i]=.agg #[O.v d,O.v r]/\dI (bz S M) d r e v/\vS e v True (W*W)/\J m M) (t:=c.length) (m:=m) (S:=S) gK.mono bd bd H ⟨V,u _ E⟩ u2 s3 ae aj V x5 B0 g0 (λ_ q=>q.params.length<=3/\q.cV.length<=3/\WB e c.length True q.params.length q.body/\q.body.w<=W*W) (λf s K w Y Z i o p=>⟨f,s,K,rfl,⟨Y,Z,j.types,V⟩,EQ hk.gR i o,p⟩) λam M st K ap μ af aq A X B ao=>?_
 obtain⟨q,hq⟩:=ag (l:=c) (k:=am) af;obtain⟨ai,ah,al,hw⟩:=hk.dh q (ar hq);have x:=u2.trans A;obtain⟨av,aw,f,c1,c2,c3,Q,T,U,C,F⟩:=j.gQ.u hq;have G:∀{w:Value}{f o:Nat},D m f o=some w->D M f o=some w:=λs=>x.D s;refine⟨st,B.cy 1,V,V,_,G Q,_,G T,_,G U,_,G C,_,G F,V,V,_,G C,_,G F,?_⟩;have hy:=X.aZ;have ad:=B.lt;have zM:=A.size;refine(BK q.body (st.F::N.size::b.size::S) M (λa g=>?_) f q.params.length (c3.le x.le) al V).aG A u λss b' M1 ak aa i u1=>⟨_,_,rfl,?_⟩
 ·simp only[aT]at g;rcases g with h|h|h|h
  ·omega
  ·omega
  ·have:=I a (by simp[h]);omega
  ·have:=I a (by simp[h]);omega
 have p:∀{w:Value}{f o:Nat},D m f o=some w->D M1 f o=D M f o:=λs=>by rw[i.D (G s),G s]
 refine⟨p Q,p T,p U,p C,p F,aJ (i.same _ (A.lt (u _ E))) _,aJ (i.same _ ad) _,?_⟩;exact tS (S:=b.size::S) (h:=ac) (x:=K) I (λa g=>by have Y:=u a g;have Z:=u1.size;omega) u1 (X.ext gK.mono i) (B.ext i) V (c1.ext (x.trans i)) (c2.ext (x.trans i)) ak ⟨V,V⟩ V λs' Z g' Y x'=>ao s' Z _ g' Y x' ⟨ai,ah,aa.1,bI aa.2 (Nk hw)⟩
def UG(b:Bk):Prop:=∀(S:List Nat)(m:I),(∀c∈S,c<m.size)->∀t:O,dL m t b.aA->b.w<=1000000000000->lV 217 [.agg #[O.v t,vi b.aR]] m S (b=·)
def vH(L:∀f∈S,f<m.size){A C:O}{x:cg}(N:au m A x.args)(v:mf m C x.bt)(hw:x.w<=1000000000000)(T:∀e∈x.bt,UG e):HP 248 [np x A C] m S (x=·):=by
 apply zP;simp -zeta only[aE,aD];intro c a z;obtain⟨F,w⟩:=dj (a:=c) (b:=a) rfl rfl;have W:c.size=m.size+1:=by simp[c]
 have s1:a.size=m.size+2:=by simp[a,W]
 have Y:J a z:=J.push _ _;have H:GB (c.size::S) a z (.mk a.size 0 0 0) []:=GB.new _ a;clear_value z;clear_value a;have t:∀f∈c.size::S,f<a.size:=bD L F.size (w _ E);have P:=v.len;have ad:=cg.kT x;have ab:=oF x.bt;refine dt (n:=x.bt.length) (P▸v.gA) (λy s M=>J a M/\GB (c.size::S) a M s (x.bt.take y)) ⟨Y,H⟩ ?_;rintro y s p aa μ hj ⟨j,o⟩ U
 have i:=F.trans j;have h:∀e∈[c.size,m.size],e<p.size:=λe g=>j.lt (w e g);have R:=o.aZ;have Z:=j.size;refine dit (λK=>?_) λK=>?_
 ·obtain⟨e,g⟩:=ag (l:=x.bt) (k:=y) V;obtain⟨X,Q,B,G⟩:=v.u g;have ac:=uE g;refine⟨V,V,_,i.D B,_,i.D G,?_⟩;refine(T e (ar g) (s.F::c.size::S) p (bD t Z R.2) X (Q.le i.le) V).aG (J.aC p) h λss b' D M q d _=>⟨_,_,rfl,?_⟩;subst q;refine GB.jN (b:=e) (o.ext pL.mono d) ((j.trans d).fz []) M bF λr M' I u z2 q2=>⟨J.mO ((j.trans d).aM _) u.ext w,U V _ _ ⟨u.ext,?_⟩⟩;rw[bK g];exact I
 ·rw[cE V]at o;refine(bB (c.size::S) (N.ext i) V).aG (J.aC p) h λM Q D G q d _=>⟨_,rfl,aJ (d.same _ (h _ E)) _,aJ (d.same _ (h _ E)) _,aJ (d.same _ (h _ E)) _,?_⟩;subst q;intro I;have B:Le (bz (c.size::S) D) (bz S I):=bS E λf u=>ah _ u;exact⟨M,s,x,rfl,(G.done (λf u=>by have:=t f u;omega) V).le B,mf.le B ((o.ext pL.mono d).done pL.mono t bd V),rfl,(i.trans d).aj V _ _⟩
def ua:∀g:Bk,UG g:=by
 refine Bk.ind ?_;intro aA f ih S m Z an z hw;rw[Bk.oU]at hw;simp only[Bk.iY,Bk.iu]at*;apply pE;simp -zeta only[aE,aD];intro d b c C q;obtain⟨K,y⟩:=dj (a:=d) (b:=b) rfl rfl;have s0:d.size=m.size+1:=by simp[d]
 have s1:b.size=m.size+2:=by simp[b,s0]
 have s2:c.size=b.size+1:=by simp[c]
 have s3:C.size=c.size+1:=by simp[C]
 have L:J c q:=(J.push c _).aj (ad _) _ _;have aj:J b q:=(J.push b _).trans L;have x:GS (c.size::d.size::S) b q (.mk b.size 0 0 0) []:=(GS.new _ b).ext fA.mono L;have N:cD q c.size cQ [.s (.mk b.size 0 0 0),.i f]:=cD.aj (m:=C) (o:=0) (r:=[.s (.mk b.size 0 0 0),.i f]) (cD.push c _ _);clear_value q;have G:∀u∈d.size::S,u<b.size:=bD Z K.size (y _ E);have af:=z.len;have al:=eY aA;refine eg (n:=aA.length) (af▸z.gA) (λA M=>J b M/\∃s,GS (c.size::d.size::S) b M s (aA.take A)/\cD M c.size cQ [.s s,.i f]) ⟨aj,_,x,N⟩ ?_;rintro A D ak μ hk ⟨w,s,j,B⟩ ai
 have e:=K.trans w;have ae:∀g∈[d.size,m.size],g<D.size:=λg hb=>w.lt (y g hb);have hy:=j.aZ;have z5:=w.size;have F:=B.lt;refine dit (λY=>?_) λY=>?_
 ·obtain⟨I,v⟩:=ag (l:=aA) (k:=A) V;obtain⟨pa,pk,ha,ac,x,T,U,W,X⟩:=z.u v;have am:=Ma v;refine⟨s,B.cy 0,V,V,_,e.D x,_,e.D T,_,e.D U,_,e.D W,_,e.D X,?_⟩;refine(vH (S:=s.F::c.size::d.size::S) (bD (bD G z5 F) (ad _) hy.2) (ha.ext e) (ac.le e.le) V (ih I (ar v))).aG (J.aC D) ae λO P x' H aa ab h t _=>⟨_,_,_,_,_,rfl,aJ (t.same _ F) _,?_⟩;subst h;intro m7;refine Gr.box (f:=[.i 0,.i 0,.i 0,.s .nil,.s .nil]) (j:=0) (o:=[.s s,.i f]) (y:=I) fA.mono bd (j.ext fA.mono t) ((w.trans t).fz []) ⟨O,P,rfl,aa,ab⟩ bF (B.ext t) E bd ⟨V,E⟩ (λu p=>by have M:=y u p;have Q:=t.size;omega) λr' m' R M Q z' q'=>ai V _ ⟨Q.ext,r',?_,M⟩
  rw[bK v];exact R
 ·rw[cE V]at j;refine⟨s,B.cy 0,f,B.cy 1,?_⟩;intro H;have v:=j.ne B bd;have t:Le (bz (c.size::d.size::S) D) (bz S H):=bS E λu p=>ah _ (ah _ p);refine⟨s,.mk aA f,rfl,dL.le t (j.mg fA.mono (λp=>?_) bd (by show aA.length<=_;omega)),rfl,e.aj V _ _⟩;rcases List.mem_cons.1 p with h|h
  ·exact v h
  ·have:=G _ h;omega
def Wl(b:Bk):Prop:=∀(m:I)(t:O)(f:Int),dL m t b.aA->mV 249 [.agg #[O.v t,vi b.aR],vi f] m
def G6:∀c:Bk,Wl c:=by
 refine Bk.ind ?_;intro aA aa P m t v o;simp only[Bk.iY,Bk.iu]at*;apply zL;simp -zeta only[aE,aD];intro f;have C:J m f:=J.push _ _;have K:∀c∈[m.size],c<f.size:=by simp[f]
 clear_value f;have N:=o.len;refine eg (n:=aA.length) (N▸o.gA) (λ_ M=>J f M) (J.aC _) ?_;rintro a p E μ hk u S
 have g:=C.trans u;refine⟨λi=>?_,λ_=>rA g⟩;simp only[ao]at i;obtain⟨x,y⟩:=ag (l:=aA) (k:=a) V;obtain⟨pa,z,ha,j,F,G,Z,g3,w⟩:=o.u y;have H:=j.len;have L:∃(h:Int->I->Prop)(μ0_1:Int->I->Nat),h (0:Int) p/\(∀(b:Int)(M:I),h b M->
  (0:Int)<=(a:Int)/\(a:Int)<(t.len:Int)/\∃s:O,D M t.F (t.off+Int.toNat (a:Int)*5+4)=some (O.v s)/\
  ((decide (b<(s.len:Int)))=true->(0:Int)<=(a:Int)/\(a:Int)<(t.len:Int)/\∃d:O,D M t.F (t.off+Int.toNat (a:Int)*5+4)=some (O.v d)/\
   (0:Int)<=b/\b<(d.len:Int)/\∃A:O,D M d.F (d.off+Int.toNat b*2)=some (O.v A)/\∃B:Int,D M d.F (d.off+Int.toNat b*2+1)=some (vi B)/\
   aN bY 249 [.agg #[O.v A,vi B],vi v] M λr e=>dV [m.size] M e/\∃q:Bool,r=vb q/\(q=true->∃c:Bool,vb true=.bool c/\J m e)/\(q=false->h (cO (b+(1:Int))) e/\μ0_1 (cO (b+(1:Int))) e<μ0_1 b M))/\
  ((decide (b<(s.len:Int)))=false->E (cO ((a:Int)+(1:Int))) M/\μ (cO ((a:Int)+(1:Int))) M<μ a p)):=by
  refine eg (n:=x.bt.length) (H▸j.gA) (λ_ M=>J p M) (J.aC _) ?_
  rintro Q M X μ2 hj d R
  have b:=g.trans d
  refine⟨V,V,z,b.D w,λi=>?_,λ_=>S V _ (u.trans d)⟩
  simp only[ao]at i
  obtain⟨c,q⟩:=ag (l:=x.bt) (k:=Q) V
  obtain⟨T,B,s,A⟩:=j.u q
  refine⟨V,V,z,b.D w,V,V,_,b.D s,_,b.D A,?_⟩
  exact(P x (ar y) c (ar q) M T v (B.le b.le)).aG (u.trans d) K λY e W U=>⟨_,rfl,λ_=>rA (C.trans U),λ_=>R V _ (d.trans W)⟩
 exact⟨V,V,_,g.D F,λ_=>⟨V,V,_,g.D G,λ_=>rA g,λ_=>L⟩,λ_=>L⟩
def He(g:dI m d r e c)(h:Int):mV 218 [.agg #[O.v d,O.v r],vi h] m:=by
 apply Aa;simp -zeta only[aE,aD];intro a;have j:J m a:=J.push _ _;have u:∀f∈[m.size],f<a.size:=by simp[a]
 clear_value a;have L:=g.gQ.len;have K:=g.mG;refine eg (n:=c.length) V (λ_ M=>J a M) (J.aC _) ?_;rintro w x I μ H o y
 have b:=j.trans o;refine⟨λt=>?_,λ_=>rA b⟩;simp only[ao]at t;obtain⟨z,v⟩:=ag (l:=c) (k:=w) V;obtain⟨M,N,f,C,D,p,E,F,G,q,s⟩:=g.gQ.u v;exact⟨V,V,_,b.D q,_,b.D s,(G6 z.body x f h (p.le b.le)).aG o u λB A P i=>⟨_,rfl,λ_=>rA (j.trans i),λ_=>y V _ i⟩⟩
abbrev V6(S:List Nat)(a m:I)(s:O)(l:List (List Int)):Prop:=Gr S a m vy 1 lB s l
def DA(hS:∀a∈S,a<m.size)(p:dI m d r e c)(hp:∀A∈c,A.params.length<=3):
 aN bY 183 [.agg #[O.v d,O.v r]] m λaf K=>∃s f,af=O.v s/\ns (bz S K) s f/\f.length=c.length/\(∀a∈f,a.length<=3)/\J m K:=by
 apply wg
 simp -zeta only[aE,aD]
 intro b z
 have R:J m b:=J.push _ _
 have x:∀B∈[m.size],B<b.size:=by simp[b]
 have ah:J b z:=J.push _ _
 have Y:V6 S b z (.mk b.size 0 0 0) []:=Gr.new S (ad _) _ _ _
 clear_value z
 clear_value b
 have al:=p.gQ.len;have ak:=p.mG
 have F:∀a∈S,a<b.size:=λa w=>R.lt (hS a w)
 refine dt (n:=c.length) V (λh s M=>J b M/\∃f,V6 S b M s f/\f.length=h/\∀a∈f,a.length<=3) ⟨ah,[],Y,rfl,E⟩ ?_
 rintro h s L T μ hk ⟨u,f,v,ai,D⟩ ab
 have t:=R.trans u
 have g:=v.aZ
 refine dit (λaa=>?_) λaa=>?_
 ·obtain⟨A,G⟩:=ag (l:=c) (k:=h) V
  obtain⟨ac,am,B,U,c2,c3,W,e1,e2,e3,e4⟩:=p.gQ.u G
  have aj:=hp A (ar G)
  have ij:∀(M:I)(i:O)(a:List Int),J L M->au (bz (s.F::S) M) i a->a.length<=3->iP (M.push (.cells (br [.s i]) vy)) vy [.s O.nil] 24 s (O.mk M.size 0 1 1) λP o=>dV [m.size] (M.push (.cells (br [.s i]) vy)) o/\T P (cO ((h:Int)+(1:Int))) o/\μ P (cO ((h:Int)+(1:Int))) o<μ s h L:=λM i a y hf w=>
   Gr.jN (f:=[.s .nil]) lB.mono bd (v.ext lB.mono y) ((u.trans y).fz []) ⟨i,rfl,hf⟩ V λr' o X C _ _=>⟨J.mO ((u.trans y).aM _) C.ext x,ab V _ _ ⟨C.ext,_,X,bF,λj g=>by
    rcases List.mem_append.1 g with g|g
    ·exact D j g
    ·simp at g;subst g;exact w⟩⟩
  refine(He (p.le t.le) h).aG u x λa m4 j Q=>⟨_,rfl,λ_=>?_,λ_=>⟨V,V,ac,(t.trans j).D W,?_⟩⟩
  ·intro q m6
   exact ij q _ [] (j.aM _) (lg _ _ _ _ _ _) E
  ·refine(pS (S:=[]) E (a:=0) ((U.ext (t.trans j)).le (xy _)) V).aG Q x λae H q Z N x5 u5=>⟨_,rfl,?_⟩
   intro m6
   have hg:GI (s.F::S) m4 q ae H:=Z.any
   exact ij q _ H (j.trans x5) (hg.done (bD F Q.size (by have:=j.size;omega)) (by have:=N.2;omega)) (by have:=N.2;omega)
 ·exact⟨s,f,rfl,v.done lB.mono F bd V,V,D,t⟩
def Wm(e:List bO)(c:List fF)(b:Bk):Prop:=∀(m:I)(d r t:O)(v:Int)(f:Prop)(a:Nat),dI m d r e c->dL m t b.aA->WB e c.length f a b->mV 219 [.agg #[O.v d,O.v r],.agg #[O.v t,vi b.aR],vi v] m
def xR:∀b:Bk,Wm e c b:=by
 refine Bk.ind ?_;intro aA al ih m d r am ai p ak G w ac;have ae:=ac.bq.1;simp only[Bk.iY,Bk.iu]at*;apply tj;simp -zeta only[aE,aD];intro N z;obtain⟨Q,hl⟩:=dj (a:=N) (b:=z) rfl rfl;clear_value z;have aa:=w.len;refine⟨λ_=>rA Q,λ_=>?_⟩;refine eg (n:=aA.length) (aa▸w.gA) (λ_ M=>J z M) (J.aC _) ?_;rintro L s aj μ hk D ah
 have f:=Q.trans D;refine⟨λi=>?_,λ_=>rA f⟩;simp only[ao]at i;obtain⟨x,y⟩:=ag (l:=aA) (k:=L) V;obtain⟨pa,pk,q,u,S,T,U,W,X⟩:=w.u y;have H:=ae L x y;have Y:=q.len;have Z:=u.len;refine⟨V,V,_,f.D S,_,f.D T,_,f.D U,_,f.D W,_,f.D X,?_⟩;intro m3 g;have E:J s g:=(J.push s _).aj (ad _) _ _;have s4:g.size=s.size+1:=by simp[g,m3,az]
 clear_value g;have v:∀b∈[s.size,N.size,m.size],b<g.size:=λb j=>by
  rcases List.mem_cons.1 j with F|F
  ·omega
  ·exact(D.trans E).lt (hl b F)
 refine eg (n:=x.args.length) (Y▸q.gA) (λ_ M=>J g M) (J.aC _) ?_;rintro K O I1 μ1 hj o B;have C:=(f.trans E).trans o;refine⟨λi=>?_,λ_=>?_⟩
 ·simp only[ao]at i;obtain⟨ab,R⟩:=ag (l:=x.args) (k:=K) V;refine⟨V,V,ab,(q.ext C).u R,λ_=>?_,λ_=>B V _ o⟩;refine(vG x.op O).aG o v λp A h I=>⟨_,rfl,λ_=>?_,λ_=>B V _ I⟩;have a:=C.trans h;exact(mo (⟨G.le a.le,q.ext a,H.dX.call⟩:At A d r pa pk e c x) K).aG I v λp m7 t P=>⟨_,rfl,λ_=>rA (a.trans t),λ_=>B V _ P⟩
 ·refine eg (n:=x.bt.length) (Z▸u.gA) (λ_ M=>J O M) (J.aC _) ?_;rintro I A I2 μ2 hi h af;have a:=C.trans h;refine⟨λi=>?_,λ_=>ah V _ (((D.trans E).trans o).trans h)⟩;simp only[ao]at i;obtain⟨b,j⟩:=ag (l:=x.bt) (k:=I) V;obtain⟨tb,ab,M,R⟩:=u.u j;refine⟨V,V,_,a.D M,_,a.D R,?_⟩;exact(ih x (ar y) b (ar j) A d r tb ai p _ (G.le a.le) (ab.le a.le) (H.bt I b j)).aG (o.trans h) v λp m7 t P=>⟨_,rfl,λ_=>rA (a.trans t),λ_=>af V _ (h.trans t)⟩
def Hg(Q:∀g∈S,g<m.size)(t:dI m d r e c){g:Prop}(R:vS e c g W){C:Nat}{q:fF}(u:c[C]? =some q):jS 184 [.agg #[O.v d,O.v r],vi C] m S λf=>f.length<=q.cV.length:=by
 apply Ab;simp -zeta only[aE,aD];intro a w;have A:J m a:=J.push _ _;have F:∀j∈[m.size],j<a.size:=by simp[a]
 have X:J a w:=J.push _ _;have P:GI S a w (.mk a.size 0 0 0) []:=GI.nil S a;clear_value w;clear_value a;have af:=t.gQ.len;have aa:=ax u;obtain⟨ae,ac,T,hw⟩:=R.dh q (ar u);obtain⟨ai,y,j,Z,o,K,e0,p,e2,L,N⟩:=t.gQ.u u;have ah:=o.len;refine dt (n:=q.cV.length) V (λv x M=>J a M/\∃f,GI S a M x f/\f.length<=v) ⟨X,[],P,ad _⟩ ?_;rintro v x U Y μ ab ⟨I,f,s,E⟩ H
 have b:=A.trans I;refine⟨V,V,y,b.D p,λh=>?_,λh=>⟨x,f,rfl,s.cF (λ_ h=>h) A.size,V,b⟩⟩;simp only[ao]at h;obtain⟨B,G⟩:=ag (l:=q.cV) (k:=v) V;refine⟨V,V,_,b.D L,_,b.D N,V,V,y,b.D p,V,V,B,(o.ext b).u G,?_⟩;refine(xR q.body U d r j B g _ (t.le b.le) (K.le b.le) T).aG I F λcc m4 i z=>⟨_,rfl,λ_=>⟨V,V,y,(b.trans i).D p,V,V,B,(o.ext (b.trans i)).u G,?_⟩,λ_=>H V _ _ ⟨z,f,s.ext i,V⟩⟩;intro m5;exact GI.jN (s.ext i) (z.fz []) (λg E=>A.lt (Q g E)) V λr m6 M D _ _=>⟨J.mO (z.aM _) D.ext F,H V _ _ ⟨D.ext,_,M,bF⟩⟩
end
section
variable{S:List Nat}{m:I}{d r:O}{b:List bO}{e:List fF}{c:Prop}{W:Nat}
def vL(U:∀c∈S,c<m.size){lt:O}{K:List (List Int)}(y:dI m d r b e)(hW:W<=1000000)(hk:vS b e c W)(ah:ns m lt K)(aR:K.length=e.length)(aw:∀c∈K,c.length<=3):
 sY 182 [.agg #[O.v d,O.v r],O.v lt] m S b λz=>vS b z c W/\z.length=e.length:=by
 apply Az
 simp -zeta only[aE,aD]
 intro g a2
 obtain⟨N,F⟩:=dj (a:=g) (b:=a2) rfl rfl
 have s1:g.size=m.size+1:=by simp[g]
 clear_value a2
 have aA:=y.gQ.len;have aU:=y.mG
 refine(eV (S:=g.size::S) (bD U N.size (F _ E)) (y.le N.le).aY y.types).mono λ_ aa⟨dd,f,aq,P⟩=>?_
 subst f
 refine⟨P.de F,_,rfl,?_⟩
 intro t aK am
 have u2:=N.trans P
 obtain⟨x5,B0,g0,s3,s5⟩:=jQ (S:=t.size::g.size::S) gK.mono (b:=aa) (a:=t) (c:=aK) (f:=am) rfl rfl rfl
 clear_value am
 have Y:∀c∈[g.size,m.size],c<aa.size:=λc h=>P.lt (F c h)
 have af:∀c∈g.size::S,c<aa.size:=λc h=>P.lt (bD U N.size (F _ E) c h)
 refine jL (R:=λj o M=>∃d r z,Value.agg #[O.v j,O.v o]=.agg #[O.v d,O.v r]/\dI (bz S M) d r b z/\(vS b z c W/\z.length=e.length)/\J m M) (t:=e.length) (m:=m) (S:=S) gK.mono bd bd U ⟨V,Y _ E⟩ u2 s3 aq aA V x5 B0 g0 (λ_ q=>q.params.length<=3/\q.cV.length<=3/\WB b e.length c q.params.length q.body/\q.body.w<=W) (λo r' ak m' h1 C j p s=>⟨o,r',ak,rfl,⟨h1,C,y.types,V⟩,⟨EQ hk.gR j p,j⟩,s⟩) λaj M u ak aN μ av aQ xM ae Q aL=>?_
 obtain⟨q,hq⟩:=ag (l:=e) (k:=aj) av
 obtain⟨ay,aP,aF,hw⟩:=hk.dh q (ar hq)
 have v6:=u2.trans xM
 obtain⟨aW,aX,p,c1,c2,c3,e0,e1,e2,e3,e4⟩:=y.gQ.u hq
 have G:∀{an:Value}{p x:Nat},D m p x=some an->D M p x=some an:=λB=>v6.D B
 refine⟨V,V,_,G e0,_,G e1,_,G e2,_,G e3,_,G e4,?_⟩
 intro m7 j
 have hy:=ae.aZ
 have aO:=Q.lt
 have zM:=xM.size
 have x8:J M j:=(J.push M _).aj (ad _) _ _
 have s8:j.size=M.size+1:=by simp[j,m7,az]
 clear_value j
 have H:∀c∈[M.size,g.size,m.size],c<j.size:=λc h=>by
  rcases List.mem_cons.1 h with f|f
  ·omega
  ·have:=Y c f;omega
 have A:=v6.trans x8
 have s:∀{M1 M2:I},J j M1->J j M2->∀p,p<j.size->∀x,D M2 p x=D M1 p x:=λB h' p hb x=>aJ (by rw[h'.same p hb,B.same p hb]) x
 have w:M.size<j.size:=V
 have Z:t.size<j.size:=V
 obtain⟨ac,ai⟩:=ag (l:=K) (k:=aj) V
 obtain⟨yt,aH,T⟩:=ah.u ai
 have aG:=aw ac (ar ai)
 have aS:=ah.len
 have X:∀{M':I},j.size<=M'.size->∀c∈u.F::t.size::g.size::S,c<M'.size:=λB c h=>by
  simp only[aT]at h;rcases h with f|f|f|f
  ·omega
  ·omega
  ·have:=af c (by simp[f]);omega
  ·have:=af c (by simp[f]);omega
 refine⟨u,(Q.ext x8).cy 1,V,V,yt,A.D T,?_⟩
 refine(bB (u.F::t.size::g.size::S) (c1.ext A) V).aG (J.aC j) H λp' _ m9 gp f o _=>⟨_,rfl,s (J.aC _) o _ w _,s (J.aC _) o _ w _,s (J.aC _) o _ w _,?_,s (J.aC _) o _ Z _,?_⟩
 ·exact((A.trans o).D T).trans (A.D T).symm
 subst f
 refine(bB (u.F::t.size::g.size::S) (aH.ext (A.trans o)) V).aG o H λt' _ aI gt f ao v=>⟨_,rfl,s o v _ w _,s o v _ w _,s o v _ w _,s o v _ Z _,?_⟩
 subst f
 have z9:=o.size;have vP:=ao.size
 have aM:=A.trans v
 refine(ua q.body (u.F::t.size::g.size::S) aI (X V) p (c3.le aM.le) V).aG v H λss b' al aB f ap L=>⟨_,_,rfl,s v L _ w _,s v L _ Z _,?_⟩
 subst f
 intro aV
 have ab:=x8.trans L
 have aY:=L.size
 have ax:au (bz (u.F::t.size::g.size::S) al) p' q.params:=(gp.done (X V) V).le ((ao.trans ap).cK _)
 have aC:au (bz (u.F::t.size::g.size::S) al) t' ac:=(gt.done (X V) V).le (ap.cK _)
 exact Gr.box (f:=[.s .nil,.s .nil,.i 0,.s .nil,.i 0]) (j:=1) (h:=88) (o:=[.s dd,.s u]) (y:=⟨q.params,ac,q.aR,q.body⟩) gK.mono bd (ae.ext gK.mono ab) ((xM.trans ab).fz []) ⟨p',t',ss,rfl,ax,aC,aB⟩ V (Q.ext ab) E bd ⟨V,E⟩ (λc h=>by have h1:=H c h;have C:=Y c;simp only[aT]at h C;rcases h with f|f|f|f<;>first|omega|(have:=C (by simp[f]);omega)|simp at f) λr' m' g' C f' z' q'=>aL r' m' _ g' C f'.ext ⟨ay,aG,aF,hw⟩
def Hl(hS:∀c∈S,c<m.size)(hn:dI m d r b e)(hW:W<=1000000)(hk:vS b e c W):sY 158 [.agg #[O.v d,O.v r]] m S b λu=>vS b u c W:=by
 apply Ae;simp -zeta only[aE,aD];intro i f;obtain⟨x2,H⟩:=dj (a:=i) (b:=f) rfl rfl;have s1:i.size=m.size+1:=by simp[i]
 have s2:f.size=m.size+2:=by simp[f,s1]
 clear_value f;have aH:=hn.gQ.len;have aF:=hn.mG;have ak:∀c∈i.size::S,c<f.size:=bD hS x2.size (H _ E);have q:∀{M t:I},J f M->J f t->∀ae,D t m.size ae=D M m.size ae:=λv h' ae=>aJ (by rw[h'.same _ (H _ E),v.same _ (H _ E)]) ae;have tail:∀(T:I)(a:Nat)(A z:O)(C:List fF),J f T->f.size<=a->cD T a lL [.s A,.s z]->dI (bz (a::i.size::S) T) A z b C->vS b C c W->
  ∃(I0:Int->I->Prop)(μ0:Int->I->Nat),I0 (0:Int) T/\(∀(p:Int)(w:I),I0 p w->
   ((decide (p<=(12:Int)))=true->
    let Y:I:=w.push (.cells (br []) vy)
    ∃(x:O->Int->I->Prop)(μ1:O->Int->I->Nat),x (O.mk w.size 0 0 0) (0:Int) Y/\(∀(s:O)(y:Int)(h:I),x s y h->
     ∃F:O,D h a 1=some (O.v F)/\
     ((decide (y<(F.len:Int)))=true->∃g:O,D h a 0=some (O.v g)/\∃j:O,D h a 1=some (O.v j)/\
      aN bY 184 [.agg #[O.v g,O.v j],vi y] h λr2 R=>dV [i.size,m.size] h R/\∃aa:O,r2=O.v aa/\
       let ac:I:=R.push (.cells (br [.s aa]) vy)
       iP ac vy [.s O.nil] 24 s (O.mk R.size 0 1 1) λG B=>dV [i.size,m.size] ac B/\x G (cO (y+(1:Int))) B/\μ1 G (cO (y+(1:Int))) B<μ1 s y h)/\
     ((decide (y<(F.len:Int)))=false->∃g:O,D h a 0=some (O.v g)/\∃j:O,D h a 1=some (O.v j)/\
      aN bY 182 [.agg #[O.v g,O.v j],O.v s] h λK P=>dV [i.size,m.size] h P/\∃B:O,∃G:O,K=.agg #[O.v B,O.v G]/\fu P a 0 2/\
       let Q:I:=aj P a 0 [.s B,.s G]
       dV [i.size,m.size] P Q/\I0 (cO (p+(1:Int))) Q/\μ0 (cO (p+(1:Int))) Q<μ0 p w)))/\
   ((decide (p<=(12:Int)))=false->∃g:O,D w a 0=some (O.v g)/\∃j:O,D w a 1=some (O.v j)/\
    let af:I:=aj w i.size 0 [.s g,.s j]
    ∃d r u,Value.agg #[O.v g,O.v j]=.agg #[O.v d,O.v r]/\dI (bz S af) d r b u/\vS b u c W/\J m af)):=by
  intro T a A z C X av hB hN U
  refine eg (n:=13) V (λ_ M=>J f M/\∃A z C,cD M a lL [.s A,.s z]/\dI (bz (a::i.size::S) M) A z b C/\vS b C c W) ⟨X,A,z,C,hB,hN,U⟩ ?_
  rintro aK w aA μ aC ⟨x6,A,z,C,L,N,K⟩ az
  have aB:=L.lt
  have aI:=N.gQ.len
  have aG:=N.mG
  refine⟨λv=>?_,λv=>?_⟩
  ·simp only[ao]at v
   intro Y
   have ap:J w Y:=J.push _ _
   have g0:V6 [] w Y (.mk w.size 0 0 0) []:=Gr.new _ (ad _) _ _ _
   refine dt (n:=C.length) V (λy s M=>J w M/\∃g,V6 [] w M s g/\g.length=y/\∀c∈g,c.length<=3) ⟨ap,[],g0,rfl,E⟩ ?_
   rintro y s h I2 μ2 hf ⟨F,g,ab,aq,B⟩ am
   have u8:=x6.trans F
   have N8:=N.le (F.cK _)
   refine⟨z,(L.ext F).cy 1,dit (λG=>?_) λG=>?_⟩
   ·obtain⟨Z,hq⟩:=ag (l:=C) (k:=y) V
    have an:=(K.dh Z (ar hq)).2.1
    have j:=ab.aZ
    refine⟨A,(L.ext F).cy 0,z,(L.ext F).cy 1,?_⟩
    refine(Hg (S:=[s.F]) bF (N8.le (bo _ _)) K hq).aG u8 H λaa au R ai aw x9 u9=>⟨_,rfl,?_⟩
    intro ac
    refine Gr.jN (f:=[.s .nil]) lB.mono bd (ab.ext lB.mono x9) ((F.trans x9).fz []) ⟨aa,rfl,ai.done bF V⟩ V λx t g' p _ _=>⟨J.mO (u9.aM _) (x6.trans p.ext) H,am V _ _ ⟨p.ext,_,g',bF,λal j=>?_⟩⟩
    rcases List.mem_append.1 j with j|j
    ·exact B al j
    ·simp at j;subst j;omega
   ·refine⟨A,(L.ext F).cy 0,z,(L.ext F).cy 1,?_⟩
    have ai:ns h s g:=dT.le (ab.done lB.mono E bd V) (bo _ _) (lB.le (bo _ _))
    have z8:=F.size;have z6:=x6.size
    refine(vL (S:=a::i.size::S) (λc p=>?_) (N8.le (bo _ _)) hW K ai V B).mono λ_ P⟨d2,r2,an,j,N2,⟨K2,_⟩,aa⟩=>?_
    ·rcases List.mem_cons.1 p with j|j
     ·omega
     ·have:=ak c j;omega
    subst j
    have ac:=(L.ext F).ext aa
    refine⟨u8.Sd H aa,_,_,rfl,ac.fu E,?_⟩
    intro Q
    have al:∀R,R≠a->Q[R]? =P[R]? :=λR hb=>bn _ _ _ _ hb
    refine⟨λc p=>al c (by have:=H c p;omega),az V _ ⟨(u8.trans aa).aj av _ _,d2,r2,an,cD.aj (m:=P) (o:=0) (r:=[.s d2,.s r2]) ac,N2.le (bS E λ_ v=>v),K2⟩⟩
  ·refine⟨A,L.cy 0,z,L.cy 1,?_⟩
   intro af
   exact⟨A,z,C,rfl,(N.le (gL w λc p=>ah _ p)).le (bS E λc p=>ah _ p),K,(x2.trans x6).aj V _ _⟩
 have aw:∀Z∈e,Z.params.length<=3:=λZ hq=>(hk.dh Z hq).1;have am:∀(M:I)(Q:List Nat)(K:Value->I->Prop),J f M->(∀c∈Q,c<M.size)->(∀s g t,ns t s g->g.length=e.length->(∀c∈g,c.length<=3)->J M t->K (O.v s) t)->aN bY 183 [.agg #[O.v d,O.v r]] M λal Y=>dV Q M Y/\K al Y:=λM Q K X hL U=>
  (DA (S:=[]) E (hn.le (x2.trans X).le) aw).mono λ_ t⟨s,g,j,P,G,B,aa⟩=>⟨aa.de hL,j▸U s g t (dT.le P (bo _ _) (lB.le (bo _ _))) G B aa⟩
 have cV:∀(M:I)(S' Q:List Nat)(K:Value->I->Prop)(s:O)(g:List (List Int)),J f M->(∀c∈Q,c<M.size)->(∀c∈S',c<M.size)->ns M s g->g.length=e.length->(∀c∈g,c.length<=3)->(∀y x u t,dI (bz S' t) y x b u->vS b u c W->J M t->K (.agg #[O.v y,O.v x]) t)->aN bY 182 [.agg #[O.v d,O.v r],O.v s] M λal Y=>dV Q M Y/\K al Y:=λM S' Q K s g X hL au P G B U=>
  (vL au (hn.le (x2.trans X).le) hW hk P G B).mono λ_ t⟨y,x,u,j,N,⟨K1,_⟩,aa⟩=>⟨aa.de hL,j▸U y x u t N K1 aa⟩
 have an:∀{M:I}{a:Nat},J f M->a<M.size->∀c∈a::i.size::S,c<M.size:=λv hb c p=>by
  have:=v.size;rcases List.mem_cons.1 p with j|j
  ·omega
  ·have:=ak c j;omega
 have ai:∀{M:I}{a:Nat},J f M->a<M.size->∀c∈[a,i.size,m.size],c<M.size:=λv hb c p=>by
  rcases List.mem_cons.1 p with j|j
  ·omega
  ·exact v.lt (H c j)
 refine⟨am f _ _ (J.aC _) H λs g ac P G B h=>⟨_,rfl,q (J.aC _) h _,q (J.aC _) h _,⟨?_,?_⟩⟩,?_⟩
 ·refine cV ac (i.size::S) _ _ s g h (λc p=>h.lt (H c p)) (λc p=>h.lt (ak c p)) P G B λy x u m3 N K R=>⟨_,_,rfl,?_⟩;have F:=h.trans R;intro m4;have u4:J f m4:=F.aM _;refine⟨q F u4 _,q F u4 _,q F u4 _,q F u4 _,?_⟩;intro m5;have ab:J m3 m5:=(J.push m3 _).aj (ad _) _ _;exact tail m5 m3.size y x u (F.trans ab) F.size (cD.aj (m:=m4) (o:=0) (r:=[.s y,.s x]) (cD.push m3 _ _)) (N.le (ab.bz λc p=>by
   rcases List.mem_cons.1 p with j|j
   ·exact Or.inr V
   ·exact Or.inl j)) K
 ·intro ab;have F:J f ab:=h.aM _;refine⟨q h F _,q h F _,q h F _,q h F _,?_⟩;refine cV ab (ac.size::i.size::S) _ _ s g F (ai F (by simp[ab])) (an F (by simp[ab])) (ns.ext (J.push _ _) P) G B λy x u af N K R=>⟨_,_,rfl,?_⟩;intro ap;exact tail ap ac.size y x u ((F.trans R).aj h.size _ _) h.size (cD.aj (m:=af) (o:=0) (r:=[.s y,.s x]) ((cD.push ac _ _).ext R)) (N.le (bS E λ_ v=>v)) K
 ·intro ab;have F:J f ab:=J.push _ _;refine⟨q (J.aC _) F _,q (J.aC _) F _,q (J.aC _) F _,q (J.aC _) F _,?_⟩;refine am ab _ _ F (ai F (by simp[ab])) λs g aq P G B h=>⟨_,rfl,q F (F.trans h) _,q F (F.trans h) _,?_⟩;have af:=F.trans h;have ap:f.size<aq.size:=h.lt (by simp[ab]);refine cV aq (f.size::i.size::S) _ _ s g af (ai af ap) (an af ap) P G B λy x u ax N K R=>⟨_,_,rfl,?_⟩;intro ay;exact tail ay f.size y x u ((af.trans R).aj (ad _) _ _) (ad _) (cD.aj (m:=ax) (o:=0) (r:=[.s y,.s x]) ((cD.push f _ _).ext (h.trans R))) (N.le (bS E λ_ v=>v)) K
end
section
variable{w:Int}{r:List Int}
structure bL where
 aQ:Int
 lA:Int
 aI:List Int
structure a9 where
 eU:Int
 pc:Int
 dst:Int
 av:List Int
 aV:List Int
 be:List Int
structure St where
 cR:Int
 value:Int
 bG:Int
 dQ:Int
 bq:List Int
 heap:List bL
 ak:List a9
def u(l:List Int)(i:Int):Int:=l.getD i.toNat 0
def gU(l:List Int)(i:Int)(v:Int):List Int:=l.set i.toNat v
def ix(w:Int):Nat:=(w -1000).toNat
def gF(w:Int):Prop:=-999<=w/\w<=999
def jB(h:List bL)(a:Nat):Prop:=∃c,h[a]? =some c/\0<c.aQ
def iX(h:List bL)(w:Int):Prop:=1000<=w/\jB h (ix w)
def oK(h:List bL)(w:Int):Prop:=gF w\/iX h w
def jz:bL:=⟨0,0,[]⟩
def aW(h:List bL)(w:Int):bL:=(h[ix w]?).getD jz
def Xg:cY:=⟨[],[],0,0,[]⟩
def dF(a:cL)(n:Int):cY:=(a.cB[n.toNat]?).getD Xg
def fH(a:cL):Int:=(eD a.aY).length
def dJ:List Int->Nat->Int
 |[],_=>0
 |w::b,a=>(if w=1000+(a:Int)then 1 else 0)+dJ b a
def dw:List bL->Nat->Int
 |[],_=>0
 |c::h,a=>dJ c.aI a+dw h a
def cz:List Int->List Int->Nat->Int
 |r::c,o::b,a=>(if r=1000+(a:Int)then o else 0)+cz c b a
 |_,_,_=>0
def eu:List a9->Nat->Int
 |[],_=>0
 |f::b,a=>cz f.av f.aV a+eu b a
def holds:List a9->Nat->Int
 |[],_=>0
 |f::b,a=>dJ f.be a+holds b a
def mK(a:cL)(x:Instr)(k:Nat):Bool:=(dF a x.bJ).cV.any (λy=>y==(k:Int))
def iV(a:cL)(x:Instr):Nat->List Int->List Int
 |_,[]=>[]
 |k,r::b=>if mK a x k then iV a x (k+1) b else r::iV a x (k+1) b
def lG(a:cL)(x:Instr):Nat->List Int->List Int
 |_,[]=>[]
 |k,r::b=>if mK a x k then r::lG a x (k+1) b else lG a x (k+1) b
def dp(a:cL)(x:Instr):List Int:=
 if x.op=15\/x.op=6\/x.op=10\/x.op=11\/x.op=18\/x.op=23 then x.args
 else if x.op=16\/x.op=17 then x.args.take 1
 else if x.op=9\/x.op=24 then iV a x 0 x.args
 else[]
def dz(av aV:List Int):List Int->List Int
 |[]=>aV
 |r::a=>dz av (if 1000<=u av r then gU aV r (u aV r -1)else aV) a
def dg(f:a9)(a:List Int):List Int:=a.map (u f.av)
def pQ(l:List Int):List Int:=l.filter (λw=>decide (1000<=w))
def mT(h:List bL)(a:List Int):Prop:=∀w∈a,1000<=w->(aW h w).aQ+dJ a (ix w)<=999999
def Lg(h:List bL)(f:a9)(x:Instr):Prop:=
 let w:=u f.av (u x.args 0)
 iX h w/\pQ (aW h w).aI=dg f (x.args.drop 1)/\((aW h w).aQ=1\/mT h (aW h w).aI)/\(x.op=17->u f.be (u x.args 0)=0)
def CK(a:cL)(h:List bL)(w:Int):Prop:=
 iX h w/\0<=(aW h w).lA -fH a/\(aW h w).lA -fH a<a.cB.length/\
  (dF a ((aW h w).lA -fH a)).params.length=(aW h w).aI.length+1/\(dF a ((aW h w).lA -fH a)).cV.length=0/\
  ((aW h w).aQ=1\/mT h (aW h w).aI)
def HR(h:List bL)(f:a9)(x:Instr):Prop:=
 x.bV≠0->u f.be (x.bV -1)≠0->(aW h (u f.be (x.bV -1))).aI.length=x.args.length
def Mt(a:cL)(h:List bL)(f:a9)(x:Instr):Prop:=∀r∈lG a x 0 x.args,1000<=u f.av r->iX h (u f.av r)
def Rw(l:List Int):Prop:=∀n∈l,n=0
structure sZ(im:cL)(s:St)(f:a9)(x:Instr)(aV:List Int):Prop where
 nn:∀o∈aV,0<=o
 dst:kK x.op->u aV x.dst<=0
 pw:(x.op=1\/x.op=2\/x.op=3\/x.op=4\/x.op=5\/x.op=20)->∀r∈x.args,u f.av r<1000
 lp:x.op=6->HR s.heap f x
 cV:(x.op=9\/x.op=24)->Mt im s.heap f x
 zero:(x.op=24\/x.op=23)->Rw aV/\Rw f.be
 ret:x.op=23->1<s.ak.length\/u f.av (u x.args 0)<1000
 apply:x.op=11->CK im s.heap (u f.av (u x.args 0))
 Wa:x.op=14->iX s.heap (u f.av (u x.args 0))/\(aW s.heap (u f.av (u x.args 0))).aQ<999999
 drop:x.op=15->1000<=u f.av (u x.args 0)
 QU:(x.op=16\/x.op=17)->Lg s.heap f x
 load:x.op=19->iX s.heap (u f.av (u x.args 0))/\x.bJ<(aW s.heap (u f.av (u x.args 0))).aI.length
 Mb:x.op=21->iX s.heap (u f.av (u x.args 0))/\(aW s.heap (u f.av (u x.args 0))).lA∈bU im.aY x.bJ
def Ib(n:Int):Int:=if n< -999 then -999 else if 999<n then 999 else n
def Q0(c a b:Int):Int:=
 if c=1 then Ib (a+b)else if c=2 then Ib (a -b)else if c=3 then Ib (a*b)else if c=4/\a<b then 1 else 0
def eL:List bL->Nat
 |[]=>0
 |c::h=>if c.aQ=0 then 0 else eL h+1
def lp(h:List bL)(a:Nat)(c:bL):List bL:=if a=h.length then h++[c]else h.set a c
def nE(h:List bL)(w:Int):List bL:=h.set (ix w) {aW h w with aQ:=(aW h w).aQ+1}
def fI(h:List bL)(w:Int):List bL:=h.set (ix w) {aW h w with aQ:=(aW h w).aQ -1}
def j8(h:List bL):List Int->List bL
 |[]=>h
 |w::a=>j8 (nE h w) a
def jT(h:List bL):Nat->Nat
 |0=>0
 |n+1=>match h[n]? with
  |some c=>if c.aQ=0 then jT h n else n+1
  |none=>jT h n
def pY(h:List bL):List bL:=h.take (jT h h.length)
def GH:List bL->Nat
 |[]=>0
 |c::h=>(if 0<c.aQ then c.aQ.toNat+c.aI.length else 0)+GH h
def lE:∀{e:List bL}{f:Nat}{b d:bL},e[f]? =some b->GH (e.set f d)+(if 0<b.aQ then b.aQ.toNat+b.aI.length else 0)=GH e+(if 0<d.aQ then d.aQ.toNat+d.aI.length else 0)
 |[],f,b,d,e=>by simp at e
 |i::e,0,b,d,g=>by simp at g;subst g;simp only[ig,GH];omega
 |i::e,f+1,b,d,g=>by
  have:=lE (e:=e) (f:=f) (b:=b) (d:=d) (by simpa using g);simp only[ic,GH];omega
def cq{h:List bL}(b:iX h w):h[ix w]? =some (aW h w)/\0<(aW h w).aQ:=by
 obtain⟨_,d,a,c⟩:=b;simp[aW,a,c]
open Classical in
noncomputable def iA (h:List bL) (c:List Int):List bL:=
 match c with
 |[]=>h
 |w::r=>
  if b:iX h w then
   if a:(aW h w).aQ=1 then iA (h.set (ix w) jz) ((aW h w).aI.reverse++r)
   else iA (fI h w) r
  else iA h r
termination_by GH h+c.length
decreasing_by
 ·obtain⟨e,a⟩:=cq b
  have:=lE (d:=jz) e
  simp only[jz,aq a]at this
  simp[jz]
  simp at this
  omega
 ·obtain⟨e,a⟩:=cq b
  have b:=lE (d:={aW h w with aQ:=(aW h w).aQ -1}) e
  simp only[aq a]at b
  rw[aq V]at b
  simp[fI]
  omega
 ·simp
def zd(h:List bL):iA h []=h:=by rw[iA]
def ze{h:List bL}(b:iX h w)(a:(aW h w).aQ=1):iA h (w::r)=iA (h.set (ix w) jz) ((aW h w).aI.reverse++r):=by
 rw[iA,P2 b,P2 a]
def uI{h:List bL}(b:iX h w)(a:(aW h w).aQ≠1):iA h (w::r)=iA (fI h w) r:=by
 rw[iA,P2 b,dif_neg a]
def uJ{h:List bL}(a:¬iX h w):iA h (w::r)=iA h r:=by
 rw[iA,dif_neg a]
def a9.put(f:a9)(r w o:Int):a9:={f with av:=gU f.av r w,aV:=gU f.aV r o}
def iR(w:Int):Int:=if 1000<=w then 1 else 0
def eM(aV:List Int):List Int->List Int
 |[]=>aV
 |r::a=>eM (gU aV r (u aV r+1)) a
def fJ(n:Nat):List Int:=List.replicate n 0
def gP(cV:List Int):Nat->List Int->List Int
 |_,[]=>[]
 |k,w::a=>(if cV.any (λy=>y==(k:Int))then 0 else iR w)::gP cV (k+1) a
def cv(a:cL)(g c:Int)(b:List Int):a9:=
 ⟨g,0,c,b++fJ ((dF a g).av.toNat -b.length),gP (dF a g).cV 0 b++fJ ((dF a g).av.toNat -b.length),fJ (dF a g).av.toNat⟩
open Classical in
noncomputable def apart (h:List bL) (w:Int):List bL:=
 if(aW h w).aQ=1 then pY (h.set (ix w) jz)else j8 (fI h w) (pQ (aW h w).aI)
def Da(l:List Int)(n:Int):Nat:=l.findIdx (λy=>y==n)
open Classical in
noncomputable def jd (b:cL) (s:St) (a:List a9) (f:a9) (x:Instr) (aV:List Int):St:=
 let g:a9:={f with aV:=aV,pc:=f.pc+1}
 let c:=u x.args 0
 let w:=u f.av c
 if x.op=0 then{s with ak:=a++[g.put x.dst x.bJ 0]}
 else if x.op=1\/x.op=2\/x.op=3\/x.op=4 then{s with ak:=a++[g.put x.dst (Q0 x.op w (u f.av (u x.args 1))) 0]}
 else if x.op=5 then{s with bq:=s.bq++[w],ak:=a++[g.put x.dst w 0]}
 else if x.op=6 then
  if x.bV≠0/\u f.be (x.bV -1)≠0 then
   {s with heap:=s.heap.set (ix (u f.be (x.bV -1))) ⟨1,x.bJ,dg f x.args⟩,ak:=a++[{g with be:=gU f.be (x.bV -1) 0}.put x.dst (u f.be (x.bV -1)) 1]}
  else{s with heap:=lp s.heap (eL s.heap) ⟨1,x.bJ,dg f x.args⟩,ak:=a++[g.put x.dst (1000+eL s.heap) 1]}
 else if x.op=10 then{s with heap:=lp s.heap (eL s.heap) ⟨1,fH b+x.bJ,dg f x.args⟩,ak:=a++[g.put x.dst (1000+eL s.heap) 1]}
 else if x.op=14 then{s with heap:=nE s.heap w,ak:=a++[{g with aV:=gU aV c (u aV c+1)}]}
 else if x.op=15 then{s with heap:=pY (iA s.heap [w]),ak:=a++[g]}
 else if x.op=16\/x.op=17 then
  let d:={g with aV:=eM aV (x.args.drop 1)}
  if(aW s.heap w).aQ=1/\x.op=17 then{s with heap:=s.heap.set (ix w) ⟨-1,0,fJ (aW s.heap w).aI.length⟩,ak:=a++[{d with be:=gU f.be c w}]}
  else{s with heap:=apart s.heap w,ak:=a++[d]}
 else if x.op=18 then{s with ak:=a++[g.put x.dst w (iR w)]}
 else if x.op=19 then{s with ak:=a++[g.put x.dst (u (aW s.heap w).aI x.bJ) 0]}
 else if x.op=20 then{s with ak:=a++[{g with pc:=if w=0 then x.bJ else f.pc+1}]}
 else if x.op=21 then{s with ak:=a++[{g with pc:=u x.dR (Da (bU b.aY x.bJ) (aW s.heap w).lA)}]}
 else if x.op=22 then{s with ak:=a++[{g with pc:=x.bJ}]}
 else if x.op=9 then{s with bG:=s.bG+1,ak:=a++[g,cv b x.bJ x.dst (dg f x.args)]}
 else if x.op=24 then{s with bG:=s.bG+1,ak:=a++[cv b x.bJ f.dst (dg f x.args)]}
 else if x.op=11 then
  {s with bG:=s.bG+1,heap:=apart s.heap w,ak:=a++[g,cv b ((aW s.heap w).lA -fH b) x.dst ((aW s.heap w).aI++[u f.av (u x.args 1)])]}
 else -- 23
  match a.getLast? with
  |none=>{s with cR:=0,value:=w,ak:=[]}
  |some p=>{s with ak:=a.dropLast++[p.put f.dst w (iR w)]}
def uO(a:Int):Prop:=a=9\/a=11\/a=24
instance(a:Int):Decidable (uO a):=by unfold uO;infer_instance
def fg(a:cL)(f:a9):Instr:=((dF a f.eU).cG[f.pc.toNat]?).getD ⟨0,0,0,0,[],[]⟩
open Classical in
noncomputable def rI (a:cL) (s:St):St:=
 if s.cR≠3 then s else
 match s.ak.getLast? with
 |none=>s
 |some f=>
  if uO (fg a f).op/\s.bG=s.dQ then{s with cR:=1}
  else if sZ a s f (fg a f) (dz f.av f.aV (dp a (fg a f)))then
   jd a s s.ak.dropLast f (fg a f) (dz f.av f.aV (dp a (fg a f)))
  else{s with cR:=2}
end
end Go.Proofs.YtakpkjhmbbfniaaGreat
