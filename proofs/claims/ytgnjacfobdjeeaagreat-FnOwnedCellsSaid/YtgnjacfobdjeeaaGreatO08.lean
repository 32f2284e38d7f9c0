/- Part of a proof, joined by a program. -/
import Derived.Test.YtgnjacfobdjeeaaGreatO06
import Derived.Test.YtgnjacfobdjeeaaGreatO07
set_option linter.unusedVariables false
set_option linter.unusedSimpArgs false
set_option linter.defProp false
set_option linter.constructorNameAsVariable false
set_option maxHeartbeats 8000000
set_option maxRecDepth 100000
namespace Go.Proofs.YtgnjacfobdjeeaaGreat
open Go.Vc
structure WR(ds:List bq)(nr:Nat)(v lm:List Int)(b:Bk):Prop where
 aW:∀o∈lm,0<=o/\o<(v.length:Int)
 lN:lm.length+5*b.w<=1000000
 vN:v.length+5*b.w<=1000000
 wb:WB ds nr False v.length b
def U8(a:List bq)(d:List fD)(b:Bk):Prop:=∀(S:List Nat)(m:I),(∀c∈S,c<m.size)->∀(f r h t g:O)(v c:List Int),dJ m f r a d->ar m h v->dN m t b.aA->ar m g c->WR a d.length v c b->
 lX 238 [.agg #[O.v f,O.v r],O.v h,.agg #[O.v t,vi b.aR],O.v g] m S λe=>WB a d.length True v.length e/\e.w+20<=40*b.w+2*c.length
def Ht{q:List Nat}{m:I}(hS:∀c∈q,c<m.size){ah am ay aY Q:O}{L:List bq}{rs:List fD}{v:List Int}{x:cq}(hn:dJ m ah am L rs)(hv:ar m ay v)(ha:ar m aY x.args)(hk:mo m Q x.bu)
 (vN:v.length+5*x.w<=1000000)(aO:WS L rs.length False v.length x)(ih:∀h∈x.bu,U8 L rs h):
 H9 258 [.agg #[O.v ah,O.v am],O.v ay,nv x aY Q] m q λx'=>WS L rs.length True v.length x'/\x'.op=x.op/\x'.w<=1+x.args.length+40*bw x.bu:=by
 apply Ag
 simp -zeta only[aE,aD]
 intro K e o a5
 obtain⟨T,N,s0,s1,s2⟩:=oF (a:=K) (b:=e) (c:=o) rfl rfl rfl
 have a_:J o a5:=J.push _ _
 have gk:=GB.new (e.size::q) o
 clear_value o
 have bv:=ha.len;have bk:=hk.len;have hw:=cq.kN x;have bH:=Ik x.bu;have bo:=hv.len
 have aM:∀c∈e.size::q,c<o.size:=bG hS T.size (N _ E)
 refine(fR (e:=[o.size]) (by simp[a5]) (hn.le (T.trans a_).le).aT hn.types x.bL).aG a_ N λc cl m4 d aR x4 u4=>⟨_,rfl,?_⟩
 subst aR
 have bI:=d.len
 refine dC (n:=x.bu.length) (bk▸hk.fL) (λj s M=>Fz [o.size] m4 M/\(s.F=o.size\/m4.size<=s.F)/\∃r,GB (e.size::q) o M s r/\r.length=j/\(∀(ab:Nat)(h:Bk),r[ab]? =some h->WB L rs.length True (v.length+ze L x.op x.bL ab) h)/\bw r<=40*bw (x.bu.take j)) ⟨Fz.aC _ _,Or.inl rfl,[],gk.ext pM.mono x4,rfl,E,E⟩ ?_
 rintro j s m5 aX μ hj ⟨f5,bm,r,H,bJ,a4,a0⟩ bs
 have R:=SU u4 f5 (ad _)
 have hy:=H.aY
 refine dit (λy=>?_) λy=>?_
 ·intro m6
  have x6:J m5 m6:=J.push _ _
  have u6:=R.trans x6
  obtain⟨h,U⟩:=ag (l:=x.bu) (k:=j) V
  have bC:=uE U
  have bF:=sF U
  have bx:=NY hn.types x.op x.bL j
  have bB:=oG x.bu
  refine⟨λaZ M=>J m5 M/\∃G,ar M aZ G/\G.length=ze L x.op x.bL j,⟨λh8=>?_,λh8=>?_⟩,?_⟩
  ·simp only[aL]at h8
   have i:=(aO.dY.all h8).1
   obtain⟨f,a⟩:=ag (l:=bU L x.bL) (k:=j) V
   refine⟨V,V,f,(dP.1 ((d.le ((f5.then x6).cJ E)).u a)).2,?_⟩
   refine(dk (e:=[]) E ((hn.le (T.trans u6).le).aT.le (xB _)) hn.types f).aG u6 N λaZ G m7 hf aR g p=>⟨_,rfl,x6.trans g,G,hf.le (bt _ _),?_⟩
   subst aR;exact(Ih h8 a).symm
  ·simp only[an]at h8
   exact⟨x6,[],kY _ _ _ _ _ _,(Ii h8).symm⟩
  rintro fs m8 ⟨X,G,hf,a2⟩
  have u8:=R.trans X
  have e8:(ay.len:Int)=((v.length:Nat):Int):=by rw[bo]
  rw[e8]
  refine(pT (S:=[]) E (hf.le (xB _)) v.length V).aG u8 N λmi ml A gm qm Z u9=>⟨_,rfl,?_⟩
  obtain⟨aU,hs,e0,e1⟩:=hk.u U
  have v9:=T.trans u9
  refine⟨V,V,_,v9.D e0,_,v9.D e1,?_⟩
  have z5:=R.size
  have g9:=H.ext pM.mono (X.trans Z)
  have a3:∀{M:I},J A M->ar M mi ml:=λy=>((gm.done E (by have:=qm.2;omega)).le (bt _ _)).ext y
  have bL:=qm.2
  have E5:∀{M f:I},J o M->J o f->∀{a6:Prop},a6->D f Q.F (Q.off+Int.toNat (j:Int)*2)=D M Q.F (Q.off+Int.toNat (j:Int)*2)/\D f Q.F (Q.off+Int.toNat (j:Int)*2+1)=D M Q.F (Q.off+Int.toNat (j:Int)*2+1)/\
   D f K.size 4=D M K.size 4/\D f m.size 0=D M m.size 0/\D f m.size 1=D M m.size 1/\a6:=λ{M f} y h' _ hp=>by
   have aC:∀h,h<o.size->∀B,D f h B=D M h B:=λh U B=>aI (by rw[h'.same h U,y.same h U]) B
   exact⟨((T.trans h').D e0).trans ((T.trans y).D e0).symm,((T.trans h').D e1).trans ((T.trans y).D e1).symm,aC _ V _,aC _ V _,aC _ V _,hp⟩
  have ap:∀{M:I},J m5 M->∀c∈s.F::e.size::q,c<M.size:=λy c d=>by
   have:=y.size;rcases List.mem_cons.1 d with g|g
   ·omega
   ·have:=aM c g;omega
  have hL:∀{M:I}{a:Nat},J m5 M->a<M.size->∀c∈[a,e.size,K.size,m.size],c<M.size:=λy U c d=>by
   rcases List.mem_cons.1 d with g|g
   ·omega
   ·exact(R.trans y).lt (N c g)
  have tail:∀(M:I)(a:Nat)(W:O)(i:Bk),GB (a::e.size::q) o M s r->J m5 M->J A M->A.size<=a->a<M.size->dN (bA (a::s.F::e.size::q) M) W i.aA->WB L rs.length True (v.length+G.length) i/\i.w+20<=40*h.w+2*ml.length->
   let p:I:=aj M a 0 [.s W,.i i.aR]
   aN bY 255 [vi (14:Int),O.v mi] p λrv t=>dV [a,e.size,K.size,m.size] p t/\∃ac:O,rv=O.v ac/\D t a 1=D p a 1/\D t a 0=D p a 0/\
    iS t fg [.i (0:Int),.i (0:Int),.i (0:Int),.s O.nil,.s O.nil] 72 ac W λav z=>dV [a,e.size,K.size,m.size] t z/\D z a 1=D t a 1/\
     let M4:I:=z.push (.cells (br [.s av,.i i.aR]) cO)
     iS M4 cO [.s O.nil,.i (0:Int)] 32 s (O.mk z.size 0 1 1) λae M5=>dV [a,e.size,K.size,m.size] M4 M5/\aX ae (cK ((j:Int)+(1:Int))) M5/\μ ae (cK ((j:Int)+(1:Int))) M5<μ s j m5:=by
   intro M a W i H P bp bj bz ak hq p
   have z1:p.size=M.size:=az _ _ _ _
   have z9:=(X.trans Z).size
   have ba:J A p:=bp.aj bj _ _
   have aa:J m5 p:=(X.trans Z).trans ba
   have bl:s.F≠a:=V
   have g1:GB (e.size::q) o p s r:=H.re pM.mono (Y:=[a]) ((Fz.aC [a] M).aj (Or.inl E) _ _) E (by simpa using bl) λc d=>Or.inl (ai _ d)
   have bn:dN (bA (s.F::e.size::q) p) W i.aA:=ak.le (bS E λc d=>ai _ d)
   have bD:=Bk.kN i;have a0:=eW i.aA
   refine(dU (c:=s.F::e.size::q) (ap aa) 14 (a3 ba) V).aG (J.aC p) (hL aa V) λac _ t aK g ao _=>⟨_,rfl,aI (ao.same _ V) _,aI (ao.same _ V) _,?_⟩
   subst g
   have z2:=ao.size
   refine GS.all aK (ao.fz []) (bn.le (qX ao aK.aY.1)) bK λav z bf be bP a7=>?_
   have af:J p z:=be.ext
   have z3:=af.size
   have bM:=aK.aY
   refine⟨λc d=>a7 c (by have:=hL aa (a:=a) V c d;omega) (by have:=hL aa (a:=a) V c d;omega),aI (a7 _ V V) _,?_⟩
   intro M4
   have bh:=bf.done ft.mono (ap aa) bd bK
   refine GB.jK (c:=.mk (ml.map (dX 14)++i.aA) i.aR) (g1.ext pM.mono af) ((((R.trans aa).trans af)).fz []) bh V λae M5 bg bu bc a8=>⟨λc d=>?_,bs V _ _ ⟨(f5.then (aa.trans af)).LQ bm bc.1 a8,?_,_,bg,bK,λab b2 u=>?_,?_⟩⟩
   ·have:=hL (aa.trans af) (a:=a) V c d
    rw[a8 c this (by simp at d;omega),(J.push z _).same c this]
   ·have h1:=(f5.then (aa.trans af)).size
    rcases bc.2 with g|g<;>omega
   ·rcases aV ab r.length with w|w
    ·rw[aw w]at u;exact a4 ab b2 u
    ·rw[aF w]at u
     have:ab -r.length=0:=by have:=ax u;simp at this;omega
     rw[this]at u;simp at u;subst u
     have:ab=j:=V
     subst this
     rw[<-a2]
     refine WB.of ((pP V λB ho=>?_).append ?_) ?_
     ·have:=qm.1 B ho;omega
     ·rw[jf V];exact hq.1.bo.1
     ·rw[cr,jf V,bN];exact hq.1.bo.2
   ·rw[nj,sE,xe,Bk.oV,db,mL]
    have:=hq.2;omega
  have a1:∀(M:I)(aH:List Nat)(aG:Value->I->Prop),J A M->(∀c∈aH,c<M.size)->(∀s f,ar f s (v++G)->J M f->aG (O.v s) f)->aN bY 213 [O.v ay,O.v fs] M λv m'=>dV aH M m'/\aG v m':=λM aH aG P hL hK=>
   (dL (S:=[]) E ((hv.ext (v9.trans P)).le (xB _)) ((hf.ext (Z.trans P)).le (xB _)) V).aG (J.aC M) hL λs ll f H g x _=>hK s f (by subst g;exact(H.done E bK).le (bt _ _)) x
  have F:∀(M:I)(S':List Nat)(w:O),(∀c∈S',c<M.size)->J A M->ar M w (v++G)->lX 238 [.agg #[O.v ah,O.v am],O.v w,.agg #[O.v aU,vi h.aR],O.v mi] M S' λi=>WB L rs.length True (v.length+G.length) i/\i.w+20<=40*h.w+2*ml.length:=by
   intro M S' w bi P u;have hm:=v9.trans P;have:=ih h (au U) S' M bi ah am w aU mi (v++G) ml (hn.le hm.le) u (hs.le hm.le) (a3 P) ⟨λB ho=>?_,V,bK,by simp;rw[a2];exact aO.bu j h U⟩
   ·simpa using this
   ·have:=qm.1 B ho;simp;omega
  have il:∀(M:I)(a:Nat)(w:O),GB (a::e.size::q) o M s r->J A M->A.size<=a->a<M.size->ar M w (v++G)->
   aN bY 238 [.agg #[O.v ah,O.v am],O.v w,.agg #[O.v aU,vi h.aR],O.v mi] M λrv f=>dV [a,e.size,K.size,m.size] M f/\∃aS:O,∃aT:Int,rv=.agg #[O.v aS,vi aT]/\
    let p:I:=aj f a 0 [.s aS,.i aT]
    aN bY 255 [vi (14:Int),O.v mi] p λrv t=>dV [a,e.size,K.size,m.size] p t/\∃ac:O,rv=O.v ac/\D t a 1=D p a 1/\D t a 0=D p a 0/\
     iS t fg [.i (0:Int),.i (0:Int),.i (0:Int),.s O.nil,.s O.nil] 72 ac aS λav z=>dV [a,e.size,K.size,m.size] t z/\D z a 1=D t a 1/\
      let M4:I:=z.push (.cells (br [.s av,.i aT]) cO)
      iS M4 cO [.s O.nil,.i (0:Int)] 32 s (O.mk z.size 0 1 1) λae M5=>dV [a,e.size,K.size,m.size] M4 M5/\aX ae (cK ((j:Int)+(1:Int))) M5/\μ ae (cK ((j:Int)+(1:Int))) M5<μ s j m5:=by
   intro M a w H P h1 h2 h3
   have x5:=(X.trans Z).trans P
   have z9:=(X.trans Z).size
   refine(F M (a::s.F::e.size::q) w (λc d=>?_) P h3).aG (J.aC M) (hL x5 h2) λW i f ak hq aq _=>⟨_,_,rfl,tail f a W i (H.ext pM.mono aq) (x5.trans aq) (P.trans aq) h1 (aq.lt h2) ak hq⟩
   rcases List.mem_cons.1 d with g|g
   ·omega
   ·exact ap x5 c g
  have aQ:∀(M:I)(B:Obj),GB (e.size::q) o M s r->GB (M.size::e.size::q) o (M.push B) s r:=λM B H=>
   H.re pM.mono (Y:=[]) ((J.push M B).fz []) E E λc d=>by
    rcases List.mem_cons.1 d with g|g
    ·exact Or.inr V
    ·exact Or.inl g
  refine⟨a1 A _ _ (J.aC _) (λc d=>u9.lt (N c d)) λw aP u C=>⟨_,rfl,E5 u9 (u9.trans C) ⟨?_,?_⟩⟩,?_⟩
  ·have al:=u9.trans C
   have vP:=C.size
   refine(F aP (s.F::e.size::q) w (ap ((X.trans Z).trans C)) C u).aG al N λW i aB ak hq aA a9=>⟨_,_,rfl,?_⟩
   intro aW
   have bO:=aA.size
   exact E5 a9 (a9.aM _) (tail aW aB.size W i (aQ aB _ ((g9.ext pM.mono C).ext pM.mono aA)) ((((X.trans Z).trans C).trans aA).aM _) ((C.trans aA).aM _) V (by simp[aW]) (ak.le (qX (J.push aB _) (ad _))) hq)
  ·intro aA
   have al:=u9.trans C
   have vP:=C.size
   exact E5 al (al.aM _) (il aA aP.size w (aQ aP _ (g9.ext pM.mono C)) (C.aM _) V (by simp[aA]) (u.ext (J.push _ _)))
  ·intro al
   have aA:J A al:=J.push _ _
   have aW:J o al:=u9.trans aA
   refine E5 u9 aW (a1 al _ _ aA (hL ((X.trans Z).trans aA) (by simp[al])) λw a9 u aB=>⟨_,rfl,E5 aW (aW.trans aB) ?_⟩)
   exact il a9 A.size w ((aQ A _ g9).ext pM.mono aB) (aA.trans aB) (ad _) (aB.lt (by simp[al])) u
 ·have f:r.length=x.bu.length:=V
  rw[bZ V]at a0
  refine(bE (e.size::q) (ha.ext (T.trans R)) V).aG R N λi p m6 a g x6 u6=>⟨_,rfl,aI (x6.same _ (R.lt (N _ E))) _,aI (x6.same _ (R.lt (N _ E))) _,?_⟩
  subst g
  intro m7
  refine⟨i,s,⟨x.op,x.bL,0,x.args,r⟩,rfl,?_,?_,⟨aO.Ng (λy=>y.elim) ⟨V,V⟩ f a4,rfl,?_⟩,(T.trans u6).aj V _ _⟩
  ·exact(a.done (λc d=>aJ (aM c d) R.size) V).le (bS E λc d=>ai _ d)
  ·exact mo.le (bS E λc d=>ai _ d) ((H.ext pM.mono x6).done pM.mono aM bd (by have:=oG x.bu;show r.length<=_;omega))
  ·rw[cq.kN]
   simp only
   omega
structure LB(ds:List bq)(nr:Nat)(S:List Nat)(m2 M:I)(v lm:List Int)(aA:List cq)(k:Nat)(st inn ow:O):Prop where
 x:J m2 M
 hs:∃l,GS (inn.F::ow.F::S) m2 M st l/\WL ds nr True v.length l/\dc l=dc (aA.take k)/\sw l+2*k<=40*sw (aA.take k)
 hi:∃l,GI S m2 M inn l/\l.length=v.length+dc (aA.take k)
 ho:∃l,GI S m2 M ow l/\l.length<=lm.length+k/\∀o∈l,0<=o/\o<((v.length+dc (aA.take k):Nat):Int)
 ne:inn.F≠ow.F
def Fv{H:List bq}{L:List fD}:∀r:Bk,U8 H L r:=by
 refine Bk.ind ?_;intro aA C ih m G hS bf bR cm cl ci N lm hn hv hs bv hp;have av:=hp.wb.bo;have hw:=Bk.oV aA C;simp only[Bk.jd,Bk.iy]at*;have lN:=hp.lN;have vN:=hp.vN;rw[hw]at lN vN;apply yv;simp -zeta only[aE,aD];intro q d f ae;obtain⟨F,w,s0,s1,s2⟩:=oF (a:=q) (b:=d) (c:=f) rfl rfl rfl;have aM:J f ae:=J.push _ _;have aW:∀P,GS P f ae (.mk f.size 0 0 0) []:=λP=>GS.new P f;have s3:ae.size=f.size+1:=by simp[ae]
 clear_value ae;clear_value f;have bF:=hs.len;have bI:=yY aA;have b5:=eW aA;refine(bE m (hv.ext (F.trans aM)) V).aG aM w λg _ m4 t e x4 u4=>⟨_,rfl,?_⟩;subst e;refine(bE m (bv.ext (F.trans u4)) V).aG u4 w λj _ m5 B e x5 u5=>⟨_,rfl,?_⟩;subst e;have a5:=t.aY;have bM:=B.aY;refine Pc (n:=aA.length) (bF▸hs.fL) (λi v g j a=>LB H L.length (d.size::m) f a N lm aA i v g j) ⟨u5,⟨[],((aW _).ext ft.mono x4).ext ft.mono x5,WL.nil _ _ _ _,rfl,E⟩,⟨N,((t.ext x5).cG (λ_ h=>h) aM.size).any,E⟩,⟨lm,(B.cG (λ_ h=>h) u4.size).any,V,by simpa using hp.aW⟩,V⟩ ?_;clear t B a5 bM aW;rintro i v g j u ba μ hk ⟨x6,⟨X,Q,aw,U,b6⟩,⟨li,t,ao⟩,⟨lo,B,bV,a1⟩,a3⟩ bP
 have v6:=F.trans x6;have bZ:=t.len bd;have bW:=qT (aA.take i);have b1:=oW i aA;have R:∀c∈d.size::m,c<f.size:=bG hS F.size (w _ E);have cf:=Q.aY;have a5:=t.aY;have ce:=B.aY;have bH:=eW (aA.take i);have b0:i<=sw (aA.take i):=by rw[fY]at bH;omega
 have b2:=eW X;have z6:=x6.size;have al:∀{a:I},GI (d.size::m) f a g li->ar a g li:=λs=>(s.done R V).le (bt _ _);have aZ:∀{a:I},GI (d.size::m) f a j lo->ar a j lo:=λs=>(s.done R V).le (bt _ _);have T:∀{a:I}{P:List Nat},u.size<=a.size->(∀c∈P,c<a.size)->∀c∈P++d.size::m,c<a.size:=λh hb c b=>by
  rcases List.mem_append.1 b with h|h
  ·exact hb c h
  ·have:=R c h;omega
 have aX:∀{a:I},J u a->∀c∈[d.size,q.size,G.size],c<a.size:=λh c b=>(x6.trans h).lt (w c b);have bx:v.F≠g.F:=Q.IW t bd;have a4:v.F≠j.F:=Q.IW B bd;refine dit (λh=>?_) λh=>?_
 ·obtain⟨af,y⟩:=ag (l:=aA) (k:=i) V;obtain⟨be,kk,ha,a0,g0,g1,g2,g3,g4⟩:=hs.u y;refine⟨V,V,_,v6.D g0,_,v6.D g1,_,v6.D g2,_,v6.D g3,_,v6.D g4,?_⟩;intro m7 A;have x8:J u A:=(J.push u _).aj (ad _) _ _;have s8:A.size=u.size+1:=by simp[A,m7,az]
  clear_value A;have u8:=x6.trans x8;have z:∀{a:I},A.size<=a.size->∀r∈[u.size,d.size,q.size,G.size],r<a.size:=λh r hb=>by
   rcases List.mem_cons.1 hb with e|e
   ·omega
   ·have:=u8.lt (w r e);omega
  have cb:=od y;have b9:=oY y;have b_:=cq.kN af;have ab:WS H L.length False li.length af:=by rw[ao];exact av.1 i af y
  have aY:=Xc ab;have b7:=bI (i+1);have aa:∀{a:I},J f a->At a bf bR be kk H L af:=λh=>⟨hn.le (F.trans h).le,ha.ext (F.trans h),ab.dY.call⟩;refine(mF (aa u8).Ou (al (t.ext x8)) (aa u8).args (a0.le (F.trans u8).le) V λr _=>lQ r).aG (J.aC A) (z (ad _)) λty m9 x9 _=>⟨_,rfl,?_⟩;have X9:=u8.trans x9;have z9:=x9.size;refine(wj (b:=[]) E (aa X9) (al ((t.ext x8).ext x9)) ab.dY.args V).aG (J.aC m9) (z V) λdu dl bN bn a8 aK _=>⟨_,rfl,?_⟩;have bU:=a8.2;have vP:=aK.size;refine(dU (c:=[v.F,g.F,j.F]++d.size::m) (T V bK) 14 ((bn.done E V).le (bt _ _)) V).aG (J.aC bN) (z V) λcj _ ax bk e aL _=>⟨_,rfl,?_⟩;subst e;have bb:=(X9.trans aK).trans aL;have cn:=aL.size;have aO:J u ax:=(((x8.trans x9).trans aK).trans aL);refine GS.all (Q.ext ft.mono aO) (bb.fz []) (bk.done ft.mono (T (P:=[v.F,g.F,j.F]) V bK) bd bK) bK λaH a6 aR bg a9 ay=>⟨λc b=>ay c (z V c b) ?_,?_⟩
  ·simp at b;omega
  have ak:J f a6:=bg.ext;have aT:=(t.ext aO).iz (ay _ V bx.symm);have bo:=(B.ext aO).iz (ay _ V a4.symm);have b3:aH.F=v.F\/ax.size<=aH.F:=a9.2;have cc:=aR.aY;have co:=a9.1;refine(Ht (q:=[aH.F,g.F,j.F]++d.size::m) (T V bK) (aa ak).Ou (al aT) (aa ak).args (a0.le (F.trans ak).le) V ab (ih af (au y))).aG (J.aC a6) (z V) λca ck x' a7 bs bu bQ ah _=>⟨_,_,_,_,_,rfl,?_⟩;obtain⟨bJ,bC,b8⟩:=bQ;have bc:=ak.trans ah;have cp:=ah.size;refine GS.jK (x:=x') (aR.ext ft.mono ah) (bc.fz []) bs bu bK λK am ap bh a_ aC=>⟨λc b=>?_,?_⟩
  ·have:=z (a:=a7) V c b;rw[aC c this (by simp at b;omega),(J.push a7 _).same c this]
  have aQ:J f am:=bh.ext;have cs:=a_.1;have aU:=(aT.ext ah).iz (aC _ V V);have aq:=(bo.ext ah).iz (aC _ V V);have b4:K.F=v.F\/ax.size<=K.F:=by have:=a_.2;omega
  have B1:WL H L.length True N.length (X++dl.map (dX 14)++[x'])/\dc (X++dl.map (dX 14)++[x'])=dc (aA.take (i+1))/\sw (X++dl.map (dX 14)++[x'])+2*(i+1)<=40*sw (aA.take (i+1)):=by
   have bX:dn x'=1:=by unfold dn at aY⊢;rw[bC];exact aY
   have d1:dc (dl.map (dX 14))=0:=jf V _;refine⟨((aw.append (pP V λo p=>?_)).xK ?_),?_,?_⟩
   ·rw[U,<-ao];exact ab.dY.args o (a8.1 o p)
   ·rw[cr,d1,U,iJ,<-ao];exact bJ
   ·rw[cr,cr,d1,U,jD,qU];omega
   ·rw[db,db,mL,ln,tr];omega
  have a2:∀o∈lo,0<=o/\o<((N.length+dc (aA.take (i+1)):Nat):Int):=λo p=>by
   have:=a1 o p;omega
  have aV:∀(a:I)(Z:O)(ac:List Int),J f a->A.size<=a.size->GS (g.F::Z.F::d.size::m) f a K (X++dl.map (dX 14)++[x'])->GI (d.size::m) f a g li->GI (d.size::m) f a Z ac->g.F≠Z.F->ac.length<=lm.length+(i+1)->(∀o∈ac,0<=o/\o<((N.length+dc (aA.take (i+1)):Nat):Int))->
   iS (a.push (.cells (br [.i ty]) aB)) aB [.i (0:Int)] 8 g (O.mk a.size 0 1 1) λaJ M'=>dV [u.size,d.size,q.size,G.size] (a.push (.cells (br [.i ty]) aB)) M'/\ba K aJ Z (cK ((i:Int)+(1:Int))) M'/\μ K aJ Z (cK ((i:Int)+(1:Int))) M'<μ v g j i u:=by
   intro a Z ac y W s gI gO bw bp bD
   have cd:=gI.aY;have bL:=gO.aY
   have bB:K.F≠g.F:=s.IW gI bd
   refine GI.jK gI (y.fz []) R V λaJ M' bm bj aP aG=>⟨λc b=>?_,bP V _ _ _ _ ⟨bj.ext,⟨_,s.re ft.mono (Y:=[g.F]) ⟨aP.1,λc b hn=>aG c b (by simpa using hn)⟩ E (by simpa using bB) (λc b=>?_),B1.1,B1.2.1,B1.2.2⟩,⟨_,bm,bK⟩,⟨ac,gO.iz (aG _ bL.2 bw.symm),bp,bD⟩,?_⟩⟩
   ·have:=z W c b
    rw[aG c this (by simp at b;omega),(J.push a _).same c this]
   ·simp only[aS]at b⊢
    rcases b with h|h|h
    ·rcases aP.2 with e|e
     ·exact Or.inl (Or.inl (h.trans e))
     ·exact Or.inr V
    ·exact Or.inl (Or.inr (Or.inl h))
    ·exact Or.inl (Or.inr (Or.inr h))
   ·rcases aP.2 with e|e<;>omega
  refine⟨λ_=>?_,λ_=>?_⟩
  ·intro cg;have bz:K.F≠j.F:=ap.IW aq bd;refine GI.jK aq (aQ.fz []) R V λbT bO bl bi an aF=>⟨λc b=>?_,?_⟩
   ·have:=z (a:=am) V c b;rw[aF c this (by simp at b;omega),(J.push am _).same c this]
   intro ch;have ct:=an.1;refine aV bO bT _ bi.ext V (ap.re ft.mono (Y:=[j.F]) ⟨an.1,λc b hn=>aF c b (by simpa using hn)⟩ E (by simpa using bz) λc b=>?_) (aU.iz (aF _ V a3)) bl ?_ bK ?_
   ·simp only[cR,dT,aS]at b⊢;rcases b with h|h|h
    ·exact Or.inl (Or.inl h)
    ·rcases an.2 with e|e
     ·exact Or.inl (Or.inr (Or.inl (h.trans e)))
     ·exact Or.inr V
    ·exact Or.inl (Or.inr (Or.inr h))
   ·rcases an.2 with e|e<;>omega
   ·intro o p;rcases List.mem_append.1 p with p|p
    ·exact a2 o p
    ·simp at p;omega
  ·intro an;exact aV am j lo aQ V ap aU aq a3 V a2
 ·have ax:i=aA.length:=V;subst ax;rw[fZ]at*;have an:∀(a:I)(ab:O)(K:List cq),J f a->u.size<=a.size->GS (g.F::j.F::d.size::m) f a ab K->ar a j lo->WL H L.length True N.length K->dc K=dc aA->sw K+2*aA.length<=40*sw aA+2->
   aN bY 255 [vi (15:Int),O.v j] a λrv A=>dV [d.size,q.size,G.size] a A/\∃ah:O,rv=O.v ah/\D A q.size 1=D a q.size 1/\
    iS A fg [.i (0:Int),.i (0:Int),.i (0:Int),.s O.nil,.s O.nil] 72 ab ah λac M2=>dV [d.size,q.size,G.size] A M2/\D M2 q.size 1=D A q.size 1/\
     let Z:I:=aj M2 d.size 0 [.s ac,.i C]
     ∃ap r,Value.agg #[O.v ac,vi C]=.agg #[O.v ap,vi r.aR]/\dN (bA m Z) ap r.aA/\(WB H L.length True N.length r/\r.w+20<=40*(Bk.mk aA C).w+2*lm.length)/\J G Z:=by
   intro a ab K y W s p aG am aJ
   have hy:=s.aY
   have aH:=eW K
   have aF:q.size<a.size:=y.lt (w _ E)
   refine(dU (c:=[ab.F,g.F,j.F]++d.size::m) (T W bK) 15 p V).aG y w λah _ A aq e z u1=>⟨_,rfl,aI (z.same _ aF) _,?_⟩
   subst e
   have z1:=z.size
   have ay:∀c∈[d.size,q.size,G.size],c<A.size:=λc b=>u1.lt (w c b)
   have aC:∀c∈[d.size,q.size,G.size],c<f.size:=w
   refine GS.all (s.ext ft.mono z) (u1.fz []) (aq.done ft.mono (T (P:=[ab.F,g.F,j.F]) W bK) bd bK) bK λac M2 g2 af ak aa=>⟨λc b=>aa c (ay c b) (by have:=aC c b;omega),aI (aa _ V V) _,?_⟩
   intro Z
   refine⟨ac,.mk _ C,rfl,dN.le (bS E λc b=>ai _ b) ((g2.re ft.mono (S':=d.size::m) (Y:=[]) (Fz.aC _ _) E E (λc b=>Or.inl (ai _ (ai _ b)))).done ft.mono R bd bK),⟨WB.of (aG.append (pP V λo p=>?_)) ?_,?_⟩,(F.trans af.ext).aj V _ _⟩
   ·have:=a1 o p;rw[am];exact this
   ·rw[cr,jf V,am];exact av.2
   ·rw[Bk.oV,Bk.oV,db,mL];omega
  obtain⟨ak,W⟩:=ag (l:=li) (k:=C.toNat) V;refine⟨V,V,ak,(al t).u W,λ_=>?_,λ_=>?_⟩
  ·refine(gZ (c:=[v.F,g.F,j.F]++d.size::m) (T (ad _) bK) 14 C).mono λrv A⟨pa,pk,e,h1,h2,z⟩=>?_;subst e;refine⟨z.da (aX (J.aC _)),_,_,_,_,_,rfl,?_⟩;have z1:=z.size;refine GS.jK (x:=dX 14 C) (Q.ext ft.mono z) ((x6.trans z).fz []) h1 h2 V λr' Z s af ak aa=>⟨λc b=>?_,an Z r' _ af.ext V s (aZ ((B.ext z).iz (aa _ V a4.symm))) (aw.xK (Bh V (by rw[U];exact av.2))) ?_ ?_⟩
   ·have:=aX z c b;have h5:=w c b;rw[aa c this V,(J.push A _).same c this]
   ·rw[cr,U];simp[jD,dn,dX,nB]
   ·rw[db,ln,tr];have h5:(dX 14 C).w=2:=by rw[cq.kN];rfl
    omega
  ·exact an u v X x6 (ad _) Q (aZ B) aw U V
section
variable{b:List Nat}{f d h:I}{p t s:O}{q:fD}{u:Int}{g e j:Nat}
def ly.mono:mK 1 ly:=⟨λh=>ly.le h _ _,λ⟨_,h,_⟩=>by rw[h];rfl⟩
def gE.mono:mK 3 gE:=⟨λh=>gE.le h _ _,λ⟨_,h,_⟩=>by rw[h];rfl⟩
def eT(x:∀c∈b,c<f.size){aT:O}{j:List bq}(D:bR f aT j)(y:dv j):aN bY 188 [O.v aT] f λZ F=>∃s,Z=O.v s/\bR (bA b F) s j/\J f F:=by
 apply xV;intro S;have ah:=D.len;have af:=y.len;have w:Gr b f S jk 3 gE (.mk f.size 0 0 0) []:=Gr.new b (ad _) _ _ _;refine dC (n:=j.length) V (λt s M=>J f M/\Gr b f M jk 3 gE s (j.take t)) ⟨J.push _ _,w⟩ ?_;rintro t s d ac μ hk ⟨u,p⟩ X
 have hy:=p.aY;refine dit (λo=>?_) λo=>?_
 ·obtain⟨i,q⟩:=ag (l:=j) (k:=t) V;obtain⟨B,E,w,L,C⟩:=D.u q;have ai:=E.len;have ae:=jX y q;intro T;have m:Gr (s.F::b) d T ns 1 ly (.mk d.size 0 0 0) []:=Gr.new _ (ad _) _ _ _;refine dC (n:=i.cons.length) V (λA c M=>J d M/\Gr (s.F::b) d M ns 1 ly c (i.cons.take A)) ⟨J.push _ _,m⟩ ?_;rintro A c G I2 μ2 hj ⟨v,m⟩ W;have g:=u.trans v;refine⟨V,V,B,g.D C,dit (λQ=>?_) λQ=>?_⟩
  ·obtain⟨I,z⟩:=ag (l:=i.cons) (k:=A) V;obtain⟨ab,R,N⟩:=E.u z;have aj:I.length<=3:=(((y.df t i q).gR V).2.2.2 I (au z)).1;refine⟨V,V,B,g.D C,V,V,ab,g.D N,?_⟩;have ak:=m.aY;refine(bE (c.F::s.F::b) (R.ext g) V).then λz' _ h P e H=>⟨_,rfl,?_⟩;subst e;have aa:=v.trans H;intro U;refine Gr.jK (g:=[.s .nil]) ly.mono bd (m.ext ly.mono H) (aa.fz []) ⟨z',rfl,P.done (λe r=>?_) V⟩ bK λY m7 M K _ _=>W V _ _ ⟨K.ext,by rw[bH z];exact M⟩;have:=v.size;simp only[aS]at r;rcases r with o|o|o
   ·omega
   ·omega
   ·have:=x e o;have:=u.size;omega
  ·refine⟨V,V,_,g.D w,V,V,_,g.D L,?_⟩;intro h;rw[bZ V]at m;have H:dW (bA (s.F::b) G) 1 (ly (bA (s.F::b) G)) c i.cons:=m.done ly.mono (λe r=>by
    rcases List.mem_cons.1 r with z|z
    ·omega
    ·have:=x e z;have:=u.size;omega) bd V
   refine Gr.jK (g:=[.i 0,.i 0,.s .nil]) (k:=i) gE.mono bd (p.ext gE.mono v) (g.fz []) ⟨c,rfl,H⟩ bK λY U z r _ _=>X V _ _ ⟨r.ext,by rw[bH q];exact z⟩
 ·rw[bZ V]at p;exact⟨s,rfl,p.done gE.mono x bd V,u⟩
def vJ(L:∀i∈b,i<f.size){C:O}{z:Int}(N:ar f p q.params)(P:ar f t q.cW)(r:q.params.length<=100/\q.cW.length<=100):
 aN bY 227 [.agg #[O.v p,O.v t,vi q.aR,O.v C,vi u],.agg #[O.v s,vi z]] f λS x=>∃k l,S=.agg #[O.v k,O.v l,vi q.aR,O.v s,vi z]/\ar (bA b x) k q.params/\ar (bA b x) l q.cW/\J f x:=by
 apply AB
 simp -zeta only[aE,aD]
 intro Q j d
 obtain⟨n,w,W,X,Y⟩:=oF (a:=Q) (b:=j) (c:=d) rfl rfl rfl
 clear_value d
 have A:∀i∈j.size::b,i<d.size:=bG L n.size (w _ E)
 have c:∀{M y:I},J d M->J d y->∀g,g<d.size->∀o,D y g o=D M g o:=λH K g r o=>aI (by rw[K.same g r,H.same g r]) o
 refine(bE (j.size::b) (N.ext n) V).aG (J.aC d) w λk _ U F e a _=>⟨_,rfl,c (J.aC _) a _ V _,c (J.aC _) a _ V _,c (J.aC _) a _ V _,c (J.aC _) a _ V _,?_⟩
 subst e
 refine(bE (j.size::b) (P.ext (n.trans a)) V).aG a w λl _ R G e T m=>⟨_,rfl,c a m _ V _,c a m _ V _,c a m _ V _,?_⟩
 subst e
 intro h
 have B:Le (bA (j.size::b) R) (bA b h):=bS E λi v=>ai _ v
 exact⟨k,l,rfl,((F.done A V).le (T.cJ _)).le B,(G.done (λi v=>a.lt (A i v)) V).le B,(n.trans m).aj V _ _⟩
abbrev GR(b:List Nat)(a f:I)(s:O)(l:List fD):Prop:=Gr b a f iY 5 gH s l
def tR{L:List Nat}{l M:I}{v h:O}{x:List fD}{o:Bk}{Q:O}{K:I->Prop}(Y:∀c∈b,c<l.size)(w:∀c∈L,c<M.size/\c≠g/\c≠h.F)(A:J l M)(y:GR (g::b) l M h x)
 (z:cB M g lK [.s v,.s h])(ab:l.size<=g)(hp:ar M p q.params)(ht:ar M t q.cW)(ac:dN (bA (h.F::g::b) M) s o.aA)(Z:q.params.length<=100/\q.cW.length<=100)(hl:x.length<=100)
 (X:∀r d,GR (g::b) l d r (x++[⟨q.params,q.cW,q.aR,o⟩])->cB d g lK [.s v,.s r]->J l d->K d):
 aN bY 227 [.agg #[O.v p,O.v t,vi q.aR,O.v Q,vi u],.agg #[O.v s,vi o.aR]] M λN k=>dV L M k/\∃B:O,∃C:O,∃F:Int,∃G:O,∃H:Int,N=.agg #[O.v B,O.v C,vi F,O.v G,vi H]/\D k g 1=D M g 1/\
  let m:I:=k.push (.cells (br [.s B,.s C,.i F,.s G,.i H]) iY)
  D m g 1=D k g 1/\
  iS m iY [.s O.nil,.s O.nil,.i (0:Int),.s O.nil,.i (0:Int)] 88 h (O.mk k.size 0 1 1) λad n=>dV L m n/\fm n g 1 1/\
   let d:I:=aj n g 1 [.s ad]
   dV L n d/\K d:=by
 have hy:=y.aY
 have aa:=z.lt
 have hz:=A.size
 refine(vJ (b:=h.F::g::b) (λc f=>?_) hp ht Z).mono λN k⟨p',t',e,U,W,j⟩=>?_
 ·simp only[aS]at f
  rcases f with e|e|e
  ·omega
  ·omega
  ·have:=Y c e;omega
 subst e
 refine⟨j.da λc f=>(w c f).1,_,_,_,_,_,rfl,aI (j.same _ aa) _,?_⟩
 intro m
 refine Gr.box (g:=[.s .nil,.s .nil,.i 0,.s .nil,.i 0]) (j:=1) (o:=[.s v,.s h]) (y:=⟨q.params,q.cW,q.aR,o⟩) gH.mono bd (y.ext gH.mono j) ((A.trans j).fz []) ⟨p',t',s,rfl,U,W,ac.le (j.cJ _)⟩ V (z.ext j) E bd ⟨ab,E⟩ (λc f=>⟨j.lt (w c f).1,(w c f).2⟩) λr m' T P R z' q'=>X r m' T P R.ext
def jO{β:Type}{a c:I}{g:O}{l:Nat}{f:I->List Ce->β->Prop}(q:mK l f)(p:a=d.push (.cells (br []) e))(i:c=a.push (.cells (br [.s O.nil,.s O.nil]) j))(k:h=aj c a.size 0 [.s g,.s (O.mk d.size 0 0 0)]):
 J d h/\cB h a.size j [.s g,.s (O.mk d.size 0 0 0)]/\Gr b d h e l f (.mk d.size 0 0 0) []/\a.size=d.size+1/\h.size=d.size+2:=by
 subst p
 have n:J (d.push (.cells (br []) e)) h:=by subst i k;exact(J.push _ _).aj (ad _) _ _
 refine⟨(J.push d _).trans n,?_,(Gr.new b (ad _) e l f).ext q n,E,by subst i k;simp[az]⟩
 have s:cB c (d.push (.cells (br []) e)).size j [.s O.nil,.s O.nil]:=by rw[i];exact cB.push _ _ _
 rw[k]
 exact cB.aj (m:=c) (o:=0) (r:=[.s g,.s (.mk d.size 0 0 0)]) s
def jI{β:Type}{p c t:Nat}{q:I->List Ce->β->Prop}{m F:O}{K:List bq}(L:mK p q)(hz:0<p)(ae:j≠e)(hS:∀z∈b,z<f.size)(aa:f.size<=c/\c<d.size)(P:J f d)(al:g=d.size+1)
 (ab:bR (bA (c::b) d) m K)(hn:F.len=t)(am:t<=1000)(af:J d h)(Y:cB h g j [.s m,.s (O.mk d.size 0 0 0)])(ac:Gr (g::c::b) d h e p q (.mk d.size 0 0 0) [])(A:Nat->β->Prop)
 {G:(Int->I->Prop)->(Int->I->Nat)->Int->I->Prop}{R:O->O->I->Prop}
 (Z:∀H S l r,bR (bA b r) H K->dW (bA b r) p (q (bA b r)) S l->l.length=t->(∀(i:Nat)(x:β),l[i]? =some x->A i x)->J f r->R H S r)
 (X:∀(k:Nat)(M:I)(s:O)(l:List β)(u:Int->I->Prop)(μ:Int->I->Nat),k<t->l.length=k->J d M->Gr (g::c::b) d M e p q s l->cB M g j [.s m,.s s]->
  (∀w a x,Gr (g::c::b) d a e p q w (l++[x])->cB a g j [.s m,.s w]->J d a->A k x->u (cK ((k:Int)+1)) a/\μ (cK ((k:Int)+1)) a<μ k M)->G u μ k M):
 ∃(y:Int->I->Prop)(μ0:Int->I->Nat),y (0:Int) h/\(∀(i:Int)(M:I),y i M->
  ((decide (i<(F.len:Int)))=true->G y μ0 i M)/\
  ((decide (i<(F.len:Int)))=false->∃o:O,D M g 0=some (O.v o)/\∃v:O,D M g 1=some (O.v v)/\
   let a:I:=aj M c 0 [.s o,.s v]
   R o v a)):=by
 refine dO (n:=t) V (λk M=>J d M/\∃s l,Gr (g::c::b) d M e p q s l/\cB M g j [.s m,.s s]/\l.length=k/\∀(i:Nat)(x:β),l[i]? =some x->A i x) ⟨af,_,[],ac,Y,rfl,E⟩ ?_
 rintro k M u μ hk ⟨x,s,l,v,B,ad,N⟩ ag
 refine dit (λW=>?_) λW=>?_
 ·refine X k M s l u μ V ad x v B λw a ah U T x' Q=>ag V _ ⟨x',w,_,U,T,bK,λi ak o=>?_⟩
  rcases aV i l.length with C|C
  ·rw[aw C]at o;exact N i ak o
  ·rw[aF C]at o
   have:i -l.length=0:=by have:=ax o;simp at this;omega
   rw[this]at o;simp at o;subst o
   have:i=k:=V
   subst this;exact Q
 ·refine⟨m,B.cy 0,s,B.cy 1,?_⟩
  intro a
  have Q:=v.aY
  have C:=v.ne B ae
  have w:Le (bA (g::c::b) M) (bA b a):=bS E λz o=>ai _ (ai _ o)
  refine Z m s l a (ab.le ((x.bA λz o=>?_).trans w)) (dW.le (v.mq L (λo=>?_) hz V) w λT ah=>L.le w) V N ((P.trans x).aj aa.1 _ _)
  ·rcases List.mem_cons.1 o with e|e
   ·exact Or.inr V
   ·exact Or.inl e
  ·simp only[aS]at o
   rcases o with e|e|e
   ·exact C e
   ·omega
   ·have:=hS _ e;have:=P.size;omega
structure vS(ds:List bq)(rs:List fD)(c:Prop)(W:Nat):Prop where
 gR:0<rs.length
 df:∀q∈rs,q.params.length<=3/\q.cW.length<=3/\WB ds rs.length c q.params.length q.body/\q.body.w<=W
def sW(h:Nat)(e:List Value)(f:I)(b:List Nat)(g:List bq)(Q:List fD->Prop):Prop:=aN bY h e f λv a=>∃d r c,v=.agg #[O.v d,O.v r]/\dJ (bA b a) d r g c/\Q c/\J f a
def ET{d:List bq}{a b:List fD}{c:Prop}{W:Nat}(j:0<a.length)(f:b.length=a.length)(h:∀(i:Nat)(q:fD),b[i]? =some q->q.params.length<=3/\q.cW.length<=3/\WB d a.length c q.params.length q.body/\q.body.w<=W):vS d b c W:=
 ⟨V,λq g=>by obtain⟨i,e⟩:=List.mem_iff_getElem?.1 g;rw[f];exact h i q e⟩
def FJ(K:∀i∈b,i<f.size){G:O}{e cW:List Int}{N:Int}(D:ar f p e)(L:ar f t cW)(S:e.length<=100):
 jR 239 [.agg #[O.v p,O.v t,vi N,O.v G,vi u]] f b λa=>(∀o∈a,0<=o/\o<(e.length:Int))/\a.length<=e.length:=by
 apply yE
 simp -zeta only[aE,aD]
 intro c d
 have x:J f c:=J.push _ _
 have C:∀z∈[f.size],z<c.size:=by simp[c]
 have H:GI b c d (.mk c.size 0 0 0) []:=GI.nil b c
 have P:J c d:=J.push _ _
 clear_value d
 clear_value c
 have U:=D.len
 refine dC (n:=e.length) V (λq s M=>J c M/\∃a,GI b c M s a/\(∀o∈a,0<=o/\o<(e.length:Int))/\a.length<=q) ⟨P,[],H,E,ad _⟩ ?_
 rintro q s W R μ T ⟨y,a,j,m,B⟩ r
 have v:=x.trans y
 refine⟨λg=>?_,λg=>?_⟩
 ·simp only[ao]at g
  obtain⟨Q,M⟩:=ag (l:=e) (k:=q) V
  refine⟨V,V,Q,(D.ext v).u M,λ_=>?_,λ_=>r V _ _ ⟨y,a,j,m,V⟩⟩
  refine(cU (L.ext v) q).any.aG y C λz X F w=>⟨_,rfl,λ_=>?_,λ_=>r V _ _ ⟨w,a,j.ext F,m,V⟩⟩
  intro h
  refine GI.jK (j.ext F) (w.fz []) (λi B=>x.lt (K i B)) V λZ Y I A _ _=>⟨J.mU (w.aM _) A.ext C,r V _ _ ⟨A.ext,_,I,λo i=>?_,bK⟩⟩
  rcases List.mem_append.1 i with i|i
  ·exact m o i
  ·simp at i;omega
 ·exact⟨s,a,rfl,j.cG (λ_ g=>g) x.size,⟨m,by simp at g;omega⟩,v⟩
end
section
variable{a:List Nat}{b:I}{d r:O}{c:List fD}
def Fp(hS:∀e∈a,e<b.size){aa al w:O}{W:List bq}{q:fD}(hn:dJ b d r W c)(hp:ar b aa q.params)(ht:ar b al q.cW)(hs:dN b w q.body.aA)(aK:q.params.length<=3)(au:WB W c.length False q.params.length q.body)(hw:q.body.w<=95):
 lX 237 [.agg #[O.v d,O.v r],.agg #[O.v aa,O.v al,vi q.aR,O.v w,vi q.body.aR]] b a λs=>WB W c.length True q.params.length s/\s.w<=1100*q.body.w:=by
 apply xY
 simp -zeta only[aE,aD]
 intro m0 H N
 obtain⟨y,h,s0,s1,s2⟩:=oF (a:=m0) (b:=H) (c:=N) rfl rfl rfl
 clear_value N
 have aL:=hp.len
 have Y:∀e∈H.size::a,e<N.size:=bG hS y.size (h _ E)
 refine(AT (S:=[]) E (hs.le y.le) _ V).aG (J.aC N) h λus ul g hu aM U _=>⟨_,rfl,?_⟩
 have aq:ar g us ul:=hu.le (bt _ _)
 intro v P
 have aC:J g P:=(J.push g _).trans (J.push v _)
 have s4:v.size=g.size+1:=by simp[v]
 have j:GI a g P (.mk g.size 0 0 0) []:=(GI.nil a g).ext (J.push v _)
 have i:GI a g P (.mk v.size 0 0 0) []:=(GI.nil a v).cG (λ_ X=>X) V
 clear_value P
 have z3:=U.size
 have ao:∀e∈a,e<g.size:=λe f=>by have:=hS e f;have:=y.size;omega
 refine uL (n:=q.params.length) V (λm R sd M=>J g M/\∃p u,GI a g M R p/\GI a g M sd u/\R.F≠sd.F/\(∀o∈p,0<=o/\o<(q.params.length:Int))/\(∀o∈u,0<=o/\o<(q.params.length:Int))/\p.length<=m/\u.length<=m) ⟨aC,[],[],j,i,bK,E,E,ad _,ad _⟩ ?_
 rintro m R sd m6 aF μ hk ⟨z,p,u,j,i,L,F,D,cm,cd⟩ Q
 have K:=U.trans z
 have v6:=y.trans K
 refine dit (λX=>?_) λX=>?_
 ·obtain⟨ac,hy⟩:=ag (l:=q.params) (k:=m) V
  have sn:∀{t:List Int},(∀o∈t,0<=o/\o<(q.params.length:Int))->∀o∈t++[(m:Int)],0<=o/\o<(q.params.length:Int):=λh o G=>by
   rcases List.mem_append.1 G with G|G
   ·exact h o G
   ·simp at G;omega
  refine⟨V,V,ac,(hp.ext v6).u hy,λ_=>?_,λ_=>Q V _ _ _ ⟨z,p,u,j,i,L,F,D,V,V⟩⟩
  refine(cU (ht.ext v6) m).any.aG K h λab m7 A u7=>⟨_,rfl,λ_=>?_,λ_=>Q V _ _ _ ⟨z.trans A,p,u,j.ext A,i.ext A,L,F,D,V,V⟩⟩
  refine(cU (aq.ext (z.trans A)) m).any.aG u7 h λab m8 x8 u8=>⟨_,rfl,λ_=>?_,λ_=>?_⟩
  ·have x:=A.trans x8
   intro m9
   exact GI.PG (j.ext x) (i.ext x) L ((z.trans x).fz []) V λr m' C T Z B=>⟨J.mU ((K.trans x).aM _) (U.trans B.ext) h,Q V _ _ _ ⟨B.ext,_,_,C,T,Z,sn F,D,bK,V⟩⟩
  ·have x:=A.trans x8
   intro m9
   exact GI.PG (i.ext x) (j.ext x) L.symm ((z.trans x).fz []) V λr m' C T Z B=>⟨J.mU ((K.trans x).aM _) (U.trans B.ext) h,Q V _ _ _ ⟨B.ext,_,_,T,C,Z.symm,F,sn D,V,bK⟩⟩
 intro B
 have ae:J m6 B:=J.push _ _
 have ab:=K.trans ae
 have ac:=y.trans ab
 have e0:ar B (.mk m6.size 0 0 0) []:=kY _ _ _ _ _ _
 have aj:∀{M:I}{w:O}{t:List Int},GI a g M w t->t.length<=3->ar M w t:=λC h=>(C.done ao V).le (bt _ _)
 clear_value B
 have aJ:=q.body.Eo
 refine(DG q.body (H.size::a) B (λe f=>ab.lt (Y e f)) d r aa w R _ q.params p [] (hn.le ac.le) (hp.ext ac) (hs.le ac.le) ((aj j V).ext ae) e0 ⟨F,V,bK,V,au⟩).aG ab h λss s G ap hq aA ay=>⟨_,_,rfl,?_⟩
 intro av o
 have af:J G o:=(J.push G _).aj (ad _) _ _
 have aR:o.size=G.size+1:=by simp[o,av,az]
 clear_value o
 have T:=ay.trans af
 have Z:∀e∈[G.size,H.size,m0.size,b.size],e<o.size:=λe f=>by
  rcases List.mem_cons.1 f with A|A
  ·omega
  ·exact T.lt (h e A)
 have aH:=Bk.kN s;have aG:=eW s.aA
 have aN:=hq.2
 refine(dU (c:=H.size::a) (λe f=>T.lt (Y e f)) 15 ((aj i V).ext ((ae.trans aA).trans af)) V).aG (J.aC o) Z λaQ _ aO ah A x _=>⟨_,rfl,aI (x.same _ V) _,aI (x.same _ V) _,?_⟩
 subst A
 have aS:=x.size
 have hy:=ah.aY
 refine GS.all ah (x.fz []) ((ap.le (af.cJ _)).le (qX x hy.1)) bK λax aw an am aT ak=>⟨λe f=>ak e (x.lt (Z e f)) (by have:=Z e f;omega),aI (ak _ V V) _,?_⟩
 intro aP
 have aB:J b aw:=(y.trans T).trans am.ext
 refine⟨ax,.mk _ s.aR,rfl,dN.le (bS E λe f=>ai _ f) (an.done ft.mono (λe f=>T.lt (Y e f)) bd bK),⟨WB.of ((pP V D).append ?_) ?_,?_⟩,aB.aj V _ _⟩
 ·rw[jf V];exact hq.1.bo.1
 ·rw[cr,jf V,bN];exact hq.1.bo.2
 ·rw[Bk.oV,db,mL];omega
def Js(P:∀e∈a,e<b.size){i:List bq}(o:dJ b d r i c)(hk:vS i c False 95):sW 220 [.agg #[O.v d,O.v r]] b a i λy=>vS i y True 104500:=by
 apply BO;simp -zeta only[aE,aD];intro f X;obtain⟨A,w⟩:=di (a:=f) (c:=X) rfl rfl;have s1:f.size=b.size+1:=by simp[f]
 clear_value X;have ak:=o.gQ.len;have av:=o.mN;refine(eT (b:=f.size::a) (bG P A.size (w _ E)) (o.le A.le).aT o.types).mono λ_ U⟨ae,j,ah,B⟩=>?_;subst j;refine⟨B.da w,_,rfl,?_⟩;intro W ao ad;have u2:=A.trans B;obtain⟨x5,B0,g0,s3,s5⟩:=jO (b:=W.size::f.size::a) gH.mono (d:=U) (a:=W) (c:=ao) (h:=ad) rfl rfl rfl;clear_value ad;have x:∀e∈[f.size,b.size],e<U.size:=λe g=>B.lt (w e g);have Q:∀e∈f.size::a,e<U.size:=λe g=>B.lt (bG P A.size (w _ E) e g);refine jI (R:=λh p M=>∃d r y,Value.agg #[O.v h,O.v p]=.agg #[O.v d,O.v r]/\dJ (bA a M) d r i y/\vS i y True 104500/\J b M) (t:=c.length) (f:=b) (b:=a) gH.mono bd bd P ⟨V,x _ E⟩ u2 s3 ah ak V x5 B0 g0 (λ_ q=>q.params.length<=3/\q.cW.length<=3/\WB i c.length True q.params.length q.body/\q.body.w<=104500) (λh u T v h1 h2 p s t=>⟨h,u,T,rfl,⟨h1,h2,o.types,V⟩,ET hk.gR p s,t⟩) λan M st T aq μ ai ar C aa F ap=>?_
 obtain⟨q,hq⟩:=ag (l:=c) (k:=an) ai;obtain⟨ac,aj,am,hw⟩:=hk.df q (au hq);have p:=u2.trans C;obtain⟨aw,ax,h,Y,Z,c3,H,I,K,L,N⟩:=o.gQ.u hq;have G:∀{z:Value}{h t:Nat},D b h t=some z->D M h t=some z:=λv=>p.D v;refine⟨st,F.cy 1,V,V,_,G H,_,G I,_,G K,_,G L,_,G N,V,V,_,G H,_,G I,_,G K,_,G L,_,G N,?_⟩;have hy:=aa.aY;have af:=F.lt;have zM:=C.size;refine(Fp (a:=st.F::W.size::f.size::a) (λe g=>?_) (o.le p.le) (Y.ext p) (Z.ext p) (c3.le p.le) ac am hw).aG C x λss b' M1 al ab s u1=>⟨_,_,rfl,?_⟩
 ·simp only[aS]at g;rcases g with j|j|j|j
  ·omega
  ·omega
  ·have:=Q e (by simp[j]);omega
  ·have:=Q e (by simp[j]);omega
 have u:∀{z:Value}{h t:Nat},D b h t=some z->D M1 h t=D M h t:=λv=>by rw[s.D (G v),G v]
 refine⟨u H,u I,u K,u L,u N,aI (s.same _ (C.lt (x _ E))) _,aI (s.same _ af) _,?_⟩;exact tR (b:=f.size::a) (v:=ae) (x:=T) Q (λe g=>by have h1:=x e g;have h2:=u1.size;omega) u1 (aa.ext gH.mono s) (F.ext s) V (Y.ext (p.trans s)) (Z.ext (p.trans s)) al ⟨V,V⟩ V λs' M' g' B' x'=>ap s' M' _ g' B' x' ⟨ac,aj,ab.1,by have:=ab.2;simp only;omega⟩
def Nx(Q:∀f∈a,f<b.size){u:List bq}(v:dJ b d r u c)(hk:vS u c False 95):sW 221 [.agg #[O.v d,O.v r]] b a u λC=>vS u C True 104500:=by
 apply Hu;simp -zeta only[aE,aD];intro q a2;obtain⟨H,z⟩:=di (a:=q) (c:=a2) rfl rfl;have s1:q.size=b.size+1:=by simp[q]
 clear_value a2;have al:=v.gQ.len;have ay:=v.mN;refine(eT (b:=q.size::a) (bG Q H.size (z _ E)) (v.le H.le).aT v.types).mono λ_ X⟨af,h,ah,K⟩=>?_;subst h;refine⟨K.da z,_,rfl,?_⟩;intro B ap ac;have u2:=H.trans K;obtain⟨x5,B0,g0,s3,s5⟩:=jO (b:=B.size::q.size::a) gH.mono (d:=X) (a:=B) (c:=ap) (h:=ac) rfl rfl rfl;clear_value ac;have U:∀f∈[q.size,b.size],f<X.size:=λf i=>K.lt (z f i);have T:∀f∈q.size::a,f<X.size:=λf i=>K.lt (bG Q H.size (z _ E) f i);refine jI (R:=λe g M=>∃d r C,Value.agg #[O.v e,O.v g]=.agg #[O.v d,O.v r]/\dJ (bA a M) d r u C/\vS u C True 104500/\J b M) (t:=c.length) (f:=b) (b:=a) gH.mono bd bd Q ⟨V,U _ E⟩ u2 s3 ah al V x5 B0 g0 (λ_ s=>s.params.length<=3/\s.cW.length<=3/\WB u c.length True s.params.length s.body/\s.body.w<=104500) (λe p W t h1 y g j o=>⟨e,p,W,rfl,⟨h1,y,v.types,V⟩,ET hk.gR g j,o⟩) λao M st W av μ ai ax xM aa L aq=>?_
 obtain⟨s,hq⟩:=ag (l:=c) (k:=ao) ai;obtain⟨ak,aj,an,hw⟩:=hk.df s (au hq);have F:=u2.trans xM;obtain⟨ar,aB,p,N,c2,c3,e0,e1,e2,e3,e4⟩:=v.gQ.u hq;have G:∀{ae:Value}{p w:Nat},D b p w=some ae->D M p w=some ae:=λP=>F.D P;refine⟨V,V,_,G e0,_,G e1,_,G e2,_,G e3,_,G e4,?_⟩;intro m7 o;have hy:=aa.aY;have aw:=L.lt;have zM:=xM.size;have x8:J M o:=(J.push M _).aj (ad _) _ _;have s8:o.size=M.size+1:=by simp[o,m7,az]
 clear_value o;have A:∀f∈[M.size,q.size,b.size],f<o.size:=λf i=>by
  rcases List.mem_cons.1 i with h|h
  ·omega
  ·have:=U f h;omega
 have Y:=F.trans x8;have g:∀{M1 M2:I},J o M1->J o M2->∀p,p<o.size->∀w,D M2 p w=D M1 p w:=λP h' p hb w=>aI (by rw[h'.same p hb,P.same p hb]) w;have j:M.size<o.size:=V;have i1:b.size<o.size:=A _ E;have i2:B.size<o.size:=V;refine⟨st,(L.ext x8).cy 1,?_⟩;refine(FJ (b:=[]) E (N.ext Y) (c2.ext Y) V).aG (J.aC o) A λow lo m9 go ho e _=>⟨_,rfl,g (J.aC _) e _ j _,g (J.aC _) e _ j _,g (J.aC _) e _ j _,g (J.aC _) e _ i1 _,g (J.aC _) e _ i1 _,g (J.aC _) e _ j _,g (J.aC _) e _ j _,g (J.aC _) e _ j _,g (J.aC _) e _ j _,g (J.aC _) e _ j _,g (J.aC _) e _ i2 _,?_⟩;have Z:=Y.trans e;have z9:=e.size;have i:=ho.2;refine(Fv s.body (st.F::B.size::q.size::a) m9 (λf i=>?_) d r ar p ow s.params lo (v.le Z.le) (N.ext Z) (c3.le Z.le) ((go.done E V).le (bt _ _)) ⟨ho.1,V,V,an⟩).aG e A λss b' aA am ab aC t=>⟨_,_,rfl,g e t _ j _,g e t _ j _,g e t _ j _,g e t _ j _,g e t _ j _,g e t _ i2 _,?_⟩
 ·simp only[aS]at i;rcases i with h|h|h|h
  ·omega
  ·omega
  ·have:=T f (by simp[h]);omega
  ·have:=T f (by simp[h]);omega
 have x:=x8.trans t;have vP:=t.size;exact tR (b:=q.size::a) (v:=af) (x:=W) T (λf i=>by have h1:=A f i;have y:=U f;simp only[aS]at i y;rcases i with h|h|h|h<;>first|omega|(have:=y (by simp[h]);omega)|simp at h) (xM.trans x) (aa.ext gH.mono x) (L.ext x) V (N.ext (F.trans x)) (c2.ext (F.trans x)) am ⟨V,V⟩ V λs' M' g' y x'=>aq s' M' _ g' y x' ⟨ak,aj,ab.1,by have:=ab.2;simp only;omega⟩
end
section
variable{x:cq}{b:List cq}{m e M:I}{j g f i:O}{c:List Nat}{d h:List Int}{a:Int}{K:O->I->Prop}
def yp(a k:O)(m:I):dm bY 243 [nv x a k] m (x.op=14\/x.op=15):=by
 apply DQ;simp -zeta only[aE,aD];intro c;have b:J m c:=J.push _ _;refine⟨λh=>iN (Or.inl (by simpa using h)) b,λh=>fA ?_ b⟩;simp only[an]at h;simp only[aL];omega
def UE(b:List cq):Prop:=∀x∈b,x.args.length=1
def wT(b:List cq)(o:Int):Prop:=∃x∈b,o∈x.args
def UE.at(h:UE b){d:Nat}(a:b[d]? =some x):∃y,x.args[0]? =some y/\wT b y:=by
 have e:=h x (au a);obtain⟨y,c⟩:=ag (l:=x.args) (k:=0) V;exact⟨y,c,x,au a,au c⟩
def Mg(t:dN m j b)(G:UE b)(Q:b.length<=1000000000000)(v:Int):qM 268 [O.v j,vi v] m λd=>-(b.length:Int)<=d/\d<=b.length:=by
 apply FC;have S:=t.len;refine dC (n:=b.length) V (λc d M=>J m M/\-(c:Int)<=d/\d<=(c:Int)) ⟨J.aC _,V,V⟩ ?_;rintro c d e I μ R ⟨g,K,L⟩ H
 refine⟨λr=>?_,λr=>⟨d,rfl,⟨V,V⟩,g⟩⟩;simp only[ao]at r;obtain⟨x,u⟩:=ag (l:=b) (k:=c) V;obtain⟨y,w,_⟩:=G.at u;obtain⟨a,U,s,_,E,_,_,F,_⟩:=t.u u;have P:=s.len;have T:=ax w;have z:=g.D E;have p:=g.D F;have q:=(s.ext g).u w;have B:cK (d+1)=d+1:=aP V V;have C:cK (d -1)=d -1:=aP V V;rw[B,C];have N:∀f,-((c+1:Nat):Int)<=f->f<=((c+1:Nat):Int)->I f (cK ((c:Int)+1)) e/\μ f (cK ((c:Int)+1)) e<μ d c e:=λf a A=>H V _ _ ⟨g,a,A⟩
 have o:(0:Int)<=(c:Int)/\(c:Int)<(j.len:Int)/\∃h:O,D e j.F (j.off+Int.toNat (c:Int)*5+3)=some (O.v h)/\(0:Int)<=(0:Int)/\(0:Int)<(h.len:Int)/\∃i:Int,D e h.F (h.off+Int.toNat (0:Int)*1)=some (vi i)/\
  ((i==v)=true->I (d -1) (cK ((c:Int)+1)) e/\μ (d -1) (cK ((c:Int)+1)) e<μ d c e)/\((i==v)=false->I d (cK ((c:Int)+1)) e/\μ d (cK ((c:Int)+1)) e<μ d c e):=
  ⟨V,V,a,p,V,V,y,q,λ_=>N _ V V,λ_=>N _ V V⟩
 exact⟨V,V,a,p,V,V,y,q,λ_=>⟨V,V,_,z,λ_=>N _ V V,λ_=>o⟩,λ_=>o⟩
def Kr(t:∀g∈c,g<m.size)(w:dN m j b)(p:UE b)(L:b.length<=100000000000):jR 267 [O.v j] m c λd=>(∀o∈d,wT b o)/\d.length<=b.length:=by
 apply Ei;intro R;have P:=w.len;refine dC (n:=b.length) V (λq s M=>J m M/\∃d,GI c m M s d/\(∀o∈d,wT b o)/\d.length<=q) ⟨J.push m _,[],GI.nil c m,E,ad _⟩ ?_;rintro q s e I μ N ⟨f,d,r,y,v⟩ F
 refine⟨λh=>?_,λh=>⟨s,d,rfl,r,⟨y,V⟩,f⟩⟩;simp only[ao]at h;obtain⟨x,z⟩:=ag (l:=b) (k:=q) V;obtain⟨B,A,C⟩:=p.at z;obtain⟨a,W,u,_,H,_,_,i,_⟩:=w.u z;have K:=u.len;have Q:=ax A;refine⟨V,V,a,f.D i,V,V,B,(u.ext f).u A,?_⟩;refine(kT (S:=c) (λg v=>aJ (t g v) f.size) (r.done t V) B V).then λU D T i g G=>⟨_,rfl,F V _ _ ⟨f.trans G,D,i.cG (λ_ h=>h) f.size,λo p=>?_,by have:=g.2;omega⟩⟩;rcases g.1 o p with h|h
 ·exact y o h
 ·subst h;exact C
structure tD(c:List Nat)(m e M:I)(g f i:O)(d lr h:List Int):Prop where
 x:J m M
 gd:GI c m M g d
 gr:GI c m M f lr
 gv:GI [] e M i h
 n1:g.F≠f.F
 n2:g.F≠i.F
 n3:f.F≠i.F
def tD.ext{c:List Nat}{m e M b:I}{g f i:O}{d j h:List Int}(T:tD c m e M g f i d j h)(a:J M b):tD c m e b g f i d j h:=
 ⟨T.x.trans a,T.gd.ext a,T.gr.ext a,T.gv.ext a,T.n1,T.n2,T.n3⟩
def tD.WZ{j:List Int}(T:tD c m e M g f i d j h)(s:∀b∈c,b<m.size)(t:d.length<=1000000000000)(u:∀r b,tD c m e b r f i (d++[a]) j h->K r b):
 iS (M.push (.cells (br [.i a]) aB)) aB [.i 0] 8 g (.mk M.size 0 1 1) K:=by
 have o:=T.gr.aY;have p:=T.gv.aY;have v:=T.n1;have w:=T.n2
 refine GI.jK T.gd (T.x.fz []) s t λr b n l z q=>u r b ⟨l.ext,n,T.gr.iz (q _ o.2 T.n1.symm),T.gv.iz (q _ p.2 T.n2.symm),?_,?_,T.n3⟩<;>rcases z.2 with k|k<;>omega
def tD.PG{j:List Int}(T:tD c m e M g f i d j h)(s:∀b∈c,b<m.size)(t:j.length<=1000000000000)(u:∀r b,tD c m e b g r i d (j++[a]) h->K r b):
 iS (M.push (.cells (br [.i a]) aB)) aB [.i 0] 8 f (.mk M.size 0 1 1) K:=by
 have o:=T.gd.aY;have p:=T.gv.aY;have v:=T.n1;have w:=T.n3
 refine GI.jK T.gr (T.x.fz []) s t λr b n l z q=>u r b ⟨l.ext,T.gd.iz (q _ o.2 T.n1),n,T.gv.iz (q _ p.2 T.n3.symm),?_,T.n2,?_⟩<;>rcases z.2 with k|k<;>omega
def Sw(b:List cq)(d:List cq):Prop:=∃c a:List Int,d=c.map (dX 14)++a.map (dX 15)/\(∀o∈c,wT b o)/\(∀o∈a,wT b o)/\c.length+a.length<=b.length*b.length
def vI(x:∀v∈c,v<m.size)(hl:dN m j b)(a:UE b)(A:b.length<=500000):OP 244 [O.v j] m c (Sw b):=by
 apply Au;intro t e;have U:J m e:=(J.push m _).trans (J.push t _);have s1:t.size=m.size+1:=by simp[t]
 have Y:GI c m e (.mk m.size 0 0 0) []:=(GI.nil c m).ext (J.push t _);have Z:GI c m e (.mk t.size 0 0 0) []:=(GI.nil c t).cG (λ_ H=>H) V;clear_value e;have ak:b.length*b.length<=250000000000:=bJ (Ro A A) bd;refine(Kr (c:=[]) E (hl.le U.le) a V).then λi h m3 G Q W=>⟨_,rfl,?_⟩;have hv:ar m3 i h:=(G.done E (by have:=Q.2;omega)).le (bt _ _);have aq:=hv.len;have ap:=Q.2;have ai:=U.trans W;have av:=G.aY;have ax:=U.size;refine uL (n:=h.length) V (λr g f M=>∃d p,tD c m e M g f i d p h/\(∀o∈d,wT b o)/\(∀o∈p,wT b o)/\d.length+p.length<=r*b.length) ⟨[],[],⟨ai,Y.ext W,Z.ext W,G,bK,by have:=Y.aY;omega,by have:=Z.aY;omega⟩,E,E,E⟩ ?_;rintro r g f m4 aj μ hi ⟨d,p,T,hd,hr,hc⟩ af
 have ad:r*b.length<=b.length*b.length:=cZ _ V;have K:∀{M:I}{g f:O}{d p:List Int},tD c m e M g f i d p h->ar M i h:=λT=>(T.gv.done E V).le (bt _ _);refine dit (λH=>?_) λH=>?_
 ·obtain⟨z,B⟩:=ag (l:=h) (k:=r) V;have ac:=Q.1 z (au B);refine⟨V,V,z,(K T).u B,?_⟩;refine(Mg (hl.le T.x.le) a V z).then λy m5 hn u=>⟨_,rfl,?_⟩;have an:(r+1)*b.length=r*b.length+b.length:=oA _ _;refine⟨λg q M=>q<=y/\(y<=0->q=y)/\(0<y->0<=q)/\∃L,tD c m e M g f i L p h/\(∀o∈L,wT b o)/\L.length+p.length+q.toNat<=r*b.length+y.toNat,λ_ q _=>q.toNat,⟨V,V,V,d,T.ext u,hd,V⟩,?_⟩;rintro ah q m6 ⟨n1,n2,n3,N,C,aa,al⟩;refine dit (λh1=>?_) λh1=>?_
  ·refine⟨V,V,z,(K C).u B,?_⟩;intro s;have w:cK (q -1)=q -1:=aP V V;rw[w];exact C.WZ x V λR X D=>⟨⟨V,V,V,_,D,λo a=>by
    rcases List.mem_append.1 a with a|a
    ·exact aa o a
    ·simp at a;subst a;exact ac,bK⟩,by dsimp only;omega⟩
  ·refine⟨λf s M=>q<=s/\s<=0/\∃P,tD c m e M ah f i N P h/\(∀o∈P,wT b o)/\N.length+P.length+(-s).toNat<=r*b.length+b.length,λ_ s _=>(-s).toNat,⟨V,V,p,C,hr,V⟩,?_⟩;rintro aw s m8 ⟨p1,p2,ae,F,ab,am⟩;refine⟨λh2=>?_,λh2=>?_⟩
   ·simp only[ao]at h2;refine⟨V,V,z,(K F).u B,?_⟩;intro m9;have w:cK (s+1)=s+1:=aP V V;rw[w];exact F.PG x V λR X D=>⟨⟨V,V,_,D,λo a=>by
     rcases List.mem_append.1 a with a|a
     ·exact ab o a
     ·simp at a;subst a;exact ac,bK⟩,by dsimp only;omega⟩
   ·exact af V _ _ _ ⟨N,ae,F,aa,ab,V⟩
 ·have q:∀v∈c,v<m4.size:=λv hc=>by have:=x v hc;have:=T.x.size;omega
  refine(dU (c:=c) q 14 ((T.gd.done x V).le (bt _ _)) V).mono λ_ m5⟨s1,P,o,s,w,u⟩=>?_;subst o;subst w;refine⟨_,rfl,?_⟩;have B:=T.ext u;have y:=s.aY;refine(dU (c:=s1.F::c) (bG q u.size y.2) 15 ((B.gr.done x V).le (bt _ _)) V).mono λ_ m6⟨s2,l2,o,F,C,z⟩=>?_;subst o;subst C;refine⟨_,rfl,?_⟩;refine GS.all (s.ext ft.mono z) ((u.trans z).fz []) (F.done ft.mono (bG q u.size y.2) bd bK) bK λR X L D _ _=>⟨R,_,rfl,L.cG ft.mono (λN A=>Or.inl A) T.x.size,⟨d,p,rfl,hd,hr,?_⟩,T.x.trans D.ext⟩;have:r*b.length<=b.length*b.length:=ad;omega
end
section
variable{a c:Nat}
def FX(a b:Nat):a*a+b*b<=(a+b)*(a+b):=by
 rw[fC,Nat.mul_add,Nat.mul_add];omega
def NA{b:Nat}(h:a<=b):a*a<=b*b:=Ro h h
structure CN(ds:List bq)(c:Nat)(S:List Nat)(m2 M:I)(a:Nat)(aA:List cq)(k:Nat)(st run:O)(lo lr:List cq)(P:Nat):Prop where
 x:J m2 M
 gs:GS (run.F::S) m2 M st lo
 gr:GS [st.F] m2 M run lr
 wl:WL ds c True a lo
 UH:dc lo=dc (aA.take k)
 YW:sw lo<=P*P
 P':P+2*lr.length<=sw (aA.take k)
 kj:UE lr
 UQ:∀o,wT lr o->0<=o/\o<((a+dc (aA.take k):Nat):Int)
 ne:st.F≠run.F
def Nu{f:List bq}{l b:List cq}(h:Sw l b)(e:∀o,wT l o->0<=o/\o<(a:Int)):WL f c True a b/\dc b=0/\sw b<=(2*l.length)*(2*l.length):=by
 obtain⟨k,j,rfl,g,i,m⟩:=h;refine⟨(pP V λo d=>e o (g o d)).append ?_,?_,?_⟩
 ·rw[jf V];exact pP V λo d=>e o (i o d)
 ·rw[cr,jf V,jf V]
 ·rw[db,mL,mL];have:(2*l.length)*(2*l.length)=4*(l.length*l.length):=by
   rw[Nat.mul_mul_mul_comm]
  omega
def WJ(e:List bq)(c:Nat)(b:Bk):Prop:=∀(S:List Nat)(m:I),(∀d∈S,d<m.size)->∀(t:O)(a:Nat),dN m t b.aA->WB e c True a b->b.w<=400000->lX 228 [.agg #[O.v t,vi b.aR]] m S λd=>WB e c True a d/\d.w<=b.w*b.w
def BL{O:List bq}:∀g:Bk,WJ O c g:=by
 refine Bk.ind ?_;intro aA bj ih u N hS bX a hs bb hw;have aM:=bb.bo;rw[Bk.oV]at hw⊢;simp only[Bk.jd,Bk.iy]at*;apply uU;simp -zeta only[aE,aD];intro j m U m3;obtain⟨x1,hl⟩:=di (a:=j) (c:=m) rfl rfl;have s0:j.size=N.size+1:=by simp[j]
 have s1:m.size=N.size+2:=by simp[m,s0]
 have bn:J m m3:=(J.push m _).trans (J.push U _);have s2:U.size=m.size+1:=by simp[U]
 have a3:∀w,GS w m m3 (.mk m.size 0 0 0) []:=λw=>(GS.new w m).ext ft.mono (J.push U _);have a2:∀w,GS w m m3 (.mk U.size 0 0 0) []:=λw=>(GS.new w U).cG ft.mono (λg p=>Or.inl p) V;clear_value m3;clear_value m;have a_:=hs.len;have aL:=yY aA;have bF:=eW aA;have aC:∀e∈j.size::u,e<m.size:=bG hS x1.size (hl _ E);refine uL (n:=aA.length) (a_▸hs.fL) (λy K B s=>∃lo v P,CN O c (j.size::u) m s a aA y K B lo v P) ⟨[],[],0,bn,a3 _,a2 _,WL.nil _ _ _ _,rfl,E,E,λ_ h=>by simp at h,λah⟨_,h,_⟩=>by simp at h,bK⟩ ?_;rintro y K B A bp μ hk ⟨lo,v,P,C⟩ aN
 have X:=C.x;have W:=x1.trans X;have bQ:=C.gs.aY;have bP:=C.gr.aY;have z4:=X.size;have aB:=C.P';have bH:=aL y;have bs:P*P<=160000000000:=bJ (NA (b:=400000) V) bd;have bD:=eW lo;have a8:=C.YW;have aJ:=C.ne;have Q:∀{s:I}{w:List Nat},A.size<=s.size->(∀e∈w,e<s.size)->∀e∈w++j.size::u,e<s.size:=λh p e f=>by
  rcases List.mem_append.1 f with h|h
  ·exact p e h
  ·have:=aC e h;omega
 have aK:∀{s:I},J A s->dN s B v:=λh=>dN.le (bt _ _) ((C.gr.ext ft.mono h).mq ft.mono (by simpa using aJ.symm) bd V);refine dit (λh=>?_) λh=>?_
 ·obtain⟨d,hx⟩:=ag (l:=aA) (k:=y) V;obtain⟨pa,pk,ha,ac,g0,g1,g2,g3,g4⟩:=hs.u hx;refine⟨V,V,_,W.D g0,_,W.D g1,_,W.D g2,_,W.D g3,_,W.D g4,?_⟩;intro m5 H;have x6:J A H:=(J.push A _).aj (ad _) _ _;have s6:H.size=A.size+1:=by simp[H,m5,az]
  clear_value H;have T:∀{s:I},H.size<=s.size->∀g∈[A.size,j.size,N.size],g<s.size:=λh g p=>by
   rcases List.mem_cons.1 p with i|i
   ·omega
   ·have:=hl g i;omega
  have bM:=od hx;have bL:=oY hx;have bc:=cq.kN d;have aa:=aM.1 y d hx;have bI:=aL (y+1);have bv:=oG d.bu;refine(yp pa pk H).aG (J.aC H) (T (ad _)) λbr m7 a5 x7 _=>⟨_,rfl,λhp=>?_,λhp=>?_⟩
  · -- a pair goes to the run
   have hp:=a5.1 hp;have G:d.args.length=1:=aa.dY.kj V;have ab:dn d=0:=ae λh:nB d.op=>by have:=h.2;omega
   have D:=x6.trans x7;have R:=W.trans D;intro m8;have r:Le N (bA (B.F::[K.F]) m7):=(xB N).trans ((R.fz []).bA E λe f=>by simp at f;have:=x1.size;exact Or.inr V);refine GS.jK (x:=d) (C.gr.ext ft.mono D) ((X.trans D).fz []) (ha.le r) (ac.le r) V λa1 M' Z F z t=>⟨λe f=>?_,aN V _ _ _ ⟨lo,v++[d],P,F.ext,(C.gs.ext ft.mono D).re ft.mono (Y:=[B.F]) ⟨z.1,λe f o=>t e f (by simpa using o)⟩ E (by simpa using aJ) (λe f=>?_),Z,C.wl,by rw[C.UH];omega,a8,bK,λam q=>?_,λah L=>?_,?_⟩⟩
   ·have:=T (s:=m7) x7.size e f;rw[t e this (by simp at f;omega),(J.push m7 _).same e this]
   ·rcases List.mem_cons.1 f with i|i
    ·rcases z.2 with o|o
     ·exact Or.inl (by rw[i,o];exact ba)
     ·exact Or.inr V
    ·exact Or.inl (ai _ i)
   ·rcases List.mem_append.1 q with q|q
    ·exact C.kj am q
    ·simp at q;subst q;exact G
   ·obtain⟨am,q,o⟩:=L;have i:dc (aA.take (y+1))=dc (aA.take y):=V;rw[i];rcases List.mem_append.1 q with q|q
    ·exact C.UQ ah ⟨am,q,o⟩
    ·simp at q;subst q;exact aa.dY.args ah o
   ·have:=(C.gs.ext ft.mono D).aY;rcases z.2 with i|i<;>omega
  · -- another step ends the run
   have D:=x6.trans x7;have aT:=D.size;refine(vI (c:=[K.F,B.F]++j.size::u) (Q aT bK) (aK D) C.kj V).aG (J.aC m7) (T x7.size) λbV be bR aZ bh aP _=>⟨_,rfl,?_⟩;obtain⟨ap,aj,bl⟩:=Nu (f:=O) (c:=c) bh C.UQ;have bB:=eW be;have vP:=aP.size;have z7:=x7.size;have a4:(2*v.length)*(2*v.length)<=160000000000:=bJ (NA (b:=400000) V) bd;have aR:=D.trans aP;refine GS.all (C.gs.ext ft.mono aR) ((X.trans aR).fz []) (aZ.done ft.mono (Q (w:=[K.F,B.F]) aT bK) bd V) V λz o ay aX aS bi=>⟨λe f=>bi e (T V e f) (by simp at f;omega),?_⟩;have ar:J m o:=aX.ext;have bY:=aS.1;have bN:=ay.aY;have bu:z.F=K.F\/H.size<=z.F:=by have:=aS.2;omega
   intro r ao;have aQ:J o r:=J.push o _;have bW:r.size=o.size+1:=by simp[r]
   have bm:J r ao:=J.push r _;have av:=ar.trans aQ;have gn:GS [z.F] m r (.mk o.size 0 0 0) []:=(GS.new _ o).cG ft.mono (λg p=>Or.inl p) ar.size;have gk:GB ([z.F,o.size]++j.size::u) r ao (.mk r.size 0 0 0) []:=GB.new _ r;have a0:GS ([o.size]++j.size::u) m r z _:=ay.re ft.mono (Y:=[]) (aQ.fz []) E E λe f=>by
    rcases List.mem_cons.1 f with i|i
    ·exact Or.inr V
    ·exact Or.inl (ai _ i)
   clear_value ao;clear_value r;have an:=ac.len;have bx:=Ik d.bu;have bz:bw d.bu<=400000:=V;refine dC (n:=d.bu.length) (an▸ac.fL) (λG bk s=>J r s/\∃t,GB ([z.F,o.size]++j.size::u) r s bk t/\t.length=G/\(∀(F:Nat)(g:Bk),t[F]? =some g->WB O c True (a+dc (aA.take y)+ze O d.op d.bL F) g)/\bw t<=bw (d.bu.take G)*bw (d.bu.take G)) ⟨bm,[],gk,rfl,E,E⟩ ?_;rintro G ks af I2 μ2 hj ⟨ab,t,Z,bC,aH,a6⟩ bg;have aU:=av.trans ab;have ak:=x1.trans aU;have b0:=ab.size;have bO:=Z.aY;have R:∀g∈[A.size,j.size,N.size],g<af.size:=T V;refine dit (λh2=>?_) λh2=>?_
   ·obtain⟨g,p⟩:=ag (l:=d.bu) (k:=G) V;obtain⟨tb,aY,f0,f1⟩:=ac.u p;have a7:=uE p;have aO:=sF p;refine⟨V,V,_,ak.D f0,_,ak.D f1,?_⟩;refine(ih d (au hx) g (au p) ([ks.F,z.F,o.size]++j.size::u) af (Q V bK) tb _ (aY.le ak.le) (aa.bu G g p) V).aG (J.aC af) R λss b' a9 aW aG aq _=>⟨_,_,rfl,?_⟩;refine GB.jK (c:=b') (Z.ext pM.mono aq) ((ab.trans aq).fz []) aW V λa1 M' g2 f2 z2 q2=>⟨J.mU ((ab.trans aq).aM _) f2.ext (λe f=>by have:=T (s:=r) V e f;omega),bg V _ _ ⟨f2.ext,_,g2,bK,λF b2 L=>?_,?_⟩⟩
    ·rcases aV F t.length with al|al
     ·rw[aw al]at L;exact aH F b2 L
     ·rw[aF al]at L;have:F -t.length=0:=by have:=ax L;simp at this;omega
      rw[this]at L;simp at L;subst L;have:F=G:=V;subst this;exact aG.1
    ·rw[nj,sE,xe,aO];have h3:=FX (bw (d.bu.take G)) g.w;have:=aG.2;omega
   ·have a7:t.length=d.bu.length:=V;rw[bZ V]at a6;refine(bE ([z.F,o.size]++j.size::u) (ha.ext ak) V).aG (J.aC af) R λs' l' bf ga i L _=>⟨_,rfl,aI (L.same _ (R _ E)) _,aI (L.same _ (R _ E)) _,aI (L.same _ (R _ E)) _,?_⟩;subst i;intro bT;have al:=ab.trans L;have b1:=L.size;have aq:∀e∈[z.F,o.size]++j.size::u,e<r.size:=Q V bK;have a9:z.F≠o.size:=V;refine GS.jK (x:=⟨d.op,d.bL,d.bV,d.args,t⟩) (a0.ext ft.mono al) ((av.trans al).fz []) (ga.done (λe f=>by have:=aq e f;omega) V) (mo.le (L.cJ _) (Z.done pM.mono aq bd (by show t.length<=_;omega))) bK λaO bU a1 aY bo aG=>⟨λe f=>?_,aN V _ _ _ ⟨_,[],P+2*v.length+d.w,aY.ext,a1,?_,((C.wl.append (by rw[C.UH];exact ap)).xK (aa.Ng id aa.dY.bV a7 aH|>λh=>by rw[cr,C.UH,aj,iJ];exact h)),?_,?_,bK,λ_ h=>by simp at h,λah⟨_,h,_⟩=>by simp at h,?_⟩⟩
    ·have h3:=R e f;rw[aG e V (by simp at f;omega),(J.push bf _).same e V]
    · -- the new run is empty
     have i:=gn.ext ft.mono al;obtain⟨p0,aW,p1,p2⟩:=i;refine⟨p0,aW,p1.congr (aG _ (by have:=al.size;show o.size<_;omega) (jQ a9)),p2.len,p2.size,λF cs am _ q=>by simp at q⟩
    ·rw[cr,cr,C.UH,aj,jD,qU];have i:dn (⟨d.op,d.bL,d.bV,d.args,t⟩:cq)=dn d:=rfl;omega
    ·rw[db,db,ln,tr];have h3:=FX P (2*v.length);have h4:=FX (P+2*v.length) d.w;have h5:(⟨d.op,d.bL,d.bV,d.args,t⟩:cq).w=1+d.args.length+bw t:=cq.kN _;have q:=FX (1+d.args.length) (bw d.bu);have h7:1+d.args.length<=(1+d.args.length)*(1+d.args.length):=Nat.le_mul_of_pos_left _ V;rw[<-bc]at q;omega
    ·rcases bo.2 with i|i
     ·show aO.F≠o.size;omega
     ·show aO.F≠o.size;omega
 ·have an:y=aA.length:=V;subst an;rw[fZ]at aB;have D:dc (aA.take aA.length)=dc aA:=by rw[fZ]
  have i:∀g∈[j.size,N.size],g<A.size:=λg p=>X.lt (hl g p);refine(vI (c:=[K.F,B.F]++j.size::u) (Q (ad _) bK) (aK (J.aC _)) C.kj V).aG (J.aC A) i λZ o L t F d _=>⟨_,rfl,aI (d.same _ (i _ E)) _,?_⟩;obtain⟨ap,aj,bl⟩:=Nu (f:=O) (c:=c) F C.UQ;have H:=eW o;have a4:(2*v.length)*(2*v.length)<=160000000000:=bJ (NA (b:=400000) V) bd;have aa:=d.size;refine GS.all (C.gs.ext ft.mono d) ((X.trans d).fz []) (t.done ft.mono (Q (w:=[K.F,B.F]) (ad _) bK) bd V) V λG R z r ab q=>⟨λe f=>q e (d.lt (i e f)) (by have:=hl e f;omega),aI (q _ (d.lt (i _ E)) V) _,?_⟩;intro T;refine⟨G,.mk (lo++o) bj,rfl,dN.le (bS E λe f=>ai _ f) ((z.re ft.mono (S':=j.size::u) (Y:=[]) (Fz.aC _ _) E E (λe f=>Or.inl (ai _ f))).done ft.mono aC bd bK),⟨WB.of (C.wl.append (by rw[C.UH];exact ap)) ?_,?_⟩,(x1.trans r.ext).aj V _ _⟩
  ·rw[cr,C.UH,aj,D];exact aM.2
  ·rw[Bk.oV,db];have h3:=FX P (2*v.length);have h4:=NA aB;have h5:=FX 1 (sw aA);omega
end
section
variable{e:List Nat}{c:I}{d f:O}{g:List fD}{W:Nat}
def Fi(K:∀a∈e,a<c.size){j:List bq}(r:dJ c d f j g)(hW:W<=400000)(hk:vS j g True W):sW 195 [.agg #[O.v d,O.v f]] c e j λx=>vS j x True (W*W):=by
 apply xS;simp -zeta only[aE,aD];intro b T;obtain⟨A,v⟩:=di (a:=b) (c:=T) rfl rfl;have s1:b.size=c.size+1:=by simp[b]
 clear_value T;have aj:=r.gQ.len;have ar:=r.mN;refine(eT (b:=b.size::e) (bG K A.size (v _ E)) (r.le A.le).aT r.types).mono λ_ P⟨ac,o,ae,B⟩=>?_;subst o;refine⟨B.da v,_,rfl,?_⟩;intro Q an ab;have u2:=A.trans B;obtain⟨x5,B0,g0,s3,s5⟩:=jO (b:=Q.size::b.size::e) gH.mono (d:=P) (a:=Q) (c:=an) (h:=ab) rfl rfl rfl;clear_value ab;have w:∀a∈[b.size,c.size],a<P.size:=λa i=>B.lt (v a i);have L:∀a∈b.size::e,a<P.size:=λa i=>B.lt (bG K A.size (v _ E) a i);refine jI (R:=λh p M=>∃d f x,Value.agg #[O.v h,O.v p]=.agg #[O.v d,O.v f]/\dJ (bA e M) d f j x/\vS j x True (W*W)/\J c M) (t:=g.length) (f:=c) (b:=e) gH.mono bd bd K ⟨V,w _ E⟩ u2 s3 ae aj V x5 B0 g0 (λ_ q=>q.params.length<=3/\q.cW.length<=3/\WB j g.length True q.params.length q.body/\q.body.w<=W*W) (λh u N y h1 h2 p s t=>⟨h,u,N,rfl,⟨h1,h2,r.types,V⟩,ET hk.gR p s,t⟩) λam M st N ap μ af aq C Z F ao=>?_
 obtain⟨q,hq⟩:=ag (l:=g) (k:=am) af;obtain⟨ai,ah,al,hw⟩:=hk.df q (au hq);have z:=u2.trans C;obtain⟨av,aw,h,c1,c2,c3,U,X,Y,H,I⟩:=r.gQ.u hq;have G:∀{y:Value}{h s:Nat},D c h s=some y->D M h s=some y:=λu=>z.D u;refine⟨st,F.cy 1,V,V,_,G U,_,G X,_,G Y,_,G H,_,G I,V,V,_,G H,_,G I,?_⟩;have hy:=Z.aY;have ad:=F.lt;have zM:=C.size;refine(BL q.body (st.F::Q.size::b.size::e) M (λa i=>?_) h q.params.length (c3.le z.le) al V).aG C w λss b' M1 ak aa p u1=>⟨_,_,rfl,?_⟩
 ·simp only[aS]at i;rcases i with o|o|o|o
  ·omega
  ·omega
  ·have:=L a (by simp[o]);omega
  ·have:=L a (by simp[o]);omega
 have t:∀{y:Value}{h s:Nat},D c h s=some y->D M1 h s=D M h s:=λu=>by rw[p.D (G u),G u]
 refine⟨t U,t X,t Y,t H,t I,aI (p.same _ (C.lt (w _ E))) _,aI (p.same _ ad) _,?_⟩;exact tR (b:=b.size::e) (v:=ac) (x:=N) L (λa i=>by have h1:=w a i;have h2:=u1.size;omega) u1 (Z.ext gH.mono p) (F.ext p) V (c1.ext (z.trans p)) (c2.ext (z.trans p)) ak ⟨V,V⟩ V λs' M' g' B' x'=>ao s' M' _ g' B' x' ⟨ai,ah,aa.1,bJ aa.2 (NA hw)⟩
def UY(b:Bk):Prop:=∀(e:List Nat)(c:I),(∀a∈e,a<c.size)->∀t:O,dN c t b.aA->b.w<=1000000000000->lX 285 [.agg #[O.v t,vi b.aR]] c e (b=·)
def vG(N:∀i∈e,i<c.size){B D:O}{x:cq}(P:ar c B x.args)(w:mo c D x.bu)(hw:x.w<=1000000000000)(T:∀h∈x.bu,UY h):H9 316 [nv x B D] c e (x=·):=by
 apply zS;simp -zeta only[aE,aD];intro d a A;obtain⟨G,y⟩:=di (a:=d) (c:=a) rfl rfl;have W:d.size=c.size+1:=by simp[d]
 have s1:a.size=c.size+2:=by simp[a,W]
 have Y:J a A:=J.push _ _;have I:GB (d.size::e) a A (.mk a.size 0 0 0) []:=GB.new _ a;clear_value A;clear_value a;have u:∀i∈d.size::e,i<a.size:=bG N G.size (y _ E);have Q:=w.len;have ad:=cq.kN x;have ab:=oG x.bu;refine dC (n:=x.bu.length) (Q▸w.fL) (λz s M=>J a M/\GB (d.size::e) a M s (x.bu.take z)) ⟨Y,I⟩ ?_;rintro z s r aa μ hj ⟨p,q⟩ U
 have o:=G.trans p;have m:∀h∈[d.size,c.size],h<r.size:=λh j=>p.lt (y h j);have S:=q.aY;have Z:=p.size;refine dit (λL=>?_) λL=>?_
 ·obtain⟨h,j⟩:=ag (l:=x.bu) (k:=z) V;obtain⟨X,R,C,H⟩:=w.u j;have ac:=uE j;refine⟨V,V,_,o.D C,_,o.D H,?_⟩;refine(T h (au j) (s.F::d.size::e) r (bG u Z S.2) X (R.le o.le) V).aG (J.aC r) m λss b' F M t g _=>⟨_,_,rfl,?_⟩;subst t;refine GB.jK (c:=h) (q.ext pM.mono g) ((p.trans g).fz []) M bK λf M' K v z2 q2=>⟨J.mU ((p.trans g).aM _) v.ext y,U V _ _ ⟨v.ext,?_⟩⟩;rw[bH j];exact K
 ·rw[bZ V]at q;refine(bE (d.size::e) (P.ext o) V).aG (J.aC r) m λM R F H t g _=>⟨_,rfl,aI (g.same _ (m _ E)) _,aI (g.same _ (m _ E)) _,aI (g.same _ (m _ E)) _,?_⟩;subst t;intro K;have C:Le (bA (d.size::e) F) (bA e K):=bS E λi v=>ai _ v;exact⟨M,s,x,rfl,(H.done (λi v=>by have:=u i v;omega) V).le C,mo.le C ((q.ext pM.mono g).done pM.mono u bd V),rfl,(o.trans g).aj V _ _⟩
def ua:∀j:Bk,UY j:=by
 refine Bk.ind ?_;intro aA h ih e c hS ao C hw;rw[Bk.oV]at hw;simp only[Bk.jd,Bk.iy]at*;apply pE;simp -zeta only[aE,aD];intro f b d F u;obtain⟨N,A⟩:=di (a:=f) (c:=b) rfl rfl;have s0:f.size=c.size+1:=by simp[f]
 have s1:b.size=c.size+2:=by simp[b,s0]
 have s2:d.size=b.size+1:=by simp[d]
 have s3:F.size=d.size+1:=by simp[F]
 have O:J d u:=(J.push d _).aj (ad _) _ _;have ak:J b u:=(J.push b _).trans O;have z:GS (d.size::f.size::e) b u (.mk b.size 0 0 0) []:=(GS.new _ b).ext ft.mono O;have P:cB u d.size cO [.s (.mk b.size 0 0 0),.i h]:=cB.aj (m:=F) (o:=0) (r:=[.s (.mk b.size 0 0 0),.i h]) (cB.push d _ _);clear_value u;have I:∀w∈f.size::e,w<b.size:=bG hS N.size (A _ E);have ah:=C.len;have am:=eW aA;refine dO (n:=aA.length) (ah▸C.fL) (λD M=>J b M/\∃s,GS (d.size::f.size::e) b M s (aA.take D)/\cB M d.size cO [.s s,.i h]) ⟨ak,_,z,P⟩ ?_;rintro D G al μ hk ⟨y,s,q,B⟩ aj
 have g:=N.trans y;have af:∀j∈[f.size,c.size],j<G.size:=λj hb=>y.lt (A j hb);have hy:=q.aY;have z5:=y.size;have H:=B.lt;refine dit (λaa=>?_) λaa=>?_
 ·obtain⟨L,x⟩:=ag (l:=aA) (k:=D) V;obtain⟨pa,pk,ha,ae,z,W,X,Y,Z⟩:=C.u x;have an:=Ml x;refine⟨s,B.cy 0,V,V,_,g.D z,_,g.D W,_,g.D X,_,g.D Y,_,g.D Z,?_⟩;refine(vG (e:=s.F::d.size::f.size::e) (bG (bG I z5 H) (ad _) hy.2) (ha.ext g) (ae.le g.le) V (ih L (au x))).aG (J.aC G) af λQ R x' K ab ac p v _=>⟨_,_,_,_,_,rfl,aI (v.same _ H) _,?_⟩;subst p;intro m7;refine Gr.box (g:=[.i 0,.i 0,.i 0,.s .nil,.s .nil]) (j:=0) (o:=[.s s,.i h]) (y:=L) ft.mono bd (q.ext ft.mono v) ((y.trans v).fz []) ⟨Q,R,rfl,ab,ac⟩ bK (B.ext v) E bd ⟨V,E⟩ (λw t=>by have M:=A w t;have T:=v.size;omega) λr' m' U M T z' q'=>aj V _ ⟨T.ext,r',?_,M⟩
  rw[bH x];exact U
 ·rw[bZ V]at q;refine⟨s,B.cy 0,h,B.cy 1,?_⟩;intro K;have x:=q.ne B bd;have v:Le (bA (d.size::f.size::e) G) (bA e K):=bS E λw t=>ai _ (ai _ t);refine⟨s,.mk aA h,rfl,dN.le v (q.mq ft.mono (λt=>?_) bd (by show aA.length<=_;omega)),rfl,g.aj V _ _⟩;rcases List.mem_cons.1 t with p|p
  ·exact x p
  ·have:=I _ p;omega
def WH(b:Bk):Prop:=∀(c:I)(t:O)(f:Int),dN c t b.aA->ng 317 [.agg #[O.v t,vi b.aR],vi f] c
def Hh:∀d:Bk,WH d:=by
 refine Bk.ind ?_;intro aA aa P c t v p;simp only[Bk.jd,Bk.iy]at*;apply zP;simp -zeta only[aE,aD];intro h;have C:J c h:=J.push _ _;have K:∀d∈[c.size],d<h.size:=by simp[h]
 clear_value h;have N:=p.len;refine dO (n:=aA.length) (N▸p.fL) (λ_ M=>J h M) (J.aC _) ?_;rintro a q E μ hk u S
 have i:=C.trans u;refine⟨λm=>?_,λ_=>rA i⟩;simp only[ao]at m;obtain⟨x,y⟩:=ag (l:=aA) (k:=a) V;obtain⟨pa,z,ha,o,F,G,Z,g3,w⟩:=p.u y;have H:=o.len;have L:∃(j:Int->I->Prop)(μ0_1:Int->I->Nat),j (0:Int) q/\(∀(b:Int)(M:I),j b M->
  (0:Int)<=(a:Int)/\(a:Int)<(t.len:Int)/\∃s:O,D M t.F (t.off+Int.toNat (a:Int)*5+4)=some (O.v s)/\
  ((decide (b<(s.len:Int)))=true->(0:Int)<=(a:Int)/\(a:Int)<(t.len:Int)/\∃e:O,D M t.F (t.off+Int.toNat (a:Int)*5+4)=some (O.v e)/\
   (0:Int)<=b/\b<(e.len:Int)/\∃A:O,D M e.F (e.off+Int.toNat b*2)=some (O.v A)/\∃B:Int,D M e.F (e.off+Int.toNat b*2+1)=some (vi B)/\
   aN bY 317 [.agg #[O.v A,vi B],vi v] M λf g=>dV [c.size] M g/\∃r:Bool,f=vb r/\(r=true->∃d:Bool,vb true=.bool d/\J c g)/\(r=false->j (cK (b+(1:Int))) g/\μ0_1 (cK (b+(1:Int))) g<μ0_1 b M))/\
  ((decide (b<(s.len:Int)))=false->E (cK ((a:Int)+(1:Int))) M/\μ (cK ((a:Int)+(1:Int))) M<μ a q)):=by
  refine dO (n:=x.bu.length) (H▸o.fL) (λ_ M=>J q M) (J.aC _) ?_
  rintro Q M X μ2 hj e R
  have b:=i.trans e
  refine⟨V,V,z,b.D w,λm=>?_,λ_=>S V _ (u.trans e)⟩
  simp only[ao]at m
  obtain⟨d,r⟩:=ag (l:=x.bu) (k:=Q) V
  obtain⟨T,B,s,A⟩:=o.u r
  refine⟨V,V,z,b.D w,V,V,_,b.D s,_,b.D A,?_⟩
  exact(P x (au y) d (au r) M T v (B.le b.le)).aG (u.trans e) K λY g W U=>⟨_,rfl,λ_=>rA (C.trans U),λ_=>R V _ (e.trans W)⟩
 exact⟨V,V,_,i.D F,λ_=>⟨V,V,_,i.D G,λ_=>rA i,λ_=>L⟩,λ_=>L⟩
def Hp{q:List bq}(h:dJ c d f q g)(i:Int):ng 286 [.agg #[O.v d,O.v f],vi i] c:=by
 apply Ad;simp -zeta only[aE,aD];intro a;have m:J c a:=J.push _ _;have u:∀e∈[c.size],e<a.size:=by simp[a]
 clear_value a;have L:=h.gQ.len;have K:=h.mN;refine dO (n:=g.length) V (λ_ M=>J a M) (J.aC _) ?_;rintro w x I μ H o y
 have b:=m.trans o;refine⟨λt=>?_,λ_=>rA b⟩;simp only[ao]at t;obtain⟨z,v⟩:=ag (l:=g) (k:=w) V;obtain⟨M,N,e,C,D,p,E,F,G,r,s⟩:=h.gQ.u v;exact⟨V,V,_,b.D r,_,b.D s,(Hh z.body x e i (p.le b.le)).aG o u λB A P j=>⟨_,rfl,λ_=>rA (m.trans j),λ_=>y V _ j⟩⟩
abbrev Wr(e:List Nat)(a c:I)(s:O)(l:List (List Int)):Prop:=Gr e a c vz 1 ly s l
def DB(hS:∀a∈e,a<c.size){W:List bq}(q:dJ c d f W g)(hp:∀A∈g,A.params.length<=3):
 aN bY 251 [.agg #[O.v d,O.v f]] c λah K=>∃s h,ah=O.v s/\nA (bA e K) s h/\h.length=g.length/\(∀a∈h,a.length<=3)/\J c K:=by
 apply wi
 simp -zeta only[aE,aD]
 intro b z
 have R:J c b:=J.push _ _
 have x:∀B∈[c.size],B<b.size:=by simp[b]
 have ai:J b z:=J.push _ _
 have Z:Wr e b z (.mk b.size 0 0 0) []:=Gr.new e (ad _) _ _ _
 clear_value z
 clear_value b
 have am:=q.gQ.len;have al:=q.mN
 have F:∀a∈e,a<b.size:=λa w=>R.lt (hS a w)
 refine dC (n:=g.length) V (λj s M=>J b M/\∃h,Wr e b M s h/\h.length=j/\∀a∈h,a.length<=3) ⟨ai,[],Z,rfl,E⟩ ?_
 rintro j s L T μ hk ⟨u,h,v,aj,D⟩ ac
 have t:=R.trans u
 have i:=v.aY
 refine dit (λab=>?_) λab=>?_
 ·obtain⟨A,G⟩:=ag (l:=g) (k:=j) V
  obtain⟨ae,an,B,U,c2,c3,X,e1,e2,e3,e4⟩:=q.gQ.u G
  have ak:=hp A (au G)
  have il:∀(M:I)(m:O)(a:List Int),J L M->ar (bA (s.F::e) M) m a->a.length<=3->iS (M.push (.cells (br [.s m]) vz)) vz [.s O.nil] 24 s (O.mk M.size 0 1 1) λP p=>dV [c.size] (M.push (.cells (br [.s m]) vz)) p/\T P (cK ((j:Int)+(1:Int))) p/\μ P (cK ((j:Int)+(1:Int))) p<μ s j L:=λM m a y hf w=>
   Gr.jK (g:=[.s .nil]) ly.mono bd (v.ext ly.mono y) ((u.trans y).fz []) ⟨m,rfl,hf⟩ V λr' p Y C _ _=>⟨J.mU ((u.trans y).aM _) C.ext x,ac V _ _ ⟨C.ext,_,Y,bK,λo i=>by
    rcases List.mem_append.1 i with i|i
    ·exact D o i
    ·simp at i;subst i;exact w⟩⟩
  refine(Hp (q.le t.le) j).aG u x λa m4 o Q=>⟨_,rfl,λ_=>?_,λ_=>⟨V,V,ae,(t.trans o).D X,?_⟩⟩
  ·intro r m6
   exact il r _ [] (o.aM _) (kY _ _ _ _ _ _) E
  ·refine(pT (S:=[]) E (a:=0) ((U.ext (t.trans o)).le (xB _)) V).aG Q x λaf H r aa N x5 u5=>⟨_,rfl,?_⟩
   intro m6
   have hg:GI (s.F::e) m4 r af H:=aa.any
   exact il r _ H (o.trans x5) (hg.done (bG F Q.size (by have:=o.size;omega)) (by have:=N.2;omega)) (by have:=N.2;omega)
 ·exact⟨s,h,rfl,v.done ly.mono F bd V,V,D,t⟩
def WI(a:List bq)(g:List fD)(b:Bk):Prop:=∀(c:I)(d f t:O)(v:Int)(h:Prop)(e:Nat),dJ c d f a g->dN c t b.aA->WB a g.length h e b->ng 287 [.agg #[O.v d,O.v f],.agg #[O.v t,vi b.aR],vi v] c
def xU{E:List bq}:∀b:Bk,WI E g b:=by
 refine Bk.ind ?_;intro aA al ih c d f am ai p ak G v ac;have ae:=ac.bo.1;simp only[Bk.jd,Bk.iy]at*;apply tg;simp -zeta only[aE,aD];intro N y;obtain⟨Q,hl⟩:=di (a:=N) (c:=y) rfl rfl;clear_value y;have aa:=v.len;refine⟨λ_=>rA Q,λ_=>?_⟩;refine dO (n:=aA.length) (aa▸v.fL) (λ_ M=>J y M) (J.aC _) ?_;rintro L r aj μ hk C ah
 have e:=Q.trans C;refine⟨λj=>?_,λ_=>rA e⟩;simp only[ao]at j;obtain⟨x,w⟩:=ag (l:=aA) (k:=L) V;obtain⟨pa,pk,q,t,S,T,U,W,X⟩:=v.u w;have H:=ae L x w;have Y:=q.len;have Z:=t.len;refine⟨V,V,_,e.D S,_,e.D T,_,e.D U,_,e.D W,_,e.D X,?_⟩;intro m3 h;have D:J r h:=(J.push r _).aj (ad _) _ _;have s4:h.size=r.size+1:=by simp[h,m3,az]
 clear_value h;have u:∀b∈[r.size,N.size,c.size],b<h.size:=λb m=>by
  rcases List.mem_cons.1 m with F|F
  ·omega
  ·exact(C.trans D).lt (hl b F)
 refine dO (n:=x.args.length) (Y▸q.fL) (λ_ M=>J h M) (J.aC _) ?_;rintro K O I1 μ1 hj o A;have B:=(e.trans D).trans o;refine⟨λj=>?_,λ_=>?_⟩
 ·simp only[ao]at j;obtain⟨ab,R⟩:=ag (l:=x.args) (k:=K) V;refine⟨V,V,ab,(q.ext B).u R,λ_=>?_,λ_=>A V _ o⟩;refine(vF x.op O).aG o u λp z i I=>⟨_,rfl,λ_=>?_,λ_=>A V _ I⟩;have a:=B.trans i;exact(mw (⟨G.le a.le,q.ext a,H.dY.call⟩:At z d f pa pk E g x) K).aG I u λp m7 s P=>⟨_,rfl,λ_=>rA (a.trans s),λ_=>A V _ P⟩
 ·refine dO (n:=x.bu.length) (Z▸t.fL) (λ_ M=>J O M) (J.aC _) ?_;rintro I z I2 μ2 hi i af;have a:=B.trans i;refine⟨λj=>?_,λ_=>ah V _ (((C.trans D).trans o).trans i)⟩;simp only[ao]at j;obtain⟨b,m⟩:=ag (l:=x.bu) (k:=I) V;obtain⟨tb,ab,M,R⟩:=t.u m;refine⟨V,V,_,a.D M,_,a.D R,?_⟩;exact(ih x (au w) b (au m) z d f tb ai p _ (G.le a.le) (ab.le a.le) (H.bu I b m)).aG (o.trans i) u λp m7 s P=>⟨_,rfl,λ_=>rA (a.trans s),λ_=>af V _ (i.trans s)⟩
def Hr(R:∀i∈e,i<c.size){C:List bq}(t:dJ c d f C g){i:Prop}(S:vS C g i W){D:Nat}{q:fD}(u:g[D]? =some q):jR 252 [.agg #[O.v d,O.v f],vi D] c e λh=>h.length<=q.cW.length:=by
 apply Ae;simp -zeta only[aE,aD];intro a w;have A:J c a:=J.push _ _;have G:∀o∈[c.size],o<a.size:=by simp[a]
 have X:J a w:=J.push _ _;have Q:GI e a w (.mk a.size 0 0 0) []:=GI.nil e a;clear_value w;clear_value a;have af:=t.gQ.len;have aa:=ax u;obtain⟨ae,ac,T,hw⟩:=S.df q (au u);obtain⟨ai,y,o,Z,p,L,e0,r,e2,N,P⟩:=t.gQ.u u;have ah:=p.len;refine dC (n:=q.cW.length) V (λv x M=>J a M/\∃h,GI e a M x h/\h.length<=v) ⟨X,[],Q,ad _⟩ ?_;rintro v x U Y μ ab ⟨K,h,s,F⟩ I
 have b:=A.trans K;refine⟨V,V,y,b.D r,λj=>?_,λj=>⟨x,h,rfl,s.cG (λ_ j=>j) A.size,V,b⟩⟩;simp only[ao]at j;obtain⟨B,H⟩:=ag (l:=q.cW) (k:=v) V;refine⟨V,V,_,b.D N,_,b.D P,V,V,y,b.D r,V,V,B,(p.ext b).u H,?_⟩;refine(xU q.body U d f o B i _ (t.le b.le) (L.le b.le) T).aG K G λcc m4 m z=>⟨_,rfl,λ_=>⟨V,V,y,(b.trans m).D r,V,V,B,(p.ext (b.trans m)).u H,?_⟩,λ_=>I V _ _ ⟨z,h,s.ext m,V⟩⟩;intro m5;exact GI.jK (s.ext m) (z.fz []) (λi F=>A.lt (R i F)) V λf m6 M E _ _=>⟨J.mU (z.aM _) E.ext G,I V _ _ ⟨E.ext,_,M,bK⟩⟩
end
section
variable{b:List Nat}{e:I}{d g:O}{f:List fD}{c:Prop}{W:Nat}
def vK(Y:∀c∈b,c<e.size){lt:O}{x:List bq}{N:List (List Int)}(A:dJ e d g x f)(hW:W<=1000000)(hk:vS x f c W)(ai:nA e lt N)(aT:N.length=f.length)(ax:∀c∈N,c.length<=3):
 sW 250 [.agg #[O.v d,O.v g],O.v lt] e b x λB=>vS x B c W/\B.length=f.length:=by
 apply AE
 simp -zeta only[aE,aD]
 intro j a2
 obtain⟨Q,K⟩:=di (a:=j) (c:=a2) rfl rfl
 have s1:j.size=e.size+1:=by simp[j]
 clear_value a2
 have aB:=A.gQ.len;have aV:=A.mN
 refine(eT (b:=j.size::b) (bG Y Q.size (K _ E)) (A.le Q.le).aT A.types).mono λ_ ab⟨dd,h,av,T⟩=>?_
 subst h
 refine⟨T.da K,_,rfl,?_⟩
 intro u aL an
 have u2:=Q.trans T
 obtain⟨x5,B0,g0,s3,s5⟩:=jO (b:=u.size::j.size::b) gH.mono (d:=ab) (a:=u) (c:=aL) (h:=an) rfl rfl rfl
 clear_value an
 have aa:∀c∈[j.size,e.size],c<ab.size:=λc o=>T.lt (K c o)
 have ah:∀c∈j.size::b,c<ab.size:=λc o=>T.lt (bG Y Q.size (K _ E) c o)
 refine jI (R:=λp q M=>∃d g B,Value.agg #[O.v p,O.v q]=.agg #[O.v d,O.v g]/\dJ (bA b M) d g x B/\(vS x B c W/\B.length=f.length)/\J e M) (t:=f.length) (f:=e) (b:=b) gH.mono bd bd Y ⟨V,aa _ E⟩ u2 s3 av aB V x5 B0 g0 (λ_ q=>q.params.length<=3/\q.cW.length<=3/\WB x f.length c q.params.length q.body/\q.body.w<=W) (λr r' al m' h1 H p s t=>⟨r,r',al,rfl,⟨h1,H,A.types,V⟩,⟨ET hk.gR p s,p⟩,t⟩) λak M v al aO μ aw aR xM af U aM=>?_
 obtain⟨q,hq⟩:=ag (l:=f) (k:=ak) aw
 obtain⟨aA,aQ,aG,hw⟩:=hk.df q (au hq)
 have v6:=u2.trans xM
 obtain⟨aX,aY,s,c1,c2,c3,e0,e1,e2,e3,e4⟩:=A.gQ.u hq
 have G:∀{ao:Value}{s z:Nat},D e s z=some ao->D M s z=some ao:=λF=>v6.D F
 refine⟨V,V,_,G e0,_,G e1,_,G e2,_,G e3,_,G e4,?_⟩
 intro m7 p
 have hy:=af.aY
 have aP:=U.lt
 have zM:=xM.size
 have x8:J M p:=(J.push M _).aj (ad _) _ _
 have s8:p.size=M.size+1:=by simp[p,m7,az]
 clear_value p
 have L:∀c∈[M.size,j.size,e.size],c<p.size:=λc o=>by
  rcases List.mem_cons.1 o with h|h
  ·omega
  ·have:=aa c h;omega
 have C:=v6.trans x8
 have t:∀{M1 M2:I},J p M1->J p M2->∀s,s<p.size->∀z,D M2 s z=D M1 s z:=λF h' s hb z=>aI (by rw[h'.same s hb,F.same s hb]) z
 have y:M.size<p.size:=V
 have i2:u.size<p.size:=V
 obtain⟨ae,aj⟩:=ag (l:=N) (k:=ak) V
 obtain⟨yt,aJ,X⟩:=ai.u aj
 have aH:=ax ae (au aj)
 have aU:=ai.len
 have Z:∀{M':I},p.size<=M'.size->∀c∈v.F::u.size::j.size::b,c<M'.size:=λF c o=>by
  simp only[aS]at o;rcases o with h|h|h|h
  ·omega
  ·omega
  ·have:=ah c (by simp[h]);omega
  ·have:=ah c (by simp[h]);omega
 refine⟨v,(U.ext x8).cy 1,V,V,yt,C.D X,?_⟩
 refine(bE (v.F::u.size::j.size::b) (c1.ext C) V).aG (J.aC p) L λp' _ m9 gp h r _=>⟨_,rfl,t (J.aC _) r _ y _,t (J.aC _) r _ y _,t (J.aC _) r _ y _,?_,t (J.aC _) r _ i2 _,?_⟩
 ·exact((C.trans r).D X).trans (C.D X).symm
 subst h
 refine(bE (v.F::u.size::j.size::b) (aJ.ext (C.trans r)) V).aG r L λt' _ aK gt h ap w=>⟨_,rfl,t r w _ y _,t r w _ y _,t r w _ y _,t r w _ i2 _,?_⟩
 subst h
 have z9:=r.size;have vP:=ap.size
 have aN:=C.trans w
 refine(ua q.body (v.F::u.size::j.size::b) aK (Z V) s (c3.le aN.le) V).aG w L λss b' am aC h aq P=>⟨_,_,rfl,t w P _ y _,t w P _ i2 _,?_⟩
 subst h
 intro aW
 have ac:=x8.trans P
 have aZ:=P.size
 have ay:ar (bA (v.F::u.size::j.size::b) am) p' q.params:=(gp.done (Z V) V).le ((ap.trans aq).cJ _)
 have aF:ar (bA (v.F::u.size::j.size::b) am) t' ae:=(gt.done (Z V) V).le (aq.cJ _)
 exact Gr.box (g:=[.s .nil,.s .nil,.i 0,.s .nil,.i 0]) (j:=1) (z:=88) (o:=[.s dd,.s v]) (y:=⟨q.params,ae,q.aR,q.body⟩) gH.mono bd (af.ext gH.mono ac) ((xM.trans ac).fz []) ⟨p',t',ss,rfl,ay,aF,aC⟩ V (U.ext ac) E bd ⟨V,E⟩ (λc o=>by have h1:=L c o;have H:=aa c;simp only[aS]at o H;rcases o with h|h|h|h<;>first|omega|(have:=H (by simp[h]);omega)|simp at h) λr' m' g' H f' z' q'=>aM r' m' _ g' H f'.ext ⟨aA,aH,aG,hw⟩
def Hw(hS:∀c∈b,c<e.size){F:List bq}(hn:dJ e d g F f)(hW:W<=1000000)(hk:vS F f c W):sW 236 [.agg #[O.v d,O.v g]] e b F λw=>vS F w c W:=by
 apply Ah;simp -zeta only[aE,aD];intro p h;obtain⟨x2,Q⟩:=di (a:=p) (c:=h) rfl rfl;have s1:p.size=e.size+1:=by simp[p]
 have s2:h.size=e.size+2:=by simp[h,s1]
 clear_value h;have aJ:=hn.gQ.len;have aG:=hn.mN;have al:∀c∈p.size::b,c<h.size:=bG hS x2.size (Q _ E);have u:∀{M v:I},J h M->J h v->∀af,D v e.size af=D M e.size af:=λx h' af=>aI (by rw[h'.same _ (Q _ E),x.same _ (Q _ E)]) af;have tail:∀(Y:I)(a:Nat)(C B:O)(H:List fD),J h Y->h.size<=a->cB Y a lK [.s C,.s B]->dJ (bA (a::p.size::b) Y) C B F H->vS F H c W->
  ∃(I0:Int->I->Prop)(μ0:Int->I->Nat),I0 (0:Int) Y/\(∀(s:Int)(y:I),I0 s y->
   ((decide (s<=(12:Int)))=true->
    let m7:I:=y.push (.cells (br []) vz)
    ∃(G:O->Int->I->Prop)(μ1:O->Int->I->Nat),G (O.mk y.size 0 0 0) (0:Int) m7/\(∀(z:O)(A:Int)(j:I),G z A j->
     ∃L:O,D j a 1=some (O.v L)/\
     ((decide (A<(L.len:Int)))=true->∃i:O,D j a 0=some (O.v i)/\∃q:O,D j a 1=some (O.v q)/\
      aN bY 252 [.agg #[O.v i,O.v q],vi A] j λr2 t=>dV [p.size,e.size] j t/\∃X:O,r2=O.v X/\
       let ac:I:=t.push (.cells (br [.s X]) vz)
       iS ac vz [.s O.nil] 24 z (O.mk t.size 0 1 1) λN K=>dV [p.size,e.size] ac K/\G N (cK (A+(1:Int))) K/\μ1 N (cK (A+(1:Int))) K<μ1 z A j)/\
     ((decide (A<(L.len:Int)))=false->∃i:O,D j a 0=some (O.v i)/\∃q:O,D j a 1=some (O.v q)/\
      aN bY 250 [.agg #[O.v i,O.v q],O.v z] j λP T=>dV [p.size,e.size] j T/\∃K:O,∃N:O,P=.agg #[O.v K,O.v N]/\fm T a 0 2/\
       let U:I:=aj T a 0 [.s K,.s N]
       dV [p.size,e.size] T U/\I0 (cK (s+(1:Int))) U/\μ0 (cK (s+(1:Int))) U<μ0 s y)))/\
   ((decide (s<=(12:Int)))=false->∃i:O,D y a 0=some (O.v i)/\∃q:O,D y a 1=some (O.v q)/\
    let ae:I:=aj y p.size 0 [.s i,.s q]
    ∃d g w,Value.agg #[O.v i,O.v q]=.agg #[O.v d,O.v g]/\dJ (bA b ae) d g F w/\vS F w c W/\J e ae)):=by
  intro Y a C B H hx aw hB hN Z
  refine dO (n:=13) V (λ_ M=>J h M/\∃C B H,cB M a lK [.s C,.s B]/\dJ (bA (a::p.size::b) M) C B F H/\vS F H c W) ⟨hx,C,B,H,hB,hN,Z⟩ ?_
  rintro aL y aB μ aF ⟨x6,C,B,H,R,N,K⟩ aA
  have aC:=R.lt
  have aK:=N.gQ.len
  have aH:=N.mN
  refine⟨λx=>?_,λx=>?_⟩
  ·simp only[ao]at x
   intro m7
   have aq:J y m7:=J.push _ _
   have g0:Wr [] y m7 (.mk y.size 0 0 0) []:=Gr.new _ (ad _) _ _ _
   refine dC (n:=H.length) V (λA s M=>J y M/\∃i,Wr [] y M s i/\i.length=A/\∀c∈i,c.length<=3) ⟨aq,[],g0,rfl,E⟩ ?_
   rintro A s j I2 μ2 hf ⟨L,i,ab,ar,G⟩ an
   have u8:=x6.trans L
   have N8:=N.le (L.cJ _)
   refine⟨B,(R.ext L).cy 1,dit (λP=>?_) λP=>?_⟩
   ·obtain⟨aa,hq⟩:=ag (l:=H) (k:=A) V
    have am:=(K.df aa (au hq)).2.1
    have q:=ab.aY
    refine⟨C,(R.ext L).cy 0,B,(R.ext L).cy 1,?_⟩
    refine(Hr (e:=[s.F]) bK (N8.le (bt _ _)) K hq).aG u8 Q λX ap t ah av x9 u9=>⟨_,rfl,?_⟩
    intro ac
    refine Gr.jK (g:=[.s .nil]) ly.mono bd (ab.ext ly.mono x9) ((L.trans x9).fz []) ⟨X,rfl,ah.done bK V⟩ V λz v g' f' _ _=>⟨J.mU (u9.aM _) (x6.trans f'.ext) Q,an V _ _ ⟨f'.ext,_,g',bK,λak q=>?_⟩⟩
    rcases List.mem_append.1 q with q|q
    ·exact G ak q
    ·simp at q;subst q;omega
   ·refine⟨C,(R.ext L).cy 0,B,(R.ext L).cy 1,?_⟩
    have ak:nA j s i:=dW.le (ab.done ly.mono E bd V) (bt _ _) (ly.le (bt _ _))
    have z8:=L.size;have z6:=x6.size
    refine(vK (b:=a::p.size::b) (λc t=>?_) (N8.le (bt _ _)) hW K ak V G).mono λ_ T⟨d2,r2,ap,q,N2,⟨K2,_⟩,ac⟩=>?_
    ·rcases List.mem_cons.1 t with q|q
     ·omega
     ·have:=al c q;omega
    subst q
    have ah:=(R.ext L).ext ac
    refine⟨u8.Si Q ac,_,_,rfl,ah.fm E,?_⟩
    intro U
    have am:∀X,X≠a->U[X]? =T[X]? :=λX hb=>bh _ _ _ _ hb
    refine⟨λc t=>am c (by have:=Q c t;omega),aA V _ ⟨(u8.trans ac).aj aw _ _,d2,r2,ap,cB.aj (m:=T) (o:=0) (r:=[.s d2,.s r2]) ah,N2.le (bS E λ_ x=>x),K2⟩⟩
  ·refine⟨C,R.cy 0,B,R.cy 1,?_⟩
   intro ae
   exact⟨C,B,H,rfl,(N.le (gJ y λc t=>ai _ t)).le (bS E λc t=>ai _ t),K,(x2.trans x6).aj V _ _⟩
 have ax:∀aa∈f,aa.params.length<=3:=λaa hq=>(hk.df aa hq).1;have an:∀(M:I)(U:List Nat)(K:Value->I->Prop),J h M->(∀c∈U,c<M.size)->(∀s i v,nA v s i->i.length=f.length->(∀c∈i,c.length<=3)->J M v->K (O.v s) v)->aN bY 251 [.agg #[O.v d,O.v g]] M λam m'=>dV U M m'/\K am m':=λM U K hx hL Z=>
  (DB (e:=[]) E (hn.le (x2.trans hx).le) ax).mono λ_ v⟨s,i,q,T,P,G,ab⟩=>⟨ab.da hL,q▸Z s i v (dW.le T (bt _ _) (ly.le (bt _ _))) P G ab⟩
 have cW:∀(M:I)(S' U:List Nat)(K:Value->I->Prop)(s:O)(i:List (List Int)),J h M->(∀c∈U,c<M.size)->(∀c∈S',c<M.size)->nA M s i->i.length=f.length->(∀c∈i,c.length<=3)->(∀A z w v,dJ (bA S' v) A z F w->vS F w c W->J M v->K (.agg #[O.v A,O.v z]) v)->aN bY 250 [.agg #[O.v d,O.v g],O.v s] M λam m'=>dV U M m'/\K am m':=λM S' U K s i hx hL av T P G Z=>
  (vK av (hn.le (x2.trans hx).le) hW hk T P G).mono λ_ v⟨A,z,w,q,N,⟨K1,_⟩,ab⟩=>⟨ab.da hL,q▸Z A z w v N K1 ab⟩
 have ap:∀{M:I}{a:Nat},J h M->a<M.size->∀c∈a::p.size::b,c<M.size:=λx hb c t=>by
  have:=x.size;rcases List.mem_cons.1 t with q|q
  ·omega
  ·have:=al c q;omega
 have ak:∀{M:I}{a:Nat},J h M->a<M.size->∀c∈[a,p.size,e.size],c<M.size:=λx hb c t=>by
  rcases List.mem_cons.1 t with q|q
  ·omega
  ·exact x.lt (Q c q)
 refine⟨an h _ _ (J.aC _) Q λs i ae T P G j=>⟨_,rfl,u (J.aC _) j _,u (J.aC _) j _,⟨?_,?_⟩⟩,?_⟩
 ·refine cW ae (p.size::b) _ _ s i j (λc t=>j.lt (Q c t)) (λc t=>j.lt (al c t)) T P G λA z w m3 N K X=>⟨_,_,rfl,?_⟩;have L:=j.trans X;intro m4;have u4:J h m4:=L.aM _;refine⟨u L u4 _,u L u4 _,u L u4 _,u L u4 _,?_⟩;intro m5;have ac:J m3 m5:=(J.push m3 _).aj (ad _) _ _;exact tail m5 m3.size A z w (L.trans ac) L.size (cB.aj (m:=m4) (o:=0) (r:=[.s A,.s z]) (cB.push m3 _ _)) (N.le (ac.bA λc t=>by
   rcases List.mem_cons.1 t with q|q
   ·exact Or.inr V
   ·exact Or.inl q)) K
 ·intro ac;have L:J h ac:=j.aM _;refine⟨u j L _,u j L _,u j L _,u j L _,?_⟩;refine cW ac (ae.size::p.size::b) _ _ s i L (ak L (by simp[ac])) (ap L (by simp[ac])) (nA.ext (J.push _ _) T) P G λA z w ah N K X=>⟨_,_,rfl,?_⟩;intro aq;exact tail aq ae.size A z w ((L.trans X).aj j.size _ _) j.size (cB.aj (m:=ah) (o:=0) (r:=[.s A,.s z]) ((cB.push ae _ _).ext X)) (N.le (bS E λ_ x=>x)) K
 ·intro ac;have L:J h ac:=J.push _ _;refine⟨u (J.aC _) L _,u (J.aC _) L _,u (J.aC _) L _,u (J.aC _) L _,?_⟩;refine an ac _ _ L (ak L (by simp[ac])) λs i ar T P G j=>⟨_,rfl,u L (L.trans j) _,u L (L.trans j) _,?_⟩;have ah:=L.trans j;have aq:h.size<ar.size:=j.lt (by simp[ac]);refine cW ar (h.size::p.size::b) _ _ s i ah (ak ah aq) (ap ah aq) T P G λA z w ay N K X=>⟨_,_,rfl,?_⟩;intro az;exact tail az h.size A z w ((ah.trans X).aj (ad _) _ _) (ad _) (cB.aj (m:=ay) (o:=0) (r:=[.s A,.s z]) ((cB.push h _ _).ext (j.trans X))) (N.le (bS E λ_ x=>x)) K
end
section
variable{w:Int}{r:List Int}
structure bM where
 aQ:Int
 lp:Int
 aK:List Int
structure aZ where
 eS:Int
 pc:Int
 dst:Int
 av:List Int
 aW:List Int
 bn:List Int
structure St where
 cL:Int
 value:Int
 bI:Int
 dK:Int
 bo:List Int
 heap:List bM
 ak:List aZ
def u(l:List Int)(i:Int):Int:=l.getD i.toNat 0
def gU(l:List Int)(i:Int)(v:Int):List Int:=l.set i.toNat v
def ix(w:Int):Nat:=(w -1000).toNat
def gA(w:Int):Prop:=-999<=w/\w<=999
def jB(h:List bM)(a:Nat):Prop:=∃c,h[a]? =some c/\0<c.aQ
def jc(h:List bM)(w:Int):Prop:=1000<=w/\jB h (ix w)
def oL(h:List bM)(w:Int):Prop:=gA w\/jc h w
def jx:bM:=⟨0,0,[]⟩
def aX(h:List bM)(w:Int):bM:=(h[ix w]?).getD jx
def XG:cY:=⟨[],[],0,0,[]⟩
def dF(a:cD)(n:Int):cY:=(a.cA[n.toNat]?).getD XG
def fF(a:cD):Int:=(eC a.aT).length
def dS:List Int->Nat->Int
 |[],_=>0
 |w::b,a=>(if w=1000+(a:Int)then 1 else 0)+dS b a
def dq:List bM->Nat->Int
 |[],_=>0
 |c::h,a=>dS c.aK a+dq h a
def cz:List Int->List Int->Nat->Int
 |r::c,o::b,a=>(if r=1000+(a:Int)then o else 0)+cz c b a
 |_,_,_=>0
def dD:List aZ->Nat->Int
 |[],_=>0
 |f::b,a=>cz f.av f.aW a+dD b a
def holds:List aZ->Nat->Int
 |[],_=>0
 |f::b,a=>dS f.bn a+holds b a
def mQ(a:cD)(x:Instr)(k:Nat):Bool:=(dF a x.bL).cW.any (λy=>y==(k:Int))
def iZ(a:cD)(x:Instr):Nat->List Int->List Int
 |_,[]=>[]
 |k,r::b=>if mQ a x k then iZ a x (k+1) b else r::iZ a x (k+1) b
def lE(a:cD)(x:Instr):Nat->List Int->List Int
 |_,[]=>[]
 |k,r::b=>if mQ a x k then r::lE a x (k+1) b else lE a x (k+1) b
def dp(a:cD)(x:Instr):List Int:=
 if x.op=15\/x.op=6\/x.op=10\/x.op=11\/x.op=18\/x.op=23 then x.args
 else if x.op=16\/x.op=17 then x.args.take 1
 else if x.op=9\/x.op=24 then iZ a x 0 x.args
 else[]
def dx(av aW:List Int):List Int->List Int
 |[]=>aW
 |r::a=>dx av (if 1000<=u av r then gU aW r (u aW r -1)else aW) a
def dh(f:aZ)(a:List Int):List Int:=a.map (u f.av)
def pR(l:List Int):List Int:=l.filter (λw=>decide (1000<=w))
def mZ(h:List bM)(a:List Int):Prop:=∀w∈a,1000<=w->(aX h w).aQ+dS a (ix w)<=999999
def Lr(h:List bM)(f:aZ)(x:Instr):Prop:=
 let w:=u f.av (u x.args 0)
 jc h w/\pR (aX h w).aK=dh f (x.args.drop 1)/\((aX h w).aQ=1\/mZ h (aX h w).aK)/\(x.op=17->u f.bn (u x.args 0)=0)
def CL(a:cD)(h:List bM)(w:Int):Prop:=
 jc h w/\0<=(aX h w).lp -fF a/\(aX h w).lp -fF a<a.cA.length/\
  (dF a ((aX h w).lp -fF a)).params.length=(aX h w).aK.length+1/\(dF a ((aX h w).lp -fF a)).cW.length=0/\
  ((aX h w).aQ=1\/mZ h (aX h w).aK)
def Ib(h:List bM)(f:aZ)(x:Instr):Prop:=
 x.bV≠0->u f.bn (x.bV -1)≠0->(aX h (u f.bn (x.bV -1))).aK.length=x.args.length
def MH(a:cD)(h:List bM)(f:aZ)(x:Instr):Prop:=∀r∈lE a x 0 x.args,1000<=u f.av r->jc h (u f.av r)
def RF(l:List Int):Prop:=∀n∈l,n=0
structure sX(im:cD)(s:St)(f:aZ)(x:Instr)(aW:List Int):Prop where
 nn:∀o∈aW,0<=o
 dst:kE x.op->u aW x.dst<=0
 ov:(x.op=1\/x.op=2\/x.op=3\/x.op=4\/x.op=5\/x.op=20)->∀r∈x.args,u f.av r<1000
 lg:x.op=6->Ib s.heap f x
 cW:(x.op=9\/x.op=24)->MH im s.heap f x
 zero:(x.op=24\/x.op=23)->RF aW/\RF f.bn
 ret:x.op=23->1<s.ak.length\/u f.av (u x.args 0)<1000
 apply:x.op=11->CL im s.heap (u f.av (u x.args 0))
 Wv:x.op=14->jc s.heap (u f.av (u x.args 0))/\(aX s.heap (u f.av (u x.args 0))).aQ<999999
 drop:x.op=15->1000<=u f.av (u x.args 0)
 Q0:(x.op=16\/x.op=17)->Lr s.heap f x
 load:x.op=19->jc s.heap (u f.av (u x.args 0))/\x.bL<(aX s.heap (u f.av (u x.args 0))).aK.length
 Mm:x.op=21->jc s.heap (u f.av (u x.args 0))/\(aX s.heap (u f.av (u x.args 0))).lp∈bU im.aT x.bL
def Im(n:Int):Int:=if n< -999 then -999 else if 999<n then 999 else n
def Q5(c a b:Int):Int:=
 if c=1 then Im (a+b)else if c=2 then Im (a -b)else if c=3 then Im (a*b)else if c=4/\a<b then 1 else 0
def eK:List bM->Nat
 |[]=>0
 |c::h=>if c.aQ=0 then 0 else eK h+1
def lg(h:List bM)(a:Nat)(c:bM):List bM:=if a=h.length then h++[c]else h.set a c
def nJ(h:List bM)(w:Int):List bM:=h.set (ix w) {aX h w with aQ:=(aX h w).aQ+1}
def fG(h:List bM)(w:Int):List bM:=h.set (ix w) {aX h w with aQ:=(aX h w).aQ -1}
def jZ(h:List bM):List Int->List bM
 |[]=>h
 |w::a=>jZ (nJ h w) a
def jS(h:List bM):Nat->Nat
 |0=>0
 |n+1=>match h[n]? with
  |some c=>if c.aQ=0 then jS h n else n+1
  |none=>jS h n
def p7(h:List bM):List bM:=h.take (jS h h.length)
def GW:List bM->Nat
 |[]=>0
 |c::h=>(if 0<c.aQ then c.aQ.toNat+c.aK.length else 0)+GW h
def lB:∀{e:List bM}{f:Nat}{b d:bM},e[f]? =some b->GW (e.set f d)+(if 0<b.aQ then b.aQ.toNat+b.aK.length else 0)=GW e+(if 0<d.aQ then d.aQ.toNat+d.aK.length else 0)
 |[],f,b,d,e=>by simp at e
 |i::e,0,b,d,g=>by simp at g;subst g;simp only[ig,GW];omega
 |i::e,f+1,b,d,g=>by
  have:=lB (e:=e) (f:=f) (b:=b) (d:=d) (by simpa using g);simp only[ic,GW];omega
def cp{h:List bM}(b:jc h w):h[ix w]? =some (aX h w)/\0<(aX h w).aQ:=by
 obtain⟨_,d,a,c⟩:=b;simp[aX,a,c]
open Classical in
noncomputable def iC (h:List bM) (c:List Int):List bM:=
 match c with
 |[]=>h
 |w::r=>
  if b:jc h w then
   if a:(aX h w).aQ=1 then iC (h.set (ix w) jx) ((aX h w).aK.reverse++r)
   else iC (fG h w) r
  else iC h r
termination_by GW h+c.length
decreasing_by
 ·obtain⟨e,a⟩:=cp b
  have:=lB (d:=jx) e
  simp only[jx,aq a]at this
  simp[jx]
  simp at this
  omega
 ·obtain⟨e,a⟩:=cp b
  have b:=lB (d:={aX h w with aQ:=(aX h w).aQ -1}) e
  simp only[aq a]at b
  rw[aq V]at b
  simp[fG]
  omega
 ·simp
def zg(h:List bM):iC h []=h:=by rw[iC]
def zh{h:List bM}(b:jc h w)(a:(aX h w).aQ=1):iC h (w::r)=iC (h.set (ix w) jx) ((aX h w).aK.reverse++r):=by
 rw[iC,Qa b,Qa a]
def uI{h:List bM}(b:jc h w)(a:(aX h w).aQ≠1):iC h (w::r)=iC (fG h w) r:=by
 rw[iC,Qa b,dif_neg a]
def uJ{h:List bM}(a:¬jc h w):iC h (w::r)=iC h r:=by
 rw[iC,dif_neg a]
def aZ.put(f:aZ)(r w o:Int):aZ:={f with av:=gU f.av r w,aW:=gU f.aW r o}
def iV(w:Int):Int:=if 1000<=w then 1 else 0
def eL(aW:List Int):List Int->List Int
 |[]=>aW
 |r::a=>eL (gU aW r (u aW r+1)) a
def fH(n:Nat):List Int:=List.replicate n 0
def gN(cW:List Int):Nat->List Int->List Int
 |_,[]=>[]
 |k,w::a=>(if cW.any (λy=>y==(k:Int))then 0 else iV w)::gN cW (k+1) a
def cw(a:cD)(g c:Int)(b:List Int):aZ:=
 ⟨g,0,c,b++fH ((dF a g).av.toNat -b.length),gN (dF a g).cW 0 b++fH ((dF a g).av.toNat -b.length),fH (dF a g).av.toNat⟩
open Classical in
noncomputable def apart (h:List bM) (w:Int):List bM:=
 if(aX h w).aQ=1 then p7 (h.set (ix w) jx)else jZ (fG h w) (pR (aX h w).aK)
def Da(l:List Int)(n:Int):Nat:=l.findIdx (λy=>y==n)
open Classical in
noncomputable def jg (b:cD) (s:St) (a:List aZ) (f:aZ) (x:Instr) (aW:List Int):St:=
 let g:aZ:={f with aW:=aW,pc:=f.pc+1}
 let c:=u x.args 0
 let w:=u f.av c
 if x.op=0 then{s with ak:=a++[g.put x.dst x.bL 0]}
 else if x.op=1\/x.op=2\/x.op=3\/x.op=4 then{s with ak:=a++[g.put x.dst (Q5 x.op w (u f.av (u x.args 1))) 0]}
 else if x.op=5 then{s with bo:=s.bo++[w],ak:=a++[g.put x.dst w 0]}
 else if x.op=6 then
  if x.bV≠0/\u f.bn (x.bV -1)≠0 then
   {s with heap:=s.heap.set (ix (u f.bn (x.bV -1))) ⟨1,x.bL,dh f x.args⟩,ak:=a++[{g with bn:=gU f.bn (x.bV -1) 0}.put x.dst (u f.bn (x.bV -1)) 1]}
  else{s with heap:=lg s.heap (eK s.heap) ⟨1,x.bL,dh f x.args⟩,ak:=a++[g.put x.dst (1000+eK s.heap) 1]}
 else if x.op=10 then{s with heap:=lg s.heap (eK s.heap) ⟨1,fF b+x.bL,dh f x.args⟩,ak:=a++[g.put x.dst (1000+eK s.heap) 1]}
 else if x.op=14 then{s with heap:=nJ s.heap w,ak:=a++[{g with aW:=gU aW c (u aW c+1)}]}
 else if x.op=15 then{s with heap:=p7 (iC s.heap [w]),ak:=a++[g]}
 else if x.op=16\/x.op=17 then
  let d:={g with aW:=eL aW (x.args.drop 1)}
  if(aX s.heap w).aQ=1/\x.op=17 then{s with heap:=s.heap.set (ix w) ⟨-1,0,fH (aX s.heap w).aK.length⟩,ak:=a++[{d with bn:=gU f.bn c w}]}
  else{s with heap:=apart s.heap w,ak:=a++[d]}
 else if x.op=18 then{s with ak:=a++[g.put x.dst w (iV w)]}
 else if x.op=19 then{s with ak:=a++[g.put x.dst (u (aX s.heap w).aK x.bL) 0]}
 else if x.op=20 then{s with ak:=a++[{g with pc:=if w=0 then x.bL else f.pc+1}]}
 else if x.op=21 then{s with ak:=a++[{g with pc:=u x.dR (Da (bU b.aT x.bL) (aX s.heap w).lp)}]}
 else if x.op=22 then{s with ak:=a++[{g with pc:=x.bL}]}
 else if x.op=9 then{s with bI:=s.bI+1,ak:=a++[g,cw b x.bL x.dst (dh f x.args)]}
 else if x.op=24 then{s with bI:=s.bI+1,ak:=a++[cw b x.bL f.dst (dh f x.args)]}
 else if x.op=11 then
  {s with bI:=s.bI+1,heap:=apart s.heap w,ak:=a++[g,cw b ((aX s.heap w).lp -fF b) x.dst ((aX s.heap w).aK++[u f.av (u x.args 1)])]}
 else -- 23
  match a.getLast? with
  |none=>{s with cL:=0,value:=w,ak:=[]}
  |some p=>{s with ak:=a.dropLast++[p.put f.dst w (iV w)]}
def uP(a:Int):Prop:=a=9\/a=11\/a=24
instance(a:Int):Decidable (uP a):=by unfold uP;infer_instance
def eZ(a:cD)(f:aZ):Instr:=((dF a f.eS).cE[f.pc.toNat]?).getD ⟨0,0,0,0,[],[]⟩
open Classical in
noncomputable def rG (a:cD) (s:St):St:=
 if s.cL≠3 then s else
 match s.ak.getLast? with
 |none=>s
 |some f=>
  if uP (eZ a f).op/\s.bI=s.dK then{s with cL:=1}
  else if sX a s f (eZ a f) (dx f.av f.aW (dp a (eZ a f)))then
   jg a s s.ak.dropLast f (eZ a f) (dx f.av f.aW (dp a (eZ a f)))
  else{s with cL:=2}
end
end Go.Proofs.YtgnjacfobdjeeaaGreat
