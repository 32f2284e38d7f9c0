/- Part of a proof, joined by a program. -/
import Derived.Test.YtgnjacfobdjeeaaGreatW07
import Derived.Test.YtgnjacfobdjeeaaGreatW08
set_option linter.unusedVariables false
set_option linter.unusedSimpArgs false
set_option linter.defProp false
set_option linter.constructorNameAsVariable false
set_option maxHeartbeats 8000000
set_option maxRecDepth 100000
namespace Go.Proofs.YtgnjacfobdjeeaaGreat
open Go.Vc
structure Y6(ds:List bB)(nr:Nat)(v lm:List Int)(b:Bk):Prop where
 aR:∀o∈lm,0<=o/\o<(v.length:Int)
 lN:lm.length+5*b.w<=1000000
 vN:v.length+5*b.w<=1000000
 wb:WB ds nr False v.length b
def W3(a:List bB)(d:List gC)(b:Bk):Prop:=∀(S:List Nat)(m:I),(∀c∈S,c<m.size)->∀(f r h t g:O)(v c:List Int),eD m f r a d->ap m h v->eI m t b.aA->ap m g c->Y6 a d.length v c b->
 nk 238 [.agg #[O.v f,O.v r],O.v h,.agg #[O.v t,vi b.aV],O.v g] m S λe=>WB a d.length True v.length e/\e.w+20<=40*b.w+2*c.length
def Jh{q:List Nat}{m:I}(hS:∀c∈q,c<m.size){ah an az aX P:O}{K:List bB}{rs:List gC}{v:List Int}{x:cR}(hn:eD m ah an K rs)(hv:ap m az v)(ha:ap m aX x.args)(hk:nD m P x.bE)
 (vN:v.length+5*x.w<=1000000)(aL:WS K rs.length False v.length x)(ih:∀h∈x.bE,W3 K rs h):
 JN 258 [.agg #[O.v ah,O.v an],O.v az,oW x aX P] m q λx'=>WS K rs.length True v.length x'/\x'.op=x.op/\x'.w<=1+x.args.length+40*bw x.bE:=by
 apply Ck
 simp -zeta only[aD,aC]
 intro H e o a4
 obtain⟨R,L,s0,s1,s2⟩:=pX (a:=H) (b:=e) (c:=o) rfl rfl rfl
 have a9:J o a4:=J.push _ _
 have gk:=GB.new (e.size::q) o
 clear_value o
 have bs:=ha.len;have bk:=hk.len;have hw:=cR.mf x;have bC:=JX x.bE;have bo:=hv.len
 have aK:∀c∈e.size::q,c<o.size:=bR hS R.size (L _ D)
 refine(gU (e:=[o.size]) (by simp[a4]) (hn.le (R.trans a9).le).aT hn.types x.bN).aI a9 L λc cl m4 d aR x4 u4=>⟨_,rfl,?_⟩
 subst aR
 have bE:=d.len
 refine dU (n:=x.bE.length) (bk▸hk.fS) (λj s M=>Fz [o.size] m4 M/\(s.F=o.size\/m4.size<=s.F)/\∃r,GB (e.size::q) o M s r/\r.length=j/\(∀(aa:Nat)(h:Bk),r[aa]? =some h->WB K rs.length True (v.length+Be K x.op x.bN aa) h)/\bw r<=40*bw (x.bE.take j)) ⟨Fz.aB _ _,Or.inl rfl,[],gk.ext rC.mono x4,rfl,D,D⟩ ?_
 rintro j s m5 aW μ hj ⟨f5,bm,r,G,bF,a3,aZ⟩ bq
 have Q:=U7 u4 f5 (ad _)
 have hy:=G.bg
 refine dit (λy=>?_) λy=>?_
 ·intro m6
  have x6:J m5 m6:=J.push _ _
  have u6:=Q.trans x6
  obtain⟨h,T⟩:=ag (l:=x.bE) (k:=j) V
  have bx:=wH T
  have bA:=ue T
  have bt:=PQ hn.types x.op x.bN j
  have bv:=pY x.bE
  refine⟨λaY M=>J m5 M/\∃E,ap M aY E/\E.length=Be K x.op x.bN j,⟨λh8=>?_,λh8=>?_⟩,?_⟩
  ·simp only[aF]at h8
   have i:=(aL.eR.all h8).1
   obtain⟨f,a⟩:=ag (l:=cq K x.bN) (k:=j) V
   refine⟨V,V,f,(eg.1 ((d.le ((f5.then x6).da D)).E a)).2,?_⟩
   refine(dH (e:=[]) D ((hn.le (R.trans u6).le).aT.le (zJ _)) hn.types f).aI u6 L λaY E m7 hf aR g p=>⟨_,rfl,x6.trans g,E,hf.le (bD _ _),?_⟩
   subst aR;exact(JU h8 a).symm
  ·simp only[ak]at h8
   exact⟨x6,[],my _ _ _ _ _ _,(JV h8).symm⟩
  rintro fs m8 ⟨W,E,hf,a1⟩
  have u8:=Q.trans W
  have e8:(az.len:Int)=((v.length:Nat):Int):=by rw[bo]
  rw[e8]
  refine(rL (S:=[]) D (hf.le (zJ _)) v.length V).aI u8 L λmi ml A gm qm X u9=>⟨_,rfl,?_⟩
  obtain⟨aU,hs,e0,e1⟩:=hk.E T
  have v9:=R.trans u9
  refine⟨V,V,_,v9.af e0,_,v9.af e1,?_⟩
  have z5:=Q.size
  have g9:=G.ext rC.mono (W.trans X)
  have a2:∀{M:I},J A M->ap M mi ml:=λy=>((gm.done D (by have:=qm.2;omega)).le (bD _ _)).ext y
  have bH:=qm.2
  have E5:∀{M f:I},J o M->J o f->∀{a5:Prop},a5->af f P.F (P.off+Int.toNat (j:Int)*2)=af M P.F (P.off+Int.toNat (j:Int)*2)/\af f P.F (P.off+Int.toNat (j:Int)*2+1)=af M P.F (P.off+Int.toNat (j:Int)*2+1)/\
   af f H.size 4=af M H.size 4/\af f m.size 0=af M m.size 0/\af f m.size 1=af M m.size 1/\a5:=λ{M f} y h' _ hp=>by
   have aE:∀h,h<o.size->∀B,af f h B=af M h B:=λh T B=>aN (by rw[h'.same h T,y.same h T]) B
   exact⟨((R.trans h').af e0).trans ((R.trans y).af e0).symm,((R.trans h').af e1).trans ((R.trans y).af e1).symm,aE _ V _,aE _ V _,aE _ V _,hp⟩
  have aq:∀{M:I},J m5 M->∀c∈s.F::e.size::q,c<M.size:=λy c d=>by
   have:=y.size;rcases List.mem_cons.1 d with g|g
   ·omega
   ·have:=aK c g;omega
  have hL:∀{M:I}{a:Nat},J m5 M->a<M.size->∀c∈[a,e.size,H.size,m.size],c<M.size:=λy T c d=>by
   rcases List.mem_cons.1 d with g|g
   ·omega
   ·exact(Q.trans y).lt (L c g)
  have tail:∀(M:I)(a:Nat)(U:O)(i:Bk),GB (a::e.size::q) o M s r->J m5 M->J A M->A.size<=a->a<M.size->eI (bO (a::s.F::e.size::q) M) U i.aA->WB K rs.length True (v.length+E.length) i/\i.w+20<=40*h.w+2*ml.length->
   let p:I:=ai M a 0 [.s U,.i i.aV]
   aO cw 255 [vi (14:Int),O.v mi] p λrv t=>eE [a,e.size,H.size,m.size] p t/\∃ab:O,rv=O.v ab/\af t a 1=af p a 1/\af t a 0=af p a 0/\
    jE t fQ [.i (0:Int),.i (0:Int),.i (0:Int),.s O.nil,.s O.nil] 72 ab U λay z=>eE [a,e.size,H.size,m.size] t z/\af z a 1=af t a 1/\
     let M4:I:=z.push (.cells (bG [.s ay,.i i.aV]) de)
     jE M4 de [.s O.nil,.i (0:Int)] 32 s (O.mk z.size 0 1 1) λac M5=>eE [a,e.size,H.size,m.size] M4 M5/\aW ac (cW ((j:Int)+(1:Int))) M5/\μ ac (cW ((j:Int)+(1:Int))) M5<μ s j m5:=by
   intro M a U i G N bp bj bu al hq p
   have z1:p.size=M.size:=av _ _ _ _
   have z9:=(W.trans X).size
   have a_:J A p:=bp.ai bj _ _
   have Z:J m5 p:=(W.trans X).trans a_
   have bl:s.F≠a:=V
   have g1:GB (e.size::q) o p s r:=G.re rC.mono (Y:=[a]) ((Fz.aB [a] M).ai (Or.inl D) _ _) D (by simpa using bl) λc d=>Or.inl (aj _ d)
   have bn:eI (bO (s.F::e.size::q) p) U i.aA:=al.le (cz D λc d=>aj _ d)
   have bz:=Bk.mf i;have aZ:=fO i.aA
   refine(eO (c:=s.F::e.size::q) (aq Z) 14 (a2 a_) V).aI (J.aB p) (hL Z V) λab _ t aJ g ao _=>⟨_,rfl,aN (ao.same _ V) _,aN (ao.same _ V) _,?_⟩
   subst g
   have z2:=ao.size
   refine GS.all aJ (ao.fz []) (bn.le (sU ao aJ.bg.1)) bJ λay z bd bc bL a6=>?_
   have ae:J p z:=bc.ext
   have z3:=ae.size
   have bI:=aJ.bg
   refine⟨λc d=>a6 c (by have:=hL Z (a:=a) V c d;omega) (by have:=hL Z (a:=a) V c d;omega),aN (a6 _ V V) _,?_⟩
   intro M4
   have bg:=bd.done gH.mono (aq Z) bh bJ
   refine GB.kv (c:=.mk (ml.map (eQ 14)++i.aA) i.aV) (g1.ext rC.mono ae) ((((Q.trans Z).trans ae)).fz []) bg V λac M5 bf br ba a7=>⟨λc d=>?_,bq V _ _ ⟨(f5.then (Z.trans ae)).Nw bm ba.1 a7,?_,_,bf,bJ,λaa b2 u=>?_,?_⟩⟩
   ·have:=hL (Z.trans ae) (a:=a) V c d
    rw[a7 c this (by simp at d;omega),(J.push z _).same c this]
   ·have h1:=(f5.then (Z.trans ae)).size
    rcases ba.2 with g|g<;>omega
   ·rcases be aa r.length with w|w
    ·rw[aw w]at u;exact a3 aa b2 u
    ·rw[aG w]at u
     have:aa -r.length=0:=by have:=ax u;simp at this;omega
     rw[this]at u;simp at u;subst u
     have:aa=j:=V
     subst this
     rw[<-a1]
     refine WB.of ((rI V λB ho=>?_).append ?_) ?_
     ·have:=qm.1 B ho;omega
     ·rw[jO V];exact hq.1.aW.1
     ·rw[cT,jO V,cC];exact hq.1.aW.2
   ·rw[oL,ud,zk,Bk.qA,dy,oh]
    have:=hq.2;omega
  have a0:∀(M:I)(aI:List Nat)(aH:Value->I->Prop),J A M->(∀c∈aI,c<M.size)->(∀s f,ap f s (v++E)->J M f->aH (O.v s) f)->aO cw 213 [O.v az,O.v fs] M λv m'=>eE aI M m'/\aH v m':=λM aI aH N hL hK=>
   (eG (S:=[]) D ((hv.ext (v9.trans N)).le (zJ _)) ((hf.ext (X.trans N)).le (zJ _)) V).aI (J.aB M) hL λs ll f G g x _=>hK s f (by subst g;exact(G.done D bJ).le (bD _ _)) x
  have F:∀(M:I)(S':List Nat)(w:O),(∀c∈S',c<M.size)->J A M->ap M w (v++E)->nk 238 [.agg #[O.v ah,O.v an],O.v w,.agg #[O.v aU,vi h.aV],O.v mi] M S' λi=>WB K rs.length True (v.length+E.length) i/\i.w+20<=40*h.w+2*ml.length:=by
   intro M S' w bi N u;have hm:=v9.trans N;have:=ih h (ar T) S' M bi ah an w aU mi (v++E) ml (hn.le hm.le) u (hs.le hm.le) (a2 N) ⟨λB ho=>?_,V,bJ,by simp;rw[a1];exact aL.bE j h T⟩
   ·simpa using this
   ·have:=qm.1 B ho;simp;omega
  have ic:∀(M:I)(a:Nat)(w:O),GB (a::e.size::q) o M s r->J A M->A.size<=a->a<M.size->ap M w (v++E)->
   aO cw 238 [.agg #[O.v ah,O.v an],O.v w,.agg #[O.v aU,vi h.aV],O.v mi] M λrv f=>eE [a,e.size,H.size,m.size] M f/\∃aS:O,∃aT:Int,rv=.agg #[O.v aS,vi aT]/\
    let p:I:=ai f a 0 [.s aS,.i aT]
    aO cw 255 [vi (14:Int),O.v mi] p λrv t=>eE [a,e.size,H.size,m.size] p t/\∃ab:O,rv=O.v ab/\af t a 1=af p a 1/\af t a 0=af p a 0/\
     jE t fQ [.i (0:Int),.i (0:Int),.i (0:Int),.s O.nil,.s O.nil] 72 ab aS λay z=>eE [a,e.size,H.size,m.size] t z/\af z a 1=af t a 1/\
      let M4:I:=z.push (.cells (bG [.s ay,.i aT]) de)
      jE M4 de [.s O.nil,.i (0:Int)] 32 s (O.mk z.size 0 1 1) λac M5=>eE [a,e.size,H.size,m.size] M4 M5/\aW ac (cW ((j:Int)+(1:Int))) M5/\μ ac (cW ((j:Int)+(1:Int))) M5<μ s j m5:=by
   intro M a w G N h1 h2 h3
   have x5:=(W.trans X).trans N
   have z9:=(W.trans X).size
   refine(F M (a::s.F::e.size::q) w (λc d=>?_) N h3).aI (J.aB M) (hL x5 h2) λU i f al hq au _=>⟨_,_,rfl,tail f a U i (G.ext rC.mono au) (x5.trans au) (N.trans au) h1 (au.lt h2) al hq⟩
   rcases List.mem_cons.1 d with g|g
   ·omega
   ·exact aq x5 c g
  have aQ:∀(M:I)(B:Obj),GB (e.size::q) o M s r->GB (M.size::e.size::q) o (M.push B) s r:=λM B G=>
   G.re rC.mono (Y:=[]) ((J.push M B).fz []) D D λc d=>by
    rcases List.mem_cons.1 d with g|g
    ·exact Or.inr V
    ·exact Or.inl g
  refine⟨a0 A _ _ (J.aB _) (λc d=>u9.lt (L c d)) λw aM u C=>⟨_,rfl,E5 u9 (u9.trans C) ⟨?_,?_⟩⟩,?_⟩
  ·have am:=u9.trans C
   have uG:=C.size
   refine(F aM (s.F::e.size::q) w (aq ((W.trans X).trans C)) C u).aI am L λU i aB al hq aA a8=>⟨_,_,rfl,?_⟩
   intro aV
   have bK:=aA.size
   exact E5 a8 (a8.aK _) (tail aV aB.size U i (aQ aB _ ((g9.ext rC.mono C).ext rC.mono aA)) ((((W.trans X).trans C).trans aA).aK _) ((C.trans aA).aK _) V (by simp[aV]) (al.le (sU (J.push aB _) (ad _))) hq)
  ·intro aA
   have am:=u9.trans C
   have uG:=C.size
   exact E5 am (am.aK _) (ic aA aM.size w (aQ aM _ (g9.ext rC.mono C)) (C.aK _) V (by simp[aA]) (u.ext (J.push _ _)))
  ·intro am
   have aA:J A am:=J.push _ _
   have aV:J o am:=u9.trans aA
   refine E5 u9 aV (a0 am _ _ aA (hL ((W.trans X).trans aA) (by simp[am])) λw a8 u aB=>⟨_,rfl,E5 aV (aV.trans aB) ?_⟩)
   exact ic a8 A.size w ((aQ A _ g9).ext rC.mono aB) (aA.trans aB) (ad _) (aB.lt (by simp[am])) u
 ·have f:r.length=x.bE.length:=V
  rw[cN V]at aZ
  refine(bP (e.size::q) (ha.ext (R.trans Q)) V).aI Q L λi p m6 a g x6 u6=>⟨_,rfl,aN (x6.same _ (Q.lt (L _ D))) _,aN (x6.same _ (Q.lt (L _ D))) _,?_⟩
  subst g
  intro m7
  refine⟨i,s,⟨x.op,x.bN,0,x.args,r⟩,rfl,?_,?_,⟨aL.OY (λy=>y.elim) ⟨V,V⟩ f a3,rfl,?_⟩,(R.trans u6).ai V _ _⟩
  ·exact(a.done (λc d=>aP (aK c d) Q.size) V).le (cz D λc d=>aj _ d)
  ·exact nD.le (cz D λc d=>aj _ d) ((G.ext rC.mono x6).done rC.mono aK bh (by have:=pY x.bE;show r.length<=_;omega))
  ·rw[cR.mf]
   simp only
   omega
structure LB(ds:List bB)(nr:Nat)(S:List Nat)(m2 M:I)(v lm:List Int)(aA:List cR)(k:Nat)(st inn ow:O):Prop where
 x:J m2 M
 hs:∃l,GS (inn.F::ow.F::S) m2 M st l/\WL ds nr True v.length l/\dc l=dc (aA.take k)/\sw l+2*k<=40*sw (aA.take k)
 hi:∃l,GI S m2 M inn l/\l.length=v.length+dc (aA.take k)
 ho:∃l,GI S m2 M ow l/\l.length<=lm.length+k/\∀o∈l,0<=o/\o<((v.length+dc (aA.take k):Nat):Int)
 ne:inn.F≠ow.F
def Hz{G:List bB}{K:List gC}:∀r:Bk,W3 G K r:=by
 refine Bk.ind ?_;intro aA C ih m F hS bf bS cl cj ch L lm hn hv hs bt hp;have ax:=hp.wb.aW;have hw:=Bk.qA aA C;simp only[Bk.jN,Bk.jd]at*;have lN:=hp.lN;have vN:=hp.vN;rw[hw]at lN vN;apply Au;simp -zeta only[aD,aC];intro q d f ae;obtain⟨E,w,s0,s1,s2⟩:=pX (a:=q) (b:=d) (c:=f) rfl rfl rfl;have aM:J f ae:=J.push _ _;have aX:∀N,GS N f ae (.mk f.size 0 0 0) []:=λN=>GS.new N f;have s3:ae.size=f.size+1:=by simp[ae]
 clear_value ae;clear_value f;have bC:=hs.len;have bF:=AZ aA;have b4:=fO aA;refine(bP m (hv.ext (E.trans aM)) V).aI aM w λg _ m4 t e x4 u4=>⟨_,rfl,?_⟩;subst e;refine(bP m (bt.ext (E.trans u4)) V).aI u4 w λj _ m5 B e x5 u5=>⟨_,rfl,?_⟩;subst e;have a6:=t.bg;have bK:=B.bg;refine QS (n:=aA.length) (bC▸hs.fS) (λi v g j a=>LB G K.length (d.size::m) f a L lm aA i v g j) ⟨u5,⟨[],((aX _).ext gH.mono x4).ext gH.mono x5,WL.nil _ _ _ _,rfl,D⟩,⟨L,((t.ext x5).bY (λ_ h=>h) aM.size).any,D⟩,⟨lm,(B.bY (λ_ h=>h) u4.size).any,V,by simpa using hp.aR⟩,V⟩ ?_;clear t B a6 bK aX;rintro i v g j u bb μ hk ⟨x6,⟨W,P,ay,T,b5⟩,⟨li,t,aq⟩,⟨lo,B,bV,a2⟩,a4⟩ bN
 have v6:=E.trans x6;have bY:=t.len bh;have bW:=sP (aA.take i);have b0:=qC i aA;have Q:∀c∈d.size::m,c<f.size:=bR hS E.size (w _ D);have ce:=P.bg;have a6:=t.bg;have cd:=B.bg;have bE:=fO (aA.take i);have bZ:i<=sw (aA.take i):=by rw[fY]at bE;omega
 have b1:=fO W;have z6:=x6.size;have am:∀{a:I},GI (d.size::m) f a g li->ap a g li:=λs=>(s.done Q V).le (bD _ _);have a0:∀{a:I},GI (d.size::m) f a j lo->ap a j lo:=λs=>(s.done Q V).le (bD _ _);have R:∀{a:I}{N:List Nat},u.size<=a.size->(∀c∈N,c<a.size)->∀c∈N++d.size::m,c<a.size:=λh hb c b=>by
  rcases List.mem_append.1 b with h|h
  ·exact hb c h
  ·have:=Q c h;omega
 have aY:∀{a:I},J u a->∀c∈[d.size,q.size,F.size],c<a.size:=λh c b=>(x6.trans h).lt (w c b);have bv:v.F≠g.F:=P.Kp t bh;have a5:v.F≠j.F:=P.Kp B bh;refine dit (λh=>?_) λh=>?_
 ·obtain⟨ah,y⟩:=ag (l:=aA) (k:=i) V;obtain⟨be,kk,ha,a1,g0,g1,g2,g3,g4⟩:=hs.E y;refine⟨V,V,_,v6.af g0,_,v6.af g1,_,v6.af g2,_,v6.af g3,_,v6.af g4,?_⟩;intro m7 A;have x8:J u A:=(J.push u _).ai (ad _) _ _;have s8:A.size=u.size+1:=by simp[A,m7,av]
  clear_value A;have u8:=x6.trans x8;have z:∀{a:I},A.size<=a.size->∀r∈[u.size,d.size,q.size,F.size],r<a.size:=λh r hb=>by
   rcases List.mem_cons.1 hb with e|e
   ·omega
   ·have:=u8.lt (w r e);omega
  have b_:=pN y;have b8:=qF y;have b9:=cR.mf ah;have ab:WS G K.length False li.length ah:=by rw[aq];exact ax.1 i ah y
  have aZ:=Zu ab;have b6:=bF (i+1);have aa:∀{a:I},J f a->At a bf bS be kk G K ah:=λh=>⟨hn.le (E.trans h).le,ha.ext (E.trans h),ab.eR.call⟩;refine(nW (aa u8).Qh (am (t.ext x8)) (aa u8).args (a1.le (E.trans u8).le) V λr _=>na r).aI (J.aB A) (z (ad _)) λty m9 x9 _=>⟨_,rfl,?_⟩;have X9:=u8.trans x9;have z9:=x9.size;refine(yC (b:=[]) D (aa X9) (am ((t.ext x8).ext x9)) ab.eR.args V).aI (J.aB m9) (z V) λdu dl bL bo a9 aK _=>⟨_,rfl,?_⟩;have bU:=a9.2;have uG:=aK.size;refine(eO (c:=[v.F,g.F,j.F]++d.size::m) (R V bJ) 14 ((bo.done D V).le (bD _ _)) V).aI (J.aB bL) (z V) λci _ az bl e aL _=>⟨_,rfl,?_⟩;subst e;have bc:=(X9.trans aK).trans aL;have cm:=aL.size;have aP:J u az:=(((x8.trans x9).trans aK).trans aL);refine GS.all (P.ext gH.mono aP) (bc.fz []) (bl.done gH.mono (R (N:=[v.F,g.F,j.F]) V bJ) bh bJ) bJ λaI a7 aS bg a_ aB=>⟨λc b=>aB c (z V c b) ?_,?_⟩
  ·simp at b;omega
  have al:J f a7:=bg.ext;have aT:=(t.ext aP).jf (aB _ V bv.symm);have bp:=(B.ext aP).jf (aB _ V a5.symm);have b2:aI.F=v.F\/az.size<=aI.F:=a_.2;have cb:=aS.bg;have cn:=a_.1;refine(Jh (q:=[aI.F,g.F,j.F]++d.size::m) (R V bJ) (aa al).Qh (am aT) (aa al).args (a1.le (E.trans al).le) V ab (ih ah (ar y))).aI (J.aB a7) (z V) λca ck Z a8 br bs bQ ak _=>⟨_,_,_,_,_,rfl,?_⟩;obtain⟨bH,bz,b7⟩:=bQ;have bd:=al.trans ak;have co:=ak.size;refine GS.kv (x:=Z) (aS.ext gH.mono ak) (bd.fz []) br bs bJ λH an au bi ba aF=>⟨λc b=>?_,?_⟩
  ·have:=z (a:=a8) V c b;rw[aF c this (by simp at b;omega),(J.push a8 _).same c this]
  have aR:J f an:=bi.ext;have cp:=ba.1;have aV:=(aT.ext ak).jf (aF _ V V);have aw:=(bp.ext ak).jf (aF _ V V);have b3:H.F=v.F\/az.size<=H.F:=by have:=ba.2;omega
  have B1:WL G K.length True L.length (W++dl.map (eQ 14)++[Z])/\dc (W++dl.map (eQ 14)++[Z])=dc (aA.take (i+1))/\sw (W++dl.map (eQ 14)++[Z])+2*(i+1)<=40*sw (aA.take (i+1)):=by
   have bX:dn Z=1:=by unfold dn at aZ⊢;rw[bz];exact aZ
   have d1:dc (dl.map (eQ 14))=0:=jO V _;refine⟨((ay.append (rI V λo p=>?_)).yy ?_),?_,?_⟩
   ·rw[T,<-aq];exact ab.eR.args o (a9.1 o p)
   ·rw[cT,d1,T,ju,<-aq];exact bH
   ·rw[cT,cT,d1,T,kC,sQ];omega
   ·rw[dy,dy,oh,mE,va];omega
  have a3:∀o∈lo,0<=o/\o<((L.length+dc (aA.take (i+1)):Nat):Int):=λo p=>by
   have:=a2 o p;omega
  have aW:∀(a:I)(X:O)(ac:List Int),J f a->A.size<=a.size->GS (g.F::X.F::d.size::m) f a H (W++dl.map (eQ 14)++[Z])->GI (d.size::m) f a g li->GI (d.size::m) f a X ac->g.F≠X.F->ac.length<=lm.length+(i+1)->(∀o∈ac,0<=o/\o<((L.length+dc (aA.take (i+1)):Nat):Int))->
   jE (a.push (.cells (bG [.i ty]) aE)) aE [.i (0:Int)] 8 g (O.mk a.size 0 1 1) λaJ M'=>eE [u.size,d.size,q.size,F.size] (a.push (.cells (bG [.i ty]) aE)) M'/\bb H aJ X (cW ((i:Int)+(1:Int))) M'/\μ H aJ X (cW ((i:Int)+(1:Int))) M'<μ v g j i u:=by
   intro a X ac y U s gI gO bu bq bA
   have cc:=gI.bg;have bI:=gO.bg
   have bx:H.F≠g.F:=s.Kp gI bh
   refine GI.kv gI (y.fz []) Q V λaJ M' bn bk aQ aH=>⟨λc b=>?_,bN V _ _ _ _ ⟨bk.ext,⟨_,s.re gH.mono (Y:=[g.F]) ⟨aQ.1,λc b hn=>aH c b (by simpa using hn)⟩ D (by simpa using bx) (λc b=>?_),B1.1,B1.2.1,B1.2.2⟩,⟨_,bn,bJ⟩,⟨ac,gO.jf (aH _ bI.2 bu.symm),bq,bA⟩,?_⟩⟩
   ·have:=z U c b
    rw[aH c this (by simp at b;omega),(J.push a _).same c this]
   ·simp only[aU]at b⊢
    rcases b with h|h|h
    ·rcases aQ.2 with e|e
     ·exact Or.inl (Or.inl (h.trans e))
     ·exact Or.inr V
    ·exact Or.inl (Or.inr (Or.inl h))
    ·exact Or.inl (Or.inr (Or.inr h))
   ·rcases aQ.2 with e|e<;>omega
  refine⟨λ_=>?_,λ_=>?_⟩
  ·intro cf;have bw:H.F≠j.F:=au.Kp aw bh;refine GI.kv aw (aR.fz []) Q V λbT bM bm bj ao aG=>⟨λc b=>?_,?_⟩
   ·have:=z (a:=an) V c b;rw[aG c this (by simp at b;omega),(J.push an _).same c this]
   intro cg;have cq:=ao.1;refine aW bM bT _ bj.ext V (au.re gH.mono (Y:=[j.F]) ⟨ao.1,λc b hn=>aG c b (by simpa using hn)⟩ D (by simpa using bw) λc b=>?_) (aV.jf (aG _ V a4)) bm ?_ bJ ?_
   ·simp only[cU,dS,aU]at b⊢;rcases b with h|h|h
    ·exact Or.inl (Or.inl h)
    ·rcases ao.2 with e|e
     ·exact Or.inl (Or.inr (Or.inl (h.trans e)))
     ·exact Or.inr V
    ·exact Or.inl (Or.inr (Or.inr h))
   ·rcases ao.2 with e|e<;>omega
   ·intro o p;rcases List.mem_append.1 p with p|p
    ·exact a3 o p
    ·simp at p;omega
  ·intro ao;exact aW an j lo aR V au aV aw a4 V a3
 ·have aw:i=aA.length:=V;subst aw;rw[eZ]at*;have an:∀(a:I)(aa:O)(H:List cR),J f a->u.size<=a.size->GS (g.F::j.F::d.size::m) f a aa H->ap a j lo->WL G K.length True L.length H->dc H=dc aA->sw H+2*aA.length<=40*sw aA+2->
   aO cw 255 [vi (15:Int),O.v j] a λrv A=>eE [d.size,q.size,F.size] a A/\∃ah:O,rv=O.v ah/\af A q.size 1=af a q.size 1/\
    jE A fQ [.i (0:Int),.i (0:Int),.i (0:Int),.s O.nil,.s O.nil] 72 aa ah λab M2=>eE [d.size,q.size,F.size] A M2/\af M2 q.size 1=af A q.size 1/\
     let X:I:=ai M2 d.size 0 [.s ab,.i C]
     ∃ao r,Value.agg #[O.v ab,vi C]=.agg #[O.v ao,vi r.aV]/\eI (bO m X) ao r.aA/\(WB G K.length True L.length r/\r.w+20<=40*(Bk.mk aA C).w+2*lm.length)/\J F X:=by
   intro a aa H y U s p aG al aI
   have hy:=s.bg
   have aH:=fO H
   have aF:q.size<a.size:=y.lt (w _ D)
   refine(eO (c:=[aa.F,g.F,j.F]++d.size::m) (R U bJ) 15 p V).aI y w λah _ A au e z u1=>⟨_,rfl,aN (z.same _ aF) _,?_⟩
   subst e
   have z1:=z.size
   have az:∀c∈[d.size,q.size,F.size],c<A.size:=λc b=>u1.lt (w c b)
   have aB:∀c∈[d.size,q.size,F.size],c<f.size:=w
   refine GS.all (s.ext gH.mono z) (u1.fz []) (au.done gH.mono (R (N:=[aa.F,g.F,j.F]) U bJ) bh bJ) bJ λab M2 g2 ac ak Z=>⟨λc b=>Z c (az c b) (by have:=aB c b;omega),aN (Z _ V V) _,?_⟩
   intro X
   refine⟨ab,.mk _ C,rfl,eI.le (cz D λc b=>aj _ b) ((g2.re gH.mono (S':=d.size::m) (Y:=[]) (Fz.aB _ _) D D (λc b=>Or.inl (aj _ (aj _ b)))).done gH.mono Q bh bJ),⟨WB.of (aG.append (rI V λo p=>?_)) ?_,?_⟩,(E.trans ac.ext).ai V _ _⟩
   ·have:=a2 o p;rw[al];exact this
   ·rw[cT,jO V,al];exact ax.2
   ·rw[Bk.qA,Bk.qA,dy,oh];omega
  obtain⟨ak,U⟩:=ag (l:=li) (k:=C.toNat) V;refine⟨V,V,ak,(am t).E U,λ_=>?_,λ_=>?_⟩
  ·refine(iQ (c:=[v.F,g.F,j.F]++d.size::m) (R (ad _) bJ) 14 C).mono λrv A⟨pa,pk,e,h1,h2,z⟩=>?_;subst e;refine⟨z.dm (aY (J.aB _)),_,_,_,_,_,rfl,?_⟩;have z1:=z.size;refine GS.kv (x:=eQ 14 C) (P.ext gH.mono z) ((x6.trans z).fz []) h1 h2 V λr' X s ac ak Z=>⟨λc b=>?_,an X r' _ ac.ext V s (a0 ((B.ext z).jf (Z _ V a5.symm))) (ay.yy (Dg V (by rw[T];exact ax.2))) ?_ ?_⟩
   ·have:=aY z c b;have h5:=w c b;rw[Z c this V,(J.push A _).same c this]
   ·rw[cT,T];simp[kC,dn,eQ,oZ]
   ·rw[dy,mE,va];have h5:(eQ 14 C).w=2:=by rw[cR.mf];rfl
    omega
  ·exact an u v W x6 (ad _) P (a0 B) ay T V
section
variable{b:List Nat}{f d h:I}{p t s:O}{q:gC}{u:Int}{g e j:Nat}
def mJ.mono:nZ 1 mJ:=⟨λh=>mJ.le h _ _,λ⟨_,h,_⟩=>by rw[h];rfl⟩
def il.mono:nZ 3 il:=⟨λh=>il.le h _ _,λ⟨_,h,_⟩=>by rw[h];rfl⟩
def fJ(x:∀c∈b,c<f.size){aT:O}{j:List bB}(D:cx f aT j)(y:dP j):aO cw 188 [O.v aT] f λZ F=>∃s,Z=O.v s/\cx (bO b F) s j/\J f F:=by
 apply Ae;intro S;have ah:=D.len;have af:=y.len;have w:Gr b f S jR 3 il (.mk f.size 0 0 0) []:=Gr.new b (ad _) _ _ _;refine dU (n:=j.length) V (λt s M=>J f M/\Gr b f M jR 3 il s (j.take t)) ⟨J.push _ _,w⟩ ?_;rintro t s d ac μ hk ⟨u,p⟩ X
 have hy:=p.bg;refine dit (λo=>?_) λo=>?_
 ·obtain⟨i,q⟩:=ag (l:=j) (k:=t) V;obtain⟨B,E,w,L,C⟩:=D.E q;have ai:=E.len;have ae:=lg y q;intro T;have m:Gr (s.F::b) d T oR 1 mJ (.mk d.size 0 0 0) []:=Gr.new _ (ad _) _ _ _;refine dU (n:=i.cons.length) V (λA c M=>J d M/\Gr (s.F::b) d M oR 1 mJ c (i.cons.take A)) ⟨J.push _ _,m⟩ ?_;rintro A c G I2 μ2 hj ⟨v,m⟩ W;have g:=u.trans v;refine⟨V,V,B,g.af C,dit (λQ=>?_) λQ=>?_⟩
  ·obtain⟨I,z⟩:=ag (l:=i.cons) (k:=A) V;obtain⟨ab,R,N⟩:=E.E z;have aj:I.length<=3:=(((y.dt t i q).iL V).2.2.2 I (ar z)).1;refine⟨V,V,B,g.af C,V,V,ab,g.af N,?_⟩;have ak:=m.bg;refine(bP (c.F::s.F::b) (R.ext g) V).then λz' _ h P e H=>⟨_,rfl,?_⟩;subst e;have aa:=v.trans H;intro U;refine Gr.kv (g:=[.s .nil]) mJ.mono bh (m.ext mJ.mono H) (aa.fz []) ⟨z',rfl,P.done (λe r=>?_) V⟩ bJ λY m7 M K _ _=>W V _ _ ⟨K.ext,by rw[bn z];exact M⟩;have:=v.size;simp only[aU]at r;rcases r with o|o|o
   ·omega
   ·omega
   ·have:=x e o;have:=u.size;omega
  ·refine⟨V,V,_,g.af w,V,V,_,g.af L,?_⟩;intro h;rw[cN V]at m;have H:eH (bO (s.F::b) G) 1 (mJ (bO (s.F::b) G)) c i.cons:=m.done mJ.mono (λe r=>by
    rcases List.mem_cons.1 r with z|z
    ·omega
    ·have:=x e z;have:=u.size;omega) bh V
   refine Gr.kv (g:=[.i 0,.i 0,.s .nil]) (k:=i) il.mono bh (p.ext il.mono v) (g.fz []) ⟨c,rfl,H⟩ bJ λY U z r _ _=>X V _ _ ⟨r.ext,by rw[bn q];exact z⟩
 ·rw[cN V]at p;exact⟨s,rfl,p.done il.mono x bh V,u⟩
def xU(K:∀g∈b,g<f.size){B:O}{y:Int}(L:ap f p q.params)(N:ap f t q.cJ)(n:q.params.length<=100/\q.cJ.length<=100):
 aO cw 227 [.agg #[O.v p,O.v t,vi q.aV,O.v B,vi u],.agg #[O.v s,vi y]] f λR w=>∃j k,R=.agg #[O.v j,O.v k,vi q.aV,O.v s,vi y]/\ap (bO b w) j q.params/\ap (bO b w) k q.cJ/\J f w:=by
 apply CE
 simp -zeta only[aD,aC]
 intro P i d
 obtain⟨m,v,U,W,X⟩:=pX (a:=P) (b:=i) (c:=d) rfl rfl rfl
 clear_value d
 have z:∀g∈i.size::b,g<d.size:=bR K m.size (v _ D)
 have E:∀{M x:I},J d M->J d x->∀c,c<d.size->∀o,af x c o=af M c o:=λG H c n o=>aN (by rw[H.same c n,G.same c n]) o
 refine(bP (i.size::b) (L.ext m) V).aI (J.aB d) v λj _ T C e a _=>⟨_,rfl,E (J.aB _) a _ V _,E (J.aB _) a _ V _,E (J.aB _) a _ V _,E (J.aB _) a _ V _,?_⟩
 subst e
 refine(bP (i.size::b) (N.ext (m.trans a)) V).aI a v λk _ Q F e S l=>⟨_,rfl,E a l _ V _,E a l _ V _,E a l _ V _,?_⟩
 subst e
 intro h
 have A:Le (bO (i.size::b) Q) (bO b h):=cz D λg r=>aj _ r
 exact⟨j,k,rfl,((C.done z V).le (S.da _)).le A,(F.done (λg r=>a.lt (z g r)) V).le A,(m.trans l).ai V _ _⟩
abbrev GR(b:List Nat)(a f:I)(s:O)(l:List gC):Prop:=Gr b a f jI 5 iC s l
def vL{L:List Nat}{l M:I}{v h:O}{x:List gC}{o:Bk}{P:O}{K:I->Prop}(X:∀c∈b,c<l.size)(w:∀c∈L,c<M.size/\c≠g/\c≠h.F)(A:J l M)(y:GR (g::b) l M h x)
 (z:cF M g mU [.s v,.s h])(aa:l.size<=g)(hp:ap M p q.params)(ht:ap M t q.cJ)(ab:eI (bO (h.F::g::b) M) s o.aA)(Y:q.params.length<=100/\q.cJ.length<=100)(hl:x.length<=100)
 (W:∀r d,GR (g::b) l d r (x++[⟨q.params,q.cJ,q.aV,o⟩])->cF d g mU [.s v,.s r]->J l d->K d):
 aO cw 227 [.agg #[O.v p,O.v t,vi q.aV,O.v P,vi u],.agg #[O.v s,vi o.aV]] M λH k=>eE L M k/\∃B:O,∃C:O,∃E:Int,∃F:O,∃G:Int,H=.agg #[O.v B,O.v C,vi E,O.v F,vi G]/\af k g 1=af M g 1/\
  let m:I:=k.push (.cells (bG [.s B,.s C,.i E,.s F,.i G]) jI)
  af m g 1=af k g 1/\
  jE m jI [.s O.nil,.s O.nil,.i (0:Int),.s O.nil,.i (0:Int)] 88 h (O.mk k.size 0 1 1) λac n=>eE L m n/\fH n g 1 1/\
   let d:I:=ai n g 1 [.s ac]
   eE L n d/\K d:=by
 have hy:=y.bg
 have Z:=z.lt
 have hz:=A.size
 refine(xU (b:=h.F::g::b) (λc f=>?_) hp ht Y).mono λH k⟨p',t',e,T,U,j⟩=>?_
 ·simp only[aU]at f
  rcases f with e|e|e
  ·omega
  ·omega
  ·have:=X c e;omega
 subst e
 refine⟨j.dm λc f=>(w c f).1,_,_,_,_,_,rfl,aN (j.same _ Z) _,?_⟩
 intro m
 refine Gr.box (g:=[.s .nil,.s .nil,.i 0,.s .nil,.i 0]) (j:=1) (o:=[.s v,.s h]) (y:=⟨q.params,q.cJ,q.aV,o⟩) iC.mono bh (y.ext iC.mono j) ((A.trans j).fz []) ⟨p',t',s,rfl,T,U,ab.le (j.da _)⟩ V (z.ext j) D bh ⟨aa,D⟩ (λc f=>⟨j.lt (w c f).1,(w c f).2⟩) λr m' R N Q z' q'=>W r m' R N Q.ext
def kO{β:Type}{a c:I}{g:O}{l:Nat}{f:I->List Ce->β->Prop}(q:nZ l f)(p:a=d.push (.cells (bG []) e))(i:c=a.push (.cells (bG [.s O.nil,.s O.nil]) j))(k:h=ai c a.size 0 [.s g,.s (O.mk d.size 0 0 0)]):
 J d h/\cF h a.size j [.s g,.s (O.mk d.size 0 0 0)]/\Gr b d h e l f (.mk d.size 0 0 0) []/\a.size=d.size+1/\h.size=d.size+2:=by
 subst p
 have n:J (d.push (.cells (bG []) e)) h:=by subst i k;exact(J.push _ _).ai (ad _) _ _
 refine⟨(J.push d _).trans n,?_,(Gr.new b (ad _) e l f).ext q n,D,by subst i k;simp[av]⟩
 have s:cF c (d.push (.cells (bG []) e)).size j [.s O.nil,.s O.nil]:=by rw[i];exact cF.push _ _ _
 rw[k]
 exact cF.ai (m:=c) (o:=0) (r:=[.s g,.s (.mk d.size 0 0 0)]) s
def kJ{β:Type}{p c t:Nat}{q:I->List Ce->β->Prop}{m E:O}{H:List bB}(K:nZ p q)(hz:0<p)(ae:j≠e)(Z:∀z∈b,z<f.size)(aa:f.size<=c/\c<d.size)(N:J f d)(am:g=d.size+1)
 (ab:cx (bO (c::b) d) m H)(hn:E.len=t)(an:t<=1000)(ag:J d h)(X:cF h g j [.s m,.s (O.mk d.size 0 0 0)])(ac:Gr (g::c::b) d h e p q (.mk d.size 0 0 0) [])(A:Nat->β->Prop)
 {F:(Int->I->Prop)->(Int->I->Nat)->Int->I->Prop}{R:O->O->I->Prop}
 (Y:∀G Q l r,cx (bO b r) G H->eH (bO b r) p (q (bO b r)) Q l->l.length=t->(∀(i:Nat)(x:β),l[i]? =some x->A i x)->J f r->R G Q r)
 (W:∀(k:Nat)(M:I)(s:O)(l:List β)(u:Int->I->Prop)(μ:Int->I->Nat),k<t->l.length=k->J d M->Gr (g::c::b) d M e p q s l->cF M g j [.s m,.s s]->
  (∀w a x,Gr (g::c::b) d a e p q w (l++[x])->cF a g j [.s m,.s w]->J d a->A k x->u (cW ((k:Int)+1)) a/\μ (cW ((k:Int)+1)) a<μ k M)->F u μ k M):
 ∃(y:Int->I->Prop)(μ0:Int->I->Nat),y (0:Int) h/\(∀(i:Int)(M:I),y i M->
  ((decide (i<(E.len:Int)))=true->F y μ0 i M)/\
  ((decide (i<(E.len:Int)))=false->∃o:O,af M g 0=some (O.v o)/\∃v:O,af M g 1=some (O.v v)/\
   let a:I:=ai M c 0 [.s o,.s v]
   R o v a)):=by
 refine eU (n:=t) V (λk M=>J d M/\∃s l,Gr (g::c::b) d M e p q s l/\cF M g j [.s m,.s s]/\l.length=k/\∀(i:Nat)(x:β),l[i]? =some x->A i x) ⟨ag,_,[],ac,X,rfl,D⟩ ?_
 rintro k M u μ hk ⟨x,s,l,v,B,ad,L⟩ ah
 refine dit (λU=>?_) λU=>?_
 ·refine W k M s l u μ V ad x v B λw a ak T S x' P=>ah V _ ⟨x',w,_,T,S,bJ,λi al o=>?_⟩
  rcases be i l.length with C|C
  ·rw[aw C]at o;exact L i al o
  ·rw[aG C]at o
   have:i -l.length=0:=by have:=ax o;simp at this;omega
   rw[this]at o;simp at o;subst o
   have:i=k:=V
   subst this;exact P
 ·refine⟨m,B.cp 0,s,B.cp 1,?_⟩
  intro a
  have P:=v.bg
  have C:=v.ne B ae
  have w:Le (bO (g::c::b) M) (bO b a):=cz D λz o=>aj _ (aj _ o)
  refine Y m s l a (ab.le ((x.bO λz o=>?_).trans w)) (eH.le (v.nE K (λo=>?_) hz V) w λS ak=>K.le w) V L ((N.trans x).ai aa.1 _ _)
  ·rcases List.mem_cons.1 o with e|e
   ·exact Or.inr V
   ·exact Or.inl e
  ·simp only[aU]at o
   rcases o with e|e|e
   ·exact C e
   ·omega
   ·have:=Z _ e;have:=N.size;omega
structure yd(ds:List bB)(rs:List gC)(c:Prop)(W:Nat):Prop where
 iL:0<rs.length
 dt:∀q∈rs,q.params.length<=3/\q.cJ.length<=3/\WB ds rs.length c q.params.length q.body/\q.body.w<=W
def uH(h:Nat)(e:List Value)(f:I)(b:List Nat)(g:List bB)(Q:List gC->Prop):Prop:=aO cw h e f λv a=>∃d r c,v=.agg #[O.v d,O.v r]/\eD (bO b a) d r g c/\Q c/\J f a
def Ha{d:List bB}{a b:List gC}{c:Prop}{W:Nat}(j:0<a.length)(f:b.length=a.length)(h:∀(i:Nat)(q:gC),b[i]? =some q->q.params.length<=3/\q.cJ.length<=3/\WB d a.length c q.params.length q.body/\q.body.w<=W):yd d b c W:=
 ⟨V,λq g=>by obtain⟨i,e⟩:=List.mem_iff_getElem?.1 g;rw[f];exact h i q e⟩
def HN(K:∀i∈b,i<f.size){G:O}{e cJ:List Int}{N:Int}(E:ap f p e)(L:ap f t cJ)(S:e.length<=100):
 kT 239 [.agg #[O.v p,O.v t,vi N,O.v G,vi u]] f b λa=>(∀o∈a,0<=o/\o<(e.length:Int))/\a.length<=e.length:=by
 apply AG
 simp -zeta only[aD,aC]
 intro c d
 have x:J f c:=J.push _ _
 have C:∀z∈[f.size],z<c.size:=by simp[c]
 have H:GI b c d (.mk c.size 0 0 0) []:=GI.nil b c
 have P:J c d:=J.push _ _
 clear_value d
 clear_value c
 have U:=E.len
 refine dU (n:=e.length) V (λq s M=>J c M/\∃a,GI b c M s a/\(∀o∈a,0<=o/\o<(e.length:Int))/\a.length<=q) ⟨P,[],H,D,ad _⟩ ?_
 rintro q s W R μ T ⟨y,a,j,m,B⟩ r
 have v:=x.trans y
 refine⟨λg=>?_,λg=>?_⟩
 ·simp only[au]at g
  obtain⟨Q,M⟩:=ag (l:=e) (k:=q) V
  refine⟨V,V,Q,(E.ext v).E M,λ_=>?_,λ_=>r V _ _ ⟨y,a,j,m,V⟩⟩
  refine(dp (L.ext v) q).any.aI y C λz X F w=>⟨_,rfl,λ_=>?_,λ_=>r V _ _ ⟨w,a,j.ext F,m,V⟩⟩
  intro h
  refine GI.kv (j.ext F) (w.fz []) (λi B=>x.lt (K i B)) V λZ Y I A _ _=>⟨J.oC (w.aK _) A.ext C,r V _ _ ⟨A.ext,_,I,λo i=>?_,bJ⟩⟩
  rcases List.mem_append.1 i with i|i
  ·exact m o i
  ·simp at i;omega
 ·exact⟨s,a,rfl,j.bY (λ_ g=>g) x.size,⟨m,by simp at g;omega⟩,v⟩
end
section
variable{a:List Nat}{b:I}{d r:O}{c:List gC}
def Hw(hS:∀e∈a,e<b.size){aa al w:O}{W:List bB}{q:gC}(hn:eD b d r W c)(hp:ap b aa q.params)(ht:ap b al q.cJ)(hs:eI b w q.body.aA)(aJ:q.params.length<=3)(au:WB W c.length False q.params.length q.body)(hw:q.body.w<=95):
 nk 237 [.agg #[O.v d,O.v r],.agg #[O.v aa,O.v al,vi q.aV,O.v w,vi q.body.aV]] b a λs=>WB W c.length True q.params.length s/\s.w<=1100*q.body.w:=by
 apply Ag
 simp -zeta only[aD,aC]
 intro m0 H N
 obtain⟨y,h,s0,s1,s2⟩:=pX (a:=m0) (b:=H) (c:=N) rfl rfl rfl
 clear_value N
 have aK:=hp.len
 have Y:∀e∈H.size::a,e<N.size:=bR hS y.size (h _ D)
 refine(CV (S:=[]) D (hs.le y.le) _ V).aI (J.aB N) h λus ul g hu aL U _=>⟨_,rfl,?_⟩
 have ar:ap g us ul:=hu.le (bD _ _)
 intro v P
 have aE:J g P:=(J.push g _).trans (J.push v _)
 have s4:v.size=g.size+1:=by simp[v]
 have j:GI a g P (.mk g.size 0 0 0) []:=(GI.nil a g).ext (J.push v _)
 have i:GI a g P (.mk v.size 0 0 0) []:=(GI.nil a v).bY (λ_ X=>X) V
 clear_value P
 have z3:=U.size
 have ao:∀e∈a,e<g.size:=λe f=>by have:=hS e f;have:=y.size;omega
 refine wK (n:=q.params.length) V (λm R sd M=>J g M/\∃p u,GI a g M R p/\GI a g M sd u/\R.F≠sd.F/\(∀o∈p,0<=o/\o<(q.params.length:Int))/\(∀o∈u,0<=o/\o<(q.params.length:Int))/\p.length<=m/\u.length<=m) ⟨aE,[],[],j,i,bJ,D,D,ad _,ad _⟩ ?_
 rintro m R sd m6 aF μ hk ⟨z,p,u,j,i,L,F,E,cm,cd⟩ Q
 have K:=U.trans z
 have v6:=y.trans K
 refine dit (λX=>?_) λX=>?_
 ·obtain⟨ac,hy⟩:=ag (l:=q.params) (k:=m) V
  have sn:∀{t:List Int},(∀o∈t,0<=o/\o<(q.params.length:Int))->∀o∈t++[(m:Int)],0<=o/\o<(q.params.length:Int):=λh o G=>by
   rcases List.mem_append.1 G with G|G
   ·exact h o G
   ·simp at G;omega
  refine⟨V,V,ac,(hp.ext v6).E hy,λ_=>?_,λ_=>Q V _ _ _ ⟨z,p,u,j,i,L,F,E,V,V⟩⟩
  refine(dp (ht.ext v6) m).any.aI K h λab m7 A u7=>⟨_,rfl,λ_=>?_,λ_=>Q V _ _ _ ⟨z.trans A,p,u,j.ext A,i.ext A,L,F,E,V,V⟩⟩
  refine(dp (ar.ext (z.trans A)) m).any.aI u7 h λab m8 x8 u8=>⟨_,rfl,λ_=>?_,λ_=>?_⟩
  ·have x:=A.trans x8
   intro m9
   exact GI.Rf (j.ext x) (i.ext x) L ((z.trans x).fz []) V λr m' C T Z B=>⟨J.oC ((K.trans x).aK _) (U.trans B.ext) h,Q V _ _ _ ⟨B.ext,_,_,C,T,Z,sn F,E,bJ,V⟩⟩
  ·have x:=A.trans x8
   intro m9
   exact GI.Rf (i.ext x) (j.ext x) L.symm ((z.trans x).fz []) V λr m' C T Z B=>⟨J.oC ((K.trans x).aK _) (U.trans B.ext) h,Q V _ _ _ ⟨B.ext,_,_,T,C,Z.symm,F,sn E,V,bJ⟩⟩
 intro B
 have ae:J m6 B:=J.push _ _
 have ab:=K.trans ae
 have ac:=y.trans ab
 have e0:ap B (.mk m6.size 0 0 0) []:=my _ _ _ _ _ _
 have ai:∀{M:I}{w:O}{t:List Int},GI a g M w t->t.length<=3->ap M w t:=λC h=>(C.done ao V).le (bD _ _)
 clear_value B
 have aI:=q.body.Gq
 refine(FG q.body (H.size::a) B (λe f=>ab.lt (Y e f)) d r aa w R _ q.params p [] (hn.le ac.le) (hp.ext ac) (hs.le ac.le) ((ai j V).ext ae) e0 ⟨F,V,bJ,V,au⟩).aI ab h λss s G aq hq aA az=>⟨_,_,rfl,?_⟩
 intro aw o
 have af:J G o:=(J.push G _).ai (ad _) _ _
 have aR:o.size=G.size+1:=by simp[o,aw,av]
 clear_value o
 have T:=az.trans af
 have Z:∀e∈[G.size,H.size,m0.size,b.size],e<o.size:=λe f=>by
  rcases List.mem_cons.1 f with A|A
  ·omega
  ·exact T.lt (h e A)
 have aH:=Bk.mf s;have aG:=fO s.aA
 have aM:=hq.2
 refine(eO (c:=H.size::a) (λe f=>T.lt (Y e f)) 15 ((ai i V).ext ((ae.trans aA).trans af)) V).aI (J.aB o) Z λaQ _ aO ah A x _=>⟨_,rfl,aN (x.same _ V) _,aN (x.same _ V) _,?_⟩
 subst A
 have aS:=x.size
 have hy:=ah.bg
 refine GS.all ah (x.fz []) ((aq.le (af.da _)).le (sU x hy.1)) bJ λay ax an am aT ak=>⟨λe f=>ak e (x.lt (Z e f)) (by have:=Z e f;omega),aN (ak _ V V) _,?_⟩
 intro aP
 have aB:J b ax:=(y.trans T).trans am.ext
 refine⟨ay,.mk _ s.aV,rfl,eI.le (cz D λe f=>aj _ f) (an.done gH.mono (λe f=>T.lt (Y e f)) bh bJ),⟨WB.of ((rI V E).append ?_) ?_,?_⟩,aB.ai V _ _⟩
 ·rw[jO V];exact hq.1.aW.1
 ·rw[cT,jO V,cC];exact hq.1.aW.2
 ·rw[Bk.qA,dy,oh];omega
def KO(N:∀e∈a,e<b.size){i:List bB}(o:eD b d r i c)(hk:yd i c False 95):uH 220 [.agg #[O.v d,O.v r]] b a i λy=>yd i y True 104500:=by
 apply DS;simp -zeta only[aD,aC];intro f W;obtain⟨A,w⟩:=dG (a:=f) (c:=W) rfl rfl;have s1:f.size=b.size+1:=by simp[f]
 clear_value W;have ak:=o.iJ.len;have av:=o.om;refine(fJ (b:=f.size::a) (bR N A.size (w _ D)) (o.le A.le).aT o.types).mono λ_ T⟨ad,j,ah,B⟩=>?_;subst j;refine⟨B.dm w,_,rfl,?_⟩;intro U ao ac;have u2:=A.trans B;obtain⟨x5,B0,g0,s3,s5⟩:=kO (b:=U.size::f.size::a) iC.mono (d:=T) (a:=U) (c:=ao) (h:=ac) rfl rfl rfl;clear_value ac;have x:∀e∈[f.size,b.size],e<T.size:=λe g=>B.lt (w e g);have P:∀e∈f.size::a,e<T.size:=λe g=>B.lt (bR N A.size (w _ D) e g);refine kJ (R:=λh p M=>∃d r y,Value.agg #[O.v h,O.v p]=.agg #[O.v d,O.v r]/\eD (bO a M) d r i y/\yd i y True 104500/\J b M) (t:=c.length) (f:=b) (b:=a) iC.mono bh bh N ⟨V,x _ D⟩ u2 s3 ah ak V x5 B0 g0 (λ_ q=>q.params.length<=3/\q.cJ.length<=3/\WB i c.length True q.params.length q.body/\q.body.w<=104500) (λh u Q v h1 h2 p s t=>⟨h,u,Q,rfl,⟨h1,h2,o.types,V⟩,Ha hk.iL p s,t⟩) λan M st Q aq μ ai au C Z E ap=>?_
 obtain⟨q,hq⟩:=ag (l:=c) (k:=an) ai;obtain⟨ab,aj,am,hw⟩:=hk.dt q (ar hq);have p:=u2.trans C;obtain⟨aw,ax,h,X,Y,c3,F,H,I,K,L⟩:=o.iJ.E hq;have G:∀{z:Value}{h t:Nat},af b h t=some z->af M h t=some z:=λv=>p.af v;refine⟨st,E.cp 1,V,V,_,G F,_,G H,_,G I,_,G K,_,G L,V,V,_,G F,_,G H,_,G I,_,G K,_,G L,?_⟩;have hy:=Z.bg;have ae:=E.lt;have zM:=C.size;refine(Hw (a:=st.F::U.size::f.size::a) (λe g=>?_) (o.le p.le) (X.ext p) (Y.ext p) (c3.le p.le) ab am hw).aI C x λss b' M1 al aa s u1=>⟨_,_,rfl,?_⟩
 ·simp only[aU]at g;rcases g with j|j|j|j
  ·omega
  ·omega
  ·have:=P e (by simp[j]);omega
  ·have:=P e (by simp[j]);omega
 have u:∀{z:Value}{h t:Nat},af b h t=some z->af M1 h t=af M h t:=λv=>by rw[s.af (G v),G v]
 refine⟨u F,u H,u I,u K,u L,aN (s.same _ (C.lt (x _ D))) _,aN (s.same _ ae) _,?_⟩;exact vL (b:=f.size::a) (v:=ad) (x:=Q) P (λe g=>by have h1:=x e g;have h2:=u1.size;omega) u1 (Z.ext iC.mono s) (E.ext s) V (X.ext (p.trans s)) (Y.ext (p.trans s)) al ⟨V,V⟩ V λs' M' g' B' x'=>ap s' M' _ g' B' x' ⟨ab,aj,aa.1,by have:=aa.2;simp only;omega⟩
def Pm(P:∀f∈a,f<b.size){t:List bB}(u:eD b d r t c)(hk:yd t c False 95):uH 221 [.agg #[O.v d,O.v r]] b a t λB=>yd t B True 104500:=by
 apply Ji;simp -zeta only[aD,aC];intro p a2;obtain⟨F,y⟩:=dG (a:=p) (c:=a2) rfl rfl;have s1:p.size=b.size+1:=by simp[p]
 clear_value a2;have am:=u.iJ.len;have aA:=u.om;refine(fJ (b:=p.size::a) (bR P F.size (y _ D)) (u.le F.le).aT u.types).mono λ_ W⟨ah,g,ai,H⟩=>?_;subst g;refine⟨H.dm y,_,rfl,?_⟩;intro A aq ac;have u2:=F.trans H;obtain⟨x5,B0,g0,s3,s5⟩:=kO (b:=A.size::p.size::a) iC.mono (d:=W) (a:=A) (c:=aq) (h:=ac) rfl rfl rfl;clear_value ac;have T:∀f∈[p.size,b.size],f<W.size:=λf h=>H.lt (y f h);have Q:∀f∈p.size::a,f<W.size:=λf h=>H.lt (bR P F.size (y _ D) f h);refine kJ (R:=λe i M=>∃d r B,Value.agg #[O.v e,O.v i]=.agg #[O.v d,O.v r]/\eD (bO a M) d r t B/\yd t B True 104500/\J b M) (t:=c.length) (f:=b) (b:=a) iC.mono bh bh P ⟨V,T _ D⟩ u2 s3 ai am V x5 B0 g0 (λ_ q=>q.params.length<=3/\q.cJ.length<=3/\WB t c.length True q.params.length q.body/\q.body.w<=104500) (λe s U v h1 w i j o=>⟨e,s,U,rfl,⟨h1,w,u.types,V⟩,Ha hk.iL i j,o⟩) λap M st U ax μ aj az xM aa K au=>?_
 obtain⟨q,hq⟩:=ag (l:=c) (k:=ap) aj;obtain⟨al,ak,ao,hw⟩:=hk.dt q (ar hq);have C:=u2.trans xM;obtain⟨aw,aE,o,L,c2,c3,e0,e1,e2,e3,e4⟩:=u.iJ.E hq;have G:∀{ae:Value}{o v:Nat},af b o v=some ae->af M o v=some ae:=λN=>C.af N;refine⟨V,V,_,G e0,_,G e1,_,G e2,_,G e3,_,G e4,?_⟩;intro m7 j;have hy:=aa.bg;have ay:=K.lt;have zM:=xM.size;have Z:J M j:=(J.push M _).ai (ad _) _ _;have s8:j.size=M.size+1:=by simp[j,m7,av]
 clear_value j;have z:∀f∈[M.size,p.size,b.size],f<j.size:=λf h=>by
  rcases List.mem_cons.1 h with g|g
  ·omega
  ·have:=T f g;omega
 have X:=C.trans Z;have E:∀{M1 M2:I},J j M1->J j M2->∀o,o<j.size->∀v,af M2 o v=af M1 o v:=λN h' o hb v=>aN (by rw[h'.same o hb,N.same o hb]) v;have i:M.size<j.size:=V;have i1:b.size<j.size:=z _ D;have i2:A.size<j.size:=V;refine⟨st,(K.ext Z).cp 1,?_⟩;refine(HN (b:=[]) D (L.ext X) (c2.ext X) V).aI (J.aB j) z λow lo m9 go ho e _=>⟨_,rfl,E (J.aB _) e _ i _,E (J.aB _) e _ i _,E (J.aB _) e _ i _,E (J.aB _) e _ i1 _,E (J.aB _) e _ i1 _,E (J.aB _) e _ i _,E (J.aB _) e _ i _,E (J.aB _) e _ i _,E (J.aB _) e _ i _,E (J.aB _) e _ i _,E (J.aB _) e _ i2 _,?_⟩;have Y:=X.trans e;have z9:=e.size;have h:=ho.2;refine(Hz q.body (st.F::A.size::p.size::a) m9 (λf h=>?_) d r aw o ow q.params lo (u.le Y.le) (L.ext Y) (c3.le Y.le) ((go.done D V).le (bD _ _)) ⟨ho.1,V,V,ao⟩).aI e z λss b' aB an ab aF s=>⟨_,_,rfl,E e s _ i _,E e s _ i _,E e s _ i _,E e s _ i _,E e s _ i _,E e s _ i2 _,?_⟩
 ·simp only[aU]at h;rcases h with g|g|g|g
  ·omega
  ·omega
  ·have:=Q f (by simp[g]);omega
  ·have:=Q f (by simp[g]);omega
 have x:=Z.trans s;have uG:=s.size;exact vL (b:=p.size::a) (v:=ah) (x:=U) Q (λf h=>by have h1:=z f h;have w:=T f;simp only[aU]at h w;rcases h with g|g|g|g<;>first|omega|(have:=w (by simp[g]);omega)|simp at g) (xM.trans x) (aa.ext iC.mono x) (K.ext x) V (L.ext (C.trans x)) (c2.ext (C.trans x)) an ⟨V,V⟩ V λs' M' g' w x'=>au s' M' _ g' w x' ⟨al,ak,ab.1,by have:=ab.2;simp only;omega⟩
end
section
variable{x:cR}{b:List cR}{m e M:I}{j g f i:O}{c:List Nat}{d h:List Int}{a:Int}{K:O->I->Prop}
def Ap(a k:O)(m:I):dJ cw 243 [oW x a k] m (x.op=14\/x.op=15):=by
 apply FT;simp -zeta only[aD,aC];intro c;have b:J m c:=J.push _ _;refine⟨λh=>jG (Or.inl (by simpa using h)) b,λh=>ft ?_ b⟩;simp only[ak]at h;simp only[aF];omega
def Wz(b:List cR):Prop:=∀x∈b,x.args.length=1
def zc(b:List cR)(o:Int):Prop:=∃x∈b,o∈x.args
def Wz.at(h:Wz b){d:Nat}(a:b[d]? =some x):∃y,x.args[0]? =some y/\zc b y:=by
 have e:=h x (ar a);obtain⟨y,c⟩:=ag (l:=x.args) (k:=0) V;exact⟨y,c,x,ar a,ar c⟩
def NQ(s:eI m j b)(F:Wz b)(P:b.length<=1000000000000)(v:Int):sM 268 [O.v j,vi v] m λd=>-(b.length:Int)<=d/\d<=b.length:=by
 apply HG;have R:=s.len;refine dU (n:=b.length) V (λc d M=>J m M/\-(c:Int)<=d/\d<=(c:Int)) ⟨J.aB _,V,V⟩ ?_;rintro c d e I μ Q ⟨g,H,K⟩ G
 refine⟨λq=>?_,λq=>⟨d,rfl,⟨V,V⟩,g⟩⟩;simp only[au]at q;obtain⟨x,t⟩:=ag (l:=b) (k:=c) V;obtain⟨y,u,_⟩:=F.at t;obtain⟨a,T,r,_,C,_,_,E,_⟩:=s.E t;have L:=r.len;have S:=ax u;have w:=g.af C;have o:=g.af E;have p:=(r.ext g).E u;have A:cW (d+1)=d+1:=aQ V V;have B:cW (d -1)=d -1:=aQ V V;rw[A,B];have N:∀f,-((c+1:Nat):Int)<=f->f<=((c+1:Nat):Int)->I f (cW ((c:Int)+1)) e/\μ f (cW ((c:Int)+1)) e<μ d c e:=λf a z=>G V _ _ ⟨g,a,z⟩
 have D:(0:Int)<=(c:Int)/\(c:Int)<(j.len:Int)/\∃h:O,af e j.F (j.off+Int.toNat (c:Int)*5+3)=some (O.v h)/\(0:Int)<=(0:Int)/\(0:Int)<(h.len:Int)/\∃i:Int,af e h.F (h.off+Int.toNat (0:Int)*1)=some (vi i)/\
  ((i==v)=true->I (d -1) (cW ((c:Int)+1)) e/\μ (d -1) (cW ((c:Int)+1)) e<μ d c e)/\((i==v)=false->I d (cW ((c:Int)+1)) e/\μ d (cW ((c:Int)+1)) e<μ d c e):=
  ⟨V,V,a,o,V,V,y,p,λ_=>N _ V V,λ_=>N _ V V⟩
 exact⟨V,V,a,o,V,V,y,p,λ_=>⟨V,V,_,w,λ_=>N _ V V,λ_=>D⟩,λ_=>D⟩
def Mi(t:∀g∈c,g<m.size)(w:eI m j b)(p:Wz b)(L:b.length<=100000000000):kT 267 [O.v j] m c λd=>(∀o∈d,zc b o)/\d.length<=b.length:=by
 apply Gh;intro R;have P:=w.len;refine dU (n:=b.length) V (λq s M=>J m M/\∃d,GI c m M s d/\(∀o∈d,zc b o)/\d.length<=q) ⟨J.push m _,[],GI.nil c m,D,ad _⟩ ?_;rintro q s e I μ N ⟨f,d,r,y,v⟩ F
 refine⟨λh=>?_,λh=>⟨s,d,rfl,r,⟨y,V⟩,f⟩⟩;simp only[au]at h;obtain⟨x,z⟩:=ag (l:=b) (k:=q) V;obtain⟨B,A,C⟩:=p.at z;obtain⟨a,W,u,_,H,_,_,i,_⟩:=w.E z;have K:=u.len;have Q:=ax A;refine⟨V,V,a,f.af i,V,V,B,(u.ext f).E A,?_⟩;refine(mr (S:=c) (λg v=>aP (t g v) f.size) (r.done t V) B V).then λU E T i g G=>⟨_,rfl,F V _ _ ⟨f.trans G,E,i.bY (λ_ h=>h) f.size,λo p=>?_,by have:=g.2;omega⟩⟩;rcases g.1 o p with h|h
 ·exact y o h
 ·subst h;exact C
structure vo(c:List Nat)(m e M:I)(g f i:O)(d lr h:List Int):Prop where
 x:J m M
 gd:GI c m M g d
 gr:GI c m M f lr
 gv:GI [] e M i h
 n1:g.F≠f.F
 n2:g.F≠i.F
 n3:f.F≠i.F
def vo.ext{c:List Nat}{m e M b:I}{g f i:O}{d j h:List Int}(T:vo c m e M g f i d j h)(a:J M b):vo c m e b g f i d j h:=
 ⟨T.x.trans a,T.gd.ext a,T.gr.ext a,T.gv.ext a,T.n1,T.n2,T.n3⟩
def vo.Zf{j:List Int}(T:vo c m e M g f i d j h)(s:∀b∈c,b<m.size)(t:d.length<=1000000000000)(u:∀r b,vo c m e b r f i (d++[a]) j h->K r b):
 jE (M.push (.cells (bG [.i a]) aE)) aE [.i 0] 8 g (.mk M.size 0 1 1) K:=by
 have o:=T.gr.bg;have p:=T.gv.bg;have v:=T.n1;have w:=T.n2
 refine GI.kv T.gd (T.x.fz []) s t λr b n l z q=>u r b ⟨l.ext,n,T.gr.jf (q _ o.2 T.n1.symm),T.gv.jf (q _ p.2 T.n2.symm),?_,?_,T.n3⟩<;>rcases z.2 with k|k<;>omega
def vo.Rf{j:List Int}(T:vo c m e M g f i d j h)(s:∀b∈c,b<m.size)(t:j.length<=1000000000000)(u:∀r b,vo c m e b g r i d (j++[a]) h->K r b):
 jE (M.push (.cells (bG [.i a]) aE)) aE [.i 0] 8 f (.mk M.size 0 1 1) K:=by
 have o:=T.gd.bg;have p:=T.gv.bg;have v:=T.n1;have w:=T.n3
 refine GI.kv T.gr (T.x.fz []) s t λr b n l z q=>u r b ⟨l.ext,T.gd.jf (q _ o.2 T.n1),n,T.gv.jf (q _ p.2 T.n3.symm),?_,T.n2,?_⟩<;>rcases z.2 with k|k<;>omega
def UH(b:List cR)(d:List cR):Prop:=∃c a:List Int,d=c.map (eQ 14)++a.map (eQ 15)/\(∀o∈c,zc b o)/\(∀o∈a,zc b o)/\c.length+a.length<=b.length*b.length
def xT(x:∀v∈c,v<m.size)(hl:eI m j b)(a:Wz b)(A:b.length<=500000):QB 244 [O.v j] m c (UH b):=by
 apply Cv;intro t e;have U:J m e:=(J.push m _).trans (J.push t _);have s1:t.size=m.size+1:=by simp[t]
 have Y:GI c m e (.mk m.size 0 0 0) []:=(GI.nil c m).ext (J.push t _);have Z:GI c m e (.mk t.size 0 0 0) []:=(GI.nil c t).bY (λ_ H=>H) V;clear_value e;have ak:b.length*b.length<=250000000000:=cg (Lq A A) bh;refine(Mi (c:=[]) D (hl.le U.le) a V).then λi h m3 G Q W=>⟨_,rfl,?_⟩;have hv:ap m3 i h:=(G.done D (by have:=Q.2;omega)).le (bD _ _);have aq:=hv.len;have ao:=Q.2;have ai:=U.trans W;have av:=G.bg;have ax:=U.size;refine wK (n:=h.length) V (λr g f M=>∃d p,vo c m e M g f i d p h/\(∀o∈d,zc b o)/\(∀o∈p,zc b o)/\d.length+p.length<=r*b.length) ⟨[],[],⟨ai,Y.ext W,Z.ext W,G,bJ,by have:=Y.bg;omega,by have:=Z.bg;omega⟩,D,D,D⟩ ?_;rintro r g f m4 aj μ hi ⟨d,p,T,hd,hr,hc⟩ af
 have ad:r*b.length<=b.length*b.length:=db _ V;have K:∀{M:I}{g f:O}{d p:List Int},vo c m e M g f i d p h->ap M i h:=λT=>(T.gv.done D V).le (bD _ _);refine dit (λH=>?_) λH=>?_
 ·obtain⟨z,B⟩:=ag (l:=h) (k:=r) V;have ac:=Q.1 z (ar B);refine⟨V,V,z,(K T).E B,?_⟩;refine(NQ (hl.le T.x.le) a V z).then λy m5 hn u=>⟨_,rfl,?_⟩;have an:(r+1)*b.length=r*b.length+b.length:=pU _ _;refine⟨λg q M=>q<=y/\(y<=0->q=y)/\(0<y->0<=q)/\∃L,vo c m e M g f i L p h/\(∀o∈L,zc b o)/\L.length+p.length+q.toNat<=r*b.length+y.toNat,λ_ q _=>q.toNat,⟨V,V,V,d,T.ext u,hd,V⟩,?_⟩;rintro ah q m6 ⟨n1,n2,n3,N,C,aa,al⟩;refine dit (λh1=>?_) λh1=>?_
  ·refine⟨V,V,z,(K C).E B,?_⟩;intro s;have w:cW (q -1)=q -1:=aQ V V;rw[w];exact C.Zf x V λR X E=>⟨⟨V,V,V,_,E,λo a=>by
    rcases List.mem_append.1 a with a|a
    ·exact aa o a
    ·simp at a;subst a;exact ac,bJ⟩,by dsimp only;omega⟩
  ·refine⟨λf s M=>q<=s/\s<=0/\∃P,vo c m e M ah f i N P h/\(∀o∈P,zc b o)/\N.length+P.length+(-s).toNat<=r*b.length+b.length,λ_ s _=>(-s).toNat,⟨V,V,p,C,hr,V⟩,?_⟩;rintro aw s m8 ⟨p1,p2,ae,F,ab,am⟩;refine⟨λh2=>?_,λh2=>?_⟩
   ·simp only[au]at h2;refine⟨V,V,z,(K F).E B,?_⟩;intro m9;have w:cW (s+1)=s+1:=aQ V V;rw[w];exact F.Rf x V λR X E=>⟨⟨V,V,_,E,λo a=>by
     rcases List.mem_append.1 a with a|a
     ·exact ab o a
     ·simp at a;subst a;exact ac,bJ⟩,by dsimp only;omega⟩
   ·exact af V _ _ _ ⟨N,ae,F,aa,ab,V⟩
 ·have q:∀v∈c,v<m4.size:=λv hc=>by have:=x v hc;have:=T.x.size;omega
  refine(eO (c:=c) q 14 ((T.gd.done x V).le (bD _ _)) V).mono λ_ m5⟨s1,P,o,s,w,u⟩=>?_;subst o;subst w;refine⟨_,rfl,?_⟩;have B:=T.ext u;have y:=s.bg;refine(eO (c:=s1.F::c) (bR q u.size y.2) 15 ((B.gr.done x V).le (bD _ _)) V).mono λ_ m6⟨s2,l2,o,F,C,z⟩=>?_;subst o;subst C;refine⟨_,rfl,?_⟩;refine GS.all (s.ext gH.mono z) ((u.trans z).fz []) (F.done gH.mono (bR q u.size y.2) bh bJ) bJ λR X L E _ _=>⟨R,_,rfl,L.bY gH.mono (λN A=>Or.inl A) T.x.size,⟨d,p,rfl,hd,hr,?_⟩,T.x.trans E.ext⟩;have:r*b.length<=b.length*b.length:=ad;omega
end
section
variable{a c:Nat}
def HZ(a b:Nat):a*a+b*b<=(a+b)*(a+b):=by
 rw[gA,Nat.mul_add,Nat.mul_add];omega
def Pp{b:Nat}(h:a<=b):a*a<=b*b:=Lq h h
structure CN(ds:List bB)(c:Nat)(S:List Nat)(m2 M:I)(a:Nat)(aA:List cR)(k:Nat)(st run:O)(lo lr:List cR)(P:Nat):Prop where
 x:J m2 M
 gs:GS (run.F::S) m2 M st lo
 gr:GS [st.F] m2 M run lr
 wl:WL ds c True a lo
 WD:dc lo=dc (aA.take k)
 sws:sw lo<=P*P
 P':P+2*lr.length<=sw (aA.take k)
 kK:Wz lr
 WK:∀o,zc lr o->0<=o/\o<((a+dc (aA.take k):Nat):Int)
 ne:st.F≠run.F
def Pj{f:List bB}{l b:List cR}(h:UH l b)(e:∀o,zc l o->0<=o/\o<(a:Int)):WL f c True a b/\dc b=0/\sw b<=(2*l.length)*(2*l.length):=by
 obtain⟨k,j,rfl,g,i,m⟩:=h;refine⟨(rI V λo d=>e o (g o d)).append ?_,?_,?_⟩
 ·rw[jO V];exact rI V λo d=>e o (i o d)
 ·rw[cT,jO V,jO V]
 ·rw[dy,oh,oh];have:(2*l.length)*(2*l.length)=4*(l.length*l.length):=by
   rw[Nat.mul_mul_mul_comm]
  omega
def YY(e:List bB)(c:Nat)(b:Bk):Prop:=∀(S:List Nat)(m:I),(∀d∈S,d<m.size)->∀(t:O)(a:Nat),eI m t b.aA->WB e c True a b->b.w<=400000->nk 228 [.agg #[O.v t,vi b.aV]] m S λd=>WB e c True a d/\d.w<=b.w*b.w
def DO{O:List bB}:∀g:Bk,YY O c g:=by
 refine Bk.ind ?_;intro aA bj ih u N hS bV a hs a_ hw;have aL:=a_.aW;rw[Bk.qA]at hw⊢;simp only[Bk.jN,Bk.jd]at*;apply wV;simp -zeta only[aD,aC];intro j m U m3;obtain⟨x1,hl⟩:=dG (a:=j) (c:=m) rfl rfl;have s0:j.size=N.size+1:=by simp[j]
 have s1:m.size=N.size+2:=by simp[m,s0]
 have bn:J m m3:=(J.push m _).trans (J.push U _);have s2:U.size=m.size+1:=by simp[U]
 have a2:∀w,GS w m m3 (.mk m.size 0 0 0) []:=λw=>(GS.new w m).ext gH.mono (J.push U _);have a1:∀w,GS w m m3 (.mk U.size 0 0 0) []:=λw=>(GS.new w U).bY gH.mono (λg p=>Or.inl p) V;clear_value m3;clear_value m;have a9:=hs.len;have aK:=AZ aA;have bC:=fO aA;have aE:∀e∈j.size::u,e<m.size:=bR hS x1.size (hl _ D);refine wK (n:=aA.length) (a9▸hs.fS) (λy K B s=>∃lo v P,CN O c (j.size::u) m s a aA y K B lo v P) ⟨[],[],0,bn,a2 _,a1 _,WL.nil _ _ _ _,rfl,D,D,λ_ h=>by simp at h,λah⟨_,h,_⟩=>by simp at h,bJ⟩ ?_;rintro y K B A bp μ hk ⟨lo,v,P,C⟩ aM
 have X:=C.x;have W:=x1.trans X;have bM:=C.gs.bg;have bL:=C.gr.bg;have z4:=X.size;have aB:=C.P';have bE:=aK y;have br:P*P<=160000000000:=cg (Pp (b:=400000) V) bh;have bA:=fO lo;have a7:=C.sws;have aI:=C.ne;have Q:∀{s:I}{w:List Nat},A.size<=s.size->(∀e∈w,e<s.size)->∀e∈w++j.size::u,e<s.size:=λh p e f=>by
  rcases List.mem_append.1 f with h|h
  ·exact p e h
  ·have:=aE e h;omega
 have aJ:∀{s:I},J A s->eI s B v:=λh=>eI.le (bD _ _) ((C.gr.ext gH.mono h).nE gH.mono (by simpa using aI.symm) bh V);refine dit (λh=>?_) λh=>?_
 ·obtain⟨d,hx⟩:=ag (l:=aA) (k:=y) V;obtain⟨pa,pk,ha,ac,g0,g1,g2,g3,g4⟩:=hs.E hx;refine⟨V,V,_,W.af g0,_,W.af g1,_,W.af g2,_,W.af g3,_,W.af g4,?_⟩;intro m5 H;have x6:J A H:=(J.push A _).ai (ad _) _ _;have s6:H.size=A.size+1:=by simp[H,m5,av]
  clear_value H;have T:∀{s:I},H.size<=s.size->∀g∈[A.size,j.size,N.size],g<s.size:=λh g p=>by
   rcases List.mem_cons.1 p with i|i
   ·omega
   ·have:=hl g i;omega
  have bH:=pN hx;have bG:=qF hx;have bb:=cR.mf d;have aa:=aL.1 y d hx;have bF:=aK (y+1);have bt:=pY d.bE;refine(Ap pa pk H).aI (J.aB H) (T (ad _)) λbq m7 a4 x7 _=>⟨_,rfl,λhp=>?_,λhp=>?_⟩
  · -- a pair goes to the run
   have hp:=a4.1 hp;have G:d.args.length=1:=aa.eR.kK V;have ab:dn d=0:=ae λh:oZ d.op=>by have:=h.2;omega
   have E:=x6.trans x7;have R:=W.trans E;intro m8;have r:Le N (bO (B.F::[K.F]) m7):=(zJ N).trans ((R.fz []).bO D λe f=>by simp at f;have:=x1.size;exact Or.inr V);refine GS.kv (x:=d) (C.gr.ext gH.mono E) ((X.trans E).fz []) (ha.le r) (ac.le r) V λa0 M' Z F z t=>⟨λe f=>?_,aM V _ _ _ ⟨lo,v++[d],P,F.ext,(C.gs.ext gH.mono E).re gH.mono (Y:=[B.F]) ⟨z.1,λe f o=>t e f (by simpa using o)⟩ D (by simpa using aI) (λe f=>?_),Z,C.wl,by rw[C.WD];omega,a7,bJ,λam q=>?_,λah L=>?_,?_⟩⟩
   ·have:=T (s:=m7) x7.size e f;rw[t e this (by simp at f;omega),(J.push m7 _).same e this]
   ·rcases List.mem_cons.1 f with i|i
    ·rcases z.2 with o|o
     ·exact Or.inl (by rw[i,o];exact ba)
     ·exact Or.inr V
    ·exact Or.inl (aj _ i)
   ·rcases List.mem_append.1 q with q|q
    ·exact C.kK am q
    ·simp at q;subst q;exact G
   ·obtain⟨am,q,o⟩:=L;have i:dc (aA.take (y+1))=dc (aA.take y):=V;rw[i];rcases List.mem_append.1 q with q|q
    ·exact C.WK ah ⟨am,q,o⟩
    ·simp at q;subst q;exact aa.eR.args ah o
   ·have:=(C.gs.ext gH.mono E).bg;rcases z.2 with i|i<;>omega
  · -- another step ends the run
   have E:=x6.trans x7;have aT:=E.size;refine(xT (c:=[K.F,B.F]++j.size::u) (Q aT bJ) (aJ E) C.kK V).aI (J.aB m7) (T x7.size) λbT bc bN aY bg aP _=>⟨_,rfl,?_⟩;obtain⟨ap,ai,bl⟩:=Pj (f:=O) (c:=c) bg C.WK;have bx:=fO bc;have uG:=aP.size;have z7:=x7.size;have a3:(2*v.length)*(2*v.length)<=160000000000:=cg (Pp (b:=400000) V) bh;have aR:=E.trans aP;refine GS.all (C.gs.ext gH.mono aR) ((X.trans aR).fz []) (aY.done gH.mono (Q (w:=[K.F,B.F]) aT bJ) bh V) V λz o az aW aS bi=>⟨λe f=>bi e (T V e f) (by simp at f;omega),?_⟩;have au:J m o:=aW.ext;have bW:=aS.1;have bI:=az.bg;have bs:z.F=K.F\/H.size<=z.F:=by have:=aS.2;omega
   intro r ao;have aQ:J o r:=J.push o _;have bU:r.size=o.size+1:=by simp[r]
   have bm:J r ao:=J.push r _;have ay:=au.trans aQ;have gn:GS [z.F] m r (.mk o.size 0 0 0) []:=(GS.new _ o).bY gH.mono (λg p=>Or.inl p) au.size;have gk:GB ([z.F,o.size]++j.size::u) r ao (.mk r.size 0 0 0) []:=GB.new _ r;have aZ:GS ([o.size]++j.size::u) m r z _:=az.re gH.mono (Y:=[]) (aQ.fz []) D D λe f=>by
    rcases List.mem_cons.1 f with i|i
    ·exact Or.inr V
    ·exact Or.inl (aj _ i)
   clear_value ao;clear_value r;have an:=ac.len;have bu:=JX d.bE;have bv:bw d.bE<=400000:=V;refine dU (n:=d.bE.length) (an▸ac.fS) (λG bk s=>J r s/\∃t,GB ([z.F,o.size]++j.size::u) r s bk t/\t.length=G/\(∀(F:Nat)(g:Bk),t[F]? =some g->WB O c True (a+dc (aA.take y)+Be O d.op d.bN F) g)/\bw t<=bw (d.bE.take G)*bw (d.bE.take G)) ⟨bm,[],gk,rfl,D,D⟩ ?_;rintro G ks af I2 μ2 hj ⟨ab,t,Z,bz,aH,a5⟩ bf;have aU:=ay.trans ab;have ak:=x1.trans aU;have bX:=ab.size;have bK:=Z.bg;have R:∀g∈[A.size,j.size,N.size],g<af.size:=T V;refine dit (λh2=>?_) λh2=>?_
   ·obtain⟨g,p⟩:=ag (l:=d.bE) (k:=G) V;obtain⟨tb,aX,f0,f1⟩:=ac.E p;have a6:=wH p;have aO:=ue p;refine⟨V,V,_,ak.af f0,_,ak.af f1,?_⟩;refine(ih d (ar hx) g (ar p) ([ks.F,z.F,o.size]++j.size::u) af (Q V bJ) tb _ (aX.le ak.le) (aa.bE G g p) V).aI (J.aB af) R λss b' a8 aV aF aq _=>⟨_,_,rfl,?_⟩;refine GB.kv (c:=b') (Z.ext rC.mono aq) ((ab.trans aq).fz []) aV V λa0 M' g2 f2 z2 q2=>⟨J.oC ((ab.trans aq).aK _) f2.ext (λe f=>by have:=T (s:=r) V e f;omega),bf V _ _ ⟨f2.ext,_,g2,bJ,λF b2 L=>?_,?_⟩⟩
    ·rcases be F t.length with al|al
     ·rw[aw al]at L;exact aH F b2 L
     ·rw[aG al]at L;have:F -t.length=0:=by have:=ax L;simp at this;omega
      rw[this]at L;simp at L;subst L;have:F=G:=V;subst this;exact aF.1
    ·rw[oL,ud,zk,aO];have h3:=HZ (bw (d.bE.take G)) g.w;have:=aF.2;omega
   ·have a6:t.length=d.bE.length:=V;rw[cN V]at a5;refine(bP ([z.F,o.size]++j.size::u) (ha.ext ak) V).aI (J.aB af) R λs' l' bd ga i L _=>⟨_,rfl,aN (L.same _ (R _ D)) _,aN (L.same _ (R _ D)) _,aN (L.same _ (R _ D)) _,?_⟩;subst i;intro bQ;have al:=ab.trans L;have bY:=L.size;have aq:∀e∈[z.F,o.size]++j.size::u,e<r.size:=Q V bJ;have a8:z.F≠o.size:=V;refine GS.kv (x:=⟨d.op,d.bN,d.bW,d.args,t⟩) (aZ.ext gH.mono al) ((ay.trans al).fz []) (ga.done (λe f=>by have:=aq e f;omega) V) (nD.le (L.da _) (Z.done rC.mono aq bh (by show t.length<=_;omega))) bJ λaO bS a0 aX bo aF=>⟨λe f=>?_,aM V _ _ _ ⟨_,[],P+2*v.length+d.w,aX.ext,a0,?_,((C.wl.append (by rw[C.WD];exact ap)).yy (aa.OY id aa.eR.bW a6 aH|>λh=>by rw[cT,C.WD,ai,ju];exact h)),?_,?_,bJ,λ_ h=>by simp at h,λah⟨_,h,_⟩=>by simp at h,?_⟩⟩
    ·have h3:=R e f;rw[aF e V (by simp at f;omega),(J.push bd _).same e V]
    · -- the new run is empty
     have i:=gn.ext gH.mono al;obtain⟨p0,aV,p1,p2⟩:=i;refine⟨p0,aV,p1.congr (aF _ (by have:=al.size;show o.size<_;omega) (kd a8)),p2.len,p2.size,λF cs am _ q=>by simp at q⟩
    ·rw[cT,cT,C.WD,ai,kC,sQ];have i:dn (⟨d.op,d.bN,d.bW,d.args,t⟩:cR)=dn d:=rfl;omega
    ·rw[dy,dy,mE,va];have h3:=HZ P (2*v.length);have h4:=HZ (P+2*v.length) d.w;have h5:(⟨d.op,d.bN,d.bW,d.args,t⟩:cR).w=1+d.args.length+bw t:=cR.mf _;have q:=HZ (1+d.args.length) (bw d.bE);have h7:1+d.args.length<=(1+d.args.length)*(1+d.args.length):=Nat.le_mul_of_pos_left _ V;rw[<-bb]at q;omega
    ·rcases bo.2 with i|i
     ·show aO.F≠o.size;omega
     ·show aO.F≠o.size;omega
 ·have an:y=aA.length:=V;subst an;rw[eZ]at aB;have E:dc (aA.take aA.length)=dc aA:=by rw[eZ]
  have i:∀g∈[j.size,N.size],g<A.size:=λg p=>X.lt (hl g p);refine(xT (c:=[K.F,B.F]++j.size::u) (Q (ad _) bJ) (aJ (J.aB _)) C.kK V).aI (J.aB A) i λZ o L t F d _=>⟨_,rfl,aN (d.same _ (i _ D)) _,?_⟩;obtain⟨ap,ai,bl⟩:=Pj (f:=O) (c:=c) F C.WK;have H:=fO o;have a3:(2*v.length)*(2*v.length)<=160000000000:=cg (Pp (b:=400000) V) bh;have aa:=d.size;refine GS.all (C.gs.ext gH.mono d) ((X.trans d).fz []) (t.done gH.mono (Q (w:=[K.F,B.F]) (ad _) bJ) bh V) V λG R z r ab q=>⟨λe f=>q e (d.lt (i e f)) (by have:=hl e f;omega),aN (q _ (d.lt (i _ D)) V) _,?_⟩;intro T;refine⟨G,.mk (lo++o) bj,rfl,eI.le (cz D λe f=>aj _ f) ((z.re gH.mono (S':=j.size::u) (Y:=[]) (Fz.aB _ _) D D (λe f=>Or.inl (aj _ f))).done gH.mono aE bh bJ),⟨WB.of (C.wl.append (by rw[C.WD];exact ap)) ?_,?_⟩,(x1.trans r.ext).ai V _ _⟩
  ·rw[cT,C.WD,ai,E];exact aL.2
  ·rw[Bk.qA,dy];have h3:=HZ P (2*v.length);have h4:=Pp aB;have h5:=HZ 1 (sw aA);omega
end
section
variable{e:List Nat}{c:I}{d f:O}{g:List gC}{W:Nat}
def Hr(I:∀a∈e,a<c.size){j:List bB}(r:eD c d f j g)(hW:W<=400000)(hk:yd j g True W):uH 195 [.agg #[O.v d,O.v f]] c e j λx=>yd j x True (W*W):=by
 apply Ab;simp -zeta only[aD,aC];intro b Q;obtain⟨A,v⟩:=dG (a:=b) (c:=Q) rfl rfl;have s1:b.size=c.size+1:=by simp[b]
 clear_value Q;have ak:=r.iJ.len;have av:=r.om;refine(fJ (b:=b.size::e) (bR I A.size (v _ D)) (r.le A.le).aT r.types).mono λ_ N⟨ac,o,ae,B⟩=>?_;subst o;refine⟨B.dm v,_,rfl,?_⟩;intro P ao ab;have u2:=A.trans B;obtain⟨x5,B0,g0,s3,s5⟩:=kO (b:=P.size::b.size::e) iC.mono (d:=N) (a:=P) (c:=ao) (h:=ab) rfl rfl rfl;clear_value ab;have w:∀a∈[b.size,c.size],a<N.size:=λa i=>B.lt (v a i);have K:∀a∈b.size::e,a<N.size:=λa i=>B.lt (bR I A.size (v _ D) a i);refine kJ (R:=λh p M=>∃d f x,Value.agg #[O.v h,O.v p]=.agg #[O.v d,O.v f]/\eD (bO e M) d f j x/\yd j x True (W*W)/\J c M) (t:=g.length) (f:=c) (b:=e) iC.mono bh bh I ⟨V,w _ D⟩ u2 s3 ae ak V x5 B0 g0 (λ_ q=>q.params.length<=3/\q.cJ.length<=3/\WB j g.length True q.params.length q.body/\q.body.w<=W*W) (λh u L y Z h2 p s t=>⟨h,u,L,rfl,⟨Z,h2,r.types,V⟩,Ha hk.iL p s,t⟩) λan M st L aq μ ah au C Y E ap=>?_
 obtain⟨q,hq⟩:=ag (l:=g) (k:=an) ah;obtain⟨aj,ai,am,hw⟩:=hk.dt q (ar hq);have z:=u2.trans C;obtain⟨aw,ax,h,c1,c2,c3,T,U,X,F,H⟩:=r.iJ.E hq;have G:∀{y:Value}{h s:Nat},af c h s=some y->af M h s=some y:=λu=>z.af u;refine⟨st,E.cp 1,V,V,_,G T,_,G U,_,G X,_,G F,_,G H,V,V,_,G F,_,G H,?_⟩;have hy:=Y.bg;have ad:=E.lt;have zM:=C.size;refine(DO q.body (st.F::P.size::b.size::e) M (λa i=>?_) h q.params.length (c3.le z.le) am V).aI C w λss b' M1 al aa p u1=>⟨_,_,rfl,?_⟩
 ·simp only[aU]at i;rcases i with o|o|o|o
  ·omega
  ·omega
  ·have:=K a (by simp[o]);omega
  ·have:=K a (by simp[o]);omega
 have t:∀{y:Value}{h s:Nat},af c h s=some y->af M1 h s=af M h s:=λu=>by rw[p.af (G u),G u]
 refine⟨t T,t U,t X,t F,t H,aN (p.same _ (C.lt (w _ D))) _,aN (p.same _ ad) _,?_⟩;exact vL (b:=b.size::e) (v:=ac) (x:=L) K (λa i=>by have Z:=w a i;have h2:=u1.size;omega) u1 (Y.ext iC.mono p) (E.ext p) V (c1.ext (z.trans p)) (c2.ext (z.trans p)) al ⟨V,V⟩ V λs' M' g' Z x'=>ap s' M' _ g' Z x' ⟨aj,ai,aa.1,cg aa.2 (Pp hw)⟩
def WT(b:Bk):Prop:=∀(e:List Nat)(c:I),(∀a∈e,a<c.size)->∀t:O,eI c t b.aA->b.w<=1000000000000->nk 285 [.agg #[O.v t,vi b.aV]] c e (b=·)
def xR(N:∀i∈e,i<c.size){B E:O}{x:cR}(P:ap c B x.args)(w:nD c E x.bE)(hw:x.w<=1000000000000)(T:∀h∈x.bE,WT h):JN 316 [oW x B E] c e (x=·):=by
 apply BV;simp -zeta only[aD,aC];intro d a A;obtain⟨G,y⟩:=dG (a:=d) (c:=a) rfl rfl;have W:d.size=c.size+1:=by simp[d]
 have s1:a.size=c.size+2:=by simp[a,W]
 have Y:J a A:=J.push _ _;have I:GB (d.size::e) a A (.mk a.size 0 0 0) []:=GB.new _ a;clear_value A;clear_value a;have u:∀i∈d.size::e,i<a.size:=bR N G.size (y _ D);have Q:=w.len;have ad:=cR.mf x;have ab:=pY x.bE;refine dU (n:=x.bE.length) (Q▸w.fS) (λz s M=>J a M/\GB (d.size::e) a M s (x.bE.take z)) ⟨Y,I⟩ ?_;rintro z s r aa μ hj ⟨p,q⟩ U
 have o:=G.trans p;have m:∀h∈[d.size,c.size],h<r.size:=λh j=>p.lt (y h j);have S:=q.bg;have Z:=p.size;refine dit (λL=>?_) λL=>?_
 ·obtain⟨h,j⟩:=ag (l:=x.bE) (k:=z) V;obtain⟨X,R,C,H⟩:=w.E j;have ac:=wH j;refine⟨V,V,_,o.af C,_,o.af H,?_⟩;refine(T h (ar j) (s.F::d.size::e) r (bR u Z S.2) X (R.le o.le) V).aI (J.aB r) m λss b' F M t g _=>⟨_,_,rfl,?_⟩;subst t;refine GB.kv (c:=h) (q.ext rC.mono g) ((p.trans g).fz []) M bJ λf M' K v z2 q2=>⟨J.oC ((p.trans g).aK _) v.ext y,U V _ _ ⟨v.ext,?_⟩⟩;rw[bn j];exact K
 ·rw[cN V]at q;refine(bP (d.size::e) (P.ext o) V).aI (J.aB r) m λM R F H t g _=>⟨_,rfl,aN (g.same _ (m _ D)) _,aN (g.same _ (m _ D)) _,aN (g.same _ (m _ D)) _,?_⟩;subst t;intro K;have C:Le (bO (d.size::e) F) (bO e K):=cz D λi v=>aj _ v;exact⟨M,s,x,rfl,(H.done (λi v=>by have:=u i v;omega) V).le C,nD.le C ((q.ext rC.mono g).done rC.mono u bh V),rfl,(o.trans g).ai V _ _⟩
def vU:∀j:Bk,WT j:=by
 refine Bk.ind ?_;intro aA h ih e c hS ao C hw;rw[Bk.qA]at hw;simp only[Bk.jN,Bk.jd]at*;apply rh;simp -zeta only[aD,aC];intro f b d F u;obtain⟨N,A⟩:=dG (a:=f) (c:=b) rfl rfl;have s0:f.size=c.size+1:=by simp[f]
 have s1:b.size=c.size+2:=by simp[b,s0]
 have s2:d.size=b.size+1:=by simp[d]
 have s3:F.size=d.size+1:=by simp[F]
 have O:J d u:=(J.push d _).ai (ad _) _ _;have ak:J b u:=(J.push b _).trans O;have z:GS (d.size::f.size::e) b u (.mk b.size 0 0 0) []:=(GS.new _ b).ext gH.mono O;have P:cF u d.size de [.s (.mk b.size 0 0 0),.i h]:=cF.ai (m:=F) (o:=0) (r:=[.s (.mk b.size 0 0 0),.i h]) (cF.push d _ _);clear_value u;have I:∀w∈f.size::e,w<b.size:=bR hS N.size (A _ D);have ah:=C.len;have am:=fO aA;refine eU (n:=aA.length) (ah▸C.fS) (λE M=>J b M/\∃s,GS (d.size::f.size::e) b M s (aA.take E)/\cF M d.size de [.s s,.i h]) ⟨ak,_,z,P⟩ ?_;rintro E G al μ hk ⟨y,s,q,B⟩ ai
 have g:=N.trans y;have af:∀j∈[f.size,c.size],j<G.size:=λj hb=>y.lt (A j hb);have hy:=q.bg;have z5:=y.size;have H:=B.lt;refine dit (λaa=>?_) λaa=>?_
 ·obtain⟨L,x⟩:=ag (l:=aA) (k:=E) V;obtain⟨pa,pk,ha,ae,z,W,X,Y,Z⟩:=C.E x;have an:=NX x;refine⟨s,B.cp 0,V,V,_,g.af z,_,g.af W,_,g.af X,_,g.af Y,_,g.af Z,?_⟩;refine(xR (e:=s.F::d.size::f.size::e) (bR (bR I z5 H) (ad _) hy.2) (ha.ext g) (ae.le g.le) V (ih L (ar x))).aI (J.aB G) af λQ R x' K ab ac p v _=>⟨_,_,_,_,_,rfl,aN (v.same _ H) _,?_⟩;subst p;intro m7;refine Gr.box (g:=[.i 0,.i 0,.i 0,.s .nil,.s .nil]) (j:=0) (o:=[.s s,.i h]) (y:=L) gH.mono bh (q.ext gH.mono v) ((y.trans v).fz []) ⟨Q,R,rfl,ab,ac⟩ bJ (B.ext v) D bh ⟨V,D⟩ (λw t=>by have M:=A w t;have T:=v.size;omega) λr' m' U M T z' q'=>ai V _ ⟨T.ext,r',?_,M⟩
  rw[bn x];exact U
 ·rw[cN V]at q;refine⟨s,B.cp 0,h,B.cp 1,?_⟩;intro K;have x:=q.ne B bh;have v:Le (bO (d.size::f.size::e) G) (bO e K):=cz D λw t=>aj _ (aj _ t);refine⟨s,.mk aA h,rfl,eI.le v (q.nE gH.mono (λt=>?_) bh (by show aA.length<=_;omega)),rfl,g.ai V _ _⟩;rcases List.mem_cons.1 t with p|p
  ·exact x p
  ·have:=I _ p;omega
def YW(b:Bk):Prop:=∀(c:I)(t:O)(f:Int),eI c t b.aA->oJ 317 [.agg #[O.v t,vi b.aV],vi f] c
def I5:∀d:Bk,YW d:=by
 refine Bk.ind ?_;intro aA aa N c t v p;simp only[Bk.jN,Bk.jd]at*;apply BT;simp -zeta only[aD,aC];intro h;have C:J c h:=J.push _ _;have H:∀d∈[c.size],d<h.size:=by simp[h]
 clear_value h;have K:=p.len;refine eU (n:=aA.length) (K▸p.fS) (λ_ M=>J h M) (J.aB _) ?_;rintro a q D μ hk u R
 have i:=C.trans u;refine⟨λm=>?_,λ_=>rA i⟩;simp only[au]at m;obtain⟨x,y⟩:=ag (l:=aA) (k:=a) V;obtain⟨pa,z,ha,o,E,F,Y,Z,w⟩:=p.E y;have G:=o.len;have L:∃(j:Int->I->Prop)(μ0_1:Int->I->Nat),j (0:Int) q/\(∀(b:Int)(M:I),j b M->
  (0:Int)<=(a:Int)/\(a:Int)<(t.len:Int)/\∃s:O,af M t.F (t.off+Int.toNat (a:Int)*5+4)=some (O.v s)/\
  ((decide (b<(s.len:Int)))=true->(0:Int)<=(a:Int)/\(a:Int)<(t.len:Int)/\∃e:O,af M t.F (t.off+Int.toNat (a:Int)*5+4)=some (O.v e)/\
   (0:Int)<=b/\b<(e.len:Int)/\∃A:O,af M e.F (e.off+Int.toNat b*2)=some (O.v A)/\∃B:Int,af M e.F (e.off+Int.toNat b*2+1)=some (vi B)/\
   aO cw 317 [.agg #[O.v A,vi B],vi v] M λf g=>eE [c.size] M g/\∃r:Bool,f=vb r/\(r=true->∃d:Bool,vb true=.bool d/\J c g)/\(r=false->j (cW (b+(1:Int))) g/\μ0_1 (cW (b+(1:Int))) g<μ0_1 b M))/\
  ((decide (b<(s.len:Int)))=false->D (cW ((a:Int)+(1:Int))) M/\μ (cW ((a:Int)+(1:Int))) M<μ a q)):=by
  refine eU (n:=x.bE.length) (G▸o.fS) (λ_ M=>J q M) (J.aB _) ?_
  rintro P M W μ2 hj e Q
  have b:=i.trans e
  refine⟨V,V,z,b.af w,λm=>?_,λ_=>R V _ (u.trans e)⟩
  simp only[au]at m
  obtain⟨d,r⟩:=ag (l:=x.bE) (k:=P) V
  obtain⟨S,B,s,A⟩:=o.E r
  refine⟨V,V,z,b.af w,V,V,_,b.af s,_,b.af A,?_⟩
  exact(N x (ar y) d (ar r) M S v (B.le b.le)).aI (u.trans e) H λX g U T=>⟨_,rfl,λ_=>rA (C.trans T),λ_=>Q V _ (e.trans U)⟩
 exact⟨V,V,_,i.af E,λ_=>⟨V,V,_,i.af F,λ_=>rA i,λ_=>L⟩,λ_=>L⟩
def Jd{q:List bB}(h:eD c d f q g)(i:Int):oJ 286 [.agg #[O.v d,O.v f],vi i] c:=by
 apply Ch;simp -zeta only[aD,aC];intro a;have m:J c a:=J.push _ _;have u:∀e∈[c.size],e<a.size:=by simp[a]
 clear_value a;have L:=h.iJ.len;have K:=h.om;refine eU (n:=g.length) V (λ_ M=>J a M) (J.aB _) ?_;rintro w x I μ H o y
 have b:=m.trans o;refine⟨λt=>?_,λ_=>rA b⟩;simp only[au]at t;obtain⟨z,v⟩:=ag (l:=g) (k:=w) V;obtain⟨M,N,e,C,D,p,E,F,G,r,s⟩:=h.iJ.E v;exact⟨V,V,_,b.af r,_,b.af s,(I5 z.body x e i (p.le b.le)).aI o u λB A P j=>⟨_,rfl,λ_=>rA (m.trans j),λ_=>y V _ j⟩⟩
abbrev YF(e:List Nat)(a c:I)(s:O)(l:List (List Int)):Prop:=Gr e a c xE 1 mJ s l
def FD(hS:∀a∈e,a<c.size){W:List bB}(q:eD c d f W g)(hp:∀A∈g,A.params.length<=3):
 aO cw 251 [.agg #[O.v d,O.v f]] c λah K=>∃s h,ah=O.v s/\oY (bO e K) s h/\h.length=g.length/\(∀a∈h,a.length<=3)/\J c K:=by
 apply yB
 simp -zeta only[aD,aC]
 intro b z
 have R:J c b:=J.push _ _
 have x:∀B∈[c.size],B<b.size:=by simp[b]
 have ai:J b z:=J.push _ _
 have Z:YF e b z (.mk b.size 0 0 0) []:=Gr.new e (ad _) _ _ _
 clear_value z
 clear_value b
 have am:=q.iJ.len;have al:=q.om
 have F:∀a∈e,a<b.size:=λa w=>R.lt (hS a w)
 refine dU (n:=g.length) V (λj s M=>J b M/\∃h,YF e b M s h/\h.length=j/\∀a∈h,a.length<=3) ⟨ai,[],Z,rfl,D⟩ ?_
 rintro j s L T μ hk ⟨u,h,v,aj,E⟩ ac
 have t:=R.trans u
 have i:=v.bg
 refine dit (λab=>?_) λab=>?_
 ·obtain⟨A,G⟩:=ag (l:=g) (k:=j) V
  obtain⟨ae,an,B,U,c2,c3,X,e1,e2,e3,e4⟩:=q.iJ.E G
  have ak:=hp A (ar G)
  have ic:∀(M:I)(m:O)(a:List Int),J L M->ap (bO (s.F::e) M) m a->a.length<=3->jE (M.push (.cells (bG [.s m]) xE)) xE [.s O.nil] 24 s (O.mk M.size 0 1 1) λP p=>eE [c.size] (M.push (.cells (bG [.s m]) xE)) p/\T P (cW ((j:Int)+(1:Int))) p/\μ P (cW ((j:Int)+(1:Int))) p<μ s j L:=λM m a y hf w=>
   Gr.kv (g:=[.s .nil]) mJ.mono bh (v.ext mJ.mono y) ((u.trans y).fz []) ⟨m,rfl,hf⟩ V λr' p Y C _ _=>⟨J.oC ((u.trans y).aK _) C.ext x,ac V _ _ ⟨C.ext,_,Y,bJ,λo i=>by
    rcases List.mem_append.1 i with i|i
    ·exact E o i
    ·simp at i;subst i;exact w⟩⟩
  refine(Jd (q.le t.le) j).aI u x λa m4 o Q=>⟨_,rfl,λ_=>?_,λ_=>⟨V,V,ae,(t.trans o).af X,?_⟩⟩
  ·intro r m6
   exact ic r _ [] (o.aK _) (my _ _ _ _ _ _) D
  ·refine(rL (S:=[]) D (a:=0) ((U.ext (t.trans o)).le (zJ _)) V).aI Q x λaf H r aa N x5 u5=>⟨_,rfl,?_⟩
   intro m6
   have hg:GI (s.F::e) m4 r af H:=aa.any
   exact ic r _ H (o.trans x5) (hg.done (bR F Q.size (by have:=o.size;omega)) (by have:=N.2;omega)) (by have:=N.2;omega)
 ·exact⟨s,h,rfl,v.done mJ.mono F bh V,V,E,t⟩
def YX(a:List bB)(g:List gC)(b:Bk):Prop:=∀(c:I)(d f t:O)(v:Int)(h:Prop)(e:Nat),eD c d f a g->eI c t b.aA->WB a g.length h e b->oJ 287 [.agg #[O.v d,O.v f],.agg #[O.v t,vi b.aV],vi v] c
def Ad{E:List bB}:∀b:Bk,YX E g b:=by
 refine Bk.ind ?_;intro aA al ih c d f am ai p ak G v ac;have ae:=ac.aW.1;simp only[Bk.jN,Bk.jd]at*;apply uT;simp -zeta only[aD,aC];intro N y;obtain⟨Q,hl⟩:=dG (a:=N) (c:=y) rfl rfl;clear_value y;have aa:=v.len;refine⟨λ_=>rA Q,λ_=>?_⟩;refine eU (n:=aA.length) (aa▸v.fS) (λ_ M=>J y M) (J.aB _) ?_;rintro L r aj μ hk C ah
 have e:=Q.trans C;refine⟨λj=>?_,λ_=>rA e⟩;simp only[au]at j;obtain⟨x,w⟩:=ag (l:=aA) (k:=L) V;obtain⟨pa,pk,q,t,S,T,U,W,X⟩:=v.E w;have H:=ae L x w;have Y:=q.len;have Z:=t.len;refine⟨V,V,_,e.af S,_,e.af T,_,e.af U,_,e.af W,_,e.af X,?_⟩;intro m3 h;have D:J r h:=(J.push r _).ai (ad _) _ _;have s4:h.size=r.size+1:=by simp[h,m3,av]
 clear_value h;have u:∀b∈[r.size,N.size,c.size],b<h.size:=λb m=>by
  rcases List.mem_cons.1 m with F|F
  ·omega
  ·exact(C.trans D).lt (hl b F)
 refine eU (n:=x.args.length) (Y▸q.fS) (λ_ M=>J h M) (J.aB _) ?_;rintro K O I1 μ1 hj o A;have B:=(e.trans D).trans o;refine⟨λj=>?_,λ_=>?_⟩
 ·simp only[au]at j;obtain⟨ab,R⟩:=ag (l:=x.args) (k:=K) V;refine⟨V,V,ab,(q.ext B).E R,λ_=>?_,λ_=>A V _ o⟩;refine(xQ x.op O).aI o u λp z i I=>⟨_,rfl,λ_=>?_,λ_=>A V _ I⟩;have a:=B.trans i;exact(nO (⟨G.le a.le,q.ext a,H.eR.call⟩:At z d f pa pk E g x) K).aI I u λp m7 s P=>⟨_,rfl,λ_=>rA (a.trans s),λ_=>A V _ P⟩
 ·refine eU (n:=x.bE.length) (Z▸t.fS) (λ_ M=>J O M) (J.aB _) ?_;rintro I z I2 μ2 hi i af;have a:=B.trans i;refine⟨λj=>?_,λ_=>ah V _ (((C.trans D).trans o).trans i)⟩;simp only[au]at j;obtain⟨b,m⟩:=ag (l:=x.bE) (k:=I) V;obtain⟨tb,ab,M,R⟩:=t.E m;refine⟨V,V,_,a.af M,_,a.af R,?_⟩;exact(ih x (ar w) b (ar m) z d f tb ai p _ (G.le a.le) (ab.le a.le) (H.bE I b m)).aI (o.trans i) u λp m7 s P=>⟨_,rfl,λ_=>rA (a.trans s),λ_=>af V _ (i.trans s)⟩
def Jf(R:∀i∈e,i<c.size){C:List bB}(t:eD c d f C g){i:Prop}(S:yd C g i W){D:Nat}{q:gC}(u:g[D]? =some q):kT 252 [.agg #[O.v d,O.v f],vi D] c e λh=>h.length<=q.cJ.length:=by
 apply Ci;simp -zeta only[aD,aC];intro a w;have A:J c a:=J.push _ _;have G:∀o∈[c.size],o<a.size:=by simp[a]
 have X:J a w:=J.push _ _;have Q:GI e a w (.mk a.size 0 0 0) []:=GI.nil e a;clear_value w;clear_value a;have af:=t.iJ.len;have aa:=ax u;obtain⟨ae,ac,T,hw⟩:=S.dt q (ar u);obtain⟨ai,y,o,Z,p,L,e0,r,e2,N,P⟩:=t.iJ.E u;have ah:=p.len;refine dU (n:=q.cJ.length) V (λv x M=>J a M/\∃h,GI e a M x h/\h.length<=v) ⟨X,[],Q,ad _⟩ ?_;rintro v x U Y μ ab ⟨K,h,s,F⟩ I
 have b:=A.trans K;refine⟨V,V,y,b.af r,λj=>?_,λj=>⟨x,h,rfl,s.bY (λ_ j=>j) A.size,V,b⟩⟩;simp only[au]at j;obtain⟨B,H⟩:=ag (l:=q.cJ) (k:=v) V;refine⟨V,V,_,b.af N,_,b.af P,V,V,y,b.af r,V,V,B,(p.ext b).E H,?_⟩;refine(Ad q.body U d f o B i _ (t.le b.le) (L.le b.le) T).aI K G λcc m4 m z=>⟨_,rfl,λ_=>⟨V,V,y,(b.trans m).af r,V,V,B,(p.ext (b.trans m)).E H,?_⟩,λ_=>I V _ _ ⟨z,h,s.ext m,V⟩⟩;intro m5;exact GI.kv (s.ext m) (z.fz []) (λi F=>A.lt (R i F)) V λf m6 M E _ _=>⟨J.oC (z.aK _) E.ext G,I V _ _ ⟨E.ext,_,M,bJ⟩⟩
end
section
variable{b:List Nat}{e:I}{d g:O}{f:List gC}{c:Prop}{W:Nat}
def xV(X:∀c∈b,c<e.size){lt:O}{w:List bB}{L:List (List Int)}(z:eD e d g w f)(hW:W<=1000000)(hk:yd w f c W)(ai:oY e lt L)(aS:L.length=f.length)(ay:∀c∈L,c.length<=3):
 uH 250 [.agg #[O.v d,O.v g],O.v lt] e b w λA=>yd w A c W/\A.length=f.length:=by
 apply CF
 simp -zeta only[aD,aC]
 intro j a2
 obtain⟨P,H⟩:=dG (a:=j) (c:=a2) rfl rfl
 have s1:j.size=e.size+1:=by simp[j]
 clear_value a2
 have aB:=z.iJ.len;have aV:=z.om
 refine(fJ (b:=j.size::b) (bR X P.size (H _ D)) (z.le P.le).aT z.types).mono λ_ aa⟨dd,h,aw,Q⟩=>?_
 subst h
 refine⟨Q.dm H,_,rfl,?_⟩
 intro t aK an
 have u2:=P.trans Q
 obtain⟨x5,B0,g0,s3,s5⟩:=kO (b:=t.size::j.size::b) iC.mono (d:=aa) (a:=t) (c:=aK) (h:=an) rfl rfl rfl
 clear_value an
 have Z:∀c∈[j.size,e.size],c<aa.size:=λc o=>Q.lt (H c o)
 have ah:∀c∈j.size::b,c<aa.size:=λc o=>Q.lt (bR X P.size (H _ D) c o)
 refine kJ (R:=λp q M=>∃d g A,Value.agg #[O.v p,O.v q]=.agg #[O.v d,O.v g]/\eD (bO b M) d g w A/\(yd w A c W/\A.length=f.length)/\J e M) (t:=f.length) (f:=e) (b:=b) iC.mono bh bh X ⟨V,Z _ D⟩ u2 s3 aw aB V x5 B0 g0 (λ_ q=>q.params.length<=3/\q.cJ.length<=3/\WB w f.length c q.params.length q.body/\q.body.w<=W) (λr r' al m' h1 F p s u=>⟨r,r',al,rfl,⟨h1,F,z.types,V⟩,⟨Ha hk.iL p s,p⟩,u⟩) λak M u al aO μ ax aR xM ae T aL=>?_
 obtain⟨q,hq⟩:=ag (l:=f) (k:=ak) ax
 obtain⟨aA,aQ,aG,hw⟩:=hk.dt q (ar hq)
 have v6:=u2.trans xM
 obtain⟨aX,aY,s,c1,c2,c3,e0,e1,e2,e3,e4⟩:=z.iJ.E hq
 have G:∀{ao:Value}{s y:Nat},af e s y=some ao->af M s y=some ao:=λC=>v6.af C
 refine⟨V,V,_,G e0,_,G e1,_,G e2,_,G e3,_,G e4,?_⟩
 intro m7 p
 have hy:=ae.bg
 have aP:=T.lt
 have zM:=xM.size
 have x8:J M p:=(J.push M _).ai (ad _) _ _
 have s8:p.size=M.size+1:=by simp[p,m7,av]
 clear_value p
 have K:∀c∈[M.size,j.size,e.size],c<p.size:=λc o=>by
  rcases List.mem_cons.1 o with h|h
  ·omega
  ·have:=Z c h;omega
 have B:=v6.trans x8
 have E:∀{M1 M2:I},J p M1->J p M2->∀s,s<p.size->∀y,af M2 s y=af M1 s y:=λC h' s hb y=>aN (by rw[h'.same s hb,C.same s hb]) y
 have x:M.size<p.size:=V
 have i2:t.size<p.size:=V
 obtain⟨ac,aj⟩:=ag (l:=L) (k:=ak) V
 obtain⟨yt,aI,U⟩:=ai.E aj
 have aH:=ay ac (ar aj)
 have aT:=ai.len
 have Y:∀{M':I},p.size<=M'.size->∀c∈u.F::t.size::j.size::b,c<M'.size:=λC c o=>by
  simp only[aU]at o;rcases o with h|h|h|h
  ·omega
  ·omega
  ·have:=ah c (by simp[h]);omega
  ·have:=ah c (by simp[h]);omega
 refine⟨u,(T.ext x8).cp 1,V,V,yt,B.af U,?_⟩
 refine(bP (u.F::t.size::j.size::b) (c1.ext B) V).aI (J.aB p) K λp' _ m9 gp h r _=>⟨_,rfl,E (J.aB _) r _ x _,E (J.aB _) r _ x _,E (J.aB _) r _ x _,?_,E (J.aB _) r _ i2 _,?_⟩
 ·exact((B.trans r).af U).trans (B.af U).symm
 subst h
 refine(bP (u.F::t.size::j.size::b) (aI.ext (B.trans r)) V).aI r K λt' _ aJ gt h aq v=>⟨_,rfl,E r v _ x _,E r v _ x _,E r v _ x _,E r v _ i2 _,?_⟩
 subst h
 have z9:=r.size;have uG:=aq.size
 have aM:=B.trans v
 refine(vU q.body (u.F::t.size::j.size::b) aJ (Y V) s (c3.le aM.le) V).aI v K λss b' am aE h au N=>⟨_,_,rfl,E v N _ x _,E v N _ i2 _,?_⟩
 subst h
 intro aW
 have ab:=x8.trans N
 have aZ:=N.size
 have az:ap (bO (u.F::t.size::j.size::b) am) p' q.params:=(gp.done (Y V) V).le ((aq.trans au).da _)
 have aF:ap (bO (u.F::t.size::j.size::b) am) t' ac:=(gt.done (Y V) V).le (au.da _)
 exact Gr.box (g:=[.s .nil,.s .nil,.i 0,.s .nil,.i 0]) (j:=1) (z:=88) (o:=[.s dd,.s u]) (y:=⟨q.params,ac,q.aV,q.body⟩) iC.mono bh (ae.ext iC.mono ab) ((xM.trans ab).fz []) ⟨p',t',ss,rfl,az,aF,aE⟩ V (T.ext ab) D bh ⟨V,D⟩ (λc o=>by have h1:=K c o;have F:=Z c;simp only[aU]at o F;rcases o with h|h|h|h<;>first|omega|(have:=F (by simp[h]);omega)|simp at h) λr' m' g' F f' z' q'=>aL r' m' _ g' F f'.ext ⟨aA,aH,aG,hw⟩
def Jk(hS:∀c∈b,c<e.size){E:List bB}(hn:eD e d g E f)(hW:W<=1000000)(hk:yd E f c W):uH 236 [.agg #[O.v d,O.v g]] e b E λw=>yd E w c W:=by
 apply Cl;simp -zeta only[aD,aC];intro p h;obtain⟨x2,P⟩:=dG (a:=p) (c:=h) rfl rfl;have s1:p.size=e.size+1:=by simp[p]
 have s2:h.size=e.size+2:=by simp[h,s1]
 clear_value h;have aJ:=hn.iJ.len;have aH:=hn.om;have am:∀c∈p.size::b,c<h.size:=bR hS x2.size (P _ D);have u:∀{M v:I},J h M->J h v->∀ah,af v e.size ah=af M e.size ah:=λx h' ah=>aN (by rw[h'.same _ (P _ D),x.same _ (P _ D)]) ah;have tail:∀(X:I)(a:Nat)(C B:O)(G:List gC),J h X->h.size<=a->cF X a mU [.s C,.s B]->eD (bO (a::p.size::b) X) C B E G->yd E G c W->
  ∃(I0:Int->I->Prop)(μ0:Int->I->Nat),I0 (0:Int) X/\(∀(s:Int)(y:I),I0 s y->
   ((decide (s<=(12:Int)))=true->
    let m7:I:=y.push (.cells (bG []) xE)
    ∃(F:O->Int->I->Prop)(μ1:O->Int->I->Nat),F (O.mk y.size 0 0 0) (0:Int) m7/\(∀(z:O)(A:Int)(j:I),F z A j->
     ∃K:O,af j a 1=some (O.v K)/\
     ((decide (A<(K.len:Int)))=true->∃i:O,af j a 0=some (O.v i)/\∃q:O,af j a 1=some (O.v q)/\
      aO cw 252 [.agg #[O.v i,O.v q],vi A] j λr2 t=>eE [p.size,e.size] j t/\∃U:O,r2=O.v U/\
       let ac:I:=t.push (.cells (bG [.s U]) xE)
       jE ac xE [.s O.nil] 24 z (O.mk t.size 0 1 1) λL H=>eE [p.size,e.size] ac H/\F L (cW (A+(1:Int))) H/\μ1 L (cW (A+(1:Int))) H<μ1 z A j)/\
     ((decide (A<(K.len:Int)))=false->∃i:O,af j a 0=some (O.v i)/\∃q:O,af j a 1=some (O.v q)/\
      aO cw 250 [.agg #[O.v i,O.v q],O.v z] j λN R=>eE [p.size,e.size] j R/\∃H:O,∃L:O,N=.agg #[O.v H,O.v L]/\fH R a 0 2/\
       let T:I:=ai R a 0 [.s H,.s L]
       eE [p.size,e.size] R T/\I0 (cW (s+(1:Int))) T/\μ0 (cW (s+(1:Int))) T<μ0 s y)))/\
   ((decide (s<=(12:Int)))=false->∃i:O,af y a 0=some (O.v i)/\∃q:O,af y a 1=some (O.v q)/\
    let ae:I:=ai y p.size 0 [.s i,.s q]
    ∃d g w,Value.agg #[O.v i,O.v q]=.agg #[O.v d,O.v g]/\eD (bO b ae) d g E w/\yd E w c W/\J e ae)):=by
  intro X a C B G Z ax hB hN Y
  refine eU (n:=13) V (λ_ M=>J h M/\∃C B G,cF M a mU [.s C,.s B]/\eD (bO (a::p.size::b) M) C B E G/\yd E G c W) ⟨Z,C,B,G,hB,hN,Y⟩ ?_
  rintro aL y aE μ aG ⟨x6,C,B,G,Q,N,K⟩ aB
  have aF:=Q.lt
  have aK:=N.iJ.len
  have aI:=N.om
  refine⟨λx=>?_,λx=>?_⟩
  ·simp only[au]at x
   intro m7
   have aq:J y m7:=J.push _ _
   have g0:YF [] y m7 (.mk y.size 0 0 0) []:=Gr.new _ (ad _) _ _ _
   refine dU (n:=G.length) V (λA s M=>J y M/\∃i,YF [] y M s i/\i.length=A/\∀c∈i,c.length<=3) ⟨aq,[],g0,rfl,D⟩ ?_
   rintro A s j I2 μ2 hf ⟨H,i,ab,av,F⟩ ao
   have u8:=x6.trans H
   have N8:=N.le (H.da _)
   refine⟨B,(Q.ext H).cp 1,dit (λL=>?_) λL=>?_⟩
   ·obtain⟨aa,hq⟩:=ag (l:=G) (k:=A) V
    have an:=(K.dt aa (ar hq)).2.1
    have q:=ab.bg
    refine⟨C,(Q.ext H).cp 0,B,(Q.ext H).cp 1,?_⟩
    refine(Jf (e:=[s.F]) bJ (N8.le (bD _ _)) K hq).aI u8 P λU ap t ak aw x9 u9=>⟨_,rfl,?_⟩
    intro ac
    refine Gr.kv (g:=[.s .nil]) mJ.mono bh (ab.ext mJ.mono x9) ((H.trans x9).fz []) ⟨U,rfl,ak.done bJ V⟩ V λz v g' f' _ _=>⟨J.oC (u9.aK _) (x6.trans f'.ext) P,ao V _ _ ⟨f'.ext,_,g',bJ,λal q=>?_⟩⟩
    rcases List.mem_append.1 q with q|q
    ·exact F al q
    ·simp at q;subst q;omega
   ·refine⟨C,(Q.ext H).cp 0,B,(Q.ext H).cp 1,?_⟩
    have al:oY j s i:=eH.le (ab.done mJ.mono D bh V) (bD _ _) (mJ.le (bD _ _))
    have z8:=H.size;have z6:=x6.size
    refine(xV (b:=a::p.size::b) (λc t=>?_) (N8.le (bD _ _)) hW K al V F).mono λ_ R⟨d2,r2,ap,q,N2,⟨K2,_⟩,ac⟩=>?_
    ·rcases List.mem_cons.1 t with q|q
     ·omega
     ·have:=am c q;omega
    subst q
    have ak:=(Q.ext H).ext ac
    refine⟨u8.Uq P ac,_,_,rfl,ak.fH D,?_⟩
    intro T
    have an:∀U,U≠a->T[U]? =R[U]? :=λU hb=>bd _ _ _ _ hb
    refine⟨λc t=>an c (by have:=P c t;omega),aB V _ ⟨(u8.trans ac).ai ax _ _,d2,r2,ap,cF.ai (m:=R) (o:=0) (r:=[.s d2,.s r2]) ak,N2.le (cz D λ_ x=>x),K2⟩⟩
  ·refine⟨C,Q.cp 0,B,Q.cp 1,?_⟩
   intro ae
   exact⟨C,B,G,rfl,(N.le (jL y λc t=>aj _ t)).le (cz D λc t=>aj _ t),K,(x2.trans x6).ai V _ _⟩
 have ay:∀aa∈f,aa.params.length<=3:=λaa hq=>(hk.dt aa hq).1;have ao:∀(M:I)(T:List Nat)(K:Value->I->Prop),J h M->(∀c∈T,c<M.size)->(∀s i v,oY v s i->i.length=f.length->(∀c∈i,c.length<=3)->J M v->K (O.v s) v)->aO cw 251 [.agg #[O.v d,O.v g]] M λan m'=>eE T M m'/\K an m':=λM T K Z hL Y=>
  (FD (e:=[]) D (hn.le (x2.trans Z).le) ay).mono λ_ v⟨s,i,q,R,L,F,ab⟩=>⟨ab.dm hL,q▸Y s i v (eH.le R (bD _ _) (mJ.le (bD _ _))) L F ab⟩
 have cJ:∀(M:I)(S' T:List Nat)(K:Value->I->Prop)(s:O)(i:List (List Int)),J h M->(∀c∈T,c<M.size)->(∀c∈S',c<M.size)->oY M s i->i.length=f.length->(∀c∈i,c.length<=3)->(∀A z w v,eD (bO S' v) A z E w->yd E w c W->J M v->K (.agg #[O.v A,O.v z]) v)->aO cw 250 [.agg #[O.v d,O.v g],O.v s] M λan m'=>eE T M m'/\K an m':=λM S' T K s i Z hL aw R L F Y=>
  (xV aw (hn.le (x2.trans Z).le) hW hk R L F).mono λ_ v⟨A,z,w,q,N,⟨K1,_⟩,ab⟩=>⟨ab.dm hL,q▸Y A z w v N K1 ab⟩
 have ap:∀{M:I}{a:Nat},J h M->a<M.size->∀c∈a::p.size::b,c<M.size:=λx hb c t=>by
  have:=x.size;rcases List.mem_cons.1 t with q|q
  ·omega
  ·have:=am c q;omega
 have al:∀{M:I}{a:Nat},J h M->a<M.size->∀c∈[a,p.size,e.size],c<M.size:=λx hb c t=>by
  rcases List.mem_cons.1 t with q|q
  ·omega
  ·exact x.lt (P c q)
 refine⟨ao h _ _ (J.aB _) P λs i ae R L F j=>⟨_,rfl,u (J.aB _) j _,u (J.aB _) j _,⟨?_,?_⟩⟩,?_⟩
 ·refine cJ ae (p.size::b) _ _ s i j (λc t=>j.lt (P c t)) (λc t=>j.lt (am c t)) R L F λA z w m3 N K U=>⟨_,_,rfl,?_⟩;have H:=j.trans U;intro m4;have u4:J h m4:=H.aK _;refine⟨u H u4 _,u H u4 _,u H u4 _,u H u4 _,?_⟩;intro m5;have ac:J m3 m5:=(J.push m3 _).ai (ad _) _ _;exact tail m5 m3.size A z w (H.trans ac) H.size (cF.ai (m:=m4) (o:=0) (r:=[.s A,.s z]) (cF.push m3 _ _)) (N.le (ac.bO λc t=>by
   rcases List.mem_cons.1 t with q|q
   ·exact Or.inr V
   ·exact Or.inl q)) K
 ·intro ac;have H:J h ac:=j.aK _;refine⟨u j H _,u j H _,u j H _,u j H _,?_⟩;refine cJ ac (ae.size::p.size::b) _ _ s i H (al H (by simp[ac])) (ap H (by simp[ac])) (oY.ext (J.push _ _) R) L F λA z w ak N K U=>⟨_,_,rfl,?_⟩;intro aq;exact tail aq ae.size A z w ((H.trans U).ai j.size _ _) j.size (cF.ai (m:=ak) (o:=0) (r:=[.s A,.s z]) ((cF.push ae _ _).ext U)) (N.le (cz D λ_ x=>x)) K
 ·intro ac;have H:J h ac:=J.push _ _;refine⟨u (J.aB _) H _,u (J.aB _) H _,u (J.aB _) H _,u (J.aB _) H _,?_⟩;refine ao ac _ _ H (al H (by simp[ac])) λs i av R L F j=>⟨_,rfl,u H (H.trans j) _,u H (H.trans j) _,?_⟩;have ak:=H.trans j;have aq:h.size<av.size:=j.lt (by simp[ac]);refine cJ av (h.size::p.size::b) _ _ s i ak (al ak aq) (ap ak aq) R L F λA z w az N K U=>⟨_,_,rfl,?_⟩;intro aA;exact tail aA h.size A z w ((ak.trans U).ai (ad _) _ _) (ad _) (cF.ai (m:=az) (o:=0) (r:=[.s A,.s z]) ((cF.push h _ _).ext (j.trans U))) (N.le (cz D λ_ x=>x)) K
end
section
variable{w:Int}{r:List Int}
structure bX where
 aS:Int
 jQ:Int
 aL:List Int
structure aX where
 eP:Int
 pc:Int
 dst:Int
 u:List Int
 aR:List Int
 bo:List Int
structure St where
 bU:Int
 value:Int
 bq:Int
 bA:Int
 aW:List Int
 heap:List bX
 az:List aX
def E(l:List Int)(i:Int):Int:=l.getD i.toNat 0
def gF(l:List Int)(i:Int)(v:Int):List Int:=l.set i.toNat v
def ix(w:Int):Nat:=(w -1000).toNat
def iu(w:Int):Prop:=-999<=w/\w<=999
def j8(h:List bX)(a:Nat):Prop:=∃c,h[a]? =some c/\0<c.aS
def gE(h:List bX)(w:Int):Prop:=1000<=w/\j8 h (ix w)
def sY(h:List bX)(w:Int):Prop:=iu w\/gE h w
def jc:bX:=⟨0,0,[]⟩
def aJ(h:List bX)(w:Int):bX:=(h[ix w]?).getD jc
def ZU:dw:=⟨[],[],0,0,[]⟩
def dx(a:cH)(n:Int):dw:=(a.cA[n.toNat]?).getD ZU
def bI(a:cH):Int:=(eK a.aT).length
def eL:List Int->Nat->Int
 |[],_=>0
 |w::b,a=>(if w=1000+(a:Int)then 1 else 0)+eL b a
def fy:List bX->Nat->Int
 |[],_=>0
 |c::h,a=>eL c.aL a+fy h a
def dj:List Int->List Int->Nat->Int
 |r::c,o::b,a=>(if r=1000+(a:Int)then o else 0)+dj c b a
 |_,_,_=>0
def gN:List aX->Nat->Int
 |[],_=>0
 |f::b,a=>dj f.u f.aR a+gN b a
def holds:List aX->Nat->Int
 |[],_=>0
 |f::b,a=>eL f.bo a+holds b a
def np(a:cH)(x:Instr)(k:Nat):Bool:=(dx a x.bN).cJ.any (λy=>y==(k:Int))
def hO(a:cH)(x:Instr):Nat->List Int->List Int
 |_,[]=>[]
 |k,r::b=>if np a x k then hO a x (k+1) b else r::hO a x (k+1) b
def fx(a:cH)(x:Instr):Nat->List Int->List Int
 |_,[]=>[]
 |k,r::b=>if np a x k then r::fx a x (k+1) b else fx a x (k+1) b
def bS(a:cH)(x:Instr):List Int:=
 if x.op=15\/x.op=6\/x.op=10\/x.op=11\/x.op=18\/x.op=23 then x.args
 else if x.op=16\/x.op=17 then x.args.take 1
 else if x.op=9\/x.op=24 then hO a x 0 x.args
 else[]
def bC(u aR:List Int):List Int->List Int
 |[]=>aR
 |r::a=>bC u (if 1000<=E u r then gF aR r (E aR r -1)else aR) a
def cv(f:aX)(a:List Int):List Int:=a.map (E f.u)
def kL(l:List Int):List Int:=l.filter (λw=>decide (1000<=w))
def kW(h:List bX)(a:List Int):Prop:=∀w∈a,1000<=w->(aJ h w).aS+eL a (ix w)<=999999
def EK(h:List bX)(f:aX)(x:Instr):Prop:=
 let w:=E f.u (E x.args 0)
 gE h w/\kL (aJ h w).aL=cv f (x.args.drop 1)/\((aJ h w).aS=1\/kW h (aJ h w).aL)/\(x.op=17->E f.bo (E x.args 0)=0)
def vm(a:cH)(h:List bX)(w:Int):Prop:=
 gE h w/\0<=(aJ h w).jQ -bI a/\(aJ h w).jQ -bI a<a.cA.length/\
  (dx a ((aJ h w).jQ -bI a)).params.length=(aJ h w).aL.length+1/\(dx a ((aJ h w).jQ -bI a)).cJ.length=0/\
  ((aJ h w).aS=1\/kW h (aJ h w).aL)
def EL(h:List bX)(f:aX)(x:Instr):Prop:=
 x.bW≠0->E f.bo (x.bW -1)≠0->(aJ h (E f.bo (x.bW -1))).aL.length=x.args.length
def JP(a:cH)(h:List bX)(f:aX)(x:Instr):Prop:=∀r∈fx a x 0 x.args,1000<=E f.u r->gE h (E f.u r)
def Rc(l:List Int):Prop:=∀n∈l,n=0
structure jD(im:cH)(s:St)(f:aX)(x:Instr)(aR:List Int):Prop where
 nn:∀o∈aR,0<=o
 dst:lH x.op->E aR x.dst<=0
 mZ:(x.op=1\/x.op=2\/x.op=3\/x.op=4\/x.op=5\/x.op=20)->∀r∈x.args,E f.u r<1000
 iH:x.op=6->EL s.heap f x
 cJ:(x.op=9\/x.op=24)->JP im s.heap f x
 zero:(x.op=24\/x.op=23)->Rc aR/\Rc f.bo
 ret:x.op=23->1<s.az.length\/E f.u (E x.args 0)<1000
 apply:x.op=11->vm im s.heap (E f.u (E x.args 0))
 UK:x.op=14->gE s.heap (E f.u (E x.args 0))/\(aJ s.heap (E f.u (E x.args 0))).aS<999999
 drop:x.op=15->1000<=E f.u (E x.args 0)
 Kv:(x.op=16\/x.op=17)->EK s.heap f x
 load:x.op=19->gE s.heap (E f.u (E x.args 0))/\x.bN<(aJ s.heap (E f.u (E x.args 0))).aL.length
 xC:x.op=21->gE s.heap (E f.u (E x.args 0))/\(aJ s.heap (E f.u (E x.args 0))).jQ∈cq im.aT x.bN
def EQ(n:Int):Int:=if n< -999 then -999 else if 999<n then 999 else n
def NJ(c a b:Int):Int:=
 if c=1 then EQ (a+b)else if c=2 then EQ (a -b)else if c=3 then EQ (a*b)else if c=4/\a<b then 1 else 0
def dA:List bX->Nat
 |[]=>0
 |c::h=>if c.aS=0 then 0 else dA h+1
def iH(h:List bX)(a:Nat)(c:bX):List bX:=if a=h.length then h++[c]else h.set a c
def nl(h:List bX)(w:Int):List bX:=h.set (ix w) {aJ h w with aS:=(aJ h w).aS+1}
def fg(h:List bX)(w:Int):List bX:=h.set (ix w) {aJ h w with aS:=(aJ h w).aS -1}
def jy(h:List bX):List Int->List bX
 |[]=>h
 |w::a=>jy (nl h w) a
def iR(h:List bX):Nat->Nat
 |0=>0
 |n+1=>match h[n]? with
  |some c=>if c.aS=0 then iR h n else n+1
  |none=>iR h n
def oX(h:List bX):List bX:=h.take (iR h h.length)
def Df:List bX->Nat
 |[]=>0
 |c::h=>(if 0<c.aS then c.aS.toNat+c.aL.length else 0)+Df h
def k8:∀{e:List bX}{f:Nat}{b d:bX},e[f]? =some b->Df (e.set f d)+(if 0<b.aS then b.aS.toNat+b.aL.length else 0)=Df e+(if 0<d.aS then d.aS.toNat+d.aL.length else 0)
 |[],f,b,d,e=>by simp at e
 |i::e,0,b,d,g=>by simp at g;subst g;simp only[gW,Df];omega
 |i::e,f+1,b,d,g=>by
  have:=k8 (e:=e) (f:=f) (b:=b) (d:=d) (by simpa using g);simp only[iU,Df];omega
def bZ{h:List bX}(b:gE h w):h[ix w]? =some (aJ h w)/\0<(aJ h w).aS:=by
 obtain⟨_,d,a,c⟩:=b;simp[aJ,a,c]
open Classical in
noncomputable def iD (h:List bX) (c:List Int):List bX:=
 match c with
 |[]=>h
 |w::r=>
  if b:gE h w then
   if a:(aJ h w).aS=1 then iD (h.set (ix w) jc) ((aJ h w).aL.reverse++r)
   else iD (fg h w) r
  else iD h r
termination_by Df h+c.length
decreasing_by
 ·obtain⟨e,a⟩:=bZ b
  have:=k8 (d:=jc) e
  simp only[jc,ao a]at this
  simp[jc]
  simp at this
  omega
 ·obtain⟨e,a⟩:=bZ b
  have b:=k8 (d:={aJ h w with aS:=(aJ h w).aS -1}) e
  simp only[ao a]at b
  rw[ao V]at b
  simp[fg]
  omega
 ·simp
def vu(h:List bX):iD h []=h:=by rw[iD]
def vv{h:List bX}(b:gE h w)(a:(aJ h w).aS=1):iD h (w::r)=iD (h.set (ix w) jc) ((aJ h w).aL.reverse++r):=by
 rw[iD,RL b,RL a]
def sS{h:List bX}(b:gE h w)(a:(aJ h w).aS≠1):iD h (w::r)=iD (fg h w) r:=by
 rw[iD,RL b,dif_neg a]
def sT{h:List bX}(a:¬gE h w):iD h (w::r)=iD h r:=by
 rw[iD,dif_neg a]
def aX.put(f:aX)(r w o:Int):aX:={f with u:=gF f.u r w,aR:=gF f.aR r o}
def fW(w:Int):Int:=if 1000<=w then 1 else 0
def dz(aR:List Int):List Int->List Int
 |[]=>aR
 |r::a=>dz (gF aR r (E aR r+1)) a
def cZ(n:Nat):List Int:=List.replicate n 0
def dD(cJ:List Int):Nat->List Int->List Int
 |_,[]=>[]
 |k,w::a=>(if cJ.any (λy=>y==(k:Int))then 0 else fW w)::dD cJ (k+1) a
def br(a:cH)(g c:Int)(b:List Int):aX:=
 ⟨g,0,c,b++cZ ((dx a g).u.toNat -b.length),dD (dx a g).cJ 0 b++cZ ((dx a g).u.toNat -b.length),cZ (dx a g).u.toNat⟩
open Classical in
noncomputable def apart (h:List bX) (w:Int):List bX:=
 if(aJ h w).aS=1 then oX (h.set (ix w) jc)else jy (fg h w) (kL (aJ h w).aL)
def qU(l:List Int)(n:Int):Nat:=l.findIdx (λy=>y==n)
open Classical in
noncomputable def eC (b:cH) (s:St) (a:List aX) (f:aX) (x:Instr) (aR:List Int):St:=
 let g:aX:={f with aR:=aR,pc:=f.pc+1}
 let c:=E x.args 0
 let w:=E f.u c
 if x.op=0 then{s with az:=a++[g.put x.dst x.bN 0]}
 else if x.op=1\/x.op=2\/x.op=3\/x.op=4 then{s with az:=a++[g.put x.dst (NJ x.op w (E f.u (E x.args 1))) 0]}
 else if x.op=5 then{s with aW:=s.aW++[w],az:=a++[g.put x.dst w 0]}
 else if x.op=6 then
  if x.bW≠0/\E f.bo (x.bW -1)≠0 then
   {s with heap:=s.heap.set (ix (E f.bo (x.bW -1))) ⟨1,x.bN,cv f x.args⟩,az:=a++[{g with bo:=gF f.bo (x.bW -1) 0}.put x.dst (E f.bo (x.bW -1)) 1]}
  else{s with heap:=iH s.heap (dA s.heap) ⟨1,x.bN,cv f x.args⟩,az:=a++[g.put x.dst (1000+dA s.heap) 1]}
 else if x.op=10 then{s with heap:=iH s.heap (dA s.heap) ⟨1,bI b+x.bN,cv f x.args⟩,az:=a++[g.put x.dst (1000+dA s.heap) 1]}
 else if x.op=14 then{s with heap:=nl s.heap w,az:=a++[{g with aR:=gF aR c (E aR c+1)}]}
 else if x.op=15 then{s with heap:=oX (iD s.heap [w]),az:=a++[g]}
 else if x.op=16\/x.op=17 then
  let d:={g with aR:=dz aR (x.args.drop 1)}
  if(aJ s.heap w).aS=1/\x.op=17 then{s with heap:=s.heap.set (ix w) ⟨-1,0,cZ (aJ s.heap w).aL.length⟩,az:=a++[{d with bo:=gF f.bo c w}]}
  else{s with heap:=apart s.heap w,az:=a++[d]}
 else if x.op=18 then{s with az:=a++[g.put x.dst w (fW w)]}
 else if x.op=19 then{s with az:=a++[g.put x.dst (E (aJ s.heap w).aL x.bN) 0]}
 else if x.op=20 then{s with az:=a++[{g with pc:=if w=0 then x.bN else f.pc+1}]}
 else if x.op=21 then{s with az:=a++[{g with pc:=E x.ez (qU (cq b.aT x.bN) (aJ s.heap w).jQ)}]}
 else if x.op=22 then{s with az:=a++[{g with pc:=x.bN}]}
 else if x.op=9 then{s with bq:=s.bq+1,az:=a++[g,br b x.bN x.dst (cv f x.args)]}
 else if x.op=24 then{s with bq:=s.bq+1,az:=a++[br b x.bN f.dst (cv f x.args)]}
 else if x.op=11 then
  {s with bq:=s.bq+1,heap:=apart s.heap w,az:=a++[g,br b ((aJ s.heap w).jQ -bI b) x.dst ((aJ s.heap w).aL++[E f.u (E x.args 1)])]}
 else -- 23
  match a.getLast? with
  |none=>{s with bU:=0,value:=w,az:=[]}
  |some p=>{s with az:=a.dropLast++[p.put f.dst w (fW w)]}
def lK(a:Int):Prop:=a=9\/a=11\/a=24
instance(a:Int):Decidable (lK a):=by unfold lK;infer_instance
def dk(a:cH)(f:aX):Instr:=((dx a f.eP).cL[f.pc.toNat]?).getD ⟨0,0,0,0,[],[]⟩
open Classical in
noncomputable def mB (a:cH) (s:St):St:=
 if s.bU≠3 then s else
 match s.az.getLast? with
 |none=>s
 |some f=>
  if lK (dk a f).op/\s.bq=s.bA then{s with bU:=1}
  else if jD a s f (dk a f) (bC f.u f.aR (bS a (dk a f)))then
   eC a s s.az.dropLast f (dk a f) (bC f.u f.aR (bS a (dk a f)))
  else{s with bU:=2}
end
end Go.Proofs.YtgnjacfobdjeeaaGreat
