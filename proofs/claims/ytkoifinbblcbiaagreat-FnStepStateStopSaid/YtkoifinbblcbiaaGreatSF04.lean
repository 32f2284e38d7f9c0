/- Part of a proof. -/
import Derived.Test.YtkoifinbblcbiaaGreatSF02
import Derived.Test.YtkoifinbblcbiaaGreatSF03
set_option linter.all false
set_option maxHeartbeats 8000000
set_option maxRecDepth 100000
namespace Go.Proofs.YtkoifinbblcbiaaGreat
open Go.Vc
section
variable{a:E}{c:List Ce}{b:Nat}
section
variable{f:List Nat}{e P:Nat}{h d p:O}{i:List bz}{g:List dy}{m:E}
def MM(hS:∀n∈f,n<m.size)(aj:e∈f)(n:GC e h P d p i g m)(hP:P+300+40*Cg 18<=10^16){N:Nat}{q:dy}(z:g[N]? =some q)(ak:N=0->q.params.length=0):
 aN cp 251 [vp e 0,.agg #[O.v d,O.v p],vi N] m (XP f e h m (P+300+40*Cg 18) (XE i g.length q.params.length)):=by
 apply Gk (e,0)
 simp -zeta only[aC,aB]
 intro l w
 let⟨x2,hl⟩:=dD (a:=l) (c:=w) rfl rfl
 have s1:l.size=m.size+1:=by simp[l]
 have s2:w.size=m.size+2:=by simp[w,s1]
 have hr:=n.rd.lt
 clear_value w
 have ae:∀{a:E},w.size<=a.size->∀n∈l.size::f,n<a.size:=λc=>bO hS V V
 have t:Rs e h m P w:=⟨x2.fz _,n.rd.ext x2⟩
 have J:∀{a:E},w.size<=a.size->Lw e [l.size,m.size] a:=λc=>lw hr bE
 let⟨U,ag,e0,e1⟩:=n.hp.aF z
 have an:=av z
 have ao:=n.hp.len
 have ab:=wH _ (n.gp.dz q (aq z))
 have h3:q.params.length<=3:=ab.1
 have Z:∀{a:E},Fz [e] m a->IR e a U q.params:=λx=>ag.le (fh x)
 have au:=ag.len
 have aa:e∈l.size::f:=by simp[aj]
 have am:=n.gp.ty ab.2.2.1 ab.2.2.2
 refine⟨V,V,U,(eQ.1 (fh t.f _ _ _ e0)).2,V,V,_,(eQ.1 (fh t.f _ _ _ e1)).2,?_⟩
 refine(LV ((Z t.f).le (bA _ _)) 1).mono λ_ m3⟨pl,en,ap,x3⟩=>⟨(J (ad _)).dv (x3.fz _),pl,en,?_⟩
 have z3:=x3.size
 refine Jh (l.size::f) i g.length q.params.length (J z3) 0 λs4 o C x4=>?_
 have z4:=x4.size
 intro m5 H
 let⟨x6,b6,z6⟩:=BX.new (f:=m5) (d:=H) C rfl rfl
 clear_value H
 have r6:=((t.ext x3).ext x4).ext x6
 have hk:o.size≠e:=V
 have L6:∀{a:E},H.size<=a.size->Lw e [o.size,l.size,m.size] a:=λc=>lw hr bE
 refine(cq r6.r V 4).mono λ_ r⟨b,en,_,_,d7,L⟩=>⟨(L6 (ad _)).dv L,b,en,?_⟩
 have I:=r6.to L d7
 have z7:=L.size
 have B:=n.to I.f I.r
 have D:∀j∈o.size::l.size::f,j<r.size:=bO (ae (a:=r) V) (ad _) V
 have F:e∈o.size::l.size::f:=by simp[aj]
 have iI:∀{x:Nat}{ac:List Value}{Q:Nat},aN cp x ac r (XP (o.size::l.size::f) e h r Q (WX i g.length q.params.length))->Q<=P+300+20*Cg 18->aN cp x ac r λv A=>eG [o.size,l.size,m.size] r A/\∃W X:Int,∃t:O,v=.agg #[vi W,vi X,O.v t]/\
  ∃u j,BX (l.size::f) i g.length q.params.length o.size (ah A o.size 0 [.i W,.i X,.s t]) u j/\Rs e h m (P+300+20*Cg 18) (ah A o.size 0 [.i W,.i X,.s t])/\H.size<=(ah A o.size 0 [.i W,.i X,.s t]).size:=λc hQ=>
  XP.kk c (L6 z7) λu j A h1 h2 h3 C=>by
   have hb:=((b6.fz aa hk L).fz aa hk C).set ⟨h1,h2⟩;have ai:=(I.to C h3).put n.rd (k:=o.size) V 0 [.i j.op,.i j.bP,.s u];exact⟨u,j,hb,⟨ai.f,ai.r.mono hQ⟩,by rw[aw];have:=C.size;omega⟩
 have uv:=λ(a:E)(S':List Nat)(h1:∀j∈S',j<a.size)(h2:e∈S')(Q:Nat)(cM:GC e h Q d p i g a)(x:Fz [e] m a)(hQ:Q+20*Cg 18<=10^16)(s:Int)(hb:0<=s/\s<=18)=>LI (S:=S') h1 h2 cM hQ (Z x) V am hb
 have R:=iI ((uv r _ D F _ B I.f V 18 bh).mono λ_ _ c=>c.mono (λj K=>K.1) (ad _)) V
 have first:1<=q.params.length->∃y:Int,q.params[0]? =some y/\af r U.D (U.off+Int.toNat 0*1)=some (vi y):=λc=>by
  let⟨y,T⟩:=cG q.params 0;exact⟨y,T,(eQ.1 ((Z I.f).aF T)).2⟩
 refine⟨λa=>∃u j,BX (l.size::f) i g.length q.params.length o.size a u j/\Rs e h m (P+300+20*Cg 18) a/\H.size<=a.size,?_,?_⟩
 .refine⟨λv a=>(v=true->N=0)/\r=a,⟨λ_=>⟨λc=>by simp at c;omega,rfl⟩,λ_=>⟨sx,rfl⟩⟩,?_⟩
  rintro v _ ⟨G,rfl⟩
  refine⟨λc=>?_,λ_=>?_⟩
  .have Y:=ak (G c)
   exact iI ((JY D F B V).mono λ_ _ c=>c.mono (λj K=>by rw[Y];exact K) (ad _)) V
  refine⟨λv a=>(v=true->0<=pl)/\r=a,⟨λ_=>⟨λc=>⟨λ_=>⟨λ_=>by simpa using c,rfl⟩,λ_=>⟨λ_=>by simpa using c,rfl⟩⟩,λ_=>⟨aL,rfl⟩⟩,λ_=>⟨aL,rfl⟩⟩,?_⟩
  rintro v _ ⟨G,rfl⟩
  refine⟨λc=>iI (J1 D F B V z ⟨G c,V⟩) V,λ_=>?_⟩
  refine⟨λv a=>(v=true->1<=q.params.length)/\r=a,⟨λ_=>⟨λc=>?_,λ_=>⟨aL,rfl⟩⟩,λ_=>⟨aL,rfl⟩⟩,?_⟩
  .simp only[ar]at c
   let⟨y,T,K⟩:=first V
   exact⟨bh,V,y,K,λ_=>⟨λ_=>⟨λ_=>V,rfl⟩,λ_=>⟨λ_=>V,rfl⟩⟩,λ_=>⟨aL,rfl⟩⟩
  rintro v _ ⟨G,rfl⟩
  refine⟨λc=>iI (J2 D F B V z (G c)) V,λ_=>⟨λ_=>⟨λc=>?_,λ_=>R⟩,λ_=>R⟩⟩
  simp only[ar]at c
  let⟨y,T,K⟩:=first V
  have Y:=iI (JL D F B V z V) V
  exact⟨bh,V,y,K,λ_=>⟨λ_=>Y,λ_=>⟨λ_=>Y,λ_=>R⟩⟩,λ_=>R⟩
 rintro a ⟨u,j,s,al,ax⟩
 refine⟨_,s.b.cg 0,_,s.b.cg 1,_,s.b.cg 2,?_⟩
 refine(AX (fG.le (bA _ _) s.h.sl)).mono λ_ m8⟨n8,e8,q8,Y⟩=>⟨(J V).dv (Y.fz _),n8,e8,?_⟩
 have z8:=Y.size
 have G:=al.ext Y
 have K:=s.ext Y
 refine⟨λ_=>XP.ret (uv m8 (l.size::f) (ae V) aa _ (n.to G.f G.r) G.f V 12 bh) (J V) G.f n.rd V (λ_ c=>c) V,λc=>⟨_,K.b.cg 0,_,K.b.cg 1,_,K.b.cg 2,?_⟩⟩
 simp only[bL]at c
 have r9:=G.put n.rd (k:=l.size) V 0 [.i j.op,.i j.bP,.s u]
 exact⟨u,j,rfl,(K.h.fj.put aL _ _).fj.sl,⟨s.h.wx,V⟩,r9.r.mono V,r9.f⟩
end
def BQ{α:Type}{R:E->List Ce->α->Prop}{n:Nat}(g:oA n R){S:List Nat}(o:∀d∈S,d<a.size)(e:Nat)(l:List (α×List Ce))(h:∀x∈l,R (bG S a) x.2 x.1)(p:c=l.flatMap (·.2))(q:b=l.length):
 Gr S a (a.push (.cells (bt c) e)) e n R (.mk a.size 0 b b) (l.map (·.1)):=by
 refine Gr.lit (f:=l.map (·.2)) g (ad _) o (by rw[p,List.flatMap_def]) (by simp[q]) ⟨aL,λd i=>?_,λr d e k j=>?_⟩
 .simp at i;let⟨m,f⟩:=i;exact g.len (h _ f)
 .simp only[cJ,jG]at k j
  obtain⟨x,m,rfl⟩:=k
  obtain⟨y,f,rfl⟩:=j
  rw[m]at f;simp at f;subst f
  exact h x (aq m)
abbrev Uq(m:E)(s:O)(l:List (List Int)):Prop:=eT m 1 (mO m) s l
def wL{S:List Nat}(d:∀e∈S,e<a.size)(e:Nat)(l:List (List Int×O))(k:l.length<=1000)(h:∀x∈l,ap (bG S a) x.2 x.1)(f:c=l.map λx=>.s x.2)(g:b=l.length):Uq (bG S (a.push (.cells (bt c) e))) (.mk a.size 0 b b) (l.map (·.1)):=by
 have H:=BQ (R:=λm c x=>mO m c x) (n:=1) ⟨λh=>mO.le h _ _,λ⟨_,h,_⟩=>by rw[h];rfl⟩ d e (l.map λx=>(x.1,[Ce.s x.2])) (λx i=>by simp at i;obtain⟨m,o,j,rfl⟩:=i;exact⟨_,rfl,h _ j⟩) (c:=c) (b:=b) (by rw[f];clear f g h k;induction l<;>simp_all) (by simp[g]);have i:=Gr.done mO.mono H d bh bE;rwa[show(l.map λx=>(x.1,[Ce.s x.2])).map (·.1)=l.map (·.1)by simp[Xf,Function.comp_def]]at i
abbrev Y3(S:List Nat)(a m:E)(s:O)(l:List bz):Prop:=Gr S a m jW 3 iL s l
end
section
variable{K:O->E->Prop}
section
variable{S L:List Nat}{c P:Nat}{d:O}{m b:E}
def Ns(f:O)(d:∀a∈L,a<b.size)(g:∀a,J b a->K f a):aN cp 215 [O.v f] b λv a=>eG L b a/\∃c:O,v=.agg #[O.v c]/\K c a:=
 (LA f b).mono λ_ a⟨e,x⟩=>⟨x.dv d,f,e,g a x⟩
def Di(f:O)(d:∀a,J b a->K f a):aN cp 215 [O.v f] b λv a=>∃c:O,v=.agg #[O.v c]/\K c a:=
 (LA f b).mono λ_ a⟨e,x⟩=>⟨f,e,d a x⟩
def wm(hS:∀s∈S,s<m.size)(T:c∈S)(Q:Rd c d P m)(hP:P+1<=10^16):
 aN cp 214 [vp c 0] m λa6 U=>∃t ds,a6=O.v t/\Y3 S m U t ds/\ds∈rK/\Rd c d (P+1) U/\Fz [c] m U:=by
 apply AF (c,0)
 simp -zeta only[aC,aB]
 have hr:=Q.lt
 have i:∀{b:E},m.size<=b.size->∀s∈S,s<b.size:=λh s hc=>by have:=hS s hc;omega
 have I:∀(b:E)(l:List Int)(L:List Ce)(D:Nat),m.size<=b.size->L=l.map Ce.i->D=l.length->l.length<=1000->ap (bG S (b.push (.cells (bt L) aA))) (.mk b.size 0 D D) l:=λb l L D h h1 h2 h3=>ap.lit aA l (i h) h1 h2 V
 have au:∀(b:E)(f:Nat),ap (bG S b) (.mk f 0 0 0) []:=λb f=>mF _ _ _ _ _ _
 intro a3
 have x1:J m a3:=J.push _ _
 refine Di _ λy x2=>?_
 intro m3
 have x3:J y m3:=J.push _ _
 have z2:=(x1.trans x2).size
 have i3:ap (bG S m3) (.mk y.size 0 2 2) [0,1]:=I y [0,1] _ _ z2 rfl rfl bh
 clear_value m3
 refine Di _ λm4 H=>?_
 intro q
 have x5:J m4 q:=J.push _ _
 have z4:=(x3.trans H).size
 have c5:Uq (bG S q) (.mk m4.size 0 2 2) [[],[0,1]]:=wL (i V) _ [([],.mk m.size 0 0 0),([0,1],.mk y.size 0 2 2)] aL (by simp;exact⟨au _ _,i3.le (H.df _)⟩) rfl rfl
 clear_value q
 intro m6 B
 obtain⟨x7,-,z7⟩:=kH (M:=q) (d:=m6) (c:=B) rfl rfl rfl
 clear_value B
 have z5:=x5.size
 intro m8
 have x8:J B m8:=J.push _ _
 clear_value m8
 have z8:=x8.size
 refine Ns _ bE λC x9=>?_
 intro W
 have aE:J C W:=J.push _ _
 have z9:=x9.size
 have aY:ap (bG S W) (.mk C.size 0 3 3) [3,0,3]:=I C [3,0,3] _ _ V rfl rfl bh
 clear_value W
 have vw:=aE.size
 refine Ns _ bE λX ai=>?_
 intro k
 have aF:J X k:=J.push _ _
 have a_:=ai.size
 have aO:Uq (bG S k) (.mk X.size 0 2 2) [[],[3,0,3]]:=wL (i V) _ [([],.mk B.size 0 0 0),([3,0,3],.mk C.size 0 3 3)] aL (by simp;exact⟨au _ _,aY.le (ai.df _)⟩) rfl rfl
 clear_value k
 intro a4 n
 obtain⟨a7,-,bb⟩:=kH (M:=k) (d:=a4) (c:=n) rfl rfl rfl
 clear_value n
 have ba:=aF.size
 have LL:∀{b:E},n.size<=b.size->∀f∈[k.size,q.size],f<b.size:=λh=>bE
 intro Y
 have aG:J n Y:=J.push _ _
 have aZ:ap (bG S Y) (.mk n.size 0 2 2) [1,3]:=I n [1,3] _ _ V rfl rfl bh
 clear_value Y
 have a8:=aG.size
 refine Ns _ (LL a8) λZ aj=>?_
 intro o
 have aH:J Z o:=J.push _ _
 have bc:=aj.size
 have aP:Uq (bG S o) (.mk Z.size 0 1 1) [[1,3]]:=wL (i V) _ [([1,3],.mk n.size 0 2 2)] aL (by simp;exact aZ.le (aj.df _)) rfl rfl
 clear_value o
 have bd:=aH.size
 intro aa
 have aI:J o aa:=J.push _ _
 have a0:ap (bG S aa) (.mk o.size 0 3 3) [1,1,0]:=I o [1,1,0] _ _ V rfl rfl bh
 clear_value aa
 have be:=aI.size
 refine Ns _ (LL V) λx ak=>?_
 intro ab
 have al:J x ab:=J.push _ _
 have bf:=ak.size
 have a1:ap (bG S ab) (.mk x.size 0 1 1) [0]:=I x [0] _ _ V rfl rfl bh
 clear_value ab
 have bg:=al.size
 refine Ns _ (LL V) λz F=>?_
 intro ac
 have G:J z ac:=J.push _ _
 have bi:=F.size
 have a2:ap (bG S ac) (.mk z.size 0 1 1) [3]:=I z [3] _ _ V rfl rfl bh
 clear_value ac
 have bj:=G.size
 refine Ns _ (LL V) λae u=>?_
 intro p
 have aJ:J ae p:=J.push _ _
 have bk:=u.size
 have aQ:Uq (bG S p) (.mk ae.size 0 3 3) [[1,1,0],[0],[3]]:=wL (i V) _ [([1,1,0],.mk o.size 0 3 3),([0],.mk x.size 0 1 1),([3],.mk z.size 0 1 1)] aL (by simp;exact⟨a0.le ((((((ak.trans al).trans F).trans G).trans u)).df _),a1.le (((F.trans G).trans u).df _),a2.le (u.df _)⟩) rfl rfl
 clear_value p
 have bl:=aJ.size
 have ax:=(((((aI.trans ak).trans al).trans F).trans G).trans u).trans aJ
 have aw:=(((a7.trans aG).trans aj).trans aH).trans ax
 have K:=(((((x7.trans x8).trans x9).trans aE).trans ai).trans aF).trans aw
 have w:∀{am an:E}{t:O}{l:List (List Int)},J am an->Uq (bG S am) t l->Uq (bG S an) t l:=λaD h=>eT.le h (aD.df _) (mO.le (aD.df _))
 have ag:Uq (bG S p) .nil []:=⟨rfl,ad _,aL,aL⟩
 intro e
 have r:J p e:=J.push _ _
 have aT:cx (bG S e) (.mk p.size 0 4 4) RD:=(BQ (R:=iL) iL.mono (i (b:=p) V) jW [(⟨0,0,[[1,3]]⟩,[.i 0,.i 0,.s (.mk Z.size 0 1 1)]),(⟨1,0,[]⟩,[.i 1,.i 0,.s .nil]),(⟨0,0,[[1,1,0],[0],[3]]⟩,[.i 0,.i 0,.s (.mk ae.size 0 3 3)]),(⟨0,1,[]⟩,[.i 0,.i 1,.s .nil])] (by simp;exact⟨⟨_,rfl,w ax aP⟩,⟨_,rfl,ag⟩,⟨_,rfl,aQ⟩,⟨_,rfl,ag⟩⟩) rfl rfl).done iL.mono (i V) bh bh
 clear_value e
 have bm:=r.size
 intro A
 have v:J e A:=J.push _ _
 have ay:Y3 S e A (.mk e.size 0 3 3) Kv:=BQ (R:=iL) iL.mono (i (b:=e) V) jW [(⟨0,0,[[],[0,1]]⟩,[.i 0,.i 0,.s (.mk m4.size 0 2 2)]),(⟨0,0,[]⟩,[.i 0,.i 0,.s .nil]),(⟨0,0,[[],[3,0,3]]⟩,[.i 0,.i 0,.s (.mk X.size 0 2 2)])] (by simp;exact⟨⟨_,rfl,w (K.trans r) c5⟩,⟨_,rfl,w r ag⟩,⟨_,rfl,w (aw.trans r) aO⟩⟩) rfl rfl
 clear_value A
 have av:=((((x1.trans x2).trans x3).trans H).trans x5).trans (K.trans (r.trans v))
 have bn:=v.size
 have aM:Lw c [k.size,q.size] A:=λf j=>⟨LL V f j,by simp at j;omega⟩
 refine(cq (Q.ext av) V 5).mono λ_ af⟨az,aR,k0,k1,N,g⟩=>⟨aM.dv g,az,aR,λh=>?_,λ_=>⟨_,Kv,rfl,Gr.cy iL.mono (ay.eB iL.mono g (by simp;exact⟨T,V⟩)) (λ_ h=>Or.inl h) V,by simp[rK],N,(av.fz _).trans g⟩⟩
 simp only[ar]at h
 let⟨ah,hq⟩:=cG RD az.toNat (by simp[RD];omega)
 have aX:Le (bG S e) (bG (e.size::S) af):=(v.bG λf j=>(List.mem_cons.1 j).elim (λh=>Or.inr V) Or.inl).trans (g.df (by simp[T]))
 let⟨aS,hf,e0,e1,e2⟩:=(aT.le aX).aF hq
 refine⟨k0,bE,_,(eQ.1 e0).2,_,(eQ.1 e1).2,_,(eQ.1 e2).2,?_⟩
 intro a9
 have aU:Y3 S e af (.mk e.size 0 3 3) Kv:=ay.eB iL.mono g (by simp;exact⟨T,V⟩)
 have hz:=g.size
 have aW:Kv++[ah]∈rK:=by
  have:=aq hq;simp only[rK,aV,Xg];exact Or.inr ⟨ah,this,rfl⟩
 refine Gr.kK (g:=[.i 0,.i 0,.s .nil]) (k:=ah) iL.mono bh aU ((v.fz _).trans g) ⟨aS,rfl,hf⟩ (by simp[Kv]) λa5 M' g' f' z' q'=>?_
 have ao:=((((((x1.trans x2).trans x3).trans H).trans x5).trans (K.trans r)).fz [c]).trans f'
 have aK:Lw c [k.size,q.size] e:=λf j=>⟨LL V f j,by simp at j;omega⟩
 exact⟨aK.tw (((v.fz [c]).trans g).then (J.push af _)) f',a5,_,rfl,Gr.cy iL.mono g' (λ_ h=>Or.inl h) V,aW,Q.MF N ao (q' c N.lt (by show c≠e.size;omega)),ao⟩
end
end
section
variable{a:Nat}{b:List Ce}
def Pe(M:E)(b:List Ce)(x:dy×Option Ex):Prop:=∃c a k z,b=[.s c,.i x.1.aS,.i a,.i k,.s z]/\ap M c x.1.params/\∀e,x.2=some e->a=e.op/\k=e.bP/\fG M z e.bD
def Pe.mono:oA 5 Pe:=⟨λh⟨b,a,k,z,e,c,d⟩=>⟨b,a,k,z,e,c.le h,λx j=>let⟨f,g,i⟩:=d x j;⟨f,g,fG.le h i⟩⟩,λ⟨_,_,_,_,e,_⟩=>by rw[e];rfl⟩
def Y2(M:E)(b:List Ce)(x:dy×Ex):Prop:=∃a s,b=[.s a,.i x.1.aS,.i x.2.op,.i x.2.bP,.s s]/\ap M a x.1.params/\fG M s x.2.bD
def Y2.mono:oA 5 Y2:=⟨λh⟨a,s,e,b,c⟩=>⟨a,s,e,b.le h,fG.le h c⟩,λ⟨_,_,e,_⟩=>by rw[e];rfl⟩
abbrev WA(m:E)(s:O)(l:List (dy×Ex)):Prop:=eT m 5 (Y2 m) s l
structure WD(ds:List bz)(l:List (dy×Ex)):Prop where
 gp:GP ds (l.map (·.1))
 uv:∀x∈l,XE ds l.length x.1.params.length x.2
def Gr.ZB{α:Type}{S:List Nat}{q p:E}{j g h c k:Nat}{R:E->List Ce->α->Prop}{o:List α}(x:0<g)(m:Gr S q p j g R (.mk h 0 a c) o)(v:k<=a):Gr S q p j g R (.mk h 0 k c) (o.take k):=by
 have w:=m.len x;obtain⟨-,b,r,d⟩:=m;simp only[O.gF]at w;have t:b.length=a:=by rw[d.len];omega
 rcases r.aF with e|⟨B,C,tail,e,h4,h5,h6,h7⟩
 .simp at e
 simp only[O.gF,O.mk.injEq]at e h7;obtain⟨rfl,-,-,rfl⟩:=e;have l:b.flatten=(b.take k).flatten++(b.drop k).flatten:=by rw[<-qJ,dm]
 have n:∀c∈b.take k,c.length=g:=λc s=>d.size c (dA s);refine⟨aL,b.take k,⟨by rw[cw n,gJ,t,jc v];rfl,Or.inr ⟨h,c,(b.drop k).flatten++tail,aL,h4,by rw[<-fC,<-l];exact h5,by rw[<-fC,<-l];exact h6,bE⟩⟩,?_,n,λy z A f i=>?_⟩
 .rw[gJ,gJ,d.len]
 .rw[lF]at f i;split at f
  .rename_i u;rw[an u]at i;exact d.dz y z A f i
  .simp at f
section
variable{S L:List Nat}{d P:Nat}{c:O}{m M:E}
def rq{K:O->Int->Int->Int->O->E->Prop}(l:List Int)(r:Int)(n:∀c∈S,c<M.size)(m:∀d∈L,d<M.size)(t:l.length<=1000)(p:b=l.map Ce.i)(s:a=l.length)(q:∀c,J M c->ap (bG S c) (.mk M.size 0 a a) l->K (.mk M.size 0 a a) r 0 0 .nil c):
 aN cp 250 [O.v (.mk M.size 0 a a),vi r] (M.push (.cells (bt b) aA)) λv c=>eG L (M.push (.cells (bt b) aA)) c/\∃e:O,∃f:Int,∃g:Int,∃h:Int,∃i:O,v=.agg #[O.v e,vi f,vi g,vi h,O.v i]/\K e f g h i c:=
 have j:=J.push M (.cells (bt b) aA)
 (Q8 _ r _).mono λ_ c⟨k,x⟩=>⟨x.dv λd o=>j.lt (m d o),_,_,_,_,_,k,q c (j.trans x) ((ap.lit aA l n p s V).le (x.df _))⟩
def xR(a:List Int)(r:Int):dy:=⟨a,[],r,0,[]⟩
def SY.mono:oA 5 SY:=⟨λh=>SY.le h,λ⟨_,_,_,_,e,_⟩=>by rw[e];rfl⟩
def Q3(l:List (dy×O))(c:∀d∈S,d<M.size)(h:∀x∈l,ap (bG S M) x.2 x.1.params)(k:l.length<=1000)(f:b=l.flatMap λx=>[.s x.2,.i x.1.aS,.i 0,.i 0,.s .nil])(g:a=l.length):pv (bG S (M.push (.cells (bt b) fm))) (.mk M.size 0 a a) (l.map (·.1)):=by
 have H:=(BQ (R:=SY) SY.mono c fm (l.map λx=>(x.1,[Ce.s x.2,.i x.1.aS,.i 0,.i 0,.s .nil])) (λx d=>by simp at d;obtain⟨i,j,e,rfl⟩:=d;exact⟨_,_,_,_,rfl,h _ e⟩) (c:=b) (b:=a) (by rw[f,List.flatMap_map]) (by simp[g])).done SY.mono c bh bE;rwa[show(l.map λx=>(x.1,[Ce.s x.2,.i x.1.aS,.i 0,.i 0,.s .nil])).map (·.1)=l.map (·.1)by simp[Xf,Function.comp_def]]at H
end
end
section
def US:List dy:=[xR [1] 0,xR [1,1] 1,xR [1] 1,xR [1,0] 1,xR [2,1] 1,xR [1,1] 0]
def U7:List dy:=[xR [3] 0,xR [0] 1,xR [0,1] 1,xR [3,0] 3,xR [3] 1,xR [1,3,0] 0]
def OW:List dy:=[xR [0] 0,xR [0,0] 0,xR [1,0] 0,xR [0] 1]
def Qu:(∀q∈US,(q.params,q.aS)∈Pl)/\(∀q∈U7,(q.params,q.aS)∈Pl)/\∀q∈OW,(q.params,q.aS)∈Pl:=bh
def OK{α:Type}{l:List α}{k:Nat}{x:α}(h:l[k]? =some x):l.set k x=l:=gV λi=>by
 rw[jE];split
 .rename_i e;subst e;rw[an (av h),h]
 .rfl
section
variable{b:List Nat}{c P:Nat}{d:O}{m:E}
def Ey(hS:∀j∈b,j<m.size)(s:c∈b)(I:Rd c d P m)(hP:P+10+4*(300+40*Cg 18)<=10^16):
 aN cp 237 [vp c 0] m λbz m'=>∃w aW y o,bz=.agg #[O.v w,O.v aW]/\cx (bG b m') w y/\WA (bG b m') aW o/\WD y o/\Rd c d (P+10+4*(300+40*Cg 18)) m'/\Fz [c] m m':=by
 apply xh (c,0)
 unfold sg
 simp(config:={zeta:=false,maxSteps:=2000000}) only[aC,aB]
 have hr:=I.lt
 intro aa
 have x1:J m aa:=J.push _ _
 have s1:aa.size=m.size+1:=by simp[aa]
 clear_value aa
 have ao:∀j∈m.size::b,j<aa.size:=bO hS x1.size V
 refine(wm ao (by simp[s]) (I.ext x1) V).mono λ_ e⟨w,y,r,gd,aM,d2,f2⟩=>⟨f2.dv bE,w,r,?_⟩
 have z2:=f2.size
 have F2:=(x1.fz [c]).trans f2
 have aK:cx (bG (m.size::b) e) w y:=gd.done iL.mono ao bh (oh (px y aM))
 intro m3 A
 obtain⟨x4,-,z4⟩:=kH (M:=e) (d:=m3) (c:=A) rfl rfl rfl
 clear_value A
 have h:∀{g:E},A.size<=g.size->∀j∈e.size::m.size::b,j<g.size:=λq=>bO (λj hc=>oh (ao j hc)) q V
 have LL:∀{g:E},A.size<=g.size->∀v∈[e.size,m.size],v<g.size:=λq=>bE
 refine rq (S:=e.size::m.size::b) [1] 0 (h V) (LL V) bh rfl rfl λa9 x5 i1=>?_
 have z5:=x5.size
 refine rq (S:=e.size::m.size::b) [1,1] 1 (h V) (LL V) bh rfl rfl λa2 x6 i2=>?_
 have z6:=x6.size
 refine rq (S:=e.size::m.size::b) [1] 1 (h V) (LL V) bh rfl rfl λa3 x7 i3=>?_
 have z7:=x7.size
 refine rq (S:=e.size::m.size::b) [1,0] 1 (h V) (LL V) bh rfl rfl λa4 x8 i4=>?_
 have z8:=x8.size
 refine rq (S:=e.size::m.size::b) [2,1] 1 (h V) (LL V) bh rfl rfl λa_ x9 i5=>?_
 have z9:=x9.size
 refine rq (S:=e.size::m.size::b) [1,1] 0 (h V) (LL V) bh rfl rfl λa6 aD i6=>?_
 have vw:=aD.size
 intro b1
 have y1:J a6 b1:=J.push _ _
 have X9:=x9.trans aD;have X8:=x8.trans X9;have X7:=x7.trans X8;have X6:=x6.trans X7
 have g1:pv (bG (e.size::m.size::b) b1) (.mk a6.size 0 6 6) US:=Q3 [(xR [1] 0,.mk A.size 0 1 1),(xR [1,1] 1,.mk a9.size 0 2 2),(xR [1] 1,.mk a2.size 0 1 1),(xR [1,0] 1,.mk a3.size 0 2 2),(xR [2,1] 1,.mk a4.size 0 2 2),(xR [1,1] 0,.mk a_.size 0 2 2)] (h V) (by simp;exact⟨i1.le (X6.df _),i2.le (X7.df _),i3.le (X8.df _),i4.le (X9.df _),i5.le (aD.df _),i6⟩) aL rfl rfl
 have bK:b1.size=a6.size+1:=by simp[b1]
 clear_value b1
 have w1:=y1.size
 refine rq (S:=e.size::m.size::b) [3] 0 (h V) (LL V) bh rfl rfl λc1 u1 j1=>?_
 have v1:=u1.size
 refine rq (S:=e.size::m.size::b) [0] 1 (h V) (LL V) bh rfl rfl λc2 u2 j2=>?_
 have v2:=u2.size
 refine rq (S:=e.size::m.size::b) [0,1] 1 (h V) (LL V) bh rfl rfl λc3 u3 j3=>?_
 have v3:=u3.size
 refine rq (S:=e.size::m.size::b) [3,0] 3 (h V) (LL V) bh rfl rfl λc4 u4 j4=>?_
 have v4:=u4.size
 refine rq (S:=e.size::m.size::b) [3] 1 (h V) (LL V) bh rfl rfl λc5 u5 j5=>?_
 have v5:=u5.size
 refine rq (S:=e.size::m.size::b) [1,3,0] 0 (h V) (LL V) bh rfl rfl λc6 u6 j6=>?_
 have v6:=u6.size
 intro b2
 have y2:J c6 b2:=J.push _ _
 have U5:=u5.trans u6;have U4:=u4.trans U5;have U3:=u3.trans U4;have U2:=u2.trans U3
 have g2:pv (bG (e.size::m.size::b) b2) (.mk c6.size 0 6 6) U7:=Q3 [(xR [3] 0,.mk b1.size 0 1 1),(xR [0] 1,.mk c1.size 0 1 1),(xR [0,1] 1,.mk c2.size 0 2 2),(xR [3,0] 3,.mk c3.size 0 2 2),(xR [3] 1,.mk c4.size 0 1 1),(xR [1,3,0] 0,.mk c5.size 0 3 3)] (h V) (by simp;exact⟨j1.le (U2.df _),j2.le (U3.df _),j3.le (U4.df _),j4.le (U5.df _),j5.le (u6.df _),j6⟩) aL rfl rfl
 have bL:b2.size=c6.size+1:=by simp[b2]
 clear_value b2
 have w2:=y2.size
 refine rq (S:=e.size::m.size::b) [0] 0 (h V) (LL V) bh rfl rfl λe1 t1 k1=>?_
 have q1:=t1.size
 refine rq (S:=e.size::m.size::b) [0,0] 0 (h V) (LL V) bh rfl rfl λe2 t2 k2=>?_
 have q2:=t2.size
 refine rq (S:=e.size::m.size::b) [1,0] 0 (h V) (LL V) bh rfl rfl λe3 t3 k3=>?_
 have q3:=t3.size
 refine rq (S:=e.size::m.size::b) [0] 1 (h V) (LL V) bh rfl rfl λe4 t4 k4=>?_
 have q4:=t4.size
 intro b3
 have y3:J e4 b3:=J.push _ _
 have T3:=t3.trans t4;have T2:=t2.trans T3
 have g3:pv (bG (e.size::m.size::b) b3) (.mk e4.size 0 4 4) OW:=Q3 [(xR [0] 0,.mk b2.size 0 1 1),(xR [0,0] 0,.mk e1.size 0 2 2),(xR [1,0] 0,.mk e2.size 0 2 2),(xR [0] 1,.mk e3.size 0 1 1)] (h V) (by simp;exact⟨k1.le (T2.df _),k2.le (T3.df _),k3.le (t4.df _),k4⟩) aL rfl rfl
 have bM:b3.size=e4.size+1:=by simp[b3]
 clear_value b3
 have w3:=y3.size
 refine rq (S:=e.size::m.size::b) [] 0 (h V) (LL V) bh rfl rfl λM0 x0 n0=>?_
 have z0:=x0.size
 have aG:=((((u1.trans U2).trans y2)).trans (t1.trans T2)).trans (y3.trans x0)
 have XM:J A M0:=((x5.trans X6).trans y1).trans aG
 have G1:=pv.le (aG.df _) g1
 have G2:=pv.le ((((t1.trans T2)).trans (y3.trans x0)).df _) g2
 have a8:=pv.le (x0.df _) g3
 have dM:Rd c d (P+1) M0:=(d2.ext x4).ext XM
 have L2:∀{g:E},A.size<=g.size->Lw c [e.size,m.size] g:=λq=>lw hr bE
 have bF:c∈e.size::m.size::b:=by simp[s]
 have l:∀{g M':E}{v W:Nat},A.size<=v->v<g.size->Fz [c] g M'->af M' v W=af g v W:=λh1 h2 N=>aJ (N.same _ h2 bE) _
 refine(cq dM V _).mono λ_ m5⟨r1,en,bu,aY,d5,f5⟩=>⟨(L2 V).dv f5,r1,en,bu,by simp at aY⊢;omega,?_⟩
 have ak:Le (bG (e.size::m.size::b) M0) (bG (e.size::m.size::b) m5):=f5.df (by simp[s])
 have bS:=f5.size
 let⟨K,aP⟩:=cG US r1.toNat (by simp[US]at aY⊢;omega)
 obtain⟨_,⟨pa,pn,pk,pz,rfl,pi⟩,pr⟩:=(pv.le ak G1).iB _ K aP
 have pg:=λt j q=>(eQ.1 (pr t j q)).2
 refine⟨_,pg 0 _ rfl,_,pg 1 _ rfl,_,pg 2 _ rfl,_,pg 3 _ rfl,_,pg 4 _ rfl,?_⟩
 refine(cq d5 V _).mono λ_ m6⟨r2,en,bw,a0,d6,z⟩=>⟨(L2 V).dv z,r2,en,?_⟩
 have bT:=z.size
 have al:Le (bG (e.size::m.size::b) m5) (bG (e.size::m.size::b) m6):=z.df (by simp[s])
 let⟨p2,aR⟩:=cG U7 r2.toNat (by simp[U7]at a0⊢;omega)
 obtain⟨_,⟨qa,qn,qk,qz,rfl,qi⟩,qr⟩:=(pv.le (ak.trans al) G2).iB _ p2 aR
 have qg:=λt j q=>(eQ.1 (qr t j q)).2
 refine⟨l bE bE z,l bE bE z,l bE bE z,l bE bE z,l bE bE z,bw,by simp at a0⊢;omega,_,qg 0 _ rfl,_,qg 1 _ rfl,_,qg 2 _ rfl,_,qg 3 _ rfl,_,qg 4 _ rfl,?_⟩
 refine(cq d6 V _).mono λ_ f⟨r3,en,bx,a1,d7,p⟩=>⟨(L2 V).dv p,r3,en,?_⟩
 have bU:=p.size
 have am:Le (bG (e.size::m.size::b) m6) (bG (e.size::m.size::b) f):=p.df (by simp[s])
 let⟨p3,aS⟩:=cG OW r3.toNat (by simp[OW]at a1⊢;omega)
 obtain⟨_,⟨ra,rn,rk,rz,rfl,ri⟩,rr⟩:=(pv.le ((ak.trans al).trans am) a8).iB _ p3 aS
 have rg:=λt j q=>(eQ.1 (rr t j q)).2
 refine⟨l bE bE p,l bE bE p,l bE bE p,l bE bE p,l bE bE p,l bE bE p,l bE bE p,l bE bE p,l bE bE p,l bE bE p,bx,by simp at a1⊢;omega,_,rg 0 _ rfl,_,rg 1 _ rfl,_,rg 2 _ rfl,_,rg 3 _ rfl,_,rg 4 _ rfl,?_⟩
 intro T
 have a5:J f T:=J.push _ _
 have bm:ap (bG (e.size::m.size::b) f) (.mk b3.size 0 0 0) []:=mF _ _ _ _ _ _
 have gf:Gr (e.size::m.size::b) f T fm 5 Pe (.mk f.size 0 4 4) [(xR [] 0,none),(K,none),(p2,none),(p3,none)]:=BQ Pe.mono (h V) fm [((xR [] 0,none),[.s (.mk b3.size 0 0 0),.i 0,.i 0,.i 0,.s .nil]),((K,none),[.s pa,.i K.aS,.i pn,.i pk,.s pz]),((p2,none),[.s qa,.i p2.aS,.i qn,.i qk,.s qz]),((p3,none),[.s ra,.i p3.aS,.i rn,.i rk,.s rz])] (by simp;exact⟨⟨_,_,_,_,rfl,bm,aL⟩,⟨_,_,_,_,rfl,pi.le (al.trans am),aL⟩,⟨_,_,_,_,rfl,qi.le am,aL⟩,⟨_,_,_,_,rfl,ri,aL⟩⟩) rfl rfl
 have s8:T.size=f.size+1:=by simp[T]
 clear_value T
 let u:=[xR [] 0,K,p2,p3]
 have bB:f.size≠e.size:=V
 have be:∀ac∈u,(ac.params,ac.aS)∈Pl:=by
  simp only[u,aV,jX,BE];rintro ac (rfl|rfl|rfl|rfl)
  .simp[xR,Pl]
  .exact Qu.1 _ (aq aP)
  .exact Qu.2.1 _ (aq aR)
  .exact Qu.2.2 _ (aq aS)
 have a7:Fz [c] e f:=(((x4.trans XM).fz [c]).trans f5).trans (z.trans p)
 have aX:∀{g:E}{ag:O}{o:List (dy×Option Ex)}(W:Nat)(L:List Ce),Gr (e.size::m.size::b) f g fm 5 Pe ag o->Gr (e.size::m.size::b) f (ah g e.size W L) fm 5 Pe ag o:=λW L G=>G.Nw Pe.mono ((Fz.az [e.size] _).ah (Or.inl aL) W L) aL (by have:=G.bn;simp;omega)
 intro U
 have g9:Gr (e.size::m.size::b) f U fm 5 Pe (.mk f.size 0 4 4) [(xR [] 0,none),(K,none),(p2,none),(p3,none)]:=aX 1 [.s (.mk f.size 0 4 4)] gf
 have r9:Rs c d e (P+4) U:=(Rs.mk (a7.then a5) (d7.ext a5)).put d2 (ad _) 1 [.s (.mk f.size 0 4 4)]
 have s9:U.size=T.size:=aw _ _ _ _
 clear_value U
 intro ay
 have ai:J U ay:=J.push _ _
 have bp:ap (bG [c] ay) (.mk U.size 0 5 5) [4,4,3,2,4]:=ap.lit aA _ bE rfl rfl aL
 clear_value ay
 have bQ:=ai.size
 refine(kA (r9.r.ext ai) V bp aL).mono λ_ bq⟨mn,en,bl,ba,ae⟩=>⟨(L2 V).dv ae,mn,en,?_⟩
 have bR:=ae.size
 have bD:2<=mn/\mn<=4:=by simp at bl;omega
 obtain⟨n,rfl⟩:∃n:Nat,mn=n:=⟨mn.toNat,V⟩
 have bi:O.cut (.mk f.size 0 4 4) (Int.toNat 0) (Int.toNat n) 5=.mk f.size 0 n 4:=by simp[O.cut]
 rw[bi]
 refine⟨bh,V,bE,?_⟩
 intro ab
 have bc:Gr (e.size::m.size::b) f ab fm 5 Pe (.mk f.size 0 n 4) ([(xR [] 0,none),(K,none),(p2,none),(p3,none)].take n):=Gr.ZB bh (aX 1 [.s (.mk f.size 0 n 4)] ((g9.ext Pe.mono ai).eB Pe.mono ae (by simp[s];omega))) V
 have bv:Rs c d e (P+5) ab:=((r9.ext ai).to ae ba).put d2 (ad _) 1 [.s (.mk f.size 0 n 4)]
 have bI:ab.size=bq.size:=aw _ _ _ _
 clear_value ab
 have aT:(u.take n).length=n:=by simp[u];omega
 have gp:GP y (u.take n):=⟨aM,V,V,λac i=>be ac (dA i)⟩
 have ew:cT ((n:Int) -1)=n -1:=aQ V V
 rw[ew]
 refine⟨λN g=>∃(i:Nat)(o:List (dy×Option Ex)),N=(i:Int) -1/\i<=n/\Gr (e.size::m.size::b) f g fm 5 Pe (.mk f.size 0 n 4) o/\o.map (·.1)=u.take n/\(∀(t:Nat)(x:dy×Option Ex),o[t]? =some x->i<=t->∃r,x.2=some r/\XE y n x.1.params.length r)/\Rs c d e (P+5+(n -i)*(300+40*Cg 18)) g/\ab.size<=g.size,λN _=>(N+1).toNat,⟨n,_,rfl,ad _,bc,by rw[NW];rfl,λt x C q=>by have:=av C;simp at this;omega,by rw[Ql,Qm];exact bv,ad _⟩,?_⟩
 rintro N g ⟨i,o,rfl,bC,G,hl,ar,Y,zM⟩
 have bk:o.length=n:=by rw[<-aT,<-hl];simp
 have gy:=G.bn
 simp only[O.jB]at gy
 have aI:f.size∉e.size::m.size::b:=λq=>by have:=h (g:=A) (ad _) _ q;omega
 refine dit (λq=>?_) λq=>?_
 .obtain⟨i,rfl⟩:∃D,i=D+1:=⟨i -1,V⟩
  have ek:((i+1:Nat):Int) -1=(i:Int):=V
  rw[ek]
  let⟨x,Q⟩:=cG o i
  have au:(u.take n)[i]? =some x.1:=by rw[<-hl];simp[Q]
  have bo:pv (bG [c] g) (.mk f.size 0 n 4) (u.take n):=by
   have H:=G.nH Pe.mono aI bh V;rw[<-hl];refine⟨bE,H.cap,H.gT,λD aF hy=>?_⟩;simp only[cJ,jG]at hy;obtain⟨Z,R,rfl⟩:=hy;obtain⟨L,⟨F,i1,i2,i3,rfl,ha,-⟩,ax⟩:=H.iB D Z R;have aU:=iS g (S:=e.size::m.size::b) (c:=[c]) (by simp[s]);exact⟨_,⟨F,_,_,_,rfl,ha.le aU⟩,aU.iB ax⟩
  have bj:cx (bG [c] g) w y:=aK.le ((iS e (c:=[c]) (by simp[s])).trans (fh Y.f))
  have hB:(n -(i+1))*(300+40*Cg 18)+(300+40*Cg 18)=(n -i)*(300+40*Cg 18):=by rw[<-pY];congr 1;omega
  have bf:(n -i)*(300+40*Cg 18)<=4*(300+40*Cg 18):=dh _ V
  have bn:i=0->x.1.params.length=0:=λI=>by subst I;obtain⟨n',rfl⟩:∃n',n=n'+1:=⟨n -1,V⟩;simp[u]at au;rw[<-au];rfl
  have bg:∀j∈f.size::e.size::m.size::b,j<g.size:=bO (h (g:=g) V) (ad _) gy.2
  refine XP.kk (MM (f:=f.size::e.size::m.size::b) bg (by simp[s]) ⟨Y.r,bj,bo,gp⟩ V au bn) (L2 V) λag r M1 hs B bb aj=>?_
  have bN:=aj.size
  intro br az
  obtain⟨aE,-,bP⟩:=kH (M:=M1) (d:=br) (c:=az) rfl rfl rfl
  clear_value az
  have aH:=(G.eB Pe.mono aj (by simp[s];omega)).ext Pe.mono aE
  obtain⟨L,⟨F,i1,i2,i3,rfl,ha,-⟩,ju⟩:=aH.cells Q
  have bs:=ju 0 _ rfl;have bt:=ju 1 _ rfl
  refine⟨V,bE,F,bs,V,bE,_,bt,V,bE,?_⟩
  obtain⟨wr,gs,-,bH⟩:=aH.set Pe.mono (X:=List.range f.size) ⟨V,λv hb hn=>absurd (List.mem_range.2 hb) hn⟩ (k:=i) V (a:=(x.1,some r)) (cs:=[.s F,.i x.1.aS,.i r.op,.i r.bP,.s ag]) ⟨F,_,_,_,rfl,ha,λe' aO=>by simp at aO;subst aO;exact⟨rfl,rfl,fG.le (aE.df _) hs⟩⟩
  refine⟨wr,?_⟩
  intro aO
  have bJ:aO.size=az.size:=aw _ _ _ _
  have aZ:Rs c d e (P+5+(n -(i+1))*(300+40*Cg 18)+300+40*Cg 18) aO:=((Y.to aj bb).ext aE).put d2 (by show e.size<=f.size;omega) _ _
  refine⟨λv hb=>bd _ _ _ _ (by simp at hb;show v≠f.size;omega),⟨i,o.set i (x.1,some r),aQ V V,V,gs,?_,λt aF C bA=>?_,⟨aZ.f,aZ.r.mono V⟩,V⟩,?_⟩
  .rw[tU,OK (by simp[Q]),hl]
  .rw[jE]at C
   split at C
   .rename_i e';subst e';rw[an V]at C;simp at C;subst C
    have:(u.take n).length=n:=aT
    rw[this]at B;exact⟨r,rfl,B⟩
   .exact ar t aF C V
  .rw[aQ V V];show((i:Int) -1+1).toNat<((i:Int)+1).toNat;omega
 .have I:i=0:=V
  subst I
  have aj:Le (bG (e.size::m.size::b) g) (bG b (ah g m.size 0 [.s w,.s (.mk f.size 0 n 4)])):=cA aL λj hc=>by simp[hc]
  have H:=G.nH Pe.mono aI bh V
  have bf:(n -0)*(300+40*Cg 18)<=4*(300+40*Cg 18):=dh _ V
  have C:Rs c d m (P+5+(n -0)*(300+40*Cg 18)) g:=⟨F2.trans Y.f,Y.r⟩
  have C:=C.put I (ad _) 0 [.s w,.s (.mk f.size 0 n 4)]
  have az:(o.map λx=>(x.1,x.2.getD (.mk 0 0 []))).map (·.1)=u.take n:=by rw[Xf,<-hl];rfl
  refine⟨w,.mk f.size 0 n 4,y,o.map λx=>(x.1,x.2.getD (.mk 0 0 [])),rfl,aK.le ((Y.f.df (by simp[s])).trans ((cA aL λj hc=>by simp[hc]))),⟨bE,H.cap,H.gT,λD aF hy=>?_⟩,⟨by rw[az];exact gp,λx Q=>?_⟩,C.r.mono V,C.f⟩
  .simp only[cJ,jG]at hy
   obtain⟨Z,R,rfl⟩:=hy
   let⟨r,B,hf⟩:=ar D Z R (dN _)
   obtain⟨L,⟨F,i1,i2,i3,rfl,ha,hb⟩,ax⟩:=H.iB D Z R
   obtain⟨rfl,rfl,au⟩:=hb r B
   exact⟨_,⟨F,i3,by simp[B],ha.le aj,by simp only[B,vt];exact fG.le aj au⟩,aj.iB ax⟩
  .simp only[Xg]at Q
   obtain⟨Z,R,rfl⟩:=Q
   let⟨D,F⟩:=List.mem_iff_getElem?.1 R
   let⟨r,B,hf⟩:=ar D Z F (dN _)
   simp only[B,vt,dZ,bk];exact hf
end
end
structure O2(S:List Nat)(m0 m:E)(lb:Nat)(s:O)(l:List cU)(sc:Nat):Prop where
 box:cE m lb lE [.s s,.i sc]
 gr:GS (lb::S) m0 m s l
 up:m0.size<=lb
def O2.ext{S:List Nat}{c m b:E}{a d:Nat}{s:O}{l:List cU}(h:O2 S c m a s l d)(x:J m b):O2 S c b a s l d:=⟨h.box.ext x,h.gr.ext gE.mono x,h.up⟩
def O2.ne{S:List Nat}{b m:E}{a c:Nat}{s:O}{l:List cU}(h:O2 S b m a s l c):s.D≠a:=h.gr.ne h.box bh
def LoP(S:List Nat)(f m:E)(c:Nat)(s:O)(P:List cU->Nat->Prop)(d:E):Prop:=∃a b e,O2 S f d c a b e/\P b e/\Fz [c,s.D] m d/\(a.D=s.D\/m.size<=a.D)
def Lu{S:List Nat}{n e:E}{b f:Nat}{s w D:O}{l:List cU}{x:cU}(q:O2 S n e b s l f)(C:n.size<=e.size)(P:ap (bG (s.D::b::S) e) w x.args)(Q:nF (bG (s.D::b::S) e) D x.bD)(t:l.length<=1000000)(hs:f<=1000000):
 aN cp 311 [vp b 0,oZ x w D] e λW T=>W=vi (f:Nat)/\LoP S n e b s (λc d=>c=l++[x]/\d=f+1) T:=by
 apply wu (b,0)
 simp -zeta only[aC,aB]
 intro i
 have k:J e i:=J.push _ _
 have s1:i.size=e.size+1:=by simp[i]
 clear_value i
 have g:=q.ext k
 have hy:=g.gr.bn
 have I:=g.box.lt
 have aa:=q.box.lt
 have ab:=q.gr.bn
 refine⟨s,g.box.cg 0,?_⟩
 intro U
 have K:J i U:=J.push _ _
 refine⟨aJ (K.same _ I) _,?_⟩
 have g1:GS (b::S) (e.extract 0 n.size) i s l:=Gr.cy gE.mono g.gr (λL t=>Or.inl t) (by rw[mg C];exact ad _)
 refine Gr.kK (g:=[.i 0,.i 0,.i 0,.s .nil,.s .nil]) (k:=x) gE.mono bh g1 (((J.MK C).trans k).fz []) ⟨w,D,rfl,P.le (k.df _),eT.le Q (k.df _) λ_ _=>rJ.le (k.df _)⟩ V λp u G Z X F=>?_
 have A:cE u b lE [.s s,.i f]:=g.box.congr (F b I (kE g.ne))
 have R:=G.ne A bh
 refine⟨λc d=>?_,A.fK aL,?_⟩
 .simp at d;subst d
  rw[F e.size V V,K.same _ V]
 intro j
 have B:cE j b lE [.s p,.i f]:=cE.ah (m:=u) (o:=0) (r:=[.s p]) A
 have y:∀c,c≠b->j[c]? =u[c]? :=λc d=>bd _ _ _ _ d
 have s4:j.size=u.size:=aw _ _ _ _
 have M:cT ((f:Int)+1)=(f+1:Nat):=by rw[aQ V V];rfl
 refine⟨λc d=>y c (by simp at d;omega),_,B.cg 1,B.fK aL,?_⟩
 rw[M]
 intro v
 have H:cE v b lE [.s p,.i (f+1:Nat)]:=cE.ah (m:=j) (o:=1) (r:=[.i (f+1:Nat)]) B
 have z:∀c,c≠b->v[c]? =j[c]? :=λc d=>bd _ _ _ _ d
 have s5:v.size=j.size:=aw _ _ _ _
 refine⟨λc d=>z c (by simp at d;omega),_,H.cg 1,?_⟩
 have N:GS (b::S) n v p (l++[x]):=by
  refine Gr.cy gE.mono (G.re gE.mono (Y:=[b]) ⟨V,λc d h=>?_⟩ aL (by simp;exact R) λc d=>Or.inl d) (λL t=>Or.inl t) (by rw[mg C];exact ad _);have:c≠b:=by simpa using h
  exact(z c this).trans (y c this)
 refine⟨by rw[aQ V V];congr 1;omega,p,_,_,⟨H,N,q.up⟩,⟨rfl,rfl⟩,⟨V,λc d h=>?_⟩,oh X.2⟩
 simp only[aV,jX,BE,vv]at h
 rw[z c h.1,y c h.1,F c V h.2,k.same c d]
section
variable{K D d b:Nat}{a:List cU}
structure LW(ds:List bz)(nf sc:Nat)(a:List cU)(K D sc':Nat):Prop where
 wl:WL ds nf False sc a
 dd:sc'=sc+dc a
 sz:sw a<=K
 oD:sc'<=sc+D
def LW.az(b:List bz)(c a:Nat):LW b c a [] 0 0 a:=⟨.nil _ _ _ _,aL,aL,V⟩
def LW.fj{c:List bz}{e f g:Nat}(h:LW c e f a K D g)(j:K<=d)(i:D<=b):LW c e f a d b g:=⟨h.wl,h.dd,oh h.sz,oh h.oD⟩
def LW.trans{e:List bz}{f i j k:Nat}{g:List cU}(h:LW e f i a K D j)(c:LW e f j g d b k):LW e f i (a++g) (K+d) (D+b) k:=
 ⟨h.wl.append (h.dd▸c.wl),by rw[c.dd,h.dd,cV];omega,by have:=h.sz;have:=c.sz;rw[dC];omega,O8 h.oD c.oD⟩
def LW.lK{b:List bz}{c a:Nat}{x:cU}(h:WS b c False a x):LW b c a [x] x.w 1 (a+1):=⟨.lK h,by rw[kM,ta,ZC h],by simp[sw],V⟩
section
variable{S:List Nat}{e m f:E}{c g j:Nat}{s i:O}{l h:List cU}
def O2.gG(h:O2 S e m c s l g)(d:J e m)(b:Fz [c,s.D] m f):J e f:=by
 have k:=h.gr.bn;have j:=h.up;exact Fz.ext (((d.fz [c,s.D]).trans b).DB λi a=>Or.inr (by simp at a;omega))
def O2.re{S' Y:List Nat}(h:O2 S e m c s l g)(j:Fz Y m f)(d:∀b∈Y,b∈S/\b≠c/\b≠s.D)(k:∀b∈S',b∈S\/m.size<=b):O2 S' e f c s l g:=
 ⟨h.box.congr (j.same _ h.box.lt λi=>(d _ i).2.1 rfl),h.gr.re gE.mono j (λb a=>ai _ (d b a).1) (λi=>(d _ i).2.2 rfl) λb a=>(List.mem_cons.1 a).elim (λi=>Or.inl (by rw[i];exact bg)) λa=>(k b a).imp (ai _) id,h.up⟩
end
structure LS(S:List Nat)(m0 m:E)(lb:Nat)(s:O)(l:List cU)(sc:Nat)(Mt:O)(ev:List Int):Prop where
 em:O2 S m0 m lb s l sc
 x:J m0 m
 gG:∀c∈S,c<m.size
 Mt:ap (bG [s.D,lb] m) Mt ev
 sm:∀y∈ev,0<=y/\y<(sc:Int)
def ZI(e:Ex)(t:O):Value:=.agg #[vi e.op,vi e.bP,O.v t]
def Uu(b:List bz)(h:Nat)(e:Ex):Prop:=∀(S:List Nat)(c m:E)(d:Nat)(s:O)(l:List cU)(f:Nat)(Mt:O)(ev:List Int)(g p t:O),LS S c m d s l f Mt ev->WX b h ev.length e->f+4*e.n<=2000->ev.length+4*e.n<=2000->l.length+4*e.n<=2000->cx c g b->dT b->fG c t e.bD->
 aN cp 278 [vp d 0,.agg #[O.v g,O.v p],ZI e t,O.v Mt] m λv k=>∃r:Int,v=vi r/\LoP S c m d s (λj i=>∃a,j=l++a/\LW b h f a (3*e.n -1) e.n i/\0<=r/\r<(i:Int)) k
def Zr(a:List bz)(f:Nat)(e:Ex):Prop:=∀(S:List Nat)(m:E)(b:Nat)(Mt:O)(ev:List Int)(d p t:O),(∀c∈S,c<m.size)->ap m Mt ev->(∀y∈ev,0<=y/\y<(b:Int))->WX a f ev.length e->b+4*e.n<=2000->ev.length+4*e.n<=2000->cx m d a->dT a->fG m t e.bD->
 nu 249 [.agg #[O.v d,O.v p],ZI e t,O.v Mt,vi b] m S λc=>WB a f False b c/\c.w<=3*e.n
def _root_.Go.Vc.Ex.Nx(e:Ex):1<=e.n:=by rw[Ex.Yl];omega
def Dp{s:List bz}{w:Nat}{e:Ex}(k:Uu s w e):Zr s w e:=by
 intro i v n Mt ev C R X t H L N ab Z hd M I;apply yQ;simp -zeta only[aC,aB];intro P f b c d;let⟨g,hl,s1,s2,s3⟩:=qd (a:=P) (b:=f) (c:=b) rfl rfl rfl;have p:J b c:=J.push _ _;have W:c.size=b.size+1:=by simp[c]
 have F:GS ((b.size+1)::f.size::i) b c (.mk b.size 0 0 0) []:=Gr.new _ (ad _) _ _ _;have h:J c d:=J.push _ _;have z:cE d c.size lE [.s (.mk b.size 0 0 0),.i n]:=cE.push _ _ _;clear_value d c b;have Y:=g;have q:=(g.trans p).trans h;have z5:=h.size;have G:∀r∈f.size::i,r<d.size:=bO t q.size V;have O:O2 (f.size::i) b d c.size (.mk b.size 0 0 0) [] n:=⟨z,W▸F.ext gE.mono h,V⟩;have hp:=e.Nx;refine(k (f.size::i) b d c.size _ [] n Mt ev C R X ⟨O,p.trans h,G,(H.le (((g.trans p).trans h).bG (S:=[]) bE|>λk=>(zV v).trans k)),L⟩ N V V bE (hd.le g.le) M (fG.le g.le I)).mono λae Q⟨x,E,y,m,ac,o6,⟨a,D,o,T,U⟩,j,b6⟩=>?_;subst D;have z6:=j.size;have A:J v Q:=Fz.ext (((q.fz [c.size,b.size]).trans j).DB λB l=>by simp at l;omega);refine⟨j.dv λB l=>by simp at l;simp;omega,x,E,y,o6.box.cg 0,?_⟩;intro m7;have hz:=o.sz;have aa:=fZ m;refine⟨y,.mk m x,rfl,eP.le (cA aL λr u=>by simp[u]) (o6.gr.nH gE.mono (λu=>?_) bh (by show m.length<=_;omega)),⟨WB.of o.wl ⟨T,by rw[<-o.dd];exact U⟩,by rw[Bk.qI];omega⟩,A.ah V _ _⟩;have hy:=o6.gr.bn;have K:=o6.ne;simp only[aV]at u;rcases u with e|e|e
 .exact K e
 .omega
 .have:=t _ e;omega
end
section
variable{M c:E}{a:Nat}
def Py{m:E}{t:O}{l:List Ex}(h:fG m t l){k:Nat}{x:Ex}(f:l[k]? =some x)(a:J m M):∃u,fG m u x.bD/\af M t.D (t.off+k*3)=some (vi x.op)/\af M t.D (t.off+k*3+1)=some (vi x.bP)/\af M t.D (t.off+k*3+2)=some (O.v u):=
 let⟨u,b,c,d,e⟩:=h.aF f;⟨u,b,a.af c,a.af d,a.af e⟩
def gx(x:J M c){o:Nat}{v:Value}(h:af M a o=some v):af c a o=af M a o:=by rw[x.af h,h]
def gl(x:J M c)(h:a<M.size)(o:Nat):af c a o=af M a o:=aJ (x.same a h) o
def TJ{q:List bz}{nf:Nat}{p bP:Int}{bD:List Ex}(ih:∀t∈bD,Uu q nf t):Uu q nf (.mk p bP bD):=by
 intro u W D d A aa sc Mt ev al an bu e hw bs bj bp hd ht hk;have N:=hw.aT;simp only[ZI,Ex.VL,Ex.TO,Ex.RC,Ex.Sk]at*;apply uc (d,0);simp -zeta only[aC,aB];intro am s;let⟨G,hl⟩:=dD (a:=am) (c:=s) rfl rfl;have s1:am.size=D.size+1:=by simp[am]
 have s2:s.size=D.size+2:=by simp[s,s1]
 clear_value s;have aS:=hk.len;have bn:=hk.gT;have bo:=e.em.box.lt;have h:=e.em.gr.bn;have bq:=e.em.ne;have df:∀{M:E}{f:O},Fz [d,A.D] D M->(f.D=A.D\/D.size<=f.D)->Le (bG [A.D,d] D) (bG [f.D,d] M):=λab g=>pD λa aF hn=>by
  simp at hn;exact⟨by simp;rcases g with t|t<;>omega,ab.same a aF bE⟩
 have st:∀{aw:List Nat}{M:E}{f:O}{l':List cU}{F:Nat},O2 aw W M d f l' F->Fz [d,A.D] D M->(f.D=A.D\/D.size<=f.D)->(∀l∈aw,l<M.size)->sc<=F->LS aw W M d f l' F Mt ev:=λah ab g hS hs=>⟨ah,e.em.gG e.x ab,hS,e.Mt.le (df ab g),λy h=>⟨(e.sm y h).1,oh ((e.sm y h).2)⟩⟩;have dv:∀{M c:E}{f:O},s.size<=M.size->(f.D=A.D\/s.size<=f.D)->Fz [d,f.D] M c->eG [am.size,D.size] M c:=λhz g ab=>ab.dv λa aF=>by simp at aF;simp;omega
 have ak:∀{M c:E},s.size<=M.size->J M c->eG [am.size,D.size] M c:=λhz bd=>bd.dv λa g=>by simp at g;omega
 have fr:∀{M c:E}{f:O},Fz [d,A.D] D M->(f.D=A.D\/s.size<=f.D)->Fz [d,f.D] M c->Fz [d,A.D] D c:=λab g L=>ab.rX L λy h=>by simp at h⊢;omega
 refine⟨λao=>?_,λao=>⟨λag=>?_,λag=>⟨λar=>?_,λar=>?_⟩⟩⟩
 .simp only[aG]at ao;let⟨j,o⟩:=N.1.T9 ao;have k:=e.Mt.len;let⟨y,v⟩:=cG ev bP.toNat;have i:=e.sm y (aq v);exact⟨j,V,y,(eQ.1 ((e.Mt.le (G.df _)).aF v)).2,y,rfl,A,aa,sc,e.em.ext G,⟨[],aL,(LW.az q nf sc).fj V V,i⟩,G.fz _,Or.inl rfl⟩
 .simp only[aG]at ag;have h2:=N.1.Kc ag;let⟨T,U⟩:=cG bD 0;let⟨j,i⟩:=cG bD 1;have aO:en bD=T.n+j.n:=by
   obtain⟨w,a,rfl⟩:∃w a,bD=[w,a]:=by
    match bD,h2 with
    |[w,a],_=>exact⟨w,a,rfl⟩
   simp at U i;subst U i;simp[en]
  have p0:=T.Nx;have p1:=j.Nx;let⟨u0,aJ,g0,g1,g2⟩:=Py hk U (e.x.trans G);refine⟨bh,V,_,g0,_,g1,_,g2,?_⟩;have S2:=st (e.em.ext G) (G.fz _) (Or.inl rfl) (λl r=>oh (e.gG l r)) (ad _);refine(ih T (aq U) u W s d A aa sc Mt ev al an u0 S2 (by have:=N.2 0 T U;simpa[xb]using this) V V V hd ht aJ).mono λR o⟨P,az,H,l3,Q,o3,⟨af,ay,Z,bb,bc⟩,f3,b3⟩=>⟨dv (ad _) (Or.inl rfl) f3,P,az,?_⟩;subst ay;have F3:=fr (G.fz _) (Or.inl rfl) f3;have z3:=f3.size;have X3:=e.em.gG e.x F3;let⟨u1,aD,k0,k1,k2⟩:=Py hk i X3;have a1:=Z.oD;have a8:=fZ af;have ba:=Z.sz;refine⟨bh,V,_,k0,_,k1,_,k2,?_⟩;have S3:=st o3 F3 V (λl r=>oh (e.gG l r)) (oh Z.dd);have z:∀l∈[H.D,d],l<o.size:=λl r=>by have:=o3.gr.bn;have:=o3.box.lt;simp at r;omega
  intro C;have k:J o C:=J.push _ _;have aE:ap (bG [H.D,d] C) (.mk o.size 0 1 1) [P]:=ap.lit aA _ z rfl rfl aL;clear_value C;refine⟨gx k k0,gx k k1,gx k k2,gl k V _,gl k V _,gl k V _,?_⟩;have z4:=k.size;refine(eO (S:=[H.D,d]) (λl r=>k.lt (z l r)) (S3.Mt.le (k.df _)) aE bE).mono λR m5⟨I,l5,e5,g5,q5,B⟩=>⟨ak V B,I,e5,gx B (k.af k0),gx B (k.af k1),gx B (k.af k2),gl B V _,gl B V _,gl B V _,?_⟩;subst q5;have z5:=B.size;have S5:LS u W m5 d H (aa++af) Q I (ev++[P]):=⟨(o3.ext k).ext B,(X3.trans k).trans B,λl r=>oh (e.gG l r),GI.done g5 (λl r=>k.lt (z l r)) bE,λy h=>by
   rcases List.mem_append.1 h with h|h
   .have:=e.sm y h;have:=Z.dd;omega
   .simp at h;omega⟩
  refine(ih j (aq i) u W m5 d H (aa++af) Q I (ev++[P]) al an u1 S5 (by have:=N.2 1 j i;simpa[xb,ag]using this) V bE bE hd ht aD).mono λR m6⟨r1,au,s6,l6,aN,o6,⟨aH,ac,w6,aK,aM⟩,K,b6⟩=>⟨dv V V K,r1,au,r1,rfl,s6,l6,aN,o6,⟨af++aH,by rw[ac,fC],(Z.trans w6).fj V V,aK,aM⟩,fr ((F3.then k).then B) V K,V⟩
 .simp only[bQ,aG]at ar;have h3:p=7->bD.length=3:=N.1.YX;have aE:p=8->bD.length=1+(cz q bP).length/\0<(cz q bP).length:=N.1.all;have a5:1<=bD.length:=by rcases ar with i|i;have:=h3 i;omega;have:=aE i;omega
  let⟨T,U⟩:=cG bD 0;have bk:en (bD.take 1)=T.n:=by have:=Ke U;simpa using this
  have bl:=Ru bD 1;have p0:=T.Nx;let⟨u0,aJ,g0,g1,g2⟩:=Py hk U (e.x.trans G);refine⟨bh,V,_,g0,_,g1,_,g2,?_⟩;have S2:=st (e.em.ext G) (G.fz _) (Or.inl rfl) (λl r=>oh (e.gG l r)) (ad _);refine(ih T (aq U) u W s d A aa sc Mt ev al an u0 S2 (by have:=N.2 0 T U;simpa[xb]using this) V V V hd ht aJ).mono λR o⟨P,az,H,l3,Q,o3,⟨af,ay,Z,bb,bc⟩,f3,b3⟩=>⟨dv (ad _) (Or.inl rfl) f3,P,az,?_⟩;subst ay;have F3:=fr (G.fz _) (Or.inl rfl) f3;have z3:=f3.size;have X3:=e.em.gG e.x F3;have a1:=Z.oD;have a8:=fZ af;have ba:=Z.sz;have S3:=st o3 F3 V (λl r=>oh (e.gG l r)) (oh Z.dd);have aD:∀l∈H.D::d::u,l<o.size:=bO (bO (m:=D) e.gG V o3.box.lt) (ad _) o3.gr.bn.2;intro C;have k:J o C:=J.push _ _;have g4:GB (H.D::d::u) o C (.mk o.size 0 0 0) []:=GB.new _ o;have s4:C.size=o.size+1:=by simp[C]
  clear_value C;refine(iu (e:=[o.size]) bE (hd.le (X3.trans k).le) ht bP).mono λR m5⟨cs,cl,ec,r,qc,B⟩=>⟨ak V B,cs,ec,?_⟩;subst qc;have bi:=r.len;have z5:=B.size;refine QG (a:=bD.length) (aS▸hk.gT) a5 (λj ks M=>∃z,GB (H.D::d::u) o M ks z/\z.length+1=j/\(∀(ac:Nat)(a:Bk),z[ac]? =some a->WB q nf False (Q+BH q p bP ac) a)/\bw z+3*T.n<=3*en (bD.take j)/\J o M/\Fz [o.size] m5 M/\(ks.D=o.size\/m5.size<=ks.D)) ⟨[],g4.ext rJ.mono B,rfl,aL,bE,k.trans B,Fz.az _ _,Or.inl rfl⟩ ?_;rintro j ks M aX μ bm hj ⟨z,L,a7,aT,a2,xM,fM,aR⟩ aK
  have zM:=xM.size;have aP:=L.bn;have oM:=o3.box.ext xM;refine dit (λi=>?_) λi=>?_
  .have ew:cT ((j:Int) -1)=((j -1:Nat):Int):=by rw[aQ V V];omega
   refine⟨λaU c=>J M c/\aU=(BH q p bP (j -1):Nat),⟨λh8=>?_,λh8=>⟨J.az _,by simp only[aj]at h8;rw[Kx h8];rfl⟩⟩,?_⟩
   .simp only[aG]at h8;have ha:=aE h8;let⟨y,v⟩:=cG (cz q bP) (j -1);rw[ew];refine⟨V,V,y,(eQ.1 ((r.le (fM.df aL)).aF v)).2,?_⟩;refine(dJ (e:=[]) aL (hd.le ((X3.trans xM).le.trans (zV _))) ht y).mono λR m6⟨K,l6,e6,h6,q6,I⟩=>⟨ak V I,K,e6,I,?_⟩;subst q6;rw[Kw h8 v,h6.len]
   rintro aU m6 ⟨I,rfl⟩;let⟨t,he⟩:=cG bD j;have X6:=(X3.trans xM).trans I;let⟨aN,hu,k0,k1,k2⟩:=Py hk he X6;have B6:=oM.ext I;have z6:=I.size;refine⟨V,V,_,k0,_,k1,_,k2,_,B6.cg 1,_,B6.cg 1,?_⟩;have bf:=Qw ht p bP (j -1);have a4:=Ke he;have a3:=Ru bD (j+1);have a9:=t.Nx;refine(lX (S:=[]) (d:=m6) aL Q (BH q p bP (j -1)) V).mono λR m7⟨s7,l7,e7,g7,q7,v⟩=>⟨ak V v,s7,e7,gx v (B6.cg 1),gx v k0,gx v k1,gx v k2,gl v V _,gl v V _,gl v V _,?_⟩;have z7:=v.size;have a0:ap (bG [] m7) Mt ev:=(S3.Mt.le ((((xM.trans I).trans v).df _).trans (bA _ _))).le (zV _);refine(eO (S:=[]) aL a0 (GI.done g7 aL V) V).mono λR m8⟨s8,l8,e8,g8,q8,K⟩=>⟨ak V K,s8,e8,gx K ((B6.ext v).cg 1),gx K (v.af k0),gx K (v.af k1),gx K (v.af k2),gl K V _,gl K V _,gl K V _,?_⟩;subst q8;have z8:=K.size;have a6:(ev++l7).length=ev.length+BH q p bP (j -1):=by simp;exact q7.2
   rw[aQ (b:=(Q:Int)+(BH q p bP (j -1):Nat)) V V,show(Q:Int)+(BH q p bP (j -1):Nat)=((Q+BH q p bP (j -1):Nat):Int)by omega];have au:=(I.trans v).trans K;have a_:WX q nf (ev++l7).length t:=by
    have:=N.2 j t he;rw[a6];obtain⟨j',rfl⟩:∃j',j=j'+1:=⟨j -1,V⟩;have aY:xb q p bP (j'+1)=BH q p bP j':=ae (by simpa using ag);rwa[aY]at this
   refine(Dp (ih t (aq he)) (ks.D::H.D::d::u) m8 _ s8 (ev++l7) al an aN (bO (λl r=>oh (aD l r)) (ad _) V) ((GI.done g8 aL V).le (bA _ _)) (λy h=>?_) a_ V V (hd.le ((X6.trans v).trans K).le) ht (fG.le ((X6.trans v).trans K).le hu)).mono λR m9⟨s9,b9,e9,h9,q9,x9⟩=>⟨ak V x9,s9,_,e9,?_⟩
   .rcases List.mem_append.1 h with h|h
    .have:=S3.sm y h;omega
    .have:=q7.1 y h;omega
   intro bt;have z9:=x9.size;have bg:=qe z;refine GB.kK (c:=b9) ((L.ext rJ.mono au).ext rJ.mono x9) (((xM.trans au).trans x9).fz []) h9 V λaM c g' f' z' q'=>⟨λa g=>by
    have aO:a<o.size:=by simp at g;omega
    rw[f'.ext.same a aO,(((xM.trans au).trans x9).aK _).same a aO],aK V _ _ ⟨_,g',by rw[be,List.length_singleton];omega,λac a hi=>?_,?_,f'.ext,(fM.then (au.trans x9)).rX (Y:=[ks.D]) ⟨z'.1,λa g hn=>q' a g (by simpa using hn)⟩ (λy h=>by simp at h⊢;omega),oh fM.size⟩⟩
   .rcases aW ac z.length with aH|aH
    .rw[ax aH]at hi;exact aT ac a hi
    .rw[aI aH]at hi;have:ac -z.length=0:=by have:=av hi;simp at this;omega
     rw[this]at hi;simp at hi;subst hi;have:ac=j -1:=V;subst this;exact q9.1
   .rw[oQ,uq,zw];have:=q9.2;omega
  .have K:j=bD.length:=V;subst K;rw[fu]at a2;intro m6;have I:J M m6:=J.push _ _;have aU:ap (bG (H.D::d::u) m6) (.mk M.size 0 1 1) [P]:=ap.lit aA _ (λl r=>oh (aD l r)) rfl rfl aL;have z6:=I.size;have aR:nF (bG (H.D::d::u) m6) ks z:=nF.le (I.df _) (L.done rJ.mono aD bh (oh (qe z)));clear_value m6;have X6:=xM.trans I;refine(Lu (x:=⟨p,bP,0,[P],z⟩) (o3.ext X6) (X3.trans X6).size aU aR bE V).mono λR m7⟨aO,s7,l7,aY,o7,⟨au,aH⟩,v,b7⟩=>⟨dv V V v,Q,aO,Q,rfl,s7,l7,aY,o7,⟨af++[⟨p,bP,0,[P],z⟩],by rw[au,fC],?_,V,V⟩,fr (F3.then X6) V v,V⟩;have ws:WS q nf False Q ⟨p,bP,0,[P],z⟩:=⟨⟨Or.inl (by show 0<=p/\p<=11;omega),bE,λ_=>rfl,⟨by show(0:Int)<=0;omega,by show(0:Int)<=_;omega⟩,λi=>by show z.length=2;have:=h3 i;omega,λi=>by show z.length=(cz q bP).length/\0<z.length;have:=aE i;omega,λi=>by simp only at i;omega⟩,aT⟩;subst aH;exact(Z.trans (LW.lK ws)).fj (by rw[cU.mu];simp only[aZ,eW];omega) V
 .simp only[br,aj]at ar;simp only[aj]at ao ag;have ho:=N.1.o;intro o;have x3:J s o:=J.push _ _;have g3:GI [] s o (.mk s.size 0 0 0) []:=GI.nil [] s;have aR:o.size=s.size+1:=by simp[o]
  clear_value o;have o3:O2 (s.size::u) W o d A aa sc:=(e.em.ext G).re (x3.fz []) aL λa g=>(List.mem_cons.1 g).elim (λi=>Or.inr V) Or.inl;refine eA (n:=bD.length) (aS▸hk.gT) (λj w M=>∃f F r l,O2 (w.D::u) W M d f (aa++r) F/\LW q nf sc r (3*en (bD.take j) -j) (en (bD.take j)) F/\GI [] s M w l/\l.length=j/\(∀y∈l,0<=y/\y<(F:Int))/\Fz [d,A.D] D M/\(f.D=A.D\/s.size<=f.D)/\s.size<=M.size) ⟨A,sc,[],[],by simpa using o3,(LW.az q nf sc).fj (dN _) (dN _),g3,rfl,aL,(G.trans x3).fz _,Or.inl rfl,V⟩ ?_;rintro j w M aX μ hj ⟨f,F,r,l,ah,v,L,a7,T,fM,g,zM⟩ aK
  have H:=e.em.gG e.x fM;have af:=v.oD;have aH:=v.dd;have aP:=L.bn;have B:w.D≠d:=L.ne ah.box bh;have Ld:w.D≠f.D:=L.Ld ah.gr bh;have aO:=fZ r;have ay:=v.sz;have a3:=Ru bD j;refine dit (λi=>?_) λi=>?_
  .let⟨t,he⟩:=cG bD j;let⟨aN,hu,k0,k1,k2⟩:=Py hk he H;have a4:=Ke he;have aJ:=Ru bD (j+1);have a9:=t.Nx;have au:=QC (bD.take j);rw[gJ,jc V]at au;refine⟨V,V,_,k0,_,k1,_,k2,?_⟩;have SM:=st ah fM V (bO (m:=D) e.gG V aP.2) V;refine(ih t (aq he) (w.D::u) W M d f (aa++r) F Mt ev al an aN SM (by have:=N.2 j t he;rwa[Y0 V V]at this) V V bE hd ht hu).mono λR C⟨aM,er,s4,l4,aE,U,⟨aD,ac,Z,P,r1⟩,z,b4⟩=>⟨dv zM g z,aM,er,?_⟩;subst ac;have z4:=z.size;have F4:=fr fM g z;intro m5;have Q:GI [] s C w l:=GI.any (c:=[d,f.D]) ((GI.any (e:=[d,f.D]) L).Nw tW.mono z (λ_ i=>i) (by simp;exact⟨B,Ld⟩));have az:w.D≠s4.D:=Q.Ld U.gr bh;refine GI.kK Q (X:=List.range s.size) ⟨V,λa g hn=>absurd (List.mem_range.2 g) hn⟩ aL V λa' c g' f' z' q'=>?_;have I:Fz [w.D] C c:=⟨z'.1,λa g hn=>q' a g (by simpa using hn)⟩;refine⟨λa g=>?_,aK V _ _ ⟨s4,aE,r++aD,l++[aM],?_,(v.trans Z).fj V V,g',bE,λy h=>?_,F4.rX I λy h=>by simp at h⊢;omega,V,V⟩⟩
   .simp at g;rw[q' a V V,(J.push C _).same a V]
   .rw[<-fC];exact U.re I (by simp;exact⟨B,az⟩) λa g=>(List.mem_cons.1 g).elim (λt=>by subst t;rcases z'.2 with t|t;exact Or.inl (by simp[t]);exact Or.inr t) λi=>Or.inl (ai _ i)
   .have:=Z.dd;rcases List.mem_append.1 h with h|h
    .have:=T y h;omega
    .simp at h;omega
  .have K:j=bD.length:=V;subst K;rw[fu]at v af ay;have au:=QC bD;intro C;have k:J M C:=J.push _ _;have Q:w.D∉f.D::d::u:=by
    simp only[aV,vv];exact⟨Ld,B,λi=>oh (e.gG _ i)⟩
   have ha:ap (bG (f.D::d::u) M) w l:=(GI.any (e:=f.D::d::u) L).nH tW.mono Q bh V;have U:O2 u W M d f (aa++r) F:=ah.re (Fz.az [] _) aL λa g=>Or.inl (ai _ g);have z4:=k.size;refine(Lu (x:=⟨p,bP,0,l,[]⟩) (U.ext k) (H.trans k).size (ha.le (k.df _)) (mF _ _ _ _ _ _) bE V).mono λR m5⟨P,Z,l5,ac,o5,⟨z,I⟩,t,b5⟩=>⟨dv V g t,F,P,F,rfl,Z,l5,ac,o5,⟨r++[⟨p,bP,0,l,[]⟩],by rw[z,fC],?_,V,V⟩,fr (fM.then k) g t,V⟩;have ws:WS q nf False F ⟨p,bP,0,l,[]⟩:=⟨⟨Or.inl (by show 0<=p/\p<=11;omega),T,λi=>by simp only at i;omega,⟨by show(0:Int)<=0;omega,by show(0:Int)<=_;omega⟩,λi=>by simp only at i;omega,λi=>by simp only at i;omega,N.1.call⟩,aL⟩;subst I;exact(v.trans (LW.lK ws)).fj (by rw[cU.mu];simp only[zw];omega) V
def TL{a:List bz}{c:Nat}:∀e:Ex,Uu a c e:=Ex.ind λ_ _ _ b=>TJ b
end
def ID{t:List Nat}{w:E}(hS:∀d∈t,d<w.size){U ak:O}{N:List bz}{P:List (dy×Ex)}(hd:cx w U N)(hp:WA w ak P)(aa:WD N P):uR 236 [.agg #[O.v U,O.v ak]] w t N λrs=>yi N rs False 95:=by
 apply AZ;simp -zeta only[aC,aB];have ht:=sX aa.gp.ds;intro h a2;let⟨L,hl⟩:=dD (a:=h) (c:=a2) rfl rfl;have s1:h.size=w.size+1:=by simp[h]
 clear_value a2;have aO:=hp.len;have aZ:P.length<=4:=by have:=aa.gp.oD;simpa using this
 have aY:0<P.length:=by have:=aa.gp.iW;simpa using this
 refine(fV (b:=h.size::t) (bO hS L.size (hl _ aL)) (hd.le L.le) ht).mono λ_ av⟨dd,e,aK,x3⟩=>?_;subst e;refine⟨x3.dv hl,_,rfl,?_⟩;intro k aS aF;have u2:=L.trans x3;let⟨x5,B0,g0,s3,s5⟩:=kX (b:=k.size::h.size::t) iR.mono (d:=av) (a:=k) (c:=aS) (h:=aF) rfl rfl rfl;clear_value aF;have ag:∀d∈[h.size,w.size],d<av.size:=λd g=>x3.lt (hl d g);have aD:∀d∈h.size::t,d<av.size:=λd g=>x3.lt (bO hS L.size (hl _ aL) d g);refine kU (R:=λb c C=>∃U T rs,Value.agg #[O.v b,O.v c]=.agg #[O.v U,O.v T]/\eL (bG t C) U T N rs/\yi N rs False 95/\J w C) (r:=P.length) (f:=w) (b:=t) iR.mono bh bh hS ⟨V,ag _ aL⟩ u2 s3 aK aO V x5 B0 g0 (λ_ q=>q.params.length<=3/\q.cR.length<=3/\WB N P.length False q.params.length q.body/\q.body.w<=95) (λb s l' m' h1 h2 c f j=>⟨b,s,l',rfl,⟨h1,h2,ht,V⟩,⟨V,λq hq=>by obtain⟨p,l⟩:=List.mem_iff_getElem?.1 hq;rw[c];exact f p q l⟩,j⟩) λab C y l' aI μ aM aW xM az al aT=>?_
 let⟨q,hq⟩:=cG P ab aM;let⟨aR,aX⟩:=aa.uv q (aq hq);have aP:q.1.params.length<=3:=(wH _ (aa.gp.dz q.1 (List.mem_map.2 ⟨q,aq hq,rfl⟩))).1;have X:=u2.trans xM;obtain⟨cs,⟨ao,aH,rfl,ha,hk⟩,hr⟩:=hp.iB ab q hq;have aE:=ha.len;refine⟨V,V,_,X.af (hr 0 _ rfl),_,X.af (hr 1 _ rfl),_,X.af (hr 2 _ rfl),_,X.af (hr 3 _ rfl),_,X.af (hr 4 _ rfl),?_⟩;intro m7 l;have hy:=az.bn;have aU:=al.lt;have zM:=xM.size;obtain⟨x8,-,s8⟩:=kH (M:=C) (d:=m7) (c:=l) rfl rfl rfl;clear_value l;have W:∀d∈[C.size,h.size,w.size],d<l.size:=λd g=>by
  rcases List.mem_cons.1 g with e|e
  .omega
  .have:=ag d e;omega
 have w8:=X.trans x8;have ac:∀{s:E},l.size<=s.size->∀d∈y.D::k.size::h.size::t,d<s.size:=λaA d g=>by
  simp only[aV]at g;rcases g with e|e|e|e
  .omega
  .omega
  .have:=aD d (by simp[e]);omega
  .have:=aD d (by simp[e]);omega
 have hm:=u2.size;have aG:∀{s:E},J l s->∀{an:Value->E->Prop},(∀H F f,ap f H F->F.length=q.1.params.length->(∀b∈F,0<=b/\b<(q.1.params.length:Int))->J s f->an (O.v H) f)->aN cp 203 [vi 0,vi (ao.len:Int)] s an:=λ{s} x an hk'=>by
  rw[aE];exact(lX (S:=[]) (d:=s) aL 0 q.1.params.length V).mono λax f⟨H,F,e,gn,qn,xn⟩=>by
   subst e;exact hk' H F f ((GI.done gn aL V).le (bA _ _)) qn.2 (λb hy=>oh (qn.1 b hy)) xn
 have gG:∀{s:E}{ay:List Nat}{H:O}{F:List Int},(∀d∈ay,d<s.size)->J l s->ap s H F->F.length=q.1.params.length->(∀b∈F,0<=b/\b<(q.1.params.length:Int))->nu 249 [.agg #[O.v U,O.v ak],.agg #[vi q.2.op,vi q.2.bP,O.v aH],O.v H,vi (ao.len:Int)] s ay λI=>WB N P.length False q.1.params.length I/\I.w<=3*q.2.n:=λaJ x Y h1 h2=>by
  rw[aE];exact Dp (TL q.2) _ _ q.1.params.length _ _ U ak aH aJ Y h2 (by rw[h1];exact aR) V V (hd.le (w8.trans x).le) ht (fG.le (w8.trans x).le hk)
 have G:∀{v f:E}{I Z:Nat},l.size<=v.size->J v f->I<l.size->af f I Z=af v I Z:=λaA x hb=>gl x V _;have j:C.size<l.size:=V;have K:w.size<l.size:=W _ aL;refine⟨λI s=>∃p D,I.2=0/\l.size<=I.1/\cE s I.1 di [.s p,.i D.aS]/\eP (bG (y.D::k.size::h.size::t) s) p D.aD/\(WB N P.length False q.1.params.length D/\D.w<=3*q.2.n)/\J l s,⟨?_,?_⟩,?_⟩
 .refine aG (J.az l) λH F B Y ae aj b=>⟨b.dv W,H,rfl,G (ad _) b j,G (ad _) b j,G (ad _) b j,G (ad _) b K,G (ad _) b K,?_,?_⟩;all_goals have u:=b.size
  .refine(gG (ay:=y.D::k.size::h.size::t) (ac u) b Y ae aj).mono λax A⟨p,D,e,aw,aQ,c⟩=>⟨c.dv λd g=>b.lt (W d g),p,_,e,?_⟩;have vw:=c.size;intro Q;have z:J A Q:=J.push _ _;refine⟨G V z j,G V z j,G V z j,G V z K,G V z K,?_⟩;intro au;let⟨am,ar,a0⟩:=kH (M:=A) (d:=Q) (c:=au) rfl rfl rfl;exact⟨p,D,rfl,by show l.size<=A.size;omega,ar,eP.le (am.df _) aw,aQ,(b.trans c).trans am⟩
  .intro A;have c:J B A:=J.push _ _;have am:cE A B.size di [.s .nil,.i 0]:=cE.push _ _ _;have vw:=c.size;clear_value A;refine⟨G u c j,G u c j,G u c j,G u c K,G u c K,?_⟩;refine(gG (ay:=B.size::y.D::k.size::h.size::t) (bO (ac u) vw am.lt) (b.trans c) (Y.ext c) ae aj).mono λax Q⟨p,D,e,ar,aw,z⟩=>⟨z.dv λd g=>?_,p,_,e,?_⟩
   .rcases List.mem_cons.1 g with e|e
    .rw[e];exact am.lt
    .have:=W d e;omega
   intro au;exact⟨p,D,rfl,u,cE.ah (m:=Q) (o:=0) (r:=[.s p,.i D.aS]) (am.ext z),eP.le (cA aL λd g=>ai _ g) ar,aw,((b.trans c).trans z).ah u _ _⟩
 .intro B;have b:J l B:=J.push _ _;have B9:cE B l.size di [.s .nil,.i 0]:=cE.push _ _ _;have u:=b.size;clear_value B;refine⟨G (ad _) b j,G (ad _) b j,G (ad _) b j,G (ad _) b K,G (ad _) b K,?_⟩;have sm:∀{v f:E},B.size<=v.size->J v f->eG [l.size,C.size,h.size,w.size] v f:=λaA x=>x.dv λd g=>by
   rcases List.mem_cons.1 g with e|e
   .have:=B9.lt;omega
   .have:=W d e;omega
  refine aG b λH F A Y ae aj c=>⟨sm (ad _) c,H,rfl,G u c j,G u c j,G u c j,G u c K,G u c K,?_⟩;have vw:=c.size;refine(gG (ay:=l.size::y.D::k.size::h.size::t) (bO (ac (s:=A) V) (ad _) (oh B9.lt)) (b.trans c) Y ae aj).mono λax Q⟨p,D,e,ar,aw,z⟩=>⟨sm vw z,p,_,e,?_⟩;intro au;exact⟨p,D,rfl,ad _,cE.ah (m:=Q) (o:=0) (r:=[.s p,.i D.aS]) ((B9.ext c).ext z),eP.le (cA aL λd g=>ai _ g) ar,aw,((b.trans c).trans z).ah (ad _) _ _⟩
 rintro⟨kb,Z⟩ v ⟨p,D,ho,aw,BB,aQ,ar,x1⟩;simp only at ho aw BB;subst ho;have bl:=BB.lt;have z1:=x1.size;have X1:=x8.trans x1;refine⟨y,(al.ext X1).cg 1,_,BB.cg 0,_,BB.cg 1,?_⟩;have ae:k.size<l.size:=V;have iI:∀{f:E}{Q b':O},J v f->ap (bG (y.D::k.size::h.size::t) f) Q q.1.params->ap (bG (y.D::k.size::h.size::t) f) b' []->af (f.push (.cells (bt [.s Q,.s b',.i q.1.aS,.s p,.i D.aS]) jP)) k.size 1=af f k.size 1/\
  jL (f.push (.cells (bt [.s Q,.s b',.i q.1.aS,.s p,.i D.aS]) jP)) jP [.s .nil,.s .nil,.i 0,.s .nil,.i 0] 88 y (O.mk f.size 0 1 1) λT z=>eG [C.size,h.size,w.size] (f.push (.cells (bt [.s Q,.s b',.i q.1.aS,.s p,.i D.aS]) jP)) z/\fK z k.size 1 1/\(eG [C.size,h.size,w.size] z (ah z k.size 1 [.s T])/\(aI (cT ((ab:Int)+1)) (ah z k.size 1 [.s T])/\μ (cT ((ab:Int)+1)) (ah z k.size 1 [.s T])<μ ab C)):=λL h1 h2=>
  Gr.box (g:=[.s .nil,.s .nil,.i 0,.s .nil,.i 0]) (j:=1) (y:=88) (i:=[.s dd,.s y]) (w:=⟨q.1.params,[],q.1.aS,D⟩) iR.mono bh ((az.ext iR.mono X1).ext iR.mono L) (((xM.trans X1).trans L).fz []) ⟨_,_,p,rfl,h1,h2,eP.le (L.df _) aQ⟩ V ((al.ext X1).ext L) aL bh ⟨V,aL⟩ (λd g=>⟨by have:=W d g;have:=L.size;omega,by
   rcases List.mem_cons.1 g with e|e
   .omega
   .have:=ag d e;omega,by
   rcases List.mem_cons.1 g with e|e
   .omega
   .have:=ag d e;omega⟩) λT m' g' B' f' z' q'=>aT T m' ⟨q.1.params,[],q.1.aS,D⟩ g' B' f'.ext ⟨aP,aL,ar.1,by have:=ar.2;show D.w<=95;omega⟩
 have am:∀{f:E},J v f->ap f ao q.1.params:=λx=>ha.ext ((X.trans X1).trans x);have aj:∀{f:E},J v f->∀d∈y.D::k.size::h.size::t,d<f.size:=λx=>ac (oh x.size);have g1:∀{f z:E}{Z:Nat},J v f->J f z->af z kb Z=af f kb Z:=λx x'=>gl x' (oh x.size) _;have au:∀{f z:E},J v f->J f z->eG [C.size,h.size,w.size] f z:=λx x'=>x'.dv λd g=>by have:=W d g;have:=x.size;omega
 refine⟨?_,?_⟩
 .refine(bN (y.D::k.size::h.size::t) (am (J.az _)) V).mono λ_ B⟨Q,la,e,ga,ea,b⟩=>⟨au (J.az _) b,Q,e,g1 (J.az _) b,g1 (J.az _) b,G z1 b j,G z1 b ae,?_⟩;subst ea;have u:=b.size;intro A;have c:J B A:=J.push _ _;refine⟨g1 b c,g1 b c,G V c j,G V c j,G V c ae,?_⟩;exact iI (b.trans c) ((GI.done ga (aj (J.az _)) V).le (c.df _)) (mF _ _ _ _ _ _)
 .intro B;have b:J v B:=J.push _ _;have u:=b.size;refine⟨g1 (J.az _) b,g1 (J.az _) b,G z1 b j,G z1 b j,G z1 b ae,?_⟩;refine(bN (y.D::k.size::h.size::t) (am b) V).mono λ_ A⟨Q,la,e,ga,ea,c⟩=>⟨au b c,Q,e,g1 b c,g1 b c,G V c j,G V c ae,?_⟩;subst ea;exact iI (b.trans c) (GI.done ga (aj b) V) (mF _ _ _ _ _ _)
section
variable{L:List Nat}{K:Int->E->Prop}{v:Int}
def DG(P:Nat->Prop)(l b:List Instr)(n:Nat):Prop:=∃a,b=l++a/\(∀(i:Nat)(x:Instr),a[i]? =some x->Pf (l.length+i) x\/P (l.length+i)/\x.op=22)/\Qq a/\a.length<=n
section
variable{P c:Nat->Prop}{l a e:List Instr}{n b k:Nat}{x:Instr}
def mP.w(h:mP l a n):DG P l a n:=let⟨g,b,c,d,e⟩:=h;⟨g,b,λi x f=>Or.inl (c i x f),d,e⟩
def DG.Yc(h:DG P l a n)(f:∀q,¬P q)(m:n<=b):mP l a b:=let⟨j,c,d,e,k⟩:=h;⟨j,c,λi x g=>(d i x g).resolve_right λh=>f _ h.1,e,V⟩
def DG.imp(h:DG P l a n)(g:∀q,P q->c q)(o:n<=b):DG c l a b:=let⟨k,d,e,f,m⟩:=h;⟨k,d,λj x i=>(e j x i).imp id λh=>⟨g _ h.1,h.2⟩,f,V⟩
def DG.len(h:DG P l a n):l.length<=a.length/\a.length<=l.length+n:=by obtain⟨b,rfl,-,-,d⟩:=h;simp;omega
def DG.then(o:DG P l a n)(p:mP a e b):DG P l e (n+b):=by
 obtain⟨d,rfl,g,j,s⟩:=o;obtain⟨r,rfl,h,k,t⟩:=p;refine⟨d++r,aL,λi x c=>?_,λx q=>(List.mem_append.1 q).elim (j x) (k x),bE⟩;rcases aW i d.length with f|f
 .rw[ax f]at c;exact g i x c
 .rw[aI f]at c;have:=h _ x c;have m:(l++d).length+(i -d.length)=l.length+i:=bE;rw[m]at this;exact Or.inl this
def DG.MG(h:DG P l a n)(j:P a.length):DG P l (a++[⟨22,0,0,0,[],[]⟩]) (n+1):=by
 obtain⟨c,rfl,e,f,m⟩:=h;refine⟨c++[⟨22,0,0,0,[],[]⟩],aL,λi x b=>?_,λx k=>?_,bE⟩
 .rcases aW i c.length with d|d
  .rw[ax d]at b;exact e i x b
  .rw[aI d]at b;have:i -c.length=0:=by have:=av b;simp at this;omega
   rw[this]at b;simp at b;subst b;have g:i=c.length:=V;subst g;exact Or.inr ⟨by simpa using j,rfl⟩
 .rcases List.mem_append.1 k with h|h
  .exact f x h
  .simp at h;subst h;simp
def DG.set(h:DG P l a n)(g:l.length<=k)(m:Pf k x)(j:x.args.length<=10^12/\x.eM.length<=10^12):DG (λq=>P q/\q≠k) l (a.set k x) n:=by
 obtain⟨p,rfl,c,e,d⟩:=h;refine⟨p.set (k -l.length) x,by rw[Xv _ _ g],λi y b=>?_,λy o=>?_,bE⟩
 .rw[jE]at b;split at b
  .rename_i q;have f:l.length+i=k:=V;split at b
   .simp at b;subst b;rw[f];exact Or.inl m
   .simp at b
  .exact(c i y b).imp id λh=>⟨⟨h.1,V⟩,h.2⟩
 .rcases cB o with h|h
  .exact e y h
  .rw[h];exact j
def DG.Zx(h:DG P l a n)(d:l.length<=k)(c:a[k]? =some x):DG (λq=>P q/\q≠k) l (a.set k ⟨x.op,0,a.length,0,x.args,x.eM⟩) n:=by
 have m:=av c;have g:=h;obtain⟨i,rfl,e,f,j⟩:=h;rw[aI d]at c;have b:=e _ x c;rw[show l.length+(k -l.length)=k by omega]at b;refine g.set d ⟨λ_=>by show(k:Int)<((l++i).length:Nat);omega,λh=>?_⟩ (f x (aq c));simp only at h;rcases b with b|b
 .exact b.arg h
 .omega
end
section
variable{S:List Nat}{e m a:E}{b:Nat}{s c:O}{l d:List Instr}
def Ff.re{S' Y:List Nat}(h:Ff S e m b s l)(i:Fz Y m a)(f:∀c∈Y,c∈S/\c≠b/\c≠s.D)(j:∀c∈S',c∈S\/m.size<=c):Ff S' e a b s l:=
 ⟨h.box.congr (i.same _ h.box.lt λg=>(f _ g).2.1 rfl),h.gr.re dS.mono i (λc d=>ai _ (f c d).1) (λg=>(f _ g).2.2 rfl) λc d=>(List.mem_cons.1 d).elim (λg=>Or.inl (by rw[g];exact bg)) λd=>(j c d).imp (ai _) id,h.up⟩
def HW(k:Ff S e m b s l)(z:J e m)(w:∀h∈S,h<m.size)(n:l.length<=10^12)(u:∀f∈L,f<m.size/\f≠b/\f≠s.D){o i bP:Int}(y:∀c d a,Ff S e a b c d->d=l++[⟨o,i,bP,0,[v],[]⟩]->Fz [b,s.D] m a->(c.D=s.D\/m.size<=c.D)->K (l.length:Nat) a):
 aN cp 205 [vp b 0,.agg #[vi o,vi i,vi bP,vi 0,O.v (.mk m.size 0 1 1),O.v .nil]] (m.push (.cells (bt [.i v]) aA)) λr a=>eG L (m.push (.cells (bt [.i v]) aA)) a/\∃q:Int,r=vi q/\K q a:=by
 have g:=J.push m (.cells (bt [.i v]) aA)
 have D:=k.gr.bn;have C:=k.box.lt
 have A:ap (bG (s.D::b::S) (m.push (.cells (bt [.i v]) aA))) (.mk m.size 0 1 1) [v]:=ap.lit aA _ (by
  intro h p;simp only[aV]at p;rcases p with j|j|j
  .omega
  .omega
  .exact w h j) rfl rfl aL
 refine(qF (x:=⟨o,i,bP,0,[v],[]⟩) (k.ext g) (z.trans g).size A (tm _) n).mono λr a⟨p,c,d,t,j,h,B⟩=>⟨Pd.dv h λf n=>?_,_,p,?_⟩
 .have:=u f n;exact⟨g.lt this.1,this.2⟩
 exact y c d a t j.symm (((g.fz [b,s.D])).trans h) (oh g.size)
def TG(j:Ff S e m b s l)(t:J e m)(p:l.length<=10^12)(o:∀f∈L,f<m.size/\f≠b/\f≠s.D)(q:∀c d a,Ff S e a b c d->d=l++[⟨22,0,0,0,[],[]⟩]->Fz [b,s.D] m a->(c.D=s.D\/m.size<=c.D)->K (l.length:Nat) a):
 aN cp 205 [vp b 0,.agg #[vi 22,vi 0,vi 0,vi 0,O.v .nil,O.v .nil]] m λr a=>eG L m a/\∃n:Int,r=vi n/\K n a:=
 (qF (x:=⟨22,0,0,0,[],[]⟩) j t.size (tm _) (tm _) p).mono λr a⟨i,c,d,k,h,f,g⟩=>⟨Pd.dv f o,_,i,q c d a k h.symm f g⟩
def S0{K:E->Prop}{k:Nat}{x:Instr}(i:Ff S e m b s l)(q:J e m)(p:l[k]? =some x)(n:∀f∈L,f<m.size/\f≠b/\f≠s.D)(o:∀c d a,Ff S e a b c d->d=l.set k ⟨x.op,0,l.length,0,x.args,x.eM⟩->Fz [b,s.D] m a->(c.D=s.D\/m.size<=c.D)->K a):
 aN cp 234 [vp b 0,vi k] m λ_ a=>eG L m a/\K a:=
 (Q6 i q.size p).mono λr a⟨c,d,j,h,f,g⟩=>⟨Pd.dv f n,o c d a j h.symm f g⟩
end
def QU{l:List Instr}{d:Int}:mP l (l++[⟨18,d,0,0,[v],[]⟩]) 1:=mP.lK ⟨sx,λ_=>aL⟩ aL
end
section
variable{b:List gP}
def Ly{D:List bz}{h:cU}(co:h.op=7\/h.op=8)(ih:∀c∈h.bD,Wz D b c):XD D b h:=by
 intro B G F d s z cons first cl fl a4 ba aH ah i au cv cI r ha hk
 apply ub (d,0);simp -zeta only[aC,aB];intro ax ac;let⟨x2,hl⟩:=dD (a:=ax) (c:=ac) rfl rfl;have s1:ax.size=F.size+1:=by simp[ax]
 have s2:ac.size=F.size+2:=by simp[ac,s1]
 clear_value ac;have cy:=i.em.box.lt;have cT:=i.em.gr.bn;have cS:=cU.mu h;have cp:=ha.len;have cH:=hk.len;have cF:=qe h.bD;have cM:=au.fe.lK V;have cw:=i.cons.len;have cK:=i.x.size;have df:∀{f:E}{g:O},Fz [d,s.D] F f->(g.D=s.D\/F.size<=g.D)->Le (bG [s.D,d] F) (bG [g.D,d] f):=QB;have st:∀{a0:List Nat}{f:E}{g:O}{L:List Instr},Ff a0 G f d g L->Fz [d,s.D] F f->(g.D=s.D\/F.size<=g.D)->(∀m∈a0,m<f.size)->RU a0 G f d g L cons first cl fl:=λv I e hS=>⟨v,i.em.gG i.x I,hS,i.cons.le (df I e),i.first.le (df I e),i.same,i.jf⟩
 have LL:∀{f:E}{g:O},ac.size<=f.size->(g.D=s.D\/ac.size<=g.D)->∀c∈[ax.size,F.size],c<f.size/\c≠d/\c≠g.D:=λhz e c a6=>by simp at a6;omega
 have fr:∀{f p:E}{g:O},Fz [d,s.D] F f->(g.D=s.D\/ac.size<=g.D)->Fz [d,g.D] f p->Fz [d,s.D] F p:=λI e aa=>I.rX aa λA o=>by simp at o⊢;omega
 have gG:∀{f:E},F.size<=f.size->∀m∈B,m<f.size:=λj m hc=>by have:=i.gG m hc;omega
 have aF:∀{w:Nat}{c:Bk}{f:E},h.bD[w]? =some c->J G f->∃K,eP G K c.aD/\af f ah.D (ah.off+w*2)=some (O.v K)/\af f ah.D (ah.off+w*2+1)=some (vi c.aS):=λe be=>let⟨K,h1,h2,h3⟩:=hk.aF e;⟨K,h1,be.af h2,be.af h3⟩;refine⟨λh7=>?_,λh7=>?_⟩
 .simp only[aG]at h7;have aO:=au.fe.Kc h7;let⟨C,P⟩:=cG h.bD 0;let⟨b1,R⟩:=cG h.bD 1;have bT:bw h.bD=C.w+b1.w:=by
   obtain⟨u,y,l⟩:∃u y,h.bD=[u,y]:=by
    match h.bD,aO with
    |[u,y],_=>exact⟨u,y,rfl⟩
   rw[l]at P R⊢;simp at P R;subst P R;simp[bw]
  have w0:=C.Hh;have w1:=b1.Hh;have ab:∀w,BH D h.op h.bP w=0:=λw=>Kx V;have E2:=i.ext x2;refine(bN (s.D::d::B) (ha.ext E2.x) V).mono λy N⟨a',la,l,ga,ea,x3⟩=>⟨x3.dv hl,a',l,?_⟩;subst ea;have z3:=x3.size;have aP:∀m∈s.D::d::B,m<ac.size:=bO (bO (gG (f:=ac) V) V V) (ad _) V;refine(qF (x:=⟨20,0,0,0,h.args,[]⟩) (E2.em.ext x3) (E2.x.trans x3).size (GI.done ga aP (by show h.args.length<=_;omega)) (tm _) V).mono λy m4⟨ev,s4,l4,ao,p4,f4,b4⟩=>⟨Pd.dv f4 (LL z3 (Or.inl rfl)),_,ev,?_⟩;subst p4;have z4:=f4.size;have F4:Fz [d,s.D] F m4:=((x2.trans x3).fz _).trans f4;have w4:DG (λ_=>False) z (z++[⟨20,0,0,0,h.args,[]⟩]) 1:=(mP.lK ⟨sx,sx⟩ ⟨by show h.args.length<=_;omega,aL⟩).w;let⟨t0,aR,g0,g1⟩:=aF P (i.em.gG i.x F4);refine⟨bh,V,_,g0,_,g1,?_⟩;have ae:=au.bD 0 C P;rw[ab]at ae;have aU:=w4.len;refine(ih C (aq P) B G m4 d s4 _ cons first cl fl a4 ba t0 (st ao F4 V (gG V)) (by simpa using ae) V V r aR).mono λy t⟨s5,l5,a5,p5,f5,b5⟩=>⟨Pd.dv f5 (LL V V),?_⟩;have F5:=fr F4 V f5;have z5:=f5.size;have w5:=w4.then p5;have X5:=i.em.gG i.x F5;obtain⟨_,-,-,g5⟩:=aF P X5;refine⟨bh,V,_,g5,?_⟩;have aW:=w5.len;refine HW a5 X5 (gG V) V (LL V V) λs6 Q Z av e6 f6 b6=>?_;have F6:=fr F5 V f6;have z6:=f6.size;have w6:DG (λ_=>False) z Q (1+6*(C.w -1)+1):=e6▸w5.then QU;have aX:=w6.len;have a7:Q.length=l5.length+1:=by rw[e6];simp
  have X6:=i.em.gG i.x F6;refine TG av X6 V (LL V V) λs7 l7 m7 ay e7 f7 b7=>?_;have F7:=fr F6 V f7;have z7:=f7.size;have w7:DG (λq=>q=Q.length) z l7 (1+6*(C.w -1)+1+1):=e7▸(w6.imp (λ_ j=>j.elim) (ad _)).MG rfl;have a8:l7.length=Q.length+1:=by rw[e7];simp
  let⟨H,al⟩:=cG l7 z.length;refine S0 ay (i.em.gG i.x F7) al (LL V V) λs8 l8 U aE e8 f8 b8=>?_;have w8:DG (λq=>q=Q.length) z l8 (1+6*(C.w -1)+1+1):=e8▸(w7.Zx (ad _) al).imp (λ_ j=>j.1) (ad _);have a9:l8.length=l7.length:=by rw[e8];simp
  have T:=fr F7 V f8;have z8:=f8.size;let⟨t1,aT,k0,k1⟩:=aF R (i.em.gG i.x T);refine⟨bh,V,_,k0,_,k1,?_⟩;have ag:=au.bD 1 b1 R;rw[ab]at ag;have aZ:=w8.len;refine(ih b1 (aq R) B G U d s8 l8 cons first cl fl a4 ba t1 (st aE T V (gG V)) (by simpa using ag) V V r aT).mono λy m9⟨s9,l9,aK,p9,W,b9⟩=>⟨Pd.dv W (LL V V),?_⟩;have F9:=fr T V W;have z9:=W.size;have w9:=w8.then p9;have X9:=i.em.gG i.x F9;obtain⟨_,-,-,g9⟩:=aF R X9;refine⟨bh,V,_,g9,?_⟩;have bY:=w9.len;have a_:l8.length<=l9.length:=by obtain⟨nw,l,-⟩:=p9;rw[l];simp
  refine HW aK X9 (gG V) V (LL V V) λbr Y bb am aI aD bC=>?_;have aN:DG (λq=>q=Q.length) z Y (1+6*(C.w -1)+1+1+6*(b1.w -1)+1):=aI▸w9.then QU;have az:=fr F9 V aD;have vw:=aD.size;have b0:Y.length=l9.length+1:=by rw[aI];simp
  let⟨bd,ak⟩:=cG Y Q.length;refine S0 am (i.em.gG i.x az) ak (LL V V) λaY aM bc an aS aJ bD=>?_;exact⟨aY,aM,an,aS▸(aN.Zx V ak).Yc (λq j=>j.2 j.1) V,fr az V aJ,V⟩
 .simp only[aj]at h7;have h8:h.op=8:=V;let⟨cE,cC⟩:=au.fe.all h8;let⟨A,bn⟩:=cG h.args 0;let⟨y0,y1⟩:=au.fe.args A (aq bn);obtain⟨yn,rfl⟩:∃b8:Nat,A=b8:=⟨A.toNat,V⟩;have E2:=i.ext x2;refine⟨bh,V,yn,(ha.ext E2.x).aF bn,?_⟩;have b7:∀m∈[s.D,d],m<ac.size:=λm hc=>by simp at hc;omega
  refine(iu (e:=[s.D,d]) b7 (r.bo.le E2.x.le) r.types h.bP).mono λy N⟨aR,ch,ec,hc,qc,x3⟩=>⟨x3.dv hl,aR,ec,?_⟩;subst qc;have cx:=hc.len;have z3:=x3.size;intro m4;refine HW (E2.em.ext x3) (E2.x.trans x3) (gG V) V (LL z3 (Or.inl rfl)) λs5 l5 t a5 e5 f5 b5=>?_;have z5:=f5.size;have w5:DG (λ_=>False) z l5 1:=e5▸(mP.lK ⟨sx,sx⟩ ⟨aL,aL⟩).w;have cZ:l5.length=z.length+1:=by rw[e5];simp
  intro Z m7;have x6:J t Z:=J.push _ _;have x7:J Z m7:=J.push _ _;have s6:Z.size=t.size+1:=by simp[Z]
  have s7:m7.size=Z.size+1:=by simp[m7]
  have bQ:GI [] t m7 (.mk t.size 0 0 0) []:=(GI.nil [] t).ext x7;have bM:GI [] t m7 (.mk Z.size 0 0 0) []:=GI.cy (GI.nil [] Z) (λ_ j=>j) x6.size;clear_value m7 Z;have bf:=x6.trans x7;have aE:∀{f p:E}{g:O},Fz [d,s.D] N f->(g.D=s.D\/N.size<=g.D)->Fz [d,g.D] f p->Fz [d,s.D] N p:=λI e aa=>I.rX aa λA o=>by simp at o⊢;omega
  have F0:Fz [d,s.D] F N:=(x2.trans x3).fz _;have bg:∀{f:E}{g:O}{w:Nat}{m:Int},Fz [d,s.D] N f->(g.D=s.D\/N.size<=g.D)->(cz D h.bP)[w]? =some m->af f aR.D (aR.off+w*1)=some (vi m):=λ{f g w m} I e j=>(eQ.1 ((hc.le (pD (c:=[g.D,d]) (a:=f) λc a6 r=>by
   simp at r;exact⟨by simp;rcases e with l|l<;>omega,I.same c a6 bE⟩)).aF j)).2
  have bt:∀{f:E},t.size<=f.size->Fz (List.range t.size) t f:=λj=>⟨j,λc e r=>absurd (List.mem_range.2 e) r⟩;have ak:∀{f p:E}{u:O}{ul:List Int}{aP:List Nat},GI [] t f u ul->Fz aP f p->u.D∉aP->GI [] t p u ul:=λ{f p u ul aP} aa I j=>GI.any ((GI.any (e:=aP) aa).Nw tW.mono I (λ_ j=>j) j);have o7:Ff (t.size::Z.size::B) G m7 d s5 l5:=a5.re (bf.fz []) aL λc e=>by
   simp only[aV]at e;rcases e with l|l|l
   .exact Or.inr V
   .exact Or.inr V
   .exact Or.inl l
  refine wO (n:=(cz D h.bP).length) V (λah K en f=>∃g L tl C,Ff (K.D::en.D::B) G f d g L/\DG (λq=>(q:Int)∈C) z L (1+6*bw (h.bD.take ah))/\GI [] t f K tl/\tl.length=ah/\GI [] t f en C/\C.length<=ah/\(∀A∈C,∃q:Nat,A=q/\z.length<q/\q<L.length)/\K.D≠en.D/\Fz [d,s.D] N f/\(g.D=s.D\/N.size<=g.D)/\m7.size<=f.size/\z.length<L.length)
   ⟨s5,l5,[],[],o7,w5.imp (λ_ j=>j.elim) aL,bQ,rfl,bM,ad _,aL,by show t.size≠Z.size;omega,f5.then bf,V,ad _,V⟩ ?_
  rintro T K en f ce μ hj ⟨g,L,tl,C,v,bc,gt,cO,ge,cA,a8,cL,I,e,zM,cJ⟩ bo
  have bv:=F0.trans I;have XM:=i.em.gG i.x bv;have ty:=gt.bn;have ey:=ge.bn;have t1:K.D≠d:=gt.ne v.box bh;have t2:K.D≠g.D:=gt.Ld v.gr bh;have n1:en.D≠d:=ge.ne v.box bh;have n2:en.D≠g.D:=ge.Ld v.gr bh;have cN:=v.gr.len bh;have cR:=bc.len;have bT:=Kz h.bD T;have oy:=v.gr.bn;have c2:=v.box.lt;refine dit (λj=>?_) λj=>?_
  .let⟨m,a7⟩:=cG (cz D h.bP) T;let⟨c,aK⟩:=cG h.bD T;have ct:=ur aK;have cu:=Kz h.bD (T+1);have cr:=c.Hh;have bl:BH D h.op h.bP T=(cD D m).length:=Kw h8 a7;have cq:=Qw r.types h.op h.bP T;refine⟨g,v.box.cg 0,?_⟩;intro U;refine GI.kK gt (bt V) aL V λt' M1 aT cj z1 q1=>?_;have fa:Fz [K.D] f M1:=⟨z1.1,λc e r=>q1 c e (by simpa using r)⟩;refine⟨λc e=>by
    simp at e;rw[q1 c V V,(J.push f _).same c V],?_⟩
   have f1:Fz [d,s.D] N M1:=I.rX fa λA o=>by simp at o⊢;omega
   have bK:=ak ge fa bE;have o1:Ff (t'.D::en.D::B) G M1 d g L:=v.re fa (by simp;exact⟨t1,t2⟩) λc e=>by
    rcases List.mem_cons.1 e with l|l
    .rcases z1.2 with e'|e'
     .exact Or.inl (by rw[l,e'];simp)
     .exact Or.inr V
    .exact Or.inl (ai _ l)
   have cc:=aT.bn;refine⟨V,V,m,bg f1 e a7,?_⟩;have X1:=i.em.gG i.x (F0.trans f1);refine(dJ (e:=[]) aL (r.bo.le (X1.le.trans (zV _))) r.types m).mono λy M2⟨ff,cn,ef,hf,qf,aO⟩=>⟨aO.dv λc e=>by simp at e;omega,ff,ef,?_⟩;subst qf;have bU:=hf.len;have z2:=aO.size;have f2:=f1.then aO;refine dU (n:=(cD D m).length) V (λw p=>∃ay av,Ff (t'.D::en.D::B) G p d ay av/\DG (λq=>(q:Int)∈C) z av (1+6*bw (h.bD.take T)+w)/\Fz [d,g.D] M2 p/\(ay.D=g.D\/M2.size<=ay.D)/\L.length<=av.length) ⟨g,L,o1.ext aO,bc,Fz.az _ _,Or.inl rfl,ad _⟩ ?_;rintro w M3 I3 μ3 hi ⟨ae,l3,o3,w3,f3,b3,cW⟩ b_;have c5:=f3.size;have F3:=aE f2 e f3;have aU:ae.D=s.D\/N.size<=ae.D:=V;have cQ:=w3.len;have X3:=i.em.gG i.x (F0.trans F3);have LM:∀{p:E}{u:O},M3.size<=p.size->(u.D=s.D\/N.size<=u.D)->∀c∈[ax.size,F.size],c<p.size/\c≠d/\c≠u.D:=λhz e=>LL V V;have aW:∀{p:E},M3.size<=p.size->∀m∈t'.D::en.D::B,m<p.size:=λj=>bO (bO (gG (f:=M3) V) (ad _) V) j V;refine⟨λa9=>?_,λa9=>?_⟩
   .simp only[ar]at a9;intro m9;refine HW o3 X3 (aW (ad _)) V (LM (ad _) aU) λs4 l4 M4 o4 e4 f4 b4=>b_ V _ ⟨s4,l4,o4,?_,f3.rX f4 λA o=>by simp at o⊢;omega,V,by rw[e4];simp;omega⟩;rw[e4];exact w3.then (mP.lK ⟨sx,sx⟩ ⟨aL,aL⟩)
   simp only[bL]at a9;have a_:w=(cD D m).length:=V;subst a_;have y3:=o3.gr.bn;have cf:=o3.box.lt;have ab:∀{p:E},M3.size<=p.size->∀m∈[ae.D,d],m<p.size:=λj m hc=>by simp at hc;omega
   rw[bU];refine(lX (S:=[ae.D,d]) (ab (ad _)) 0 (cD D m).length V).mono λy M4⟨s4,l4,e4,g4,q4,x4⟩=>⟨x4.dv λc e=>by simp at e;omega,s4,e4,?_⟩;have z4:=x4.size;have h4:=GI.done g4 (ab (ad _)) V;let⟨tk,bX,k0,k1⟩:=aF aK (X3.trans x4);have F4:=F3.then x4;have R:∀{u y:E},J M4 u->J u y->∀v,af y ax.size v=af u ax.size v/\af y F.size v=af u F.size v:=λaH c v=>⟨gl c (oh aH.size) v,gl c (oh aH.size) v⟩;refine⟨V,V,tk,k0,_,k1,V,V,m,bg F4 aU a7,?_⟩;have S4:=st o3 (F0.trans F3) V (aW (ad _));have cg:=S4.cons.len;have cm:=S4.first.len;have c3:=S4.same;refine(uL (S:=[ae.D,d]) (ab z4) (S4.cons.le (x4.df _)) V (a:=yn) V m).mono λy M5⟨s5,cY,e5,g5,q5,P⟩=>⟨P.dv λc e=>by simp at e;omega,s5,e5,gx P k0,gx P k1,(R (J.az _) P _).1,(R (J.az _) P _).2,(R (J.az _) P _).2,?_⟩;have z5:=P.size;have h5:=GI.done g5 (ab z4) (by rw[<-q5];simp;omega);refine(eO (S:=[ae.D,d]) (ab V) h5 (h4.le (P.df _)) (by rw[<-q5];simp;omega)).mono λy M6⟨bb,Q,e6,g6,q6,al⟩=>⟨al.dv λc e=>by simp at e;omega,bb,e6,gx al (P.af k0),gx al (P.af k1),(R P al _).1,(R P al _).2,(R P al _).2,?_⟩;have z6:=al.size;have an:=P.trans al;have h6:=GI.done g6 (ab V) (by rw[<-q6,<-q5];simp;omega);refine(uL (S:=[ae.D,d]) (ab V) (S4.first.le ((x4.trans an).df _)) V (a:=yn) V cons.len).mono λy M7⟨ca,l7,e7,g7,q7,ag⟩=>⟨ag.dv λc e=>by simp at e;omega,ca,e7,gx ag (an.af k0),gx ag (an.af k1),(R an ag _).1,(R an ag _).2,(R an ag _).2,?_⟩;have z7:=ag.size;have ao:=an.trans ag;have bR:=GI.done g7 (ab V) (by rw[<-q7];simp;omega);refine(eO (S:=[ae.D,d]) (ab V) bR (h4.le (ao.df _)) (by rw[<-q7];simp;omega)).mono λy M8⟨s8,l8,e8,g8,q8,H⟩=>⟨H.dv λc e=>by simp at e;omega,s8,e8,gx H (ao.af k0),gx H (ao.af k1),(R ao H _).1,(R ao H _).2,(R ao H _).2,?_⟩;have z8:=H.size;have bS:=GI.done g8 (ab V) (by rw[<-q8,<-q7];simp;omega);have am:=(x4.trans ao).trans H;have bm:Q.length=cl.length+BH D h.op h.bP T:=by rw[<-q6,<-q5,bl];simp;omega
   have bV:l8.length=Q.length:=by rw[<-q8,<-q7,bm,bl];simp;omega
   have ES:RU (t'.D::en.D::B) G M8 d ae l3 bb s8 Q l8:=⟨o3.ext am,X3.trans am,aW am.size,h6.le ((ag.trans H).df _),bS,bV,λA o=>by
    rw[<-q8]at o;rcases List.mem_append.1 o with o|o
    .rw[<-q7]at o;rcases cB o with o|o
     .exact i.jf A o
     .omega
    .have:=q4.1 A o;omega⟩
   have bZ:WB D b.length True Q.length c:=by rw[bm];exact au.bD T c aK
   refine(ih c (aq aK) _ G M8 d ae l3 bb s8 Q l8 a4 ba tk ES bZ V V r bX).mono λy M9⟨s9,l9,o9,p9,W,b9⟩=>⟨Pd.dv W (LM (oh am.size) aU),?_⟩;have z9:=W.size;have c6:=am.size;have F9:=aE (F3.then am) aU W;have X9:=i.em.gG i.x (F0.trans F9);have w9:=w3.then p9;have bY:=w9.len;have cX:l3.length<=l9.length:=by obtain⟨nw,l,-⟩:=p9;rw[l];simp
   obtain⟨_,-,-,g9⟩:=aF aK X9;refine⟨V,V,_,g9,?_⟩;refine HW o9 X9 (aW V) V (LM V V) λbr Y bd aX aI aD bC=>?_;have vw:=aD.size;have az:=aE F9 V aD;have aN:DG (λq=>(q:Int)∈C) z Y (1+6*bw (h.bD.take T)+(cD D m).length+6*(c.w -1)+1):=aI▸w9.then QU;have b0:Y.length=l9.length+1:=by rw[aI];simp
   have cP:=aN.len;have kI:∀{u:O}{ul:List Int},GI [] t M1 u ul->u.D≠d->u.D≠g.D->u.D<M1.size->GI [] t bd u ul:=λ{u ul} aa a1 a2 a3=>by
    have g2:=aa.ext aO;have g3:=ak g2 f3 (by simp;exact⟨a1,a2⟩);have bH:=g3.ext am;have bI:=ak bH W (by simp;exact⟨a1,by rcases b3 with l|l<;>omega⟩);exact ak bI aD (by simp;exact⟨a1,by rcases b9 with l|l<;>omega⟩)
   have bs:t'.D≠d:=aT.ne o1.box bh;have cb:t'.D≠g.D:=aT.Ld o1.gr bh;have bk:=kI aT bs cb cc.2;have bi:=kI bK n1 n2 V;rw[aQ (b:=(aR.len:Int) -1) V V];refine⟨λbW=>?_,λbW=>bo V _ _ _ ⟨br,Y,tl++[(g.len:Int)],C,aX,aN.imp (λ_ j=>j) V,bk,bE,bi,V,λA o=>by obtain⟨q,l,h1,h2⟩:=a8 A o;exact⟨q,l,h1,V⟩,V,az,V,V,V⟩⟩;have c1:=aX.gr.bn;refine TG aX (i.em.gG i.x (F0.trans az)) V (LM V V) λaY aM aZ bp aS aJ bD=>?_;have c4:=aJ.size;have bx:=aE az V aJ;have cd:DG (λq=>(q:Int)∈C++[(Y.length:Int)]) z aM (1+6*bw (h.bD.take T)+(cD D m).length+6*(c.w -1)+1+1):=aS▸(aN.imp (λq j=>List.mem_append.2 (Or.inl j)) (ad _)).MG aL;have cV:aM.length=Y.length+1:=by rw[aS];simp
   have nx:∀{u:O}{ul:List Int},GI [] t bd u ul->u.D≠d->GI [] t aZ u ul:=λaa aH=>ak aa aJ (by simp;exact⟨aH,aa.Ld aX.gr bh⟩);have bP:=nx bk bs;have bj:=nx bi n1;intro c0;refine GI.kK bj (bt V) aL V λci bB bJ ck bu bq=>?_;have fb:Fz [en.D] aZ bB:=⟨bu.1,λc e r=>bq c e (by simpa using r)⟩;have bF:en.D≠aY.D:=bj.Ld bp.gr bh;refine⟨λc e=>by
    simp at e;rw[bq c V V,(J.push aZ _).same c V],bo V _ _ _ ⟨aY,aM,tl++[(g.len:Int)],C++[(Y.length:Int)],?_,cd.imp (λ_ j=>j) V,ak bP fb bE,bE,bJ,bE,λA o=>?_,V,bx.rX fb λA o=>by simp at o⊢;omega,V,V,V⟩⟩
   .exact bp.re fb (by simp;exact⟨n1,bF⟩) λc e=>by
     simp only[aV]at e⊢;rcases e with l|l|l
     .exact Or.inl (Or.inl l)
     .rcases bu.2 with e'|e'
      .exact Or.inl (Or.inr (Or.inl V))
      .exact Or.inr V
     .exact Or.inl (Or.inr (Or.inr l))
   .rcases List.mem_append.1 o with o|o
    .let⟨q,l,h1,h2⟩:=a8 A o;exact⟨q,l,h1,V⟩
    .simp at o;exact⟨Y.length,o,V,V⟩
  .have al:T=(cz D h.bP).length:=V;subst al;refine⟨g,v.box.cg 0,?_⟩;intro U;have H:J f U:=J.push _ _;have ao:ap (bG (g.D::d::B) U) (.mk f.size 0 1 1) [(yn:Int)]:=ap.lit aA _ (bO (bO (gG (f:=f) V) (ad _) V) (ad _) V) rfl rfl aL;have s8:U.size=f.size+1:=by simp[U]
   clear_value U;refine⟨gl H V _,gl H V _,V,V,?_⟩;have P:Ff B G U d g L:=(v.ext H).re (Fz.az [] _) aL λc e=>Or.inl (ai _ (ai _ e));have az:K.D∉g.D::d::B:=by
    simp only[aV,vv];exact⟨t2,t1,λj=>oh (gG (f:=F) (ad _) _ j)⟩
   have an:ap (bG (g.D::d::B) U) K tl:=(GI.any (e:=g.D::d::B) (gt.ext H)).nH tW.mono az bh V;obtain⟨wr,gs,-,Y⟩:=P.gr.set dS.mono (X:=List.range G.size) ⟨V,λc e r=>absurd (List.mem_range.2 e) r⟩ (k:=z.length) V (a:=⟨21,0,h.bP,0,[(yn:Int)],tl⟩) (cs:=[.i 21,.i 0,.i h.bP,.i 0,.s (.mk f.size 0 1 1),.s K]) ⟨_,_,rfl,ao,an⟩;refine⟨wr,?_⟩;intro m9;have s9:m9.size=U.size:=aw _ _ _ _;have o9:Ff B G m9 d g (L.set z.length ⟨21,0,h.bP,0,[(yn:Int)],tl⟩):=⟨P.box.congr (Y d (kE P.ne)),gs,P.up⟩;have W:Fz [d,g.D] f m9:=⟨V,λc e r=>by
    simp at r;have e1:m9[c]? =U[c]? :=Y c r.2;rw[e1,H.same c e]⟩
   have w9:=(bc.set (x:=⟨21,0,h.bP,0,[(yn:Int)],tl⟩) (k:=z.length) (ad _) ⟨sx,sx⟩ ⟨aL,by show tl.length<=_;omega⟩).imp (c:=λq=>(q:Int)∈C) (λ_ j=>j.1) (ad _);refine⟨λc e=>Y c (by simp at e;omega),?_⟩;have aD:=ge.len bh;refine dU (n:=C.length) V (λw p=>∃ay av,Ff B G p d ay av/\DG (λq=>(q:Int)∈C.drop w) z av (1+6*bw (h.bD.take (cz D h.bP).length))/\av.length=L.length/\GI [] t p en C/\Fz [d,s.D] N p/\(ay.D=s.D\/N.size<=ay.D)/\m7.size<=p.size) ⟨g,_,o9,by simpa using w9,aL,ak ge W (by simp;exact⟨n1,n2⟩),aE I e W,e,V⟩ ?_;rintro w p I2 μ2 hi ⟨ay,l2,o2,w2,am,Q,f2,b2,z2⟩ av;refine dit (λj=>?_) λj=>?_
   .let⟨A,R⟩:=cG C w;obtain⟨q,rfl,aI,aJ⟩:=a8 A (aq R);have ag:ap (bG [] p) en C:=(GI.any (e:=[]) Q).nH tW.mono aL bh V;have ae:=ag.le (bA _ _);let⟨xq,ab⟩:=cG l2 q;refine⟨V,V,q,ae.aF R,?_⟩;refine S0 o2 (i.em.gG i.x (F0.trans f2)) ab (LL V V) λs4 l4 M4 o4 e4 f4 b4=>av V _ ⟨s4,l4,o4,?_,by rw[e4];simp;exact am,ak Q f4 (by simp;exact⟨n1,Q.Ld o2.gr bh⟩),aE f2 b2 f4,oh f2.size,oh f4.size⟩;rw[e4];refine(w2.Zx V ab).imp (λq' j=>?_) (ad _);let⟨h1,h2⟩:=j;rw[qb V]at h1;rcases List.mem_cons.1 h1 with l|l
    .have:C[w]=(q:Int):=by have:=List.getElem?_eq_some_iff.1 R;exact this.2
     rw[this]at l;exact absurd V h2
    .exact l
   .have a_:w=C.length:=V;subst a_;rw[List.drop_length]at w2;exact⟨ay,l2,o2,w2.Yc aL V,F0.trans f2,V⟩
def LG{c:List bz}:∀a:Bk,Wz c b a:=Bk.ind λaD r f=>LF λx e h=>Ly h λa d=>f x e a d
end
def mP.dq{l:List Instr}{n:Nat}(h:mP [] l n):RT l/\Qq l/\l.length<=n:=by
 obtain⟨e,rfl,b,c,d⟩:=h;exact⟨λk x a=>by have:=b k x a;simpa using this,c,d⟩
def LJ{e:List Nat}{r:E}(hS:∀f∈e,f<r.size){B ag:O}{Z:List bz}{rs:List gP}(P:eL r B ag Z rs){al:Nat}(ay:yi Z rs True al)(hW:al<=120000000000):Qp 162 [.agg #[O.v B,O.v ag]] r e Z DK:=by
 apply Ev;simp -zeta only[aC,aB];have ht:=P.types;have hp:=P.iU;intro b a2;let⟨x2,hl⟩:=dD (a:=b) (c:=a2) rfl rfl;have s1:b.size=r.size+1:=by simp[b]
 clear_value a2;have aX:=hp.len;have bo:=P.oD;have bn:=ay.iW;refine(fV (b:=b.size::e) (bO hS x2.size (hl _ aL)) (P.bo.le x2.le) ht).mono λ_ ac⟨dd,g,aU,x3⟩=>?_;subst g;refine⟨x3.dv hl,_,rfl,?_⟩;intro j a3 aF;have u2:=x2.trans x3;let⟨x5,B0,g0,s3,s5⟩:=kX (b:=j.size::b.size::e) lp.mono (d:=ac) (a:=j) (c:=a3) (h:=aF) rfl rfl rfl;clear_value aF;have ax:∀f∈[b.size,r.size],f<ac.size:=λf l=>x3.lt (hl f l);have av:∀f∈b.size::e,f<ac.size:=λf l=>x3.lt (bO hS x2.size (hl _ aL) f l);refine kU (R:=λd h u=>∃B p c,Value.agg #[O.v d,O.v h]=.agg #[O.v B,O.v p]/\cx (bG e u) B Z/\iH (bG e u) p c/\DK c/\J r u) (r:=rs.length) (f:=r) (b:=e) lp.mono bh bh hS ⟨V,ax _ aL⟩ u2 s3 aU aX V x5 B0 g0 (λ_ q=>SU q) (λc r' aA m' d h t k o=>⟨c,r',aA,rfl,d,h,⟨V,V,λq hq=>by obtain⟨s,p⟩:=List.mem_iff_getElem?.1 hq;exact k s q p⟩,o⟩) λaz u o aA bf μ aW bl xM ar aj a6=>?_
 let⟨q,hq⟩:=cG rs az aW;let⟨q3,ba,bb,qw⟩:=ay.dz q (aq hq);have F:=u2.trans xM;obtain⟨cs,⟨bg,k,bd,rfl,c1,c2,c3⟩,Q⟩:=hp.iB az q hq;have aP:=c1.len;have qp:=q.body.Hh;refine⟨V,V,_,F.af (Q 0 _ rfl),_,F.af (Q 1 _ rfl),_,F.af (Q 2 _ rfl),_,F.af (Q 3 _ rfl),_,F.af (Q 4 _ rfl),?_⟩;intro m7 c;have hy:=ar.bn;have bj:=aj.lt;have zM:=xM.size;obtain⟨x8,-,s8⟩:=kH (M:=u) (d:=m7) (c:=c) rfl rfl rfl;clear_value c;have bm:=u2.size;have w8:=F.trans x8;have N:∀{I:E},c.size<=I.size->∀f∈o.D::j.size::b.size::e,f<I.size:=λh f l=>by
  simp only[aV]at l;rcases l with g|g|g|g
  .omega
  .omega
  .have:=av f (by simp[g]);omega
  .have:=av f (by simp[g]);omega
 have bk:b.size<ac.size:=ax _ aL;intro d s;have x9:J c d:=J.push _ _;have s9:d.size=c.size+1:=by simp[d]
 have aJ:J d s:=J.push _ _;have bu:s.size=d.size+1:=by simp[s]
 have g9:Vh (d.size::o.D::j.size::b.size::e) c d (.mk c.size 0 0 0) []:=Gr.new _ (ad _) _ _ _;have aM:cE s d.size nZ [.s (.mk c.size 0 0 0)]:=cE.push _ _ _;have aQ:Ff (o.D::j.size::b.size::e) c s d.size (.mk c.size 0 0 0) []:=⟨aM,g9.ext dS.mono aJ,V⟩;clear_value s d;have am:=x9.trans aJ;have aD:∀f∈[c.size,d.size],f<s.size:=λf l=>by simp at l;omega
 have LL:∀{I:E}{s':O},s.size<=I.size->(s'.D=c.size\/s.size<=s'.D)->∀k∈[u.size,b.size,r.size],k<I.size/\k≠d.size/\k≠s'.D:=λhz z k aS=>by simp at aS;omega
 rw[aP];refine(lX (S:=[c.size,d.size]) aD 0 q.params.length V).mono λ_ aE⟨U,ab,g,aR,aI,W⟩=>⟨W.dv λk z=>by simp at z;omega,U,g,?_⟩;have au:=GI.done aR aD V;have be:=W.size;have aN:RU (o.D::j.size::b.size::e) c aE d.size (.mk c.size 0 0 0) [] U U ab ab:=⟨aQ.ext W,am.trans W,N V,au,au,rfl,λy hy=>oh (aI.1 y hy)⟩;refine(LG q.body _ c aE d.size _ [] U U ab ab B ag bd aN (by rw[aI.2];exact bb) V bE (P.le w8.le) (eP.le w8.le c3)).mono λbw aZ⟨bv,bp,ae,aH,aa,aO⟩=>⟨Pd.dv aa (LL be (Or.inl rfl)),?_⟩;have bC:=aa.size;simp only[O.jB]at aO aa;have an:J c aZ:=Fz.ext ((((am.trans W).fz [d.size,c.size]).trans aa).DB λk z=>Or.inr (by simp at z;omega));have a9:=aH.len;intro bq;refine HW ae an (N V) (by simp at a9;omega) (LL V V) λA D v L ao ap bi=>?_;have bD:=ap.size;have bx:=ae.gr.bn;have X:J c v:=ae.gG an ap;have a_:mP [] D (6*q.body.w):=ao▸(aH.trans (mP.lK (x:=⟨23,0,0,0,[q.body.aS],[]⟩) ⟨sx,λ_=>aL⟩ aL)).fj V;let⟨a7,a8,bt⟩:=a_.dq;have aY:0<D.length:=by rw[ao];simp
 have ak:=aj.ext (x8.trans X);refine⟨o,ak.cg 1,A,L.box.cg 0,A,L.box.cg 0,?_⟩;have bB:=L.gr.bn;have a5:=L.ne;have a4:A.D∉d.size::o.D::j.size::b.size::e:=by
  simp only[aV,vv];have l:=λh:A.D∈o.D::j.size::b.size::e=>N (I:=c) (ad _) _ h;refine⟨a5,λh=>?_,λh=>?_,λh=>?_,λh=>?_⟩<;>have:=l (by simp[h])<;>omega
 have aw:fg (bG (d.size::o.D::j.size::b.size::e) v) A D:=L.gr.nH dS.mono a4 bh V;have G:∀{y K:E}{k aG:Nat},v.size<=y.size->J y K->k<v.size->af K k aG=af y k aG:=λh ah z=>gl ah V _;have sm:∀{y K:E},v.size<=y.size->J y K->eG [u.size,b.size,r.size] y K:=λh ah=>ah.dv λk z=>by simp at z;omega
 have T:d.size<v.size:=V;have C:u.size<v.size:=V;have i3:j.size<v.size:=V;refine(bN (o.D::j.size::b.size::e) (c1.ext (w8.trans X)) V).mono λ_ br⟨a',la,g,ga,ea,p⟩=>⟨sm (ad _) p,a',g,G (ad _) p T,G (ad _) p C,G (ad _) p T,G (ad _) p C,G (ad _) p C,G (ad _) p i3,?_⟩;subst ea;have H:=p.size;refine(bN (o.D::j.size::b.size::e) (c2.ext ((w8.trans X).trans p)) V).mono λ_ a0⟨b',lb,g,gb,eb,t⟩=>⟨sm H t,b',g,G H t T,G H t C,G H t T,G H t C,G H t i3,?_⟩;subst eb;have bF:=t.size;have aK:=p.trans t;refine(MW (m:=a0) (fg.ext aK (eT.le aw (bA _ _) λ_ _=>dS.le (bA _ _))) (q.params.length:Nat)).mono λ_ a1⟨rg,g,_,w⟩=>⟨sm V w,rg,g,G V w T,G V w C,G V w i3,?_⟩;have bH:=w.size;have Y:=aK.trans w;intro bs;have aT:fg (bG (o.D::j.size::b.size::e) a1) A D:=eT.le aw ((Y.df _).trans (iS _ λ_ h=>ai _ h)) λ_ _=>dS.le ((Y.df _).trans (iS _ λ_ h=>ai _ h));have XX:=(x8.trans X).trans Y;refine Gr.box (g:=[.s .nil,.s .nil,.i 0,.i 0,.s .nil]) (j:=1) (y:=88) (i:=[.s dd,.s o]) (w:=⟨q.params,q.cR,q.aS,rg,D⟩) lp.mono bh (ar.ext lp.mono XX) ((xM.trans XX).fz []) ⟨a',b',A,rfl,(GI.done ga (N V) V).le ((t.trans w).df _),(GI.done gb (N V) V).le (w.df _),aT⟩ V (ak.ext Y) aL bh ⟨V,aL⟩ (λf l=>?_) λr' m' g' B' f' z' q'=>a6 r' m' _ g' B' f'.ext ⟨q3,ba,aY,by show D.length<=_;omega,a7,a8⟩
 simp at l;omega
section
def Mn{α:Type}(T:E->O->O->α->Prop):Prop:=∀M a b c x,Le M a->T M b c x->T a b c x
def PP{α:Type}(T:E->O->O->α->Prop)(U:α->Prop)(S:List Nat)(d:Nat)(e:O)(m:E)(P:Nat)(v:Value)(a:E):Prop:=∃b c x,v=.agg #[O.v b,O.v c]/\T (bG S a) b c x/\U x/\Rd d e P a/\Fz [d] m a
def NT(m:E)(a b:O)(x:List bz×List gP):Prop:=eL m a b x.1 x.2
def IT(m:E)(a b:O)(x:List bz×List dy):Prop:=cx m a x.1/\iH m b x.2
def GT(m:E)(a b:O)(x:List bz×List (dy×Ex)):Prop:=cx m a x.1/\WA m b x.2
def UN(c:Prop)(W:Nat)(x:List bz×List gP):Prop:=yi x.1 x.2 c W/\x.1∈rK
def UI(x:List bz×List dy):Prop:=DK x.2/\x.1∈rK
def NT.mn:Mn NT:=λ_ _ _ _ _ h t=>eL.le t h
def IT.mn:Mn IT:=λ_ _ _ _ _ h t=>⟨t.1.le h,iH.le h t.2⟩
structure BS(B:List Nat)(rb:Nat)(bs:O)(m:E)(Q:Nat)(M:E):Prop where
 s:Rs rb bs m Q M
 gG:∀c∈B,m.size<=c/\c<M.size
section
variable{α:Type}{T:E->O->O->α->Prop}{U:α->Prop}{S B L:List Nat}{d Q h j k f t:Nat}{g a b:O}{m M e:E}{x:α}{i:List Value}
def BS.hS(h:BS B d g m Q M)(a:∀c∈S,c<m.size):∀c∈B++S,c<M.size:=λc b=>(List.mem_append.1 b).elim (λe=>(h.gG c e).2) λe=>aO (a c e) h.s.f.size
def BS.to(a:BS B d g m Q M)(f:Fz [d] M e)(r:Rd d g h e):BS B d g m h e:=⟨a.s.to f r,λc b=>⟨(a.gG c b).1,aO (a.gG c b).2 f.size⟩⟩
def BS.lw(h:BS B d g m Q M)(a:d<m.size)(c:∀b∈L,b∈B):Lw d L M:=Go.Proofs.YtkoifinbblcbiaaGreat.lw a λb e=>h.gG b (c b e)
def BS.call(c:BS B d g m Q M)(o:d<m.size)(p:∀b∈L,b∈B)(l:aN cp f i M (PP T U (B++S) d g M h)){K:O->O->E->Prop}
 (q:∀a b x e,U x->T (bG (B++S) e) a b x->BS B d g m h e->Fz [d] M e->K a b e):aN cp f i M λv e=>eG L M e/\∃j k:O,v=.agg #[O.v j,O.v k]/\K j k e:=
 l.mono λ_ e⟨a,b,x,n,t,u,r,f⟩=>⟨(c.lw o p).dv f,a,b,n,q a b x e u t (c.to f r) f⟩
def BS.pick(h:BS B d g m Q M)(c:d<m.size)(k:Q<=10^16)(j:∀b∈L,b∈B)(n:Int){K:Int->E->Prop}
 (l:∀i e,0<=i->(i<n\/i=0)->BS B d g m (Q+1) e->Fz [d] M e->K i e):aN cp 40 [vp d 0,vi n] M λv e=>eG L M e/\∃i:Int,v=vi i/\K i e:=
 (cq h.s.r k n).mono λ_ e⟨i,a,o,p,r,f⟩=>⟨(h.lw c j).dv f,i,a,l i e o p (h.to f r) f⟩
def BS.box{m1 m2:E}{z l:List Ce}(h:BS B d g m Q M)(f:m1=M.push (.cells (bt z) t))(i:m2=ah m1 M.size 0 l)(n:l.length=z.length):BS (M.size::B) d g m Q m2/\Le (bG (B++S) M) (bG (M.size::B++S) m2)/\cE m2 M.size t l:=by
 let⟨x,a,z⟩:=kH f i n;have o:=h.s.f.size;refine⟨⟨h.s.ext x,λc k=>?_⟩,x.bG λb j=>(List.mem_cons.1 j).elim (λh=>Or.inr V) Or.inl,a⟩;rcases List.mem_cons.1 k with e|e
 .omega
 .have:=h.gG c e;omega
def BS.put(h:BS B d g m Q M)(b:Rd d g j m)(a:k∈B)(l:List Ce):BS B d g m Q (ah M k 0 l)/\Le (bG (B++S) M) (bG (B++S) (ah M k 0 l)):=
 ⟨⟨h.s.put b (h.gG k a).1 _ _,λc e=>by rw[aw];exact h.gG c e⟩,cA (by simp[a]) λ_ h=>h⟩
def BS.le(a:d∈S)(f:Fz [d] M e):Le (bG (B++S) M) (bG (B++S) e):=f.df (by simp[a])
def BS.iI(f:BS B d g m Q M)(o:Mn T)(i:Rd d g j m)(p:k∈B)(q:T (bG (B++S) M) a b x)(r:U x)(n:Q<=h)(l:List Ce):PP T U S d g m h (.agg #[O.v a,O.v b]) (ah M k 0 l):=
 have⟨c,e⟩:=f.put (S:=S) i p l
 ⟨a,b,x,rfl,o _ _ _ _ _ (e.trans (iS _ λ_=>eE _)) q,r,c.s.r.mono n,c.s.f⟩
def BS.lK(a:Rd d g Q m)(o:Obj):BS [m.size] d g m Q (m.push o)/\Le (bG S m) (bG ([m.size]++S) (m.push o)):=⟨⟨⟨(J.push m o).fz _,a.ext (J.push m o)⟩,aL⟩,td (J.push m o) (ad _)⟩
def Lf{a:List bz}{c:Prop}{W:Nat}(j:uR f i M S a λb=>yi a b c W)(hd:a∈rK)(r:Rd d g Q M):aN cp f i M (PP NT (UN c W) S d g M Q):=
 j.mono λ_ _⟨e,k,b,h,n,o,x⟩=>⟨e,k,(a,b),h,n,⟨o,hd⟩,r.ext x,x.fz _⟩
def VF{a:List bz}(h:Qp f i M S a DK)(hd:a∈rK)(r:Rd d g Q M):aN cp f i M (PP IT UI S d g M Q):=
 h.mono λ_ _⟨b,j,k,e,n,c,o,x⟩=>⟨b,j,(a,k),e,⟨n,c⟩,⟨o,hd⟩,r.ext x,x.fz _⟩
end
section
variable{a:List Nat}{m:E}{b P:Nat}{c:O}
def IJ(f:∀d∈a,d<m.size)(j:b∈a)(d:Rd b c P m)(D:P+1000+4*(300+40*Cg 18)<=10^16):aN cp 221 [vp b 0] m (PP NT (UN False 95) a b c m (P+11+4*(300+40*Cg 18))):=by
 apply Ba (b,0);simp -zeta only[aC,aB];have e:=d.lt;intro k;obtain⟨b1,-⟩:BS [m.size] b c m P k/\True:=⟨(BS.lK (S:=a) d _).1,trivial⟩;clear_value k;refine b1.call (T:=GT) (U:=λx=>WD x.1 x.2) (S:=a) e (λ_ h=>h) ((Ey (b1.hS f) (by simp[j]) b1.s.r V).mono λv M⟨i,p,g,t,l,n,o,q,r,s⟩=>⟨i,p,(g,t),l,⟨n,o⟩,q,r,s⟩) λi p x F u t b2 A=>?_;refine b2.call (S:=a) e (λ_ h=>h) (Lf (ID (b2.hS f) (t.1.le (bA _ _)) (eT.le t.2 (bA _ _) λ_ _=>Y2.mono.le (bA _ _)) u) u.gp.ds b2.s.r) λy J L G g t3 b3 B=>?_;intro r l;obtain⟨b5,q,-⟩:=b3.box (S:=a) (m1:=r) (m2:=l) rfl rfl rfl;clear_value l;have s:=NT.mn _ _ _ _ _ q t3;refine b5.pick e V (λ_ h=>h) 3 λE H _ _ b6 o=>?_;have n:=NT.mn _ _ _ _ _ (BS.le j o) s;refine⟨λ_=>?_,λ_=>b6.iI NT.mn d aL n g V _⟩;exact b6.call (S:=a) e (λ_ h=>h) (Lf (JX (b6.hS f) (n.le (bA _ _)) V g.1) g.2 b6.s.r) λz K M I w v h C=>h.iI NT.mn d aL v w V _
def Er(j:∀d∈a,d<m.size)(g:b∈a)(d:Rd b c P m)(M:P+1000+4*(300+40*Cg 18)<=10^16):aN cp 207 [vp b 0] m (PP NT (UN True 104500) a b c m (P+12+4*(300+40*Cg 18))):=by
 apply xc (b,0);simp -zeta only[aC,aB];have f:=d.lt;intro n;obtain⟨b1,-⟩:BS [m.size] b c m P n/\True:=⟨(BS.lK (S:=a) d _).1,trivial⟩;clear_value n;refine b1.call (S:=a) f (λ_ h=>h) (IJ (b1.hS j) (by simp[g]) b1.s.r V) λI U X Q i t2 b2 K=>?_;intro x o;obtain⟨b4,w,-⟩:=b2.box (S:=a) (m1:=x) (m2:=o) rfl rfl rfl;clear_value o;have q:=NT.mn _ _ _ _ _ w t2;refine b4.call (S:=a) f (λ_ h=>h) (Lf (LC (b4.hS j) (q.le (bA _ _)) i.1) i.2 b4.s.r) λJ W Y y G B b5 u=>?_;intro z p;obtain⟨r,l,-⟩:=b5.box (S:=a) (m1:=z) (m2:=p) rfl rfl rfl;clear_value p;have C:=NT.mn _ _ _ _ _ l B;refine r.pick f V (λ_ h=>h) 4 λN R _ _ e k=>?_;have D:=NT.mn _ _ _ _ _ (BS.le g k) C;refine⟨λ_=>?_,λ_=>e.iI NT.mn d aL D G V _⟩;have E:=NT.mn _ _ _ _ _ (((BS.le g u).trans l).trans (BS.le g k)) q;refine e.call (S:=a) f (λ_ h=>h) (Lf (P2 (e.hS j) (E.le (bA _ _)) i.1) i.2 e.s.r) λt A Z T H F s L=>?_;intro O;let⟨h,v⟩:=s.put (S:=a) d (by simp:y.size∈_) [.s t,.s A];exact h.iI NT.mn d aL (NT.mn _ _ _ _ _ v F) H V _
end
end
section
variable{c:Prop}
structure BF(S:List Nat)(rb:Nat)(bs:O)(m:E)(k Q W:Nat)(M:E):Prop where
 b:BS [k,m.size] rb bs m Q M
 x:∃d r x,cE M k nh [.s d,.s r]/\NT (bG (k::m.size::S) M) d r x/\UN True W x
def UN.mono{W W':Nat}{x:List bz×List gP}(h:UN c W x)(f:W<=W'):UN c W' x:=⟨⟨h.1.iW,λq g=>let⟨a,b,d,e⟩:=h.1.dz q g;⟨a,b,d,bH e f⟩⟩,h.2⟩
section
variable{e h:List Nat}{d k Q Q' W W' i f:Nat}{g:O}{a M b:E}{K:E->Prop}{j:O->O->List Value}
def BF.mono(h:BF e d g a k Q W M)(j:Q<=Q')(l:W<=W'):BF e d g a k Q' W' M:=⟨⟨⟨h.b.s.f,h.b.s.r.mono j⟩,h.b.gG⟩,let⟨i,r,x,b,f,c⟩:=h.x;⟨i,r,x,b,f,c.mono l⟩⟩
def BF.to(i:BF e d g a k Q W M)(n:d<a.size)(m:d∈e)(f:Fz [d] M b)(j:BS [k,a.size] d g a Q' b):BF e d g a k Q' W b:=
 let⟨l,r,x,h,t,c⟩:=i.x
 ⟨j,l,r,x,h.congr (f.same k h.lt (by have:=i.b.gG k aL;simp;omega)),NT.mn _ _ _ _ _ (BS.le (B:=[k,a.size]) m f) t,c⟩
def BF.pick(j:BF e d g a k Q W M)(l:d<a.size)(q:d∈e)(o:Q<=10^16)(m:∀c∈h,c∈[k,a.size])(n:Int){K:Int->E->Prop}
 (p:∀i b,BF e d g a k (Q+1) W b->K i b):aN cp 40 [vp d 0,vi n] M λv b=>eG h M b/\∃i:Int,v=vi i/\K i b:=
 j.b.pick l o m n λi b _ _ c f=>p i b (j.to l q f c)
def BF.Y6(q:BF e d g a k Q W M)(w:Rd d g i a)(F:k≠a.size)(y:∀p∈h,p=a.size)
 (c:∀l n x,NT (bG (k::a.size::e) M) l n x->UN True W x->aN cp f (j l n) M (PP NT (UN True W') (k::a.size::e) d g M Q'))
 (I:∀b,BF e d g a k Q' W' b->K b):∃z:O,af M k 0=some (O.v z)/\∃A:O,af M k 1=some (O.v A)/\aN cp f (j z A) M λT b=>eG h M b/\∃t u:O,T=.agg #[O.v t,O.v u]/\fK b k 0 2/\(eG h b (ah b k 0 [.s t,.s u])/\K (ah b k 0 [.s t,.s u])):=by
 let⟨l,n,x,B,J,P⟩:=q.x
 have G:=w.lt
 have V:=q.b.gG k aL
 refine⟨l,B.cg 0,n,B.cg 1,q.b.call (S:=e) (L:=h) G (λp s=>by simp[y p s]) (c l n x J P) λp s U b R N C D=>?_⟩
 have v:=B.congr (D.same k B.lt bE)
 let⟨b2,H⟩:=C.put (S:=e) w (by simp:k∈_) [.s p,.s s]
 exact⟨v.fK aL,λc E=>bd _ _ _ _ (by rw[y c E];exact kE F),I _ ⟨b2,p,s,U,cE.ah (m:=b) (o:=0) (r:=[.s p,.s s]) v,NT.mn _ _ _ _ _ H N,R⟩⟩
def BF.aT(h:BF e d g a k Q W M)(j:Rd d g i a)(l:Q<=Q'):∃b:O,af M k 0=some (O.v b)/\∃c:O,af M k 1=some (O.v c)/\PP NT (UN True W) e d g a Q' (.agg #[O.v b,O.v c]) (ah M a.size 0 [.s b,.s c]):=
 let⟨f,r,_,B,t,u⟩:=h.x
 ⟨f,B.cg 0,r,B.cg 1,h.b.iI NT.mn j aL t u l _⟩
end
section
variable{a:List Nat}{b:E}{d P:Nat}{e:O}
def Yo{h:Nat}{g:List Value}{M:E}{Q:Nat}{b:List bz}{W:Nat}(k:SL h g M a d e Q b λf=>yi b f c W)(hd:b∈rK):aN cp h g M (PP NT (UN c W) a d e M Q):=
 k.mono λ_ _⟨i,l,f,j,n,o,r,x⟩=>⟨i,l,(b,f),j,n,⟨o,hd⟩,r,x⟩
def Ry(i:∀c∈a,c<b.size)(k:d∈a)(g:Rd d e P b)(h:P+4<=10^16){W:Nat}(j:W<=200000000000)(f r:O)(x:List bz×List gP)(t:NT (bG a b) f r x)(u:UN True W x):aN cp 208 [vp d 0,.agg #[O.v f,O.v r]] b (PP NT (UN True (W+4)) a d e b (P+4)):=
 Yo (P1 i k g h t u.1 j) u.2
def Cq(z:∀c∈a,c<b.size)(l:d∈a)(g:Rd d e P b)(Z:P+1000+4*(300+40*Cg 18)<=10^16):aN cp 163 [vp d 0] b (PP NT (UN True 98289774148) a d e b (P+24+4*(300+40*Cg 18))):=by
 apply wc (d,0);simp -zeta only[aC,aB];have k:=g.lt;intro q;have z1:q.size=b.size+1:=by simp[q]
 obtain⟨b1,-⟩:BS [b.size] d e b P q/\True:=⟨(BS.lK (S:=a) g _).1,trivial⟩;clear_value q;refine b1.call (S:=a) k (λ_ h=>h) (Er (b1.hS z) (by simp[l]) b1.s.r V) λD H J f I t2 b2 K=>?_;have z2:=K.size;intro N G;let⟨b4,L,C⟩:=b2.box (S:=a) (m1:=N) (m2:=G) rfl rfl rfl;clear_value G;have X:=NT.mn _ _ _ _ _ L t2;have p:f.size≠b.size:=V;have n:∀{M:E}{Q W:Nat},BF a d e b f.size Q W M->∀c∈f.size::b.size::a,c<M.size:=λh=>h.b.hS z;have F:d∈f.size::b.size::a:=by simp[l]
 refine⟨BF a d e b f.size (P+17+4*(300+40*Cg 18)) 104504,?_,λR U=>?_⟩
 .refine b4.pick k V (λ_ h=>h) 4 λA m5 _ _ b5 t=>?_;have u:=NT.mn _ _ _ _ _ (BS.le (B:=[f.size,b.size]) l t) X;have s:=C.congr (t.same _ C.lt bE);refine⟨λ_=>b5.call (S:=a) k (λ_ h=>h) (Ry (b5.hS z) F b5.s.r V V D H J u I) λi j x O Y T b6 w=>?_,λ_=>BF.mono ⟨b5,D,H,J,s,u,I⟩ V V⟩;intro R;let⟨v,y⟩:=b6.put (S:=a) g (by simp:f.size∈_) [.s i,.s j];exact BF.mono ⟨v,i,j,x,cE.ah (m:=O) (o:=0) (r:=[.s i,.s j]) (s.congr (w.same _ s.lt bE)),NT.mn _ _ _ _ _ y T,Y⟩ V V
 refine⟨BF a d e b f.size (P+18+4*(300+40*Cg 18)) 10921086016,?_,λY O=>?_⟩
 .refine U.pick k l V aL 4 λA v s=>⟨λ_=>s.Y6 g p aL (λi j x t u=>Lf (Ig (n s) (t.le (bA _ _)) V u.1) u.2 s.b.s.r) λy h=>h.mono V V,λ_=>s.mono V V⟩
 refine O.pick k l V aL 3 λA aa s=>?_;refine⟨BF a d e b f.size (P+19+4*(300+40*Cg 18)) 98289774144,⟨λ_=>s.Y6 g p aL (λi j x t u=>Lf (EN (n s) (t.le (bA _ _)) V u.1) u.2 s.b.s.r) λy h=>h.mono V V,λ_=>s.mono V V⟩,λab v=>?_⟩;refine⟨BF a d e b f.size (P+19+4*(300+40*Cg 18)) 98289774144,⟨λ_=>v.Y6 g p aL (λi j x t u=>Lf (MX (n v) (t.le (bA _ _)) V u.1) u.2 v.b.s.r) λy h=>h.mono V V,λ_=>v.mono V V⟩,λac T=>?_⟩;refine T.pick k l V aL 6 λA ad w=>⟨λ_=>w.Y6 g p aL (λi j x t u=>Ry (n w) F w.b.s.r V V i j x t u) λy h=>h.aT g V,λ_=>(w.mono (Q':=P+24+4*(300+40*Cg 18)) (W':=98289774148) V V).aT g V⟩
def Ip(j:∀c∈a,c<b.size)(l:d∈a)(f:Rd d e P b)(B:P+1000+4*(300+40*Cg 18)<=10^16):aN cp 90 [vp d 0] b (PP IT UI a d e b (P+25+4*(300+40*Cg 18))):=by
 apply AG (d,0);simp -zeta only[aC,aB];have g:=f.lt;intro m;obtain⟨b1,-⟩:BS [b.size] d e b P m/\True:=⟨(BS.lK (S:=a) f _).1,trivial⟩;clear_value m;refine b1.call (S:=a) g (λ_ h=>h) (Cq (b1.hS j) (by simp[l]) b1.s.r V) λv H K D o t2 b2 y=>?_;refine b2.call (S:=a) g (λ_ h=>h) (VF (LJ (b2.hS j) (t2.le (bA _ _)) o.1 V) o.2 b2.s.r) λw I L E i t3 b3 z=>?_;intro r n;obtain⟨b5,q,-⟩:=b3.box (S:=a) (m1:=r) (m2:=n) rfl rfl rfl;clear_value n;have s:=IT.mn _ _ _ _ _ q t3;refine b5.pick g V (λ_ h=>h) 3 λC F _ _ b6 p=>?_;have k:=IT.mn _ _ _ _ _ (BS.le l p) s;refine⟨λ_=>?_,λ_=>b6.iI IT.mn f aL k i V _⟩;exact b6.call (S:=a) g (λ_ h=>h) (VF (IN (b6.hS j) (k.1.le (bA _ _)) (sX i.2) (iH.le (bA _ _) k.2) i.1) i.2 b6.s.r) λx J M G u t h A=>h.iI IT.mn f aL t u V _
end
end
section
variable{x:Instr}
section
variable{S:List Nat}{m M:E}{a P Q:Nat}{b:O}
def zX(h:Rs a b m Q M)(i:Q<=10^16)(c:List Int){d:List Ce}{n:Nat}(j:d=c.map Ce.i)(p:n=c.length)(l:0<c.length/\c.length<=100):
 aN cp 39 [vp a 0,O.v (.mk M.size 0 n n)] (M.push (.cells (bt d) aA)) λv e=>∃t:Int,v=vi t/\t∈c/\Rs a b m (Q+1) e/\Fz [a] (M.push (.cells (bt d) aA)) e:=by
 have x:=J.push M (.cells (bt d) aA)
 have o:=h.r.lt
 refine(kA (h.ext x).r i (ap.lit aA c (by simp;exact o) j p V) l.1).mono λv e⟨q,g,k,r,f⟩=>⟨q,g,k,(h.ext x).to f r,f⟩
def _root_.Go.Vc.Gr.KY{b c:E}{s:O}{l:List Int}(h:GI S b M s l)(f:Fz [a] M c)(d:a<b.size):GI S b c s l:=have:=h.bn;GI.jx h (f.same _ this.2 bE)
def qH(n:Rd a b P m)(hP:P+10<=10^16){D:O}{l:List Int}(S:ap m D l)(hb:l.length<=10^12):aN cp 93 [vp a 0,O.v D] m λaa o=>∃s c,aa=O.v s/\GI [] m o s c/\c.length<=l.length+1/\(∀w∈c,w∈l\/-1<=w/\w<=1001)/\Rd a b (P+3) o/\Fz [a] m o:=by
 apply sO (a,0);have g:=n.lt;refine(bN [] S V).mono λ_ W⟨s,c,e,j,I,G⟩=>⟨s,e,?_⟩;subst I;have ab:=j.len bh;have p:Rs a b m P W:=⟨G.fz _,n.ext G⟩;have iI:∀{M:E}{Q:Nat},Rs a b m Q M->Q<=P+2->GI [] m M s l->aN cp 39 [vp a 0,O.v (.mk M.size 0 5 5)] (M.push (.cells (bt [.i 0,.i 1,.i 2,.i (-1),.i 1000]) aA)) λx r=>∃i:Int,x=vi i/\
  jL (r.push (.cells (bt [.i i]) aA)) aA [.i 0] 8 s (.mk r.size 0 1 1) λt q=>∃s c,O.v t=O.v s/\GI [] m q s c/\c.length<=l.length+1/\(∀w∈c,w∈l\/-1<=w/\w<=1001)/\Rd a b (P+3) q/\Fz [a] m q:=λ{M Q} rM hQ gM=>
  (zX rM V [0,1,2,-1,1000] rfl rfl aL).mono λ_ r⟨t,e,u,f,d⟩=>⟨t,e,by
   have g2:=(gM.ext (J.push M _)).KY d g;refine GI.kK g2 f.f aL V λx o L z z' Y=>⟨x,_,rfl,L,aL,λw v=>?_,?_,z⟩
   .rcases List.mem_append.1 v with h|h
    .exact Or.inl h
    .simp at h u;exact Or.inr V
   .exact(n.MF f.r z (Y a f.r.lt (oh g2.bn))).mono V⟩
 refine⟨λR=>?_,λ_=>iI p V j⟩;simp only[kG,ar]at R;refine(cq p.r V 2).mono λ_ m2⟨T,e,_,_,y,d⟩=>⟨T,e,λ_=>?_,λ_=>iI (p.to d y) V (j.KY d g)⟩;have f:=p.to d y;refine(cq f.r V (s.len:Int)).mono λ_ X⟨i,e,U,k1,H,A⟩=>⟨i,e,?_⟩;refine(zX (f.to A H) V [0,1,-1,7,1000,1001] rfl rfl aL).mono λ_ m5⟨t,e,u,F,K⟩=>⟨t,e,U,V,?_⟩;have C:=(((j.KY d g).KY A g).ext (J.push X _)).KY K g;let⟨w,N,B,Z⟩:=C.set F.f (k:=i.toNat) V t;refine⟨w,s,_,rfl,N,aL,λw v=>?_,(n.MF F.r B (Z a (oh C.bn))).mono V,B⟩;rcases cB v with h|h
 .exact Or.inl h
 .simp at u;exact Or.inr V
def IX(Z:List Nat)(a:Nat)(b:O)(m:E)(P:Nat)(U:Instr->Prop)(v:Value)(c:E):Prop:=∃x d j,v=VG x d j/\ap (bG Z c) d x.args/\ap (bG Z c) j x.eM/\U x/\Rd a b P c/\Fz [a] m c
def wh(S:List Nat){p t:O}(v:ap m p x.args)(w:ap m t x.eM)(s:x.args.length<=10^12/\x.eM.length<=10^12):
 aN cp 213 [VG x p t] m λz l=>∃c d,z=VG x c d/\GI S m l c x.args/\GI S m l d x.eM/\c.D≠d.D/\J m l:=by
 apply rC
 simp -zeta only[aC,aB]
 intro i j
 let⟨e,g⟩:=dD (a:=i) (c:=j) rfl rfl
 have F:i.size=m.size+1:=by simp[i]
 clear_value j
 have b:∀{M n:E},J j M->J M n->∀o,af n m.size o=af M m.size o:=λh u o=>aJ (u.same _ (h.lt (g _ aL))) o
 refine(bN S (v.ext e) s.1).aH (J.az j) g λc _ B q k a _=>⟨_,rfl,b (J.az _) a _,b (J.az _) a _,b (J.az _) a _,b (J.az _) a _,b (J.az _) a _,?_⟩
 subst k
 refine(bN S (w.ext (e.trans a)) s.2).aH a g λd _ C r k f y=>⟨_,rfl,b a f _,b a f _,b a f _,b a f _,?_⟩
 subst k
 intro D
 have G:=q.bn;have H:=r.bn
 have A:=g i.size aL
 exact⟨c,d,rfl,((q.ext f).jx (bd _ _ _ _ V)).cy (λ_ h=>h) e.size,(r.jx (bd _ _ _ _ V)).cy (λ_ h=>h) (e.trans a).size,V,(e.trans y).ah V _ _⟩
end
structure BI(a0:E)(k rb:Nat)(bs:O)(m:E)(Q:Nat)(M:E)(a j:O)(l l':List Int):Prop where
 ga:GI [] a0 M a l
 gj:GI [] a0 M j l'
 ne:a.D≠j.D
 s:Rs rb bs m Q M
 lo:m.size+2<=a0.size/\l.length<=1000000000001/\l'.length<=1000000000001
 hi:a.D≠k/\j.D≠k/\m.size<=k/\k<M.size
section
variable{Z L:List Nat}{f m M c:E}{b k P g Q h:Nat}{d a j:O}{l e:List Int}
def BI.to(g:BI f k b d m Q M a j l e)(n:b<m.size)(i:Fz [b] M c)(r:Rd b d h c):BI f k b d m h c a j l e:=
 have:=g.lo
 ⟨g.ga.KY i V,g.gj.KY i V,g.ne,g.s.to i r,g.lo,g.hi.1,g.hi.2.1,g.hi.2.2.1,aO g.hi.2.2.2 i.size⟩
def BI.put(h:BI f k b d m Q M a j l e)(g:Rd b d P m)(o:Nat)(c:List Ce):BI f k b d m Q (ah M k o c) a j l e:=
 have:=h.lo;have:=h.hi;have:=h.ga.bn
 ⟨GI.jx h.ga (bd _ _ _ _ V),GI.jx h.gj (bd _ _ _ _ V),h.ne,h.s.put g V _ _,h.lo,by rw[aw];exact h.hi⟩
def BI.iI{U:Instr->Prop}(h:BI f k b d m Q M a j l e)(v:Rd b d P m)(t:∀c∈Z,c<m.size){i:Nat}(y:i=m.size+1)(w:Q<=g){r n q p:Int}(x:U ⟨r,n,q,p,l,e⟩)(s:List Ce):IX Z b d m g U (.agg #[vi r,vi n,vi q,vi p,O.v a,O.v j]) (ah M i 0 s):=by
 have:=h.lo;have:=h.hi;have z:=h.ga.bn;have A:=h.gj.bn;have u:=h.s.put v (k:=i) V 0 s;exact⟨⟨r,n,q,p,l,e⟩,a,j,rfl,Gr.done tW.mono (GI.any (GI.jx h.ga (bd _ _ _ _ V))) (λc o=>oh (t c o)) bh (bH h.lo.2.1 bh),Gr.done tW.mono (GI.any (GI.jx h.gj (bd _ _ _ _ V))) (λc o=>oh (t c o)) bh (bH h.lo.2.2 bh),x,u.r.mono w,u.f⟩
def BI.pick(h:BI f k b d m Q M a j l e)(r:b<m.size)(t:Q<=10^16)(s:∀g∈L,m.size<=g/\g<=k)(p:Int){K:Int->E->Prop}
 (v:∀i c,0<=i->(i<p\/i=0)->BI f k b d m (Q+1) c a j l e->(∀o,af c k o=af M k o)->Fz [b] M c->K i c):aN cp 40 [vp b 0,vi p] M λz c=>eG L M c/\∃i:Int,z=vi i/\K i c:=
 have:=h.lo;have:=h.hi;have:=h.ga.bn
 (cq h.s.r t p).mono λ_ c⟨i,q,w,x,y,n⟩=>⟨n.dv λg u=>by have:=s g u;simp;omega,i,q,v i c w x (h.to r n y) (λo=>aJ (n.same k h.hi.2.2.2 bE) o) n⟩
end
def SG(x y:Instr):Prop:=(∀k,Pf k x->Pf k y)/\y.args.length<=10^12/\y.eM.length<=10^12
def Ie{Z:List Nat}{m:E}{g P:Nat}{t F H:O}(d:∀c∈Z,c<m.size)(a:Rd g t P m)(hP:P+10<=10^16)(R:ap (bG [g] m) F x.args)(hj:ap m H x.eM)(b:x.args.length<=10^12/\x.eM.length<=10^12)(hx:∃I,Pf I x):
 aN cp 166 [vp g 0,VG x F H] m (IX Z g t m (P+3) (SG x)):=by
 apply An (g,0)
 simp(config:={maxSteps:=1000000}) -zeta only[aC,aB]
 have p:=a.lt
 intro r u
 let⟨W,hl⟩:=dD (a:=r) (c:=u) rfl rfl
 have i:r.size=m.size+1:=by simp[r]
 have s2:u.size=m.size+2:=by simp[u,i]
 clear_value u
 clear_value r
 refine(wh [] ((R.le (bA _ _)).ext W) (hj.ext W) b).mono λ_ w⟨s,K,e,ga,gj,T,X⟩=>⟨X.dv hl,_,_,_,_,_,_,e,?_⟩
 intro m4 U
 obtain⟨N,-,z5⟩:=kH (M:=w) (d:=m4) (c:=U) rfl rfl rfl
 clear_value U
 have ya:=ga.bn;have yj:=gj.bn
 have X5:=(W.trans X).trans N
 have b5:BI u w.size g t m P U s K x.args x.eM:=⟨ga.ext N,gj.ext N,T,⟨X5.fz _,a.ext X5⟩,⟨V,oX b.1,oX b.2⟩,V,V,V,V⟩
 have o:∀n∈[w.size,r.size,m.size],m.size<=n/\n<=w.size:=bE
 let⟨q,z,C,A,j,B⟩:=x
 have yB:SG ⟨q,z,C,A,j,B⟩ ⟨q,z,C,A,j,B⟩:=⟨λ_ h=>h,b⟩
 refine b5.pick p V o 5 λae f _ _ b6 _ f6=>?_
 have y:∀{Y:E}{aa:Nat},BI u w.size g t m aa Y s K j B->aa<=P+3->IX Z g t m (P+3) (SG ⟨q,z,C,A,j,B⟩) (.agg #[vi q,vi z,vi C,vi A,O.v s,O.v K]) (ah Y r.size 0 [.i q,.i z,.i C,.i A,.s s,.s K]):=λh hQ=>h.iI a d i hQ yB _
 have ab:q=16\/q=17->(0:Int)<=0/\(0:Int)<(F.len:Int)/\∃v:Int,af f F.D (F.off+Int.toNat 0*1)=some (vi v)/\IX Z g t m (P+3) (SG ⟨q,z,C,A,j,B⟩) (.agg #[vi 15,vi 0,vi 0,vi 0,O.v (.mk f.size 0 1 1),O.v .nil]) (ah (f.push (.cells (bt [.i v]) aA)) r.size 0 [.i 15,.i 0,.i 0,.i 0,.s (.mk f.size 0 1 1),.s .nil]):=λe=>by
  have hn:0<j.length:=let⟨_,h⟩:=hx;h.arg bE;have S:=R.len;let⟨D,hy⟩:=cG j 0 hn;have z6:=b6.hi;have r7:=(b6.s.ext (J.push f (.cells (bt [.i D]) aA))).put a (k:=r.size) V 0 [.i 15,.i 0,.i 0,.i 0,.s (.mk f.size 0 1 1),.s .nil];have Q:GI [] f (f.push (.cells (bt [.i D]) aA)) (.mk f.size 0 1 1) [D]:=Gr.lit (f:=[[.i D]]) tW.mono (ad _) aL rfl rfl ⟨rfl,aL,λH cs x G L=>by
   cases H with
   |zero=>simp at G L;rw[<-G,<-L];rfl
   |succ H=>simp at G⟩
  exact⟨dg 0,by simp at S;omega,D,(eQ.1 ((R.le (b6.s.f.df aL)).aF hy)).2,⟨15,0,0,0,[D],[]⟩,_,.nil,rfl,GI.done (GI.any (GI.jx Q (bd _ _ _ _ bE))) (λc L=>oh (d c L)) aL,⟨rfl,dN _,aL,aL⟩,⟨λ_ _=>⟨sx,sx⟩,aL,aL⟩,r7.r.mono V,r7.f⟩
 refine⟨λ_=>⟨λe=>?_,λ_=>⟨λe=>(b6.put a _ _).iI a d i V ⟨λ_ _=>⟨sx,sx⟩,b⟩ _,λ_=>⟨λe=>?_,λ_=>y b6 V⟩⟩⟩,λ_=>⟨λ_=>⟨λG=>?_,λ_=>y b6 V⟩,λ_=>⟨λ_=>?_,λ_=>⟨λ_=>⟨λe=>ab (Or.inl (by simpa using e)),λ_=>⟨λe=>ab (Or.inr (by simpa using e)),λ_=>⟨λe=>b6.pick p V o 4 λv L _ _ c _ _=>(c.put a _ _).iI a d i V ⟨λ_ h=>⟨h.MG,h.arg⟩,b⟩ _,λ_=>y b6 V⟩⟩⟩,λ_=>⟨λ_=>⟨λe=>?_,λ_=>⟨λe=>?_,λ_=>y b6 V⟩⟩,λ_=>y b6 V⟩⟩⟩⟩⟩
 .simp only[aG]at e
  exact(b6.put a _ _).iI a d i V ⟨λ_ _=>⟨sx,sx⟩,b⟩ _
 .simp only[aG]at e
  exact(b6.put a _ _).iI a d i V ⟨λ_ h=>⟨sx,λ_=>h.arg (by simp[e])⟩,b⟩ _
 .simp only[kG,ar]at G
  have S:=b6.ga.len bh
  refine b6.pick p V o (s.len:Int) λI m7 k0 k1 b7 Q f7=>⟨Q 4,b7.pick p V o 4 λv L _ _ c g8 f8=>⟨g8 4,k0,V,?_⟩⟩
  let⟨ac,g9,f9,q9⟩:=GI.set c.ga (((((X.trans N).fz [g]).trans f6).trans f7).trans f8) (k:=I.toNat) (by show I.toNat<j.length;have:s.len=j.length:=S;omega) v
  have yb:=c.hi
  refine⟨ac,λn b=>q9 n (by have:=o n b;simp at b;omega),BI.iI (k:=w.size) (l:=j.set I.toNat v) (e:=B) ⟨g9,GI.jx c.gj (q9 _ (kE T)),T,⟨c.s.f.ah (Or.inr V) _ _,a.ah c.s.r c.s.f V _ _⟩,⟨V,by simpa using oX b.1,oX b.2⟩,V,V,V,by rw[aw];omega⟩ a d i V ⟨λ_ h=>⟨h.MG,λe=>by simpa using h.arg e⟩,by simpa using b⟩ _⟩
 .refine(xC q f).any.mono λ_ m7⟨n,e,I⟩=>⟨I.dv λn b=>O8 (o n b) b6.hi,n,e,λ_=>?_,λ_=>y (b6.to p (I.fz _) (b6.s.r.ext I)) V⟩
  exact(b6.to p (I.fz _) (b6.s.r.ext I)).pick p V o 4 λv L _ _ c _ _=>(c.put a _ _).iI a d i V ⟨λ_ h=>⟨h.MG,h.arg⟩,b⟩ _
 .simp only[aG]at e
  exact b6.pick p V o 9 λv L _ _ c _ _=>(c.put a _ _).iI a d i V ⟨λ_ h=>⟨λh=>by simp[e]at h,h.arg⟩,b⟩ _
 .simp only[aG]at e
  exact b6.pick p V o 3 λv L _ _ c _ _=>(c.put a _ _).iI a d i V ⟨λ_ h=>⟨λh=>by simp[e]at h,h.arg⟩,b⟩ _
end
section
def RA(M:E)(c:List Ce)(x:dy×O):Prop:=∃a b,c=[.s a,.s b,.i x.1.aS,.i x.1.ak,.s x.2]/\ap M a x.1.params/\ap M b x.1.cR
def RA.mono:oA 5 RA:=⟨λh⟨a,b,e,c,d⟩=>⟨a,b,e,c.le h,d.le h⟩,λ⟨_,_,e,_⟩=>by rw[e];rfl⟩
def hd(x:dy×O):dy×O:=({x.1 with dq:=[]},x.2)
abbrev Ks(l:List (dy×O)):List Nat:=l.map λx=>x.2.D
structure vx(S:List Nat)(m0 M:E)(dd q:O)(ds:List bz)(l:List (dy×O)):Prop where
 d:cx (bG (q.D::(Ks l++S)) M) dd ds
 g:Gr (Ks l++S) m0 M jA 5 RA q (l.map hd)
 c:∀x∈l,Gr (q.D::(Ks l++S)) m0 M dX 6 dS x.2 x.1.dq
 nd:(Ks l).Nodup
 lt:∀b∈S,b<M.size
 nq:q.D∉S
 nc:∀x∈l,x.2.D∉S
section
variable{S S' Y:List Nat}{b f M e:E}{c q:O}{d:List bz}{l:List (dy×O)}
def vx.kq(h:vx S b M c q d l):∀x∈l,x.2.D≠q.D:=λx a=>(h.c x a).Ld h.g bh
def vx.re(i:vx S b M c q d l)(o:Fz Y M e)(k:∀a∈Y,a∈S)(n:∀a∈S',(a∈S\/M.size<=a)/\a<e.size)(p:f.size<=b.size):vx S' f e c q d l:=by
 have t:=i.g.bn;have r:∀{a:Nat},a∈Ks l++S'->a∈Ks l++S\/M.size<=a:=λg=>by
  rcases List.mem_append.1 g with h|h
  .exact Or.inl (bI _ h)
  .exact(n _ h).1.imp (eE _) id
 have s:∀{a:Nat},a∈q.D::(Ks l++S')->a∈q.D::(Ks l++S)\/M.size<=a:=λg=>by
  rcases List.mem_cons.1 g with h|h
  .exact Or.inl (by simp[h])
  .exact(r h).imp (ai _) id
 refine⟨i.d.le (o.bG (λa g=>by simp[k a g]) λa g=>s g),Gr.cy RA.mono (i.g.re RA.mono o (λa g=>by simp[k a g]) (λj=>i.nq (k _ j)) λa g=>r g) (λa g=>Or.inl g) p,λx m=>Gr.cy dS.mono ((i.c x m).re dS.mono o (λa g=>by simp[k a g]) (λj=>i.nc x m (k _ j)) λa g=>s g) (λa g=>Or.inl g) p,i.nd,λa g=>(n a g).2,λj=>?_,λx m j=>?_⟩
 .rcases(n _ j).1 with h|h
  .exact i.nq h
  .omega
 .have:=(i.c x m).bn;rcases(n _ j).1 with h|h
  .exact i.nc x m h
  .omega
def vx.dq(h:vx S b M c q d l){y:dy×O}(a:y∈l)(j:y.1.dq.length<=10^12):fg (bG (q.D::S) M) y.2 y.1.dq:=
 have g:Gr (q.D::S) b M dX 6 dS y.2 y.1.dq:=(h.c y a).re dS.mono (Fz.az [] M) aL aL λi f=>Or.inl (by rcases List.mem_cons.1 f with e|e<;>simp[e])
 g.nH dS.mono (by simp;exact⟨h.kq y a,h.nc y a⟩) bh V
def vx.gr(h:vx S b M c q d l)(u:∀x∈l,x.1.dq.length<=10^12):Gr S b M jA 5 lp q (l.map (·.1)):=by
 let⟨v,n,z,r⟩:=h.g;refine⟨v,n,z,by simpa using r.len,r.size,λk m x t a=>?_⟩;rw[cJ]at a;cases f:l[k]? with
 |none=>simp[f]at a
 |some y=>
  simp[f]at a;subst a;let⟨j,g,e,o,p⟩:=r.dz k m (hd y) t (by simp[f]);have i:=aq f;have w:Le (bG (q.D::(Ks l++S)) M) (bG (q.D::S) M):=iS M λg s=>by rcases List.mem_cons.1 s with e|e<;>simp[e]
  exact⟨j,g,y.2,e,o.le w,p.le w,h.dq i (u y i)⟩
def vx.yD{L:List Nat}{j G:E}{t e ks:O}{p:dy}{h tb i:Nat}{bc:List Ce}{P:E->Prop}(n:vx S b M c q d l)(x:J M j)(Q:Gr (q.D::(Ks l++S)) G j dX 6 dS ks p.dq)(h8:M.size<=G.size)
 (ha:ap (bG (ks.D::q.D::(Ks l++S)) j) t p.params)(g:ap (bG (ks.D::q.D::(Ks l++S)) j) e p.cR)(Z:cE M h tb bc)(hi:i<bc.length)(ht:tb≠jA)(v:b.size<=h/\h∈S)(R:∀e∈L,e<j.size/\e≠h/\e≠q.D)(hl:l.length<=1000)(T:J b M)
 (hk:∀r k,vx S b k c r d (l++[(p,ks)])->cE k h tb (jb bc i [.s r])->J b k->P k):
 af (j.push (.cells (bt [.s t,.s e,.i p.aS,.i p.ak,.s ks]) jA)) h i=af j h i/\
 jL (j.push (.cells (bt [.s t,.s e,.i p.aS,.i p.ak,.s ks]) jA)) jA [.s .nil,.s .nil,.i 0,.i 0,.s .nil] 88 q (.mk j.size 0 1 1) λr k=>eG L (j.push (.cells (bt [.s t,.s e,.i p.aS,.i p.ak,.s ks]) jA)) k/\fK k h i 1/\(eG L k (ah k h i [.s r])/\P (ah k h i [.s r])):=by
 have z:=Z.ext x
 have U:=J.push j (.cells (bt [.s t,.s e,.i p.aS,.i p.ak,.s ks]) jA)
 have yk:=Q.bn
 have yq:=n.g.bn
 have zx:=x.size
 have hq:q.D≠h:=λf=>n.nq (by rw[f];exact v.2)
 have kx:ks.D∉S:=λo=>by have:=n.lt _ o;omega
 have ck:∀y∈l,y.2.D<M.size:=λy s=>(n.c y s).bn.2
 have I:∀e∈Ks (l++[(p,ks)])++S,e∈Ks l++S\/e=ks.D:=λe g=>by
  simp only[Ks,ft,cK,fD,List.mem_append,lG]at g⊢;rcases g with(f|f)|f<;>simp[f]
 have g1:Gr (Ks (l++[(p,ks)])++S) b j jA 5 RA q (l.map hd):=n.g.re RA.mono (x.fz []) aL aL λe g=>(I e g).imp id λf=>V
 have Y:Le (bG (ks.D::q.D::(Ks l++S)) j) (bG (q.D::(Ks (l++[(p,ks)])++S)) j):=iS j λe g=>by
  rcases List.mem_cons.1 g with f|f
  .simp[f]
  .rcases I e f with f|f
   .exact ai _ (ai _ f)
   .simp[f]
 refine⟨aJ (U.same h z.lt) i,Gr.kK (g:=[.s .nil,.s .nil,.i 0,.i 0,.s .nil]) (k:=hd (p,ks)) RA.mono bh g1 ((T.trans x).fz []) ⟨t,e,rfl,ha.le Y,g.le Y⟩ bE λr k ab aa B F=>?_⟩
 have K:=z.congr (F h z.lt (kE hq))
 have hr:r.D≠h:=by have:=z.lt;omega
 have A:∀e,e≠h->(ah k h i [.s r])[e]? =k[e]? :=λe g=>bd _ _ _ _ g
 have N:Fz [q.D,h] j (ah k h i [.s r]):=⟨by rw[aw];exact B.1,λe g w=>(A e (by simp at w;omega)).trans (F e g (by simp at w;omega))⟩
 have C:Fz [q.D,h] M (ah k h i [.s r]):=(x.fz _).trans N
 have F0:J b (ah k h i [.s r]):=(aa.ah (Or.inr v.1) _ _).ext
 have ae:=B.1
 have W:∀e∈r.D::(Ks (l++[(p,ks)])++S),(e∈q.D::(Ks l++S)\/e=ks.D)\/j.size<=e:=λe g=>by
  rcases List.mem_cons.1 g with f|f
  .rcases B.2 with u|u
   .exact Or.inl (Or.inl (by simp[f,u]))
   .exact Or.inr V
  .exact Or.inl ((I e f).imp (ai _) id)
 have X:∀e∈r.D::(Ks (l++[(p,ks)])++S),e∈q.D::(Ks l++S)\/M.size<=e:=λe g=>(W e g).elim (λf=>f.imp id λf=>V) λf=>Or.inr V
 have H:∀e∈[q.D,h],e∈q.D::(Ks l++S):=λe g=>by simp at g;rcases g with f|f<;>simp[f,v.2]
 refine⟨λe g=>?_,K.fK V,λe g=>A e (R e g).2.1,hk r _ ⟨n.d.le (C.bG H X),?_,λy s=>?_,?_,λe g=>?_,λo=>?_,λy s o=>?_⟩ (cE.ah (m:=k) K) F0⟩
 .have D:=R e g
  rw[F e V D.2.2,U.same e V]
 .rw[ft]
  let⟨g0,D,g1,g2⟩:=ab
  exact⟨g0,D,g1.congr (A _ hr),g2.mono λcs y=>RA.mono.le (pD λe g w=>⟨w,A e λf=>w (by rw[f];simp[v.2])⟩)⟩
 .rcases List.mem_append.1 s with f|f
  .exact(n.c y f).re dS.mono C H (by simp;exact⟨n.kq y f,λu=>n.nc y f (u▸v.2)⟩) X
  .simp at f
   subst f
   let⟨ac,D,ad,rr⟩:=Q
   have w:Gr (ks.D::q.D::(Ks l++S)) G j dX 6 dS ks p.dq:=⟨ac,D,ad,rr.mono λcs y=>dS.mono.le (iS j λe g=>by
    rcases List.mem_cons.1 g with f|f
    .simp[f]
    .exact f)⟩
   exact Gr.cy dS.mono (w.re dS.mono N (λe g=>ai _ (H e g)) (by simp;exact⟨V,λu=>kx (u▸v.2)⟩) λe g=>(W e g).imp (λf=>f.elim (ai _) λf=>by simp[f]) id) (λe g=>Or.inl g) (oh T.size)
 .simp only[Ks,ft,cK,fD]
  refine List.nodup_append.2 ⟨n.nd,aL,λe g u o=>?_⟩
  simp at o g
  obtain⟨w,D,s,rfl⟩:=g
  have:=ck _ s
  simp at this;omega
 .have:=n.lt e g
  have:=C.size
  omega
 .rcases B.2 with f|f
  .exact n.nq (f▸o)
  .have:=n.lt _ o;omega
 .rcases List.mem_append.1 s with f|f
  .exact n.nc y f o
  .simp at f
   subst f
   exact kx o
end
end
def wg{h:List Nat}{m:E}(R:∀c∈h,c<m.size){ae ak:O}{H:List bz}{C:List dy}(hd:cx m ae H)(ht:dT H)(hp:iH m ak C)(ai:DK C):
 aN cp 165 [.agg #[O.v ae,O.v ak]] m λN Y=>∃t q l,N=.agg #[O.v t,O.v q]/\vx h m Y t q H l/\l.map (·.1)=C/\J m Y:=by
 apply Aw
 simp -zeta only[aC,aB]
 intro b a2
 let⟨x2,hl⟩:=dD (a:=b) (c:=a2) rfl rfl
 have s1:b.size=m.size+1:=by simp[b]
 clear_value a2
 have aH:=hp.len;have aG:=ai.oD
 refine(fV (b:=b.size::h) (bO R x2.size (hl _ aL)) (hd.le x2.le) ht).mono λ_ z⟨t,e,av,x3⟩=>?_
 subst e
 refine⟨x3.dv hl,_,rfl,?_⟩
 intro j az ac
 have Z:=x2.trans x3
 let⟨x5,B0,g0,s3,s5⟩:=kX (b:=j.size::b.size::h) RA.mono (d:=z) (a:=j) (c:=az) (h:=ac) rfl rfl rfl
 clear_value ac
 have ah:∀c∈[b.size,m.size],c<z.size:=λc d=>x3.lt (hl c d)
 have i1:=ah b.size aL
 have z2:=Z.size
 have A0:vx (j.size::b.size::h) z ac t (.mk z.size 0 0 0) H []:=⟨av.le (x5.bG λf s=>by
  simp only[Ks,fD,eF,aV]at s;rcases s with e|e|e
  .exact Or.inr (by rw[e];exact ad _)
  .exact Or.inr V
  .exact Or.inl (List.mem_cons.2 e)),g0,aL,aL,λf s=>by
   simp only[aV]at s;rcases s with e|e|e
   .omega
   .omega
   .have:=R f e;omega,λd=>by
   simp only[aV]at d;rcases d with e|e|e
   .simp at e;omega
   .simp at e;omega
   .have:=R _ e;simp at this;omega,aL⟩
 refine dU (n:=C.length) V (λX g=>J z g/\∃k l,vx (j.size::b.size::h) z g t k H l/\cE g j.size vn [.s t,.s k]/\l.map (·.1)=C.take X) ⟨x5,_,[],A0,B0,rfl⟩ ?_
 rintro X g aE μ hk ⟨xM,o,l,A,B,T⟩ aD
 have zM:=xM.size
 refine dit (λx=>?_) λx=>?_
 .let⟨q,hq⟩:=cG C X
  have W:=ai.dz q (aq hq)
  have q3:=W.params;have q4:=W.cR;have qf:=W.oD
  have v6:=Z.trans xM
  let⟨aF,f,c,c1,c2,c3,e0,e1,e2,e3,e4⟩:=hp.aF hq
  have G:∀{N:Value}{f y:Nat},af m f y=some N->af g f y=some N:=λx=>v6.af x
  refine⟨V,V,_,G e0,_,G e1,_,G e2,_,G e3,_,G e4,?_⟩
  intro m7 k
  obtain⟨Q,-,s8⟩:=kH (M:=g) (d:=m7) (c:=k) rfl rfl rfl
  clear_value k
  have U:∀c∈[g.size,b.size,m.size],c<k.size:=λc d=>by
   rcases List.mem_cons.1 d with e|e
   .omega
   .have:=ah c e;omega
  have w8:=v6.trans Q
  have hT:∀{w:E},g.size<=w.size->∀c∈o.D::(Ks l++(j.size::b.size::h)),c<w.size:=λx c d=>by
   rcases List.mem_cons.1 d with e|e
   .have:=A.g.bn;omega
   .rcases List.mem_append.1 e with e|e
    .obtain⟨u,r,rfl⟩:=List.mem_map.1 e;have:=(A.c u r).bn;omega
    .have:=A.lt c e;omega
  intro m9
  have x9:J k m9:=J.push _ _
  have ar:Gr (o.D::(Ks l++(j.size::b.size::h))) k m9 dX 6 dS (.mk k.size 0 0 0) []:=Gr.new _ (ad _) _ _ _
  clear_value m9
  have au:=c3.len
  refine eA (n:=q.dq.length) (au▸c3.gT) (λab ks u=>J k u/\Gr (o.D::(Ks l++(j.size::b.size::h))) k u dX 6 dS ks (q.dq.take ab)) ⟨x9,ar⟩ ?_
  rintro ab ks u I2 μ2 hj ⟨r,I⟩ aA
  have X2:=w8.trans r
  have z2:=r.size
  have ay:∀c∈[g.size,b.size,m.size],c<u.size:=λc d=>r.lt (U c d)
  refine dit (λh2=>?_) λh2=>?_
  .let⟨K,D⟩:=cG q.dq ab
   let⟨pa,pj,ha,ax,P,ag,aj,am,an,ao⟩:=(fg.ext X2 c3).aF D
   have yk:=I.bn
   refine⟨V,V,_,P,_,ag,_,aj,_,am,_,an,_,ao,?_⟩
   refine(wi (S:=ks.D::o.D::(Ks l++(j.size::b.size::h))) (λc d=>?_) ha ax (W.jf K (aq D))).mono λN aI⟨a',j',e,aa,aw,v⟩=>⟨λc d=>v.same c (ay c d),_,_,_,_,_,_,e,?_⟩
   .rcases List.mem_cons.1 d with e|e
    .omega
    .exact hT V c e
   intro aK
   refine Gr.kK (g:=[.i 0,.i 0,.i 0,.i 0,.s .nil,.s .nil]) (k:=K) dS.mono bh (I.ext dS.mono v) ((r.trans v).fz []) ⟨a',j',rfl,aa,aw⟩ bE λal M3 g3 F z3 aM=>⟨J.oH ((r.trans v).aK _) F.ext U,aA V _ _ ⟨F.ext,?_⟩⟩
   rw[aU D];exact g3
  .rw[bY V]at I
   have v:∀{M1 u:E},J k M1->J M1 u->∀f,f<k.size->∀y,af u f y=af M1 f y:=λx h' f s y=>aJ (h'.same f (x.lt s)) y
   have K:g.size<k.size:=V
   have i2:j.size<k.size:=aO B.lt Q.size
   refine⟨o,(B.ext (Q.trans r)).cg 1,?_⟩
   refine(bN [] (c1.ext X2) V).aH r U λa' _ ao ga e F D=>⟨_,rfl,v r F _ K _,v r F _ K _,v r F _ K _,v r F _ i2 _,?_⟩
   subst e
   refine(bN [] (c2.ext (w8.trans D)) V).aH D U λb' _ aj gb e P am=>⟨_,rfl,v D P _ K _,v D P _ K _,v D P _ i2 _,?_⟩
   subst e
   intro aw
   have ax:=D.size
   have aI:=am.size
   have yk:=I.bn
   have ag:∀{w:E},u.size<=w.size->∀c∈ks.D::o.D::(Ks l++(j.size::b.size::h)),c<w.size:=λx c d=>by
    rcases List.mem_cons.1 d with e|e
    .omega
    .exact hT V c e
   have aa:ap (bG (ks.D::o.D::(Ks l++(j.size::b.size::h))) aj) a' q.params:=(GI.done (GI.any ga) (ag (ad _)) V).le (P.df _)
   have an:ap (bG (ks.D::o.D::(Ks l++(j.size::b.size::h))) aj) b' q.cR:=GI.done (GI.any gb) (ag F.size) V
   have ll:l.length=X:=by have:=nU List.length T;simp at this;omega
   have yq:=A.g.bn
   exact A.yD (i:=1) (bc:=[.s t,.s o]) (tb:=vn) (p:=⟨q.params,q.cR,q.aS,q.ak,q.dq⟩) (L:=[g.size,b.size,m.size]) (Q.trans am) (I.ext dS.mono (F.trans P)) V aa an B aL bh ⟨V,aL⟩ (λc d=>by
    have hn:=A.nq;simp only[aV,vv]at d hn;have:=Q.size;have:=B.lt;rcases d with e|e|e|e
    .omega
    .omega
    .omega
    .simp at e) V xM λal Y A' B' x'=>aD V Y ⟨x',al,_,A',B',by rw[aU hq,ft,T];rfl⟩
 .refine⟨t,B.cg 0,o,B.cg 1,?_⟩
  intro w
  rw[bY V]at T
  have k:Fz [b.size] g w:=(Fz.az _ g).ah (Or.inl aL) _ _
  exact⟨t,o,l,rfl,A.re k aL (λf s=>⟨Or.inl (by simp[s]),O8 (R f s) k.size⟩) Z.size,T,(Z.trans xM).ah V _ _⟩
section
variable{cs:List Ce}{p:dy}{y:Instr}
def PX{α:Type}{l:List α}{f:Nat}{x:α}(h:l[f]? =some x):l.set f x=l:=by
 apply gV;intro i;rw[jE];split
 .next e=>
  subst e;rw[h];split
  .rfl
  .next hi=>exact absurd (av h) hi
 .rfl
section
variable{S L B X:List Nat}{c m M:E}{a q d:O}{b:List bz}{l:List (dy×O)}{e Q f k:Nat}{x:dy×O}
def BS.Z5(h:BS B e d m Q M)(o:Obj):BS (M.size::B) e d m Q (M.push o):=⟨h.s.ext (J.push M o),λc b=>by
 have z:=h.s.f.size;rw[Array.size_push];rcases List.mem_cons.1 b with a|a
 .omega
 .have:=h.gG c a;omega⟩
def vx.oD(h:DK (l.map (·.1)))(a:x∈l):SU x.1:=h.dz x.1 (List.mem_map.2 ⟨x,a,rfl⟩)
def vx.len(h:vx S c M a q b l):q.len=l.length:=by have:=h.g.len bh;simpa using this
def vx.iB(n:vx S c M a q b l)(z:l.length<=1000)(k:l[f]? =some x):∃e d:O,af M q.D (q.off+f*5)=some (O.v e)/\af M q.D (q.off+f*5+1)=some (O.v d)/\af M q.D (q.off+f*5+2)=some (vi x.1.aS)/\af M q.D (q.off+f*5+3)=some (vi x.1.ak)/\af M q.D (q.off+f*5+4)=some (O.v x.2)/\ap (bG (q.D::S) M) e x.1.params/\ap (bG (q.D::S) M) d x.1.cR:=by
 let⟨A,m,v,r⟩:=n.g;have y:=av k;have t:f<m.length:=by have:=r.len;simp at this;omega
 let⟨cs,j⟩:=dB t;let⟨e,d,h,o,p⟩:=r.dz f cs (hd x) j (by simp[k]);have iB:=v.iB;have w:Le (bG (q.D::(Ks l++S)) M) (bG (q.D::S) M):=iS M λd s=>by rcases List.mem_cons.1 s with h|h<;>simp[h]
 have aF:∀i g,cs[i]? =some g->af M q.D (q.off+f*5+i)=some g.v:=λi g u=>by
  have:=iB (f*5+i) g (fW r.size j u);rwa[<-dj]at this
 subst h;exact⟨e,d,aF 0 _ rfl,aF 1 _ rfl,aF 2 _ rfl,aF 3 _ rfl,aF 4 _ rfl,o.le w,p.le w⟩
def vx.it(h:vx S c M a q b l)(g:l.length<=1000)(e:∀x∈l,x.1.dq.length<=10^12):IT (bG S M) a q (b,l.map (·.1)):=
 ⟨h.d.le (iS M λf d=>by simp[d]),(h.gr e).nH lp.mono h.nq bh (by simp only[dZ];omega)⟩
def vx.Z4(h:vx S c M a q b l)(i:Fz X c M)(o:l.length<=1000)(f:∀x∈l,x.1.dq.length<=10^12)(j:k<l.length)(m:lp (bG (q.D::S) M) cs p):
 fK M q.D (q.off+k*5) 5/\∃n,IT (bG S (ah M q.D (q.off+k*5) cs)) a q (b,n):=by
 obtain⟨w,g,-,-⟩:=(h.gr f).set lp.mono i (k:=k) (by simpa using j) m
 have F:Fz [q.D] M (ah M q.D (q.off+k*5) cs):=(Fz.az _ M).ah (Or.inl aL) _ _
 exact⟨w,_,h.d.le (F.bG (λe d=>by simp at d;simp[d]) λe d=>Or.inl (by simp[d])),g.nH lp.mono h.nq bh bE⟩
def vx.wr(h:vx S c M a q b l)(v:Fz X c M)(j:l[f]? =some x)(A:k<x.1.dq.length)(B:dS (bG (q.D::(Ks l++S)) M) cs y):
 fK M x.2.D (x.2.off+k*6) 6/\vx S c (ah M x.2.D (x.2.off+k*6) cs) a q b (l.set f ({x.1 with dq:=x.1.dq.set k y},x.2)):=by
 have n:=aq j
 have t:x.2.D∈Ks l:=List.mem_map.2 ⟨x,n,rfl⟩
 have C:∀d∈x.2.D::q.D::(Ks l++S),d∈q.D::(Ks l++S):=λd g=>by
  rcases List.mem_cons.1 g with e|e
  .rw[e];exact ai _ (bI _ t)
  .exact e
 obtain⟨D,u,-,E⟩:=(h.c x n).set dS.mono v A (dS.le (iS M C) B)
 have F:Fz [x.2.D] M (ah M x.2.D (x.2.off+k*6) cs):=(Fz.az _ M).ah (Or.inl aL) _ _
 have p:∀d∈[x.2.D],d∈Ks l++S:=λd g=>by simp at g;rw[g];exact bI _ t
 have o:Ks (l.set f ({x.1 with dq:=x.1.dq.set k y},x.2))=Ks l:=by
  simp only[Ks,tU];exact PX (by simp[j])
 have w:(l.set f ({x.1 with dq:=x.1.dq.set k y},x.2)).map hd=l.map hd:=by
  rw[tU];exact PX (by simp[j,hd])
 have r:∀z∈l.set f ({x.1 with dq:=x.1.dq.set k y},x.2),z=({x.1 with dq:=x.1.dq.set k y},x.2)\/z∈l/\z.2.D≠x.2.D:=λz m=>by
  let⟨G,i⟩:=List.mem_iff_getElem?.1 m;rw[jE]at i;split at i
  .split at i
   .exact Or.inl (by simpa using i.symm)
   .simp at i
  .next hne=>
   refine Or.inr ⟨aq i,λe=>hne ?_⟩;have s:f<(Ks l).length:=by simpa[Ks]using av j
   exact(List.getElem?_inj s h.nd).1 (by simp[Ks,j,i,e])
 refine⟨D,?_,?_,λz m=>?_,by rw[o];exact h.nd,λd g=>by rw[aw];exact h.lt d g,h.nq,λz m=>?_⟩
 .rw[o];exact h.d.le (F.df λd g=>ai _ (p d g))
 .rw[o,w];exact h.g.Nw RA.mono F p (by simp;exactλe=>h.kq x n e.symm)
 .rw[o]
  rcases r z m with e|⟨e,s⟩
  .rw[e];exact u
  .exact(h.c z e).Nw dS.mono F (λd g=>ai _ (p d g)) (by simpa using s)
 .rcases r z m with e|⟨e,s⟩
  .rw[e];exact h.nc x n
  .exact h.nc z e
end
def Ux{c:List dy}(h:DK c){f k:Nat}{x:Instr}(g:c[f]? =some p)(i:p.dq[k]? =some x)(d:SG x y):DK (c.set f {p with dq:=p.dq.set k y}):=by
 have b:=h.dz p (aq g);refine⟨by simpa using h.iW,by simpa using h.oD,λq j=>?_⟩;rcases cB j with e|e
 .exact h.dz q e
 .subst e;refine⟨b.params,b.cR,by simpa using b.iW,by simpa using b.oD,λl z a=>?_,λz a=>?_⟩
  .simp only[jE]at a;split at a
   .next e=>
    subst e;split at a
    .simp at a;subst a;exact d.1 _ (b.dq _ _ i)
    .simp at a
   .exact b.dq _ _ a
  .rcases cB a with e|e
   .exact b.jf z e
   .rw[e];exact d.2
section
variable{a:List Nat}{m:E}{b P:Nat}{c:O}
def If(hS:∀k∈a,k<m.size)(ac:b∈a)(I:Rd b c P m)(hP:P+100<=10^16){ab p:O}{s:List bz×List dy}(ag:IT (bG a m) ab p s)(R:UI s):aN cp 91 [vp b 0,.agg #[O.v ab,O.v p]] m (PP IT UI a b c m (P+11)):=by
 apply Ao (b,0);simp -zeta only[aC,aB];have z:=I.lt;intro i Z;have b2:BS [i.size,m.size] b c m P Z:=BS.Z5 (BS.lK (S:=a) I _).1 _;have T:J m Z:=(J.push m _).trans (J.push i _);clear_value Z;refine(wg (b2.hS hS) ((ag.1.le (bA _ _)).ext T) (sX R.2) (eT.mono (iH.le (bA _ _) ag.2) T λ_ _=>lp.le T.le) R.1).mono λ_ j⟨w,q,l,e,A,hl,x3⟩=>⟨(b2.lw z λ_ h=>h).dv (x3.fz _),w,q,e,?_⟩;have b3:=b2.to (x3.fz _) (b2.s.r.ext x3);intro m4 K;obtain⟨b5,-,-⟩:=b3.box (S:=a) (m1:=m4) (m2:=K) rfl rfl rfl;obtain⟨x5,-,-⟩:=kH (M:=j) (d:=m4) (c:=K) rfl rfl rfl;clear_value K;have A5:vx ([j.size,i.size,m.size]++a) m K w q s.1 l:=A.re (x5.fz []) aL (λd f=>⟨by
  rcases List.mem_cons.1 f with e|e
  .exact Or.inr V
  .exact Or.inl e,b5.hS hS d f⟩) T.size
 refine b5.pick z V (λ_ h=>h) 2 λam m6 i0 i1 b6 f6=>?_;have hB:∀d∈[b],d∈[j.size,i.size,m.size]++a:=by simp[ac]
 have Q:∀{u M':E}{l:List (dy×O)},vx ([j.size,i.size,m.size]++a) m u w q s.1 l->Fz [b] u M'->vx ([j.size,i.size,m.size]++a) m M' w q s.1 l:=λh G=>h.re G hB (λd f=>⟨Or.inl f,aO (h.lt d f) G.size⟩) (ad _);refine⟨λN u=>∃n:Nat,N=n/\n<=2/\BS [j.size,i.size,m.size] b c m (P+11 -5*n) u/\∃l,vx ([j.size,i.size,m.size]++a) m u w q s.1 l/\DK (l.map (·.1)),λN _=>N.toNat,⟨(am+1).toNat,by rw[aQ V V];omega,V,⟨⟨b6.s.f,b6.s.r.mono V⟩,b6.gG⟩,l,Q A5 f6,hl▸R.1⟩,?_⟩;rintro N u ⟨n,rfl,hk,d,l,A,r⟩;refine⟨λh=>?_,λ_=>d.iI IT.mn I aL (x:=(s.1,l.map (·.1))) (A.it (by have:=r.oD;simp at this;omega) λy g=>(vx.oD r g).oD) ⟨r,R.2⟩ V _⟩;simp only[kG,ar]at h;have az:=A.len;have l4:l.length<=4:=by simpa using r.oD
 have l0:0<l.length:=by simpa using r.iW
 refine d.pick z V (λ_ h=>h) (q.len:Int) λG m7 X f1 b7 f7=>?_;have U:=Q A f7;let⟨y,g⟩:=cG l G.toNat;obtain⟨-,-,-,-,-,-,g7,-,-⟩:=U.iB V g;have C:=vx.oD r (aq g);have ax:=(U.dq (aq g) C.oD).len;have au:=C.iW;refine⟨X,V,y.2,g7,b7.pick z V (λ_ h=>h) (y.2.len:Int) λan L j0 j1 W f8=>?_⟩;have t:=Q U f8;obtain⟨-,-,-,-,-,-,g8,-,-⟩:=t.iB V g;let⟨ao,B⟩:=cG y.1.dq an.toNat;let⟨ap,jj,ha,hj,e0,e1,e2,e3,e4,e5⟩:=(t.dq (aq g) C.oD).aF B;have gG:∀{d o:Nat}{ah:Value},af (bG (q.D::([j.size,i.size,m.size]++a)) L) d o=some ah->af L d o=some ah:=λh=>(eQ.1 h).2;refine⟨X,V,y.2,g8,X,V,y.2,g8,j0,V,_,gG e0,_,gG e1,_,gG e2,_,gG e3,_,gG e4,_,gG e5,?_⟩;have hZ:∀k∈q.D::(Ks l++([j.size,i.size,m.size]++a)),k<L.size:=λk Y=>by
  rcases List.mem_cons.1 Y with e|e
  .rw[e];exact t.g.bn.2
  .rcases List.mem_append.1 e with e|e
   .obtain⟨aa,v,rfl⟩:=List.mem_map.1 e;exact(t.c aa v).bn.2
   .exact t.lt k e
 refine(Ie hZ W.s.r V (ha.le (iS _ (by simp[ac]))) (hj.le (bA _ _)) (C.jf ao (aq B)) ⟨_,C.dq _ _ B⟩).mono λ_ m9⟨D,a',j',e,ak,al,f,r9,H⟩=>⟨(W.lw z λ_ h=>h).dv H,_,_,_,_,_,_,e,?_⟩;have F:=Q t H;have v:=W.to H r9;let⟨aa,aj⟩:=F.wr v.s.f g (av B) (cs:=[.i D.op,.i D.dst,.i D.bP,.i D.bZ,.s a',.s j']) (y:=D) ⟨a',j',rfl,ak,al⟩;have yc:=(F.c y (aq g)).bn;have ae:∀o d,d∈q.D::([j.size,i.size,m.size]++a)->d≠b->af m9 d o=af L d o:=λo d f hn=>aJ (H.same d (hZ d ((List.mem_cons.1 f).elim (λe=>by simp[e]) λe=>ai _ (eE _ e))) (by simpa using hn)) o;have yq:=F.g.bn;have ay:=v.gG j.size aL;refine⟨ae _ _ aL V,ae _ _ aL V,j0,V,aa,λd f=>bd _ _ _ _ λe=>(F.nc y (aq g)) (by rw[<-e];exact bI _ f),⟨n -1,?_,V,⟨⟨v.s.f.ah (Or.inr V) _ _,(I.ah v.s.r v.s.f V _ _).mono V⟩,λk Y=>by rw[aw];exact v.gG k Y⟩,_,aj,?_⟩,?_⟩
 .rw[aQ V V];omega
 .rw[tU];exact Ux r (by simp[g]) B f
 .rw[aQ V V];show((n:Int) -1).toNat<(n:Int).toNat;omega
end
end
section
variable{m:E}{b:Nat}{a j:O}
def BI.lK{L:List Nat}{g M:E}{k Q:Nat}{i:O}{p q:List Int}(h:BI g k b i m Q M a j p q)(o:b<m.size)(u:Q<=10^16)(s:∀e∈L,m.size<=e/\e<=k)(d:List Int){f:List Ce}{n:Nat}(w:f=d.map Ce.i)(A:n=d.length)(z:0<d.length/\d.length<=100){K:Int->E->Prop}
 (y:∀t c,BI g k b i m (Q+1) c a j p q->K t c):aN cp 39 [vp b 0,O.v (.mk M.size 0 n n)] (M.push (.cells (bt f) aA)) λC c=>eG L (M.push (.cells (bt f) aA)) c/\∃t:Int,C=vi t/\K t c:=
 have:=h.hi
 have x:=J.push M (.cells (bt f) aA)
 have D:=x.size
 (zX h.s u d w A z).mono λ_ c⟨t,r,_,B,l⟩=>⟨l.dv λe v=>by have:=s e v;simp only[lG];omega,t,r,y t c ((h.to o (x.fz _) (h.s.r.ext x)).to o l B.r)⟩
def GQ{Z:List Nat}{P:Nat}{s:O}{x:Instr}(o:∀c∈Z,c<m.size)(c:Rd b s P m)(hP:P+20<=10^16)(U:ap m a x.args)(W:ap m j x.eM)(p:x.args.length<=10^12/\x.eM.length<=10^12):
 aN cp 168 [vp b 0,VG x a j] m (IX Z b s m (P+4) λ_=>True):=by
 apply yV (b,0)
 simp(config:={maxSteps:=1000000}) -zeta only[aC,aB]
 have q:=c.lt
 intro v h
 let⟨H,C⟩:=dD (a:=v) (c:=h) rfl rfl
 have i:v.size=m.size+1:=by simp[v]
 have s2:h.size=m.size+2:=by simp[h,i]
 clear_value h
 clear_value v
 refine(wh [] (U.ext H) (W.ext H) p).mono λ_ r⟨K,N,l,L,E,X,S⟩=>⟨S.dv C,_,_,_,_,_,_,l,?_⟩
 intro Y F
 obtain⟨I,-,z5⟩:=kH (M:=r) (d:=Y) (c:=F) rfl rfl rfl
 clear_value F
 have ya:=L.bn;have yj:=E.bn
 have J:=(H.trans S).trans I
 have b5:BI h r.size b s m P F K N x.args x.eM:=⟨L.ext I,E.ext I,X,⟨J.fz _,c.ext J⟩,⟨V,oX p.1,oX p.2⟩,V,V,V,V⟩
 have u:∀B∈[r.size,v.size,m.size],m.size<=B/\B<=r.size:=bE
 refine b5.pick q V u 6 λac y _ _ b6 _ f6=>?_
 have y6:=b6.hi
 have R:∀{w:O}{Q:List Int},GI [] h y w Q->Q.length<=10^12->aN cp 93 [vp b 0,O.v w] y λA f=>eG [r.size,v.size,m.size] y f/\∃e,A=O.v e/\∃g,GI [] y f e g/\g.length<=1000000000001/\Rd b s (P+4) f/\Fz [b] y f:=λn C=>
  (qH b6.s.r V (ap.le (bA _ _) (n.done aL C)) C).mono λ_ f⟨e,g,l,T,D,_,z,t⟩=>⟨t.dv λB p=>by have:=u B p;simp only[lG];omega,e,l,g,T,V,z,t⟩
 refine⟨λ_=>b6.pick q V u 26 λA G _ _ d _ _=>(d.put c _ _).iI c o i V trivial _,λ_=>⟨λ_=>b6.lK q V u [0,1,-1,99] rfl rfl aL λA G d=>(d.put c _ _).iI c o i V trivial _,λ_=>⟨λ_=>b6.lK q V u [0,1,5,-1,1000,2000] rfl rfl aL λA G d=>(d.put c _ _).iI c o i V trivial _,λ_=>⟨λ_=>b6.lK q V u [0,1,-1,99] rfl rfl aL λA G d=>(d.put c _ _).iI c o i V trivial _,λ_=>⟨λ_=>?_,λ_=>⟨λ_=>?_,λ_=>b6.iI c o i V trivial _⟩⟩⟩⟩⟩⟩
 .refine(R b6.ga p.1).mono λ_ f⟨w,e,l,g,n,D,z,t⟩=>⟨w,e,l,?_⟩
  have aa:=n.bn
  have ab:=b6.s.f.size
  have k:=b6.to q t z
  have d:BI h r.size b s m (P+4) f e N g x.eM:=⟨n.cy aL V,k.gj,oh E.bn,k.s,⟨V,D,b6.lo.2.2⟩,V,V,k.hi.2.2⟩
  exact(d.put c _ _).iI c o i V trivial _
 .refine(R b6.gj p.2).mono λ_ f⟨w,e,l,g,n,D,z,t⟩=>⟨w,e,l,?_⟩
  have aa:=n.bn
  have ab:=b6.s.f.size
  have k:=b6.to q t z
  have d:BI h r.size b s m (P+4) f K e x.args g:=⟨k.ga,n.cy aL V,V,k.s,⟨V,b6.lo.2.1,D⟩,V,V,k.hi.2.2⟩
  exact(d.put c _ _).iI c o i V trivial _
end
section
def AD(S:List Nat)(b:Nat)(c:O)(m:E)(P:Nat)(v:Value)(a:E):Prop:=∃s d,v=O.v s/\cx (bG S a) s d/\Rd b c P a/\Fz [b] m a
structure DD(S:List Nat)(rb:Nat)(bs:O)(m:E)(Q:Nat)(M:E)(s:O)(ds:List bz):Prop where
 g:Y3 S m M s ds
 r:Rs rb bs m Q M
 l:0<ds.length/\ds.length<=100
section
variable{a:List Nat}{b P Q h g:Nat}{c s:O}{m M f:E}{e:List bz}
def DD.to(d:DD a b c m Q M s e)(i:b∈a/\b<m.size)(g:Fz [b] M f)(r:Rs b c m h f):DD a b c m h f s e:=⟨d.g.eB iL.mono g (by simp;exact i),r,d.l⟩
def DD.ext(h:DD a b c m Q M s e)(x:J M f):DD a b c m Q f s e:=⟨h.g.ext iL.mono x,h.r.ext x,h.l⟩
def DD.gG(h:DD a b c m Q M s e)(g:∀d∈a,d<m.size):∀d∈s.D::a,d<M.size:=λd i=>(List.mem_cons.1 i).elim (λf=>f▸h.g.bn.2) λf=>aO (g d f) h.r.f.size
def DD.lit(h:DD a b c m Q M s e)(f:∀d∈a,d<m.size)(l:List Int){cs:List Ce}{n:Nat}(d:cs=l.map Ce.i)(g:n=l.length)(i:l.length<=100):ap (bG (s.D::a) (M.push (.cells (bt cs) aA))) (.mk M.size 0 n n) l:=ap.lit aA l (h.gG f) d g V
def DD.iI(h:DD a b c m Q M s e)(f:∀d∈a,d<m.size)(d:Q<=g):AD a b c m g (O.v s) M:=⟨s,e,rfl,h.g.done iL.mono f bh (oh h.l),h.r.r.mono d,h.r.f⟩
def DD.set(h:DD a b c m Q M s e)(o:∀f∈a,f<m.size)(i:Rd b c P m)(n:Q<=g){k:Int}(p:0<=k/\k<(e.length:Int)){cs:List Ce}{d:bz}(hd:iL (bG (s.D::a) M) cs d):
 0<=k/\k<(s.len:Int)/\fK M s.D (s.off+k.toNat*3) 3/\AD a b c m g (O.v s) (ah M s.D (s.off+k.toNat*3) cs):=by
 have q:=h.g.len bh
 have y:=h.g.bn
 let⟨w,l,f,j⟩:=h.g.set iL.mono h.r.f (k:=k.toNat) V hd
 exact⟨p.1,V,w,s,_,rfl,l.done iL.mono o bh (by have:=h.l;simp;omega),(i.MF h.r.r f (j b (oh i.lt))).mono n,f⟩
def DD.gY(h:DD a b c m Q M s e)(i:∀d∈a,d<m.size)(k:Rd b c P m)(q:Q<=g){d:List Ce}{n:Nat}(l:List (bz×List Ce))(hd:∀x∈l,iL (bG (s.D::a) M) x.2 x.1)(t:d=l.flatMap (·.2))(u:n=l.length)(v:l.length<=100):
 jL (M.push (.cells (bt d) jW)) jW [.i 0,.i 0,.s .nil] 40 s (.mk M.size 0 n n) λr f=>AD a b c m g (O.v r) f:=by
 have x:=J.push M (.cells (bt d) jW)
 have z:=h.g.bn
 have H:=(BQ iL.mono (h.gG i) jW l hd t u).done iL.mono (h.gG i) bh bE
 have w:=h.l
 refine Gr.all (g:=[.i 0,.i 0,.s .nil]) iL.mono bh (h.ext x).g (h.ext x).r.f H bE λr y p j A o=>⟨r,_,rfl,p.done iL.mono i bh bE,(k.MF (h.ext x).r.r j (o b (h.ext x).r.r.lt (oh k.lt))).mono q,j⟩
def JG(g:∀z∈a,z<m.size)(O:b∈a)(v:Rd b c P m)(hP:P+100<=10^16):aN cp 167 [vp b 0] m (AD a b c m (P+6)):=by
 apply Cn (b,0);have hr:=v.lt;have w:b∈a/\b<m.size:=⟨O,hr⟩;refine(wm g O v V).mono λ_ m1⟨s,e,h,g1,ad,d1,f1⟩=>⟨s,h,?_⟩;have R:DD a b c m (P+1) m1 s e:=⟨g1,⟨f1,d1⟩,oh (px e ad)⟩;have sl:s.len=e.length:=g1.len bh;have dl:=R.l;refine(cq d1 V (s.len:Int)).mono λ_ m2⟨D,h,k0,k1,d2,f2⟩=>⟨D,h,?_⟩;have Z:=R.to w f2 (R.r.to f2 d2);have N:0<=D/\D<(e.length:Int):=V;refine(cq d2 V 14).mono λ_ F⟨ae,h,_,_,d3,f3⟩=>⟨ae,h,?_⟩;have k:=Z.to w f3 (Z.r.to f3 d3);have Q:∀{M:E},Uq M .nil []:=⟨rfl,dN _,aL,aL⟩;have x:∀{M f:E},J M f->Le (bG (s.D::a) M) (bG (s.D::a) f):=λX=>X.df _;refine⟨λ_=>?_,λ_=>⟨λ_=>?_,λ_=>⟨λ_=>?_,λ_=>⟨λ_=>?_,λ_=>⟨λ_=>?_,λ_=>⟨λ_=>k.gY g v V [(⟨0,0,[]⟩,[.i 0,.i 0,.s .nil]),(⟨3,0,[]⟩,[.i 3,.i 0,.s .nil])] (by simp;exact⟨⟨.nil,rfl,Q⟩,⟨.nil,rfl,Q⟩⟩) rfl rfl aL,λ_=>k.iI g V⟩⟩⟩⟩⟩⟩
 .refine(zX k.r V [-1,5,0,2] rfl rfl aL).mono λ_ o⟨t,h,_,G,u⟩=>⟨t,h,?_⟩;have r:=(k.ext (J.push F _)).to w u G;refine(zX G V [0,1,5] rfl rfl aL).mono λ_ l⟨q,h,_,A,y⟩=>⟨q,h,?_⟩;have p:=(r.ext (J.push o _)).to w y A;exact p.set g v V N (d:=⟨t,q,[]⟩) ⟨.nil,rfl,Q⟩
 .refine(zX k.r V [-1,0,4,5] rfl rfl aL).mono λ_ o⟨t,h,_,G,u⟩=>⟨t,h,?_⟩;have r:=(k.ext (J.push F _)).to w u G;have L:=r.lit g [t] (cs:=[.i t]) (n:=1) rfl rfl aL;refine Di _ λl y=>?_;have p:=(r.ext (J.push o _)).ext y;have a2:=p.lit g [0,0,0,0] (cs:=[.i 0,.i 0,.i 0,.i 0]) (n:=4) rfl rfl aL;refine Di _ λq B=>?_;have H:=(p.ext (J.push l _)).ext B;have a3:=H.lit g [] (cs:=[]) (n:=0) rfl rfl aL;refine Di _ λA C=>?_;have I:=(H.ext (J.push q _)).ext C;have K:=(J.push q (.cells (bt []) aA)).trans C;have U:=((J.push l (.cells (bt [.i 0,.i 0,.i 0,.i 0]) aA)).trans B);have z:=wL (I.gG g) oW [([t],.mk o.size 0 1 1),([0,0,0,0],.mk l.size 0 4 4),([],.mk q.size 0 0 0)] aL (by
   simp only[aV,jX,BE,forall_eq_or_imp,forall_eq];exact⟨L.le (x ((y.trans U).trans K)),a2.le (x (B.trans K)),a3.le (x C)⟩) (c:=[.s (.mk o.size 0 1 1),.s (.mk l.size 0 4 4),.s (.mk q.size 0 0 0)]) (b:=3) rfl rfl
  exact(I.ext (J.push A _)).set g v V N (d:=⟨0,0,_⟩) ⟨_,rfl,z⟩
 .have L:=k.lit g [cT (D+1)] (cs:=[.i (cT (D+1))]) (n:=1) rfl rfl aL;refine Di _ λl y=>?_;have p:=(k.ext (J.push F _)).ext y;have z:=wL (p.gG g) oW [([cT (D+1)],.mk F.size 0 1 1)] aL (by
   simp only[aV,jX,BE,forall_eq];exact L.le (x y)) (c:=[.s (.mk F.size 0 1 1)]) (b:=1) rfl rfl
  exact(p.ext (J.push l _)).set g v V N (d:=⟨0,0,_⟩) ⟨_,rfl,z⟩
 .refine(zX k.r V [0,2,1] rfl rfl aL).mono λ_ o⟨t,h,_,G,u⟩=>⟨t,h,?_⟩;have r:=(k.ext (J.push F _)).to w u G;exact r.gY g v V [(⟨2,t,[]⟩,[.i 2,.i t,.s .nil])] (by simp;exact⟨.nil,rfl,Q⟩) rfl rfl aL
 .refine(cq k.r.r V 2).mono λ_ o⟨t,h,_,_,d4,u⟩=>⟨t,h,?_⟩;have r:=k.to w u (k.r.to u d4);have L:=r.lit g [] (cs:=[]) (n:=0) rfl rfl aL;refine Di _ λl y=>?_;have p:=(r.ext (J.push o _)).ext y;have a2:=p.lit g [2] (cs:=[.i 2]) (n:=1) rfl rfl aL;refine Di _ λq B=>?_;have H:=(p.ext (J.push l _)).ext B;have a3:=H.lit g [] (cs:=[]) (n:=0) rfl rfl aL;refine Di _ λA C=>?_;have I:=(H.ext (J.push q _)).ext C;have a4:=I.lit g [] (cs:=[]) (n:=0) rfl rfl aL;refine Di _ λm8 Y=>?_;have D8:=(I.ext (J.push A _)).ext Y;have W:=(J.push A (.cells (bt []) aA)).trans Y;have K:=(J.push q (.cells (bt []) aA)).trans C;have U:=((J.push l (.cells (bt [.i 2]) aA)).trans B);have z:=wL (D8.gG g) oW [([],.mk o.size 0 0 0),([2],.mk l.size 0 1 1),([],.mk q.size 0 0 0),([],.mk A.size 0 0 0)] aL (by
   simp only[aV,jX,BE,forall_eq_or_imp,forall_eq];exact⟨L.le (x (((y.trans U).trans K).trans W)),a2.le (x ((B.trans K).trans W)),a3.le (x (C.trans W)),a4.le (x Y)⟩) (c:=[.s (.mk o.size 0 0 0),.s (.mk l.size 0 1 1),.s (.mk q.size 0 0 0),.s (.mk A.size 0 0 0)]) (b:=4) rfl rfl
  have T:=D8.ext (J.push m8 (.cells (bt [.s (.mk o.size 0 0 0),.s (.mk l.size 0 1 1),.s (.mk q.size 0 0 0),.s (.mk A.size 0 0 0)]) oW));refine(cq T.r.r V 3).mono λ_ af⟨aa,h,j0,j1,ac,G⟩=>⟨aa,h,j0,bE,aL,?_⟩;have c':=(eT.le z (G.df (S:=s.D::a) (by simp[O])) λab X=>mO.le (G.df (by simp[O])) ab X).KF (i:=aa.toNat) (j:=4) V aL;exact(T.to w G (T.r.to G ac)).set g v V N (d:=⟨t,0,_⟩) ⟨_,rfl,c'⟩
end
end
section
def Tr{α:Type}(_:α):Prop:=True
section
variable{a:List Nat}{m:E}{b P:Nat}{c:O}
def uH(hS:∀w∈a,w<m.size)(aa:b∈a)(Z:Rd b c P m)(hP:P+200<=10^16){an ao:O}{x:List bz×List dy}(u:IT (bG a m) an ao x)(ap:UI x)(aD:Int):aN cp 92 [vp b 0,.agg #[O.v an,O.v ao],vi aD] m (PP IT Tr a b c m (P+10)):=by
 apply yU (b,0);simp(config:={maxSteps:=1000000}) -zeta only[aC,aB];have F:=Z.lt;intro d ae;have b2:BS [d.size,m.size] b c m P ae:=BS.Z5 (BS.lK (S:=a) Z _).1 _;have x2:J m ae:=(J.push m _).trans (J.push d _);have s1:d.size=m.size+1:=by simp[d]
 have t2:IT (bG ([d.size,m.size]++a) ae) an ao x:=IT.mn _ _ _ _ _ (x2.bG λh r=>by
  simp at r;rcases r with e|e|e
  .exact Or.inr V
  .exact Or.inr V
  .exact Or.inl e) u
 clear_value ae;refine b2.pick F V (λ_ o=>o) aD λaP m3 _ _ b3 f3=>?_;have t3:=IT.mn _ _ _ _ _ (BS.le (B:=[d.size,m.size]) aa f3) t2;refine⟨λ_=>b3.iI IT.mn Z aL t3 trivial V _,λ_=>?_⟩;refine(wg (b3.hS hS) (t3.1.le (bA _ _)) (sX ap.2) (iH.le (bA _ _) t3.2) ap.1).mono λ_ f⟨N,q,C,e,A4,hl,x4⟩=>⟨(b3.lw F λ_ o=>o).dv (x4.fz _),N,q,e,?_⟩;have b4:=b3.to (x4.fz _) (b3.s.r.ext x4);intro m5 m6;obtain⟨b6,-,-⟩:=b4.box (S:=a) (m1:=m5) (m2:=m6) rfl rfl rfl;obtain⟨x6,-,-⟩:=kH (M:=f) (d:=m5) (c:=m6) rfl rfl rfl;clear_value m6;have A6:vx ([f.size,d.size,m.size]++a) m m6 N q x.1 C:=A4.re (x6.fz []) aL (λh r=>⟨by
  rcases List.mem_cons.1 r with e|e
  .exact Or.inr V
  .exact Or.inl e,b6.hS hS h r⟩) b3.s.f.size
 have ok:DK (C.map (·.1)):=hl▸ap.1;have aX:=A6.len;have l4:C.length<=4:=by simpa using ok.oD
 have l0:0<C.length:=by simpa using ok.iW
 have cl:∀g∈C,g.1.dq.length<=10^12:=λg A=>(vx.oD ok A).oD;refine b6.pick F V (λ_ o=>o) (q.len:Int) λp i f0 f1 b7 f7=>?_;have A7:=A6.re f7 (S':=[f.size,d.size,m.size]++a) (by simp[aa]) (λh r=>⟨Or.inl r,b7.hS hS h r⟩) (ad _);let⟨g,A⟩:=cG C p.toNat;let⟨ac,h,g0,g1,g2,g3,g4,aJ,aK⟩:=A7.iB V A;refine⟨f0,V,ac,g0,h,g1,_,g2,_,g3,g.2,g4,?_⟩;intro m8 m9;obtain⟨b9,-,-⟩:=b7.box (S:=a) (m1:=m8) (m2:=m9) rfl rfl rfl;obtain⟨x9,-,-⟩:=kH (M:=i) (d:=m8) (c:=m9) rfl rfl rfl;clear_value m9;have A9:vx ([i.size,f.size,d.size,m.size]++a) m m9 N q x.1 C:=A7.re (x9.fz []) aL (λh r=>⟨by
  rcases List.mem_cons.1 r with e|e
  .exact Or.inr V
  .exact Or.inl e,b9.hS hS h r⟩) (ad _)
 have iI:∀{l:E}{T:O}{ar:List bz×List dy}{Q:Nat},BS [i.size,f.size,d.size,m.size] b c m Q l->IT (bG ([i.size,f.size,d.size,m.size]++a) l) T q ar->Q<=P+10->PP IT Tr a b c m (P+10) (.agg #[O.v T,O.v q]) (ah l d.size 0 [.s T,.s q]):=λh u o=>h.iI IT.mn Z aL u trivial o _;refine⟨λ_=>iI b9 (A9.it V cl) V,λhn=>?_⟩;have hB:∀h∈[b],h∈[i.size,f.size,d.size,m.size]++a:=by simp[aa]
 have W:∀{l n:E}{C:List (dy×O)},vx ([i.size,f.size,d.size,m.size]++a) m l N q x.1 C->Fz [b] l n->vx ([i.size,f.size,d.size,m.size]++a) m n N q x.1 C:=λo p=>o.re p hB (λh r=>⟨Or.inl r,aO (o.lt h r) p.size⟩) (ad _);refine b9.pick F V (λ_ o=>o) 8 λaP H _ _ j au=>?_;have U:=W A9 au;have ay:Le (bG (q.D::([f.size,d.size,m.size]++a)) i) (bG (q.D::([i.size,f.size,d.size,m.size]++a)) H):=(x9.bG λh r=>by
  simp only[cZ,eF,aV]at r⊢;rcases r with e|e|e
  .exact Or.inl (Or.inl e)
  .exact Or.inr V
  .exact Or.inl (Or.inr e)).trans (au.df (by simp[aa]))
 have ha:=aJ.le ay;have r:=aK.le ay;have az:∀{l n:E},Fz [b] l n->Le (bG (q.D::([i.size,f.size,d.size,m.size]++a)) l) (bG (q.D::([i.size,f.size,d.size,m.size]++a)) n):=λp=>p.df (by simp[aa]);have G:=vx.oD ok (aq A);have done:∀{l:E}{Q:Nat}{D:List Ce}{aE:dy},BS [i.size,f.size,d.size,m.size] b c m Q l->vx ([i.size,f.size,d.size,m.size]++a) m l N q x.1 C->lp (bG (q.D::([i.size,f.size,d.size,m.size]++a)) l) D aE->Q<=P+10->
  0<=p/\p<(q.len:Int)/\fK l q.D (q.off+p.toNat*5) 5/\(eG [i.size,f.size,d.size,m.size] l (ah l q.D (q.off+p.toNat*5) D)/\PP IT Tr a b c m (P+10) (.agg #[O.v N,O.v q]) (ah (ah l q.D (q.off+p.toNat*5) D) d.size 0 [.s N,.s q])):=λ{l Q D aE} h K hp hQ=>by
  let⟨X,ps,tt⟩:=K.Z4 h.s.f V cl (k:=p.toNat) V hp
  have yq:=K.g.bn
  exact⟨f0,V,X,λw R=>bd _ _ _ _ λe=>K.nq (by rw[<-e];exact bI _ R),iI ⟨h.s.put Z yq.1 _ _,λw R=>by rw[aw];exact h.gG w R⟩ tt hQ⟩
 have v:∀{l n:E}{Q:Nat},BS [i.size,f.size,d.size,m.size] b c m Q l->Fz [b] l n->∀s,af n i.size s=af l i.size s:=λh p s=>kg p F (h.gG _ aL) s;have Y:∀{l n:E}{Q:Nat},BS [i.size,f.size,d.size,m.size] b c m Q l->Fz [b] l n->∀s,af n f.size s=af l f.size s:=λh p s=>kg p F (h.gG _ aL) s;have am:=U.dq (aq A) G.oD;have ax:=j.hS hS;have lq:∀w∈q.D::([i.size,f.size,d.size,m.size]++a),w<H.size:=λw R=>(List.mem_cons.1 R).elim (λe=>e▸U.g.bn.2) (ax w);have lK:∀(ls:List Int){D:List Ce}{ag:Nat},D=ls.map Ce.i->ag=ls.length->0<ls.length/\ls.length<=100->∀{ak:Int->E->Prop},(∀u n,BS [i.size,f.size,d.size,m.size] b c m (P+4) n->vx ([i.size,f.size,d.size,m.size]++a) m n N q x.1 C->Le (bG (q.D::([i.size,f.size,d.size,m.size]++a)) H) (bG (q.D::([i.size,f.size,d.size,m.size]++a)) n)->(∀s,af n i.size s=af (H.push (.cells (bt D) aA)) i.size s)->(∀s,af n f.size s=af (H.push (.cells (bt D) aA)) f.size s)->ak u n)->
  aN cp 39 [vp b 0,O.v (.mk H.size 0 ag ag)] (H.push (.cells (bt D) aA)) λai n=>eG [i.size,f.size,d.size,m.size] (H.push (.cells (bt D) aA)) n/\∃u:Int,ai=vi u/\ak u n:=λls{D ag} h1 h2 h3{ak} hk=>by
  have x:=J.push H (.cells (bt D) aA)
  have L:=j.to (x.fz _) (j.s.r.ext x)
  exact(zX j.s V ls h1 h2 h3).mono λ_ n⟨u,e,_,aS,p⟩=>⟨(L.lw F λ_ o=>o).dv p,u,e,hk u n (L.to p aS.r) (W U ((x.fz _).trans p)) (az ((x.fz _).trans p)) (v L p) (Y L p)⟩
 refine⟨λ_=>?_,λ_=>⟨λ_=>?_,λ_=>⟨λ_=>?_,λ_=>⟨λ_=>?_,λ_=>?_⟩⟩⟩⟩
 .refine(qH j.s.r V (r.le (bA _ _)) (oh G.cR)).mono λ_ ab⟨T,I,e,al,aF,_,aj,t⟩=>⟨(j.lw F λ_ o=>o).dv t,T,e,v j t _,v j t _,v j t _,v j t _,Y j t _,?_⟩;exact done (aE:=⟨g.1.params,I,g.1.aS,g.1.ak,g.1.dq⟩) (j.to t aj) (W U t) ⟨ac,T,g.2,rfl,ha.le (az t),GI.done (GI.any al) lq (by have:=G.cR;show I.length<=_;omega),(W U t).dq (aq A) G.oD⟩ V
 .have x:=(J.push H (.cells (bt [.i 0,.i 1,.i (cT (g.1.ak+1)),.i 2001,.i (-1)]) aA)).fz [b];exact⟨v j x _,v j x _,v j x _,v j x _,Y j x _,lK [0,1,cT (g.1.ak+1),2001,-1] rfl rfl aL λu n b' K le I e4=>⟨I _,I _,I _,I _,e4 _,done (aE:=⟨g.1.params,g.1.cR,g.1.aS,u,g.1.dq⟩) b' K ⟨ac,h,g.2,rfl,ha.le le,r.le le,K.dq (aq A) G.oD⟩ V⟩⟩
 .have x:=(J.push H (.cells (bt [.i 0,.i 1,.i 9]) aA)).fz [b];have cl:=am.len;have cc:=am.cap;have c0:=G.iW;have cf:=G.oD;have ew:cT ((g.2.len:Int) -1)=((g.2.len -1:Nat):Int):=by rw[aQ V V];omega
  rw[ew];refine⟨dg 0,V,V,v j x _,v j x _,v j x _,v j x _,v j x _,Y j x _,lK [0,1,9] rfl rfl aL λu n b' K le I e4=>⟨I _,I _,I _,I _,I _,e4 _,done (aE:=⟨g.1.params,g.1.cR,u,g.1.ak,g.1.dq.take (g.2.len -1)⟩) b' K ⟨ac,h,g.2.cut 0 (g.2.len -1) 6,rfl,ha.le le,r.le le,eT.Ti (K.dq (aq A) G.oD) V⟩ V⟩⟩
 .refine(JG ax (by simp[aa]) j.s.r V).mono λ_ ab⟨T,I,e,hd,aj,t⟩=>⟨(j.lw F λ_ o=>o).dv t,T,e,Y j t _,?_⟩;exact iI (ar:=(I,_)) (j.to t aj) ⟨hd,((W U t).it V cl).2⟩ V
 .have aW:=am.len;have aU:=G.iW;refine j.pick F V (λ_ o=>o) (g.2.len:Int) λaR ab j0 j1 L t=>?_;have I:=W U t;obtain⟨-,-,-,-,-,-,aG,-,-⟩:=I.iB V A;let⟨ar,hz⟩:=cG g.1.dq aR.toNat;let⟨a',jj,aH,hj,e0,e1,e2,e3,e4,e5⟩:=(I.dq (aq A) G.oD).aF hz;have gG:∀{h s:Nat}{ai:Value},af (bG (q.D::([i.size,f.size,d.size,m.size]++a)) ab) h s=some ai->af ab h s=some ai:=λo=>(eQ.1 o).2;refine⟨f0,V,g.2,aG,j0,V,_,gG e0,_,gG e1,_,gG e2,_,gG e3,_,gG e4,_,gG e5,?_⟩;have hZ:∀w∈q.D::(Ks C++([i.size,f.size,d.size,m.size]++a)),w<ab.size:=λw R=>by
   rcases List.mem_cons.1 R with e|e
   .rw[e];exact I.g.bn.2
   .rcases List.mem_append.1 e with e|e
    .obtain⟨X,hw,rfl⟩:=List.mem_map.1 e;exact(I.c X hw).bn.2
    .exact I.lt w e
  refine(GQ hZ L.s.r V (aH.le (bA _ _)) (hj.le (bA _ _)) (G.jf ar (aq hz))).mono λ_ aY⟨z',a2,j2,e,aI,aM,_,aT,K⟩=>⟨(L.lw F λ_ o=>o).dv K,_,_,_,_,_,_,e,?_⟩;have aj:=W I K;have al:=L.to K aT;let⟨X,aF⟩:=aj.wr al.s.f A (av hz) (cs:=[.i z'.op,.i z'.dst,.i z'.bP,.i z'.bZ,.s a2,.s j2]) (y:=z') ⟨a2,j2,rfl,aI,aM⟩;have yc:=(aj.c g (aq A)).bn;have yq:=I.g.bn;refine⟨kg K F yq _,Y L K _,j0,V,X,λh r=>bd _ _ _ _ λe=>(aj.nc g (aq A)) (by rw[<-e];exact bI _ r),iI ⟨al.s.put Z yc.1 _ _,λw R=>by rw[aw];exact al.gG w R⟩ (aF.it bE λX hw=>?_) V⟩;rcases cB hw with e|e
  .exact cl X e
  .rw[e];simpa using G.oD
def JH(f:∀d∈a,d<m.size)(l:b∈a)(d:Rd b c P m)(K:P+2000+4*(300+40*Cg 18)<=10^16):aN cp 53 [vp b 0] m (PP IT Tr a b c m (P+50+4*(300+40*Cg 18))):=by
 apply Co (b,0);simp -zeta only[aC,aB];have e:=d.lt;intro g;have z1:g.size=m.size+1:=by simp[g]
 obtain⟨b1,-⟩:BS [m.size] b c m P g/\True:=⟨(BS.lK (S:=a) d _).1,trivial⟩;clear_value g;refine b1.call (S:=a) e (λ_ h=>h) (Ip (b1.hS f) (by simp[l]) b1.s.r V) λH Q R o r t2 b2 I=>?_;intro y p;obtain⟨b4,w,-⟩:=b2.box (S:=a) (m1:=y) (m2:=p) rfl rfl rfl;clear_value p;have C:=IT.mn _ _ _ _ _ w t2;have k:b∈[o.size,m.size]++a:=by simp[l]
 refine b4.pick e V (λ_ h=>h) 4 λL M _ _ b5 u=>?_;have q:=IT.mn _ _ _ _ _ (BS.le l u) C;refine⟨λ_=>?_,λ_=>b5.call (S:=a) e (λ_ h=>h) (uH (b5.hS f) k b5.s.r V q r 14) λt B G z F n j v=>j.iI IT.mn d aL n trivial V _⟩;refine b5.call (S:=a) e (λ_ h=>h) (If (b5.hS f) k b5.s.r V q r) λs A T N E D b6 J=>?_;intro O;let⟨i,x⟩:=b6.put (S:=a) d (by simp:o.size∈_) [.s s,.s A];exact i.call (S:=a) e (λ_ h=>h) (uH (i.hS f) k i.s.r V (IT.mn _ _ _ _ _ x D) E 14) λt B G z F n j v=>j.iI IT.mn d aL n trivial V _
end
end
section
variable{a:Nat}{c:bM}{l:List Int}{x:O}{K:O->E->Prop}{i:Int}
def ML(l r:List Ce)(o:Nat)(c:Ce)(h:l.length<=o):(l++r).set o c=l++r.set (o -l.length) c:=by
 rw[Xv _ _ h]
def lD:∀(a l r:List Ce)(o:Nat),l.length<=o->jb (l++r) o a=l++jb r (o -l.length) a
 |[],l,r,o,_=>rfl
 |c::a,l,r,o,h=>by
  simp only[jb];rw[ML _ _ _ _ h,lD a l _ (o+1) V];congr 2;omega
def Du:∀(a l r:List Ce)(o:Nat),o+a.length<=l.length->jb (l++r) o a=jb l o a++r
 |[],l,r,o,_=>rfl
 |c::a,l,r,o,h=>by
  simp only[aZ]at h;simp only[jb];rw[Mk _ _ V,Du a _ _ (o+1) bE]
def BW{f:Nat}:∀(b:List (List Ce))(a:Nat)(e:List Ce)(o:Nat)(d:List Ce),(∀c∈b,c.length=f)->b[a]? =some e->o+d.length<=f->jb b.flatten (a*f+o) d=(b.set a (jb e o d)).flatten
 |[],a,e,o,d,_,h,_=>by simp at h
 |x::b,0,e,o,d,g,h,j=>by
  simp at h;subst h;have i:=g x bg;rw[jD,Qm,bU,Du _ _ _ _ V,iz,jD]
 |x::b,a+1,e,o,d,g,h,j=>by
  have i:=g x bg;rw[jD,lD _ _ _ _ (by rw[i,gN];omega),jq,jD];have k:(a+1)*f+o -x.length=a*f+o:=by rw[i,gN];omega
  rw[k,BW b a e o d (λc l=>g c (ai _ l)) (by simpa using h) j]
def _root_.Go.Vc.gQ.set{α:Type}{e:Nat}{R:List Ce->α->Prop}{f:List (List Ce)}{l:List α}(h:gQ e R f l)(a:Nat){cs:List Ce}{x:α}(m:cs.length=e)(n:R cs x):gQ e R (f.set a cs) (l.set a x):=by
 refine⟨by simp[h.len],λc b=>?_,λk c y b d=>?_⟩
 .rcases cB b with b|b
  .exact h.size c b
  .rw[b];exact m
 .by_cases j:k=a
  .subst j;have g:=av b;have i:=av d;simp at g i;rw[dx g]at b;rw[dx i]at d;simp at b d;subst b;subst d;exact n
  .rw[cv (λg=>j g.symm)]at b d;exact h.dz k c y b d
def _root_.Go.Vc.gQ.take{α:Type}{e:Nat}{R:List Ce->α->Prop}{b:List (List Ce)}{l:List α}(h:gQ e R b l)(n:Nat):gQ e R (b.take n) (l.take n):=by
 refine⟨by simp[h.len],λc a=>h.size c (dA a),λj c y a d=>?_⟩;have f:=av a;simp at f;rw[dH V]at a d;exact h.dz j c y a d
def FD{b:Nat}:∀(a:List (List Ce))(n:Nat),(∀c∈a,c.length=b)->a.flatten.take (n*b)=(a.take n).flatten
 |[],n,_=>aL
 |x::a,0,_=>aL
 |x::a,n+1,h=>by
  have d:=h x bg;rw[jD,List.take_append,nD (by rw[d,gN];omega),Nd,jD];have e:(n+1)*b -x.length=n*b:=by rw[d,gN];omega
  rw[e,FD a n λc f=>h c (ai _ f)]
section
variable{N:Nat}{d:Nat->Nat}{m:E}{b:O}{h:List bM}
def dK.len(e:dK N d m b h):b.len=h.length:=by
 obtain⟨f,c,a,_⟩:=e;have:=c.len;rw[cw a.size,a.len]at this;omega
def dK.cg(q:dK N d m b h)(e:h[a]? =some c):∃f,af m b.D (b.off+a*3)=some (vi c.aP)/\af m b.D (b.off+a*3+1)=some (vi c.j9)/\af m b.D (b.off+a*3+2)=some (O.v f)/\ap m f c.aE/\FN N d m f c.aE:=by
 obtain⟨l,o,g,_⟩:=q;let⟨k,j⟩:=cG l a (by rw[g.len];exact av e);obtain⟨f,rfl,p,n⟩:=g.dz a k c j e;have r:=λi c e=>o.iB (a*3+i) c (fW g.size j e);exact⟨f,r 0 (.i c.aP) rfl,r 1 (.i c.j9) rfl,r 2 (.s f) rfl,p,n⟩
def dK.cells(g:dK N d m b h)(t:h.length<=9223372036854775807):cW m b h:=by
 have r:=g.len;obtain⟨n,e,a,_⟩:=g;refine⟨r,e.le,V,λk x j=>?_⟩;let⟨l,f⟩:=cG n k (by rw[a.len];exact av j);obtain⟨o,rfl,q,s⟩:=a.dz k l x f j;refine⟨_,⟨o,rfl,q⟩,λi c p=>?_⟩;have:=e.iB (k*3+i) c (fW a.size f p);rwa[<-dj]at this
def dK.wr(g:dK N d m b h){a o n:Nat}(f:a<h.length)(j:o+n<=3):fK m b.D (b.off+a*3+o) n:=by
 obtain⟨i,e,c,_⟩:=g;rw[dj];exact e.wr (by rw[cw c.size,c.len];have:(a+1)*3<=h.length*3:=dh _ f;omega)
def dK.D(e:dK N d m b h){a:Nat}(i:a<h.length):d b.D=3/\b.D<m.size:=by
 have j:=e.len;obtain⟨f,c,g,_⟩:=e;have:=c.le;have:=c.D V;exact⟨this.2,this.1⟩
def Rc(N:Nat)(d:Nat->Nat)(m:E)(b:O)(h:List bM)(f:O)(l:List Int):Prop:=
 l≠[]->(d f.D=0/\N<=f.D/\FB m f l)/\∀(i:Nat)(g:O),i<h.length->af m b.D (b.off+i*3+2)=some (O.v g)->g.len≠0->g.D≠f.D
def FB.gA{b:E}{f:O}(h:gW b m aA 1 f (l.map Ce.i))(d:l≠[]):b.size<=f.D/\FB m f l:=by
 rcases h.aF with e|⟨g,c,tail,e,h2,h3,_,_⟩
 .have a:=h.len;rw[e,dZ,O.OC,Qm]at a;exact absurd (List.length_eq_zero_iff.1 a) d
 .rw[e];exact⟨h2,c,tail,rfl,h3⟩
def Rc.of{a:E}{w:Nat->Nat}{f:O}(q:dK N w a b h)(s:0<h.length->m[b.D]? =a[b.D]?)(u:l≠[]->gW a m aA 1 f (l.map Ce.i))(k:l≠[]->d f.D=0)(A:N<=a.size):Rc N d m b h f l:=λe=>by
 let⟨z,n⟩:=FB.gA (u e) e;refine⟨⟨k e,V,n⟩,λi x r g p=>?_⟩;let⟨c,o⟩:=dB r;obtain⟨y,_,_,v,kf,_⟩:=q.cg o;rw[aJ (s V),v]at g;have:=O.BA.1 (jK g);subst this;have t:c.aE≠[]:=λj=>by have:=kf.len;rw[j]at this;simp at this;exact p this
 have:=iF kf t;omega
def dK.put(L:dK N d m b h)(Z:∀g,m.size<=g->d g=0){o:Nat}{p:bM}(I:h[a]? =some c){new:List Ce}(ho:o+new.length<=3)
 (W:∀r,ap m r c.aE->FN N d m r c.aE->∃f,jb [.i c.aP,.i c.j9,.s r] o new=[.i p.aP,.i p.j9,.s f]/\ap m f p.aE/\FN N d m f p.aE/\(f=r\/Rc N d m b h f p.aE)):
 dK N d (ah m b.D (b.off+a*3+o) new) b (h.set a p)/\dp (λk=>k=3) d m d (ah m b.D (b.off+a*3+o) new):=by
 have B:=av I
 have V:=L.D B
 have J:dp (λk=>k=3) d m d (ah m b.D (b.off+a*3+o) new):=dp.ah Z V.1 _ _
 let⟨v,E,n,F⟩:=L
 let⟨S,w⟩:=cG v a (by rw[n.len];exact B)
 obtain⟨r,rfl,X,T⟩:=n.dz a S c w I
 let⟨f,D,K,U,hd⟩:=W r X T
 have Q:∀(j:Nat)(q:List Ce)(g:O),v[j]? =some q->q[2]? =some (.s g)->j≠a->f.len≠0->g.len≠0->f.D≠g.D:=λj q g e H Y s t=>by
  rcases hd with rfl|hd
  .exact F a j _ q f g w e rfl H (λl=>Y l.symm) s t
  .have u:p.aE≠[]:=λl=>by have:=K.len;rw[l]at this;simp at this;exact s this
   refine kE ((hd u).2 j g (by rw[<-n.len];exact av e) ?_ t);have:=E.iB (j*3+2) _ (fW n.size e H);rwa[<-dj]at this
 refine⟨⟨v.set a (jb [.i c.aP,.i c.j9,.s r] o new),?_,?_,?_⟩,J⟩
 .rw[<-BW v a _ o new n.size w ho,dj]
  exact E.set (by rw[cw n.size,n.len];have:(a+1)*3<=h.length*3:=dh _ B;omega)
 .rw[D]
  exact(n.set a rfl ⟨f,rfl,K,U⟩).mono (xN.eI J bh)
 .rw[D]
  have G:=av w
  intro i j C q x R u e z A y s t
  by_cases M:i=a
  .subst M
   rw[dx G]at u
   rw[cv y]at e
   simp at u;subst u
   simp at z;subst z
   exact Q j q R e A (λl=>y l.symm) s t
  .rw[cv (λl=>M l.symm)]at u
   by_cases P:j=a
   .subst P
    rw[dx G]at e
    simp at e;subst e
    simp at A;subst A
    exact kE (Q i C x u z y t s)
   .rw[cv (λl=>P l.symm)]at e
    exact F i j C q x R u e z A y s t
def dK.rp(j:dK N d m b h)(k:∀e,m.size<=e->d e=0)(g:h[a]? =some c)(n:Int):
 dK N d (ah m b.D (b.off+a*3) [.i n]) b (h.set a {c with aP:=n})/\dp (λe=>e=3) d m d (ah m b.D (b.off+a*3) [.i n]):=
 j.put k g (o:=0) (new:=[.i n]) aL λf i e=>⟨f,rfl,i,e,Or.inl rfl⟩
def dK.setCell(k:dK N d m b h)(q:∀e,m.size<=e->d e=0)(g:a<h.length)(n t:Int){f:O}(j:ap m f l)(e:Rc N d m b h f l):
 dK N d (ah m b.D (b.off+a*3) [.i n,.i t,.s f]) b (h.set a ⟨n,t,l⟩)/\dp (λi=>i=3) d m d (ah m b.D (b.off+a*3) [.i n,.i t,.s f]):=by
 let⟨c,i⟩:=dB g
 exact k.put q i (o:=0) (new:=[.i n,.i t,.s f]) aL λr u s=>⟨f,rfl,j,λp=>(e p).1,Or.inr e⟩
def dK.cut(j:dK N d m b h){n:Nat}(v:n<=h.length):dK N d m (b.cut 0 n 3) (h.take n):=by
 have u:=j.len;let⟨f,q,g,r⟩:=j;refine⟨f.take n,by rw[<-FD f n g.size];exact q.cut V,g.take n,λi k o p a l c e=>?_⟩;have s:i<n:=by have:=av c;simp at this;omega
 have t:k<n:=by have:=av e;simp at this;omega
 rw[dH s]at c;rw[dH t]at e;exact r i k o p a l c e
def dK.push(F:dK N d m b h)(Q:∀c,m.size<=c->d c=0)(S:x.len=1){p t:Int}{f:O}(R:fQ m x.D x.off [.i p,.i t,.s f])(E:ap m f l)(C:Rc N d m b h f l)(W:h.length<=2000000000)
 (M:∀z y w,dK N z w y (h++[⟨p,t,l⟩])->dp (λk=>k=3) d m z w->K y w):jL m lY [.i (0:Int),.i (0:Int),.s O.nil] 40 b x K:=by
 have U:=F.len
 let⟨k,D,A,J⟩:=F
 refine iG.append (zs:=[.i 0,.i 0,.s .nil]) (c:=[.i p,.i t,.s f]) D Q (by simp[S]) R V λz y w T H=>M z y w ⟨k++[[.i p,.i t,.s f]],by simpa using T,(A.yD (cs:=[.i p,.i t,.s f]) (x:=⟨p,t,l⟩) rfl ⟨f,rfl,E,λe=>(C e).1⟩).mono (xN.eI H bh),?_⟩ H
 have G:∀(o:Nat)(q:List Ce)(c:O),k[o]? =some q->q[2]? =some (.s c)->f.len≠0->c.len≠0->f.D≠c.D:=λo q c v s e n=>by
  have P:l≠[]:=λI=>by have:=E.len;rw[I]at this;simp at this;exact e this
  refine kE ((C P).2 o c (by rw[<-A.len];exact av v) ?_ n);have:=D.iB (o*3+2) _ (fW A.size v s);rwa[<-dj]at this
 have MH:∀{i:Nat}{j:List Ce}{a:O},(k++[[.i p,.i t,.s f]])[i]? =some j->j[2]? =some (.s a)->k[i]? =some j\/(i=k.length/\a=f):=λ{i j a} g r=>by
  rcases aW i k.length with e|e
  .rw[ax e]at g;exact Or.inl g
  .rw[aI e]at g;have n:i -k.length=0:=by have:=av g;simp at this;omega
   rw[n]at g;simp at g;subst g;simp at r;exact Or.inr ⟨V,r.symm⟩
 intro i o j q a c g v r s L e n
 rcases MH g r with B|⟨B,rfl⟩
 .rcases MH v s with u|⟨u,rfl⟩
  .exact J i o j q a c B u r s L e n
  .exact kE (G i j a B r n e)
 .rcases MH v s with u|⟨u,rfl⟩
  .exact G o q c u s e n
  .omega
end
structure sW(ro:Nat->Nat)(m:E)(fr:O)(fs:List aX)(f:aX)(r o h:O)(css:List (List Ce)):Prop where
 p7:iG ro m dP 6 4 fr (css.flatten++[.i f.fE,.i f.pc,.i f.dst,.s r,.s o,.s h])
 len:css.length=fs.length
 size:∀cs∈css,cs.length=6
 dz:∀(i:Nat)(cs:List Ce)(g:aX),css[i]? =some cs->fs[i]? =some g->SI ro m i cs g
 ak:iG ro m aA 1 (10+3*fs.length) r (f.ak.map Ce.i)
 aR:iG ro m aA 1 (11+3*fs.length) o (f.aR.map Ce.i)
 ba:iG ro m aA 1 (12+3*fs.length) h (f.ba.map Ce.i)
section
variable{d n:Nat->Nat}{m k:E}{b:O}{a:List aX}{f:aX}{r e h:O}{j:List (List Ce)}
def nG.fU(n:nG d m b (a++[f])):∃r e h j,sW d m b a f r e h j:=by
 let⟨j,u,l,v,p⟩:=n;have o:j≠[]:=λc=>by rw[c]at l;simp at l
 have c:j=j.dropLast++[j.getLast o]:=(fq o).symm;generalize j.dropLast=c0 at c;generalize j.getLast o=cl at c;subst c;have t:c0.length=a.length:=by simpa using l
 obtain⟨r,e,h,rfl,y,x,n⟩:=p a.length cl f (by rw[aI V];simp[t]) aL;refine⟨r,e,h,c0,by simpa using u,t,λk w=>v k (by simp[w]),λi k g q s=>p i k g ?_ ?_,y,x,n⟩
 .rw[ax (av q)];exact q
 .rw[ax (av s)];exact s
def sW.sU(T:sW d m b a f r e h j):nG d m b (a++[f]):=by
 refine⟨j++[[.i f.fE,.i f.pc,.i f.dst,.s r,.s e,.s h]],by simpa using T.p7,by simp[T.len],λl c=>?_,λi l o g k=>?_⟩
 .rcases List.mem_append.1 c with c|c
  .exact T.size l c
  .simp at c;subst c;rfl
 .rcases aW i a.length with n|n
  .rw[ax (by rw[T.len];exact n)]at g;rw[ax n]at k;exact T.dz i l o g k
  .have p:i=a.length:=by have:=av k;simp at this;omega
   subst p;rw[aI (by rw[T.len];omega)]at g;simp[T.len]at g k;subst g;subst k;exact⟨r,e,h,rfl,T.ak,T.aR,T.ba⟩
def sW.xO(T:sW d m b a f r e h j):b.len=a.length+1:=by
 have:=T.p7.len;simp only[be,cw T.size,T.len,aZ,eW]at this;omega
def sW.iB(T:sW d m b a f r e h j):af m b.D (b.off+a.length*6)=some (vi f.fE)/\af m b.D (b.off+a.length*6+1)=some (vi f.pc)/\af m b.D (b.off+a.length*6+2)=some (vi f.dst)/\
 af m b.D (b.off+a.length*6+3)=some (O.v r)/\af m b.D (b.off+a.length*6+4)=some (O.v e)/\af m b.D (b.off+a.length*6+5)=some (O.v h):=by
 have l:j.flatten.length=a.length*6:=by rw[cw T.size,T.len]
 have g:=λ(i:Nat)(c:Ce)(k:[Ce.i f.fE,Ce.i f.pc,Ce.i f.dst,Ce.s r,Ce.s e,Ce.s h][i]? =some c)=>T.p7.iB (a.length*6+i) c (by rw[aI V,l,Hj];exact k)
 exact⟨g 0 (.i f.fE) rfl,g 1 (.i f.pc) rfl,g 2 (.i f.dst) rfl,g 3 (.s r) rfl,g 4 (.s e) rfl,g 5 (.s h) rfl⟩
def sW.eI{p:Nat->Prop}(T:sW d m b a f r e h j)(c:dp p d m n k)(g:∀l,(l=4\/10<=l)->¬p l):sW n k b a f r e h j:=
 ⟨T.p7.eI c (g _ V),T.len,T.size,λi o q s t=>(T.dz i o q s t).eI c λl u _=>g l V,T.ak.eI c (g _ V),T.aR.eI c (g _ V),T.ba.eI c (g _ V)⟩
def sW.ext(T:sW d m b a f r e h j)(g:∀c,m.size<=c->d c=0)(c:J m k):sW d k b a f r e h j:=T.eI (dp.eH (λ_=>False) c g) λ_ _=>id
def sW.xS{p:Nat->Prop}(T:sW d m b a f r e h j)(s:dp p d m n k)(t:∀c,10<=c->c<10+3*a.length->¬p c):∀(i:Nat)(g:List Ce)(l:aX),j[i]? =some g->a[i]? =some l->SI n k i g l:=λi g l q o=>
 (T.dz i g l q o).eI s λc u _=>t c V (oh (av o))
def sW.Ag(T:sW d m b a f r e h j)(p:∀c,m.size<=c->d c=0)(n:0<=i)(g:i<f.ak.length)(v:Int):
 sW d (ah m r.D (r.off+i.toNat*1) [.i v]) b a {f with ak:=gR f.ak i v} r e h j/\dp (λk=>4<=k/\k≠9) d m d (ah m r.D (r.off+i.toNat*1) [.i v]):=by
 have o:r.cap≠0:=λl=>by have:=(T.ak.Dj l).1;simp at this;rw[this]at g;simp at g;omega
 have c:dp (λk=>k=10+3*a.length) d m d (ah m r.D (r.off+i.toNat*1) [.i v]):=dp.ah p (T.ak.D o).2 _ _
 exact⟨⟨T.p7.eI c V,T.len,T.size,T.xS c λk _ q=>V,T.ak.gR n g v,T.aR.eI c V,T.ba.eI c V⟩,c.mono λk q=>V⟩
def sW.pO(T:sW d m b a f r e h j)(p:∀c,m.size<=c->d c=0)(n:0<=i)(g:i<f.aR.length)(v:Int):
 sW d (ah m e.D (e.off+i.toNat*1) [.i v]) b a {f with aR:=gR f.aR i v} r e h j/\dp (λk=>4<=k/\k≠9) d m d (ah m e.D (e.off+i.toNat*1) [.i v]):=by
 have o:e.cap≠0:=λl=>by have:=(T.aR.Dj l).1;simp at this;rw[this]at g;simp at g;omega
 have c:dp (λk=>k=11+3*a.length) d m d (ah m e.D (e.off+i.toNat*1) [.i v]):=dp.ah p (T.aR.D o).2 _ _
 exact⟨⟨T.p7.eI c V,T.len,T.size,T.xS c λk _ q=>V,T.ak.eI c V,T.aR.gR n g v,T.ba.eI c V⟩,c.mono λk q=>V⟩
def sW.wX(T:sW d m b a f r e h j)(p:∀c,m.size<=c->d c=0)(n:0<=i)(g:i<f.ba.length)(v:Int):
 sW d (ah m h.D (h.off+i.toNat*1) [.i v]) b a {f with ba:=gR f.ba i v} r e h j/\dp (λk=>4<=k/\k≠9) d m d (ah m h.D (h.off+i.toNat*1) [.i v]):=by
 have o:h.cap≠0:=λl=>by have:=(T.ba.Dj l).1;simp at this;rw[this]at g;simp at g;omega
 have c:dp (λk=>k=12+3*a.length) d m d (ah m h.D (h.off+i.toNat*1) [.i v]):=dp.ah p (T.ba.D o).2 _ _
 exact⟨⟨T.p7.eI c V,T.len,T.size,T.xS c λk _ q=>V,T.ak.eI c V,T.aR.eI c V,T.ba.gR n g v⟩,c.mono λk q=>V⟩
def sW.D(T:sW d m b a f r e h j):d b.D=4/\b.D<m.size:=by
 have:=T.xO;have:=T.p7.le;have:=T.p7.D V;exact⟨this.2,this.1⟩
def sW.NM(T:sW d m b a f r e h j)(i:∀c,m.size<=c->d c=0)(v:Int):
 sW d (ah m b.D (b.off+a.length*6+1) [.i v]) b a {f with pc:=v} r e h j/\dp (λk=>4<=k/\k≠9) d m d (ah m b.D (b.off+a.length*6+1) [.i v]):=by
 have c:dp (λk=>k=4) d m d (ah m b.D (b.off+a.length*6+1) [.i v]):=dp.ah i T.D.1 _ _
 refine⟨⟨?_,T.len,T.size,T.xS c λk l n=>V,T.ak.eI c V,T.aR.eI c V,T.ba.eI c V⟩,c.mono λk p=>V⟩
 have g:j.flatten.length=a.length*6:=by rw[cw T.size,T.len]
 have:=T.p7.set (o:=a.length*6+1) (new:=[.i v]) (by simp[g])
 rw[lD _ _ _ _ V,g,Hj]at this
 rw[dj];exact this
def sW.U9(T:sW d m b a f r e h j):fK m b.D (b.off+a.length*6+1) 1:=by
 rw[dj];exact T.p7.wr (by simp only[be,cw T.size,T.len,aZ,eW];omega)
end
def nG.UX{d:Nat->Nat}{m:E}{c:O}{a:List aX}{f:aX}(e:nG d m c (a++[f])):nG d m (c.cut 0 a.length 6) a:=by
 let⟨r,o,h,b,T⟩:=e.fU;have g:b.flatten.length=a.length*6:=by rw[cw T.size,T.len]
 have:=T.p7.cut (n:=a.length) (by rw[T.xO];omega);rw[nt V,nD V]at this;exact⟨b,this,T.len,T.size,T.dz⟩
def nG.push{d:Nat->Nat}{m:E}{l:O}{b:List aX}(D:nG d m l b)(F:∀a,m.size<=a->d a=0)(H:x.len=1){a:aX}{c j g:O}(G:fQ m x.D x.off [.i a.fE,.i a.pc,.i a.dst,.s c,.s j,.s g])
 (y:iG d m aA 1 (10+3*b.length) c (a.ak.map Ce.i))(z:iG d m aA 1 (11+3*b.length) j (a.aR.map Ce.i))(A:iG d m aA 1 (12+3*b.length) g (a.ba.map Ce.i))(N:b.length<=1000000)
 (n:∀k c e,nG k e c (b++[a])->dp (λp=>p=4) d m k e->K c e):jL m dP [.i (0:Int),.i (0:Int),.i (0:Int),.s O.nil,.s O.nil,.s O.nil] 96 l x K:=by
 let⟨v,q,s,t,J⟩:=D
 have M:l.len=b.length:=by have:=q.len;rw[cw t,s]at this;omega
 refine iG.append (zs:=[.i 0,.i 0,.i 0,.s .nil,.s .nil,.s .nil]) (c:=[.i a.fE,.i a.pc,.i a.dst,.s c,.s j,.s g]) q F (by simp[H]) G V λk L e I p2=>n k L e ?_ p2
 exact sW.sU (f:=a) (a:=b) (j:=v) (r:=c) (e:=j) (h:=g) ⟨by simpa using I,s,t,λi u w B C=>(J i u w B C).eI p2 λp n _=>V,y.eI p2 V,z.eI p2 V,A.eI p2 V⟩
end
section
variable{m:E}{d:List bM}{g:Nat->Nat}{b k N j:Nat}{q r:List Int}{c:bM}{i:Int}{e:Nat->Int}
def zE:∀(d:List bM)(k:Nat),k<=d.length->(∀c∈d.take k,c.aP≠0)->k<=dF d
 |[],k,a,_=>by simp at a;simp[a]
 |c::d,0,_,_=>dN _
 |c::d,k+1,a,b=>by
  have f:=b c aL;have:=zE d k (by simpa using a) (λe hd=>b e (by simp[hd]));simp only[dF];rw[ae f];omega
def HB:∀(d:List bM)(k:Nat)(c:bM),(∀b∈d.take k,b.aP≠0)->d[k]? =some c->c.aP=0->dF d=k
 |[],k,c,_,a,_=>by simp at a
 |b::d,0,c,_,a,e=>by simp at a;subst a;simp[dF,e]
 |b::d,k+1,c,f,a,e=>by
  have g:=f b aL;have:=HB d k c (λx h=>f x (by simp[h])) (by simpa using a) e;simp only[dF];rw[ae g,this]
def Gt{i:O}(g:cW m i d):Ho cp 185 [O.v i] m (vi (dF d)):=by
 apply AE;have p:=g.len;refine dU (n:=d.length) (p▸g.gT) (λk a=>J m a/\∀c∈d.take k,c.aP≠0) ⟨J.az _,aL⟩ ?_;rintro k t I μ o ⟨a,h⟩ q
 refine dit (λl=>?_) λl=>?_
 .let⟨c,f⟩:=cG d k;obtain⟨r,s,j,_⟩:=(cW.ext a g).aF f;refine⟨V,V,c.aP,by simpa using j,λb=>⟨?_,a⟩,λb=>q V _ ⟨a,bB f h (by simpa using b)⟩⟩;rw[HB d k c h f (by simpa using b)]
 .refine⟨?_,a⟩;have:=zE d k o h;have:=qv d;have e:(i.len:Int)=(dF d:Int):=V;rw[e]
def od(g:Nat->Nat)(b k:Nat):Nat->Nat:=λc=>if c=b then k else g c
def fI(g:Nat->Nat)(b k:Nat):od g b k b=k:=an rfl
def eV{c:Nat}(d:c≠b):od g b k c=g c:=ae d
def dp.od{p:Nat->Prop}{m':E}(d:J m m')(e:∀b,m.size<=b->g b=0)(f:m.size<=b)(h:b<m'.size)(k:Nat):dp p g m (od g b k) m':=
 ⟨d.size,λc a=>eV V,λc a=>by rw[eV V];exact e c (bH d.size a),λc a _=>d.same c a⟩
def MV{s:O}(f:dK N g m s d)(p:∀b,m.size<=b->g b=0){c:Nat}(ha:c<=d.length)(w:Int){G:O}(T:ap m G q)(W:d.length<=2000000000)(L:q.length<=1000000000)(I:N<=m.size):
 aN cp 186 [O.v s,vi c,vi w,O.v G] m λZ S=>∃v M,Z=O.v M/\dK N v S M (jd d c ⟨1,w,q⟩)/\HC g m v S:=by
 apply II
 simp -zeta only[aC,aB]
 refine(gS T L).then L λE u o1 Q H=>⟨E,rfl,?_⟩
 intro X a
 have n:J u a:=((J.az u).aK _).ah (ad _) _ _
 have s3:a.size=u.size+1:=by simp[a,X,aw]
 have t:=H.trans n
 clear_value a
 have y:HC g m g a:=dp.eH _ t p
 have C:=y.new
 have A:dK N g a s d:=f.eI (dp.eH (λ_=>False) t p) id id
 have aa:=f.len
 have R:=Q.ext n
 have P:q≠[]->g E.D=0:=λU=>by
  rcases o1.D with e|e
  .subst e;have:=Q.len;simp at this;exact absurd (List.length_eq_zero_iff.1 this.symm) U
  .exact p _ e
 have K:g u.size=0:=p _ H.size
 refine⟨λe=>?_,λe=>?_⟩
 .simp at e
  intro h
  have i:J a h:=(J.az a).aK _
  have ju:fQ h a.size 0 [.i 1,.i w,.s E]:=(cE.push a _ _).iB
  have F:HC g m g h:=y.trans (dp.eH _ i C)
  have s4:h.size=a.size+1:=by simp[h]
  clear_value h
  refine dK.push (A.eI (dp.eH (λ_=>False) i C) id id) F.new (x:=.mk a.size 0 1 1) rfl ju (R.ext i) (Rc.of f (λz=>(t.trans i).same _ (f.D z).2) (λ_=>o1.ext (n.trans i)) P I) W λv r Y D l=>⟨λb j=>?_,v,r,rfl,?_,F.trans (l.mono λk B=>Or.inl B)⟩
  .simp at j;subst j
   exact l.eB _ V (by rw[K];decide)
  .rw[jd,an V];exact D
 .simp at e
  have h:c<d.length:=V
  have i:Int.toNat (c:Int)=c:=V
  rw[i]
  refine⟨V,V,A.wr (o:=0) h bh,?_⟩
  intro Y
  let⟨D,l⟩:=A.setCell C h 1 w R (Rc.of f (λz=>t.same _ (f.D z).2) (λ_=>o1.ext n) P I)
  refine⟨λb j=>?_,g,s,rfl,?_,y.trans (l.mono λk B=>Or.inl B)⟩
  .simp at j;subst j
   exact l.eB _ V (by rw[K];decide)
  .rw[jd,ae V];exact D
def Mg(b:d[j]? =some c)(a:c.aP≠0):ji d (j+1)=j+1:=by
 simp only[ji,b];rw[ae a]
def P9(b:d[j]? =some c)(a:c.aP=0):ji d (j+1)=ji d j:=by
 simp only[ji,b];rw[an a]
def xF{a:O}(b:cW m a d):aN cp 189 [O.v a] m λv n=>v=O.v (a.cut 0 (ji d d.length) 3)/\J m n:=by
 apply Kb;have w:=b.len;have t:=b.cap;have x:=b.gT;refine⟨λi n=>J m n/\∃j:Nat,i=j/\j<=d.length/\ji d j=ji d d.length,λi _=>i.toNat,⟨J.az _,d.length,V,ad _,rfl⟩,?_⟩;rintro i r ⟨l,j,rfl,y,o⟩;have iI:ji d j=j->Value.slice=Value.slice->(0:Int)<=(0:Int)/\(0:Int)<=(j:Int)/\(j:Int)<=(a.cap:Int)/\(O.v (O.cut a (Int.toNat (0:Int)) (Int.toNat (j:Int)) 3)=O.v (a.cut 0 (ji d d.length) 3)/\J m r):=λe _=>by
  refine⟨V,V,V,?_,l⟩;rw[<-o,e];rfl
 refine⟨λf=>?_,λf=>?_⟩
 .simp only[kG,ar]at f;obtain⟨k,rfl⟩:∃k,j=k+1:=⟨j -1,V⟩;have p:cT (((k+1:Nat):Int) -1)=(k:Int):=by rw[aQ V V];omega
  rw[p];let⟨c,h⟩:=cG d k;obtain⟨s,u,q,_⟩:=(cW.ext l b).aF h;refine⟨V,V,c.aP,by simpa using q,λg=>⟨⟨l,k,rfl,V,?_⟩,by show(k:Int).toNat<((k+1:Nat):Int).toNat;omega⟩,λg=>iI (Mg h (by simpa using g)) rfl⟩;rw[<-o,P9 h (by simpa using g)]
 .simp only[kG,bL]at f;have:j=0:=V;subst this;exact iI rfl rfl
def iG.UX{s:O}(d:iG g m aA 1 k s ((q++[i]).map Ce.i)):s.len=q.length+1/\af m s.D (s.off+q.length*1)=some (vi i)/\iG g m aA 1 k (s.cut 0 q.length 1) (q.map Ce.i):=by
 have a:s.len=q.length+1:=by have:=d.len;simp at this;omega
 refine⟨a,?_,?_⟩
 .have:=d.iB q.length (.i i) aL;rw[eR];exact this
 .have:=d.cut (n:=q.length) V;rw[eR,ft,nt aL,nD aL]at this;exact this
def fN.Rn(h:fN d (λb=>e b+eC (i::r) b))(c:∀b,0<=e b)(a:fY d i)(f:(aM d i).aP=1):fN (d.set (ix i) iZ) (λb=>e b+eC ((aM d i).aE.reverse++r) b):=by
 let⟨g,j⟩:=bS a;refine fN.QO h g f ?_ bh bh rfl (by simp[iZ]) (by simp[iZ]) (λ_=>rfl) λb=>?_
 .simp only[iT a.1,an];have:=c (ix i);have:=iD r (ix i);omega
 .simp only[iT a.1,lT,zW];omega
def fN.Pu(c:fN d (λb=>e b+eC (i::r) b))(g:∀b,0<=e b)(f:fY d i)(j:(aM d i).aP≠1):fN (fj d i) (λb=>e b+eC r b):=by
 let⟨a,h⟩:=bS f;have k:=(c.cell _ (aq a)).hi;refine fN.Ki c a h V V (λb=>?_) ?_
 .simp only[iT f.1];split<;>omega
 .have:=g (ix i);have:=iD r (ix i);omega
def fN.Rm(a:fN d (λb=>e b+eC (i::r) b))(c:i<1000):fN d (λb=>e b+eC r b):=
 a.congr λb=>by simp only[eC];rw[ae V];omega
def fN.Pt(f:fN d (λb=>e b+eC (i::r) b))(c:∀b,0<=e b)(a:1000<=i):fY d i:=
 ⟨a,f.lv _ (by simp only[iT a,an];have:=c (ix i);have:=iD r (ix i);omega)⟩
def Cc:List bM->Nat
 |[]=>0
 |c::d=>c.aE.length+Cc d
def zG:∀{d:List bM}{e:Nat}{c:bM}(b:bM),d[e]? =some c->Cc (d.set e b)+c.aE.length=Cc d+b.aE.length
 |[],e,c,b,d=>by simp at d
 |g::d,0,c,b,f=>by simp at f;subst f;simp only[iz,Cc];omega
 |g::d,e+1,c,b,f=>by
  have:=zG (d:=d) (e:=e) b (by simpa using f);simp only[jq,Cc];omega
def Ow:∀{d:List bM},(∀c∈d,c.aE.length<=3)->Cc d<=3*d.length
 |[],_=>by simp[Cc]
 |c::d,a=>by
  have:=Ow (λb hd=>a b (ai _ hd));have:=a c bg;simp only[Cc,aZ];omega
def Gq{D:O}(hh:dK N g m D d)(hn:∀b,m.size<=b->g b=0){ws:O}(hw:ap m ws [i])(hI:fN d (λb=>e b+eC [i] b))(X:∀b,0<=e b)(aO:d.length<=2000000000):
 aN cp 143 [O.v D,O.v ws] m λaD v=>∃y al,aD=O.v al/\dK N y v al (ns (gZ d [i]))/\HC g m y v:=by
 apply AB
 refine(gS hw aL).then aL λs M o1 i1 h1=>⟨s,rfl,?_⟩
 have ao:s≠.nil:=λe=>by subst e;have:=i1.len;simp at this
 have G:m.size<=s.D/\s.D<M.size:=by
  rcases o1.D with e|e
  .exact absurd e ao
  .rcases o1.lt with z|z
   .exact absurd z ao
   .exact⟨e,z⟩
 have c1:HC g m (od g s.D 6) M:=dp.od h1 hn G.1 G.2 6
 have a1:iG (od g s.D 6) M aA 1 6 s ([i].map Ce.i):=iG.gA o1 λ_=>fI _ _ _
 have ay:dK N (od g s.D 6) M D d:=hh.eI (dp.od (p:=λ_=>False) h1 hn G.1 G.2 6) id id
 have aI:=Ow λc a=>(hI.cell c a).fl
 have aJ:=hh.len
 refine OY (γ:=List bM×List Int) (λh E v=>∃y,dK N y v D h.1/\iG y v aA 1 6 E (h.2.reverse.map Ce.i)/\HC g m y v/\fN h.1 (λb=>e b+eC h.2 b)/\gZ h.1 h.2=gZ d [i]/\h.1.length=d.length/\h.2.length+Cc h.1<=1+Cc d) (λh=>Cb h.1+h.2.length) (d,[i])
  ⟨_,ay,a1,c1,hI,rfl,rfl,aL⟩ ?_
 rintro⟨a,st⟩ E m2 aE μ ⟨q,A,a2,h,t,u,K,ae⟩ ab
 simp only[]at A a2 t u K ae
 have au:E.len=st.length:=by have:=a2.len;simp at this;omega
 refine⟨λS=>?_,λS=>?_⟩
 .simp only[kG,ar]at S
  cases st with
  |nil=>simp at au;omega
  |cons x r=>
   simp only[Qj]at a2
   let⟨p1,p2,p3⟩:=a2.UX
   simp only[aZ,mN]at au p1 p2 p3 ae
   have e1:cT ((E.len:Int) -1)=(r.length:Int):=by rw[aQ V V];omega
   have aF:=a2.le
   rw[e1]
   have z:Int.toNat (0:Int)=0:=rfl
   have e3:Int.toNat (r.length:Int)=r.length:=V
   rw[z,e3]
   refine⟨V,V,x,p2,V,V,V,(dW _ _).then λb P hb n=>⟨b,rfl,λax=>?_,λaw=>?_⟩⟩
   .have hx:=hb.1 ax
    have C:=t.Pt X hx
    let⟨j,am⟩:=bS C
    have ah:=av j
    have aB:ix x=(x -1000).toNat:=rfl
    have aK:=(t.cell _ (aq j)).hi
    have e4:cT (x -1000)=x -1000:=aQ V V
    rw[e4,<-aB]
    have H:HC q m2 q P:=dp.eH _ n h.new
    have Z:dK N q P D a:=A.eI (dp.eH (λ_=>False) n h.new) id id
    have a3:=p3.eI (dp.eH (λ_=>False) n h.new) id
    obtain⟨f0,g0,_,_,_,_⟩:=Z.cg j
    refine⟨V,V,_,g0,V,V,Z.wr (o:=0) ah bh,?_⟩
    have e5:cT ((aM a x).aP -1)=(aM a x).aP -1:=aQ V V
    rw[e5]
    intro m4
    let⟨aa,c4⟩:=Z.rp H.new j ((aM a x).aP -1)
    have a4:=a3.eI c4 bh
    have R:HC g m q m4:=(h.trans H).trans (c4.mono λk B=>Or.inl B)
    have W:=km (d:=iZ) j
    simp only[an am,iZ]at W
    simp at W
    have aC:(a.set (ix x) {aM a x with aP:=(aM a x).aP -1})[ix x]? =some {aM a x with aP:=(aM a x).aP -1}:=eJ j
    obtain⟨f1,k0,_,k2,kf,kr⟩:=aa.cg aC
    refine⟨V,V,_,k0,λT=>?_,λT=>?_⟩
    .simp only[aG]at T
     have ak:(aM a x).aP=1:=V
     have aH:=(t.cell _ (aq j)).fl
     have Y:=kf.len
     simp only[]at Y kf kr
     have I:=zG iZ j
     simp only[iZ,eW]at I
     refine⟨V,V,f1,k2,iG.append (zs:=[.i 0]) (c:=(aM a x).aE.map Ce.i) a4 R.new (by simp[Y]) kf.H9 ?_ λac aR Q q1 q2=>?_⟩
     .have:(E.cut 0 r.length 1).len=r.length:=by have:=a4.len;simp at this;omega
      rw[this,Y];omega
     have az:=aa.eI q2 bh bh
     have F:HC g m ac Q:=R.trans (q2.mono λk B=>Or.inr (Or.inr B))
     intro m6
     have U:J Q m6:=(J.az Q).aK _
     have af:=az.eI (dp.eH (λ_=>False) U F.new) id id
     have a6:=q1.eI (dp.eH (λ_=>False) U F.new) id
     have ad:HC g m ac m6:=F.trans (dp.eH _ U F.new)
     clear_value m6
     have ai:ix x<(a.set (ix x) {aM a x with aP:=(aM a x).aP -1}).length:=by simpa using ah
     refine⟨V,V,af.wr (o:=0) ai bh,?_⟩
     intro m7
     let⟨ag,c7⟩:=af.setCell ad.new ai 0 0 (f:=.mk Q.size 0 0 0) (l:=[]) ⟨rfl,aL,aL,aL⟩ (λL=>absurd rfl L)
     rw[Xh]at ag
     refine ab (a.set (ix x) iZ,(aM a x).aE.reverse++r) _ _ ⟨ac,ag,?_,ad.trans (c7.mono λk B=>Or.inl B),t.Rn X C ak,?_,by simpa using K,?_⟩ ?_
     .have:=a6.eI c7 bh
      simpa using this
     .rw[<-sT C ak];exact u
     .simp only[be,mN]
      have B:Cc (a.set (ix x) iZ)+(aM a x).aE.length=Cc a:=by simpa[iZ]using I
      omega
     .simp only[be,mN,aZ]
      have B:Cb (a.set (ix x) iZ)+((aM a x).aP.toNat+(aM a x).aE.length)=Cb a:=by simpa[iZ]using W
      omega
    .simp only[aj]at T
     have L:(aM a x).aP≠1:=V
     have B:=km (d:={aM a x with aP:=(aM a x).aP -1}) j
     simp only[an am]at B
     rw[an V]at B
     have I:=zG {aM a x with aP:=(aM a x).aP -1} j
     refine ab (fj a x,r) _ _ ⟨q,aa,a4,R,t.Pu X C L,?_,by simpa[fj]using K,?_⟩ ?_
     .rw[<-ql C L];exact u
     .simp only[fj];simp only[]at I;omega
     .simp only[fj,aZ];omega
   .have hx:=fb hb aw
    have H:HC q m2 q P:=dp.eH _ n h.new
    refine ab (a,r) _ _ ⟨q,A.eI (dp.eH (λ_=>False) n h.new) id id,p3.eI (dp.eH (λ_=>False) n h.new) id,h.trans H,t.Rm V,?_,K,by simp only[];omega⟩ aL
    rw[<-qt (w:=x) (λj=>hx j.1)];exact u
 .simp only[kG,bL]at S
  have j:st=[]:=List.length_eq_zero_iff.1 V
  subst j
  rw[sS]at u
  subst u
  refine(xF (A.cells V)).mono ?_
  rintro _ P ⟨rfl,n⟩
  refine⟨_,rfl,q,_,rfl,?_,h.trans (dp.eH _ n h.new)⟩
  exact(A.eI (dp.eH (λ_=>False) n h.new) id id).cut (tL _ _)
end
section
variable{i:Int}
structure ST(m0:E)(ro:Nat->Nat)(m:E)(mb e:Nat)(bx:List Ce)(aT hp fr:O)(lo:List Int)(lh:List bM)(fs:List aX)(f:aX)(r o h:O)(css:List (List Ce)):Prop where
 cQ:vy m0 ro m mb e bx aT hp fr lo lh (fs++[f])
 fU:sW ro m fr fs f r o h css
section
variable{g:E}{a t:Nat->Nat}{m s:E}{d e:Nat}{j:List Ce}{aT l b:O}{q:List Int}{n:List bM}{c:List aX}{f:aX}{r o h:O}{k:List (List Ce)}
def ST.ext(S:ST g a m d e j aT l b q n c f r o h k)(i:J m s):ST g a s d e j aT l b q n c f r o h k/\To a m a s:=
 ⟨⟨(S.cQ.ext i).1,S.fU.ext S.cQ.new i⟩,(S.cQ.ext i).2⟩
def ST.Ag(S:ST g a m d e j aT l b q n c f r o h k){i:Int}(s:0<=i)(t:i<f.ak.length)(v:Int):ST g a (ah m r.D (r.off+i.toNat*1) [.i v]) d e j aT l b q n c {f with ak:=gR f.ak i v} r o h k/\To a m a (ah m r.D (r.off+i.toNat*1) [.i v]):=by
 let⟨p,u⟩:=S.fU.Ag S.cQ.new s t v;let⟨w,x⟩:=S.cQ.jJ u p.sU;exact⟨⟨w,p⟩,x⟩
def ST.pO(S:ST g a m d e j aT l b q n c f r o h k){i:Int}(s:0<=i)(t:i<f.aR.length)(v:Int):ST g a (ah m o.D (o.off+i.toNat*1) [.i v]) d e j aT l b q n c {f with aR:=gR f.aR i v} r o h k/\To a m a (ah m o.D (o.off+i.toNat*1) [.i v]):=by
 let⟨p,u⟩:=S.fU.pO S.cQ.new s t v;let⟨w,x⟩:=S.cQ.jJ u p.sU;exact⟨⟨w,p⟩,x⟩
def ST.wX(S:ST g a m d e j aT l b q n c f r o h k){i:Int}(s:0<=i)(t:i<f.ba.length)(v:Int):ST g a (ah m h.D (h.off+i.toNat*1) [.i v]) d e j aT l b q n c {f with ba:=gR f.ba i v} r o h k/\To a m a (ah m h.D (h.off+i.toNat*1) [.i v]):=by
 let⟨p,u⟩:=S.fU.wX S.cQ.new s t v;let⟨w,x⟩:=S.cQ.jJ u p.sU;exact⟨⟨w,p⟩,x⟩
def ST.NM(S:ST g a m d e j aT l b q n c f r o h k)(v:Int):ST g a (ah m b.D (b.off+c.length*6+1) [.i v]) d e j aT l b q n c {f with pc:=v} r o h k/\To a m a (ah m b.D (b.off+c.length*6+1) [.i v]):=by
 let⟨i,p⟩:=S.fU.NM S.cQ.new v;let⟨s,t⟩:=S.cQ.jJ p i.sU;exact⟨⟨s,i⟩,t⟩
def ST.jw(S:ST g a m d e j aT l b q n c f r o h k)(i:Nat)(s:List Ce):ST g a (ah m d i s) d e (jb j i s) aT l b q n c f r o h k/\To a m a (ah m d i s):=by
 let⟨u,v⟩:=S.cQ.jw i s;exact⟨⟨u,S.fU.eI (dp.ah (p:=λt=>t=1) S.cQ.new S.cQ.Qn i s) λt w=>V⟩,v⟩
def ST.gB(S:ST g a m d e j aT l b q n c f r o h k)(i:HC a m t s){p:O}{u:List bM}(x:dK g.size t s p u):ST g t s d e j aT p b q u c f r o h k/\To a m t s:=by
 let⟨v,w⟩:=S.cQ.gB i x;exact⟨⟨v,S.fU.eI i λz y=>V⟩,w⟩
def ST.Ib(S:ST g a m d e j aT l b q n c f r o h k)(i:dp (λp=>p=2) a m t s){v:O}{u:List Int}(y:iG t s aA 1 2 v (u.map Ce.i)):ST g t s d e j v l b u n c f r o h k/\To a m t s:=by
 let⟨w,x⟩:=S.cQ.Ib i y;exact⟨⟨w,S.fU.eI i λp z=>V⟩,x⟩
end
def dp.Q0{c f:Nat->Nat}{m a:E}(h:To c m f a){b:Nat}(e:b<m.size)(d:c b=0):eG [b] m a:=h.dv (by simpa using⟨e,d⟩)
abbrev SB(d p:O)(s:St)(aT b a:O):List Ce:=[.s d,.s p,.i s.bV,.i s.value,.i s.bu,.i s.dV,.s aT,.s b,.s a]
def yl(f:E)(h:Nat->Nat)(m:E)(g:Nat)(e p:O)(s:St)(c:E):Prop:=
 ∃d aT b a,vy f d c g bJ (SB e p s aT b a) aT b a s.aT s.heap s.ao/\To h m d c
def yl.from{b:E}{f g:Nat->Nat}{m c a:E}{e:Nat}{d p:O}{s:St}(i:yl b g c e d p s a)(n:To f m g c):yl b f m e d p s a:=
 let⟨o,aT,l,h,j,k⟩:=i
 ⟨o,aT,l,h,j,n.trans k⟩
section
variable{k:E}{e:Nat->Nat}{m:E}{g:Nat}{d p aT b c:O}{a:St}{j:List aX}{f:aX}{r l h:O}{q:List (List Ce)}
def jV(S:ST k e m g bJ (SB d p a aT b c) aT b c a.aT a.heap j f r l h q)(u:j.length<=100000)(v:Int):
 aN cp 142 [vp g 0,vi v] m λw n=>ST k e n g bJ (SB d p a aT b c) aT b c a.aT a.heap j {f with pc:=v} r l h q/\To e m e n:=by
 apply oV (g,0)
 have i:af m g 8=some (O.v c):=S.cQ.box.cg 8
 have t:=S.fU.xO
 have o:cT ((c.len:Int) -1)=(j.length:Int):=by rw[aQ V V];omega
 have s:Int.toNat (j.length:Int)=j.length:=V
 refine⟨c,i,c,i,?_⟩
 rw[o,s]
 exact⟨V,V,S.fU.U9,S.NM v⟩
def Bf(S:ST k e m g bJ (SB d p a aT b c) aT b c a.aT a.heap j f r l h q)(P:j.length<=100000)(n:0<=i)(x:i<f.ak.length)(y:i<f.aR.length)(w:Int)(W:0<=f.pc/\f.pc<=100000):
 aN cp 135 [vp g 0,vi i,vi w] m λ_ A=>ST k e A g bJ (SB d p a aT b c) aT b c a.aT a.heap j (aX.put {f with pc:=f.pc+1} i w 0) r l h q/\To e m e A:=by
 apply ug (g,0)
 simp -zeta only[aC,aB]
 have z:af m g 8=some (O.v c):=S.cQ.box.cg 8
 have T:=S.fU.xO
 have G:cT ((c.len:Int) -1)=(j.length:Int):=by rw[aQ V V];omega
 have H:Int.toNat (j.length:Int)=j.length:=V
 let⟨K,g1,g2,L,M,N⟩:=S.fU.iB
 have X:r.len=f.ak.length:=by have:=S.fU.ak.len;simp at this;omega
 have U:l.len=f.aR.length:=by have:=S.fU.aR.len;simp at this;omega
 refine⟨c,z,c,z,?_⟩
 rw[G,H]
 refine⟨V,V,_,K,_,g1,_,g2,r,L,l,M,h,N,?_⟩
 intro R o
 have Q:J m o:=((J.az m).aK _).ah (ad _) _ _
 have Z:o.size=m.size+1:=by simp[o,R,aw]
 have s:e m.size=0:=S.cQ.new _ (ad _)
 let⟨u,t2⟩:=S.ext Q
 clear_value o
 refine⟨n,V,u.fU.ak.NQ n x,?_⟩
 intro t
 let⟨v,t3⟩:=u.Ag n x w
 have s3:t.size=o.size:=aw _ _ _ _
 refine⟨t3.Q0 (show m.size<o.size by omega) s,n,V,v.fU.aR.NQ n y,?_⟩
 intro B
 let⟨E,C⟩:=v.pO n (by simpa using y) 0
 have s4:B.size=t.size:=aw _ _ _ _
 have I:cT (f.pc+1)=f.pc+1:=aQ V V
 rw[I]
 refine⟨C.Q0 (show m.size<t.size by omega) s,(jV E P (f.pc+1)).mono ?_⟩
 rintro _ Y ⟨F,D⟩
 exact⟨D.Q0 (show m.size<B.size by omega) s,F,((t2.trans t3).trans C).trans D⟩
def tF(S:ST k e m g bJ (SB d p a aT b c) aT b c a.aT a.heap j f r l h q)(ab:j.length<=100000)(n:0<=i)(D:i<f.ak.length)(s:i<f.aR.length)(w:Int):
 aN cp 145 [vp g 0,vi i,vi w] m λ_ H=>ST k e H g bJ (SB d p a aT b c) aT b c a.aT a.heap j (f.put i w (gH w)) r l h q/\To e m e H:=by
 apply uf (g,0)
 simp -zeta only[aC,aB]
 have G:af m g 8=some (O.v c):=S.cQ.box.cg 8
 have aa:=S.fU.xO
 have N:cT ((c.len:Int) -1)=(j.length:Int):=by rw[aQ V V];omega
 have P:Int.toNat (j.length:Int)=j.length:=V
 let⟨R,g1,g2,T,U,W⟩:=S.fU.iB
 have ag:r.len=f.ak.length:=by have:=S.fU.ak.len;simp at this;omega
 have ac:l.len=f.aR.length:=by have:=S.fU.aR.len;simp at this;omega
 refine⟨c,G,c,G,?_⟩
 rw[N,P]
 refine⟨V,V,_,R,_,g1,_,g2,r,T,l,U,h,W,?_⟩
 intro m1 o
 have Z:J m o:=((J.az m).aK _).ah (ad _) _ _
 have s2:o.size=m.size+1:=by simp[o,m1,aw]
 have t:e m.size=0:=S.cQ.new _ (ad _)
 let⟨A,t2⟩:=S.ext Z
 clear_value o
 refine⟨n,V,A.fU.ak.NQ n D,?_⟩
 intro x
 let⟨B,t3⟩:=A.Ag n D w
 have s3:x.size=o.size:=aw _ _ _ _
 refine⟨t3.Q0 (show m.size<o.size by omega) t,n,V,B.fU.aR.NQ n s,?_⟩
 intro I
 let⟨L,y⟩:=B.pO n (by simpa using s) 0
 have s4:I.size=x.size:=aw _ _ _ _
 refine⟨y.Q0 (show m.size<x.size by omega) t,(dW _ _).mono ?_⟩
 rintro _ m5 ⟨M,rfl,F,E⟩
 let⟨u,z⟩:=L.ext E
 have s5:=E.size
 refine⟨z.Q0 (show m.size<I.size by omega) t,M,rfl,λY=>?_,λX=>?_⟩
 .refine⟨n,V,u.fU.aR.NQ n (by simpa[jS]using s),?_⟩
  intro m6
  let⟨C,K⟩:=u.pO n (by simpa[jS]using s) 1
  refine⟨K.Q0 (show m.size<m5.size by omega) t,?_,(((t2.trans t3).trans y).trans z).trans K⟩
  have Q:gR (gR f.aR i 0) i 1=gR f.aR i 1:=by simp[gR,Xh]
  have v:gH w=1:=by rw[gH,an (F.1 Y)]
  simp only[Q]at C
  rw[v];exact C
 .refine⟨?_,((t2.trans t3).trans y).trans z⟩
  have v:gH w=0:=by rw[gH,ae (fb F X)]
  rw[v];exact u
def vW:∀(a:List Int)(g:List bM),(je g a).length=g.length
 |[],g=>rfl
 |w::a,g=>by rw[je,vW a];simp[mQ]
def Ed:∀(a:List Int)(g:List bM)(w:Int),je g (a++[w])=mQ (je g a) w
 |[],g,w=>rfl
 |v::a,g,w=>by rw[cZ,je,Ed a,je]
def zZ:∀(a:List Int)(g:List bM)(n:Int),(∀c∈g,-10<=c.aP/\c.aP<=n)->∀c∈je g a,-10<=c.aP/\c.aP<=n+a.length
 |[],g,n,h,c,b=>by have:=h c b;simp;omega
 |w::a,g,n,h,c,b=>by
  have:=zZ a (mQ g w) (n+1) (λd hd=>by
   rcases nL hd with rfl|⟨i,_,f⟩
   .simp only[aM];cases e:g[ix w]? with
    |none=>
     unfold mQ at hd;rw[rH (List.getElem?_eq_none_iff.1 e)]at hd;have:=h _ hd;simp only[aM,e]at this⊢;omega
    |some x=>have:=h x (aq e);simp only[vt];omega
   .have:=h d (aq f);omega) c b
  simp only[aZ];omega
def Dv(L:vy k e m g bJ (SB d p a aT b c) aT b c a.aT a.heap j){u:O}{l:List Int}(v:ap m u l)(P:l≠[]->e u.D=0)(K:∀w∈l,1000<=w/\ix w<a.heap.length)(H:∀h∈a.heap,-10<=h.aP/\h.aP<=999999)(Z:l.length<=1000000)(W:a.heap.length<=2000000000):
 aN cp 141 [vp g 0,O.v u] m λ_ s=>dK k.size e s b (je a.heap l)/\dp (λf=>f=3) e m e s:=by
 apply vk (g,0)
 have aa:=v.len
 have I:af m g 7=some (O.v b):=L.box.cg 7
 refine dU (n:=l.length) V (λf s=>dK k.size e s b (je a.heap (l.take f))/\dp (λf=>f=3) e m e s) ⟨L.heap,dp.az _ L.new⟩ ?_
 rintro f A S μ X ⟨i,q⟩ R
 refine dit (λF=>?_) λF=>?_
 .let⟨x,r⟩:=cG l f
  let⟨ab,z⟩:=K x (aq r)
  have y:l≠[]:=λB=>by rw[B]at r;simp at r
  have Q:ap A u l:=iQ v λ_=>q.eB _ (iF v y) (by rw[P y];decide)
  have w:af A g 7=some (O.v b):=by rw[aJ (q.eB _ L.box.lt (by rw[L.Qn];decide))];exact I
  have N:=i.len
  rw[vW]at N
  let⟨h,t⟩:=cG (je a.heap (l.take f)) (ix x) (by rw[vW];exact z)
  obtain⟨T,E,_⟩:=i.cg t
  have M:ix x=(x -1000).toNat:=rfl
  have C:cT (x -1000)=x -1000:=aQ V V
  have U:=zZ (l.take f) a.heap 999999 H h (aq t)
  have Y:((l.take f).length:Int)<=1000000:=bE
  have D:cT (h.aP+1)=h.aP+1:=aQ V V
  refine⟨V,V,x,by simpa using Q.aF r,b,w,b,w,?_⟩
  rw[C,<-M]
  refine⟨V,V,h.aP,E,V,V,i.wr (o:=0) (by rw[vW];exact z) bh,?_⟩
  rw[D]
  let⟨J,G⟩:=i.rp q.new t (h.aP+1)
  refine R V _ ⟨?_,q.trans G⟩
  rw[aU r,Ed]
  have:aM (je a.heap (l.take f)) x=h:=by simp[aM,t]
  unfold mQ
  rw[this];exact J
 .rw[bY V]at i
  exact⟨i,q⟩
def Bj(L:vy k e m g bJ (SB d p a aT b c) aT b c a.aT a.heap j){w:Int}(z:fY a.heap w){i:Nat->Int}(q:fN a.heap i)(M:a.heap.length<=2000000000):
 aN cp 188 [vp g 0,vi w] m λD t=>∃h:Bool,D=vb h/\(h=true<->(aM a.heap w).aP=1)/\dp (λx=>x=3) e m e t/\(h=true->dK k.size e t b a.heap)/\(h=false->dK k.size e t b (je (fj a.heap w) (kV (aM a.heap w).aE))):=by
 apply uh (g,0)
 let⟨f,ad⟩:=bS z
 have P:=av f
 have ab:=L.heap.len
 have N:ix w=(w -1000).toNat:=rfl
 have aa:=z.1
 have G:cT (w -1000)=w -1000:=aQ V V
 have r:af m g 7=some (O.v b):=L.box.cg 7
 have ac:=(q.cell _ (aq f)).hi
 have H:cT ((aM a.heap w).aP -1)=(aM a.heap w).aP -1:=aQ V V
 let⟨U,v,g1,g2,W,X⟩:=L.heap.cg f
 rw[G,<-N]
 refine⟨b,r,V,V,_,v,λn=>⟨true,rfl,by simpa using n,dp.az _ L.new,λ_=>L.heap,sx⟩,λn=>?_⟩
 simp only[aj]at n
 refine⟨b,r,b,r,V,V,_,v,V,V,L.heap.wr (o:=0) P bh,?_⟩
 rw[H]
 intro m1
 let⟨y,l⟩:=L.heap.rp L.new f ((aM a.heap w).aP -1)
 let⟨I,k0,k1,T,kf,kr⟩:=y.cg (eJ f)
 let⟨u,t1⟩:=L.gB (l.mono λx A=>Or.inl A) y
 have Z:=(q.cell _ (aq f)).fl
 refine⟨b,u.box.cg 7,V,V,I,T,?_⟩
 refine(oI kf (by simp only[];omega)).then (by have:=nO (aM a.heap w).aE;simp only[];omega) λC m2 o2 B x=>⟨C,rfl,?_⟩
 let⟨E,t2⟩:=u.ext x
 have R:kV (aM a.heap w).aE≠[]->e C.D=0:=λQ=>by
  rcases o2.D with i|i
  .subst i;have:=B.len;simp at this;exact absurd (List.length_eq_zero_iff.1 this.symm) Q
  .exact l.new _ i
 have:=nO (aM a.heap w).aE
 refine(Dv (a:={a with heap:=fj a.heap w}) (j:=j) E B R (λD S=>?_) (λF J=>?_) (by simp only[];omega) (by simpa[fj]using M)).mono ?_
 .let⟨K,A⟩:=lC.1 S
  exact⟨A,by simpa[fj]using av (bS (q.field (aq f) K A)).1⟩
 .rcases nL J with rfl|⟨h,_,A⟩
  .simp only[];omega
  .have:=q.cell F (aq A);have K:=this.lo;have Y:=this.hi;omega
 .rintro _ Y ⟨K,A⟩
  exact⟨false,rfl,by simpa using n,(l.trans (dp.eH _ x l.new)).trans A,sx,λ_=>K⟩
end
end
section
variable{q:Nat->Nat}{c:E}{e:Nat}{g:List Ce}{x:Instr}{a j:O}{b:Int}
def zi(c:Nat->Nat)(m:E)(a:List Nat):Prop:=∀b∈a,b<m.size/\c b=0
def zi.to{p:Nat->Prop}{e:Nat->Nat}{m:E}{d:List Nat}(h:zi e m d)(t:dp p e m q c):zi q c d:=λb a=>⟨aO (h b a).1 t.size,by rw[t.gU b (h b a).1];exact(h b a).2⟩
def dp.dI{b:Nat->Nat}{m:E}(t:To b m q c){a:List Nat}(h:zi b m a):eG a m c:=t.dv h
def zi.Kc{f:Nat->Nat}{m d e:E}(c:∀b,m.size<=b->f b=0)(g:d.size=m.size+1)(h:e.size=m.size+2):zi f e [d.size,m.size]:=λb a=>by
 simp at a;rcases a with rfl|rfl
 .exact⟨V,c _ V⟩
 .exact⟨V,c _ V⟩
noncomputable def nv (s:St) (a:List aX) (f:aX) (x:Instr) (t:Int):St:=
 open Classical in
 if x.bZ≠0/\aF f.ba (x.bZ -1)≠0 then
  {s with heap:=s.heap.set (ix (aF f.ba (x.bZ -1))) ⟨1,t,cL f x.args⟩,ao:=a++[aX.put {f with pc:=f.pc+1,ba:=gR f.ba (x.bZ -1) 0} x.dst (aF f.ba (x.bZ -1)) 1]}
 else{s with heap:=jd s.heap (dF s.heap) ⟨1,t,cL f x.args⟩,ao:=a++[aX.put {f with pc:=f.pc+1} x.dst (1000+dF s.heap) 1]}
section
variable{F:E}{A:Nat->Nat}{v:E}{D:Nat}{d p aT y B:O}{u:St}{C:List aX}{t:aX}{r z h:O}{G:List (List Ce)}
def ST.Ab{b:List Int}{a:List bM}(S:ST F A v D e g aT y B b a C t r z h G)(c:t.ak.length<=1000000):ap v r t.ak:=S.fU.ak.nJ V
def ST.Jo{b:List Int}{a:List bM}(S:ST F A v D e g aT y B b a C t r z h G)(c:t.aR.length<=1000000):ap v z t.aR:=S.fU.aR.nJ V
def ST.QP{b:List Int}{a:List bM}(S:ST F A v D e g aT y B b a C t r z h G)(c:t.ba.length<=1000000):ap v h t.ba:=S.fU.ba.nJ V
def uE(S:ST F A v D bJ (SB d p u aT y B) aT y B u.aT u.heap C t r z h G)(ha:ap F a x.args)(ah:∀b∈x.args,0<=b/\b<t.ak.length)(av:x.args.length<=4)(g:Int)
 (az:t.ak.length=t.aR.length/\t.ba.length=t.aR.length/\t.aR.length<=2000)(ai:0<=x.dst/\x.dst<t.aR.length)(ay:0<=x.bZ/\x.bZ<=t.ba.length)(aA:0<=t.pc/\t.pc<=100000)(ab:C.length<=100000)(aw:u.heap.length<=1000000000)
 (ak:∀w∈t.ba,w≠0->1000<=w/\ix w<u.heap.length):
 aN cp 137 [vp D 0,fv t r z h,xv x a j,vi g] v λ_ c=>yl F A v D d p (nv u C t x g) c:=by
 apply rU (D,0)
 simp -zeta only[aC,aB]
 intro w E
 have aq:J v E:=((J.az v).aK _).aK _
 have s1:w.size=v.size+1:=by simp[w]
 have s2:E.size=v.size+2:=by simp[E,s1]
 have T:=zi.Kc S.cQ.new s1 s2
 let⟨I,t2⟩:=S.ext aq
 clear_value E
 have ax:h.len=t.ba.length:=by have:=S.fU.ba.len;simp at this;omega
 have q:∀{A v t},ST F A v D bJ (SB d p u aT y B) aT y B u.aT u.heap C t r z h G->af v D 7=some (O.v y):=λS=>S.cQ.box.cg 7
 refine⟨y,q I,(Gt (I.cQ.heap.cells V)).mono ?_⟩
 rintro _ L ⟨rfl,ac⟩
 let⟨o,t3⟩:=I.ext ac
 have H:=T.to t3
 refine⟨t3.dI T,_,rfl,λaa c=>∃(b:Nat)(e:aX),aa=b/\ST F A c D bJ (SB d p u aT y B) aT y B u.aT u.heap C e r z h G/\To A v A c/\zi A c [w.size,v.size]/\b<=u.heap.length/\
  e.ak=t.ak/\e.aR=t.aR/\e.pc=t.pc/\nv u C t x g={u with heap:=jd u.heap b ⟨1,g,cL t x.args⟩,ao:=C++[aX.put {e with pc:=t.pc+1} x.dst (1000+b) 1]},?_,?_⟩
 .have none:¬(x.bZ≠0/\aF t.ba (x.bZ -1)≠0)->∃(b:Nat)(e:aX),((dF u.heap:Nat):Int)=b/\ST F A L D bJ (SB d p u aT y B) aT y B u.aT u.heap C e r z h G/\To A v A L/\zi A L [w.size,v.size]/\b<=u.heap.length/\
   e.ak=t.ak/\e.aR=t.aR/\e.pc=t.pc/\nv u C t x g={u with heap:=jd u.heap b ⟨1,g,cL t x.args⟩,ao:=C++[aX.put {e with pc:=t.pc+1} x.dst (1000+b) 1]}:=λU=>
   ⟨_,t,rfl,o,t2.trans t3,H,qv _,rfl,rfl,rfl,by rw[nv,ae U]⟩
  refine⟨λK=>?_,λK=>none λP=>by simp at K;omega⟩
  simp at K
  have Q:cT (x.bZ -1)=x.bZ -1:=aQ V V
  rw[Q]
  have k:0<=x.bZ -1/\x.bZ -1<t.ba.length:=V
  have N:=(o.QP V).pA k.1 k.2
  refine⟨V,V,_,N,λm=>?_,λm=>none λP=>by simp at m;exact P.2 m⟩
  simp at m
  let⟨W,Y⟩:=ak _ (fx k.1 k.2) m
  refine⟨V,V,_,N,V,V,o.fU.ba.NQ k.1 k.2,?_⟩
  intro M
  let⟨l,n⟩:=o.wX k.1 k.2 0
  have X:ix (aF t.ba (x.bZ -1))=(aF t.ba (x.bZ -1) -1000).toNat:=rfl
  have R:cT (aF t.ba (x.bZ -1) -1000)=((ix (aF t.ba (x.bZ -1)):Nat):Int):=by rw[aQ V V];omega
  refine⟨n.dI H,ix (aF t.ba (x.bZ -1)),_,R,l,(t2.trans t3).trans n,H.to n,V,rfl,rfl,rfl,?_⟩
  rw[nv,an ⟨V,m⟩,jd,ae V,il W]
 .rintro aa M ⟨b,e,rfl,l,n,U,ag,m,eo,ep,ec⟩
  have ar:J F M:=l.cQ.cy
  have al:ap M r t.ak:=m▸l.Ab (by rw[m];omega)
  refine⟨y,q l,(rW (f:=t) al (ha.ext ar) ah V).mono ?_⟩
  rintro _ m5 ⟨ws,rfl,ow,ad⟩
  let⟨k,N⟩:=l.ext ad
  have W:=U.to N
  have am:(cL t x.args).length<=1000000000:=by simp[cL];omega
  have iw:ap m5 ws (cL t x.args):=ap.gA ow V
  refine⟨N.dI U,ws,rfl,by rw[q k,q l],(MV k.cQ.heap k.cQ.new ag g iw V am k.cQ.cy.size).mono ?_⟩
  rintro _ m6 ⟨au,K,rfl,aj,c6⟩
  let⟨Z,P⟩:=k.gB c6 aj
  have X:=W.to P
  refine⟨P.dI W,K,rfl,Z.cQ.mw (i:=7) aL,?_⟩
  intro m7
  let⟨S7,Q⟩:=Z.jw 7 [.s K]
  have Y:=X.to Q
  have e3:cT (1000+(b:Int))=1000+(b:Int):=aQ V V
  have e4:cT (t.pc+1)=t.pc+1:=aQ V V
  rw[e3,e4]
  refine⟨Q.dI X,(tF (a:={u with heap:=jd u.heap b ⟨1,g,cL t x.args⟩}) S7 ab ai.1 (by rw[m];omega) (by rw[eo];omega) (1000+b)).mono ?_⟩
  rintro _ m8 ⟨S8,R⟩
  refine⟨R.dI Y,(jV (a:={u with heap:=jd u.heap b ⟨1,g,cL t x.args⟩}) S8 ab (t.pc+1)).mono ?_⟩
  rintro _ m9 ⟨S9,t9⟩
  refine⟨t9.dI (Y.to R),au,aT,K,B,?_,((((n.trans N).trans P).trans Q).trans R).trans t9⟩
  rw[ec]
  have e5:gH (1000+(b:Int))=1:=by rw[gH,an V]
  have:=S9.cQ
  rw[e5]at this
  exact this
def sB:∀(a aR:List Int)(r:Int),dE aR (a++[r])=gR (dE aR a) r (aF (dE aR a) r+1)
 |[],aR,r=>rfl
 |q::a,aR,r=>by rw[cZ,dE,sB a,dE]
def Fo{l:List Int}{i:Int}(h:∀z∈l,0<=z/\z<=b)(d:0<=b):0<=aF l i/\aF l i<=b:=by
 rcases aW i.toNat l.length with a|a
 .let⟨y,c⟩:=dB a;rw[Hx c];exact h y (aq c)
 .rw[aF,fS,cN a];simp;omega
def qM:∀(c aR:List Int)(b:Int),0<=b->(∀z∈aR,0<=z/\z<=b)->∀z∈dE aR c,0<=z/\z<=b+c.length
 |[],aR,b,e,h,z,d=>by have:=h z d;simp;omega
 |r::c,aR,b,e,h,z,d=>by
  have:=qM c (gR aR r (aF aR r+1)) (b+1) V (λq a=>by
   have:=Fo (i:=r) h e;rcases pG a with a|a
   .omega
   .have:=h q a;omega) z d
  simp only[aZ];omega
noncomputable def tn (u:St) (C:List aX) (t:aX) (x:Instr):St:=
 open Classical in
 if(aM u.heap (aF t.ak (aF x.args 0))).aP=1/\x.op=17 then
  {u with heap:=u.heap.set (ix (aF t.ak (aF x.args 0))) ⟨-1,0,dk (aM u.heap (aF t.ak (aF x.args 0))).aE.length⟩,ao:=C++[{t with aR:=dE t.aR (x.args.drop 1),pc:=t.pc+1,ba:=gR t.ba (aF x.args 0) (aF t.ak (aF x.args 0))}]}
 else{u with heap:=apart u.heap (aF t.ak (aF x.args 0)),ao:=C++[{t with aR:=dE t.aR (x.args.drop 1),pc:=t.pc+1}]}
def tR(b:Nat):mH [.i (0:Int)] b=(dk b).map Ce.i:=by
 induction b with
 |zero=>rfl
 |succ b a=>
  have:mH [.i (0:Int)] (b+1)=.i 0::mH [.i (0:Int)] b:=by simp[mH,qL]
  rw[this,a];simp[dk,qL]
def qV{v:E}(a:0<=b)(e:b<=1000000):aN cp 191 [vi b] v λd c=>d=O.v (.mk v.size 0 b.toNat b.toNat)/\c=v.push (.cells (bt ((dk b.toNat).map Ce.i)) aA):=by
 apply IS;refine⟨a,dg _,V,V,?_⟩;rw[tR];exact⟨rfl,rfl⟩
def NR{v:E}(b:Nat):gW v (v.push (.cells (bt ((dk b).map Ce.i)) aA)) aA 1 (.mk v.size 0 b b) ((dk b).map Ce.i):=gW.new (J.az v) aA 1 _ b (by simp[kd])
def IE(S:ST F A v D bJ (SB d p u aT y B) aT y B u.aT u.heap C t r z h G)(ha:ap F a x.args)(ao:∀g∈x.args,0<=g/\g<t.ak.length)(aJ:1<=x.args.length/\x.args.length<=4)(a1:x.op=16\/x.op=17)
 (aY:t.ak.length=t.aR.length/\t.ba.length=t.aR.length/\t.aR.length<=2000)(a2:0<=t.pc/\t.pc<=100000)(al:C.length<=100000)(aP:u.heap.length<=1000000000)(aH:∀Q∈t.aR,0<=Q/\Q<=999999)
 (ai:fY u.heap (aF t.ak (aF x.args 0))){e:Nat->Int}(hI:fN u.heap e):
 aN cp 144 [vp D 0,fv t r z h,xv x a j] v λ_ c=>yl F A v D d p (tn u C t x) c:=by
 apply sN (D,0)
 simp -zeta only[aC,aB]
 intro m1 m2
 have aI:J v m2:=((J.az v).aK _).aK _
 have s1:m1.size=v.size+1:=by simp[m1]
 have s2:m2.size=v.size+2:=by simp[m2,s1]
 have B2:=zi.Kc S.cQ.new s1 s2
 let⟨S2,t2⟩:=S.ext aI
 clear_value m2
 have a4:r.len=t.ak.length:=by have:=S.fU.ak.len;simp at this;omega
 have a0:z.len=t.aR.length:=by have:=S.fU.aR.len;simp at this;omega
 have aS:h.len=t.ba.length:=by have:=S.fU.ba.len;simp at this;omega
 have aK:=ha.len
 have H:0<=aF x.args 0/\aF x.args 0<t.ak.length:=ao _ (fx V V)
 have ga:∀{c},J F c->∀{b:Nat}{g},x.args[b]? =some g->af c a.D (a.off+Int.toNat (b:Int)*1)=some (vi g):=λhx b g W=>by simpa using(ha.ext hx).aF W
 refine⟨V,V,aF x.args 0,(ha.ext S2.cQ.cy).pA V V,H.1,V,aF t.ak (aF x.args 0),(S2.Ab V).pA H.1 H.2,?_⟩
 refine⟨λaj c=>∃b:Nat,aj=b/\1<=b/\b<=x.args.length/\ST F A c D bJ (SB d p u aT y B) aT y B u.aT u.heap C {t with aR:=dE t.aR ((x.args.take b).drop 1)} r z h G/\To A v A c/\zi A c [m1.size,v.size],λaj _=>((x.args.length:Int) -aj).toNat,⟨1,rfl,V,V,?_,t2,B2⟩,?_⟩
 .have e1:(x.args.take 1).drop 1=[]:=aL
  rw[e1];exact S2
 rintro aj m3 ⟨b,rfl,aV,aW,I,t3,Y⟩
 have aG:∀Q∈dE t.aR ((x.args.take b).drop 1),0<=Q/\Q<=1000010:=λQ hq=>by
  have:=qM _ t.aR 999999 V aH Q hq;have h3:((x.args.take b).drop 1).length<=4:=bE;omega
 refine dit (λh1=>?_) λh1=>?_
 .let⟨g,W⟩:=cG x.args b
  have K:=ao g (aq W)
  have M:g<(dE t.aR ((x.args.take b).drop 1)).length:=by rw[lM];omega
  have hb:=Fo (i:=g) aG V
  refine⟨V,V,g,ga I.cQ.cy W,V,V,g,ga I.cQ.cy W,K.1,V,_,(I.Jo (by simp only[lM];omega)).pA K.1 M,K.1,V,I.fU.aR.NQ K.1 M,?_⟩
  intro q
  have N:cT (aF (dE t.aR ((x.args.take b).drop 1)) g+1)=aF (dE t.aR ((x.args.take b).drop 1)) g+1:=aQ V V
  let⟨E,L⟩:=I.pO K.1 M (aF (dE t.aR ((x.args.take b).drop 1)) g+1)
  have P:q=ah m3 z.D (z.off+g.toNat*1) [.i (aF (dE t.aR ((x.args.take b).drop 1)) g+1)]:=by simp only[q,N]
  clear_value q
  subst P
  refine⟨L.dI Y,?_,?_⟩
  .rw[kC (k:=b) (n:=x.args.length) V V]
   refine⟨b+1,rfl,V,V,?_,t3.trans L,Y.to L⟩
   have e4:(x.args.take (b+1)).drop 1=(x.args.take b).drop 1++[g]:=by
    rw[aU W,List.drop_append_of_le_length bE]
   rw[e4,sB]
   exact E
  .rw[kC (k:=b) (n:=x.args.length) V V]
   show((x.args.length:Int) -((b+1:Nat):Int)).toNat<((x.args.length:Int) -(b:Int)).toNat
   omega
 .have e1:(x.args.take b).drop 1=x.args.drop 1:=by rw[bY V]
  rw[e1]at I
  have a5:=il ai.1
  let⟨ak,a3⟩:=bS ai
  have ag:=av ak
  have aZ:=I.cQ.heap.len
  have e4:cT (t.pc+1)=t.pc+1:=aQ V V
  have aX:=ai.1
  have aE:ix (aF t.ak (aF x.args 0))=(aF t.ak (aF x.args 0) -1000).toNat:=rfl
  have e5:cT (aF t.ak (aF x.args 0) -1000)=aF t.ak (aF x.args 0) -1000:=aQ V V
  rw[e4,e5,<-aE]
  generalize hw:aF t.ak (aF x.args 0)=w at*
  have gw:∀{A v lh own' held'},ST F A v D bJ (SB d p u aT y B) aT y B u.aT lh C {t with aR:=own',ba:=held'} r z h G->af v r.D (r.off+Int.toNat (aF x.args 0)*1)=some (vi w):=λS=>by rw[<-hw];exact(S.Ab (by simp only[];omega)).pA H.1 H.2
  refine⟨H.1,V,w,gw I,(Bj I.cQ ai hI V).mono ?_⟩
  rintro _ q ⟨ax,rfl,hb,c4,aD,az⟩
  refine⟨(c4.mono λb N=>by omega:To A m3 A q).dI Y,ax,rfl,λau=>?_,λar=>?_⟩
  .have ac:=hb.1 au
   let⟨E,L⟩:=I.gB (c4.mono λb N=>Or.inl N) (aD au)
   have B4:=Y.to L
   have g7:af q D 7=some (O.v y):=E.cQ.box.cg 7
   refine⟨λaa=>?_,λaa=>?_⟩
   .simp at aa
    let⟨f0,k0,k1,k2,kf,kr⟩:=E.cQ.heap.cg ak
    have ay:=(hI.cell _ (aq ak)).fl
    have aO:=kf.len
    refine⟨y,g7,y,g7,V,V,f0,k2,(qV V V).mono ?_⟩
    rintro _ m5 ⟨rfl,rfl⟩
    have e6:Int.toNat (f0.len:Int)=(aM u.heap w).aE.length:=V
    rw[e6]
    have ab:J q (q.push (.cells (bt ((dk (aM u.heap w).aE.length).map Ce.i)) aA)):=J.push _ _
    have oz:=NR (v:=q) (aM u.heap w).aE.length
    let⟨K,M⟩:=E.ext ab
    have Z:=B4.to M
    have aw:A q.size=0:=E.cQ.new _ (ad _)
    generalize q.push (.cells (bt ((dk (aM u.heap w).aE.length).map Ce.i)) aA)=m5 at*
    let⟨am,c6⟩:=K.cQ.heap.setCell K.cQ.new ag (-1) 0 (f:=.mk q.size 0 _ _) (ap.gA oz (by rw[kd];omega)) (Rc.of E.cQ.heap (λH=>ab.same _ (E.cQ.heap.D H).2) (λ_=>oz) (λ_=>aw) E.cQ.cy.size)
    refine⟨M.dI B4,_,rfl,ab.da g7,V,V,K.cQ.heap.wr (o:=0) ag bh,?_⟩
    intro m6
    let⟨P,R⟩:=K.gB (c6.mono λb N=>Or.inl N) am
    have B6:=Z.to R
    refine⟨R.dI Z,H.1,V,w,gw P,H.1,V,P.fU.ba.NQ H.1 (by simp only[];omega),?_⟩
    intro m7
    let⟨U,T⟩:=P.wX H.1 (by simp only[];omega) w
    refine⟨T.dI B6,(jV (a:={u with heap:=u.heap.set (ix w) ⟨-1,0,dk (aM u.heap w).aE.length⟩}) U al (t.pc+1)).mono ?_⟩
    rintro _ m8 ⟨S8,X⟩
    refine⟨X.dI (B6.to T),A,aT,y,B,?_,(((((t3.trans L).trans M).trans R).trans T).trans X)⟩
    rw[tn,hw,an ⟨ac,aa⟩]
    exact S8.cQ
   .simp at aa
    refine⟨y,g7,?_⟩
    intro m5
    have ab:J q m5:=(J.az q).aK _
    let⟨K,M⟩:=E.ext ab
    have Z:=B4.to M
    clear_value m5
    refine⟨V,V,K.cQ.heap.wr (o:=0) ag bh,?_⟩
    intro m6
    let⟨am,c6⟩:=K.cQ.heap.setCell K.cQ.new ag 0 0 (f:=.mk q.size 0 0 0) (l:=[]) ⟨rfl,aL,aL,aL⟩ (λaw=>absurd rfl aw)
    let⟨P,R⟩:=K.gB (c6.mono λb N=>Or.inl N) am
    have B6:=Z.to R
    refine⟨R.dI Z,y,P.cQ.box.cg 7,(xF (P.cQ.heap.cells bE)).mono ?_⟩
    rintro _ m7 ⟨rfl,ay⟩
    let⟨U,T⟩:=P.ext ay
    have B7:=B6.to T
    refine⟨T.dI B6,_,rfl,U.cQ.mw (i:=7) aL,?_⟩
    intro m8
    obtain⟨aw,aO⟩:=U.gB (dp.az _ U.cQ.new) (U.cQ.heap.cut (tL _ _))
    obtain⟨S8,X⟩:=aw.jw 7 [.s (y.cut 0 (ji (u.heap.set (ix w) iZ) (u.heap.set (ix w) iZ).length) 3)]
    refine⟨X.dI B7,(jV (a:={u with heap:=ns (u.heap.set (ix w) iZ)}) S8 al (t.pc+1)).mono ?_⟩
    rintro _ m9 ⟨S9,t9⟩
    refine⟨t9.dI (B7.to X),A,aT,y.cut 0 (ji (u.heap.set (ix w) iZ) (u.heap.set (ix w) iZ).length) 3,B,?_,((((((t3.trans L).trans M).trans R).trans T).trans X).trans t9)⟩
    rw[tn,hw,ae (λhh=>aa hh.2),Go.Proofs.YtkoifinbblcbiaaGreat.apart,an ac]
    exact S9.cQ
  .have ac:(aM u.heap w).aP≠1:=λe=>by have:=hb.2 e;rw[ar]at this;simp at this
   let⟨E,L⟩:=I.gB (c4.mono λb N=>Or.inl N) (az ar)
   refine(jV (a:={u with heap:=je (fj u.heap w) (kV (aM u.heap w).aE)}) E al (t.pc+1)).mono ?_
   rintro _ m5 ⟨K,M⟩
   refine⟨M.dI (Y.to L),A,aT,y,B,?_,(t3.trans L).trans M⟩
   rw[tn,hw,ae (λhh=>ac hh.1),Go.Proofs.YtkoifinbblcbiaaGreat.apart,ae ac]
   exact K.cQ
end
end
section
variable{e:cO}{c:Instr}{j:O}{l:List Int}{g b1 b2 b3 k:Nat}{b:E}
def iJ(e:cO)(c:Instr):Nat->List Int->List Int
 |_,[]=>[]
 |k,w::j=>(if(c.op=9\/c.op=24)/\ny e c k=true then 0 else gH w)::iJ e c (k+1) j
def Ds(e:cO)(c:Instr):∀(l r:List Int)(k:Nat),iJ e c k (l++r)=iJ e c k l++iJ e c (k+l.length) r
 |[],r,k=>by simp[iJ]
 |b::l,r,k=>by
  have:=Ds e c l r (k+1);simp only[cZ,iJ,this,aZ];have a:k+(l.length+1)=k+1+l.length:=V;rw[a]
def D0(e:cO)(c:Instr):∀(l:List Int)(k:Nat),(iJ e c k l).length=l.length
 |[],k=>rfl
 |a::l,k=>by simp only[iJ,aZ,D0 e c l]
def Jn{e:cO}{c:Instr}(a:c.op=9\/c.op=24):∀(l:List Int)(k:Nat),iJ e c k l=dL (dO e c.bP).cR k l
 |[],k=>rfl
 |d::l,k=>by
  simp only[iJ,dL,Jn a l];congr 1;unfold ny;by_cases h:((dO e c.bP).cR.any λy=>y==(k:Int))=true
  .rw[an ⟨a,h⟩,an h]
  .rw[ae (λb=>h b.2),ae h]
def Ga{e:cO}{c:Instr}(a:¬(c.op=9\/c.op=24)):∀(l:List Int)(k:Nat),iJ e c k l=dL [] k l
 |[],k=>rfl
 |d::l,k=>by
  simp only[iJ,dL,Ga a l,Qi,jm,rI];rw[ae (λb=>a b.1)]
def EI{m:E}{p:Nat}{r A:O}(aa:fw m r A e)(T:af m p 0=some (O.v r))(g1:af m p 1=some (O.v A))(Z:zj e c)(D P:O)(K:ap m j l)(ac:l.length<=1000000):
 ov 190 [vp p 0,xv c D P,O.v j] m (iJ e c 0 l):=by
 apply rE (p,0)
 simp -zeta only[aC,aB]
 intro a y
 have w:J m a:=(J.az m).aK _
 have W:J a y:=(J.az a).aK _
 have ho:gW a y aA 1 (.mk a.size 0 0 0) []:=gW.new (J.az a) aA 1 [] 0 aL
 have f:∀q∈[m.size],q<a.size:=by simp[a]
 have ad:=K.len
 clear_value y
 clear_value a
 refine eA (n:=l.length) V (λk B b=>J a b/\gW a b aA 1 B ((iJ e c 0 (l.take k)).map Ce.i)) ⟨W,by simpa[iJ]using ho⟩ ?_
 rintro k B m3 ab μ hk ⟨L,g⟩ z
 have M:=w.trans L
 refine dit (λU=>?_) λU=>?_
 .let⟨C,N⟩:=cG l k
  have I:(l.take k).length=k:=bE
  have v:iJ e c 0 (l.take (k+1))=iJ e c 0 (l.take k)++[if(c.op=9\/c.op=24)/\ny e c k=true then 0 else gH C]:=by
   rw[aU N,Ds,I];simp[iJ]
  have u:(iJ e c 0 (l.take k)).length<1000000000:=by rw[D0,I];omega
  refine⟨V,V,C,by simpa using M.af (K.aF N),(dW _ _).aH L f λq m4 G s i=>⟨q,rfl,λY=>?_,λX=>?_⟩⟩
  .have x:=w.trans i
   refine⟨r,x.af T,A,x.af g1,(rT (aa.ext x) Z D P k).aH i f λb2 m5 H F o=>⟨b2,rfl,λt=>?_,λt=>?_⟩⟩
   .intro Q
    refine nN ((g.ext s).ext F) o u λS R h d=>⟨J.tw (o.aK _) d f,z V _ _ ⟨d,?_⟩⟩
    rw[v,ae (nb H t),gH,an (G.1 Y)];exact h
   .intro Q
    refine nN ((g.ext s).ext F) o u λS R h d=>⟨J.tw (o.aK _) d f,z V _ _ ⟨d,?_⟩⟩
    rw[v,an (yb H t)];exact h
  .intro Q
   refine nN (g.ext s) i u λS R h d=>⟨J.tw (i.aK _) d f,z V _ _ ⟨d,?_⟩⟩
   rw[v]
   have o:(if(c.op=9\/c.op=24)/\ny e c k=true then 0 else gH C)=0:=by
    rw[gH,ae (fb G X)];split<;>rfl
   rw[o];exact h
 .rw[bY V]at g
  exact⟨B,rfl,g.cy w.size,M⟩
structure qW(m b:E)(b1 b2 b3 g:Nat)(ak aR ba:List Int):Prop where
 ext:J m b
 lo:m.size<=b1/\m.size<=b2/\m.size<=b3/\b1≠b2/\b1≠b3/\b2≠b3/\b1<b.size/\b2<b.size/\b3<b.size
 kr:cE b b1 aA (ak.map Ce.i)
 ko:cE b b2 aA (aR.map Ce.i)
 kh:cE b b3 aA (ba.map Ce.i)
 len:ak.length=g/\aR.length=g/\ba.length=g
def KM{a:E}{b:Nat}(d:cE a b aA ((dk g).map Ce.i))(f:l.length<=g):cE (ah a b 0 (l.map Ce.i)) b aA ((l++dk (g -l.length)).map Ce.i):=by
 have:=cE.ah (m:=a) (o:=0) (r:=l.map Ce.i) d;have e:jb ((dk g).map Ce.i) 0 (l.map Ce.i)=(l++dk (g -l.length)).map Ce.i:=by
  have c:=BV [] (l.map Ce.i) ((dk g).map Ce.i) (by simp[kd];omega);simp only[eF,eW]at c;rw[c];simp[dk,List.drop_replicate]
 rw[e]at this;exact this
def xZ{m:E}{H R:O}(K:fw m H R e){r:Int}(S:0<=r){q:dy}(M:e.cF[r.toNat]? =some q)(C:0<=q.ak/\q.ak<=2000)(I:Int){G:O}{d h:List Int}(N:ap m j d)(L:ap m G h)(ag:(d.length:Int)<=q.ak)(ae:h.length=d.length):
 aN cp 159 [.agg #[O.v H,O.v R],vi r,vi I,O.v j,O.v G] m λab b=>∃b1 b2 b3,ab=.agg #[vi r,vi 0,vi I,O.v (.mk b1 0 q.ak.toNat q.ak.toNat),O.v (.mk b2 0 q.ak.toNat q.ak.toNat),O.v (.mk b3 0 q.ak.toNat q.ak.toNat)]/\
  qW m b b1 b2 b3 q.ak.toNat (d++dk (q.ak.toNat -d.length)) (h++dk (q.ak.toNat -h.length)) (dk q.ak.toNat):=by
 apply Ew
 simp -zeta only[aC,aB]
 intro x a
 have w:J m a:=((J.az m).aK _).aK _
 have s1:x.size=m.size+1:=by simp[x]
 have s2:a.size=m.size+2:=by simp[a,s1]
 have k:∀g∈[x.size,m.size],g<a.size:=bE
 have af:=K.cF.len
 have ac:=av M
 have X:=N.len
 have W:=L.len
 clear_value a
 obtain⟨a',l',c',_,_,_,_,_,_,k3,_⟩:=(K.ext w).cF.aF M
 refine⟨S,V,q.ak,k3,(qV C.1 V).mono ?_⟩
 rintro _ c ⟨rfl,n⟩
 have z:J a c:=by rw[n];exact J.push _ _
 have s3:c.size=a.size+1:=by rw[n];simp
 have P:cE c a.size aA ((dk q.ak.toNat).map Ce.i):=by rw[n];exact cE.push _ _ _
 clear n
 refine⟨z.dv k,_,rfl,(qV C.1 V).mono ?_⟩
 rintro _ y ⟨rfl,o⟩
 have u:J c y:=by rw[o];exact J.push _ _
 have s4:y.size=c.size+1:=by rw[o];simp
 have Z:cE y c.size aA ((dk q.ak.toNat).map Ce.i):=by rw[o];exact cE.push _ _ _
 clear o
 have A:=z.trans u
 have T:min j.len q.ak.toNat=d.length:=by rw[X];exact jc V
 have U:min G.len q.ak.toNat=h.length:=by rw[W];exact jc V
 refine⟨u.dv (λg B=>z.lt (k g B)),_,rfl,d.map Ce.i,by simp only[O.gF];rw[T];simp,(N.ext (w.trans A)).H9,(P.ext u).fK (by simp[kd];omega),?_⟩
 intro i
 have k5:cE i a.size aA ((d++dk (q.ak.toNat -d.length)).map Ce.i):=KM (P.ext u) V
 have Q:cE i c.size aA ((dk q.ak.toNat).map Ce.i):=Z.congr (bd _ _ _ _ (show c.size≠a.size by omega))
 have s:J a i:=A.ah (ad _) _ _
 have s5:i.size=y.size:=aw _ _ _ _
 clear_value i
 refine⟨J.tw A s k,h.map Ce.i,by simp only[O.gF];rw[U];simp,(L.ext (w.trans s)).H9,Q.fK (by simp[kd];omega),?_⟩
 intro f
 have k6:cE f c.size aA ((h++dk (q.ak.toNat -h.length)).map Ce.i):=KM Q V
 have aa:cE f a.size aA ((d++dk (q.ak.toNat -d.length)).map Ce.i):=k5.congr (bd _ _ _ _ (show a.size≠c.size by omega))
 have t:J a f:=s.ah (show a.size<=c.size by omega) _ _
 have s6:f.size=i.size:=aw _ _ _ _
 clear_value f
 refine⟨J.tw s t k,(qV C.1 V).mono ?_⟩
 rintro _ l ⟨rfl,p⟩
 have v:J f l:=by rw[p];exact J.push _ _
 have s7:l.size=f.size+1:=by rw[p];simp
 have k7:cE l f.size aA ((dk q.ak.toNat).map Ce.i):=by rw[p];exact cE.push _ _ _
 clear p
 refine⟨J.tw t (t.trans v) k,_,rfl,?_⟩
 intro D
 have Y:J m D:=(w.trans (t.trans v)).ah V _ _
 have s8:D.size=l.size:=aw _ _ _ _
 have F:∀g,g≠x.size->D[g]? =l[g]? :=λg B=>bd _ _ _ _ B
 refine⟨a.size,c.size,f.size,rfl,Y,V,(aa.ext v).congr (F _ V),(k6.ext v).congr (F _ V),k7.congr (F _ V),by simp[kd];omega⟩
def pL(a:Nat->Nat)(b1 b2 b3 g:Nat):Nat->Nat:=od (od (od a b1 (10+3*g)) b2 (11+3*g)) b3 (12+3*g)
def qW.eI{p:Nat->Prop}{d:Nat->Nat}{m:E}{ak aR ba:List Int}(N:qW m b b1 b2 b3 k ak aR ba)(e:∀a,m.size<=a->d a=0):dp p d m (pL d b1 b2 b3 g) b:=by
 have f:=N.lo;refine⟨N.ext.size,λa c=>?_,λa c=>?_,λa c _=>N.ext.same a c⟩
 .unfold pL;rw[eV V,eV V,eV V]
 .unfold pL;rw[eV V,eV V,eV V];exact e a (oh N.ext.size)
def qW.p7{a:Nat->Nat}{m:E}{ak aR ba:List Int}(N:qW m b b1 b2 b3 k ak aR ba):
 iG (pL a b1 b2 b3 g) b aA 1 (10+3*g) (.mk b1 0 k k) (ak.map Ce.i)/\iG (pL a b1 b2 b3 g) b aA 1 (11+3*g) (.mk b2 0 k k) (aR.map Ce.i)/\iG (pL a b1 b2 b3 g) b aA 1 (12+3*g) (.mk b3 0 k k) (ba.map Ce.i):=by
 have f:=N.lo
 let⟨c,d,e⟩:=N.len
 refine⟨⟨by simp[c],aL,Or.inr ⟨b1,k,[],rfl,?_,by rw[dY];exact N.kr,by simp[c]⟩⟩,⟨by simp[d],aL,Or.inr ⟨b2,k,[],rfl,?_,by rw[dY];exact N.ko,by simp[d]⟩⟩,⟨by simp[e],aL,Or.inr ⟨b3,k,[],rfl,?_,by rw[dY];exact N.kh,by simp[e]⟩⟩⟩
 .unfold pL;rw[eV V,eV V,fI]
 .unfold pL;rw[eV V,fI]
 .unfold pL;rw[fI]
def qW.box{m:E}{ak aR ba:List Int}(N:qW m b b1 b2 b3 k ak aR ba){m1:E}(a:J m1 m){nb:Nat}(d:m1.size<=nb)(e:nb<m.size)(i:Nat)(c:List Ce):qW m1 (ah b nb i c) b1 b2 b3 k ak aR ba:=by
 have f:=N.lo;have g:=a.size;exact⟨(a.trans N.ext).ah d _ _,by rw[aw];omega,N.kr.congr (bd _ _ _ _ V),N.ko.congr (bd _ _ _ _ V),N.kh.congr (bd _ _ _ _ V),N.len⟩
def qW.Se{m c:E}{ak aR ba:List Int}(N:qW m b b1 b2 b3 k ak aR ba)(a:J b c):qW m c b1 b2 b3 k ak aR ba:=by
 have d:=N.lo;have:=a.size;exact⟨N.ext.trans a,V,N.kr.ext a,N.ko.ext a,N.kh.ext a,N.len⟩
section
variable{B:E}{v:Nat->Nat}{m:E}{w:Nat}{d p aT z t:O}{s:St}{q:List aX}{u:aX}{D C A:O}{y:List (List Ce)}
def sW.replace{c:Nat->Nat}(T:sW v m t q u D C A y)(s:dp (λ_=>False) v m c b){a:aX}{g e d:O}(w:iG c b aA 1 (10+3*q.length) g (a.ak.map Ce.i))(n:iG c b aA 1 (11+3*q.length) e (a.aR.map Ce.i))(p:iG c b aA 1 (12+3*q.length) d (a.ba.map Ce.i)):
 fK b t.D (t.off+q.length*6) 6/\nG c (ah b t.D (t.off+q.length*6) [.i a.fE,.i a.pc,.i a.dst,.s g,.s e,.s d]) t (q++[a])/\dp (λk=>k=4) c b c (ah b t.D (t.off+q.length*6) [.i a.fE,.i a.pc,.i a.dst,.s g,.s e,.s d]):=by
 have j:sW c b t q u D C A y:=T.eI s λ_ _=>id
 have l:y.flatten.length=q.length*6:=by rw[cw T.size,T.len]
 have i:dp (λk=>k=4) c b c (ah b t.D (t.off+q.length*6) [.i a.fE,.i a.pc,.i a.dst,.s g,.s e,.s d]):=dp.ah s.new j.D.1 _ _
 refine⟨j.p7.wr (by simp[l]),sW.sU (f:=a) (a:=q) (j:=y) (r:=g) (e:=e) (h:=d) ⟨?_,T.len,T.size,j.xS i λk n p=>V,w.eI i V,n.eI i V,p.eI i V⟩,i⟩
 have:=j.p7.set (o:=q.length*6) (new:=[.i a.fE,.i a.pc,.i a.dst,.s g,.s e,.s d]) (by simp[l])
 rw[lD _ _ _ _ V,l,Ql]at this
 exact this
def Ng(w nb:Nat)(d:List Nat)(k n f:Int)(g g1 g2:Int)(l j h:O)(e:E)(R:Value->E->Prop):Prop:=
 ((k==(24:Int))=true->
 let b:E:=ah e nb 2 [.i f]
 ∃a:O,af b w 8=some (O.v a)/\
 ∃c:O,af b w 8=some (O.v c)/\
 (0:Int)<=(cT ((c.len:Int) -(1:Int)))/\(cT ((c.len:Int) -(1:Int)))<(a.len:Int)/\
 fK b a.D (a.off+Int.toNat (cT ((c.len:Int) -(1:Int)))*6) 6/\
 let i:E:=ah b a.D (a.off+Int.toNat (cT ((c.len:Int) -(1:Int)))*6) [.i g,.i g1,.i f,.s l,.s j,.s h]
 eG (nb::d) b i/\
 R (.tuple #[]) i)/\
 ((k==(24:Int))=false->
 aN cp 142 [vp w 0,vi (cT (n+(1:Int)))] e λ_ a=>
 eG (nb::d) e a/\
 ∃m:O,af a w 8=some (O.v m)/\
 let c:E:=a.push (.cells (bt [.i g,.i g1,.i g2,.s l,.s j,.s h]) dP)
 af c w 8=af a w 8/\
 jL c dP [.i (0:Int),.i (0:Int),.i (0:Int),.s O.nil,.s O.nil,.s O.nil] 96 m (O.mk a.size 0 1 1) λo b=>
 eG (nb::d) c b/\
 fK b w 8 1/\
 let i:E:=ah b w 8 [.s o]
 eG (nb::d) b i/\
 R (.tuple #[]) i)
def Oo(S:ST B v m w bJ (SB d p s aT z t) aT z t s.aT s.heap q u D C A y){W:List Nat}(G:zi v m W){nb:Nat}{h:E}{g:aX}(N:qW m h b1 b2 b3 k g.ak g.aR g.ba)(ah:m.size<=nb/\nb<h.size)(r:nb≠b1/\nb≠b2/\nb≠b3)
 (az:q.length<=100000)(aD:0<=u.pc/\u.pc<=100000){R:Value->E->Prop}
 (ar:c.op=24->∀b,yl B v m w d p {s with ao:=q++[{g with dst:=u.dst}]} b->R (.tuple #[]) b)
 (au:c.op≠24->∀b,yl B v m w d p {s with ao:=q++[{u with pc:=u.pc+1},g]} b->R (.tuple #[]) b):
 Ng w nb W c.op u.pc u.dst g.fE g.pc g.dst (.mk b1 0 k k) (.mk b2 0 k k) (.mk b3 0 k k) h R:=by
 have aB:=N.lo
 have ay:=S.fU.xO
 have F:cT ((t.len:Int) -1)=(q.length:Int):=by rw[aQ V V];omega
 have e2:Int.toNat (q.length:Int)=q.length:=V
 have e4:cT (u.pc+1)=u.pc+1:=aQ V V
 have ai:v nb=0:=S.cQ.new _ ah.1
 have aC:=N.ext.size
 refine⟨λM=>?_,λM=>?_⟩
 .intro H
  have P:qW m H b1 b2 b3 k g.ak g.aR g.ba:=⟨N.ext.ah ah.1 _ _,by simp only[H,aw];omega,N.kr.congr (bd _ _ _ _ (λF=>r.1 F.symm)),N.ko.congr (bd _ _ _ _ (λF=>r.2.1 F.symm)),N.kh.congr (bd _ _ _ _ (λF=>r.2.2 F.symm)),N.len⟩
  have ab:H.size=h.size:=aw _ _ _ _
  clear_value H
  have o:dp (λ_=>False) v m (pL v b1 b2 b3 q.length) H:=P.eI S.cQ.new
  let⟨U,a2,a3⟩:=P.p7 (a:=v) (g:=q.length)
  let⟨Z,w2,I⟩:=S.fU.replace o (a:={g with dst:=u.dst}) U a2 a3
  let⟨L,X⟩:=S.cQ.gB (o.mono λ_=>False.elim) (S.cQ.heap.eI o id id)
  have K:af H w 8=some (O.v t):=L.box.cg 8
  refine⟨t,K,t,K,?_⟩
  rw[F,e2]
  refine⟨V,V,Z,?_⟩
  intro aa
  let⟨T,Y⟩:=L.jJ (I.mono λk Q=>V) w2
  refine⟨?_,ar (by simpa using M) _ ⟨_,aT,z,t,T,X.trans Y⟩⟩
  intro j e
  rcases List.mem_cons.1 e with rfl|e
  .refine I.eB _ V ?_
   unfold pL;rw[eV r.2.2,eV r.2.1,eV r.1,ai];decide
  .refine I.eB _ (oh ((G j e).1)) ?_
   rw[o.gU j (G j e).1,(G j e).2];decide
 .simp only[aj]at M
  rw[e4]
  have o:dp (λ_=>False) v m (pL v b1 b2 b3 (q.length+1)) h:=N.eI S.cQ.new
  let⟨U,a2,a3⟩:=N.p7 (a:=v) (g:=q.length+1)
  let⟨ap,ax⟩:=S.cQ.gB (o.mono λ_=>False.elim) (S.cQ.heap.eI o id id)
  have I:ST B (pL v b1 b2 b3 (q.length+1)) h w bJ (SB d p s aT z t) aT z t s.aT s.heap q u D C A y:=⟨ap,S.fU.eI o λ_ _=>id⟩
  have ag:zi (pL v b1 b2 b3 (q.length+1)) h (nb::W):=λj e=>by
   rcases List.mem_cons.1 e with rfl|e
   .refine⟨V,?_⟩;unfold pL;rw[eV r.2.2,eV r.2.1,eV r.1,ai]
   .exact⟨by have:=(G j e).1;omega,by rw[o.gU j (G j e).1];exact(G j e).2⟩
  apply oV (w,0)
  have K:af h w 8=some (O.v t):=I.cQ.box.cg 8
  refine⟨t,K,t,K,?_⟩
  rw[F,e2]
  refine⟨V,V,I.fU.U9,?_⟩
  intro H
  let⟨L,aa⟩:=I.NM (u.pc+1)
  have aq:dp (λk=>k=4) (pL v b1 b2 b3 (q.length+1)) h (pL v b1 b2 b3 (q.length+1)) H:=dp.ah I.cQ.new I.fU.D.1 _ _
  refine⟨aa.dI ag,t,L.cQ.box.cg 8,?_⟩
  intro Z
  have Y:J H Z:=(J.az H).aK _
  let⟨T,am⟩:=L.ext Y
  have ac:=(ag.to aa).to am
  have ju:fQ Z H.size 0 [.i g.fE,.i g.pc,.i g.dst,.s (.mk b1 0 k k),.s (.mk b2 0 k k),.s (.mk b3 0 k k)]:=(cE.push H _ _).iB
  have P:(q++[{u with pc:=u.pc+1}]).length=q.length+1:=aL
  have X:=λ{k:Nat}{s:O}{l:List Ce}(a:iG (pL v b1 b2 b3 (q.length+1)) h aA 1 k s l)(Q:k≠4)=>(a.eI aq Q).eI (dp.eH (λ_=>False) Y L.cQ.new) id
  refine⟨Y.da (L.cQ.box.cg 8),nG.push T.cQ.ao T.cQ.new (x:=.mk H.size 0 1 1) rfl (a:=g) ju (by rw[P];exact X U V) (by rw[P];exact X a2 V) (by rw[P];exact X a3 V) (by rw[P];omega) λal ak av q1 q2=>?_⟩
  have ab:To _ Z al av:=q2.mono λk Q=>V
  let⟨ad,aF⟩:=T.cQ.jJ (q2.mono λk Q=>V) q1
  refine⟨ab.dI ac,ad.mw (i:=8) aL,?_⟩
  intro aE
  let⟨ae,an⟩:=ad.jw 8 [.s ak]
  refine⟨an.dI (ac.to ab),au M _ ⟨al,aT,z,ak,?_,(((ax.trans aa).trans am).trans ab).trans an⟩⟩
  have e9:q++[{u with pc:=u.pc+1}]++[g]=q++[{u with pc:=u.pc+1},g]:=aL
  rw[e9]at ae
  exact ae
end
end
section
variable{a:cO}
noncomputable def qO (a:cO) (s:St) (b:List aX) (f:aX) (x:Instr):St:=
 if x.op=9 then{s with bu:=s.bu+1,ao:=b++[{f with pc:=f.pc+1},bX a x.bP x.dst (cL f x.args)]}
 else if x.op=24 then{s with bu:=s.bu+1,ao:=b++[bX a x.bP f.dst (cL f x.args)]}
 else{s with bu:=s.bu+1,heap:=apart s.heap (aF f.ak (aF x.args 0)),ao:=b++[{f with pc:=f.pc+1},bX a ((aM s.heap (aF f.ak (aF x.args 0))).j9 -cr a) x.dst ((aM s.heap (aF f.ak (aF x.args 0))).aE++[aF f.ak (aF x.args 1)])]}
section
variable{u:E}{n:Nat->Nat}{m:E}{q:Nat}{d p aT t j:O}{b:St}{e:List aX}{c:aX}{r v h:O}{y:List (List Ce)}
def ST.rv(S:ST u n m q bJ (SB d p b aT t j) aT t j b.aT b.heap e c r v h y)(g:fw u d p a)(k:b.aT.length<=2000000000)(i:b.heap.length<=2000000000)(f:jy m j (e++[c])):
 RV m q 2 d p aT t j a {b with ao:=e++[c]}:=
 ⟨g.ext S.cQ.cy,S.cQ.box.cg 0,S.cQ.box.cg 1,S.cQ.box.cg 2,S.cQ.box.cg 3,S.cQ.box.cg 4,S.cQ.box.cg 5,S.cQ.box.cg 6,S.cQ.box.cg 7,S.cQ.box.cg 8,S.cQ.aT.nJ V,S.cQ.heap.cells V,f⟩
def nG.Ec{e:List aX}(b:nG n m j e)(A:e.length<=2000000000)(q:∀c∈e,c.ak.length<=1000000/\c.aR.length<=1000000/\c.ba.length<=1000000):jy m j e:=by
 let⟨y,a,f,g,p⟩:=b;have t:j.len=e.length:=by have:=a.len;rw[cw g,f]at this;omega
 refine⟨t,a.le,V,λk x d=>?_⟩;let⟨o,i⟩:=cG y k (by rw[f];exact av d);obtain⟨r,v,h,rfl,w,u,b⟩:=p k o x i d;let⟨B,C,D⟩:=q x (aq d);refine⟨_,⟨r,v,h,rfl,w.nJ V,u.nJ V,b.nJ V⟩,λz l s=>?_⟩;have:=a.iB (k*6+z) l (fW g i s);rwa[<-dj]at this
def MQ(al:ST u n m q bJ (SB d p b aT t j) aT t j b.aT b.heap e c r v h y)(aP:fw u d p a)(aE:nl a){z:Instr}{aa ah:O}(ha:ap u aa z.args)(bn:∀D∈z.args,0<=D/\D<c.ak.length)(bO:z.args.length<=4)
 (b0:z.op=9\/z.op=24\/z.op=11)(a4:(z.op=9\/z.op=24)->vA a z.bP z.args.length)(bm:z.op=11->z.args.length=2/\vz a b.heap (aF c.ak (aF z.args 0)))
 (bY:c.ak.length=c.aR.length/\c.ba.length=c.aR.length/\c.aR.length<=2000)(bl:∀K∈e,K.ak.length<=1000000/\K.aR.length<=1000000/\K.ba.length<=1000000)(bB:0<=c.pc/\c.pc<=100000)(bU:e.length<=10000)(bV:b.heap.length<=1000000000)(b4:b.aT.length<=1000000000)(bP:0<=b.bu/\b.bu<=100000)
 {C:Nat->Int}(hI:fN b.heap C):
 aN cp 139 [vp q 0,fv c r v h,xv z aa ah] m λ_ M=>yl u n m q d p (qO a b e c z) M:=by
 apply vh (q,0)
 simp -zeta only[aC,aB]
 intro G m2
 have bF:J m m2:=((J.az m).aK _).aK _
 have s1:G.size=m.size+1:=by simp[G]
 have s2:m2.size=m.size+2:=by simp[m2,s1]
 have B2:=zi.Kc al.cQ.new s1 s2
 have kB:cE m2 G.size dX [.i z.op,.i z.dst,.i z.bP,.i z.bZ,.s aa,.s ah]:=cE.push G _ _
 let⟨S2,t2⟩:=al.ext bF
 clear_value m2
 have br:zj a z:=λC=>let⟨A,Y,F,_⟩:=a4 C;⟨Y,A,F⟩
 have bN:(eS a.bo).length<=12:=by
  have:=qY aE.nP.types a.bo.length;rw[mR _ _ (ad _)]at this;exact this
 have bv:∀{n m t lh bx},ST u n m q bJ bx aT t j b.aT lh e c r v h y->jy m j (e++[c]):=λal=>al.cQ.ao.Ec bE (λK B=>by
  rcases List.mem_append.1 B with B|B
  .exact bl K B
  .simp at B;subst B;omega)
 refine(rW (f:=c) (S2.Ab V) (ha.ext S2.cQ.cy) bn V).mono ?_
 rintro _ m3 ⟨T,rfl,ow,aD⟩
 let⟨S3,t3⟩:=S2.ext aD
 have B3:=B2.to t3
 have bD:(cL c z.args).length=z.args.length:=by simp[cL]
 have ar:ap m3 T (cL c z.args):=ap.gA ow V
 have bK:∀{M:E}{T:O}{ax:List Ce},gW M m3 aA 1 T ax->m.size<=M.size->T≠.nil->n T.D=0:=λho hs Z=>by
  rcases ho.D with C|C
  .exact absurd C Z
  .exact al.cQ.new _ V
 refine⟨t3.dI B2,T,rfl,λK wv M=>∃(aI:Nat->Nat)(a8:O)(ak:List bM)(B:List Int)(A:dy),ST u aI M q bJ (SB d p b aT a8 j) aT a8 j b.aT ak e c r v h y/\To n m aI M/\zi aI M [G.size,m.size]/\cE M G.size dX [.i z.op,.i z.dst,.i z.bP,.i z.bZ,.s aa,.s ah]/\ap M wv B/\(B≠[]->aI wv.D=0)/\
  0<=K/\a.cF[K.toNat]? =some A/\B.length=A.params.length/\iJ a z 0 B=dL A.cR 0 B/\
  (z.op=24->qO a b e c z={b with bu:=b.bu+1,heap:=ak,ao:=e++[bX a K c.dst B]})/\(z.op≠24->qO a b e c z={b with bu:=b.bu+1,heap:=ak,ao:=e++[{c with pc:=c.pc+1},bX a K z.dst B]}),?_,?_⟩
 .refine⟨λai=>?_,λai=>?_⟩
  .simp at ai
   let⟨F,U,a9,b5,bA,a6,bR⟩:=bm ai
   let⟨au,bC⟩:=bS U
   have a0:=hI.cell _ (aq au)
   have b6:=(a0.oP bC).2
   have a7:=av au
   have bo:z.args=[aF z.args 0,aF z.args 1]:=by
    cases L:z.args with
    |nil=>rw[L]at F;simp at F
    |cons D ax=>cases ax with
     |nil=>rw[L]at F;simp at F
     |cons H ax=>cases ax with
      |nil=>rfl
      |cons _ _=>rw[L]at F;simp at F
   have a_:cL c z.args=[aF c.ak (aF z.args 0),aF c.ak (aF z.args 1)]:=by rw[bo];rfl
   have b8:=ar.len
   have b7:=ar.cap
   have gw:af m3 T.D (T.off+Int.toNat (0:Int)*1)=some (vi (aF c.ak (aF z.args 0))):=ar.aF (k:=0) (by rw[a_];rfl)
   have am:=S3.rv aP V V (bv S3)
   generalize hw:aF c.ak (aF z.args 0)=w at*
   generalize hv:aF c.ak (aF z.args 1)=ag at*
   let⟨A,hq⟩:=cG a.cF (((aM b.heap w).j9 -cr a).toNat)
   have aj:dO a ((aM b.heap w).j9 -cr a)=A:=by simp[dO,hq]
   rw[aj]at bA a6
   refine⟨V,V,w,gw,d,am.bo,(fR am U.1 au).mono ?_⟩
   rintro _ m4 ⟨f4,rfl,bQ,W⟩
   let⟨S4,t4⟩:=S3.ext W
   have B4:=B3.to t4
   have a1:=am.ext W
   refine⟨t4.dI B3,_,_,_,rfl,W.da am.bo,(qE a1.fy.bo aE.nP.types).mono ?_⟩
   rintro _ H ⟨rfl,aJ⟩
   let⟨P,t5⟩:=S4.ext aJ
   have B5:=B4.to t5
   have bk:=a1.ext aJ
   refine⟨t5.dI B4,_,rfl,V,V,V,(fR bk U.1 au).mono ?_⟩
   rintro _ m6 ⟨f6,rfl,bt,aY⟩
   let⟨S6,t6⟩:=P.ext aY
   have B6:=B5.to t6
   have aH:=(W.trans aJ).trans aY
   have e1:(Int.toNat (1:Int))=1:=rfl
   have e2:(Int.toNat (T.len:Int))=T.len:=V
   rw[e1,e2]
   have bG:ap m6 (O.cut T 1 T.len 1) [ag]:=by
    have:=UJ (ar.ext aH) (by rw[bD];omega);rw[a_]at this;exact this
   have bT:=a0.fl
   refine⟨t6.dI B5,_,_,_,rfl,(LH bt bG bE).mono ?_⟩
   rintro _ m7 ⟨N,rfl,oe,aZ⟩
   let⟨S7,t7⟩:=S6.ext aZ
   have B7:=B6.to t7
   have ie:ap m7 N ((aM b.heap w).aE++[ag]):=ap.gA oe bE
   have ay:n N.D=0:=by
    rcases oe.D with C|C
    .subst C;have:=ie.len;simp at this
    .exact al.cQ.new _ (O8 aH.size aD.size)
   have bs:N.D<m7.size:=iF ie aL
   refine⟨t7.dI B6,N,rfl,(Bj S7.cQ U hI V).mono ?_⟩
   rintro _ D ⟨ab,rfl,hb,I,bq,bp⟩
   have t8:To n m7 n D:=I.mono λR Q=>V
   have B8:=B7.to t8
   have ba:ap D N ((aM b.heap w).aE++[ag]):=iQ ie λ_=>I.eB _ bs (by rw[ay];decide)
   have bc:To n m n D:=(((((t2.trans t3).trans t4).trans t5).trans t6).trans t7).trans t8
   have bb:cE D G.size dX [.i z.op,.i z.dst,.i z.bP,.i z.bZ,.s aa,.s ah]:=(kB.ext (aD.trans (aH.trans aZ))).congr (I.eB _ (B7 G.size aL).1 (by rw[(B7 G.size aL).2];decide))
   have e3:cT ((aM b.heap w).j9 -((eS a.bo).length:Int))=(aM b.heap w).j9 -cr a:=aQ V V
   rw[e3]
   have aG:iJ a z 0 ((aM b.heap w).aE++[ag])=dL A.cR 0 ((aM b.heap w).aE++[ag]):=by
    rw[Ga V,List.length_eq_zero_iff.1 a6]
   have a5:∀ak,ak=apart b.heap w->qO a b e c z={b with bu:=b.bu+1,heap:=ak,ao:=e++[{c with pc:=c.pc+1},bX a ((aM b.heap w).j9 -cr a) z.dst ((aM b.heap w).aE++[ag])]}:=λak C=>by
    rw[qO,ae V,ae V,hw,hv,C]
   refine⟨t8.dI B7,ab,rfl,λa3=>?_,λa2=>?_⟩
   .have aK:=hb.1 a3
    let⟨S,bL⟩:=S7.gB (I.mono λR Q=>Or.inl Q) (bq a3)
    have bZ:=S.cQ.heap.len
    refine⟨t,S.cQ.box.cg 7,?_⟩
    intro m9
    have bj:J D m9:=(J.az D).aK _
    let⟨S9,X⟩:=S.ext bj
    have B9:=B8.to X
    clear_value m9
    have bW:=U.1
    have bz:ix w=(w -1000).toNat:=rfl
    have e5:cT (w -1000)=w -1000:=aQ V V
    rw[e5,<-bz]
    refine⟨V,V,S9.cQ.heap.wr (o:=0) a7 bh,?_⟩
    intro b9
    let⟨bw,bg⟩:=S9.cQ.heap.setCell S9.cQ.new a7 0 0 (f:=.mk D.size 0 0 0) (l:=[]) ⟨rfl,aL,aL,aL⟩ (λZ=>absurd rfl Z)
    let⟨az,aR⟩:=S9.gB (bg.mono λR Q=>Or.inl Q) bw
    have aW:=B9.to aR
    refine⟨aR.dI B9,t,az.cQ.box.cg 7,(xF (az.cQ.heap.cells bE)).mono ?_⟩
    rintro _ b_ ⟨rfl,bi⟩
    let⟨ac,aS⟩:=az.ext bi
    have aX:=aW.to aS
    refine⟨aS.dI aW,_,rfl,ac.cQ.mw (i:=7) aL,?_⟩
    intro aO
    obtain⟨be,ca⟩:=ac.gB (dp.az _ ac.cQ.new) (ac.cQ.heap.cut (tL _ _))
    obtain⟨bf,aU⟩:=be.jw 7 [.s (t.cut 0 (ji (b.heap.set (ix w) iZ) (b.heap.set (ix w) iZ).length) 3)]
    have bd:=aX.to aU
    have aV:To n D n aO:=((X.trans aR).trans aS).trans aU
    have bH:ap aO N ((aM b.heap w).aE++[ag]):=iQ ba λ_=>aV.eB _ (oh I.size) (by rw[ay];simp)
    have bI:cE aO G.size dX [.i z.op,.i z.dst,.i z.bP,.i z.bZ,.s aa,.s ah]:=bb.congr (aV.eB _ (B8 G.size aL).1 (by rw[(B8 G.size aL).2];simp))
    refine⟨aU.dI aX,n,_,_,_,A,bf,bc.trans aV,bd,bI,bH,λ_=>ay,a9,hq,bE,aG,λC=>V,λ_=>a5 _ ?_⟩
    rw[apart,an aK];rfl
   .have aK:(aM b.heap w).aP≠1:=λC=>by have:=hb.2 C;rw[a2]at this;simp at this
    let⟨S,bL⟩:=S7.gB (I.mono λR Q=>Or.inl Q) (bp a2)
    refine⟨n,t,_,_,A,S,bc,B8,bb,ba,λ_=>ay,a9,hq,bE,aG,λC=>V,λ_=>a5 _ ?_⟩
    rw[apart,ae aK]
  .simp at ai
   have D:z.op=9\/z.op=24:=V
   let⟨A,N,I,Q⟩:=a4 D
   have aj:dO a z.bP=A:=by simp[dO,I]
   refine⟨n,t,b.heap,cL c z.args,A,S3,t2.trans t3,B3,kB.ext aD,ar,λZ=>bK ow V (λC=>by subst C;have:=ar.len;simp at this;exact Z (List.length_eq_zero_iff.1 this.symm)),N,I,V,by rw[Jn D,aj],λC=>?_,λC=>?_⟩
   .rw[qO,ae V,an C]
   .rw[qO,an V]
 .rintro K wv m4 ⟨au,aX,aS,B,A,S4,t4,B4,be,aY,bd,a9,hq,bi,aG,a6,a7⟩
  have aj:dO a K=A:=by simp[dO,hq]
  have bg:=(aE.dz A (aq hq)).ak
  have h3:=(aE.nP.dz A (aq hq)).1
  refine⟨b.bu,S4.cQ.box.cg 4,S4.cQ.mw (i:=4) aL,?_⟩
  have e3:cT (b.bu+1)=b.bu+1:=aQ V V
  rw[e3]
  intro H
  let⟨P,t5⟩:=S4.jw 4 [.i (b.bu+1)]
  have B5:zi au H [G.size,m.size]:=B4.to t5
  replace t5:To au m4 au H:=t5
  have c5:dp (λR=>R=1) au m4 au H:=dp.ah S4.cQ.new S4.cQ.Qn _ _
  have aZ:ap H wv B:=iQ aY λZ=>c5.eB _ (iF aY Z) (by rw[bd Z];decide)
  have bf:cE H G.size dX [.i z.op,.i z.dst,.i z.bP,.i z.bZ,.s aa,.s ah]:=be.congr (c5.eB _ (B4 G.size aL).1 (by rw[(B4 G.size aL).2];decide))
  replace P:ST u au H q bJ (SB d p {b with bu:=b.bu+1,heap:=aS} aT aX j) aT aX j b.aT aS e c r v h y:=P
  refine⟨t5.dI B4,d,P.cQ.box.cg 0,p,P.cQ.box.cg 1,?_⟩
  clear_value H
  have a3:=t4.trans t5
  have kg:∀{I a1:E},J I a1->∀{ab ac:Nat}{ag:Value},af I ab ac=some ag->af a1 ab ac=af I ab ac:=λL=>L.da
  have bc:(iJ a z 0 B).length=B.length:=D0 _ _ _ _
  have bb:(bX a K z.dst B).ak=B++dk (A.ak.toNat -B.length):=by simp[bX,aj]
  have ba:(bX a K z.dst B).aR=iJ a z 0 B++dk (A.ak.toNat -(iJ a z 0 B).length):=by simp[bX,aj,aG,lU]
  have a_:(bX a K z.dst B).ba=dk A.ak.toNat:=by simp[bX,aj]
  have iI:∀(U az:E)(nb b1 b2 b3:Nat),J H U->qW U az b1 b2 b3 A.ak.toNat (B++dk (A.ak.toNat -B.length)) (iJ a z 0 B++dk (A.ak.toNat -(iJ a z 0 B).length)) (dk A.ak.toNat)->U.size<=nb/\nb<az.size->nb≠b1/\nb≠b2/\nb≠b3->
   Ng q nb [G.size,m.size] z.op c.pc c.dst K 0 z.dst (.mk b1 0 A.ak.toNat A.ak.toNat) (.mk b2 0 A.ak.toNat A.ak.toNat) (.mk b3 0 A.ak.toNat A.ak.toNat) az (λ_ M=>yl u n m q d p (qO a b e c z) M):=λU az nb b1 b2 b3 L N aR Z=>by
   let⟨SM,tM⟩:=P.ext L
   refine Oo (s:={b with bu:=b.bu+1,heap:=aS}) (g:=bX a K z.dst B) (c:=z) SM (B5.to tM) (by rw[bb,ba,a_];exact N) aR Z V bB (λC M hF=>?_) (λC M hF=>?_)
   .rw[a6 C];exact yl.from hF (a3.trans tM)
   .rw[a7 C];exact yl.from hF (a3.trans tM)
  have aJ:∀{U:E}{os:O},J H U->ap U os (iJ a z 0 B)->aN cp 159 [.agg #[O.v d,O.v p],vi K,vi z.dst,O.v wv,O.v os] U _:=λL ho=>xZ (aP.ext (P.cQ.cy.trans L)) a9 hq V z.dst (aZ.ext L) ho V bc
  have ay:∀{I S:E},J H I->J I S->∀ac,ac<6->af S G.size ac=af I G.size ac:=λY F ac hi=>by
   have R:=bf.ext Y;match ac,hi with
   |0,_=>exact F.da (R.cg 0)
   |1,_=>exact F.da (R.cg 1)
   |2,_=>exact F.da (R.cg 2)
   |3,_=>exact F.da (R.cg 3)
   |4,_=>exact F.da (R.cg 4)
   |5,_=>exact F.da (R.cg 5)
  have Kc:∀{I S:E},J H I->J I S->af S q 0=af I q 0/\af S q 1=af I q 1:=λY F=>⟨F.da (Y.af (P.cQ.box.cg 0)),F.da (Y.af (P.cQ.box.cg 1))⟩
  have a2:∀{U:E},J H U->ov 190 [vp q 0,xv z aa ah,O.v wv] U (iJ a z 0 B):=λL=>EI (aP.ext (P.cQ.cy.trans L)) (L.af (P.cQ.box.cg 0)) (L.af (P.cQ.box.cg 1)) br aa ah (aZ.ext L) V
  have sm:∀{I S:E},J H I->J I S->eG [G.size,m.size] I S:=λY F=>F.dv λab hb=>Y.lt (B5 ab hb).1
  have aU:∀{I S:E}{nb:Nat},J H I->J I S->nb<I.size->eG [nb,G.size,m.size] I S:=λY F aR=>F.dv λab hb=>by
   rcases List.mem_cons.1 hb with rfl|hb
   .exact aR
   .exact Y.lt (B5 ab hb).1
  refine⟨(a2 (J.az _)).mono ?_,?_⟩
  .rintro _ ai ⟨os,rfl,oo,Q⟩
   have io:ap ai os (iJ a z 0 B):=ap.gA oo V
   refine⟨sm (J.az _) Q,os,rfl,ay (J.az _) Q 1 V,(Kc (J.az _) Q).1,(Kc (J.az _) Q).2,?_,?_⟩
   .refine(aJ Q io).mono ?_
    rintro _ am ⟨b1,b2,b3,rfl,N⟩
    have aK:=N.ext
    have aV:=Q.trans aK
    refine⟨sm Q aK,_,_,_,_,_,_,rfl,?_⟩
    intro a0
    have aO:J am a0:=(J.az am).aK _
    have D:=ay aV aO
    have X:=Kc aV aO
    refine⟨D 0 V,D 1 V,D 2 V,D 3 V,D 4 V,D 5 V,D 1 V,X.1,X.2,?_⟩
    intro aH
    have a5:J am aH:=aO.ah (ad _) _ _
    have bj:aH.size=am.size+1:=by simp[aH,a0,aw]
    have aW:=N.lo
    exact iI ai aH am.size b1 b2 b3 Q (N.Se a5) ⟨by have:=aK.size;omega,V⟩ ⟨V,V,V⟩
   .intro aH
    have am:J ai aH:=(J.az ai).aK _
    have a5:aH.size=ai.size+1:=by simp[aH]
    have D:=ay Q am
    have X:=Kc Q am
    refine⟨D 0 V,D 1 V,D 2 V,D 3 V,D 4 V,D 5 V,D 1 V,X.1,X.2,?_⟩
    clear_value aH
    refine(aJ (Q.trans am) (io.ext am)).mono ?_
    rintro _ a0 ⟨b1,b2,b3,rfl,N⟩
    have aK:=N.ext
    refine⟨aU (Q.trans am) aK V,_,_,_,_,_,_,rfl,?_⟩
    intro aO
    have aW:=N.lo
    have aV:=N.box am (nb:=ai.size) (ad _) V 0 [.i K,.i 0,.i z.dst,.s (.mk b1 0 A.ak.toNat A.ak.toNat),.s (.mk b2 0 A.ak.toNat A.ak.toNat),.s (.mk b3 0 A.ak.toNat A.ak.toNat)]
    exact iI ai aO ai.size b1 b2 b3 Q aV ⟨ad _,by simp only[aO,aw];have:=aK.size;omega⟩ ⟨V,V,V⟩
  .intro ai
   have Q:J H ai:=(J.az H).aK _
   have a5:ai.size=H.size+1:=by simp[ai]
   have D:=ay (J.az _) Q
   have X:=Kc (J.az _) Q
   refine⟨D 0 V,D 1 V,D 2 V,D 3 V,D 4 V,D 5 V,D 1 V,X.1,X.2,?_⟩
   clear_value ai
   refine(a2 Q).mono ?_
   rintro _ aV ⟨os,rfl,oo,W⟩
   have io:ap aV os (iJ a z 0 B):=ap.gA oo V
   have am:=Q.trans W
   have bj:=W.size
   refine⟨aU Q W V,os,rfl,ay Q W 1 V,(Kc Q W).1,(Kc Q W).2,?_⟩
   refine(aJ am io).mono ?_
   rintro _ a0 ⟨b1,b2,b3,rfl,N⟩
   have aH:=N.ext
   refine⟨aU am aH V,_,_,_,_,_,_,rfl,?_⟩
   intro aK
   have aW:=N.lo
   have aO:=N.box am (nb:=H.size) (ad _) V 0 [.i K,.i 0,.i z.dst,.s (.mk b1 0 A.ak.toNat A.ak.toNat),.s (.mk b2 0 A.ak.toNat A.ak.toNat),.s (.mk b3 0 A.ak.toNat A.ak.toNat)]
   exact iI H aK H.size b1 b2 b3 (J.az _) aO ⟨ad _,by simp only[aK,aw];have:=aH.size;omega⟩ ⟨V,V,V⟩
def MU(S:ST u n m q bJ (SB d p b aT t j) aT t j b.aT b.heap e c r v h y)(ae:e.length<=100000)(w:Int)(U:∀g,e.getLast?=some g->0<=c.dst/\c.dst<g.ak.length/\c.dst<g.aR.length):
 aN cp 140 [vp q 0,fv c r v h,vi w] m λ_ Z=>yl u n m q d p (match e.getLast? with|none=>{b with bV:=0,value:=w,ao:=[]}|some g=>{b with ao:=e.dropLast++[g.put c.dst w (gH w)]}) Z:=by
 apply vj (q,0)
 simp -zeta only[aC,aB]
 intro f
 have Y:J m f:=(J.az m).aK _
 have s1:f.size=m.size+1:=by simp[f]
 let⟨k,t1⟩:=S.ext Y
 have M:n m.size=0:=S.cQ.new _ (ad _)
 have C:zi n f [m.size]:=λE G=>by simp at G;subst G;exact⟨V,M⟩
 clear_value f
 have H:=k.fU.xO
 have ab:=k.fU.p7.le
 have z:cT ((j.len:Int) -1)=(e.length:Int):=by rw[aQ V V];omega
 have L:Int.toNat (e.length:Int)=e.length:=V
 have F:af f q 8=some (O.v j):=k.cQ.box.cg 8
 refine⟨j,F,j,F,?_⟩
 rw[z,L]
 refine⟨V,V,V,k.cQ.mw (i:=8) aL,?_⟩
 intro m2
 let⟨x,t2⟩:=k.cQ.jw 8 [.s (j.cut 0 e.length 6)]
 obtain⟨a,_⟩:=x.jJ (dp.az _ x.new) (x.ao.UX)
 have o:=C.to t2
 have ac:(j.cut 0 e.length 6).len=e.length:=by
  cases j with
  |nil=>simp at H
  |zC E I l=>simp at H
  |mk E I A l=>simp[O.cut]
 have e3:Int.toNat (0:Int)=0:=rfl
 refine⟨t2.dI C,j.cut 0 e.length 6,a.box.cg 8,λA=>?_,λA=>?_⟩
 .simp at A
  have N:e=[]:=List.length_eq_zero_iff.1 V
  subst N
  refine⟨a.mw (i:=2) (by simp[kT]),?_⟩
  intro m3
  let⟨l,t3⟩:=a.jw 2 [.i 0]
  have D:=o.to t3
  refine⟨t3.dI o,l.mw (i:=3) (by simp[kT]),?_⟩
  intro P
  let⟨K,B⟩:=l.jw 3 [.i w]
  exact⟨B.dI D,n,aT,t,_,K,(((t1.trans t2).trans t3).trans B)⟩
 .simp at A
  have X:e.length≠0:=V
  have B:e≠[]:=λz=>X (by rw[z];rfl)
  obtain⟨g,l⟩:∃g,e.getLast?=some g:=⟨_,gD B⟩
  let⟨N,P,Q⟩:=U g l
  rw[l]
  simp only[]
  have W:e=e.dropLast++[g]:=by
   rw[gD B]at l;simp at l;rw[<-l];exact(fq B).symm
  have D:vy u n m2 q bJ (SB d p b aT t (j.cut 0 e.length 6)) aT t (j.cut 0 e.length 6) b.aT b.heap (e.dropLast++[g]):=
   ⟨a.cy,a.jR,a.new,a.box,a.Qn,a.aT,a.heap,by rw[<-W];exact a.ao⟩
  let⟨r',I,h',aa,T⟩:=D.ao.fU
  have R:e.dropLast.length<=100000:=bE
  refine(tF (a:=b) ⟨D,T⟩ R N P Q w).mono ?_
  rintro _ m3 ⟨K,t3⟩
  exact⟨t3.dI o,n,aT,t,_,K.cQ,(t1.trans t2).trans t3⟩
end
end
section
variable{b:cO}{a:Instr}
def zh.HE{s:St}{d:List aX}{f:aX}(C:zh b s d f a){aR:List Int}(j:aR=bC f.ak f.aR (bT b a))(i:∀o∈aR,0<=o):
 fN s.heap (λc=>fA d c+de f.ak aR c+eC ((bT b a).map (aF f.ak)) c)/\∀c,0<=fA d c+de f.ak aR c:=by
 have e:=xJ (ak:=f.ak) (bT b a) f.aR C.Kj C.FY.1
 rw[<-j]at e
 refine⟨C.ok.heap.congr λc=>?_,λc=>?_⟩
 .rw[C.fr,fX,kQ,e];omega
 .have:=Kh (b:=d) (λg h=>C.ok.ao g (by rw[C.fr];exact bI _ h)) c
  have:=tp (ak:=f.ak) i c
  omega
def Qx{a:List bz}{t j9:Int}(h:j9∈cz a t):1<=t/\t<=a.length/\(tf (cz a t) j9:Int)=j9 -fc a (t.toNat -1)/\(fc a (t.toNat -1):Int)<=j9:=by
 unfold cz at h⊢;by_cases b:1<=t/\t<=a.length
 .rw[an b]at h⊢;let⟨d,hd⟩:=cG a (t.toNat -1);rw[hd]at h⊢;simp only[nT,vt]at h⊢;let⟨i,c,e⟩:=List.mem_map.1 h;rw[List.mem_range]at c;have f:tf ((List.range d.cons.length).map λi=>((fc a (t.toNat -1)+i:Nat):Int)) j9=i:=by
   unfold tf;rw[List.findIdx_eq (by simpa using c)];refine⟨by simp[<-e],λj g=>?_⟩;simp;omega
  rw[f];exact⟨b.1,b.2,V,V⟩
 .rw[ae b]at h;simp at h
def OQ{k d e:Int}(l:gL d)(o:gL e)(m:E):Ho cp 136 [vi k,vi d,vi e] m (vi (OI k d e)):=by
 have i:∀n:Int,-2000000<=n/\n<=2000000->Ho cp 184 [vi (cT n)] m (vi (Fu n)):=λn q=>by
  apply Ih;rw[aQ V V];refine⟨?_,J.az _⟩;unfold Fu;congr 1;repeat' split
  all_goals omega
 unfold gL at l o;have p: -2000000<=d*e/\d*e<=2000000:=by
  have a:(d*e).natAbs<=999*999:=by rw[Int.natAbs_mul];exact Mm V V
  omega
 apply J4;unfold OI;refine⟨λa=>?_,λa=>⟨λb=>?_,λb=>⟨λc=>?_,λc=>⟨λf=>⟨λh=>?_,λh=>?_⟩,λf=>?_⟩⟩⟩⟩
 .simp at a;rw[an a];exact(i _ V).then λj g=>⟨_,rfl,rfl,g⟩
 .simp at a b;rw[ae a,an b];exact(i _ V).then λj g=>⟨_,rfl,rfl,g⟩
 .simp at a b c;rw[ae a,ae b,an c];exact(i _ p).then λj g=>⟨_,rfl,rfl,g⟩
 .simp at a b c f h;rw[ae a,ae b,ae c,an ⟨f,h⟩];exact⟨rfl,J.az _⟩
 .simp at a b c f h;rw[ae a,ae b,ae c,ae V];exact⟨rfl,J.az _⟩
 .simp at a b c f;rw[ae a,ae b,ae c,ae V];exact⟨rfl,J.az _⟩
section
variable{q:E}{j:Nat->Nat}{m:E}{t:Nat}{d p aT n k:O}{c:St}{g:List aX}{f:aX}{r o h:O}{u:List (List Ce)}
def J3(C:zh b c g f a){aR:List Int}(az:aR=bC f.ak f.aR (bT b a))(hM:ln b c f a aR)
 (ab:ST q j m t bJ (SB d p c aT n k) aT n k c.aT c.heap g {f with aR:=aR} r o h u)(aY:fw q d p b){aw a4:O}(ha:ap q aw a.args)(hj:ap q a4 a.eM)(bq:c.heap.length<=900000000)(bB:c.aT.length<=900000000):
 aN cp 72 [vp t 0,fv f r o h,xv a aw a4] m λ_ R=>yl q j m t d p (fF b c g f a aR) R:=by
 apply tE (t,0)
 simp -zeta only[aC,aB]
 intro m1 A
 have bl:J m A:=((J.az m).aK _).aK _
 have s1:m1.size=m.size+1:=by simp[m1]
 have s2:A.size=m.size+2:=by simp[A,s1]
 have D:=zi.Kc ab.cQ.new s1 s2
 have U:cE A m1.size dX [.i a.op,.i a.dst,.i a.bP,.i a.bZ,.s aw,.s a4]:=cE.push m1 _ _
 have kF:cE A m.size dP [.i f.fE,.i f.pc,.i f.dst,.s r,.s o,.s h]:=(cE.push m _ _).ext (J.push m1 _)
 let⟨y,t2⟩:=ab.ext bl
 clear_value A
 have bA:aR.length=f.aR.length:=by rw[az];exact j7 _ _ _
 have bs:=C.FY
 have F:=C.lx
 have hd:=C.dst
 have bi:=C.F.pc
 obtain⟨pq,_,bj,hP,bo,hI⟩:=C.I
 rw[bj]at bi
 have bD:=hP.len
 have ar:0<=f.pc/\f.pc<=100000:=V
 have a8:=C.ok.depth
 have bn:=C.ok.bu
 have bu:=C.ok.dV
 rw[C.fr]at a8
 have bp:g.length<=1000:=by simp at a8;omega
 have aZ:f.ak.length=aR.length/\f.ba.length=aR.length/\aR.length<=2000:=V
 have bG:r.len=f.ak.length:=by have:=ab.fU.ak.len;simp at this;omega
 have bw:o.len=aR.length:=by have:=ab.fU.aR.len;simp at this;omega
 have bm:=ha.len
 have e4:cT (f.pc+1)=f.pc+1:=aQ V V
 have aa:1<=a.args.length->0<=aF a.args 0/\aF a.args 0<f.ak.length:=λK=>C.arg _ (fx V V)
 have M:∀{R},J q R->1<=a.args.length->af R aw.D (aw.off+Int.toNat (0:Int)*1)=some (vi (aF a.args 0)):=λZ K=>(ha.ext Z).pA V V
 have T:∀{j m bx aT n k lo lh o h u own'},ST q j m t bJ bx aT n k lo lh g {f with aR:=own'} r o h u->∀{aE:Int},0<=aE->aE<f.ak.length->af m r.D (r.off+Int.toNat aE*1)=some (vi (aF f.ak aE)):=λab aE h0 K=>(ab.Ab (by simp only[];omega)).pA h0 K
 have a7:=C.HE az hM.nn
 have bg:∀{j m n lh bx},ST q j m t bJ bx aT n k c.aT lh g {f with aR:=aR} r o h u->jy m k (g++[{f with aR:=aR}]):=λab=>ab.cQ.ao.Ec bE (λah G=>by
  rcases List.mem_append.1 G with G|G
  .have Y:=C.ok.ao ah (by rw[C.fr];exact bI _ G);obtain⟨pg,_,aI,ax,_⟩:=Y.Jf C.ok.fy;have K:=Y.lr;have N:=Y.lo;have h3:=Y.lh;rw[aI]at K N h3;have:=ax.ak;omega
  .simp at G;subst G;simp only[];omega)
 have a_:∀r',r'∈a.args->aF f.ak r'<1000->gL (aF f.ak r'):=λr' bk bt=>by
  have ay:=C.arg r' bk;rcases C.F.RK _ (fx ay.1 ay.2)with P|P
  .exact P
  .omega
 have a5:∀{ac:E}(Z:J A ac)(X:Int)(s':St),s'={c with ao:=g++[aX.put {f with aR:=aR,pc:=f.pc+1} a.dst X 0]}->
  aN cp 135 [vp t 0,vi a.dst,vi X] ac λ_ R=>eG [m1.size,m.size] ac R/\yl q j m t d p s' R:=λZ X s' v=>by
  let⟨SM,tM⟩:=y.ext Z
  refine(Bf SM V hd.1 (by simp only[];omega) (by simp only[];omega) X ar).mono ?_
  rintro _ R ⟨S',t'⟩
  exact⟨t'.dI (D.to tM),j,aT,n,k,by rw[v];exact S'.cQ,(t2.trans tM).trans t'⟩
 have aW:∀{ac:E}(Z:J A ac)(a1:Int)(s':St),s'={c with ao:=g++[{f with aR:=aR,pc:=a1}]}->
  aN cp 142 [vp t 0,vi a1] ac λ_ R=>eG [m1.size,m.size] ac R/\yl q j m t d p s' R:=λZ a1 s' v=>by
  let⟨SM,tM⟩:=y.ext Z
  refine(jV SM V a1).mono ?_
  rintro _ R ⟨S',t'⟩
  exact⟨t'.dI (D.to tM),j,aT,n,k,by rw[v];exact S'.cQ,(t2.trans tM).trans t'⟩
 refine⟨λv=>?_,λe0=>?_⟩
 .simp at v
  exact a5 (J.az _) _ _ (by unfold fF;simp only[];rw[an v])
 simp only[aj]at e0
 refine⟨λv=>?_,λe1=>?_⟩
 .simp only[bQ,aG]at v
  have N:=F.2.2.1 V
  have w:=aa V
  have H:0<=aF a.args 1/\aF a.args 1<f.ak.length:=C.arg _ (fx V V)
  have I:=hM.nJ V
  refine⟨V,V,_,M y.cQ.cy V,w.1,V,_,T y w.1 w.2,V,V,_,(ha.ext y.cQ.cy).pA (i:=1) V V,H.1,V,_,T y H.1 H.2,?_⟩
  refine(OQ (a_ _ (fx V V) (I _ (fx V V))) (a_ _ (fx V V) (I _ (fx V V))) A).mono ?_
  rintro _ B ⟨rfl,z⟩
  refine⟨z.dv (λS hb=>(D S hb).1),_,rfl,z.da (U.cg 1),a5 z _ _ ?_⟩
  unfold fF;simp only[];rw[ae e0,an v]
 simp only[br,aj]at e1
 have am:¬(a.op=1\/a.op=2\/a.op=3\/a.op=4):=V
 refine⟨λv=>?_,λe5=>?_⟩
 .simp only[aG]at v
  have N:=F.2.1 V
  have w:=aa V
  have ag:(O.len aT)=c.aT.length:=by have:=y.cQ.aT.len;simp at this;omega
  refine⟨aT,y.cQ.box.cg 6,V,V,_,M y.cQ.cy V,w.1,V,_,T y w.1 w.2,?_⟩
  intro B
  have z:J A B:=(J.az A).aK _
  have ju:fQ B A.size 0 [.i (aF f.ak (aF a.args 0))]:=(cE.push A _ _).iB
  let⟨I,t3⟩:=y.ext z
  have B3:=D.to t3
  clear_value B
  refine⟨z.da (y.cQ.box.cg 6),iG.append (zs:=[.i 0]) (x:=.mk A.size 0 1 1) (c:=[.i (aF f.ak (aF a.args 0))]) I.cQ.aT I.cQ.new rfl ju (by simp only[O.gF];omega) λau aH m4 q1 q2=>?_⟩
  have Q:iG au m4 aA 1 2 aH ((c.aT++[aF f.ak (aF a.args 0)]).map Ce.i):=by simpa using q1
  let⟨L,H⟩:=I.Ib q2 Q
  have B4:=B3.to H
  refine⟨H.dI B3,L.cQ.mw (i:=6) aL,?_⟩
  intro m5
  let⟨S5,W⟩:=L.jw 6 [.s aH]
  refine⟨W.dI B4,V,V,_,M S5.cQ.cy V,w.1,V,_,T S5 w.1 w.2,?_⟩
  refine(Bf (a:={c with aT:=c.aT++[aF f.ak (aF a.args 0)]}) S5 V hd.1 (by simp only[];omega) (by simp only[];omega) _ ar).mono ?_
  rintro _ m6 ⟨S6,t6⟩
  refine⟨t6.dI (B4.to W),au,aH,n,k,?_,(((t2.trans t3).trans H).trans W).trans t6⟩
  unfold fF;simp only[];rw[ae e0,ae am,an v];exact S6.cQ
 simp only[aj]at e5
 have ba:∀X∈f.ba,X≠0->1000<=X/\ix X<c.heap.length:=λX hw a0=>by
  obtain⟨K,dd,bf,_⟩:=C.KZ X hw a0;exact⟨K,av bf⟩
 refine⟨λv=>?_,λe6=>?_⟩
 .simp only[aG]at v
  have h6:=F.2.2.2.2.1 v
  refine(uE y ha C.arg F.1 a.bP aZ (by simp only[];omega) ⟨h6.1,h6.2.1⟩ ar V V ba).mono ?_
  rintro _ B ⟨al,ak,ai,ag,L3,t3⟩
  refine⟨t3.dI D,al,ak,ai,ag,?_,t2.trans t3⟩
  have:fF b c g f a aR=nv c g {f with aR:=aR} a a.bP:=by
   unfold fF nv;simp only[];rw[ae e0,ae am,ae e5,an v];rfl
  rw[this];exact L3
 simp only[aj]at e6
 refine⟨λv=>?_,λaV=>?_⟩
 .simp only[aG]at v
  have aO:=F.2.2.2.2.2.1 v
  have ay:a.bZ=0:=by rcases hI.bZ with P|P;exact P;omega
  have aP:(eS b.bo).length<=12:=by
   have:=qY C.ok.fy.nP.types b.bo.length;rw[mR _ _ (ad _)]at this;exact this
  refine⟨d,y.cQ.box.cg 0,(qE (aY.ext y.cQ.cy).bo C.ok.fy.nP.types).mono ?_⟩
  rintro _ B ⟨rfl,z⟩
  let⟨I,t3⟩:=y.ext z
  have e3:cT (((eS b.bo).length:Int)+a.bP)=cr b+a.bP:=aQ V V
  refine⟨t3.dI D,_,rfl,z.da (U.cg 2),z.da (U.cg 0),z.da (U.cg 1),z.da (U.cg 2),z.da (U.cg 3),z.da (U.cg 4),z.da (U.cg 5),z.da (kF.cg 0),z.da (kF.cg 1),z.da (kF.cg 2),z.da (kF.cg 3),z.da (kF.cg 4),z.da (kF.cg 5),?_⟩
  rw[e3]
  refine(uE I ha C.arg F.1 (cr b+a.bP) aZ (by simp only[];omega) (by rw[ay];omega) ar V V ba).mono ?_
  rintro _ m4 ⟨au,aK,aD,aJ,Q,H⟩
  refine⟨H.dI (D.to t3),au,aK,aD,aJ,?_,(t2.trans t3).trans H⟩
  have:fF b c g f a aR=nv c g {f with aR:=aR} a (cr b+a.bP):=by
   unfold fF nv;simp only[];rw[ae e0,ae am,ae e5,ae e6,an v,ae (λhh=>hh.1 ay)];rfl
  rw[this];exact Q
 simp only[aj]at aV
 refine⟨λv=>?_,λe9=>?_⟩
 .simp only[bQ,aG]at v
  have Q:=hI.op
  unfold me at Q
  refine(MQ y aY C.ok.fy ha C.arg F.1 V (λe'=>?_) (λe'=>⟨F.2.2.1 V,hM.apply e'⟩) aZ (λah G=>?_) ar V V V V C.ok.heap).mono ?_
  .rw[ae V,ae V,ae V,ae V,an e']at Q;exact Q
  .have Y:=C.ok.ao ah (by rw[C.fr];exact bI _ G)
   obtain⟨pg,_,aI,ax,_⟩:=Y.Jf C.ok.fy
   have K:=Y.lr
   have N:=Y.lo
   have h3:=Y.lh
   rw[aI]at K N h3
   have:=ax.ak
   omega
  rintro _ B ⟨al,ak,ai,ag,L3,t3⟩
  refine⟨t3.dI D,al,ak,ai,ag,?_,t2.trans t3⟩
  have:fF b c g f a aR=qO b c g {f with aR:=aR} a:=by
   unfold fF qO;simp only[];rw[ae e0,ae am,ae e5,ae e6,ae aV,ae V,ae V,ae V,ae V,ae V,ae V,ae V,ae V];by_cases e9:a.op=9
   .rw[an e9,an e9];rfl
   .rw[ae e9,ae e9];by_cases Y:a.op=24
    .rw[an Y,an Y];rfl
    .rw[ae Y,ae Y,an V]
  rw[this];exact L3
 simp only[br,aj]at e9
 refine⟨λv=>?_,λbc=>?_⟩
 .simp only[aG]at v
  have N:=F.2.1 V
  have w:=aa V
  refine⟨V,V,_,M y.cQ.cy V,w.1,V,_,T y w.1 w.2,(MU y V (aF f.ak (aF a.args 0)) (λah G=>?_)).mono ?_⟩
  .have a0:g≠[]:=λv=>by rw[v]at G;simp at G
   have Y:g=g.dropLast++[ah]:=by
    rw[gD a0]at G;simp at G;rw[<-G];exact(fq a0).symm
   have aI:g.length=g.dropLast.length+1:=by
    have:=nU List.length Y;simpa using this
   let⟨q1,q2,q3⟩:=C.ok.chain g.dropLast.length ah f (by rw[C.fr,Y];simp) (by rw[C.fr,<-aI];simp)
   have ax:=C.ok.ao ah (by rw[C.fr,Y];simp)
   have:=ax.lr
   have:=ax.lo
   exact⟨q1,by show f.dst<_;omega,by show f.dst<_;omega⟩
  rintro _ B ⟨al,ak,ai,ag,L3,t3⟩
  refine⟨t3.dI D,al,ak,ai,ag,?_,t2.trans t3⟩
  unfold fF
  simp only[]
  rw[ae e0,ae am,ae e5,ae e6,ae aV,ae V,ae V,ae V,ae V,ae V,ae V,ae V,ae V,ae V,ae V,ae V]
  exact L3
 simp only[aj]at bc
 have bh:∀(ah:St),(if a.op=0 then ah else ah)=ah:=λah=>by split<;>rfl
 have MK:fF b c g f a aR=(
  if a.op=14 then{c with heap:=mQ c.heap (aF f.ak (aF a.args 0)),ao:=g++[{f with aR:=gR aR (aF a.args 0) (aF aR (aF a.args 0)+1),pc:=f.pc+1}]}
  else if a.op=15 then{c with heap:=ns (gZ c.heap [aF f.ak (aF a.args 0)]),ao:=g++[{f with aR:=aR,pc:=f.pc+1}]}
  else if a.op=16\/a.op=17 then tn c g {f with aR:=aR} a
  else if a.op=18 then{c with ao:=g++[aX.put {f with aR:=aR,pc:=f.pc+1} a.dst (aF f.ak (aF a.args 0)) (gH (aF f.ak (aF a.args 0)))]}
  else if a.op=19 then{c with ao:=g++[aX.put {f with aR:=aR,pc:=f.pc+1} a.dst (aF (aM c.heap (aF f.ak (aF a.args 0))).aE a.bP) 0]}
  else if a.op=20 then{c with ao:=g++[{f with aR:=aR,pc:=if aF f.ak (aF a.args 0)=0 then a.bP else f.pc+1}]}
  else if a.op=21 then{c with ao:=g++[{f with aR:=aR,pc:=aF a.eM (tf (cz b.bo a.bP) (aM c.heap (aF f.ak (aF a.args 0))).j9)}]}
  else{c with ao:=g++[{f with aR:=aR,pc:=a.bP}]}):=by
  unfold fF
  simp only[]
  rw[ae e0,ae am,ae e5,ae e6,ae aV]
  by_cases aI:a.op=14
  .rw[an aI,an aI]
  rw[ae aI,ae aI]
  by_cases aJ:a.op=15
  .rw[an aJ,an aJ]
  rw[ae aJ,ae aJ]
  by_cases aK:a.op=16\/a.op=17
  .rw[an aK,an aK];rfl
  rw[ae aK,ae aK]
  by_cases aO:a.op=18
  .rw[an aO,an aO]
  rw[ae aO,ae aO]
  by_cases aP:a.op=19
  .rw[an aP,an aP]
  rw[ae aP,ae aP]
  by_cases aS:a.op=20
  .rw[an aS,an aS]
  rw[ae aS,ae aS]
  by_cases aU:a.op=21
  .rw[an aU,an aU]
  rw[ae aU,ae aU]
  have:=C.Ze
  rw[an V]
 rw[MK]
 clear MK bh
 refine⟨λv=>?_,λa6=>?_⟩
 .simp only[aG]at v
  rw[an v]
  have N:=F.2.1 V
  have w:=aa V
  let⟨Y,bv⟩:=hM.WM v
  let⟨be,bF⟩:=bS Y
  refine⟨V,V,_,M y.cQ.cy V,w.1,V,_,T y w.1 w.2,?_⟩
  intro B
  have z:J A B:=(J.az A).aK _
  have ow:gW A B aA 1 (.mk A.size 0 1 1) ([aF f.ak (aF a.args 0)].map Ce.i):=gW.new (J.az A) aA 1 _ 1 aL
  let⟨I,t3⟩:=y.ext z
  have B3:=D.to t3
  have hz:j A.size=0:=y.cQ.new _ (ad _)
  clear_value B
  refine(Dv I.cQ (ap.gA ow aL) (λ_=>hz) (λX hw=>?_) (λbb hc=>?_) aL V).mono ?_
  .simp at hw;subst hw;exact⟨Y.1,av be⟩
  .have:=C.ok.heap.cell bb hc;have P:=this.lo;have h6:=this.hi;omega
  rintro _ m4 ⟨a2,c4⟩
  let⟨L,H⟩:=I.gB (c4.mono λah hk=>Or.inl hk) a2
  have B4:=B3.to H
  have ax:aF a.args 0<aR.length:=V
  have bz:0<=aF aR (aF a.args 0)/\aF aR (aF a.args 0)<=999999:=by
   refine⟨hM.nn _ (fx (l:=aR) w.1 ax),?_⟩;have G:=oB (l:=aR) w.1 ax;rw[az]at G;let⟨qq,a3,a9⟩:=kY _ _ _ _ G;have:=(C.OG qq (aq a3)).2;rw[<-az]at a9;omega
  have bd:cT (aF aR (aF a.args 0)+1)=aF aR (aF a.args 0)+1:=aQ V V
  refine⟨H.dI B3,V,V,_,M L.cQ.cy V,V,V,_,M L.cQ.cy V,w.1,V,aF aR (aF a.args 0),(L.Jo (by simp only[];omega)).pA w.1 ax,w.1,V,L.fU.aR.NQ w.1 ax,?_⟩
  rw[bd,e4]
  intro m5
  let⟨S5,W⟩:=L.pO w.1 ax (aF aR (aF a.args 0)+1)
  refine⟨W.dI B4,(jV (a:={c with heap:=je c.heap [aF f.ak (aF a.args 0)]}) S5 V (f.pc+1)).mono ?_⟩
  rintro _ m6 ⟨S6,t6⟩
  exact⟨t6.dI (B4.to W),j,aT,n,k,S6.cQ,(((t2.trans t3).trans H).trans W).trans t6⟩
 simp only[aj]at a6
 rw[ae a6]
 have bb:a.args.length=1->a.args=[aF a.args 0]:=λK=>by
  cases Z:a.args with
  |nil=>rw[Z]at K;simp at K
  |cons ax G=>cases G with
   |nil=>rfl
   |cons bd G=>rw[Z]at K;simp at K
 refine⟨λv=>?_,λax=>?_⟩
 .simp only[aG]at v
  rw[an v]
  have N:=F.2.1 V
  have w:=aa V
  have ht:bT b a=[aF a.args 0]:=by unfold bT;rw[an V];exact bb V
  have G:=a7.1
  rw[ht]at G
  refine⟨n,y.cQ.box.cg 7,V,V,_,M y.cQ.cy V,w.1,V,_,T y w.1 w.2,?_⟩
  intro B
  have z:J A B:=(J.az A).aK _
  have ow:gW A B aA 1 (.mk A.size 0 1 1) ([aF f.ak (aF a.args 0)].map Ce.i):=gW.new (J.az A) aA 1 _ 1 aL
  let⟨I,t3⟩:=y.ext z
  have B3:=D.to t3
  clear_value B
  refine⟨z.da (y.cQ.box.cg 7),(Gq I.cQ.heap I.cQ.new (ap.gA ow aL) (e:=λS=>fA g S+de f.ak aR S) (G.congr λS=>rfl) a7.2 V).mono ?_⟩
  rintro _ m4 ⟨au,aD,rfl,a2,c4⟩
  let⟨L,H⟩:=I.gB c4 a2
  have B4:=B3.to H
  refine⟨H.dI B3,aD,rfl,L.cQ.mw (i:=7) aL,?_⟩
  intro m5
  let⟨S5,W⟩:=L.jw 7 [.s aD]
  rw[e4]
  refine⟨W.dI B4,(jV (a:={c with heap:=ns (gZ c.heap [aF f.ak (aF a.args 0)])}) S5 V (f.pc+1)).mono ?_⟩
  rintro _ m6 ⟨S6,t6⟩
  exact⟨t6.dI (B4.to W),au,aT,aD,k,S6.cQ,(((t2.trans t3).trans H).trans W).trans t6⟩
 simp only[aj]at ax
 rw[ae ax]
 refine⟨λv=>?_,λau=>?_⟩
 .simp only[bQ,aG]at v
  rw[an v]
  refine(IE y ha C.arg ⟨F.2.2.2.1 v,F.1⟩ v aZ ar V V (λaH G=>?_) (hM.NA v).1 C.ok.heap).mono ?_
  .refine⟨hM.nn aH G,?_⟩
   let⟨ah,hk⟩:=List.mem_iff_getElem?.1 G
   simp only[]at hk
   rw[az]at hk
   let⟨qq,a3,a9⟩:=kY _ _ _ _ hk
   have:=(C.OG qq (aq a3)).2
   omega
  rintro _ B ⟨al,ak,ai,ag,L3,t3⟩
  exact⟨t3.dI D,al,ak,ai,ag,L3,t2.trans t3⟩
 simp only[br,aj]at au
 rw[ae V]
 refine⟨λv=>?_,λW=>?_⟩
 .simp only[aG]at v
  rw[an v]
  have N:=F.2.1 V
  have w:=aa V
  refine⟨V,V,_,M y.cQ.cy V,w.1,V,_,T y w.1 w.2,(tF y V hd.1 (by simp only[];omega) (by simp only[];omega) _).mono ?_⟩
  rintro _ B ⟨I,t3⟩
  rw[e4]
  refine⟨t3.dI D,(jV I V (f.pc+1)).mono ?_⟩
  rintro _ m4 ⟨L,H⟩
  exact⟨H.dI (D.to t3),j,aT,n,k,L.cQ,(t2.trans t3).trans H⟩
 simp only[aj]at W
 rw[ae W]
 have ai:=y.rv aY V V (bg y)
 refine⟨λv=>?_,λI=>?_⟩
 .simp only[aG]at v
  rw[an v]
  have N:=F.2.1 V
  have w:=aa V
  let⟨Y,G⟩:=hM.load v
  have Q:=hI.op
  unfold me at Q
  rw[ae V,ae V,ae V,ae V,ae V,ae V,ae V,an v]at Q
  refine⟨V,V,_,M y.cQ.cy V,w.1,V,_,T y w.1 w.2,(fR ai Y.1 (bS Y).1).mono ?_⟩
  rintro _ B ⟨fl,rfl,H,z⟩
  have L:=H.len
  refine⟨z.dv (λS hb=>(D S hb).1),_,_,_,rfl,z.da (U.cg 2),z.da (U.cg 1),Q.2.1,V,_,H.pA Q.2.1 G,a5 z _ _ rfl⟩
 simp only[aj]at I
 rw[ae I]
 refine⟨λv=>?_,λL=>?_⟩
 .simp only[aG]at v
  rw[an v]
  have N:=F.2.1 V
  have w:=aa V
  refine⟨V,V,_,M y.cQ.cy V,w.1,V,_,T y w.1 w.2,λP=>?_,λP=>?_⟩
  .simp at P;exact aW (J.az _) _ _ (by rw[an P])
  .simp at P;rw[e4];exact aW (J.az _) _ _ (by rw[ae P])
 simp only[aj]at L
 rw[ae L]
 refine⟨λv=>?_,λag=>?_⟩
 .simp only[aG]at v
  rw[an v]
  have N:=F.2.1 V
  have w:=aa V
  let⟨Y,ak⟩:=hM.Fb v
  let⟨be,bv,a2,aH⟩:=Qx ak
  have Q:=hI.op
  unfold me at Q
  rw[ae V,ae V,ae V,ae V,ae V,ae V,ae V,ae V,ae V,ae V,an v]at Q
  have a3:tf (cz b.bo a.bP) (aM c.heap (aF f.ak (aF a.args 0))).j9<(cz b.bo a.bP).length:=tT ⟨_,ak,aL⟩
  have bd:=hj.len
  have a9:=Q.2.2.1
  have aD:=(C.ok.heap.cell _ (aq (bS Y).1)).oP (bS Y).2
  have bz:=C.ok.fy.nP.types.len
  refine⟨V,V,_,M y.cQ.cy V,w.1,V,_,T y w.1 w.2,(fR ai Y.1 (bS Y).1).mono ?_⟩
  rintro _ B ⟨fl,rfl,H,z⟩
  have e7:cT (a.bP -1)=((a.bP.toNat -1:Nat):Int):=by rw[aQ V V];omega
  rw[e7]
  have al:=y.cQ.cy.trans z
  refine⟨z.dv (λS hb=>(D S hb).1),_,_,_,rfl,d,z.af (y.cQ.box.cg 0),(j8 (aY.ext al).bo C.ok.fy.nP.types V).mono ?_⟩
  rintro _ m4 ⟨rfl,G⟩
  have e8:cT ((aM c.heap (aF f.ak (aF a.args 0))).j9 -((fc b.bo (a.bP.toNat -1):Nat):Int))=((tf (cz b.bo a.bP) (aM c.heap (aF f.ak (aF a.args 0))).j9:Nat):Int):=by
   rw[aQ V V];omega
  refine⟨G.dv (λS hb=>z.lt (D S hb).1),_,rfl,G.da ((U.ext z).cg 5),?_⟩
  rw[e8]
  refine⟨V,V,_,(hj.ext (al.trans G)).pA V V,aW (z.trans G) _ _ rfl⟩
 simp only[aj]at ag
 rw[ae ag]
 refine⟨λv=>aW (J.az _) _ _ rfl,λw=>?_⟩
 simp only[aj]at w
 have:=C.Ze
 omega
end
end
section
def TU(l a:List Int)(h:a.length=l.length):jb (l.map Ce.i) 0 (a.map Ce.i)=a.map Ce.i:=by
 have:=BV [] (a.map Ce.i) (l.map Ce.i) bE;simp only[eF,eW]at this;rw[this,I7 bE,dY]
section
variable{p:E}{b:Nat->Nat}{m:E}{q e:Nat}{i:List Ce}{aT j g:O}{l:List Int}{k:List bM}{c:List aX}{f:aX}{r a h:O}{d:List (List Ce)}
def ST.UG(S:ST p b m q e i aT j g l k c f r a h d){aR:List Int}(t:aR.length=f.aR.length)(w:0<aR.length):fK m a.D a.off (aR.map Ce.i).length/\ST p b (ah m a.D a.off (aR.map Ce.i)) q e i aT j g l k c {f with aR:=aR} r a h d/\To b m b (ah m a.D a.off (aR.map Ce.i)):=by
 have T:=S.fU;have B:a.cap≠0:=λe=>by have:=(T.aR.Dj e).1;simp at this;rw[this]at t;simp at t;rw[t]at w;simp at w
 have A:=T.aR.D B;have s:dp (λu=>u=11+3*c.length) b m b (ah m a.D a.off (aR.map Ce.i)):=dp.ah S.cQ.new A.2 _ _;have x:=T.aR.set (o:=0) (new:=aR.map Ce.i) bE;rw[TU _ _ t,jF]at x;have v:sW b (ah m a.D a.off (aR.map Ce.i)) g c {f with aR:=aR} r a h d:=⟨T.p7.eI s V,T.len,T.size,T.xS s λu _ y=>V,T.ak.eI s V,x,T.ba.eI s V⟩;let⟨y,z⟩:=S.cQ.jJ (s.mono λu C=>V) v.sU;refine⟨?_,⟨y,v⟩,z⟩;have:=T.aR.wr (o:=0) (n:=(aR.map Ce.i).length) bE;rw[jF]at this;exact this
end
section
variable{h:E}{e:Nat->Nat}{b:E}{g:Nat}{d p aT c a:O}{s:St}
def GX{k:cO}(M:vy h e b g bJ (SB d p s aT c a) aT c a s.aT s.heap s.ao)(I:fw h d p k)(z:cY k s)(aM:∀P∈s.ao,∀A∈P.ak,A<=9223372036854775807)(aP:s.heap.length<=900000000)(aW:s.aT.length<=900000000):
 aN cp 36 [vp g 0] b λ_ m'=>yl h e b g d p (kD k s) m':=by
 apply wy (g,0)
 simp -zeta only[aC,aB]
 refine⟨s.bV,M.box.cg 2,λT=>?_,λT=>?_⟩
 .simp at T
  rw[pT T]
  exact⟨e,aT,c,a,M,dp.az _ M.new⟩
 have ab:s.bV=3:=by simpa using T
 let⟨n,j,u⟩:=z.split ab
 have aS:s.ao.getLast?=some j:=by rw[u];simp
 have aJ:s.ao.dropLast=n:=by rw[u];simp
 have C:zh k s n j (ez k j):=⟨z,ab,u,rfl,aM⟩
 have a1:kD k s=(open Classical in if mU (ez k j).op/\s.bu=s.dV then{s with bV:=1}else if ln k s j (ez k j) (bC j.ak j.aR (bT k (ez k j)))then fF k s n j (ez k j) (bC j.ak j.aR (bT k (ez k j)))else{s with bV:=2}):=by
  unfold kD;rw[ae (by simpa using ab),aS,aJ]
 rw[a1]
 generalize ez k j=x at*
 have L':vy h e b g bJ (SB d p s aT c a) aT c a s.aT s.heap (n++[j]):=by rw[<-u];exact M
 let⟨U,L,R,aA,Z⟩:=L'.ao.fU
 have S:ST h e b g bJ (SB d p s aT c a) aT c a s.aT s.heap n j U L R aA:=⟨L',Z⟩
 have a9:=Z.xO
 have am:=z.depth
 have a8:=z.bu
 have ba:=z.dV
 rw[u]at am
 have a_:n.length<=1000:=by simp at am;omega
 have e1:cT ((a.len:Int) -1)=(n.length:Int):=by rw[aQ V V];omega
 have e2:Int.toNat (n.length:Int)=n.length:=V
 have Q:af b g 8=some (O.v a):=S.cQ.box.cg 8
 let⟨g0,g1,g2,g3,g4,g5⟩:=Z.iB
 refine⟨a,Q,a,Q,?_⟩
 rw[e1,e2]
 refine⟨V,V,_,g0,_,g1,_,g2,U,g3,L,g4,R,g5,?_⟩
 intro m1
 have v:J b m1:=(J.az b).aK _
 refine⟨v.da g0,v.da g1,v.da g2,v.da g3,v.da g4,v.da g5,v.da Q,v.da Q,?_⟩
 intro t
 have a2:J b t:=v.ah (ad _) _ _
 have s2:t.size=b.size+1:=by simp[t,m1,aw]
 have kF:cE t b.size dP [.i j.fE,.i j.pc,.i j.dst,.s U,.s L,.s R]:=cE.ah (m:=m1) (o:=0) (r:=[.i j.fE,.i j.pc,.i j.dst,.s U,.s L,.s R]) (cE.push b _ _)
 let⟨N,t2⟩:=S.ext a2
 clear_value t
 let⟨bh,hq,aZ,hP,aI,hI⟩:=C.I
 let⟨pa,pl,pc,bb,bd,ar,k0,k1,k2,k3,k4⟩:=I.cF.aF hq
 let⟨az,a3,ha,hj,i0,i1,i2,i3,i4,i5⟩:=ar.aF aI
 have be:=I.cF.len
 have bc:=ar.len
 have hF:=C.F
 have aY:=hF.fE
 have aq:=hF.pc
 rw[aZ]at aq
 have l:=N.cQ.cy
 refine⟨p,N.cQ.box.cg 1,aY.1,V,pc,l.af k4,aq.1,V,_,l.af i0,_,l.af i1,_,l.af i2,_,l.af i3,az,l.af i4,a3,l.af i5,?_⟩
 intro m3
 have q:J t m3:=(J.az t).aK _
 refine⟨q.da (l.af i0),q.da (l.af i1),q.da (l.af i2),q.da (l.af i3),q.da (l.af i4),q.da (l.af i5),q.da (kF.cg 1),q.da (l.af k4),q.da (kF.cg 0),q.da (N.cQ.box.cg 1),?_⟩
 intro K
 have ag:J t K:=q.ah (ad _) _ _
 have s4:K.size=t.size+1:=by simp[K,m3,aw]
 let⟨S4,t4⟩:=N.ext ag
 have a4:=kF.ext ag
 have B4:zi e K [t.size,b.size]:=λac H=>by
  simp at H;rcases H with rfl|rfl
  .exact⟨V,S.cQ.new _ V⟩
  .exact⟨V,S.cQ.new _ (ad _)⟩
 clear_value K
 have a7:=t2.trans t4
 refine(LO _ _).mono ?_
 rintro _ m5 ⟨ac,rfl,H,ah⟩
 let⟨w,t5⟩:=S4.ext ah
 have W:=B4.to t5
 have B:=a4.ext ah
 have au:=a7.trans t5
 have aR:=C.FY
 have h4:=C.lx
 have aa:(bC j.ak j.aR (bT k x)).length=j.aR.length:=j7 _ _ _
 refine⟨t5.dI B4,ac,rfl,λaG=>⟨s.bu,w.cQ.box.cg 4,s.dV,w.cQ.box.cg 5,λG=>?_,λG=>?_⟩,λaF=>?_⟩
 .simp at G
  refine⟨w.cQ.mw (i:=2) aL,?_⟩
  intro m6
  let⟨F,D⟩:=w.jw 2 [.i 1]
  refine⟨D.dI W,e,aT,c,a,?_,au.trans D⟩
  rw[an ⟨H.1 aG,G⟩]
  have:=F.cQ
  rw[<-u]at this
  exact this
 all_goals
  have aH:¬(mU x.op/\s.bu=s.dV):=by
   first
   |exactλy=>by simp at G;exact G y.2
   |exactλy=>fb H aF y.1
  rw[ae aH]
  have al:=w.cQ.cy
  refine⟨d,w.cQ.box.cg 0,p,w.cQ.box.cg 1,(Ka (I.ext al) C.call (ha.ext al) V h4.2.2.2.1).mono ?_⟩
  rintro _ m6 ⟨ts,rfl,ot,y⟩
  let⟨F,D⟩:=w.ext y
  have B6:=W.to D
  have bf:=IW k x
  have it:ap m6 ts (bT k x):=ap.gA ot V
  refine⟨D.dI W,ts,rfl,y.da (B.cg 0),y.da (B.cg 1),y.da (B.cg 2),y.da (B.cg 3),y.da (B.cg 4),y.da (B.cg 5),?_⟩
  refine(IF (b:=j) (F.Ab V) (F.Jo V) it C.Kj aR.1 V V (λA E=>oh (C.OG A E))).mono ?_
  rintro _ m7 ⟨os,rfl,oo,aE⟩
  let⟨A,t7⟩:=F.ext aE
  have B7:=B6.to t7
  have io:ap m7 os (bC j.ak j.aR (bT k x)):=ap.gA oo V
  have aO:jy m7 a (n++[j]):=A.cQ.ao.Ec bE (λP Y=>by
   have E:=z.ao P (by rw[u];exact Y);obtain⟨pg,_,ai,X,_⟩:=E.Jf z.fy;have q1:=E.lr;have q2:=E.lo;have q3:=E.lh;rw[ai]at q1 q2 q3;have:=X.ak;omega)
  have aj:=A.rv I V V aO
  have a0:({s with ao:=n++[j]}:St)=s:=by rw[<-u]
  rw[a0]at aj
  refine⟨t7.dI B6,os,rfl,(LR aj C (A.Ab V) (A.QP V) (ha.ext A.cQ.cy) io aa).mono ?_⟩
  rintro _ m8 ⟨b2,rfl,ak,ai⟩
  let⟨P,t8⟩:=A.ext ai
  have X:=B7.to t8
  have av:=((au.trans D).trans t7).trans t8
  refine⟨t8.dI B7,b2,rfl,λh9=>?_,λh9=>?_⟩
  .rw[ae (nb ak h9)]
   refine⟨P.cQ.mw (i:=2) aL,?_⟩
   intro m9
   let⟨Y,E⟩:=P.jw 2 [.i 2]
   refine⟨E.dI X,e,aT,c,a,?_,av.trans E⟩
   have:=Y.cQ
   rw[<-u]at this
   exact this
  .have hM:=yb ak h9
   rw[an hM]
   have aV:=io.len
   have aU:L.len=j.aR.length:=by have:=P.fU.aR.len;simp at this;omega
   let⟨w1,Y,E⟩:=P.UG aa V
   refine⟨(bC j.ak j.aR (bT k x)).map Ce.i,by rw[aV,aU,aa];simp[Nat.min_def];omega,(io.ext ai).H9,w1,?_⟩
   intro m9
   have B9:=X.to E
   refine⟨E.dI X,(J3 C rfl hM Y I ha hj aP aW).mono ?_⟩
   rintro _ bg aK
   let⟨a6,a5,aX,aD,ay,ax⟩:=aK
   exact⟨ax.dI B9,a6,a5,aX,aD,ay,(av.trans E).trans ax⟩
end
end
section
variable{a:cO}{s:St}{n:Nat}
structure Sm(n:Nat)(s:St):Prop where
 heap:s.heap.length<=n
 aT:s.aT.length<=n
 uv:∀g∈s.ao,∀w∈g.ak,w<=9223372036854775807
def BJ:∀(n:Nat)(h:List bM)(g:List Int),Cb h+g.length<=n->(gZ h g).length=h.length
 |n,h,[],_=>by rw[sS]
 |0,h,w::r,b=>by simp at b
 |n+1,h,w::r,b=>by
  simp only[aZ]at b;rcases dR (fY h w)with a|a
  .let⟨e,f⟩:=bS a;by_cases c:(aM h w).aP=1
   .have d:=km (d:=iZ) e;simp only[an f,iZ]at d;simp at d;rw[sT a c,BJ n _ _ (by simp[iZ];omega)];simp
   .have d:=km (d:={aM h w with aP:=(aM h w).aP -1}) e;simp only[an f]at d;rw[an V]at d;rw[ql a c,BJ n _ _ (by simp only[fj];omega)];simp[fj]
  .rw[qt a,BJ n _ _ V]
def Qa(h:List bM):(ns h).length<=h.length:=by unfold ns;simp;omega
def Ll:∀(a:List Int)(g:List bM),(je g a).length=g.length
 |[],g=>rfl
 |w::a,g=>by rw[je,Ll a];simp[mQ]
def Nn(h:List bM)(w:Int):(apart h w).length<=h.length:=by
 unfold apart;split
 .exact bH (Qa _) aL
 .rw[Ll];simp[fj]
def NF(h:List bM)(a:Nat)(c:bM):(jd h a c).length<=h.length+1:=by
 unfold jd;split<;>simp
def QW{k:List aX}{f:aX}{x:Instr}(C:zh a s k f x)(B:Sm n s)(hn:n<=900000000)(aR:List Int)(Z:ln a s f x aR):Sm (n+1) (fF a s k f x aR):=by
 have hh:=B.heap;have ho:=B.aT;have v:=B.uv;rw[C.fr]at v;have hF:=C.F;have Y:=C.lx;have hd:=C.dst;have af:=C.FY;have t:∀r,aF f.ak r<=9223372036854775807:=λr=>by
  rcases aW r.toNat f.ak.length with m|m
  .let⟨y,b⟩:=dB m;rw[Hx b];exact v f aL y (aq b)
  .rw[aF,fS,cN m];simp
 have xS:∀g∈k,∀w∈g.ak,w<=9223372036854775807:=λg p=>v g (by simp[p]);have c:∀{g:aX},(∀w∈g.ak,w<=9223372036854775807)->∀q∈k++[g],∀w∈q.ak,w<=9223372036854775807:=λp q d=>by
  rcases List.mem_append.1 d with d|d
  .exact xS q d
  .simp at d;subst d;exact p
 have e:∀w∈f.ak,w<=9223372036854775807:=v f aL;have j:∀(H:Int),H<=9223372036854775807->∀w∈gR f.ak x.dst H,w<=9223372036854775807:=λH hv w b=>by
  rcases pG b with rfl|b
  .exact hv
  .exact e w b
 have ab:∀{w},gL w\/fY s.heap w->w<=9223372036854775807:=λh=>by
  rcases h with h|h
  .have:=h.2;omega
  .have m:=av (bS h).1;unfold ix at m;omega
 have G:∀(g K:Int)(I:List Int),(∀w∈I,w<=9223372036854775807)->∀w∈(bX a g K I).ak,w<=9223372036854775807:=λg K I b w h=>by
  simp only[bX]at h;rcases List.mem_append.1 h with h|h
  .exact b w h
  .rw[qC h];omega
 have Kc:∀{g q:aX},(∀w∈g.ak,w<=9223372036854775807)->(∀w∈q.ak,w<=9223372036854775807)->∀J∈k++[g,q],∀w∈J.ak,w<=9223372036854775807:=λp d J o=>by
  rcases List.mem_append.1 o with o|o
  .exact xS J o
  .simp at o;rcases o with rfl|rfl
   .exact p
   .exact d
 have aa:∀w∈cL f x.args,w<=9223372036854775807:=λw b=>by
  obtain⟨r,_,rfl⟩:=List.mem_map.1 b;exact t r
 have ac:=qv s.heap;unfold fF;simp only[];by_cases y:x.op=0
 .rw[an y];exact⟨by simp only[];omega,by simp only[];omega,c (j _ (oh (Y.2.2.2.2.2.2 y)))⟩
 rw[ae y];by_cases L:x.op=1\/x.op=2\/x.op=3\/x.op=4
 .rw[an L];exact⟨by simp only[];omega,by simp only[];omega,c (j _ (oh ((PO x.op (aF f.ak (aF x.args 0)) (aF f.ak (aF x.args 1))).2)))⟩
 rw[ae L];by_cases W:x.op=5
 .rw[an W];exact⟨by simp only[];omega,bE,c (j _ (t _))⟩
 rw[ae W];by_cases A:x.op=6
 .rw[an A];split
  .refine⟨bE,by simp only[];omega,c (j _ ?_)⟩;rename_i u;have E:=Y.2.2.2.2.1 A;obtain⟨F,D,z,_⟩:=C.KZ _ (fx (l:=f.ba) (i:=x.bZ -1) V V) u.2;have:=av z;unfold ix at this;omega
  .refine⟨?_,by simp only[];omega,c (j _ V)⟩;have:=NF s.heap (dF s.heap) ⟨1,x.bP,cL f x.args⟩;simp only[];omega
 rw[ae A];by_cases M:x.op=10
 .rw[an M];refine⟨?_,by simp only[];omega,c (j _ V)⟩;have:=NF s.heap (dF s.heap) ⟨1,cr a+x.bP,cL f x.args⟩;simp only[];omega
 rw[ae M];by_cases N:x.op=14
 .rw[an N];exact⟨by simp[mQ];omega,by simp only[];omega,c e⟩
 rw[ae N];by_cases O:x.op=15
 .rw[an O];refine⟨?_,by simp only[];omega,c e⟩;have m:=Qa (gZ s.heap [aF f.ak (aF x.args 0)]);rw[BJ _ _ _ (ad _)]at m;simp only[];omega
 rw[ae O];by_cases P:x.op=16\/x.op=17
 .rw[an P];split
  .exact⟨bE,by simp only[];omega,c e⟩
  .refine⟨?_,by simp only[];omega,c e⟩;have:=Nn s.heap (aF f.ak (aF x.args 0));simp only[];omega
 rw[ae P];by_cases Q:x.op=18
 .rw[an Q];exact⟨by simp only[];omega,by simp only[];omega,c (j _ (t _))⟩
 rw[ae Q];by_cases u:x.op=19
 .rw[an u];refine⟨by simp only[];omega,by simp only[];omega,c (j _ ?_)⟩;let⟨E,S⟩:=Z.load u;obtain⟨T,_,_,_,_,R⟩:=C.I;have z:=R.op;unfold me at z;rw[ae V,ae V,ae V,ae V,ae V,ae V,ae V,an u]at z;let⟨D,F⟩:=bS E;exact ab (((C.ok.heap.cell _ (aq D)).oP F).1 _ (fx z.2.1 S))
 rw[ae u];by_cases R:x.op=20
 .rw[an R];exact⟨by simp only[];omega,by simp only[];omega,c e⟩
 rw[ae R];by_cases S:x.op=21
 .rw[an S];exact⟨by simp only[];omega,by simp only[];omega,c e⟩
 rw[ae S];by_cases T:x.op=22
 .rw[an T];exact⟨by simp only[];omega,by simp only[];omega,c e⟩
 rw[ae T];by_cases X:x.op=9
 .rw[an X];exact⟨by simp only[];omega,by simp only[];omega,Kc e (G _ _ _ aa)⟩
 rw[ae X];by_cases U:x.op=24
 .rw[an U];exact⟨by simp only[];omega,by simp only[];omega,c (G _ _ _ aa)⟩
 rw[ae U];by_cases z:x.op=11
 .rw[an z];refine⟨?_,by simp only[];omega,Kc e (G _ _ _ λw b=>?_)⟩
  .have:=Nn s.heap (aF f.ak (aF x.args 0));simp only[];omega
  .rcases List.mem_append.1 b with b|b
   .obtain⟨E,_⟩:=Z.apply z;let⟨D,F⟩:=bS E;exact ab (((C.ok.heap.cell _ (aq D)).oP F).1 _ b)
   .simp at b;subst b;exact t _
 rw[ae z];split
 .exact⟨by simp only[];omega,by simp only[];omega,aL⟩
 .rename_i D E;refine⟨by simp only[];omega,by simp only[];omega,λq d=>?_⟩;have F:D∈k:=List.mem_of_getLast? E;rcases List.mem_append.1 d with d|d
  .exact xS q ((List.dropLast_sublist k).subset d)
  .simp at d;subst d;intro w b;rcases pG b with rfl|b
   .exact t _
   .exact xS D F w b
def U6(h:cY a s)(c:Sm n s)(l:n<=900000000):Sm (n+1) (kD a s):=by
 have b:Sm (n+1) s:=⟨by have:=c.heap;omega,oh c.aT,c.uv⟩;by_cases d:s.bV=3
 .let⟨g,f,e⟩:=h.split d;have k:s.ao.getLast?=some f:=by rw[e];simp
  have j:s.ao.dropLast=g:=by rw[e];simp
  have C:zh a s g f (ez a f):=⟨h,d,e,rfl,c.uv⟩;unfold kD;rw[ae (by simpa using d),k,j];simp only[];split
  .exact⟨b.heap,b.aT,b.uv⟩
  split
  .rename_i i;exact QW C c l _ i
  .exact⟨b.heap,b.aT,b.uv⟩
 .rw[pT d];exact b
def Bw{a:cO}:∀(k:Nat){s:St}{n:Nat},cY a s->Sm n s->n+k<=900000000->Sm (n+k) (aD a k s)
 |0,s,n,_,b,_=>b
 |k+1,s,n,h,b,c=>by
  have:=Bw k (RN h) (U6 h b V) V;rw[aD];have e:n+(k+1)=n+1+k:=V;rw[e];exact this
def P6(a:cO)(dV:Int):Sm 0 (lO a dV):=⟨by simp[lO],by simp[lO],λg b w c=>by
 simp[lO]at b;subst b;simp only[bX,eF]at c;rw[qC c];omega⟩
end
section
variable{a:cO}
section
variable{c:E}{e:Nat->Nat}{m:E}{b:Nat}{d p aT g f:O}{s:St}
def P4(L:vy c e m b bJ (SB d p s aT g f) aT g f s.aT s.heap s.ao)(F:fw c d p a)(w:cY a s){y:Nat}(E:Sm y s)(h:Nat)(K:h<=100000)(M:y<=500000000):
 aN cp 42 [vp b 0,vi h] m λI u=>(∃i:Int,I=vi i)/\yl c e m b d p (aD a h s) u:=by
 apply xu (b,0)
 refine⟨λo u=>∃k:Nat,o=k/\k<=h/\yl c e m b d p (aD a k s) u,λo _=>((h:Int) -o).toNat,⟨0,rfl,dN _,e,aT,g,f,L,dp.az _ L.new⟩,?_⟩
 rintro o N ⟨k,rfl,J,A,z,x,v,l,t1⟩
 have G:=Bv k w
 have t:=Bw k w E V
 refine dit (λC=>?_) λC=>?_
 .refine⟨_,l.box.cg 2,λr=>?_,λr=>?_⟩
  .refine(GX l F G t.uv (oh t.heap) (oh t.aT)).mono ?_
   rintro _ j i
   have q:cT ((k:Int)+1)=((k+1:Nat):Int):=kC (n:=h) V V
   rw[q]
   refine⟨⟨k+1,rfl,V,by rw[Mb];exact i.from t1⟩,?_⟩
   show((h:Int) -((k+1:Nat):Int)).toNat<((h:Int) -(k:Int)).toNat
   omega
  .simp at r
   have q:aD a h s=aD a k s:=by
    have D:h=k+(h -k):=V;have B:∀(i j:Nat)(s:St),aD a (i+j) s=aD a j (aD a i s):=by
     intro i;induction i with
     |zero=>intro j s;simp[aD]
     |succ i H=>intro j s;rw[Nat.succ_add];simp only[aD];exact H j _
    rw[D,B,Dz _ r]
   rw[q]
   exact⟨⟨_,rfl⟩,A,z,x,v,l,t1⟩
 .have:k=h:=V
  subst this
  exact⟨⟨_,rfl⟩,A,z,x,v,l,t1⟩
end
def EO{m:E}{t C:O}(I:fw m t C a)(x:nl a)(dV:Int):
 aN cp 87 [.agg #[O.v t,O.v C],vi dV] m λS f=>∃aT l u,S=.agg #[vi 3,vi 0,vi 0,vi dV,O.v aT,O.v l,O.v u]/\J m f/\∃b1 b2 b3 b4 k,aT.cap=0/\aT.len=0/\l.cap=0/\l.len=0/\u=.mk b4 0 1 1/\
  qW m f b1 b2 b3 k (bX a 0 0 []).ak (bX a 0 0 []).aR (bX a 0 0 []).ba/\(b4≠b1/\b4≠b2/\b4≠b3/\m.size<=b4/\b4<f.size)/\cE f b4 dP [.i 0,.i 0,.i 0,.s (.mk b1 0 k k),.s (.mk b2 0 k k),.s (.mk b3 0 k k)]:=by
 apply yX
 simp -zeta only[aC,aB]
 intro g z A p r e
 have v:J m e:=((((((J.az m).aK _).aK _).aK _).aK _).aK _).aK _
 have L:g.size=m.size+1:=by simp[g]
 have M:z.size=m.size+2:=by simp[z,L]
 have P:A.size=m.size+3:=by simp[A,M]
 have Q:p.size=m.size+4:=by simp[p,P]
 have R:r.size=m.size+5:=by simp[r,Q]
 have Y:e.size=m.size+6:=by simp[e,R]
 clear_value e
 have T:=x.nP.len
 let⟨q,n⟩:=cG a.cF 0
 have W:=(x.dz q (aq n)).ak
 have o:dO a 0=q:=by simp[dO,n]
 have B:∀b,ap e (.mk b 0 0 0) []:=λb=>⟨rfl,aL,aL,aL⟩
 refine(xZ (I.ext v) (dg 0) n V 0 (B p.size) (B r.size) bE rfl).mono ?_
 rintro _ c ⟨b1,b2,b3,rfl,N⟩
 have j:=N.ext
 have U:=N.lo
 refine⟨j.dv bE,_,_,_,_,_,_,rfl,?_⟩
 intro d s
 have w:J c d:=(J.az c).aK _
 have Z:d.size=c.size+1:=by simp[d]
 have s9:s.size=d.size:=aw _ _ _ _
 have X:=j.size
 have K:cE d c.size dP [.i 0,.i 0,.i 0,.s (.mk b1 0 q.ak.toNat q.ak.toNat),.s (.mk b2 0 q.ak.toNat q.ak.toNat),.s (.mk b3 0 q.ak.toNat q.ak.toNat)]:=cE.push c _ _
 have i:=N.Se w
 have y:J m s:=(v.trans (j.trans w)).ah (show m.size<=g.size by omega) _ _
 have h:∀b,b≠g.size->s[b]? =d[b]? :=λb H=>bd _ _ _ _ H
 have G:(bX a 0 0 []).ak=[]++dk (q.ak.toNat -([]:List Int).length):=by simp[bX,o]
 have F:(bX a 0 0 []).aR=[]++dk (q.ak.toNat -([]:List Int).length):=by simp[bX,o,dL]
 have D:(bX a 0 0 []).ba=dk q.ak.toNat:=by simp[bX,o]
 refine⟨_,_,_,rfl,y,b1,b2,b3,c.size,q.ak.toNat,rfl,rfl,rfl,rfl,rfl,?_,V,K.congr (h _ V)⟩
 rw[G,F,D]
 exact⟨y,V,i.kr.congr (h _ V),i.ko.congr (h _ V),i.kh.congr (h _ V),N.len⟩
def TW{m j g:E}{u:Nat}{MK:List Ce}{aT i l:O}{dV:Int}{b1 b2 b3 b4 k e:Nat}(c:aT.cap=0/\aT.len=0/\i.cap=0/\i.len=0/\l=.mk b4 0 1 1)
 (N:qW m j b1 b2 b3 k (bX a 0 0 []).ak (bX a 0 0 []).aR (bX a 0 0 []).ba)(C:b4≠b1/\b4≠b2/\b4≠b3/\m.size<=b4/\b4<j.size)(B:cE j b4 dP [.i 0,.i 0,.i 0,.s (.mk b1 0 k k),.s (.mk b2 0 k k),.s (.mk b3 0 k k)])
 (d:J j g)(F:j.size<=e)(kb:cE g e u (MK++[.i 3,.i 0,.i 0,.i dV,.s aT,.s i,.s l])):
 vy m (od (od (pL (λ_=>0) b1 b2 b3 0) b4 4) e 1) g e u (MK++[.i 3,.i 0,.i 0,.i dV,.s aT,.s i,.s l]) aT i l [] [] [bX a 0 0 []]:=by
 have D:=N.lo
 have A:J m g:=N.ext.trans d
 have G:=kb.lt
 have H:=N.ext.size
 have t:∀b,b≠e->b≠b4->(od (od (pL (λ_=>0) b1 b2 b3 0) b4 4) e 1) b=pL (λ_=>0) b1 b2 b3 0 b:=λb p q=>by rw[eV p,eV q]
 let⟨y,a2,a3⟩:=(N.Se d).p7 (a:=λ_=>0) (g:=0)
 have conv:∀{v:Nat}{s:O}{w:List Ce},iG (pL (λ_=>0) b1 b2 b3 0) g aA 1 v s w->s.D≠e->s.D≠b4->iG (od (od (pL (λ_=>0) b1 b2 b3 0) b4 4) e 1) g aA 1 v s w:=λx p q=>x.eB (λ_=>rfl) (λ_=>t _ p q)
 refine⟨A,λb z=>?_,λb z=>?_,kb,fI _ _ _,⟨by simp[c.2.1],by rw[c.1,c.2.1];exact ad _,Or.inl c.1⟩,⟨[],⟨by simp[c.2.2.2.1],by rw[c.2.2.1,c.2.2.2.1];exact ad _,Or.inl c.2.2.1⟩,gQ.nil _ _,Xk.nil⟩,?_⟩
 .rw[t b V V];unfold pL;rw[eV V,eV V,eV V]
 .rw[t b (oh d.size) (oh d.size)];unfold pL;rw[eV (oh d.size),eV (oh d.size),eV (oh d.size)]
 .refine sW.sU (a:=[]) (f:=bX a 0 0 []) (r:=.mk b1 0 k k) (e:=.mk b2 0 k k) (h:=.mk b3 0 k k) (j:=[]) ⟨?_,rfl,aL,aL,conv y (by simp only[O.jB];omega) (by simp only[O.jB];omega),conv a2 (by simp only[O.jB];omega) (by simp only[O.jB];omega),conv a3 (by simp only[O.jB];omega) (by simp only[O.jB];omega)⟩
  rw[c.2.2.2.2]
  refine⟨rfl,ad _,Or.inr ⟨b4,1,[],rfl,?_,?_,rfl⟩⟩
  .rw[eV V,fI]
  .rw[dY];exact B.ext d
end
structure Exe where
 bV:Int
 value:Int
 bu:Int
 aT:List Int
 ok:Bool
end Go.Proofs.YtkoifinbblcbiaaGreat
