/- Part of a proof. -/
import Derived.Test.YtkoifinbblcbiaaGreatSG02
import Derived.Test.YtkoifinbblcbiaaGreatSG03
set_option linter.all false
set_option maxHeartbeats 8000000
set_option maxRecDepth 100000
namespace Go.Proofs.YtkoifinbblcbiaaGreat
open Go.Vc
section
variable{a:E}{c:List Ce}{b:Nat}
section
variable{f:List Nat}{e P:Nat}{h d p:O}{i:List bz}{g:List dy}{m:E}
def Nb(hS:∀n∈f,n<m.size)(aj:e∈f)(n:GC e h P d p i g m)(hP:P+300+40*Cg 18<=10^16){N:Nat}{q:dy}(z:g[N]? =some q)(ak:N=0->q.params.length=0):
 aN cq 251 [vp e 0,.agg #[O.v d,O.v p],vi N] m (XP f e h m (P+300+40*Cg 18) (XV i g.length q.params.length)):=by
 apply Gy (e,0)
 simp -zeta only[aD,aC]
 intro l w
 let⟨x2,hl⟩:=dD (a:=l) (c:=w) rfl rfl
 have s1:l.size=m.size+1:=by simp[l]
 have s2:w.size=m.size+2:=by simp[w,s1]
 have hr:=n.rd.lt
 clear_value w
 have ae:∀{a:E},w.size<=a.size->∀n∈l.size::f,n<a.size:=λc=>bP hS V V
 have t:Rs e h m P w:=⟨x2.fz _,n.rd.ext x2⟩
 have J:∀{a:E},w.size<=a.size->Lw e [l.size,m.size] a:=λc=>lw hr bF
 let⟨U,ag,e0,e1⟩:=n.hp.aG z
 have an:=aw z
 have ao:=n.hp.len
 have ab:=wU _ (n.gp.dz q (aq z))
 have h3:q.params.length<=3:=ab.1
 have Z:∀{a:E},Fz [e] m a->IR e a U q.params:=λx=>ag.le (fh x)
 have au:=ag.len
 have aa:e∈l.size::f:=by simp[aj]
 have am:=n.gp.ty ab.2.2.1 ab.2.2.2
 refine⟨V,V,U,(eQ.1 (fh t.f _ _ _ e0)).2,V,V,_,(eQ.1 (fh t.f _ _ _ e1)).2,?_⟩
 refine(Ml ((Z t.f).le (bA _ _)) 1).mono λ_ m3⟨pl,en,ap,x3⟩=>⟨(J (ad _)).dq (x3.fz _),pl,en,?_⟩
 have z3:=x3.size
 refine Jv (l.size::f) i g.length q.params.length (J z3) 0 λs4 o C x4=>?_
 have z4:=x4.size
 intro m5 H
 let⟨x6,b6,z6⟩:=BX.new (f:=m5) (d:=H) C rfl rfl
 clear_value H
 have r6:=((t.ext x3).ext x4).ext x6
 have hk:o.size≠e:=V
 have L6:∀{a:E},H.size<=a.size->Lw e [o.size,l.size,m.size] a:=λc=>lw hr bF
 refine(bY r6.r V 4).mono λ_ r⟨b,en,_,_,d7,L⟩=>⟨(L6 (ad _)).dq L,b,en,?_⟩
 have I:=r6.to L d7
 have z7:=L.size
 have B:=n.to I.f I.r
 have D:∀j∈o.size::l.size::f,j<r.size:=bP (ae (a:=r) V) (ad _) V
 have F:e∈o.size::l.size::f:=by simp[aj]
 have iH:∀{x:Nat}{ac:List Value}{Q:Nat},aN cq x ac r (XP (o.size::l.size::f) e h r Q (WX i g.length q.params.length))->Q<=P+300+20*Cg 18->aN cq x ac r λv A=>eF [o.size,l.size,m.size] r A/\∃W X:Int,∃t:O,v=.agg #[vi W,vi X,O.v t]/\
  ∃u j,BX (l.size::f) i g.length q.params.length o.size (ah A o.size 0 [.i W,.i X,.s t]) u j/\Rs e h m (P+300+20*Cg 18) (ah A o.size 0 [.i W,.i X,.s t])/\H.size<=(ah A o.size 0 [.i W,.i X,.s t]).size:=λc hQ=>
  XP.kk c (L6 z7) λu j A h1 h2 h3 C=>by
   have hb:=((b6.fz aa hk L).fz aa hk C).set ⟨h1,h2⟩;have ai:=(I.to C h3).put n.rd (k:=o.size) V 0 [.i j.op,.i j.bQ,.s u];exact⟨u,j,hb,⟨ai.f,ai.r.mono hQ⟩,by rw[av];have:=C.size;omega⟩
 have vh:=λ(a:E)(S':List Nat)(h1:∀j∈S',j<a.size)(h2:e∈S')(Q:Nat)(cM:GC e h Q d p i g a)(x:Fz [e] m a)(hQ:Q+20*Cg 18<=10^16)(s:Int)(hb:0<=s/\s<=18)=>Md (S:=S') h1 h2 cM hQ (Z x) V am hb
 have R:=iH ((vh r _ D F _ B I.f V 18 bn).mono λ_ _ c=>c.mono (λj K=>K.1) (ad _)) V
 have first:1<=q.params.length->∃y:Int,q.params[0]? =some y/\af r U.D (U.off+Int.toNat 0*1)=some (vi y):=λc=>by
  let⟨y,T⟩:=cG q.params 0;exact⟨y,T,(eQ.1 ((Z I.f).aG T)).2⟩
 refine⟨λa=>∃u j,BX (l.size::f) i g.length q.params.length o.size a u j/\Rs e h m (P+300+20*Cg 18) a/\H.size<=a.size,?_,?_⟩
 .refine⟨λv a=>(v=true->N=0)/\r=a,⟨λ_=>⟨λc=>by simp at c;omega,rfl⟩,λ_=>⟨sx,rfl⟩⟩,?_⟩
  rintro v _ ⟨G,rfl⟩
  refine⟨λc=>?_,λ_=>?_⟩
  .have Y:=ak (G c)
   exact iH ((Kd D F B V).mono λ_ _ c=>c.mono (λj K=>by rw[Y];exact K) (ad _)) V
  refine⟨λv a=>(v=true->0<=pl)/\r=a,⟨λ_=>⟨λc=>⟨λ_=>⟨λ_=>by simpa using c,rfl⟩,λ_=>⟨λ_=>by simpa using c,rfl⟩⟩,λ_=>⟨aL,rfl⟩⟩,λ_=>⟨aL,rfl⟩⟩,?_⟩
  rintro v _ ⟨G,rfl⟩
  refine⟨λc=>iH (Kg D F B V z ⟨G c,V⟩) V,λ_=>?_⟩
  refine⟨λv a=>(v=true->1<=q.params.length)/\r=a,⟨λ_=>⟨λc=>?_,λ_=>⟨aL,rfl⟩⟩,λ_=>⟨aL,rfl⟩⟩,?_⟩
  .simp only[ar]at c
   let⟨y,T,K⟩:=first V
   exact⟨bn,V,y,K,λ_=>⟨λ_=>⟨λ_=>V,rfl⟩,λ_=>⟨λ_=>V,rfl⟩⟩,λ_=>⟨aL,rfl⟩⟩
  rintro v _ ⟨G,rfl⟩
  refine⟨λc=>iH (Kh D F B V z (G c)) V,λ_=>⟨λ_=>⟨λc=>?_,λ_=>R⟩,λ_=>R⟩⟩
  simp only[ar]at c
  let⟨y,T,K⟩:=first V
  have Y:=iH (J0 D F B V z V) V
  exact⟨bn,V,y,K,λ_=>⟨λ_=>Y,λ_=>⟨λ_=>Y,λ_=>R⟩⟩,λ_=>R⟩
 rintro a ⟨u,j,s,al,ax⟩
 refine⟨_,s.b.cp 0,_,s.b.cp 1,_,s.b.cp 2,?_⟩
 refine(Bm (fH.le (bA _ _) s.h.sl)).mono λ_ m8⟨n8,e8,q8,Y⟩=>⟨(J V).dq (Y.fz _),n8,e8,?_⟩
 have z8:=Y.size
 have G:=al.ext Y
 have K:=s.ext Y
 refine⟨λ_=>XP.ret (vh m8 (l.size::f) (ae V) aa _ (n.to G.f G.r) G.f V 12 bn) (J V) G.f n.rd V (λ_ c=>c) V,λc=>⟨_,K.b.cp 0,_,K.b.cp 1,_,K.b.cp 2,?_⟩⟩
 simp only[bE]at c
 have r9:=G.put n.rd (k:=l.size) V 0 [.i j.op,.i j.bQ,.s u]
 exact⟨u,j,rfl,(K.h.fm.put aL _ _).fm.sl,⟨s.h.wx,V⟩,r9.r.mono V,r9.f⟩
end
def Ch{α:Type}{R:E->List Ce->α->Prop}{n:Nat}(g:oG n R){S:List Nat}(o:∀d∈S,d<a.size)(e:Nat)(l:List (α×List Ce))(h:∀x∈l,R (bH S a) x.2 x.1)(p:c=l.flatMap (·.2))(q:b=l.length):
 Gr S a (a.push (.cells (bt c) e)) e n R (.mk a.size 0 b b) (l.map (·.1)):=by
 refine Gr.lit (f:=l.map (·.2)) g (ad _) o (by rw[p,List.flatMap_def]) (by simp[q]) ⟨aL,λd i=>?_,λr d e k j=>?_⟩
 .simp at i;let⟨m,f⟩:=i;exact g.len (h _ f)
 .simp only[cJ,jI]at k j
  obtain⟨x,m,rfl⟩:=k
  obtain⟨y,f,rfl⟩:=j
  rw[m]at f;simp at f;subst f
  exact h x (aq m)
abbrev UF(m:E)(s:O)(l:List (List Int)):Prop:=eT m 1 (mR m) s l
def wY{S:List Nat}(d:∀e∈S,e<a.size)(e:Nat)(l:List (List Int×O))(k:l.length<=1000)(h:∀x∈l,ap (bH S a) x.2 x.1)(f:c=l.map λx=>.s x.2)(g:b=l.length):UF (bH S (a.push (.cells (bt c) e))) (.mk a.size 0 b b) (l.map (·.1)):=by
 have H:=Ch (R:=λm c x=>mR m c x) (n:=1) ⟨λh=>mR.le h _ _,λ⟨_,h,_⟩=>by rw[h];rfl⟩ d e (l.map λx=>(x.1,[Ce.s x.2])) (λx i=>by simp at i;obtain⟨m,o,j,rfl⟩:=i;exact⟨_,rfl,h _ j⟩) (c:=c) (b:=b) (by rw[f];clear f g h k;induction l<;>simp_all) (by simp[g]);have i:=Gr.done mR.mono H d bn bF;rwa[show(l.map λx=>(x.1,[Ce.s x.2])).map (·.1)=l.map (·.1)by simp[Xs,Function.comp_def]]at i
abbrev Zf(S:List Nat)(a m:E)(s:O)(l:List bz):Prop:=Gr S a m jZ 3 iO s l
end
section
variable{K:O->E->Prop}
section
variable{S L:List Nat}{c P:Nat}{d:O}{m b:E}
def NI(f:O)(d:∀a∈L,a<b.size)(g:∀a,J b a->K f a):aN cq 215 [O.v f] b λv a=>eF L b a/\∃c:O,v=.agg #[O.v c]/\K c a:=
 (LX f b).mono λ_ a⟨e,x⟩=>⟨x.dq d,f,e,g a x⟩
def Dz(f:O)(d:∀a,J b a->K f a):aN cq 215 [O.v f] b λv a=>∃c:O,v=.agg #[O.v c]/\K c a:=
 (LX f b).mono λ_ a⟨e,x⟩=>⟨f,e,d a x⟩
def wG(hS:∀s∈S,s<m.size)(T:c∈S)(Q:Rd c d P m)(hP:P+1<=10^16):
 aN cq 214 [vp c 0] m λa6 U=>∃t ds,a6=O.v t/\Zf S m U t ds/\ds∈rU/\Rd c d (P+1) U/\Fz [c] m U:=by
 apply AX (c,0)
 simp -zeta only[aD,aC]
 have hr:=Q.lt
 have i:∀{b:E},m.size<=b.size->∀s∈S,s<b.size:=λh s hc=>by have:=hS s hc;omega
 have I:∀(b:E)(l:List Int)(L:List Ce)(D:Nat),m.size<=b.size->L=l.map Ce.i->D=l.length->l.length<=1000->ap (bH S (b.push (.cells (bt L) aA))) (.mk b.size 0 D D) l:=λb l L D h h1 h2 h3=>ap.lit aA l (i h) h1 h2 V
 have au:∀(b:E)(f:Nat),ap (bH S b) (.mk f 0 0 0) []:=λb f=>mI _ _ _ _ _ _
 intro a3
 have x1:J m a3:=J.push _ _
 refine Dz _ λy x2=>?_
 intro m3
 have x3:J y m3:=J.push _ _
 have z2:=(x1.trans x2).size
 have i3:ap (bH S m3) (.mk y.size 0 2 2) [0,1]:=I y [0,1] _ _ z2 rfl rfl bn
 clear_value m3
 refine Dz _ λm4 H=>?_
 intro q
 have x5:J m4 q:=J.push _ _
 have z4:=(x3.trans H).size
 have c5:UF (bH S q) (.mk m4.size 0 2 2) [[],[0,1]]:=wY (i V) _ [([],.mk m.size 0 0 0),([0,1],.mk y.size 0 2 2)] aL (by simp;exact⟨au _ _,i3.le (H.df _)⟩) rfl rfl
 clear_value q
 intro m6 B
 obtain⟨x7,-,z7⟩:=kJ (M:=q) (d:=m6) (c:=B) rfl rfl rfl
 clear_value B
 have z5:=x5.size
 intro m8
 have x8:J B m8:=J.push _ _
 clear_value m8
 have z8:=x8.size
 refine NI _ bF λC x9=>?_
 intro W
 have aE:J C W:=J.push _ _
 have z9:=x9.size
 have aY:ap (bH S W) (.mk C.size 0 3 3) [3,0,3]:=I C [3,0,3] _ _ V rfl rfl bn
 clear_value W
 have vG:=aE.size
 refine NI _ bF λX ai=>?_
 intro k
 have aF:J X k:=J.push _ _
 have a_:=ai.size
 have aO:UF (bH S k) (.mk X.size 0 2 2) [[],[3,0,3]]:=wY (i V) _ [([],.mk B.size 0 0 0),([3,0,3],.mk C.size 0 3 3)] aL (by simp;exact⟨au _ _,aY.le (ai.df _)⟩) rfl rfl
 clear_value k
 intro a4 n
 obtain⟨a7,-,bb⟩:=kJ (M:=k) (d:=a4) (c:=n) rfl rfl rfl
 clear_value n
 have ba:=aF.size
 have LL:∀{b:E},n.size<=b.size->∀f∈[k.size,q.size],f<b.size:=λh=>bF
 intro Y
 have aG:J n Y:=J.push _ _
 have aZ:ap (bH S Y) (.mk n.size 0 2 2) [1,3]:=I n [1,3] _ _ V rfl rfl bn
 clear_value Y
 have a8:=aG.size
 refine NI _ (LL a8) λZ aj=>?_
 intro o
 have aH:J Z o:=J.push _ _
 have bc:=aj.size
 have aP:UF (bH S o) (.mk Z.size 0 1 1) [[1,3]]:=wY (i V) _ [([1,3],.mk n.size 0 2 2)] aL (by simp;exact aZ.le (aj.df _)) rfl rfl
 clear_value o
 have bd:=aH.size
 intro aa
 have aI:J o aa:=J.push _ _
 have a0:ap (bH S aa) (.mk o.size 0 3 3) [1,1,0]:=I o [1,1,0] _ _ V rfl rfl bn
 clear_value aa
 have be:=aI.size
 refine NI _ (LL V) λx ak=>?_
 intro ab
 have al:J x ab:=J.push _ _
 have bf:=ak.size
 have a1:ap (bH S ab) (.mk x.size 0 1 1) [0]:=I x [0] _ _ V rfl rfl bn
 clear_value ab
 have bg:=al.size
 refine NI _ (LL V) λz F=>?_
 intro ac
 have G:J z ac:=J.push _ _
 have bh:=F.size
 have a2:ap (bH S ac) (.mk z.size 0 1 1) [3]:=I z [3] _ _ V rfl rfl bn
 clear_value ac
 have bi:=G.size
 refine NI _ (LL V) λae u=>?_
 intro p
 have aJ:J ae p:=J.push _ _
 have bj:=u.size
 have aQ:UF (bH S p) (.mk ae.size 0 3 3) [[1,1,0],[0],[3]]:=wY (i V) _ [([1,1,0],.mk o.size 0 3 3),([0],.mk x.size 0 1 1),([3],.mk z.size 0 1 1)] aL (by simp;exact⟨a0.le ((((((ak.trans al).trans F).trans G).trans u)).df _),a1.le (((F.trans G).trans u).df _),a2.le (u.df _)⟩) rfl rfl
 clear_value p
 have bk:=aJ.size
 have ax:=(((((aI.trans ak).trans al).trans F).trans G).trans u).trans aJ
 have aw:=(((a7.trans aG).trans aj).trans aH).trans ax
 have K:=(((((x7.trans x8).trans x9).trans aE).trans ai).trans aF).trans aw
 have w:∀{am an:E}{t:O}{l:List (List Int)},J am an->UF (bH S am) t l->UF (bH S an) t l:=λaB h=>eT.le h (aB.df _) (mR.le (aB.df _))
 have ag:UF (bH S p) .nil []:=⟨rfl,ad _,aL,aL⟩
 intro e
 have r:J p e:=J.push _ _
 have aT:cx (bH S e) (.mk p.size 0 4 4) RX:=(Ch (R:=iO) iO.mono (i (b:=p) V) jZ [(⟨0,0,[[1,3]]⟩,[.i 0,.i 0,.s (.mk Z.size 0 1 1)]),(⟨1,0,[]⟩,[.i 1,.i 0,.s .nil]),(⟨0,0,[[1,1,0],[0],[3]]⟩,[.i 0,.i 0,.s (.mk ae.size 0 3 3)]),(⟨0,1,[]⟩,[.i 0,.i 1,.s .nil])] (by simp;exact⟨⟨_,rfl,w ax aP⟩,⟨_,rfl,ag⟩,⟨_,rfl,aQ⟩,⟨_,rfl,ag⟩⟩) rfl rfl).done iO.mono (i V) bn bn
 clear_value e
 have bl:=r.size
 intro A
 have v:J e A:=J.push _ _
 have ay:Zf S e A (.mk e.size 0 3 3) KK:=Ch (R:=iO) iO.mono (i (b:=e) V) jZ [(⟨0,0,[[],[0,1]]⟩,[.i 0,.i 0,.s (.mk m4.size 0 2 2)]),(⟨0,0,[]⟩,[.i 0,.i 0,.s .nil]),(⟨0,0,[[],[3,0,3]]⟩,[.i 0,.i 0,.s (.mk X.size 0 2 2)])] (by simp;exact⟨⟨_,rfl,w (K.trans r) c5⟩,⟨_,rfl,w r ag⟩,⟨_,rfl,w (aw.trans r) aO⟩⟩) rfl rfl
 clear_value A
 have av:=((((x1.trans x2).trans x3).trans H).trans x5).trans (K.trans (r.trans v))
 have bm:=v.size
 have aM:Lw c [k.size,q.size] A:=λf j=>⟨LL V f j,by simp at j;omega⟩
 refine(bY (Q.ext av) V 5).mono λ_ af⟨az,aR,k0,k1,N,g⟩=>⟨aM.dq g,az,aR,λh=>?_,λ_=>⟨_,KK,rfl,Gr.cv iO.mono (ay.eA iO.mono g (by simp;exact⟨T,V⟩)) (λ_ h=>Or.inl h) V,by simp[rU],N,(av.fz _).trans g⟩⟩
 simp only[ar]at h
 let⟨ah,hq⟩:=cG RX az.toNat (by simp[RX];omega)
 have aX:Le (bH S e) (bH (e.size::S) af):=(v.bH λf j=>(List.mem_cons.1 j).elim (λh=>Or.inr V) Or.inl).trans (g.df (by simp[T]))
 let⟨aS,hf,e0,e1,e2⟩:=(aT.le aX).aG hq
 refine⟨k0,bF,_,(eQ.1 e0).2,_,(eQ.1 e1).2,_,(eQ.1 e2).2,?_⟩
 intro a9
 have aU:Zf S e af (.mk e.size 0 3 3) KK:=ay.eA iO.mono g (by simp;exact⟨T,V⟩)
 have hz:=g.size
 have aW:KK++[ah]∈rU:=by
  have:=aq hq;simp only[rU,aV,Xt];exact Or.inr ⟨ah,this,rfl⟩
 refine Gr.kL (g:=[.i 0,.i 0,.s .nil]) (k:=ah) iO.mono bn aU ((v.fz _).trans g) ⟨aS,rfl,hf⟩ (by simp[KK]) λa5 M' g' f' z' q'=>?_
 have ao:=((((((x1.trans x2).trans x3).trans H).trans x5).trans (K.trans r)).fz [c]).trans f'
 have aK:Lw c [k.size,q.size] e:=λf j=>⟨LL V f j,by simp at j;omega⟩
 exact⟨aK.tG (((v.fz [c]).trans g).then (J.push af _)) f',a5,_,rfl,Gr.cv iO.mono g' (λ_ h=>Or.inl h) V,aW,Q.MU N ao (q' c N.lt (by show c≠e.size;omega)),ao⟩
end
end
section
variable{a:Nat}{b:List Ce}
def Py(M:E)(b:List Ce)(x:dy×Option Ex):Prop:=∃c a k z,b=[.s c,.i x.1.aT,.i a,.i k,.s z]/\ap M c x.1.params/\∀e,x.2=some e->a=e.op/\k=e.bQ/\fH M z e.bC
def Py.mono:oG 5 Py:=⟨λh⟨b,a,k,z,e,c,d⟩=>⟨b,a,k,z,e,c.le h,λx j=>let⟨f,g,i⟩:=d x j;⟨f,g,fH.le h i⟩⟩,λ⟨_,_,_,_,e,_⟩=>by rw[e];rfl⟩
def Ze(M:E)(b:List Ce)(x:dy×Ex):Prop:=∃a s,b=[.s a,.i x.1.aT,.i x.2.op,.i x.2.bQ,.s s]/\ap M a x.1.params/\fH M s x.2.bC
def Ze.mono:oG 5 Ze:=⟨λh⟨a,s,e,b,c⟩=>⟨a,s,e,b.le h,fH.le h c⟩,λ⟨_,_,e,_⟩=>by rw[e];rfl⟩
abbrev WT(m:E)(s:O)(l:List (dy×Ex)):Prop:=eT m 5 (Ze m) s l
structure WV(ds:List bz)(l:List (dy×Ex)):Prop where
 gp:GP ds (l.map (·.1))
 vh:∀x∈l,XV ds l.length x.1.params.length x.2
def Gr.ZN{α:Type}{S:List Nat}{q p:E}{j g h c k:Nat}{R:E->List Ce->α->Prop}{o:List α}(x:0<g)(m:Gr S q p j g R (.mk h 0 a c) o)(v:k<=a):Gr S q p j g R (.mk h 0 k c) (o.take k):=by
 have w:=m.len x;obtain⟨-,b,r,d⟩:=m;simp only[O.gH]at w;have t:b.length=a:=by rw[d.len];omega
 rcases r.aG with e|⟨B,C,tail,e,h4,h5,h6,h7⟩
 .simp at e
 simp only[O.gH,O.mk.injEq]at e h7;obtain⟨rfl,-,-,rfl⟩:=e;have l:b.flatten=(b.take k).flatten++(b.drop k).flatten:=by rw[<-qR,dk]
 have n:∀c∈b.take k,c.length=g:=λc s=>d.size c (dA s);refine⟨aL,b.take k,⟨by rw[cw n,gL,t,jf v];rfl,Or.inr ⟨h,c,(b.drop k).flatten++tail,aL,h4,by rw[<-fE,<-l];exact h5,by rw[<-fE,<-l];exact h6,bF⟩⟩,?_,n,λy z A f i=>?_⟩
 .rw[gL,gL,d.len]
 .rw[lH]at f i;split at f
  .rename_i u;rw[an u]at i;exact d.dz y z A f i
  .simp at f
section
variable{S L:List Nat}{d P:Nat}{c:O}{m M:E}
def rH{K:O->Int->Int->Int->O->E->Prop}(l:List Int)(r:Int)(n:∀c∈S,c<M.size)(m:∀d∈L,d<M.size)(t:l.length<=1000)(p:b=l.map Ce.i)(s:a=l.length)(q:∀c,J M c->ap (bH S c) (.mk M.size 0 a a) l->K (.mk M.size 0 a a) r 0 0 .nil c):
 aN cq 250 [O.v (.mk M.size 0 a a),vi r] (M.push (.cells (bt b) aA)) λv c=>eF L (M.push (.cells (bt b) aA)) c/\∃e:O,∃f:Int,∃g:Int,∃h:Int,∃i:O,v=.agg #[O.v e,vi f,vi g,vi h,O.v i]/\K e f g h i c:=
 have j:=J.push M (.cells (bt b) aA)
 (Ro _ r _).mono λ_ c⟨k,x⟩=>⟨x.dq λd o=>j.lt (m d o),_,_,_,_,_,k,q c (j.trans x) ((ap.lit aA l n p s V).le (x.df _))⟩
def ym(a:List Int)(r:Int):dy:=⟨a,[],r,0,[]⟩
def Tp.mono:oG 5 Tp:=⟨λh=>Tp.le h,λ⟨_,_,_,_,e,_⟩=>by rw[e];rfl⟩
def Rk(l:List (dy×O))(c:∀d∈S,d<M.size)(h:∀x∈l,ap (bH S M) x.2 x.1.params)(k:l.length<=1000)(f:b=l.flatMap λx=>[.s x.2,.i x.1.aT,.i 0,.i 0,.s .nil])(g:a=l.length):pE (bH S (M.push (.cells (bt b) fq))) (.mk M.size 0 a a) (l.map (·.1)):=by
 have H:=(Ch (R:=Tp) Tp.mono c fq (l.map λx=>(x.1,[Ce.s x.2,.i x.1.aT,.i 0,.i 0,.s .nil])) (λx d=>by simp at d;obtain⟨i,j,e,rfl⟩:=d;exact⟨_,_,_,_,rfl,h _ e⟩) (c:=b) (b:=a) (by rw[f,List.flatMap_map]) (by simp[g])).done Tp.mono c bn bF;rwa[show(l.map λx=>(x.1,[Ce.s x.2,.i x.1.aT,.i 0,.i 0,.s .nil])).map (·.1)=l.map (·.1)by simp[Xs,Function.comp_def]]at H
end
end
section
def Vf:List dy:=[ym [1] 0,ym [1,1] 1,ym [1] 1,ym [1,0] 1,ym [2,1] 1,ym [1,1] 0]
def Vn:List dy:=[ym [3] 0,ym [0] 1,ym [0,1] 1,ym [3,0] 3,ym [3] 1,ym [1,3,0] 0]
def Pk:List dy:=[ym [0] 0,ym [0,0] 0,ym [1,0] 0,ym [0] 1]
def QM:(∀q∈Vf,(q.params,q.aT)∈PE)/\(∀q∈Vn,(q.params,q.aT)∈PE)/\∀q∈Pk,(q.params,q.aT)∈PE:=bn
def O1{α:Type}{l:List α}{k:Nat}{x:α}(h:l[k]? =some x):l.set k x=l:=gX λi=>by
 rw[jG];split
 .rename_i e;subst e;rw[an (aw h),h]
 .rfl
section
variable{b:List Nat}{c P:Nat}{d:O}{m:E}
def EL(hS:∀j∈b,j<m.size)(s:c∈b)(I:Rd c d P m)(hP:P+10+4*(300+40*Cg 18)<=10^16):
 aN cq 237 [vp c 0] m λbz m'=>∃w aW y o,bz=.agg #[O.v w,O.v aW]/\cx (bH b m') w y/\WT (bH b m') aW o/\WV y o/\Rd c d (P+10+4*(300+40*Cg 18)) m'/\Fz [c] m m':=by
 apply xI (c,0)
 unfold sE
 simp(config:={zeta:=false,maxSteps:=2000000}) only[aD,aC]
 have hr:=I.lt
 intro aa
 have x1:J m aa:=J.push _ _
 have s1:aa.size=m.size+1:=by simp[aa]
 clear_value aa
 have ao:∀j∈m.size::b,j<aa.size:=bP hS x1.size V
 refine(wG ao (by simp[s]) (I.ext x1) V).mono λ_ e⟨w,y,r,gd,aM,d2,f2⟩=>⟨f2.dq bF,w,r,?_⟩
 have z2:=f2.size
 have F2:=(x1.fz [c]).trans f2
 have aK:cx (bH (m.size::b) e) w y:=gd.done iO.mono ao bn (oh (pG y aM))
 intro m3 A
 obtain⟨x4,-,z4⟩:=kJ (M:=e) (d:=m3) (c:=A) rfl rfl rfl
 clear_value A
 have h:∀{g:E},A.size<=g.size->∀j∈e.size::m.size::b,j<g.size:=λq=>bP (λj hc=>oh (ao j hc)) q V
 have LL:∀{g:E},A.size<=g.size->∀v∈[e.size,m.size],v<g.size:=λq=>bF
 refine rH (S:=e.size::m.size::b) [1] 0 (h V) (LL V) bn rfl rfl λa9 x5 i1=>?_
 have z5:=x5.size
 refine rH (S:=e.size::m.size::b) [1,1] 1 (h V) (LL V) bn rfl rfl λa2 x6 i2=>?_
 have z6:=x6.size
 refine rH (S:=e.size::m.size::b) [1] 1 (h V) (LL V) bn rfl rfl λa3 x7 i3=>?_
 have z7:=x7.size
 refine rH (S:=e.size::m.size::b) [1,0] 1 (h V) (LL V) bn rfl rfl λa4 x8 i4=>?_
 have z8:=x8.size
 refine rH (S:=e.size::m.size::b) [2,1] 1 (h V) (LL V) bn rfl rfl λa_ x9 i5=>?_
 have z9:=x9.size
 refine rH (S:=e.size::m.size::b) [1,1] 0 (h V) (LL V) bn rfl rfl λa6 aB i6=>?_
 have vG:=aB.size
 intro b1
 have y1:J a6 b1:=J.push _ _
 have X9:=x9.trans aB;have X8:=x8.trans X9;have X7:=x7.trans X8;have X6:=x6.trans X7
 have g1:pE (bH (e.size::m.size::b) b1) (.mk a6.size 0 6 6) Vf:=Rk [(ym [1] 0,.mk A.size 0 1 1),(ym [1,1] 1,.mk a9.size 0 2 2),(ym [1] 1,.mk a2.size 0 1 1),(ym [1,0] 1,.mk a3.size 0 2 2),(ym [2,1] 1,.mk a4.size 0 2 2),(ym [1,1] 0,.mk a_.size 0 2 2)] (h V) (by simp;exact⟨i1.le (X6.df _),i2.le (X7.df _),i3.le (X8.df _),i4.le (X9.df _),i5.le (aB.df _),i6⟩) aL rfl rfl
 have bK:b1.size=a6.size+1:=by simp[b1]
 clear_value b1
 have w1:=y1.size
 refine rH (S:=e.size::m.size::b) [3] 0 (h V) (LL V) bn rfl rfl λc1 u1 j1=>?_
 have v1:=u1.size
 refine rH (S:=e.size::m.size::b) [0] 1 (h V) (LL V) bn rfl rfl λc2 u2 j2=>?_
 have v2:=u2.size
 refine rH (S:=e.size::m.size::b) [0,1] 1 (h V) (LL V) bn rfl rfl λc3 u3 j3=>?_
 have v3:=u3.size
 refine rH (S:=e.size::m.size::b) [3,0] 3 (h V) (LL V) bn rfl rfl λc4 u4 j4=>?_
 have v4:=u4.size
 refine rH (S:=e.size::m.size::b) [3] 1 (h V) (LL V) bn rfl rfl λc5 u5 j5=>?_
 have v5:=u5.size
 refine rH (S:=e.size::m.size::b) [1,3,0] 0 (h V) (LL V) bn rfl rfl λc6 u6 j6=>?_
 have v6:=u6.size
 intro b2
 have y2:J c6 b2:=J.push _ _
 have U5:=u5.trans u6;have U4:=u4.trans U5;have U3:=u3.trans U4;have U2:=u2.trans U3
 have g2:pE (bH (e.size::m.size::b) b2) (.mk c6.size 0 6 6) Vn:=Rk [(ym [3] 0,.mk b1.size 0 1 1),(ym [0] 1,.mk c1.size 0 1 1),(ym [0,1] 1,.mk c2.size 0 2 2),(ym [3,0] 3,.mk c3.size 0 2 2),(ym [3] 1,.mk c4.size 0 1 1),(ym [1,3,0] 0,.mk c5.size 0 3 3)] (h V) (by simp;exact⟨j1.le (U2.df _),j2.le (U3.df _),j3.le (U4.df _),j4.le (U5.df _),j5.le (u6.df _),j6⟩) aL rfl rfl
 have bL:b2.size=c6.size+1:=by simp[b2]
 clear_value b2
 have w2:=y2.size
 refine rH (S:=e.size::m.size::b) [0] 0 (h V) (LL V) bn rfl rfl λe1 t1 k1=>?_
 have q1:=t1.size
 refine rH (S:=e.size::m.size::b) [0,0] 0 (h V) (LL V) bn rfl rfl λe2 t2 k2=>?_
 have q2:=t2.size
 refine rH (S:=e.size::m.size::b) [1,0] 0 (h V) (LL V) bn rfl rfl λe3 t3 k3=>?_
 have q3:=t3.size
 refine rH (S:=e.size::m.size::b) [0] 1 (h V) (LL V) bn rfl rfl λe4 t4 k4=>?_
 have q4:=t4.size
 intro b3
 have y3:J e4 b3:=J.push _ _
 have T3:=t3.trans t4;have T2:=t2.trans T3
 have g3:pE (bH (e.size::m.size::b) b3) (.mk e4.size 0 4 4) Pk:=Rk [(ym [0] 0,.mk b2.size 0 1 1),(ym [0,0] 0,.mk e1.size 0 2 2),(ym [1,0] 0,.mk e2.size 0 2 2),(ym [0] 1,.mk e3.size 0 1 1)] (h V) (by simp;exact⟨k1.le (T2.df _),k2.le (T3.df _),k3.le (t4.df _),k4⟩) aL rfl rfl
 have bM:b3.size=e4.size+1:=by simp[b3]
 clear_value b3
 have w3:=y3.size
 refine rH (S:=e.size::m.size::b) [] 0 (h V) (LL V) bn rfl rfl λM0 x0 n0=>?_
 have z0:=x0.size
 have aH:=((((u1.trans U2).trans y2)).trans (t1.trans T2)).trans (y3.trans x0)
 have XM:J A M0:=((x5.trans X6).trans y1).trans aH
 have G1:=pE.le (aH.df _) g1
 have G2:=pE.le ((((t1.trans T2)).trans (y3.trans x0)).df _) g2
 have a8:=pE.le (x0.df _) g3
 have dM:Rd c d (P+1) M0:=(d2.ext x4).ext XM
 have L2:∀{g:E},A.size<=g.size->Lw c [e.size,m.size] g:=λq=>lw hr bF
 have bE:c∈e.size::m.size::b:=by simp[s]
 have l:∀{g M':E}{v W:Nat},A.size<=v->v<g.size->Fz [c] g M'->af M' v W=af g v W:=λh1 h2 N=>aE (N.same _ h2 bF) _
 refine(bY dM V _).mono λ_ m5⟨r1,en,bu,aY,d5,f5⟩=>⟨(L2 V).dq f5,r1,en,bu,by simp at aY⊢;omega,?_⟩
 have ak:Le (bH (e.size::m.size::b) M0) (bH (e.size::m.size::b) m5):=f5.df (by simp[s])
 have bS:=f5.size
 let⟨K,aQ⟩:=cG Vf r1.toNat (by simp[Vf]at aY⊢;omega)
 obtain⟨_,⟨pa,pn,pk,pz,rfl,pi⟩,pr⟩:=(pE.le ak G1).iD _ K aQ
 have pg:=λt j q=>(eQ.1 (pr t j q)).2
 refine⟨_,pg 0 _ rfl,_,pg 1 _ rfl,_,pg 2 _ rfl,_,pg 3 _ rfl,_,pg 4 _ rfl,?_⟩
 refine(bY d5 V _).mono λ_ m6⟨r2,en,bw,a0,d6,z⟩=>⟨(L2 V).dq z,r2,en,?_⟩
 have bT:=z.size
 have al:Le (bH (e.size::m.size::b) m5) (bH (e.size::m.size::b) m6):=z.df (by simp[s])
 let⟨p2,aR⟩:=cG Vn r2.toNat (by simp[Vn]at a0⊢;omega)
 obtain⟨_,⟨qa,qn,qk,qz,rfl,qi⟩,qr⟩:=(pE.le (ak.trans al) G2).iD _ p2 aR
 have qg:=λt j q=>(eQ.1 (qr t j q)).2
 refine⟨l bF bF z,l bF bF z,l bF bF z,l bF bF z,l bF bF z,bw,by simp at a0⊢;omega,_,qg 0 _ rfl,_,qg 1 _ rfl,_,qg 2 _ rfl,_,qg 3 _ rfl,_,qg 4 _ rfl,?_⟩
 refine(bY d6 V _).mono λ_ f⟨r3,en,bx,a1,d7,p⟩=>⟨(L2 V).dq p,r3,en,?_⟩
 have bU:=p.size
 have am:Le (bH (e.size::m.size::b) m6) (bH (e.size::m.size::b) f):=p.df (by simp[s])
 let⟨p3,aS⟩:=cG Pk r3.toNat (by simp[Pk]at a1⊢;omega)
 obtain⟨_,⟨ra,rn,rk,rz,rfl,ri⟩,rr⟩:=(pE.le ((ak.trans al).trans am) a8).iD _ p3 aS
 have rg:=λt j q=>(eQ.1 (rr t j q)).2
 refine⟨l bF bF p,l bF bF p,l bF bF p,l bF bF p,l bF bF p,l bF bF p,l bF bF p,l bF bF p,l bF bF p,l bF bF p,bx,by simp at a1⊢;omega,_,rg 0 _ rfl,_,rg 1 _ rfl,_,rg 2 _ rfl,_,rg 3 _ rfl,_,rg 4 _ rfl,?_⟩
 intro T
 have a5:J f T:=J.push _ _
 have bl:ap (bH (e.size::m.size::b) f) (.mk b3.size 0 0 0) []:=mI _ _ _ _ _ _
 have gf:Gr (e.size::m.size::b) f T fq 5 Py (.mk f.size 0 4 4) [(ym [] 0,none),(K,none),(p2,none),(p3,none)]:=Ch Py.mono (h V) fq [((ym [] 0,none),[.s (.mk b3.size 0 0 0),.i 0,.i 0,.i 0,.s .nil]),((K,none),[.s pa,.i K.aT,.i pn,.i pk,.s pz]),((p2,none),[.s qa,.i p2.aT,.i qn,.i qk,.s qz]),((p3,none),[.s ra,.i p3.aT,.i rn,.i rk,.s rz])] (by simp;exact⟨⟨_,_,_,_,rfl,bl,aL⟩,⟨_,_,_,_,rfl,pi.le (al.trans am),aL⟩,⟨_,_,_,_,rfl,qi.le am,aL⟩,⟨_,_,_,_,rfl,ri,aL⟩⟩) rfl rfl
 have s8:T.size=f.size+1:=by simp[T]
 clear_value T
 let u:=[ym [] 0,K,p2,p3]
 have bB:f.size≠e.size:=V
 have be:∀ac∈u,(ac.params,ac.aT)∈PE:=by
  simp only[u,aV,j7,BV];rintro ac (rfl|rfl|rfl|rfl)
  .simp[ym,PE]
  .exact QM.1 _ (aq aQ)
  .exact QM.2.1 _ (aq aR)
  .exact QM.2.2 _ (aq aS)
 have a7:Fz [c] e f:=(((x4.trans XM).fz [c]).trans f5).trans (z.trans p)
 have aX:∀{g:E}{ag:O}{o:List (dy×Option Ex)}(W:Nat)(L:List Ce),Gr (e.size::m.size::b) f g fq 5 Py ag o->Gr (e.size::m.size::b) f (ah g e.size W L) fq 5 Py ag o:=λW L G=>G.NM Py.mono ((Fz.az [e.size] _).ah (Or.inl aL) W L) aL (by have:=G.bh;simp;omega)
 intro U
 have g9:Gr (e.size::m.size::b) f U fq 5 Py (.mk f.size 0 4 4) [(ym [] 0,none),(K,none),(p2,none),(p3,none)]:=aX 1 [.s (.mk f.size 0 4 4)] gf
 have r9:Rs c d e (P+4) U:=(Rs.mk (a7.then a5) (d7.ext a5)).put d2 (ad _) 1 [.s (.mk f.size 0 4 4)]
 have s9:U.size=T.size:=av _ _ _ _
 clear_value U
 intro ay
 have ai:J U ay:=J.push _ _
 have bp:ap (bH [c] ay) (.mk U.size 0 5 5) [4,4,3,2,4]:=ap.lit aA _ bF rfl rfl aL
 clear_value ay
 have bQ:=ai.size
 refine(kE (r9.r.ext ai) V bp aL).mono λ_ bq⟨mn,en,bk,ba,ae⟩=>⟨(L2 V).dq ae,mn,en,?_⟩
 have bR:=ae.size
 have bD:2<=mn/\mn<=4:=by simp at bk;omega
 obtain⟨n,rfl⟩:∃n:Nat,mn=n:=⟨mn.toNat,V⟩
 have bh:O.cut (.mk f.size 0 4 4) (Int.toNat 0) (Int.toNat n) 5=.mk f.size 0 n 4:=by simp[O.cut]
 rw[bh]
 refine⟨bn,V,bF,?_⟩
 intro ab
 have bc:Gr (e.size::m.size::b) f ab fq 5 Py (.mk f.size 0 n 4) ([(ym [] 0,none),(K,none),(p2,none),(p3,none)].take n):=Gr.ZN bn (aX 1 [.s (.mk f.size 0 n 4)] ((g9.ext Py.mono ai).eA Py.mono ae (by simp[s];omega))) V
 have bv:Rs c d e (P+5) ab:=((r9.ext ai).to ae ba).put d2 (ad _) 1 [.s (.mk f.size 0 n 4)]
 have bI:ab.size=bq.size:=av _ _ _ _
 clear_value ab
 have aT:(u.take n).length=n:=by simp[u];omega
 have gp:GP y (u.take n):=⟨aM,V,V,λac i=>be ac (dA i)⟩
 have ew:cO ((n:Int) -1)=n -1:=aP V V
 rw[ew]
 refine⟨λN g=>∃(i:Nat)(o:List (dy×Option Ex)),N=(i:Int) -1/\i<=n/\Gr (e.size::m.size::b) f g fq 5 Py (.mk f.size 0 n 4) o/\o.map (·.1)=u.take n/\(∀(t:Nat)(x:dy×Option Ex),o[t]? =some x->i<=t->∃r,x.2=some r/\XV y n x.1.params.length r)/\Rs c d e (P+5+(n -i)*(300+40*Cg 18)) g/\ab.size<=g.size,λN _=>(N+1).toNat,⟨n,_,rfl,ad _,bc,by rw[Ok];rfl,λt x C q=>by have:=aw C;simp at this;omega,by rw[QD,QE];exact bv,ad _⟩,?_⟩
 rintro N g ⟨i,o,rfl,bC,G,hl,ar,Y,zM⟩
 have bj:o.length=n:=by rw[<-aT,<-hl];simp
 have gy:=G.bh
 simp only[O.jD]at gy
 have aJ:f.size∉e.size::m.size::b:=λq=>by have:=h (g:=A) (ad _) _ q;omega
 refine dit (λq=>?_) λq=>?_
 .obtain⟨i,rfl⟩:∃D,i=D+1:=⟨i -1,V⟩
  have ek:((i+1:Nat):Int) -1=(i:Int):=V
  rw[ek]
  let⟨x,Q⟩:=cG o i
  have au:(u.take n)[i]? =some x.1:=by rw[<-hl];simp[Q]
  have bo:pE (bH [c] g) (.mk f.size 0 n 4) (u.take n):=by
   have H:=G.nK Py.mono aJ bn V;rw[<-hl];refine⟨bF,H.cap,H.gV,λD aG hy=>?_⟩;simp only[cJ,jI]at hy;obtain⟨Z,R,rfl⟩:=hy;obtain⟨L,⟨F,i1,i2,i3,rfl,ha,-⟩,ax⟩:=H.iD D Z R;have aU:=iV g (S:=e.size::m.size::b) (c:=[c]) (by simp[s]);exact⟨_,⟨F,_,_,_,rfl,ha.le aU⟩,aU.iD ax⟩
  have bi:cx (bH [c] g) w y:=aK.le ((iV e (c:=[c]) (by simp[s])).trans (fh Y.f))
  have hB:(n -(i+1))*(300+40*Cg 18)+(300+40*Cg 18)=(n -i)*(300+40*Cg 18):=by rw[<-qj];congr 1;omega
  have bf:(n -i)*(300+40*Cg 18)<=4*(300+40*Cg 18):=dg _ V
  have bm:i=0->x.1.params.length=0:=λI=>by subst I;obtain⟨n',rfl⟩:∃n',n=n'+1:=⟨n -1,V⟩;simp[u]at au;rw[<-au];rfl
  have bg:∀j∈f.size::e.size::m.size::b,j<g.size:=bP (h (g:=g) V) (ad _) gy.2
  refine XP.kk (Nb (f:=f.size::e.size::m.size::b) bg (by simp[s]) ⟨Y.r,bi,bo,gp⟩ V au bm) (L2 V) λag r M1 hs B bb aj=>?_
  have bN:=aj.size
  intro br az
  obtain⟨aF,-,bO⟩:=kJ (M:=M1) (d:=br) (c:=az) rfl rfl rfl
  clear_value az
  have aI:=(G.eA Py.mono aj (by simp[s];omega)).ext Py.mono aF
  obtain⟨L,⟨F,i1,i2,i3,rfl,ha,-⟩,jw⟩:=aI.cells Q
  have bs:=jw 0 _ rfl;have bt:=jw 1 _ rfl
  refine⟨V,bF,F,bs,V,bF,_,bt,V,bF,?_⟩
  obtain⟨wr,gs,-,bG⟩:=aI.set Py.mono (X:=List.range f.size) ⟨V,λv hb hn=>absurd (List.mem_range.2 hb) hn⟩ (k:=i) V (a:=(x.1,some r)) (cs:=[.s F,.i x.1.aT,.i r.op,.i r.bQ,.s ag]) ⟨F,_,_,_,rfl,ha,λe' aO=>by simp at aO;subst aO;exact⟨rfl,rfl,fH.le (aF.df _) hs⟩⟩
  refine⟨wr,?_⟩
  intro aO
  have bJ:aO.size=az.size:=av _ _ _ _
  have aZ:Rs c d e (P+5+(n -(i+1))*(300+40*Cg 18)+300+40*Cg 18) aO:=((Y.to aj bb).ext aF).put d2 (by show e.size<=f.size;omega) _ _
  refine⟨λv hb=>bd _ _ _ _ (by simp at hb;show v≠f.size;omega),⟨i,o.set i (x.1,some r),aP V V,V,gs,?_,λt aG C bA=>?_,⟨aZ.f,aZ.r.mono V⟩,V⟩,?_⟩
  .rw[ue,O1 (by simp[Q]),hl]
  .rw[jG]at C
   split at C
   .rename_i e';subst e';rw[an V]at C;simp at C;subst C
    have:(u.take n).length=n:=aT
    rw[this]at B;exact⟨r,rfl,B⟩
   .exact ar t aG C V
  .rw[aP V V];show((i:Int) -1+1).toNat<((i:Int)+1).toNat;omega
 .have I:i=0:=V
  subst I
  have aj:Le (bH (e.size::m.size::b) g) (bH b (ah g m.size 0 [.s w,.s (.mk f.size 0 n 4)])):=cz aL λj hc=>by simp[hc]
  have H:=G.nK Py.mono aJ bn V
  have bf:(n -0)*(300+40*Cg 18)<=4*(300+40*Cg 18):=dg _ V
  have C:Rs c d m (P+5+(n -0)*(300+40*Cg 18)) g:=⟨F2.trans Y.f,Y.r⟩
  have C:=C.put I (ad _) 0 [.s w,.s (.mk f.size 0 n 4)]
  have az:(o.map λx=>(x.1,x.2.getD (.mk 0 0 []))).map (·.1)=u.take n:=by rw[Xs,<-hl];rfl
  refine⟨w,.mk f.size 0 n 4,y,o.map λx=>(x.1,x.2.getD (.mk 0 0 [])),rfl,aK.le ((Y.f.df (by simp[s])).trans ((cz aL λj hc=>by simp[hc]))),⟨bF,H.cap,H.gV,λD aG hy=>?_⟩,⟨by rw[az];exact gp,λx Q=>?_⟩,C.r.mono V,C.f⟩
  .simp only[cJ,jI]at hy
   obtain⟨Z,R,rfl⟩:=hy
   let⟨r,B,hf⟩:=ar D Z R (dH _)
   obtain⟨L,⟨F,i1,i2,i3,rfl,ha,hb⟩,ax⟩:=H.iD D Z R
   obtain⟨rfl,rfl,au⟩:=hb r B
   exact⟨_,⟨F,i3,by simp[B],ha.le aj,by simp only[B,vI];exact fH.le aj au⟩,aj.iD ax⟩
  .simp only[Xt]at Q
   obtain⟨Z,R,rfl⟩:=Q
   let⟨D,F⟩:=List.mem_iff_getElem?.1 R
   let⟨r,B,hf⟩:=ar D Z F (dH _)
   simp only[B,vI,dY,bj];exact hf
end
end
structure Pq(S:List Nat)(m0 m:E)(lb:Nat)(s:O)(l:List cU)(sc:Nat):Prop where
 box:cD m lb lG [.s s,.i sc]
 gr:GS (lb::S) m0 m s l
 up:m0.size<=lb
def Pq.ext{S:List Nat}{c m b:E}{a d:Nat}{s:O}{l:List cU}(h:Pq S c m a s l d)(x:J m b):Pq S c b a s l d:=⟨h.box.ext x,h.gr.ext gC.mono x,h.up⟩
def Pq.ne{S:List Nat}{b m:E}{a c:Nat}{s:O}{l:List cU}(h:Pq S b m a s l c):s.D≠a:=h.gr.ne h.box bn
def LoP(S:List Nat)(f m:E)(c:Nat)(s:O)(P:List cU->Nat->Prop)(d:E):Prop:=∃a b e,Pq S f d c a b e/\P b e/\Fz [c,s.D] m d/\(a.D=s.D\/m.size<=a.D)
def LQ{S:List Nat}{n e:E}{b f:Nat}{s w D:O}{l:List cU}{x:cU}(q:Pq S n e b s l f)(C:n.size<=e.size)(P:ap (bH (s.D::b::S) e) w x.args)(Q:nI (bH (s.D::b::S) e) D x.bC)(t:l.length<=1000000)(hs:f<=1000000):
 aN cq 311 [vp b 0,pv x w D] e λW T=>W=vi (f:Nat)/\LoP S n e b s (λc d=>c=l++[x]/\d=f+1) T:=by
 apply wK (b,0)
 simp -zeta only[aD,aC]
 intro i
 have k:J e i:=J.push _ _
 have s1:i.size=e.size+1:=by simp[i]
 clear_value i
 have g:=q.ext k
 have hy:=g.gr.bh
 have I:=g.box.lt
 have aa:=q.box.lt
 have ab:=q.gr.bh
 refine⟨s,g.box.cp 0,?_⟩
 intro U
 have K:J i U:=J.push _ _
 refine⟨aE (K.same _ I) _,?_⟩
 have g1:GS (b::S) (e.extract 0 n.size) i s l:=Gr.cv gC.mono g.gr (λL t=>Or.inl t) (by rw[mg C];exact ad _)
 refine Gr.kL (g:=[.i 0,.i 0,.i 0,.s .nil,.s .nil]) (k:=x) gC.mono bn g1 (((J.MZ C).trans k).fz []) ⟨w,D,rfl,P.le (k.df _),eT.le Q (k.df _) λ_ _=>rT.le (k.df _)⟩ V λp u G Z X F=>?_
 have A:cD u b lG [.s s,.i f]:=g.box.congr (F b I (kG g.ne))
 have R:=G.ne A bn
 refine⟨λc d=>?_,A.fL aL,?_⟩
 .simp at d;subst d
  rw[F e.size V V,K.same _ V]
 intro j
 have B:cD j b lG [.s p,.i f]:=cD.ah (m:=u) (o:=0) (r:=[.s p]) A
 have y:∀c,c≠b->j[c]? =u[c]? :=λc d=>bd _ _ _ _ d
 have s4:j.size=u.size:=av _ _ _ _
 have M:cO ((f:Int)+1)=(f+1:Nat):=by rw[aP V V];rfl
 refine⟨λc d=>y c (by simp at d;omega),_,B.cp 1,B.fL aL,?_⟩
 rw[M]
 intro v
 have H:cD v b lG [.s p,.i (f+1:Nat)]:=cD.ah (m:=j) (o:=1) (r:=[.i (f+1:Nat)]) B
 have z:∀c,c≠b->v[c]? =j[c]? :=λc d=>bd _ _ _ _ d
 have s5:v.size=j.size:=av _ _ _ _
 refine⟨λc d=>z c (by simp at d;omega),_,H.cp 1,?_⟩
 have N:GS (b::S) n v p (l++[x]):=by
  refine Gr.cv gC.mono (G.re gC.mono (Y:=[b]) ⟨V,λc d h=>?_⟩ aL (by simp;exact R) λc d=>Or.inl d) (λL t=>Or.inl t) (by rw[mg C];exact ad _);have:c≠b:=by simpa using h
  exact(z c this).trans (y c this)
 refine⟨by rw[aP V V];congr 1;omega,p,_,_,⟨H,N,q.up⟩,⟨rfl,rfl⟩,⟨V,λc d h=>?_⟩,oh X.2⟩
 simp only[aV,j7,BV,vK]at h
 rw[z c h.1,y c h.1,F c V h.2,k.same c d]
section
variable{K D d b:Nat}{a:List cU}
structure LW(ds:List bz)(nf sc:Nat)(a:List cU)(K D sc':Nat):Prop where
 wl:WL ds nf False sc a
 dd:sc'=sc+dc a
 sz:sw a<=K
 oJ:sc'<=sc+D
def LW.az(b:List bz)(c a:Nat):LW b c a [] 0 0 a:=⟨.nil _ _ _ _,aL,aL,V⟩
def LW.fm{c:List bz}{e f g:Nat}(h:LW c e f a K D g)(j:K<=d)(i:D<=b):LW c e f a d b g:=⟨h.wl,h.dd,oh h.sz,oh h.oJ⟩
def LW.trans{e:List bz}{f i j k:Nat}{g:List cU}(h:LW e f i a K D j)(c:LW e f j g d b k):LW e f i (a++g) (K+d) (D+b) k:=
 ⟨h.wl.append (h.dd▸c.wl),by rw[c.dd,h.dd,cV];omega,by have:=h.sz;have:=c.sz;rw[dC];omega,Ps h.oJ c.oJ⟩
def LW.lM{b:List bz}{c a:Nat}{x:cU}(h:WS b c False a x):LW b c a [x] x.w 1 (a+1):=⟨.lM h,by rw[kN,tp,ZO h],by simp[sw],V⟩
section
variable{S:List Nat}{e m f:E}{c g j:Nat}{s i:O}{l h:List cU}
def Pq.gJ(h:Pq S e m c s l g)(d:J e m)(b:Fz [c,s.D] m f):J e f:=by
 have k:=h.gr.bh;have j:=h.up;exact Fz.ext (((d.fz [c,s.D]).trans b).DR λi a=>Or.inr (by simp at a;omega))
def Pq.re{S' Y:List Nat}(h:Pq S e m c s l g)(j:Fz Y m f)(d:∀b∈Y,b∈S/\b≠c/\b≠s.D)(k:∀b∈S',b∈S\/m.size<=b):Pq S' e f c s l g:=
 ⟨h.box.congr (j.same _ h.box.lt λi=>(d _ i).2.1 rfl),h.gr.re gC.mono j (λb a=>ai _ (d b a).1) (λi=>(d _ i).2.2 rfl) λb a=>(List.mem_cons.1 a).elim (λi=>Or.inl (by rw[i];exact bg)) λa=>(k b a).imp (ai _) id,h.up⟩
end
structure LS(S:List Nat)(m0 m:E)(lb:Nat)(s:O)(l:List cU)(sc:Nat)(MJ:O)(ev:List Int):Prop where
 em:Pq S m0 m lb s l sc
 x:J m0 m
 gJ:∀c∈S,c<m.size
 MJ:ap (bH [s.D,lb] m) MJ ev
 sm:∀y∈ev,0<=y/\y<(sc:Int)
def ZU(e:Ex)(t:O):Value:=.agg #[vi e.op,vi e.bQ,O.v t]
def UK(b:List bz)(h:Nat)(e:Ex):Prop:=∀(S:List Nat)(c m:E)(d:Nat)(s:O)(l:List cU)(f:Nat)(MJ:O)(ev:List Int)(g p t:O),LS S c m d s l f MJ ev->WX b h ev.length e->f+4*e.n<=2000->ev.length+4*e.n<=2000->l.length+4*e.n<=2000->cx c g b->dS b->fH c t e.bC->
 aN cq 278 [vp d 0,.agg #[O.v g,O.v p],ZU e t,O.v MJ] m λv k=>∃r:Int,v=vi r/\LoP S c m d s (λj i=>∃a,j=l++a/\LW b h f a (3*e.n -1) e.n i/\0<=r/\r<(i:Int)) k
def ZD(a:List bz)(f:Nat)(e:Ex):Prop:=∀(S:List Nat)(m:E)(b:Nat)(MJ:O)(ev:List Int)(d p t:O),(∀c∈S,c<m.size)->ap m MJ ev->(∀y∈ev,0<=y/\y<(b:Int))->WX a f ev.length e->b+4*e.n<=2000->ev.length+4*e.n<=2000->cx m d a->dS a->fH m t e.bC->
 nA 249 [.agg #[O.v d,O.v p],ZU e t,O.v MJ,vi b] m S λc=>WB a f False b c/\c.w<=3*e.n
def _root_.Go.Vc.Ex.NN(e:Ex):1<=e.n:=by rw[Ex.Yy];omega
def DG{s:List bz}{w:Nat}{e:Ex}(k:UK s w e):ZD s w e:=by
 intro i v n MJ ev C R X t H L N ab Z hd M I;apply zi;simp -zeta only[aD,aC];intro P f b c d;let⟨g,hl,s1,s2,s3⟩:=qx (a:=P) (b:=f) (c:=b) rfl rfl rfl;have p:J b c:=J.push _ _;have W:c.size=b.size+1:=by simp[c]
 have F:GS ((b.size+1)::f.size::i) b c (.mk b.size 0 0 0) []:=Gr.new _ (ad _) _ _ _;have h:J c d:=J.push _ _;have z:cD d c.size lG [.s (.mk b.size 0 0 0),.i n]:=cD.push _ _ _;clear_value d c b;have Y:=g;have q:=(g.trans p).trans h;have z5:=h.size;have G:∀r∈f.size::i,r<d.size:=bP t q.size V;have O:Pq (f.size::i) b d c.size (.mk b.size 0 0 0) [] n:=⟨z,W▸F.ext gC.mono h,V⟩;have hp:=e.NN;refine(k (f.size::i) b d c.size _ [] n MJ ev C R X ⟨O,p.trans h,G,(H.le (((g.trans p).trans h).bH (S:=[]) bF|>λk=>(Am v).trans k)),L⟩ N V V bF (hd.le g.le) M (fH.le g.le I)).mono λae Q⟨x,E,y,m,ac,o6,⟨a,D,o,T,U⟩,j,b6⟩=>?_;subst D;have z6:=j.size;have A:J v Q:=Fz.ext (((q.fz [c.size,b.size]).trans j).DR λB l=>by simp at l;omega);refine⟨j.dq λB l=>by simp at l;simp;omega,x,E,y,o6.box.cp 0,?_⟩;intro m7;have hz:=o.sz;have aa:=gB m;refine⟨y,.mk m x,rfl,eP.le (cz aL λr u=>by simp[u]) (o6.gr.nK gC.mono (λu=>?_) bn (by show m.length<=_;omega)),⟨WB.of o.wl ⟨T,by rw[<-o.dd];exact U⟩,by rw[Bk.qQ];omega⟩,A.ah V _ _⟩;have hy:=o6.gr.bh;have K:=o6.ne;simp only[aV]at u;rcases u with e|e|e
 .exact K e
 .omega
 .have:=t _ e;omega
end
section
variable{M c:E}{a:Nat}
def PT{m:E}{t:O}{l:List Ex}(h:fH m t l){k:Nat}{x:Ex}(f:l[k]? =some x)(a:J m M):∃u,fH m u x.bC/\af M t.D (t.off+k*3)=some (vi x.op)/\af M t.D (t.off+k*3+1)=some (vi x.bQ)/\af M t.D (t.off+k*3+2)=some (O.v u):=
 let⟨u,b,c,d,e⟩:=h.aG f;⟨u,b,a.af c,a.af d,a.af e⟩
def gx(x:J M c){o:Nat}{v:Value}(h:af M a o=some v):af c a o=af M a o:=by rw[x.af h,h]
def gl(x:J M c)(h:a<M.size)(o:Nat):af c a o=af M a o:=aE (x.same a h) o
def T0{q:List bz}{nf:Nat}{p bQ:Int}{bC:List Ex}(ih:∀t∈bC,UK q nf t):UK q nf (.mk p bQ bC):=by
 intro u W D d A aa sc MJ ev al an bu e hw bs bi bp hd ht hk;have N:=hw.aS;simp only[ZU,Ex.VZ,Ex.Ub,Ex.RW,Ex.SF]at*;apply uq (d,0);simp -zeta only[aD,aC];intro am s;let⟨G,hl⟩:=dD (a:=am) (c:=s) rfl rfl;have s1:am.size=D.size+1:=by simp[am]
 have s2:s.size=D.size+2:=by simp[s,s1]
 clear_value s;have aS:=hk.len;have bm:=hk.gV;have bo:=e.em.box.lt;have h:=e.em.gr.bh;have bq:=e.em.ne;have df:∀{M:E}{f:O},Fz [d,A.D] D M->(f.D=A.D\/D.size<=f.D)->Le (bH [A.D,d] D) (bH [f.D,d] M):=λab g=>pK λa aF hn=>by
  simp at hn;exact⟨by simp;rcases g with t|t<;>omega,ab.same a aF bF⟩
 have st:∀{av:List Nat}{M:E}{f:O}{l':List cU}{F:Nat},Pq av W M d f l' F->Fz [d,A.D] D M->(f.D=A.D\/D.size<=f.D)->(∀l∈av,l<M.size)->sc<=F->LS av W M d f l' F MJ ev:=λah ab g hS hs=>⟨ah,e.em.gJ e.x ab,hS,e.MJ.le (df ab g),λy h=>⟨(e.sm y h).1,oh ((e.sm y h).2)⟩⟩;have dq:∀{M c:E}{f:O},s.size<=M.size->(f.D=A.D\/s.size<=f.D)->Fz [d,f.D] M c->eF [am.size,D.size] M c:=λhz g ab=>ab.dq λa aF=>by simp at aF;simp;omega
 have ak:∀{M c:E},s.size<=M.size->J M c->eF [am.size,D.size] M c:=λhz bd=>bd.dq λa g=>by simp at g;omega
 have fr:∀{M c:E}{f:O},Fz [d,A.D] D M->(f.D=A.D\/s.size<=f.D)->Fz [d,f.D] M c->Fz [d,A.D] D c:=λab g L=>ab.sq L λy h=>by simp at h⊢;omega
 refine⟨λao=>?_,λao=>⟨λag=>?_,λag=>⟨λar=>?_,λar=>?_⟩⟩⟩
 .simp only[aI]at ao;let⟨j,o⟩:=N.1.Uo ao;have k:=e.MJ.len;let⟨y,v⟩:=cG ev bQ.toNat;have i:=e.sm y (aq v);exact⟨j,V,y,(eQ.1 ((e.MJ.le (G.df _)).aG v)).2,y,rfl,A,aa,sc,e.em.ext G,⟨[],aL,(LW.az q nf sc).fm V V,i⟩,G.fz _,Or.inl rfl⟩
 .simp only[aI]at ag;have h2:=N.1.Kr ag;let⟨T,U⟩:=cG bC 0;let⟨j,i⟩:=cG bC 1;have aO:en bC=T.n+j.n:=by
   obtain⟨w,a,rfl⟩:∃w a,bC=[w,a]:=by
    match bC,h2 with
    |[w,a],_=>exact⟨w,a,rfl⟩
   simp at U i;subst U i;simp[en]
  have p0:=T.NN;have p1:=j.NN;let⟨u0,aH,g0,g1,g2⟩:=PT hk U (e.x.trans G);refine⟨bn,V,_,g0,_,g1,_,g2,?_⟩;have S2:=st (e.em.ext G) (G.fz _) (Or.inl rfl) (λl r=>oh (e.gJ l r)) (ad _);refine(ih T (aq U) u W s d A aa sc MJ ev al an u0 S2 (by have:=N.2 0 T U;simpa[xb]using this) V V V hd ht aH).mono λR o⟨P,az,H,l3,Q,o3,⟨af,ay,Z,bb,bc⟩,f3,b3⟩=>⟨dq (ad _) (Or.inl rfl) f3,P,az,?_⟩;subst ay;have F3:=fr (G.fz _) (Or.inl rfl) f3;have z3:=f3.size;have X3:=e.em.gJ e.x F3;let⟨u1,aB,k0,k1,k2⟩:=PT hk i X3;have a1:=Z.oJ;have a8:=gB af;have ba:=Z.sz;refine⟨bn,V,_,k0,_,k1,_,k2,?_⟩;have S3:=st o3 F3 V (λl r=>oh (e.gJ l r)) (oh Z.dd);have z:∀l∈[H.D,d],l<o.size:=λl r=>by have:=o3.gr.bh;have:=o3.box.lt;simp at r;omega
  intro C;have k:J o C:=J.push _ _;have aE:ap (bH [H.D,d] C) (.mk o.size 0 1 1) [P]:=ap.lit aA _ z rfl rfl aL;clear_value C;refine⟨gx k k0,gx k k1,gx k k2,gl k V _,gl k V _,gl k V _,?_⟩;have z4:=k.size;refine(eO (S:=[H.D,d]) (λl r=>k.lt (z l r)) (S3.MJ.le (k.df _)) aE bF).mono λR m5⟨I,l5,e5,g5,q5,B⟩=>⟨ak V B,I,e5,gx B (k.af k0),gx B (k.af k1),gx B (k.af k2),gl B V _,gl B V _,gl B V _,?_⟩;subst q5;have z5:=B.size;have S5:LS u W m5 d H (aa++af) Q I (ev++[P]):=⟨(o3.ext k).ext B,(X3.trans k).trans B,λl r=>oh (e.gJ l r),GI.done g5 (λl r=>k.lt (z l r)) bF,λy h=>by
   rcases List.mem_append.1 h with h|h
   .have:=e.sm y h;have:=Z.dd;omega
   .simp at h;omega⟩
  refine(ih j (aq i) u W m5 d H (aa++af) Q I (ev++[P]) al an u1 S5 (by have:=N.2 1 j i;simpa[xb,ag]using this) V bF bF hd ht aB).mono λR m6⟨r1,au,s6,l6,aN,o6,⟨aG,ac,w6,aK,aM⟩,K,b6⟩=>⟨dq V V K,r1,au,r1,rfl,s6,l6,aN,o6,⟨af++aG,by rw[ac,fE],(Z.trans w6).fm V V,aK,aM⟩,fr ((F3.then k).then B) V K,V⟩
 .simp only[bR,aI]at ar;have h3:p=7->bC.length=3:=N.1.Y9;have aE:p=8->bC.length=1+(cy q bQ).length/\0<(cy q bQ).length:=N.1.all;have a5:1<=bC.length:=by rcases ar with i|i;have:=h3 i;omega;have:=aE i;omega
  let⟨T,U⟩:=cG bC 0;have bj:en (bC.take 1)=T.n:=by have:=Kv U;simpa using this
  have bk:=RN bC 1;have p0:=T.NN;let⟨u0,aH,g0,g1,g2⟩:=PT hk U (e.x.trans G);refine⟨bn,V,_,g0,_,g1,_,g2,?_⟩;have S2:=st (e.em.ext G) (G.fz _) (Or.inl rfl) (λl r=>oh (e.gJ l r)) (ad _);refine(ih T (aq U) u W s d A aa sc MJ ev al an u0 S2 (by have:=N.2 0 T U;simpa[xb]using this) V V V hd ht aH).mono λR o⟨P,az,H,l3,Q,o3,⟨af,ay,Z,bb,bc⟩,f3,b3⟩=>⟨dq (ad _) (Or.inl rfl) f3,P,az,?_⟩;subst ay;have F3:=fr (G.fz _) (Or.inl rfl) f3;have z3:=f3.size;have X3:=e.em.gJ e.x F3;have a1:=Z.oJ;have a8:=gB af;have ba:=Z.sz;have S3:=st o3 F3 V (λl r=>oh (e.gJ l r)) (oh Z.dd);have aB:∀l∈H.D::d::u,l<o.size:=bP (bP (m:=D) e.gJ V o3.box.lt) (ad _) o3.gr.bh.2;intro C;have k:J o C:=J.push _ _;have g4:GB (H.D::d::u) o C (.mk o.size 0 0 0) []:=GB.new _ o;have s4:C.size=o.size+1:=by simp[C]
  clear_value C;refine(iy (e:=[o.size]) bF (hd.le (X3.trans k).le) ht bQ).mono λR m5⟨cs,cl,ec,r,qc,B⟩=>⟨ak V B,cs,ec,?_⟩;subst qc;have bh:=r.len;have z5:=B.size;refine QX (a:=bC.length) (aS▸hk.gV) a5 (λj ks M=>∃z,GB (H.D::d::u) o M ks z/\z.length+1=j/\(∀(ac:Nat)(a:Bk),z[ac]? =some a->WB q nf False (Q+BY q p bQ ac) a)/\bw z+3*T.n<=3*en (bC.take j)/\J o M/\Fz [o.size] m5 M/\(ks.D=o.size\/m5.size<=ks.D)) ⟨[],g4.ext rT.mono B,rfl,aL,bF,k.trans B,Fz.az _ _,Or.inl rfl⟩ ?_;rintro j ks M aX μ bl hj ⟨z,L,a7,aT,a2,xM,fM,aR⟩ aK
  have zM:=xM.size;have aQ:=L.bh;have oM:=o3.box.ext xM;refine dit (λi=>?_) λi=>?_
  .have ew:cO ((j:Int) -1)=((j -1:Nat):Int):=by rw[aP V V];omega
   refine⟨λaU c=>J M c/\aU=(BY q p bQ (j -1):Nat),⟨λh8=>?_,λh8=>⟨J.az _,by simp only[aj]at h8;rw[KM h8];rfl⟩⟩,?_⟩
   .simp only[aI]at h8;have ha:=aE h8;let⟨y,v⟩:=cG (cy q bQ) (j -1);rw[ew];refine⟨V,V,y,(eQ.1 ((r.le (fM.df aL)).aG v)).2,?_⟩;refine(dK (e:=[]) aL (hd.le ((X3.trans xM).le.trans (Am _))) ht y).mono λR m6⟨K,l6,e6,h6,q6,I⟩=>⟨ak V I,K,e6,I,?_⟩;subst q6;rw[KL h8 v,h6.len]
   rintro aU m6 ⟨I,rfl⟩;let⟨t,he⟩:=cG bC j;have X6:=(X3.trans xM).trans I;let⟨aN,hu,k0,k1,k2⟩:=PT hk he X6;have B6:=oM.ext I;have z6:=I.size;refine⟨V,V,_,k0,_,k1,_,k2,_,B6.cp 1,_,B6.cp 1,?_⟩;have bf:=QN ht p bQ (j -1);have a4:=Kv he;have a3:=RN bC (j+1);have a9:=t.NN;refine(lY (S:=[]) (d:=m6) aL Q (BY q p bQ (j -1)) V).mono λR m7⟨s7,l7,e7,g7,q7,v⟩=>⟨ak V v,s7,e7,gx v (B6.cp 1),gx v k0,gx v k1,gx v k2,gl v V _,gl v V _,gl v V _,?_⟩;have z7:=v.size;have a0:ap (bH [] m7) MJ ev:=(S3.MJ.le ((((xM.trans I).trans v).df _).trans (bA _ _))).le (Am _);refine(eO (S:=[]) aL a0 (GI.done g7 aL V) V).mono λR m8⟨s8,l8,e8,g8,q8,K⟩=>⟨ak V K,s8,e8,gx K ((B6.ext v).cp 1),gx K (v.af k0),gx K (v.af k1),gx K (v.af k2),gl K V _,gl K V _,gl K V _,?_⟩;subst q8;have z8:=K.size;have a6:(ev++l7).length=ev.length+BY q p bQ (j -1):=by simp;exact q7.2
   rw[aP (b:=(Q:Int)+(BY q p bQ (j -1):Nat)) V V,show(Q:Int)+(BY q p bQ (j -1):Nat)=((Q+BY q p bQ (j -1):Nat):Int)by omega];have au:=(I.trans v).trans K;have a_:WX q nf (ev++l7).length t:=by
    have:=N.2 j t he;rw[a6];obtain⟨j',rfl⟩:∃j',j=j'+1:=⟨j -1,V⟩;have aY:xb q p bQ (j'+1)=BY q p bQ j':=ae (by simpa using ag);rwa[aY]at this
   refine(DG (ih t (aq he)) (ks.D::H.D::d::u) m8 _ s8 (ev++l7) al an aN (bP (λl r=>oh (aB l r)) (ad _) V) ((GI.done g8 aL V).le (bA _ _)) (λy h=>?_) a_ V V (hd.le ((X6.trans v).trans K).le) ht (fH.le ((X6.trans v).trans K).le hu)).mono λR m9⟨s9,b9,e9,h9,q9,x9⟩=>⟨ak V x9,s9,_,e9,?_⟩
   .rcases List.mem_append.1 h with h|h
    .have:=S3.sm y h;omega
    .have:=q7.1 y h;omega
   intro bt;have z9:=x9.size;have bg:=qy z;refine GB.kL (c:=b9) ((L.ext rT.mono au).ext rT.mono x9) (((xM.trans au).trans x9).fz []) h9 V λaM c g' f' z' q'=>⟨λa g=>by
    have aO:a<o.size:=by simp at g;omega
    rw[f'.ext.same a aO,(((xM.trans au).trans x9).aK _).same a aO],aK V _ _ ⟨_,g',by rw[be,List.length_singleton];omega,λac a hi=>?_,?_,f'.ext,(fM.then (au.trans x9)).sq (Y:=[ks.D]) ⟨z'.1,λa g hn=>q' a g (by simpa using hn)⟩ (λy h=>by simp at h⊢;omega),oh fM.size⟩⟩
   .rcases aW ac z.length with aG|aG
    .rw[ax aG]at hi;exact aT ac a hi
    .rw[aJ aG]at hi;have:ac -z.length=0:=by have:=aw hi;simp at this;omega
     rw[this]at hi;simp at hi;subst hi;have:ac=j -1:=V;subst this;exact q9.1
   .rw[oY,uG,zS];have:=q9.2;omega
  .have K:j=bC.length:=V;subst K;rw[fw]at a2;intro m6;have I:J M m6:=J.push _ _;have aU:ap (bH (H.D::d::u) m6) (.mk M.size 0 1 1) [P]:=ap.lit aA _ (λl r=>oh (aB l r)) rfl rfl aL;have z6:=I.size;have aR:nI (bH (H.D::d::u) m6) ks z:=nI.le (I.df _) (L.done rT.mono aB bn (oh (qy z)));clear_value m6;have X6:=xM.trans I;refine(LQ (x:=⟨p,bQ,0,[P],z⟩) (o3.ext X6) (X3.trans X6).size aU aR bF V).mono λR m7⟨aO,s7,l7,aY,o7,⟨au,aG⟩,v,b7⟩=>⟨dq V V v,Q,aO,Q,rfl,s7,l7,aY,o7,⟨af++[⟨p,bQ,0,[P],z⟩],by rw[au,fE],?_,V,V⟩,fr (F3.then X6) V v,V⟩;have ws:WS q nf False Q ⟨p,bQ,0,[P],z⟩:=⟨⟨Or.inl (by show 0<=p/\p<=11;omega),bF,λ_=>rfl,⟨by show(0:Int)<=0;omega,by show(0:Int)<=_;omega⟩,λi=>by show z.length=2;have:=h3 i;omega,λi=>by show z.length=(cy q bQ).length/\0<z.length;have:=aE i;omega,λi=>by simp only at i;omega⟩,aT⟩;subst aG;exact(Z.trans (LW.lM ws)).fm (by rw[cU.mu];simp only[aZ,eW];omega) V
 .simp only[br,aj]at ar;simp only[aj]at ao ag;have ho:=N.1.o;intro o;have x3:J s o:=J.push _ _;have g3:GI [] s o (.mk s.size 0 0 0) []:=GI.nil [] s;have aR:o.size=s.size+1:=by simp[o]
  clear_value o;have o3:Pq (s.size::u) W o d A aa sc:=(e.em.ext G).re (x3.fz []) aL λa g=>(List.mem_cons.1 g).elim (λi=>Or.inr V) Or.inl;refine ez (n:=bC.length) (aS▸hk.gV) (λj w M=>∃f F r l,Pq (w.D::u) W M d f (aa++r) F/\LW q nf sc r (3*en (bC.take j) -j) (en (bC.take j)) F/\GI [] s M w l/\l.length=j/\(∀y∈l,0<=y/\y<(F:Int))/\Fz [d,A.D] D M/\(f.D=A.D\/s.size<=f.D)/\s.size<=M.size) ⟨A,sc,[],[],by simpa using o3,(LW.az q nf sc).fm (dH _) (dH _),g3,rfl,aL,(G.trans x3).fz _,Or.inl rfl,V⟩ ?_;rintro j w M aX μ hj ⟨f,F,r,l,ah,v,L,a7,T,fM,g,zM⟩ aK
  have H:=e.em.gJ e.x fM;have af:=v.oJ;have aG:=v.dd;have aQ:=L.bh;have B:w.D≠d:=L.ne ah.box bn;have Lv:w.D≠f.D:=L.Lv ah.gr bn;have aO:=gB r;have ay:=v.sz;have a3:=RN bC j;refine dit (λi=>?_) λi=>?_
  .let⟨t,he⟩:=cG bC j;let⟨aN,hu,k0,k1,k2⟩:=PT hk he H;have a4:=Kv he;have aH:=RN bC (j+1);have a9:=t.NN;have au:=QT (bC.take j);rw[gL,jf V]at au;refine⟨V,V,_,k0,_,k1,_,k2,?_⟩;have SM:=st ah fM V (bP (m:=D) e.gJ V aQ.2) V;refine(ih t (aq he) (w.D::u) W M d f (aa++r) F MJ ev al an aN SM (by have:=N.2 j t he;rwa[Zc V V]at this) V V bF hd ht hu).mono λR C⟨aM,er,s4,l4,aE,U,⟨aB,ac,Z,P,r1⟩,z,b4⟩=>⟨dq zM g z,aM,er,?_⟩;subst ac;have z4:=z.size;have F4:=fr fM g z;intro m5;have Q:GI [] s C w l:=GI.any (c:=[d,f.D]) ((GI.any (e:=[d,f.D]) L).NM ug.mono z (λ_ i=>i) (by simp;exact⟨B,Lv⟩));have az:w.D≠s4.D:=Q.Lv U.gr bn;refine GI.kL Q (X:=List.range s.size) ⟨V,λa g hn=>absurd (List.mem_range.2 g) hn⟩ aL V λa' c g' f' z' q'=>?_;have I:Fz [w.D] C c:=⟨z'.1,λa g hn=>q' a g (by simpa using hn)⟩;refine⟨λa g=>?_,aK V _ _ ⟨s4,aE,r++aB,l++[aM],?_,(v.trans Z).fm V V,g',bF,λy h=>?_,F4.sq I λy h=>by simp at h⊢;omega,V,V⟩⟩
   .simp at g;rw[q' a V V,(J.push C _).same a V]
   .rw[<-fE];exact U.re I (by simp;exact⟨B,az⟩) λa g=>(List.mem_cons.1 g).elim (λt=>by subst t;rcases z'.2 with t|t;exact Or.inl (by simp[t]);exact Or.inr t) λi=>Or.inl (ai _ i)
   .have:=Z.dd;rcases List.mem_append.1 h with h|h
    .have:=T y h;omega
    .simp at h;omega
  .have K:j=bC.length:=V;subst K;rw[fw]at v af ay;have au:=QT bC;intro C;have k:J M C:=J.push _ _;have Q:w.D∉f.D::d::u:=by
    simp only[aV,vK];exact⟨Lv,B,λi=>oh (e.gJ _ i)⟩
   have ha:ap (bH (f.D::d::u) M) w l:=(GI.any (e:=f.D::d::u) L).nK ug.mono Q bn V;have U:Pq u W M d f (aa++r) F:=ah.re (Fz.az [] _) aL λa g=>Or.inl (ai _ g);have z4:=k.size;refine(LQ (x:=⟨p,bQ,0,l,[]⟩) (U.ext k) (H.trans k).size (ha.le (k.df _)) (mI _ _ _ _ _ _) bF V).mono λR m5⟨P,Z,l5,ac,o5,⟨z,I⟩,t,b5⟩=>⟨dq V g t,F,P,F,rfl,Z,l5,ac,o5,⟨r++[⟨p,bQ,0,l,[]⟩],by rw[z,fE],?_,V,V⟩,fr (fM.then k) g t,V⟩;have ws:WS q nf False F ⟨p,bQ,0,l,[]⟩:=⟨⟨Or.inl (by show 0<=p/\p<=11;omega),T,λi=>by simp only at i;omega,⟨by show(0:Int)<=0;omega,by show(0:Int)<=_;omega⟩,λi=>by simp only at i;omega,λi=>by simp only at i;omega,N.1.call⟩,aL⟩;subst I;exact(v.trans (LW.lM ws)).fm (by rw[cU.mu];simp only[zS];omega) V
def T5{a:List bz}{c:Nat}:∀e:Ex,UK a c e:=Ex.ind λ_ _ _ b=>T0 b
end
def IS{t:List Nat}{w:E}(hS:∀d∈t,d<w.size){U ak:O}{N:List bz}{P:List (dy×Ex)}(hd:cx w U N)(hp:WT w ak P)(aa:WV N P):ve 236 [.agg #[O.v U,O.v ak]] w t N λrs=>yF N rs False 95:=by
 apply Bo;simp -zeta only[aD,aC];have ht:=tj aa.gp.ds;intro h a2;let⟨L,hl⟩:=dD (a:=h) (c:=a2) rfl rfl;have s1:h.size=w.size+1:=by simp[h]
 clear_value a2;have aO:=hp.len;have aZ:P.length<=4:=by have:=aa.gp.oJ;simpa using this
 have aY:0<P.length:=by have:=aa.gp.iZ;simpa using this
 refine(fX (b:=h.size::t) (bP hS L.size (hl _ aL)) (hd.le L.le) ht).mono λ_ av⟨dd,e,aK,x3⟩=>?_;subst e;refine⟨x3.dq hl,_,rfl,?_⟩;intro k aS aF;have u2:=L.trans x3;let⟨x5,B0,g0,s3,s5⟩:=kY (b:=k.size::h.size::t) iU.mono (d:=av) (a:=k) (c:=aS) (h:=aF) rfl rfl rfl;clear_value aF;have ag:∀d∈[h.size,w.size],d<av.size:=λd g=>x3.lt (hl d g);have aB:∀d∈h.size::t,d<av.size:=λd g=>x3.lt (bP hS L.size (hl _ aL) d g);refine kV (R:=λb c C=>∃U T rs,Value.agg #[O.v b,O.v c]=.agg #[O.v U,O.v T]/\eL (bH t C) U T N rs/\yF N rs False 95/\J w C) (r:=P.length) (f:=w) (b:=t) iU.mono bn bn hS ⟨V,ag _ aL⟩ u2 s3 aK aO V x5 B0 g0 (λ_ q=>q.params.length<=3/\q.cR.length<=3/\WB N P.length False q.params.length q.body/\q.body.w<=95) (λb s l' m' h1 h2 c f j=>⟨b,s,l',rfl,⟨h1,h2,ht,V⟩,⟨V,λq hq=>by obtain⟨p,l⟩:=List.mem_iff_getElem?.1 hq;rw[c];exact f p q l⟩,j⟩) λab C y l' aI μ aM aW xM az al aT=>?_
 let⟨q,hq⟩:=cG P ab aM;let⟨aR,aX⟩:=aa.vh q (aq hq);have aP:q.1.params.length<=3:=(wU _ (aa.gp.dz q.1 (List.mem_map.2 ⟨q,aq hq,rfl⟩))).1;have X:=u2.trans xM;obtain⟨cs,⟨ao,aH,rfl,ha,hk⟩,hr⟩:=hp.iD ab q hq;have aE:=ha.len;refine⟨V,V,_,X.af (hr 0 _ rfl),_,X.af (hr 1 _ rfl),_,X.af (hr 2 _ rfl),_,X.af (hr 3 _ rfl),_,X.af (hr 4 _ rfl),?_⟩;intro m7 l;have hy:=az.bh;have aU:=al.lt;have zM:=xM.size;obtain⟨x8,-,s8⟩:=kJ (M:=C) (d:=m7) (c:=l) rfl rfl rfl;clear_value l;have W:∀d∈[C.size,h.size,w.size],d<l.size:=λd g=>by
  rcases List.mem_cons.1 g with e|e
  .omega
  .have:=ag d e;omega
 have w8:=X.trans x8;have ac:∀{s:E},l.size<=s.size->∀d∈y.D::k.size::h.size::t,d<s.size:=λaA d g=>by
  simp only[aV]at g;rcases g with e|e|e|e
  .omega
  .omega
  .have:=aB d (by simp[e]);omega
  .have:=aB d (by simp[e]);omega
 have hm:=u2.size;have aG:∀{s:E},J l s->∀{an:Value->E->Prop},(∀H F f,ap f H F->F.length=q.1.params.length->(∀b∈F,0<=b/\b<(q.1.params.length:Int))->J s f->an (O.v H) f)->aN cq 203 [vi 0,vi (ao.len:Int)] s an:=λ{s} x an hk'=>by
  rw[aE];exact(lY (S:=[]) (d:=s) aL 0 q.1.params.length V).mono λax f⟨H,F,e,gn,qn,xn⟩=>by
   subst e;exact hk' H F f ((GI.done gn aL V).le (bA _ _)) qn.2 (λb hy=>oh (qn.1 b hy)) xn
 have gJ:∀{s:E}{ay:List Nat}{H:O}{F:List Int},(∀d∈ay,d<s.size)->J l s->ap s H F->F.length=q.1.params.length->(∀b∈F,0<=b/\b<(q.1.params.length:Int))->nA 249 [.agg #[O.v U,O.v ak],.agg #[vi q.2.op,vi q.2.bQ,O.v aH],O.v H,vi (ao.len:Int)] s ay λI=>WB N P.length False q.1.params.length I/\I.w<=3*q.2.n:=λaJ x Y h1 h2=>by
  rw[aE];exact DG (T5 q.2) _ _ q.1.params.length _ _ U ak aH aJ Y h2 (by rw[h1];exact aR) V V (hd.le (w8.trans x).le) ht (fH.le (w8.trans x).le hk)
 have G:∀{v f:E}{I Z:Nat},l.size<=v.size->J v f->I<l.size->af f I Z=af v I Z:=λaA x hb=>gl x V _;have j:C.size<l.size:=V;have K:w.size<l.size:=W _ aL;refine⟨λI s=>∃p D,I.2=0/\l.size<=I.1/\cD s I.1 dh [.s p,.i D.aT]/\eP (bH (y.D::k.size::h.size::t) s) p D.aB/\(WB N P.length False q.1.params.length D/\D.w<=3*q.2.n)/\J l s,⟨?_,?_⟩,?_⟩
 .refine aG (J.az l) λH F B Y ae aj b=>⟨b.dq W,H,rfl,G (ad _) b j,G (ad _) b j,G (ad _) b j,G (ad _) b K,G (ad _) b K,?_,?_⟩;all_goals have u:=b.size
  .refine(gJ (ay:=y.D::k.size::h.size::t) (ac u) b Y ae aj).mono λax A⟨p,D,e,aw,aQ,c⟩=>⟨c.dq λd g=>b.lt (W d g),p,_,e,?_⟩;have vG:=c.size;intro Q;have z:J A Q:=J.push _ _;refine⟨G V z j,G V z j,G V z j,G V z K,G V z K,?_⟩;intro au;let⟨am,ar,a0⟩:=kJ (M:=A) (d:=Q) (c:=au) rfl rfl rfl;exact⟨p,D,rfl,by show l.size<=A.size;omega,ar,eP.le (am.df _) aw,aQ,(b.trans c).trans am⟩
  .intro A;have c:J B A:=J.push _ _;have am:cD A B.size dh [.s .nil,.i 0]:=cD.push _ _ _;have vG:=c.size;clear_value A;refine⟨G u c j,G u c j,G u c j,G u c K,G u c K,?_⟩;refine(gJ (ay:=B.size::y.D::k.size::h.size::t) (bP (ac u) vG am.lt) (b.trans c) (Y.ext c) ae aj).mono λax Q⟨p,D,e,ar,aw,z⟩=>⟨z.dq λd g=>?_,p,_,e,?_⟩
   .rcases List.mem_cons.1 g with e|e
    .rw[e];exact am.lt
    .have:=W d e;omega
   intro au;exact⟨p,D,rfl,u,cD.ah (m:=Q) (o:=0) (r:=[.s p,.i D.aT]) (am.ext z),eP.le (cz aL λd g=>ai _ g) ar,aw,((b.trans c).trans z).ah u _ _⟩
 .intro B;have b:J l B:=J.push _ _;have B9:cD B l.size dh [.s .nil,.i 0]:=cD.push _ _ _;have u:=b.size;clear_value B;refine⟨G (ad _) b j,G (ad _) b j,G (ad _) b j,G (ad _) b K,G (ad _) b K,?_⟩;have sm:∀{v f:E},B.size<=v.size->J v f->eF [l.size,C.size,h.size,w.size] v f:=λaA x=>x.dq λd g=>by
   rcases List.mem_cons.1 g with e|e
   .have:=B9.lt;omega
   .have:=W d e;omega
  refine aG b λH F A Y ae aj c=>⟨sm (ad _) c,H,rfl,G u c j,G u c j,G u c j,G u c K,G u c K,?_⟩;have vG:=c.size;refine(gJ (ay:=l.size::y.D::k.size::h.size::t) (bP (ac (s:=A) V) (ad _) (oh B9.lt)) (b.trans c) Y ae aj).mono λax Q⟨p,D,e,ar,aw,z⟩=>⟨sm vG z,p,_,e,?_⟩;intro au;exact⟨p,D,rfl,ad _,cD.ah (m:=Q) (o:=0) (r:=[.s p,.i D.aT]) ((B9.ext c).ext z),eP.le (cz aL λd g=>ai _ g) ar,aw,((b.trans c).trans z).ah (ad _) _ _⟩
 rintro⟨kb,Z⟩ v ⟨p,D,ho,aw,BB,aQ,ar,x1⟩;simp only at ho aw BB;subst ho;have bl:=BB.lt;have z1:=x1.size;have X1:=x8.trans x1;refine⟨y,(al.ext X1).cp 1,_,BB.cp 0,_,BB.cp 1,?_⟩;have ae:k.size<l.size:=V;have iH:∀{f:E}{Q b':O},J v f->ap (bH (y.D::k.size::h.size::t) f) Q q.1.params->ap (bH (y.D::k.size::h.size::t) f) b' []->af (f.push (.cells (bt [.s Q,.s b',.i q.1.aT,.s p,.i D.aT]) jS)) k.size 1=af f k.size 1/\
  jO (f.push (.cells (bt [.s Q,.s b',.i q.1.aT,.s p,.i D.aT]) jS)) jS [.s .nil,.s .nil,.i 0,.s .nil,.i 0] 88 y (O.mk f.size 0 1 1) λT z=>eF [C.size,h.size,w.size] (f.push (.cells (bt [.s Q,.s b',.i q.1.aT,.s p,.i D.aT]) jS)) z/\fL z k.size 1 1/\(eF [C.size,h.size,w.size] z (ah z k.size 1 [.s T])/\(aI (cO ((ab:Int)+1)) (ah z k.size 1 [.s T])/\μ (cO ((ab:Int)+1)) (ah z k.size 1 [.s T])<μ ab C)):=λL h1 h2=>
  Gr.box (g:=[.s .nil,.s .nil,.i 0,.s .nil,.i 0]) (j:=1) (y:=88) (i:=[.s dd,.s y]) (w:=⟨q.1.params,[],q.1.aT,D⟩) iU.mono bn ((az.ext iU.mono X1).ext iU.mono L) (((xM.trans X1).trans L).fz []) ⟨_,_,p,rfl,h1,h2,eP.le (L.df _) aQ⟩ V ((al.ext X1).ext L) aL bn ⟨V,aL⟩ (λd g=>⟨by have:=W d g;have:=L.size;omega,by
   rcases List.mem_cons.1 g with e|e
   .omega
   .have:=ag d e;omega,by
   rcases List.mem_cons.1 g with e|e
   .omega
   .have:=ag d e;omega⟩) λT m' g' B' f' z' q'=>aT T m' ⟨q.1.params,[],q.1.aT,D⟩ g' B' f'.ext ⟨aP,aL,ar.1,by have:=ar.2;show D.w<=95;omega⟩
 have am:∀{f:E},J v f->ap f ao q.1.params:=λx=>ha.ext ((X.trans X1).trans x);have aj:∀{f:E},J v f->∀d∈y.D::k.size::h.size::t,d<f.size:=λx=>ac (oh x.size);have g1:∀{f z:E}{Z:Nat},J v f->J f z->af z kb Z=af f kb Z:=λx x'=>gl x' (oh x.size) _;have au:∀{f z:E},J v f->J f z->eF [C.size,h.size,w.size] f z:=λx x'=>x'.dq λd g=>by have:=W d g;have:=x.size;omega
 refine⟨?_,?_⟩
 .refine(bO (y.D::k.size::h.size::t) (am (J.az _)) V).mono λ_ B⟨Q,la,e,ga,ea,b⟩=>⟨au (J.az _) b,Q,e,g1 (J.az _) b,g1 (J.az _) b,G z1 b j,G z1 b ae,?_⟩;subst ea;have u:=b.size;intro A;have c:J B A:=J.push _ _;refine⟨g1 b c,g1 b c,G V c j,G V c j,G V c ae,?_⟩;exact iH (b.trans c) ((GI.done ga (aj (J.az _)) V).le (c.df _)) (mI _ _ _ _ _ _)
 .intro B;have b:J v B:=J.push _ _;have u:=b.size;refine⟨g1 (J.az _) b,g1 (J.az _) b,G z1 b j,G z1 b j,G z1 b ae,?_⟩;refine(bO (y.D::k.size::h.size::t) (am b) V).mono λ_ A⟨Q,la,e,ga,ea,c⟩=>⟨au b c,Q,e,g1 b c,g1 b c,G V c j,G V c ae,?_⟩;subst ea;exact iH (b.trans c) (GI.done ga (aj b) V) (mI _ _ _ _ _ _)
section
variable{L:List Nat}{K:Int->E->Prop}{v:Int}
def DV(P:Nat->Prop)(l b:List Instr)(n:Nat):Prop:=∃a,b=l++a/\(∀(i:Nat)(x:Instr),a[i]? =some x->Pz (l.length+i) x\/P (l.length+i)/\x.op=22)/\QI a/\a.length<=n
section
variable{P c:Nat->Prop}{l a e:List Instr}{n b k:Nat}{x:Instr}
def mS.w(h:mS l a n):DV P l a n:=let⟨g,b,c,d,e⟩:=h;⟨g,b,λi x f=>Or.inl (c i x f),d,e⟩
def DV.Yo(h:DV P l a n)(f:∀q,¬P q)(m:n<=b):mS l a b:=let⟨j,c,d,e,k⟩:=h;⟨j,c,λi x g=>(d i x g).resolve_right λh=>f _ h.1,e,V⟩
def DV.imp(h:DV P l a n)(g:∀q,P q->c q)(o:n<=b):DV c l a b:=let⟨k,d,e,f,m⟩:=h;⟨k,d,λj x i=>(e j x i).imp id λh=>⟨g _ h.1,h.2⟩,f,V⟩
def DV.len(h:DV P l a n):l.length<=a.length/\a.length<=l.length+n:=by obtain⟨b,rfl,-,-,d⟩:=h;simp;omega
def DV.then(o:DV P l a n)(p:mS a e b):DV P l e (n+b):=by
 obtain⟨d,rfl,g,j,s⟩:=o;obtain⟨r,rfl,h,k,t⟩:=p;refine⟨d++r,aL,λi x c=>?_,λx q=>(List.mem_append.1 q).elim (j x) (k x),bF⟩;rcases aW i d.length with f|f
 .rw[ax f]at c;exact g i x c
 .rw[aJ f]at c;have:=h _ x c;have m:(l++d).length+(i -d.length)=l.length+i:=bF;rw[m]at this;exact Or.inl this
def DV.MV(h:DV P l a n)(j:P a.length):DV P l (a++[⟨22,0,0,0,[],[]⟩]) (n+1):=by
 obtain⟨c,rfl,e,f,m⟩:=h;refine⟨c++[⟨22,0,0,0,[],[]⟩],aL,λi x b=>?_,λx k=>?_,bF⟩
 .rcases aW i c.length with d|d
  .rw[ax d]at b;exact e i x b
  .rw[aJ d]at b;have:i -c.length=0:=by have:=aw b;simp at this;omega
   rw[this]at b;simp at b;subst b;have g:i=c.length:=V;subst g;exact Or.inr ⟨by simpa using j,rfl⟩
 .rcases List.mem_append.1 k with h|h
  .exact f x h
  .simp at h;subst h;simp
def DV.set(h:DV P l a n)(g:l.length<=k)(m:Pz k x)(j:x.args.length<=10^12/\x.eM.length<=10^12):DV (λq=>P q/\q≠k) l (a.set k x) n:=by
 obtain⟨p,rfl,c,e,d⟩:=h;refine⟨p.set (k -l.length) x,by rw[XK _ _ g],λi y b=>?_,λy o=>?_,bF⟩
 .rw[jG]at b;split at b
  .rename_i q;have f:l.length+i=k:=V;split at b
   .simp at b;subst b;rw[f];exact Or.inl m
   .simp at b
  .exact(c i y b).imp id λh=>⟨⟨h.1,V⟩,h.2⟩
 .rcases cA o with h|h
  .exact e y h
  .rw[h];exact j
def DV.ZJ(h:DV P l a n)(d:l.length<=k)(c:a[k]? =some x):DV (λq=>P q/\q≠k) l (a.set k ⟨x.op,0,a.length,0,x.args,x.eM⟩) n:=by
 have m:=aw c;have g:=h;obtain⟨i,rfl,e,f,j⟩:=h;rw[aJ d]at c;have b:=e _ x c;rw[show l.length+(k -l.length)=k by omega]at b;refine g.set d ⟨λ_=>by show(k:Int)<((l++i).length:Nat);omega,λh=>?_⟩ (f x (aq c));simp only at h;rcases b with b|b
 .exact b.arg h
 .omega
end
section
variable{S:List Nat}{e m a:E}{b:Nat}{s c:O}{l d:List Instr}
def Fv.re{S' Y:List Nat}(h:Fv S e m b s l)(i:Fz Y m a)(f:∀c∈Y,c∈S/\c≠b/\c≠s.D)(j:∀c∈S',c∈S\/m.size<=c):Fv S' e a b s l:=
 ⟨h.box.congr (i.same _ h.box.lt λg=>(f _ g).2.1 rfl),h.gr.re dR.mono i (λc d=>ai _ (f c d).1) (λg=>(f _ g).2.2 rfl) λc d=>(List.mem_cons.1 d).elim (λg=>Or.inl (by rw[g];exact bg)) λd=>(j c d).imp (ai _) id,h.up⟩
def Ij(k:Fv S e m b s l)(z:J e m)(w:∀h∈S,h<m.size)(n:l.length<=10^12)(u:∀f∈L,f<m.size/\f≠b/\f≠s.D){o i bQ:Int}(y:∀c d a,Fv S e a b c d->d=l++[⟨o,i,bQ,0,[v],[]⟩]->Fz [b,s.D] m a->(c.D=s.D\/m.size<=c.D)->K (l.length:Nat) a):
 aN cq 205 [vp b 0,.agg #[vi o,vi i,vi bQ,vi 0,O.v (.mk m.size 0 1 1),O.v .nil]] (m.push (.cells (bt [.i v]) aA)) λr a=>eF L (m.push (.cells (bt [.i v]) aA)) a/\∃q:Int,r=vi q/\K q a:=by
 have g:=J.push m (.cells (bt [.i v]) aA)
 have D:=k.gr.bh;have C:=k.box.lt
 have A:ap (bH (s.D::b::S) (m.push (.cells (bt [.i v]) aA))) (.mk m.size 0 1 1) [v]:=ap.lit aA _ (by
  intro h p;simp only[aV]at p;rcases p with j|j|j
  .omega
  .omega
  .exact w h j) rfl rfl aL
 refine(qN (x:=⟨o,i,bQ,0,[v],[]⟩) (k.ext g) (z.trans g).size A (tA _) n).mono λr a⟨p,c,d,t,j,h,B⟩=>⟨Px.dq h λf n=>?_,_,p,?_⟩
 .have:=u f n;exact⟨g.lt this.1,this.2⟩
 exact y c d a t j.symm (((g.fz [b,s.D])).trans h) (oh g.size)
def TY(j:Fv S e m b s l)(t:J e m)(p:l.length<=10^12)(o:∀f∈L,f<m.size/\f≠b/\f≠s.D)(q:∀c d a,Fv S e a b c d->d=l++[⟨22,0,0,0,[],[]⟩]->Fz [b,s.D] m a->(c.D=s.D\/m.size<=c.D)->K (l.length:Nat) a):
 aN cq 205 [vp b 0,.agg #[vi 22,vi 0,vi 0,vi 0,O.v .nil,O.v .nil]] m λr a=>eF L m a/\∃n:Int,r=vi n/\K n a:=
 (qN (x:=⟨22,0,0,0,[],[]⟩) j t.size (tA _) (tA _) p).mono λr a⟨i,c,d,k,h,f,g⟩=>⟨Px.dq f o,_,i,q c d a k h.symm f g⟩
def Ts{K:E->Prop}{k:Nat}{x:Instr}(i:Fv S e m b s l)(q:J e m)(p:l[k]? =some x)(n:∀f∈L,f<m.size/\f≠b/\f≠s.D)(o:∀c d a,Fv S e a b c d->d=l.set k ⟨x.op,0,l.length,0,x.args,x.eM⟩->Fz [b,s.D] m a->(c.D=s.D\/m.size<=c.D)->K a):
 aN cq 234 [vp b 0,vi k] m λ_ a=>eF L m a/\K a:=
 (Rm i q.size p).mono λr a⟨c,d,j,h,f,g⟩=>⟨Px.dq f n,o c d a j h.symm f g⟩
end
def Rb{l:List Instr}{d:Int}:mS l (l++[⟨18,d,0,0,[v],[]⟩]) 1:=mS.lM ⟨sx,λ_=>aL⟩ aL
end
section
variable{b:List gR}
def LU{D:List bz}{h:cU}(co:h.op=7\/h.op=8)(ih:∀c∈h.bC,WR D b c):XU D b h:=by
 intro B G F d s z cons first cl fl a4 ba aG ah i au cv cI r ha hk
 apply uo (d,0);simp -zeta only[aD,aC];intro ax ac;let⟨x2,hl⟩:=dD (a:=ax) (c:=ac) rfl rfl;have s1:ax.size=F.size+1:=by simp[ax]
 have s2:ac.size=F.size+2:=by simp[ac,s1]
 clear_value ac;have cz:=i.em.box.lt;have cT:=i.em.gr.bh;have cS:=cU.mu h;have cp:=ha.len;have cH:=hk.len;have cF:=qy h.bC;have cM:=au.fe.lM V;have cw:=i.cons.len;have cK:=i.x.size;have df:∀{f:E}{g:O},Fz [d,s.D] F f->(g.D=s.D\/F.size<=g.D)->Le (bH [s.D,d] F) (bH [g.D,d] f):=QS;have st:∀{a0:List Nat}{f:E}{g:O}{L:List Instr},Fv a0 G f d g L->Fz [d,s.D] F f->(g.D=s.D\/F.size<=g.D)->(∀m∈a0,m<f.size)->Sj a0 G f d g L cons first cl fl:=λv I e hS=>⟨v,i.em.gJ i.x I,hS,i.cons.le (df I e),i.first.le (df I e),i.same,i.iP⟩
 have LL:∀{f:E}{g:O},ac.size<=f.size->(g.D=s.D\/ac.size<=g.D)->∀c∈[ax.size,F.size],c<f.size/\c≠d/\c≠g.D:=λhz e c a6=>by simp at a6;omega
 have fr:∀{f p:E}{g:O},Fz [d,s.D] F f->(g.D=s.D\/ac.size<=g.D)->Fz [d,g.D] f p->Fz [d,s.D] F p:=λI e aa=>I.sq aa λA o=>by simp at o⊢;omega
 have gJ:∀{f:E},F.size<=f.size->∀m∈B,m<f.size:=λj m hc=>by have:=i.gJ m hc;omega
 have aF:∀{w:Nat}{c:Bk}{f:E},h.bC[w]? =some c->J G f->∃K,eP G K c.aB/\af f ah.D (ah.off+w*2)=some (O.v K)/\af f ah.D (ah.off+w*2+1)=some (vi c.aT):=λe be=>let⟨K,h1,h2,h3⟩:=hk.aG e;⟨K,h1,be.af h2,be.af h3⟩;refine⟨λh7=>?_,λh7=>?_⟩
 .simp only[aI]at h7;have aO:=au.fe.Kr h7;let⟨C,P⟩:=cG h.bC 0;let⟨b1,R⟩:=cG h.bC 1;have bT:bw h.bC=C.w+b1.w:=by
   obtain⟨u,y,l⟩:∃u y,h.bC=[u,y]:=by
    match h.bC,aO with
    |[u,y],_=>exact⟨u,y,rfl⟩
   rw[l]at P R⊢;simp at P R;subst P R;simp[bw]
  have w0:=C.Ht;have w1:=b1.Ht;have ab:∀w,BY D h.op h.bQ w=0:=λw=>KM V;have E2:=i.ext x2;refine(bO (s.D::d::B) (ha.ext E2.x) V).mono λy N⟨a',la,l,ga,ea,x3⟩=>⟨x3.dq hl,a',l,?_⟩;subst ea;have z3:=x3.size;have aQ:∀m∈s.D::d::B,m<ac.size:=bP (bP (gJ (f:=ac) V) V V) (ad _) V;refine(qN (x:=⟨20,0,0,0,h.args,[]⟩) (E2.em.ext x3) (E2.x.trans x3).size (GI.done ga aQ (by show h.args.length<=_;omega)) (tA _) V).mono λy m4⟨ev,s4,l4,ao,p4,f4,b4⟩=>⟨Px.dq f4 (LL z3 (Or.inl rfl)),_,ev,?_⟩;subst p4;have z4:=f4.size;have F4:Fz [d,s.D] F m4:=((x2.trans x3).fz _).trans f4;have w4:DV (λ_=>False) z (z++[⟨20,0,0,0,h.args,[]⟩]) 1:=(mS.lM ⟨sx,sx⟩ ⟨by show h.args.length<=_;omega,aL⟩).w;let⟨t0,aR,g0,g1⟩:=aF P (i.em.gJ i.x F4);refine⟨bn,V,_,g0,_,g1,?_⟩;have ae:=au.bC 0 C P;rw[ab]at ae;have aU:=w4.len;refine(ih C (aq P) B G m4 d s4 _ cons first cl fl a4 ba t0 (st ao F4 V (gJ V)) (by simpa using ae) V V r aR).mono λy t⟨s5,l5,a5,p5,f5,b5⟩=>⟨Px.dq f5 (LL V V),?_⟩;have F5:=fr F4 V f5;have z5:=f5.size;have w5:=w4.then p5;have X5:=i.em.gJ i.x F5;obtain⟨_,-,-,g5⟩:=aF P X5;refine⟨bn,V,_,g5,?_⟩;have aW:=w5.len;refine Ij a5 X5 (gJ V) V (LL V V) λs6 Q Z aw e6 f6 b6=>?_;have F6:=fr F5 V f6;have z6:=f6.size;have w6:DV (λ_=>False) z Q (1+6*(C.w -1)+1):=e6▸w5.then Rb;have aX:=w6.len;have a7:Q.length=l5.length+1:=by rw[e6];simp
  have X6:=i.em.gJ i.x F6;refine TY aw X6 V (LL V V) λs7 l7 m7 ay e7 f7 b7=>?_;have F7:=fr F6 V f7;have z7:=f7.size;have w7:DV (λq=>q=Q.length) z l7 (1+6*(C.w -1)+1+1):=e7▸(w6.imp (λ_ j=>j.elim) (ad _)).MV rfl;have a8:l7.length=Q.length+1:=by rw[e7];simp
  let⟨H,al⟩:=cG l7 z.length;refine Ts ay (i.em.gJ i.x F7) al (LL V V) λs8 l8 U aE e8 f8 b8=>?_;have w8:DV (λq=>q=Q.length) z l8 (1+6*(C.w -1)+1+1):=e8▸(w7.ZJ (ad _) al).imp (λ_ j=>j.1) (ad _);have a9:l8.length=l7.length:=by rw[e8];simp
  have T:=fr F7 V f8;have z8:=f8.size;let⟨t1,aT,k0,k1⟩:=aF R (i.em.gJ i.x T);refine⟨bn,V,_,k0,_,k1,?_⟩;have ag:=au.bC 1 b1 R;rw[ab]at ag;have aZ:=w8.len;refine(ih b1 (aq R) B G U d s8 l8 cons first cl fl a4 ba t1 (st aE T V (gJ V)) (by simpa using ag) V V r aT).mono λy m9⟨s9,l9,aK,p9,W,b9⟩=>⟨Px.dq W (LL V V),?_⟩;have F9:=fr T V W;have z9:=W.size;have w9:=w8.then p9;have X9:=i.em.gJ i.x F9;obtain⟨_,-,-,g9⟩:=aF R X9;refine⟨bn,V,_,g9,?_⟩;have bY:=w9.len;have a_:l8.length<=l9.length:=by obtain⟨nw,l,-⟩:=p9;rw[l];simp
  refine Ij aK X9 (gJ V) V (LL V V) λbr Y bb am aH aB bC=>?_;have aN:DV (λq=>q=Q.length) z Y (1+6*(C.w -1)+1+1+6*(b1.w -1)+1):=aH▸w9.then Rb;have az:=fr F9 V aB;have vG:=aB.size;have b0:Y.length=l9.length+1:=by rw[aH];simp
  let⟨bd,ak⟩:=cG Y Q.length;refine Ts am (i.em.gJ i.x az) ak (LL V V) λaY aM bc an aS aJ bD=>?_;exact⟨aY,aM,an,aS▸(aN.ZJ V ak).Yo (λq j=>j.2 j.1) V,fr az V aJ,V⟩
 .simp only[aj]at h7;have h8:h.op=8:=V;let⟨cE,cD⟩:=au.fe.all h8;let⟨A,bm⟩:=cG h.args 0;let⟨y0,y1⟩:=au.fe.args A (aq bm);obtain⟨yn,rfl⟩:∃b8:Nat,A=b8:=⟨A.toNat,V⟩;have E2:=i.ext x2;refine⟨bn,V,yn,(ha.ext E2.x).aG bm,?_⟩;have b7:∀m∈[s.D,d],m<ac.size:=λm hc=>by simp at hc;omega
  refine(iy (e:=[s.D,d]) b7 (r.bo.le E2.x.le) r.types h.bQ).mono λy N⟨aR,ch,ec,hc,qc,x3⟩=>⟨x3.dq hl,aR,ec,?_⟩;subst qc;have cx:=hc.len;have z3:=x3.size;intro m4;refine Ij (E2.em.ext x3) (E2.x.trans x3) (gJ V) V (LL z3 (Or.inl rfl)) λs5 l5 t a5 e5 f5 b5=>?_;have z5:=f5.size;have w5:DV (λ_=>False) z l5 1:=e5▸(mS.lM ⟨sx,sx⟩ ⟨aL,aL⟩).w;have cZ:l5.length=z.length+1:=by rw[e5];simp
  intro Z m7;have x6:J t Z:=J.push _ _;have x7:J Z m7:=J.push _ _;have s6:Z.size=t.size+1:=by simp[Z]
  have s7:m7.size=Z.size+1:=by simp[m7]
  have bQ:GI [] t m7 (.mk t.size 0 0 0) []:=(GI.nil [] t).ext x7;have bM:GI [] t m7 (.mk Z.size 0 0 0) []:=GI.cv (GI.nil [] Z) (λ_ j=>j) x6.size;clear_value m7 Z;have bf:=x6.trans x7;have aE:∀{f p:E}{g:O},Fz [d,s.D] N f->(g.D=s.D\/N.size<=g.D)->Fz [d,g.D] f p->Fz [d,s.D] N p:=λI e aa=>I.sq aa λA o=>by simp at o⊢;omega
  have F0:Fz [d,s.D] F N:=(x2.trans x3).fz _;have bg:∀{f:E}{g:O}{w:Nat}{m:Int},Fz [d,s.D] N f->(g.D=s.D\/N.size<=g.D)->(cy D h.bQ)[w]? =some m->af f aR.D (aR.off+w*1)=some (vi m):=λ{f g w m} I e j=>(eQ.1 ((hc.le (pK (c:=[g.D,d]) (a:=f) λc a6 r=>by
   simp at r;exact⟨by simp;rcases e with l|l<;>omega,I.same c a6 bF⟩)).aG j)).2
  have bt:∀{f:E},t.size<=f.size->Fz (List.range t.size) t f:=λj=>⟨j,λc e r=>absurd (List.mem_range.2 e) r⟩;have ak:∀{f p:E}{u:O}{ul:List Int}{aQ:List Nat},GI [] t f u ul->Fz aQ f p->u.D∉aQ->GI [] t p u ul:=λ{f p u ul aQ} aa I j=>GI.any ((GI.any (e:=aQ) aa).NM ug.mono I (λ_ j=>j) j);have o7:Fv (t.size::Z.size::B) G m7 d s5 l5:=a5.re (bf.fz []) aL λc e=>by
   simp only[aV]at e;rcases e with l|l|l
   .exact Or.inr V
   .exact Or.inr V
   .exact Or.inl l
  refine xe (n:=(cy D h.bQ).length) V (λah K en f=>∃g L tl C,Fv (K.D::en.D::B) G f d g L/\DV (λq=>(q:Int)∈C) z L (1+6*bw (h.bC.take ah))/\GI [] t f K tl/\tl.length=ah/\GI [] t f en C/\C.length<=ah/\(∀A∈C,∃q:Nat,A=q/\z.length<q/\q<L.length)/\K.D≠en.D/\Fz [d,s.D] N f/\(g.D=s.D\/N.size<=g.D)/\m7.size<=f.size/\z.length<L.length)
   ⟨s5,l5,[],[],o7,w5.imp (λ_ j=>j.elim) aL,bQ,rfl,bM,ad _,aL,by show t.size≠Z.size;omega,f5.then bf,V,ad _,V⟩ ?_
  rintro T K en f ce μ hj ⟨g,L,tl,C,v,bc,gt,cO,ge,cC,a8,cL,I,e,zM,cJ⟩ bo
  have bv:=F0.trans I;have XM:=i.em.gJ i.x bv;have ty:=gt.bh;have ey:=ge.bh;have t1:K.D≠d:=gt.ne v.box bn;have t2:K.D≠g.D:=gt.Lv v.gr bn;have n1:en.D≠d:=ge.ne v.box bn;have n2:en.D≠g.D:=ge.Lv v.gr bn;have cN:=v.gr.len bn;have cR:=bc.len;have bT:=KO h.bC T;have oy:=v.gr.bh;have c2:=v.box.lt;refine dit (λj=>?_) λj=>?_
  .let⟨m,a7⟩:=cG (cy D h.bQ) T;let⟨c,aK⟩:=cG h.bC T;have ct:=uH aK;have cu:=KO h.bC (T+1);have cr:=c.Ht;have bk:BY D h.op h.bQ T=(cB D m).length:=KL h8 a7;have cq:=QN r.types h.op h.bQ T;refine⟨g,v.box.cp 0,?_⟩;intro U;refine GI.kL gt (bt V) aL V λt' M1 aT cj z1 q1=>?_;have fa:Fz [K.D] f M1:=⟨z1.1,λc e r=>q1 c e (by simpa using r)⟩;refine⟨λc e=>by
    simp at e;rw[q1 c V V,(J.push f _).same c V],?_⟩
   have f1:Fz [d,s.D] N M1:=I.sq fa λA o=>by simp at o⊢;omega
   have bL:=ak ge fa bF;have o1:Fv (t'.D::en.D::B) G M1 d g L:=v.re fa (by simp;exact⟨t1,t2⟩) λc e=>by
    rcases List.mem_cons.1 e with l|l
    .rcases z1.2 with e'|e'
     .exact Or.inl (by rw[l,e'];simp)
     .exact Or.inr V
    .exact Or.inl (ai _ l)
   have cc:=aT.bh;refine⟨V,V,m,bg f1 e a7,?_⟩;have X1:=i.em.gJ i.x (F0.trans f1);refine(dK (e:=[]) aL (r.bo.le (X1.le.trans (Am _))) r.types m).mono λy M2⟨ff,cn,ef,hf,qf,aO⟩=>⟨aO.dq λc e=>by simp at e;omega,ff,ef,?_⟩;subst qf;have bU:=hf.len;have z2:=aO.size;have f2:=f1.then aO;refine dT (n:=(cB D m).length) V (λw p=>∃ay aw,Fv (t'.D::en.D::B) G p d ay aw/\DV (λq=>(q:Int)∈C) z aw (1+6*bw (h.bC.take T)+w)/\Fz [d,g.D] M2 p/\(ay.D=g.D\/M2.size<=ay.D)/\L.length<=aw.length) ⟨g,L,o1.ext aO,bc,Fz.az _ _,Or.inl rfl,ad _⟩ ?_;rintro w M3 I3 μ3 hi ⟨ae,l3,o3,w3,f3,b3,cW⟩ b_;have c5:=f3.size;have F3:=aE f2 e f3;have aU:ae.D=s.D\/N.size<=ae.D:=V;have cQ:=w3.len;have X3:=i.em.gJ i.x (F0.trans F3);have LM:∀{p:E}{u:O},M3.size<=p.size->(u.D=s.D\/N.size<=u.D)->∀c∈[ax.size,F.size],c<p.size/\c≠d/\c≠u.D:=λhz e=>LL V V;have aW:∀{p:E},M3.size<=p.size->∀m∈t'.D::en.D::B,m<p.size:=λj=>bP (bP (gJ (f:=M3) V) (ad _) V) j V;refine⟨λa9=>?_,λa9=>?_⟩
   .simp only[ar]at a9;intro m9;refine Ij o3 X3 (aW (ad _)) V (LM (ad _) aU) λs4 l4 M4 o4 e4 f4 b4=>b_ V _ ⟨s4,l4,o4,?_,f3.sq f4 λA o=>by simp at o⊢;omega,V,by rw[e4];simp;omega⟩;rw[e4];exact w3.then (mS.lM ⟨sx,sx⟩ ⟨aL,aL⟩)
   simp only[bE]at a9;have a_:w=(cB D m).length:=V;subst a_;have y3:=o3.gr.bh;have cf:=o3.box.lt;have ab:∀{p:E},M3.size<=p.size->∀m∈[ae.D,d],m<p.size:=λj m hc=>by simp at hc;omega
   rw[bU];refine(lY (S:=[ae.D,d]) (ab (ad _)) 0 (cB D m).length V).mono λy M4⟨s4,l4,e4,g4,q4,x4⟩=>⟨x4.dq λc e=>by simp at e;omega,s4,e4,?_⟩;have z4:=x4.size;have h4:=GI.done g4 (ab (ad _)) V;let⟨tk,bX,k0,k1⟩:=aF aK (X3.trans x4);have F4:=F3.then x4;have R:∀{u y:E},J M4 u->J u y->∀v,af y ax.size v=af u ax.size v/\af y F.size v=af u F.size v:=λaG c v=>⟨gl c (oh aG.size) v,gl c (oh aG.size) v⟩;refine⟨V,V,tk,k0,_,k1,V,V,m,bg F4 aU a7,?_⟩;have S4:=st o3 (F0.trans F3) V (aW (ad _));have cg:=S4.cons.len;have cm:=S4.first.len;have c3:=S4.same;refine(uX (S:=[ae.D,d]) (ab z4) (S4.cons.le (x4.df _)) V (a:=yn) V m).mono λy M5⟨s5,cY,e5,g5,q5,P⟩=>⟨P.dq λc e=>by simp at e;omega,s5,e5,gx P k0,gx P k1,(R (J.az _) P _).1,(R (J.az _) P _).2,(R (J.az _) P _).2,?_⟩;have z5:=P.size;have h5:=GI.done g5 (ab z4) (by rw[<-q5];simp;omega);refine(eO (S:=[ae.D,d]) (ab V) h5 (h4.le (P.df _)) (by rw[<-q5];simp;omega)).mono λy M6⟨bb,Q,e6,g6,q6,al⟩=>⟨al.dq λc e=>by simp at e;omega,bb,e6,gx al (P.af k0),gx al (P.af k1),(R P al _).1,(R P al _).2,(R P al _).2,?_⟩;have z6:=al.size;have an:=P.trans al;have h6:=GI.done g6 (ab V) (by rw[<-q6,<-q5];simp;omega);refine(uX (S:=[ae.D,d]) (ab V) (S4.first.le ((x4.trans an).df _)) V (a:=yn) V cons.len).mono λy M7⟨ca,l7,e7,g7,q7,ag⟩=>⟨ag.dq λc e=>by simp at e;omega,ca,e7,gx ag (an.af k0),gx ag (an.af k1),(R an ag _).1,(R an ag _).2,(R an ag _).2,?_⟩;have z7:=ag.size;have ao:=an.trans ag;have bR:=GI.done g7 (ab V) (by rw[<-q7];simp;omega);refine(eO (S:=[ae.D,d]) (ab V) bR (h4.le (ao.df _)) (by rw[<-q7];simp;omega)).mono λy M8⟨s8,l8,e8,g8,q8,H⟩=>⟨H.dq λc e=>by simp at e;omega,s8,e8,gx H (ao.af k0),gx H (ao.af k1),(R ao H _).1,(R ao H _).2,(R ao H _).2,?_⟩;have z8:=H.size;have bS:=GI.done g8 (ab V) (by rw[<-q8,<-q7];simp;omega);have am:=(x4.trans ao).trans H;have bl:Q.length=cl.length+BY D h.op h.bQ T:=by rw[<-q6,<-q5,bk];simp;omega
   have bV:l8.length=Q.length:=by rw[<-q8,<-q7,bl,bk];simp;omega
   have ES:Sj (t'.D::en.D::B) G M8 d ae l3 bb s8 Q l8:=⟨o3.ext am,X3.trans am,aW am.size,h6.le ((ag.trans H).df _),bS,bV,λA o=>by
    rw[<-q8]at o;rcases List.mem_append.1 o with o|o
    .rw[<-q7]at o;rcases cA o with o|o
     .exact i.iP A o
     .omega
    .have:=q4.1 A o;omega⟩
   have bZ:WB D b.length True Q.length c:=by rw[bl];exact au.bC T c aK
   refine(ih c (aq aK) _ G M8 d ae l3 bb s8 Q l8 a4 ba tk ES bZ V V r bX).mono λy M9⟨s9,l9,o9,p9,W,b9⟩=>⟨Px.dq W (LM (oh am.size) aU),?_⟩;have z9:=W.size;have c6:=am.size;have F9:=aE (F3.then am) aU W;have X9:=i.em.gJ i.x (F0.trans F9);have w9:=w3.then p9;have bY:=w9.len;have cX:l3.length<=l9.length:=by obtain⟨nw,l,-⟩:=p9;rw[l];simp
   obtain⟨_,-,-,g9⟩:=aF aK X9;refine⟨V,V,_,g9,?_⟩;refine Ij o9 X9 (aW V) V (LM V V) λbr Y bd aX aH aB bC=>?_;have vG:=aB.size;have az:=aE F9 V aB;have aN:DV (λq=>(q:Int)∈C) z Y (1+6*bw (h.bC.take T)+(cB D m).length+6*(c.w -1)+1):=aH▸w9.then Rb;have b0:Y.length=l9.length+1:=by rw[aH];simp
   have cP:=aN.len;have kI:∀{u:O}{ul:List Int},GI [] t M1 u ul->u.D≠d->u.D≠g.D->u.D<M1.size->GI [] t bd u ul:=λ{u ul} aa a1 a2 a3=>by
    have g2:=aa.ext aO;have g3:=ak g2 f3 (by simp;exact⟨a1,a2⟩);have bI:=g3.ext am;have bJ:=ak bI W (by simp;exact⟨a1,by rcases b3 with l|l<;>omega⟩);exact ak bJ aB (by simp;exact⟨a1,by rcases b9 with l|l<;>omega⟩)
   have bs:t'.D≠d:=aT.ne o1.box bn;have cb:t'.D≠g.D:=aT.Lv o1.gr bn;have bj:=kI aT bs cb cc.2;have bh:=kI bL n1 n2 V;rw[aP (b:=(aR.len:Int) -1) V V];refine⟨λbW=>?_,λbW=>bo V _ _ _ ⟨br,Y,tl++[(g.len:Int)],C,aX,aN.imp (λ_ j=>j) V,bj,bF,bh,V,λA o=>by obtain⟨q,l,h1,h2⟩:=a8 A o;exact⟨q,l,h1,V⟩,V,az,V,V,V⟩⟩;have c1:=aX.gr.bh;refine TY aX (i.em.gJ i.x (F0.trans az)) V (LM V V) λaY aM aZ bp aS aJ bD=>?_;have c4:=aJ.size;have bx:=aE az V aJ;have cd:DV (λq=>(q:Int)∈C++[(Y.length:Int)]) z aM (1+6*bw (h.bC.take T)+(cB D m).length+6*(c.w -1)+1+1):=aS▸(aN.imp (λq j=>List.mem_append.2 (Or.inl j)) (ad _)).MV aL;have cV:aM.length=Y.length+1:=by rw[aS];simp
   have nx:∀{u:O}{ul:List Int},GI [] t bd u ul->u.D≠d->GI [] t aZ u ul:=λaa aG=>ak aa aJ (by simp;exact⟨aG,aa.Lv aX.gr bn⟩);have bN:=nx bj bs;have bi:=nx bh n1;intro c0;refine GI.kL bi (bt V) aL V λci bB bK ck bu bq=>?_;have fb:Fz [en.D] aZ bB:=⟨bu.1,λc e r=>bq c e (by simpa using r)⟩;have bG:en.D≠aY.D:=bi.Lv bp.gr bn;refine⟨λc e=>by
    simp at e;rw[bq c V V,(J.push aZ _).same c V],bo V _ _ _ ⟨aY,aM,tl++[(g.len:Int)],C++[(Y.length:Int)],?_,cd.imp (λ_ j=>j) V,ak bN fb bF,bF,bK,bF,λA o=>?_,V,bx.sq fb λA o=>by simp at o⊢;omega,V,V,V⟩⟩
   .exact bp.re fb (by simp;exact⟨n1,bG⟩) λc e=>by
     simp only[aV]at e⊢;rcases e with l|l|l
     .exact Or.inl (Or.inl l)
     .rcases bu.2 with e'|e'
      .exact Or.inl (Or.inr (Or.inl V))
      .exact Or.inr V
     .exact Or.inl (Or.inr (Or.inr l))
   .rcases List.mem_append.1 o with o|o
    .let⟨q,l,h1,h2⟩:=a8 A o;exact⟨q,l,h1,V⟩
    .simp at o;exact⟨Y.length,o,V,V⟩
  .have al:T=(cy D h.bQ).length:=V;subst al;refine⟨g,v.box.cp 0,?_⟩;intro U;have H:J f U:=J.push _ _;have ao:ap (bH (g.D::d::B) U) (.mk f.size 0 1 1) [(yn:Int)]:=ap.lit aA _ (bP (bP (gJ (f:=f) V) (ad _) V) (ad _) V) rfl rfl aL;have s8:U.size=f.size+1:=by simp[U]
   clear_value U;refine⟨gl H V _,gl H V _,V,V,?_⟩;have P:Fv B G U d g L:=(v.ext H).re (Fz.az [] _) aL λc e=>Or.inl (ai _ (ai _ e));have az:K.D∉g.D::d::B:=by
    simp only[aV,vK];exact⟨t2,t1,λj=>oh (gJ (f:=F) (ad _) _ j)⟩
   have an:ap (bH (g.D::d::B) U) K tl:=(GI.any (e:=g.D::d::B) (gt.ext H)).nK ug.mono az bn V;obtain⟨wr,gs,-,Y⟩:=P.gr.set dR.mono (X:=List.range G.size) ⟨V,λc e r=>absurd (List.mem_range.2 e) r⟩ (k:=z.length) V (a:=⟨21,0,h.bQ,0,[(yn:Int)],tl⟩) (cs:=[.i 21,.i 0,.i h.bQ,.i 0,.s (.mk f.size 0 1 1),.s K]) ⟨_,_,rfl,ao,an⟩;refine⟨wr,?_⟩;intro m9;have s9:m9.size=U.size:=av _ _ _ _;have o9:Fv B G m9 d g (L.set z.length ⟨21,0,h.bQ,0,[(yn:Int)],tl⟩):=⟨P.box.congr (Y d (kG P.ne)),gs,P.up⟩;have W:Fz [d,g.D] f m9:=⟨V,λc e r=>by
    simp at r;have e1:m9[c]? =U[c]? :=Y c r.2;rw[e1,H.same c e]⟩
   have w9:=(bc.set (x:=⟨21,0,h.bQ,0,[(yn:Int)],tl⟩) (k:=z.length) (ad _) ⟨sx,sx⟩ ⟨aL,by show tl.length<=_;omega⟩).imp (c:=λq=>(q:Int)∈C) (λ_ j=>j.1) (ad _);refine⟨λc e=>Y c (by simp at e;omega),?_⟩;have aB:=ge.len bn;refine dT (n:=C.length) V (λw p=>∃ay aw,Fv B G p d ay aw/\DV (λq=>(q:Int)∈C.drop w) z aw (1+6*bw (h.bC.take (cy D h.bQ).length))/\aw.length=L.length/\GI [] t p en C/\Fz [d,s.D] N p/\(ay.D=s.D\/N.size<=ay.D)/\m7.size<=p.size) ⟨g,_,o9,by simpa using w9,aL,ak ge W (by simp;exact⟨n1,n2⟩),aE I e W,e,V⟩ ?_;rintro w p I2 μ2 hi ⟨ay,l2,o2,w2,am,Q,f2,b2,z2⟩ aw;refine dit (λj=>?_) λj=>?_
   .let⟨A,R⟩:=cG C w;obtain⟨q,rfl,aH,aJ⟩:=a8 A (aq R);have ag:ap (bH [] p) en C:=(GI.any (e:=[]) Q).nK ug.mono aL bn V;have ae:=ag.le (bA _ _);let⟨xq,ab⟩:=cG l2 q;refine⟨V,V,q,ae.aG R,?_⟩;refine Ts o2 (i.em.gJ i.x (F0.trans f2)) ab (LL V V) λs4 l4 M4 o4 e4 f4 b4=>aw V _ ⟨s4,l4,o4,?_,by rw[e4];simp;exact am,ak Q f4 (by simp;exact⟨n1,Q.Lv o2.gr bn⟩),aE f2 b2 f4,oh f2.size,oh f4.size⟩;rw[e4];refine(w2.ZJ V ab).imp (λq' j=>?_) (ad _);let⟨h1,h2⟩:=j;rw[qv V]at h1;rcases List.mem_cons.1 h1 with l|l
    .have:C[w]=(q:Int):=by have:=List.getElem?_eq_some_iff.1 R;exact this.2
     rw[this]at l;exact absurd V h2
    .exact l
   .have a_:w=C.length:=V;subst a_;rw[List.drop_length]at w2;exact⟨ay,l2,o2,w2.Yo aL V,F0.trans f2,V⟩
def Mb{c:List bz}:∀a:Bk,WR c b a:=Bk.ind λaB r f=>Ma λx e h=>LU h λa d=>f x e a d
end
def mS.dp{l:List Instr}{n:Nat}(h:mS [] l n):Si l/\QI l/\l.length<=n:=by
 obtain⟨e,rfl,b,c,d⟩:=h;exact⟨λk x a=>by have:=b k x a;simpa using this,c,d⟩
def Me{e:List Nat}{r:E}(hS:∀f∈e,f<r.size){B ag:O}{Z:List bz}{rs:List gR}(P:eL r B ag Z rs){al:Nat}(ay:yF Z rs True al)(hW:al<=120000000000):QH 162 [.agg #[O.v B,O.v ag]] r e Z DY:=by
 apply EJ;simp -zeta only[aD,aC];have ht:=P.types;have hp:=P.iX;intro b a2;let⟨x2,hl⟩:=dD (a:=b) (c:=a2) rfl rfl;have s1:b.size=r.size+1:=by simp[b]
 clear_value a2;have aX:=hp.len;have bo:=P.oJ;have bm:=ay.iZ;refine(fX (b:=b.size::e) (bP hS x2.size (hl _ aL)) (P.bo.le x2.le) ht).mono λ_ ac⟨dd,g,aU,x3⟩=>?_;subst g;refine⟨x3.dq hl,_,rfl,?_⟩;intro j a3 aF;have u2:=x2.trans x3;let⟨x5,B0,g0,s3,s5⟩:=kY (b:=j.size::b.size::e) lx.mono (d:=ac) (a:=j) (c:=a3) (h:=aF) rfl rfl rfl;clear_value aF;have ax:∀f∈[b.size,r.size],f<ac.size:=λf l=>x3.lt (hl f l);have av:∀f∈b.size::e,f<ac.size:=λf l=>x3.lt (bP hS x2.size (hl _ aL) f l);refine kV (R:=λd h u=>∃B p c,Value.agg #[O.v d,O.v h]=.agg #[O.v B,O.v p]/\cx (bH e u) B Z/\iK (bH e u) p c/\DY c/\J r u) (r:=rs.length) (f:=r) (b:=e) lx.mono bn bn hS ⟨V,ax _ aL⟩ u2 s3 aU aX V x5 B0 g0 (λ_ q=>Tl q) (λc r' aA m' d h t k o=>⟨c,r',aA,rfl,d,h,⟨V,V,λq hq=>by obtain⟨s,p⟩:=List.mem_iff_getElem?.1 hq;exact k s q p⟩,o⟩) λaz u o aA bf μ aW bk xM ar aj a6=>?_
 let⟨q,hq⟩:=cG rs az aW;let⟨q3,ba,bb,qw⟩:=ay.dz q (aq hq);have F:=u2.trans xM;obtain⟨cs,⟨bg,k,bd,rfl,c1,c2,c3⟩,Q⟩:=hp.iD az q hq;have aP:=c1.len;have qp:=q.body.Ht;refine⟨V,V,_,F.af (Q 0 _ rfl),_,F.af (Q 1 _ rfl),_,F.af (Q 2 _ rfl),_,F.af (Q 3 _ rfl),_,F.af (Q 4 _ rfl),?_⟩;intro m7 c;have hy:=ar.bh;have bi:=aj.lt;have zM:=xM.size;obtain⟨x8,-,s8⟩:=kJ (M:=u) (d:=m7) (c:=c) rfl rfl rfl;clear_value c;have bl:=u2.size;have w8:=F.trans x8;have N:∀{I:E},c.size<=I.size->∀f∈o.D::j.size::b.size::e,f<I.size:=λh f l=>by
  simp only[aV]at l;rcases l with g|g|g|g
  .omega
  .omega
  .have:=av f (by simp[g]);omega
  .have:=av f (by simp[g]);omega
 have bj:b.size<ac.size:=ax _ aL;intro d s;have x9:J c d:=J.push _ _;have s9:d.size=c.size+1:=by simp[d]
 have aJ:J d s:=J.push _ _;have bu:s.size=d.size+1:=by simp[s]
 have g9:Vw (d.size::o.D::j.size::b.size::e) c d (.mk c.size 0 0 0) []:=Gr.new _ (ad _) _ _ _;have aM:cD s d.size ov [.s (.mk c.size 0 0 0)]:=cD.push _ _ _;have aQ:Fv (o.D::j.size::b.size::e) c s d.size (.mk c.size 0 0 0) []:=⟨aM,g9.ext dR.mono aJ,V⟩;clear_value s d;have am:=x9.trans aJ;have aB:∀f∈[c.size,d.size],f<s.size:=λf l=>by simp at l;omega
 have LL:∀{I:E}{s':O},s.size<=I.size->(s'.D=c.size\/s.size<=s'.D)->∀k∈[u.size,b.size,r.size],k<I.size/\k≠d.size/\k≠s'.D:=λhz z k aS=>by simp at aS;omega
 rw[aP];refine(lY (S:=[c.size,d.size]) aB 0 q.params.length V).mono λ_ aE⟨U,ab,g,aR,aI,W⟩=>⟨W.dq λk z=>by simp at z;omega,U,g,?_⟩;have au:=GI.done aR aB V;have be:=W.size;have aN:Sj (o.D::j.size::b.size::e) c aE d.size (.mk c.size 0 0 0) [] U U ab ab:=⟨aQ.ext W,am.trans W,N V,au,au,rfl,λy hy=>oh (aI.1 y hy)⟩;refine(Mb q.body _ c aE d.size _ [] U U ab ab B ag bd aN (by rw[aI.2];exact bb) V bF (P.le w8.le) (eP.le w8.le c3)).mono λbw aZ⟨bv,bp,ae,aH,aa,aO⟩=>⟨Px.dq aa (LL be (Or.inl rfl)),?_⟩;have bC:=aa.size;simp only[O.jD]at aO aa;have an:J c aZ:=Fz.ext ((((am.trans W).fz [d.size,c.size]).trans aa).DR λk z=>Or.inr (by simp at z;omega));have a9:=aH.len;intro bq;refine Ij ae an (N V) (by simp at a9;omega) (LL V V) λA D v L ao ap bh=>?_;have bD:=ap.size;have bx:=ae.gr.bh;have X:J c v:=ae.gJ an ap;have a_:mS [] D (6*q.body.w):=ao▸(aH.trans (mS.lM (x:=⟨23,0,0,0,[q.body.aT],[]⟩) ⟨sx,λ_=>aL⟩ aL)).fm V;let⟨a7,a8,bt⟩:=a_.dp;have aY:0<D.length:=by rw[ao];simp
 have ak:=aj.ext (x8.trans X);refine⟨o,ak.cp 1,A,L.box.cp 0,A,L.box.cp 0,?_⟩;have bB:=L.gr.bh;have a5:=L.ne;have a4:A.D∉d.size::o.D::j.size::b.size::e:=by
  simp only[aV,vK];have l:=λh:A.D∈o.D::j.size::b.size::e=>N (I:=c) (ad _) _ h;refine⟨a5,λh=>?_,λh=>?_,λh=>?_,λh=>?_⟩<;>have:=l (by simp[h])<;>omega
 have aw:fj (bH (d.size::o.D::j.size::b.size::e) v) A D:=L.gr.nK dR.mono a4 bn V;have G:∀{y K:E}{k aG:Nat},v.size<=y.size->J y K->k<v.size->af K k aG=af y k aG:=λh ah z=>gl ah V _;have sm:∀{y K:E},v.size<=y.size->J y K->eF [u.size,b.size,r.size] y K:=λh ah=>ah.dq λk z=>by simp at z;omega
 have T:d.size<v.size:=V;have C:u.size<v.size:=V;have i3:j.size<v.size:=V;refine(bO (o.D::j.size::b.size::e) (c1.ext (w8.trans X)) V).mono λ_ br⟨a',la,g,ga,ea,p⟩=>⟨sm (ad _) p,a',g,G (ad _) p T,G (ad _) p C,G (ad _) p T,G (ad _) p C,G (ad _) p C,G (ad _) p i3,?_⟩;subst ea;have H:=p.size;refine(bO (o.D::j.size::b.size::e) (c2.ext ((w8.trans X).trans p)) V).mono λ_ a0⟨b',lb,g,gb,eb,t⟩=>⟨sm H t,b',g,G H t T,G H t C,G H t T,G H t C,G H t i3,?_⟩;subst eb;have bE:=t.size;have aK:=p.trans t;refine(Nm (m:=a0) (fj.ext aK (eT.le aw (bA _ _) λ_ _=>dR.le (bA _ _))) (q.params.length:Nat)).mono λ_ a1⟨rg,g,_,w⟩=>⟨sm V w,rg,g,G V w T,G V w C,G V w i3,?_⟩;have bG:=w.size;have Y:=aK.trans w;intro bs;have aT:fj (bH (o.D::j.size::b.size::e) a1) A D:=eT.le aw ((Y.df _).trans (iV _ λ_ h=>ai _ h)) λ_ _=>dR.le ((Y.df _).trans (iV _ λ_ h=>ai _ h));have XX:=(x8.trans X).trans Y;refine Gr.box (g:=[.s .nil,.s .nil,.i 0,.i 0,.s .nil]) (j:=1) (y:=88) (i:=[.s dd,.s o]) (w:=⟨q.params,q.cR,q.aT,rg,D⟩) lx.mono bn (ar.ext lx.mono XX) ((xM.trans XX).fz []) ⟨a',b',A,rfl,(GI.done ga (N V) V).le ((t.trans w).df _),(GI.done gb (N V) V).le (w.df _),aT⟩ V (ak.ext Y) aL bn ⟨V,aL⟩ (λf l=>?_) λr' m' g' B' f' z' q'=>a6 r' m' _ g' B' f'.ext ⟨q3,ba,aY,by show D.length<=_;omega,a7,a8⟩
 simp at l;omega
section
def Mn{α:Type}(T:E->O->O->α->Prop):Prop:=∀M a b c x,Le M a->T M b c x->T a b c x
def PP{α:Type}(T:E->O->O->α->Prop)(U:α->Prop)(S:List Nat)(d:Nat)(e:O)(m:E)(P:Nat)(v:Value)(a:E):Prop:=∃b c x,v=.agg #[O.v b,O.v c]/\T (bH S a) b c x/\U x/\Rd d e P a/\Fz [d] m a
def NT(m:E)(a b:O)(x:List bz×List gR):Prop:=eL m a b x.1 x.2
def IT(m:E)(a b:O)(x:List bz×List dy):Prop:=cx m a x.1/\iK m b x.2
def GT(m:E)(a b:O)(x:List bz×List (dy×Ex)):Prop:=cx m a x.1/\WT m b x.2
def UN(c:Prop)(W:Nat)(x:List bz×List gR):Prop:=yF x.1 x.2 c W/\x.1∈rU
def UI(x:List bz×List dy):Prop:=DY x.2/\x.1∈rU
def NT.mn:Mn NT:=λ_ _ _ _ _ h t=>eL.le t h
def IT.mn:Mn IT:=λ_ _ _ _ _ h t=>⟨t.1.le h,iK.le h t.2⟩
structure BS(B:List Nat)(rb:Nat)(bs:O)(m:E)(Q:Nat)(M:E):Prop where
 s:Rs rb bs m Q M
 gJ:∀c∈B,m.size<=c/\c<M.size
section
variable{α:Type}{T:E->O->O->α->Prop}{U:α->Prop}{S B L:List Nat}{d Q h j k f t:Nat}{g a b:O}{m M e:E}{x:α}{i:List Value}
def BS.hS(h:BS B d g m Q M)(a:∀c∈S,c<m.size):∀c∈B++S,c<M.size:=λc b=>(List.mem_append.1 b).elim (λe=>(h.gJ c e).2) λe=>aO (a c e) h.s.f.size
def BS.to(a:BS B d g m Q M)(f:Fz [d] M e)(r:Rd d g h e):BS B d g m h e:=⟨a.s.to f r,λc b=>⟨(a.gJ c b).1,aO (a.gJ c b).2 f.size⟩⟩
def BS.lw(h:BS B d g m Q M)(a:d<m.size)(c:∀b∈L,b∈B):Lw d L M:=Go.Proofs.YtkoifinbblcbiaaGreat.lw a λb e=>h.gJ b (c b e)
def BS.call(c:BS B d g m Q M)(o:d<m.size)(p:∀b∈L,b∈B)(l:aN cq f i M (PP T U (B++S) d g M h)){K:O->O->E->Prop}
 (q:∀a b x e,U x->T (bH (B++S) e) a b x->BS B d g m h e->Fz [d] M e->K a b e):aN cq f i M λv e=>eF L M e/\∃j k:O,v=.agg #[O.v j,O.v k]/\K j k e:=
 l.mono λ_ e⟨a,b,x,n,t,u,r,f⟩=>⟨(c.lw o p).dq f,a,b,n,q a b x e u t (c.to f r) f⟩
def BS.pick(h:BS B d g m Q M)(c:d<m.size)(k:Q<=10^16)(j:∀b∈L,b∈B)(n:Int){K:Int->E->Prop}
 (l:∀i e,0<=i->(i<n\/i=0)->BS B d g m (Q+1) e->Fz [d] M e->K i e):aN cq 40 [vp d 0,vi n] M λv e=>eF L M e/\∃i:Int,v=vi i/\K i e:=
 (bY h.s.r k n).mono λ_ e⟨i,a,o,p,r,f⟩=>⟨(h.lw c j).dq f,i,a,l i e o p (h.to f r) f⟩
def BS.box{m1 m2:E}{z l:List Ce}(h:BS B d g m Q M)(f:m1=M.push (.cells (bt z) t))(i:m2=ah m1 M.size 0 l)(n:l.length=z.length):BS (M.size::B) d g m Q m2/\Le (bH (B++S) M) (bH (M.size::B++S) m2)/\cD m2 M.size t l:=by
 let⟨x,a,z⟩:=kJ f i n;have o:=h.s.f.size;refine⟨⟨h.s.ext x,λc k=>?_⟩,x.bH λb j=>(List.mem_cons.1 j).elim (λh=>Or.inr V) Or.inl,a⟩;rcases List.mem_cons.1 k with e|e
 .omega
 .have:=h.gJ c e;omega
def BS.put(h:BS B d g m Q M)(b:Rd d g j m)(a:k∈B)(l:List Ce):BS B d g m Q (ah M k 0 l)/\Le (bH (B++S) M) (bH (B++S) (ah M k 0 l)):=
 ⟨⟨h.s.put b (h.gJ k a).1 _ _,λc e=>by rw[av];exact h.gJ c e⟩,cz (by simp[a]) λ_ h=>h⟩
def BS.le(a:d∈S)(f:Fz [d] M e):Le (bH (B++S) M) (bH (B++S) e):=f.df (by simp[a])
def BS.iH(f:BS B d g m Q M)(o:Mn T)(i:Rd d g j m)(p:k∈B)(q:T (bH (B++S) M) a b x)(r:U x)(n:Q<=h)(l:List Ce):PP T U S d g m h (.agg #[O.v a,O.v b]) (ah M k 0 l):=
 have⟨c,e⟩:=f.put (S:=S) i p l
 ⟨a,b,x,rfl,o _ _ _ _ _ (e.trans (iV _ λ_=>eD _)) q,r,c.s.r.mono n,c.s.f⟩
def BS.lM(a:Rd d g Q m)(o:Obj):BS [m.size] d g m Q (m.push o)/\Le (bH S m) (bH ([m.size]++S) (m.push o)):=⟨⟨⟨(J.push m o).fz _,a.ext (J.push m o)⟩,aL⟩,tr (J.push m o) (ad _)⟩
def Ly{a:List bz}{c:Prop}{W:Nat}(j:ve f i M S a λb=>yF a b c W)(hd:a∈rU)(r:Rd d g Q M):aN cq f i M (PP NT (UN c W) S d g M Q):=
 j.mono λ_ _⟨e,k,b,h,n,o,x⟩=>⟨e,k,(a,b),h,n,⟨o,hd⟩,r.ext x,x.fz _⟩
def VT{a:List bz}(h:QH f i M S a DY)(hd:a∈rU)(r:Rd d g Q M):aN cq f i M (PP IT UI S d g M Q):=
 h.mono λ_ _⟨b,j,k,e,n,c,o,x⟩=>⟨b,j,(a,k),e,⟨n,c⟩,⟨o,hd⟩,r.ext x,x.fz _⟩
end
section
variable{a:List Nat}{m:E}{b P:Nat}{c:O}
def I5(f:∀d∈a,d<m.size)(j:b∈a)(d:Rd b c P m)(D:P+1000+4*(300+40*Cg 18)<=10^16):aN cq 221 [vp b 0] m (PP NT (UN False 95) a b c m (P+11+4*(300+40*Cg 18))):=by
 apply Bq (b,0);simp -zeta only[aD,aC];have e:=d.lt;intro k;obtain⟨b1,-⟩:BS [m.size] b c m P k/\True:=⟨(BS.lM (S:=a) d _).1,trivial⟩;clear_value k;refine b1.call (T:=GT) (U:=λx=>WV x.1 x.2) (S:=a) e (λ_ h=>h) ((EL (b1.hS f) (by simp[j]) b1.s.r V).mono λv M⟨i,p,g,t,l,n,o,q,r,s⟩=>⟨i,p,(g,t),l,⟨n,o⟩,q,r,s⟩) λi p x F u t b2 A=>?_;refine b2.call (S:=a) e (λ_ h=>h) (Ly (IS (b2.hS f) (t.1.le (bA _ _)) (eT.le t.2 (bA _ _) λ_ _=>Ze.mono.le (bA _ _)) u) u.gp.ds b2.s.r) λy J L G g t3 b3 B=>?_;intro r l;obtain⟨b5,q,-⟩:=b3.box (S:=a) (m1:=r) (m2:=l) rfl rfl rfl;clear_value l;have s:=NT.mn _ _ _ _ _ q t3;refine b5.pick e V (λ_ h=>h) 3 λE H _ _ b6 o=>?_;have n:=NT.mn _ _ _ _ _ (BS.le j o) s;refine⟨λ_=>?_,λ_=>b6.iH NT.mn d aL n g V _⟩;exact b6.call (S:=a) e (λ_ h=>h) (Ly (Kc (b6.hS f) (n.le (bA _ _)) V g.1) g.2 b6.s.r) λz K M I w v h C=>h.iH NT.mn d aL v w V _
def EF(j:∀d∈a,d<m.size)(g:b∈a)(d:Rd b c P m)(M:P+1000+4*(300+40*Cg 18)<=10^16):aN cq 207 [vp b 0] m (PP NT (UN True 104500) a b c m (P+12+4*(300+40*Cg 18))):=by
 apply xz (b,0);simp -zeta only[aD,aC];have f:=d.lt;intro n;obtain⟨b1,-⟩:BS [m.size] b c m P n/\True:=⟨(BS.lM (S:=a) d _).1,trivial⟩;clear_value n;refine b1.call (S:=a) f (λ_ h=>h) (I5 (b1.hS j) (by simp[g]) b1.s.r V) λI U X Q i t2 b2 K=>?_;intro x o;obtain⟨b4,w,-⟩:=b2.box (S:=a) (m1:=x) (m2:=o) rfl rfl rfl;clear_value o;have q:=NT.mn _ _ _ _ _ w t2;refine b4.call (S:=a) f (λ_ h=>h) (Ly (LY (b4.hS j) (q.le (bA _ _)) i.1) i.2 b4.s.r) λJ W Y y G B b5 u=>?_;intro z p;obtain⟨r,l,-⟩:=b5.box (S:=a) (m1:=z) (m2:=p) rfl rfl rfl;clear_value p;have C:=NT.mn _ _ _ _ _ l B;refine r.pick f V (λ_ h=>h) 4 λN R _ _ e k=>?_;have D:=NT.mn _ _ _ _ _ (BS.le g k) C;refine⟨λ_=>?_,λ_=>e.iH NT.mn d aL D G V _⟩;have E:=NT.mn _ _ _ _ _ (((BS.le g u).trans l).trans (BS.le g k)) q;refine e.call (S:=a) f (λ_ h=>h) (Ly (Ql (e.hS j) (E.le (bA _ _)) i.1) i.2 e.s.r) λt A Z T H F s L=>?_;intro O;let⟨h,v⟩:=s.put (S:=a) d (by simp:y.size∈_) [.s t,.s A];exact h.iH NT.mn d aL (NT.mn _ _ _ _ _ v F) H V _
end
end
section
variable{c:Prop}
structure BF(S:List Nat)(rb:Nat)(bs:O)(m:E)(k Q W:Nat)(M:E):Prop where
 b:BS [k,m.size] rb bs m Q M
 x:∃d r x,cD M k nl [.s d,.s r]/\NT (bH (k::m.size::S) M) d r x/\UN True W x
def UN.mono{W W':Nat}{x:List bz×List gR}(h:UN c W x)(f:W<=W'):UN c W' x:=⟨⟨h.1.iZ,λq g=>let⟨a,b,d,e⟩:=h.1.dz q g;⟨a,b,d,bI e f⟩⟩,h.2⟩
section
variable{e h:List Nat}{d k Q Q' W W' i f:Nat}{g:O}{a M b:E}{K:E->Prop}{j:O->O->List Value}
def BF.mono(h:BF e d g a k Q W M)(j:Q<=Q')(l:W<=W'):BF e d g a k Q' W' M:=⟨⟨⟨h.b.s.f,h.b.s.r.mono j⟩,h.b.gJ⟩,let⟨i,r,x,b,f,c⟩:=h.x;⟨i,r,x,b,f,c.mono l⟩⟩
def BF.to(i:BF e d g a k Q W M)(n:d<a.size)(m:d∈e)(f:Fz [d] M b)(j:BS [k,a.size] d g a Q' b):BF e d g a k Q' W b:=
 let⟨l,r,x,h,t,c⟩:=i.x
 ⟨j,l,r,x,h.congr (f.same k h.lt (by have:=i.b.gJ k aL;simp;omega)),NT.mn _ _ _ _ _ (BS.le (B:=[k,a.size]) m f) t,c⟩
def BF.pick(j:BF e d g a k Q W M)(l:d<a.size)(q:d∈e)(o:Q<=10^16)(m:∀c∈h,c∈[k,a.size])(n:Int){K:Int->E->Prop}
 (p:∀i b,BF e d g a k (Q+1) W b->K i b):aN cq 40 [vp d 0,vi n] M λv b=>eF h M b/\∃i:Int,v=vi i/\K i b:=
 j.b.pick l o m n λi b _ _ c f=>p i b (j.to l q f c)
def BF.Zi(q:BF e d g a k Q W M)(w:Rd d g i a)(F:k≠a.size)(y:∀p∈h,p=a.size)
 (c:∀l n x,NT (bH (k::a.size::e) M) l n x->UN True W x->aN cq f (j l n) M (PP NT (UN True W') (k::a.size::e) d g M Q'))
 (I:∀b,BF e d g a k Q' W' b->K b):∃z:O,af M k 0=some (O.v z)/\∃A:O,af M k 1=some (O.v A)/\aN cq f (j z A) M λT b=>eF h M b/\∃t u:O,T=.agg #[O.v t,O.v u]/\fL b k 0 2/\(eF h b (ah b k 0 [.s t,.s u])/\K (ah b k 0 [.s t,.s u])):=by
 let⟨l,n,x,B,J,P⟩:=q.x
 have G:=w.lt
 have V:=q.b.gJ k aL
 refine⟨l,B.cp 0,n,B.cp 1,q.b.call (S:=e) (L:=h) G (λp s=>by simp[y p s]) (c l n x J P) λp s U b R N C D=>?_⟩
 have v:=B.congr (D.same k B.lt bF)
 let⟨b2,H⟩:=C.put (S:=e) w (by simp:k∈_) [.s p,.s s]
 exact⟨v.fL aL,λc E=>bd _ _ _ _ (by rw[y c E];exact kG F),I _ ⟨b2,p,s,U,cD.ah (m:=b) (o:=0) (r:=[.s p,.s s]) v,NT.mn _ _ _ _ _ H N,R⟩⟩
def BF.aS(h:BF e d g a k Q W M)(j:Rd d g i a)(l:Q<=Q'):∃b:O,af M k 0=some (O.v b)/\∃c:O,af M k 1=some (O.v c)/\PP NT (UN True W) e d g a Q' (.agg #[O.v b,O.v c]) (ah M a.size 0 [.s b,.s c]):=
 let⟨f,r,_,B,t,u⟩:=h.x
 ⟨f,B.cp 0,r,B.cp 1,h.b.iH NT.mn j aL t u l _⟩
end
section
variable{a:List Nat}{b:E}{d P:Nat}{e:O}
def YB{h:Nat}{g:List Value}{M:E}{Q:Nat}{b:List bz}{W:Nat}(k:Th h g M a d e Q b λf=>yF b f c W)(hd:b∈rU):aN cq h g M (PP NT (UN c W) a d e M Q):=
 k.mono λ_ _⟨i,l,f,j,n,o,r,x⟩=>⟨i,l,(b,f),j,n,⟨o,hd⟩,r,x⟩
def RS(i:∀c∈a,c<b.size)(k:d∈a)(g:Rd d e P b)(h:P+4<=10^16){W:Nat}(j:W<=200000000000)(f r:O)(x:List bz×List gR)(t:NT (bH a b) f r x)(u:UN True W x):aN cq 208 [vp d 0,.agg #[O.v f,O.v r]] b (PP NT (UN True (W+4)) a d e b (P+4)):=
 YB (Qk i k g h t u.1 j) u.2
def CH(z:∀c∈a,c<b.size)(l:d∈a)(g:Rd d e P b)(Z:P+1000+4*(300+40*Cg 18)<=10^16):aN cq 163 [vp d 0] b (PP NT (UN True 98289774148) a d e b (P+24+4*(300+40*Cg 18))):=by
 apply wA (d,0);simp -zeta only[aD,aC];have k:=g.lt;intro q;have z1:q.size=b.size+1:=by simp[q]
 obtain⟨b1,-⟩:BS [b.size] d e b P q/\True:=⟨(BS.lM (S:=a) g _).1,trivial⟩;clear_value q;refine b1.call (S:=a) k (λ_ h=>h) (EF (b1.hS z) (by simp[l]) b1.s.r V) λD H J f I t2 b2 K=>?_;have z2:=K.size;intro N G;let⟨b4,L,C⟩:=b2.box (S:=a) (m1:=N) (m2:=G) rfl rfl rfl;clear_value G;have X:=NT.mn _ _ _ _ _ L t2;have p:f.size≠b.size:=V;have n:∀{M:E}{Q W:Nat},BF a d e b f.size Q W M->∀c∈f.size::b.size::a,c<M.size:=λh=>h.b.hS z;have F:d∈f.size::b.size::a:=by simp[l]
 refine⟨BF a d e b f.size (P+17+4*(300+40*Cg 18)) 104504,?_,λR U=>?_⟩
 .refine b4.pick k V (λ_ h=>h) 4 λA m5 _ _ b5 t=>?_;have u:=NT.mn _ _ _ _ _ (BS.le (B:=[f.size,b.size]) l t) X;have s:=C.congr (t.same _ C.lt bF);refine⟨λ_=>b5.call (S:=a) k (λ_ h=>h) (RS (b5.hS z) F b5.s.r V V D H J u I) λi j x O Y T b6 w=>?_,λ_=>BF.mono ⟨b5,D,H,J,s,u,I⟩ V V⟩;intro R;let⟨v,y⟩:=b6.put (S:=a) g (by simp:f.size∈_) [.s i,.s j];exact BF.mono ⟨v,i,j,x,cD.ah (m:=O) (o:=0) (r:=[.s i,.s j]) (s.congr (w.same _ s.lt bF)),NT.mn _ _ _ _ _ y T,Y⟩ V V
 refine⟨BF a d e b f.size (P+18+4*(300+40*Cg 18)) 10921086016,?_,λY O=>?_⟩
 .refine U.pick k l V aL 4 λA v s=>⟨λ_=>s.Zi g p aL (λi j x t u=>Ly (Iv (n s) (t.le (bA _ _)) V u.1) u.2 s.b.s.r) λy h=>h.mono V V,λ_=>s.mono V V⟩
 refine O.pick k l V aL 3 λA aa s=>?_;refine⟨BF a d e b f.size (P+19+4*(300+40*Cg 18)) 98289774144,⟨λ_=>s.Zi g p aL (λi j x t u=>Ly (Fa (n s) (t.le (bA _ _)) V u.1) u.2 s.b.s.r) λy h=>h.mono V V,λ_=>s.mono V V⟩,λab v=>?_⟩;refine⟨BF a d e b f.size (P+19+4*(300+40*Cg 18)) 98289774144,⟨λ_=>v.Zi g p aL (λi j x t u=>Ly (Nn (n v) (t.le (bA _ _)) V u.1) u.2 v.b.s.r) λy h=>h.mono V V,λ_=>v.mono V V⟩,λac T=>?_⟩;refine T.pick k l V aL 6 λA ad w=>⟨λ_=>w.Zi g p aL (λi j x t u=>RS (n w) F w.b.s.r V V i j x t u) λy h=>h.aS g V,λ_=>(w.mono (Q':=P+24+4*(300+40*Cg 18)) (W':=98289774148) V V).aS g V⟩
def IE(j:∀c∈a,c<b.size)(l:d∈a)(f:Rd d e P b)(B:P+1000+4*(300+40*Cg 18)<=10^16):aN cq 90 [vp d 0] b (PP IT UI a d e b (P+25+4*(300+40*Cg 18))):=by
 apply AY (d,0);simp -zeta only[aD,aC];have g:=f.lt;intro m;obtain⟨b1,-⟩:BS [b.size] d e b P m/\True:=⟨(BS.lM (S:=a) f _).1,trivial⟩;clear_value m;refine b1.call (S:=a) g (λ_ h=>h) (CH (b1.hS j) (by simp[l]) b1.s.r V) λv H K D o t2 b2 y=>?_;refine b2.call (S:=a) g (λ_ h=>h) (VT (Me (b2.hS j) (t2.le (bA _ _)) o.1 V) o.2 b2.s.r) λw I L E i t3 b3 z=>?_;intro r n;obtain⟨b5,q,-⟩:=b3.box (S:=a) (m1:=r) (m2:=n) rfl rfl rfl;clear_value n;have s:=IT.mn _ _ _ _ _ q t3;refine b5.pick g V (λ_ h=>h) 3 λC F _ _ b6 p=>?_;have k:=IT.mn _ _ _ _ _ (BS.le l p) s;refine⟨λ_=>?_,λ_=>b6.iH IT.mn f aL k i V _⟩;exact b6.call (S:=a) g (λ_ h=>h) (VT (I9 (b6.hS j) (k.1.le (bA _ _)) (tj i.2) (iK.le (bA _ _) k.2) i.1) i.2 b6.s.r) λx J M G u t h A=>h.iH IT.mn f aL t u V _
end
end
section
variable{x:Instr}
section
variable{S:List Nat}{m M:E}{a P Q:Nat}{b:O}
def yo(h:Rs a b m Q M)(i:Q<=10^16)(c:List Int){d:List Ce}{n:Nat}(j:d=c.map Ce.i)(p:n=c.length)(l:0<c.length/\c.length<=100):
 aN cq 39 [vp a 0,O.v (.mk M.size 0 n n)] (M.push (.cells (bt d) aA)) λv e=>∃t:Int,v=vi t/\t∈c/\Rs a b m (Q+1) e/\Fz [a] (M.push (.cells (bt d) aA)) e:=by
 have x:=J.push M (.cells (bt d) aA)
 have o:=h.r.lt
 refine(kE (h.ext x).r i (ap.lit aA c (by simp;exact o) j p V) l.1).mono λv e⟨q,g,k,r,f⟩=>⟨q,g,k,(h.ext x).to f r,f⟩
def _root_.Go.Vc.Gr.Ln{b c:E}{s:O}{l:List Int}(h:GI S b M s l)(f:Fz [a] M c)(d:a<b.size):GI S b c s l:=have:=h.bh;GI.jz h (f.same _ this.2 bF)
def qP(n:Rd a b P m)(hP:P+10<=10^16){D:O}{l:List Int}(S:ap m D l)(hb:l.length<=10^12):aN cq 93 [vp a 0,O.v D] m λaa o=>∃s c,aa=O.v s/\GI [] m o s c/\c.length<=l.length+1/\(∀w∈c,w∈l\/-1<=w/\w<=1001)/\Rd a b (P+3) o/\Fz [a] m o:=by
 apply sW (a,0);have g:=n.lt;refine(bO [] S V).mono λ_ W⟨s,c,e,j,I,G⟩=>⟨s,e,?_⟩;subst I;have ab:=j.len bn;have p:Rs a b m P W:=⟨G.fz _,n.ext G⟩;have iH:∀{M:E}{Q:Nat},Rs a b m Q M->Q<=P+2->GI [] m M s l->aN cq 39 [vp a 0,O.v (.mk M.size 0 5 5)] (M.push (.cells (bt [.i 0,.i 1,.i 2,.i (-1),.i 1000]) aA)) λx r=>∃i:Int,x=vi i/\
  jO (r.push (.cells (bt [.i i]) aA)) aA [.i 0] 8 s (.mk r.size 0 1 1) λt q=>∃s c,O.v t=O.v s/\GI [] m q s c/\c.length<=l.length+1/\(∀w∈c,w∈l\/-1<=w/\w<=1001)/\Rd a b (P+3) q/\Fz [a] m q:=λ{M Q} rM hQ gM=>
  (yo rM V [0,1,2,-1,1000] rfl rfl aL).mono λ_ r⟨t,e,u,f,d⟩=>⟨t,e,by
   have g2:=(gM.ext (J.push M _)).Ln d g;refine GI.kL g2 f.f aL V λx o L z z' Y=>⟨x,_,rfl,L,aL,λw v=>?_,?_,z⟩
   .rcases List.mem_append.1 v with h|h
    .exact Or.inl h
    .simp at h u;exact Or.inr V
   .exact(n.MU f.r z (Y a f.r.lt (oh g2.bh))).mono V⟩
 refine⟨λR=>?_,λ_=>iH p V j⟩;simp only[kH,ar]at R;refine(bY p.r V 2).mono λ_ m2⟨T,e,_,_,y,d⟩=>⟨T,e,λ_=>?_,λ_=>iH (p.to d y) V (j.Ln d g)⟩;have f:=p.to d y;refine(bY f.r V (s.len:Int)).mono λ_ X⟨i,e,U,k1,H,A⟩=>⟨i,e,?_⟩;refine(yo (f.to A H) V [0,1,-1,7,1000,1001] rfl rfl aL).mono λ_ m5⟨t,e,u,F,K⟩=>⟨t,e,U,V,?_⟩;have C:=(((j.Ln d g).Ln A g).ext (J.push X _)).Ln K g;let⟨w,N,B,Z⟩:=C.set F.f (k:=i.toNat) V t;refine⟨w,s,_,rfl,N,aL,λw v=>?_,(n.MU F.r B (Z a (oh C.bh))).mono V,B⟩;rcases cA v with h|h
 .exact Or.inl h
 .simp at u;exact Or.inr V
def IX(Z:List Nat)(a:Nat)(b:O)(m:E)(P:Nat)(U:Instr->Prop)(v:Value)(c:E):Prop:=∃x d j,v=VU x d j/\ap (bH Z c) d x.args/\ap (bH Z c) j x.eM/\U x/\Rd a b P c/\Fz [a] m c
def wD(S:List Nat){p t:O}(v:ap m p x.args)(w:ap m t x.eM)(s:x.args.length<=10^12/\x.eM.length<=10^12):
 aN cq 213 [VU x p t] m λz l=>∃c d,z=VU x c d/\GI S m l c x.args/\GI S m l d x.eM/\c.D≠d.D/\J m l:=by
 apply rL
 simp -zeta only[aD,aC]
 intro i j
 let⟨e,g⟩:=dD (a:=i) (c:=j) rfl rfl
 have F:i.size=m.size+1:=by simp[i]
 clear_value j
 have b:∀{M n:E},J j M->J M n->∀o,af n m.size o=af M m.size o:=λh u o=>aE (u.same _ (h.lt (g _ aL))) o
 refine(bO S (v.ext e) s.1).aH (J.az j) g λc _ B q k a _=>⟨_,rfl,b (J.az _) a _,b (J.az _) a _,b (J.az _) a _,b (J.az _) a _,b (J.az _) a _,?_⟩
 subst k
 refine(bO S (w.ext (e.trans a)) s.2).aH a g λd _ C r k f y=>⟨_,rfl,b a f _,b a f _,b a f _,b a f _,?_⟩
 subst k
 intro D
 have G:=q.bh;have H:=r.bh
 have A:=g i.size aL
 exact⟨c,d,rfl,((q.ext f).jz (bd _ _ _ _ V)).cv (λ_ h=>h) e.size,(r.jz (bd _ _ _ _ V)).cv (λ_ h=>h) (e.trans a).size,V,(e.trans y).ah V _ _⟩
end
structure BI(a0:E)(k rb:Nat)(bs:O)(m:E)(Q:Nat)(M:E)(a j:O)(l l':List Int):Prop where
 ga:GI [] a0 M a l
 gj:GI [] a0 M j l'
 ne:a.D≠j.D
 s:Rs rb bs m Q M
 lo:m.size+2<=a0.size/\l.length<=1000000000001/\l'.length<=1000000000001
 hi:a.D≠k/\j.D≠k/\m.size<=k/\k<M.size
section
variable{Z L:List Nat}{f m M c:E}{b k P g Q h:Nat}{d a j:O}{l e:List Int}
def BI.to(g:BI f k b d m Q M a j l e)(n:b<m.size)(i:Fz [b] M c)(r:Rd b d h c):BI f k b d m h c a j l e:=
 have:=g.lo
 ⟨g.ga.Ln i V,g.gj.Ln i V,g.ne,g.s.to i r,g.lo,g.hi.1,g.hi.2.1,g.hi.2.2.1,aO g.hi.2.2.2 i.size⟩
def BI.put(h:BI f k b d m Q M a j l e)(g:Rd b d P m)(o:Nat)(c:List Ce):BI f k b d m Q (ah M k o c) a j l e:=
 have:=h.lo;have:=h.hi;have:=h.ga.bh
 ⟨GI.jz h.ga (bd _ _ _ _ V),GI.jz h.gj (bd _ _ _ _ V),h.ne,h.s.put g V _ _,h.lo,by rw[av];exact h.hi⟩
def BI.iH{U:Instr->Prop}(h:BI f k b d m Q M a j l e)(v:Rd b d P m)(t:∀c∈Z,c<m.size){i:Nat}(y:i=m.size+1)(w:Q<=g){r n q p:Int}(x:U ⟨r,n,q,p,l,e⟩)(s:List Ce):IX Z b d m g U (.agg #[vi r,vi n,vi q,vi p,O.v a,O.v j]) (ah M i 0 s):=by
 have:=h.lo;have:=h.hi;have z:=h.ga.bh;have A:=h.gj.bh;have u:=h.s.put v (k:=i) V 0 s;exact⟨⟨r,n,q,p,l,e⟩,a,j,rfl,Gr.done ug.mono (GI.any (GI.jz h.ga (bd _ _ _ _ V))) (λc o=>oh (t c o)) bn (bI h.lo.2.1 bn),Gr.done ug.mono (GI.any (GI.jz h.gj (bd _ _ _ _ V))) (λc o=>oh (t c o)) bn (bI h.lo.2.2 bn),x,u.r.mono w,u.f⟩
def BI.pick(h:BI f k b d m Q M a j l e)(r:b<m.size)(t:Q<=10^16)(s:∀g∈L,m.size<=g/\g<=k)(p:Int){K:Int->E->Prop}
 (v:∀i c,0<=i->(i<p\/i=0)->BI f k b d m (Q+1) c a j l e->(∀o,af c k o=af M k o)->Fz [b] M c->K i c):aN cq 40 [vp b 0,vi p] M λz c=>eF L M c/\∃i:Int,z=vi i/\K i c:=
 have:=h.lo;have:=h.hi;have:=h.ga.bh
 (bY h.s.r t p).mono λ_ c⟨i,q,w,x,y,n⟩=>⟨n.dq λg u=>by have:=s g u;simp;omega,i,q,v i c w x (h.to r n y) (λo=>aE (n.same k h.hi.2.2.2 bF) o) n⟩
end
def Tb(x y:Instr):Prop:=(∀k,Pz k x->Pz k y)/\y.args.length<=10^12/\y.eM.length<=10^12
def It{Z:List Nat}{m:E}{g P:Nat}{t F H:O}(d:∀c∈Z,c<m.size)(a:Rd g t P m)(hP:P+10<=10^16)(R:ap (bH [g] m) F x.args)(hj:ap m H x.eM)(b:x.args.length<=10^12/\x.eM.length<=10^12)(hx:∃I,Pz I x):
 aN cq 166 [vp g 0,VU x F H] m (IX Z g t m (P+3) (Tb x)):=by
 apply AG (g,0)
 simp(config:={maxSteps:=1000000}) -zeta only[aD,aC]
 have p:=a.lt
 intro r u
 let⟨W,hl⟩:=dD (a:=r) (c:=u) rfl rfl
 have i:r.size=m.size+1:=by simp[r]
 have s2:u.size=m.size+2:=by simp[u,i]
 clear_value u
 clear_value r
 refine(wD [] ((R.le (bA _ _)).ext W) (hj.ext W) b).mono λ_ w⟨s,K,e,ga,gj,T,X⟩=>⟨X.dq hl,_,_,_,_,_,_,e,?_⟩
 intro m4 U
 obtain⟨N,-,z5⟩:=kJ (M:=w) (d:=m4) (c:=U) rfl rfl rfl
 clear_value U
 have ya:=ga.bh;have yj:=gj.bh
 have X5:=(W.trans X).trans N
 have b5:BI u w.size g t m P U s K x.args x.eM:=⟨ga.ext N,gj.ext N,T,⟨X5.fz _,a.ext X5⟩,⟨V,pt b.1,pt b.2⟩,V,V,V,V⟩
 have o:∀n∈[w.size,r.size,m.size],m.size<=n/\n<=w.size:=bF
 let⟨q,z,C,A,j,B⟩:=x
 have yT:Tb ⟨q,z,C,A,j,B⟩ ⟨q,z,C,A,j,B⟩:=⟨λ_ h=>h,b⟩
 refine b5.pick p V o 5 λae f _ _ b6 _ f6=>?_
 have y:∀{Y:E}{aa:Nat},BI u w.size g t m aa Y s K j B->aa<=P+3->IX Z g t m (P+3) (Tb ⟨q,z,C,A,j,B⟩) (.agg #[vi q,vi z,vi C,vi A,O.v s,O.v K]) (ah Y r.size 0 [.i q,.i z,.i C,.i A,.s s,.s K]):=λh hQ=>h.iH a d i hQ yT _
 have ab:q=16\/q=17->(0:Int)<=0/\(0:Int)<(F.len:Int)/\∃v:Int,af f F.D (F.off+Int.toNat 0*1)=some (vi v)/\IX Z g t m (P+3) (Tb ⟨q,z,C,A,j,B⟩) (.agg #[vi 15,vi 0,vi 0,vi 0,O.v (.mk f.size 0 1 1),O.v .nil]) (ah (f.push (.cells (bt [.i v]) aA)) r.size 0 [.i 15,.i 0,.i 0,.i 0,.s (.mk f.size 0 1 1),.s .nil]):=λe=>by
  have hn:0<j.length:=let⟨_,h⟩:=hx;h.arg bF;have S:=R.len;let⟨D,hy⟩:=cG j 0 hn;have z6:=b6.hi;have r7:=(b6.s.ext (J.push f (.cells (bt [.i D]) aA))).put a (k:=r.size) V 0 [.i 15,.i 0,.i 0,.i 0,.s (.mk f.size 0 1 1),.s .nil];have Q:GI [] f (f.push (.cells (bt [.i D]) aA)) (.mk f.size 0 1 1) [D]:=Gr.lit (f:=[[.i D]]) ug.mono (ad _) aL rfl rfl ⟨rfl,aL,λH cs x G L=>by
   cases H with
   |zero=>simp at G L;rw[<-G,<-L];rfl
   |succ H=>simp at G⟩
  exact⟨dw 0,by simp at S;omega,D,(eQ.1 ((R.le (b6.s.f.df aL)).aG hy)).2,⟨15,0,0,0,[D],[]⟩,_,.nil,rfl,GI.done (GI.any (GI.jz Q (bd _ _ _ _ bF))) (λc L=>oh (d c L)) aL,⟨rfl,dH _,aL,aL⟩,⟨λ_ _=>⟨sx,sx⟩,aL,aL⟩,r7.r.mono V,r7.f⟩
 refine⟨λ_=>⟨λe=>?_,λ_=>⟨λe=>(b6.put a _ _).iH a d i V ⟨λ_ _=>⟨sx,sx⟩,b⟩ _,λ_=>⟨λe=>?_,λ_=>y b6 V⟩⟩⟩,λ_=>⟨λ_=>⟨λG=>?_,λ_=>y b6 V⟩,λ_=>⟨λ_=>?_,λ_=>⟨λ_=>⟨λe=>ab (Or.inl (by simpa using e)),λ_=>⟨λe=>ab (Or.inr (by simpa using e)),λ_=>⟨λe=>b6.pick p V o 4 λv L _ _ c _ _=>(c.put a _ _).iH a d i V ⟨λ_ h=>⟨h.MV,h.arg⟩,b⟩ _,λ_=>y b6 V⟩⟩⟩,λ_=>⟨λ_=>⟨λe=>?_,λ_=>⟨λe=>?_,λ_=>y b6 V⟩⟩,λ_=>y b6 V⟩⟩⟩⟩⟩
 .simp only[aI]at e
  exact(b6.put a _ _).iH a d i V ⟨λ_ _=>⟨sx,sx⟩,b⟩ _
 .simp only[aI]at e
  exact(b6.put a _ _).iH a d i V ⟨λ_ h=>⟨sx,λ_=>h.arg (by simp[e])⟩,b⟩ _
 .simp only[kH,ar]at G
  have S:=b6.ga.len bn
  refine b6.pick p V o (s.len:Int) λI m7 k0 k1 b7 Q f7=>⟨Q 4,b7.pick p V o 4 λv L _ _ c g8 f8=>⟨g8 4,k0,V,?_⟩⟩
  let⟨ac,g9,f9,q9⟩:=GI.set c.ga (((((X.trans N).fz [g]).trans f6).trans f7).trans f8) (k:=I.toNat) (by show I.toNat<j.length;have:s.len=j.length:=S;omega) v
  have yb:=c.hi
  refine⟨ac,λn b=>q9 n (by have:=o n b;simp at b;omega),BI.iH (k:=w.size) (l:=j.set I.toNat v) (e:=B) ⟨g9,GI.jz c.gj (q9 _ (kG T)),T,⟨c.s.f.ah (Or.inr V) _ _,a.ah c.s.r c.s.f V _ _⟩,⟨V,by simpa using pt b.1,pt b.2⟩,V,V,V,by rw[av];omega⟩ a d i V ⟨λ_ h=>⟨h.MV,λe=>by simpa using h.arg e⟩,by simpa using b⟩ _⟩
 .refine(xT q f).any.mono λ_ m7⟨n,e,I⟩=>⟨I.dq λn b=>Ps (o n b) b6.hi,n,e,λ_=>?_,λ_=>y (b6.to p (I.fz _) (b6.s.r.ext I)) V⟩
  exact(b6.to p (I.fz _) (b6.s.r.ext I)).pick p V o 4 λv L _ _ c _ _=>(c.put a _ _).iH a d i V ⟨λ_ h=>⟨h.MV,h.arg⟩,b⟩ _
 .simp only[aI]at e
  exact b6.pick p V o 9 λv L _ _ c _ _=>(c.put a _ _).iH a d i V ⟨λ_ h=>⟨λh=>by simp[e]at h,h.arg⟩,b⟩ _
 .simp only[aI]at e
  exact b6.pick p V o 3 λv L _ _ c _ _=>(c.put a _ _).iH a d i V ⟨λ_ h=>⟨λh=>by simp[e]at h,h.arg⟩,b⟩ _
end
section
def RA(M:E)(c:List Ce)(x:dy×O):Prop:=∃a b,c=[.s a,.s b,.i x.1.aT,.i x.1.ak,.s x.2]/\ap M a x.1.params/\ap M b x.1.cR
def RA.mono:oG 5 RA:=⟨λh⟨a,b,e,c,d⟩=>⟨a,b,e,c.le h,d.le h⟩,λ⟨_,_,e,_⟩=>by rw[e];rfl⟩
def hd(x:dy×O):dy×O:=({x.1 with dp:=[]},x.2)
abbrev Ks(l:List (dy×O)):List Nat:=l.map λx=>x.2.D
structure vL(S:List Nat)(m0 M:E)(dd q:O)(ds:List bz)(l:List (dy×O)):Prop where
 d:cx (bH (q.D::(Ks l++S)) M) dd ds
 g:Gr (Ks l++S) m0 M jC 5 RA q (l.map hd)
 c:∀x∈l,Gr (q.D::(Ks l++S)) m0 M dW 6 dR x.2 x.1.dp
 nd:(Ks l).Nodup
 lt:∀b∈S,b<M.size
 nq:q.D∉S
 nc:∀x∈l,x.2.D∉S
section
variable{S S' Y:List Nat}{b f M e:E}{c q:O}{d:List bz}{l:List (dy×O)}
def vL.kq(h:vL S b M c q d l):∀x∈l,x.2.D≠q.D:=λx a=>(h.c x a).Lv h.g bn
def vL.re(i:vL S b M c q d l)(o:Fz Y M e)(k:∀a∈Y,a∈S)(n:∀a∈S',(a∈S\/M.size<=a)/\a<e.size)(p:f.size<=b.size):vL S' f e c q d l:=by
 have t:=i.g.bh;have r:∀{a:Nat},a∈Ks l++S'->a∈Ks l++S\/M.size<=a:=λg=>by
  rcases List.mem_append.1 g with h|h
  .exact Or.inl (bJ _ h)
  .exact(n _ h).1.imp (eD _) id
 have s:∀{a:Nat},a∈q.D::(Ks l++S')->a∈q.D::(Ks l++S)\/M.size<=a:=λg=>by
  rcases List.mem_cons.1 g with h|h
  .exact Or.inl (by simp[h])
  .exact(r h).imp (ai _) id
 refine⟨i.d.le (o.bH (λa g=>by simp[k a g]) λa g=>s g),Gr.cv RA.mono (i.g.re RA.mono o (λa g=>by simp[k a g]) (λj=>i.nq (k _ j)) λa g=>r g) (λa g=>Or.inl g) p,λx m=>Gr.cv dR.mono ((i.c x m).re dR.mono o (λa g=>by simp[k a g]) (λj=>i.nc x m (k _ j)) λa g=>s g) (λa g=>Or.inl g) p,i.nd,λa g=>(n a g).2,λj=>?_,λx m j=>?_⟩
 .rcases(n _ j).1 with h|h
  .exact i.nq h
  .omega
 .have:=(i.c x m).bh;rcases(n _ j).1 with h|h
  .exact i.nc x m h
  .omega
def vL.dp(h:vL S b M c q d l){y:dy×O}(a:y∈l)(j:y.1.dp.length<=10^12):fj (bH (q.D::S) M) y.2 y.1.dp:=
 have g:Gr (q.D::S) b M dW 6 dR y.2 y.1.dp:=(h.c y a).re dR.mono (Fz.az [] M) aL aL λi f=>Or.inl (by rcases List.mem_cons.1 f with e|e<;>simp[e])
 g.nK dR.mono (by simp;exact⟨h.kq y a,h.nc y a⟩) bn V
def vL.gr(h:vL S b M c q d l)(u:∀x∈l,x.1.dp.length<=10^12):Gr S b M jC 5 lx q (l.map (·.1)):=by
 let⟨v,n,z,r⟩:=h.g;refine⟨v,n,z,by simpa using r.len,r.size,λk m x t a=>?_⟩;rw[cJ]at a;cases f:l[k]? with
 |none=>simp[f]at a
 |some y=>
  simp[f]at a;subst a;let⟨j,g,e,o,p⟩:=r.dz k m (hd y) t (by simp[f]);have i:=aq f;have w:Le (bH (q.D::(Ks l++S)) M) (bH (q.D::S) M):=iV M λg s=>by rcases List.mem_cons.1 s with e|e<;>simp[e]
  exact⟨j,g,y.2,e,o.le w,p.le w,h.dp i (u y i)⟩
def vL.yV{L:List Nat}{j G:E}{t e ks:O}{p:dy}{h tb i:Nat}{bc:List Ce}{P:E->Prop}(n:vL S b M c q d l)(x:J M j)(Q:Gr (q.D::(Ks l++S)) G j dW 6 dR ks p.dp)(h8:M.size<=G.size)
 (ha:ap (bH (ks.D::q.D::(Ks l++S)) j) t p.params)(g:ap (bH (ks.D::q.D::(Ks l++S)) j) e p.cR)(Z:cD M h tb bc)(hi:i<bc.length)(ht:tb≠jC)(v:b.size<=h/\h∈S)(R:∀e∈L,e<j.size/\e≠h/\e≠q.D)(hl:l.length<=1000)(T:J b M)
 (hk:∀r k,vL S b k c r d (l++[(p,ks)])->cD k h tb (je bc i [.s r])->J b k->P k):
 af (j.push (.cells (bt [.s t,.s e,.i p.aT,.i p.ak,.s ks]) jC)) h i=af j h i/\
 jO (j.push (.cells (bt [.s t,.s e,.i p.aT,.i p.ak,.s ks]) jC)) jC [.s .nil,.s .nil,.i 0,.i 0,.s .nil] 88 q (.mk j.size 0 1 1) λr k=>eF L (j.push (.cells (bt [.s t,.s e,.i p.aT,.i p.ak,.s ks]) jC)) k/\fL k h i 1/\(eF L k (ah k h i [.s r])/\P (ah k h i [.s r])):=by
 have z:=Z.ext x
 have U:=J.push j (.cells (bt [.s t,.s e,.i p.aT,.i p.ak,.s ks]) jC)
 have yk:=Q.bh
 have yq:=n.g.bh
 have zx:=x.size
 have hq:q.D≠h:=λf=>n.nq (by rw[f];exact v.2)
 have kx:ks.D∉S:=λo=>by have:=n.lt _ o;omega
 have ck:∀y∈l,y.2.D<M.size:=λy s=>(n.c y s).bh.2
 have I:∀e∈Ks (l++[(p,ks)])++S,e∈Ks l++S\/e=ks.D:=λe g=>by
  simp only[Ks,fu,cK,fF,List.mem_append,lI]at g⊢;rcases g with(f|f)|f<;>simp[f]
 have g1:Gr (Ks (l++[(p,ks)])++S) b j jC 5 RA q (l.map hd):=n.g.re RA.mono (x.fz []) aL aL λe g=>(I e g).imp id λf=>V
 have Y:Le (bH (ks.D::q.D::(Ks l++S)) j) (bH (q.D::(Ks (l++[(p,ks)])++S)) j):=iV j λe g=>by
  rcases List.mem_cons.1 g with f|f
  .simp[f]
  .rcases I e f with f|f
   .exact ai _ (ai _ f)
   .simp[f]
 refine⟨aE (U.same h z.lt) i,Gr.kL (g:=[.s .nil,.s .nil,.i 0,.i 0,.s .nil]) (k:=hd (p,ks)) RA.mono bn g1 ((T.trans x).fz []) ⟨t,e,rfl,ha.le Y,g.le Y⟩ bF λr k ab aa B F=>?_⟩
 have K:=z.congr (F h z.lt (kG hq))
 have hr:r.D≠h:=by have:=z.lt;omega
 have A:∀e,e≠h->(ah k h i [.s r])[e]? =k[e]? :=λe g=>bd _ _ _ _ g
 have N:Fz [q.D,h] j (ah k h i [.s r]):=⟨by rw[av];exact B.1,λe g w=>(A e (by simp at w;omega)).trans (F e g (by simp at w;omega))⟩
 have C:Fz [q.D,h] M (ah k h i [.s r]):=(x.fz _).trans N
 have F0:J b (ah k h i [.s r]):=(aa.ah (Or.inr v.1) _ _).ext
 have ae:=B.1
 have W:∀e∈r.D::(Ks (l++[(p,ks)])++S),(e∈q.D::(Ks l++S)\/e=ks.D)\/j.size<=e:=λe g=>by
  rcases List.mem_cons.1 g with f|f
  .rcases B.2 with u|u
   .exact Or.inl (Or.inl (by simp[f,u]))
   .exact Or.inr V
  .exact Or.inl ((I e f).imp (ai _) id)
 have X:∀e∈r.D::(Ks (l++[(p,ks)])++S),e∈q.D::(Ks l++S)\/M.size<=e:=λe g=>(W e g).elim (λf=>f.imp id λf=>V) λf=>Or.inr V
 have H:∀e∈[q.D,h],e∈q.D::(Ks l++S):=λe g=>by simp at g;rcases g with f|f<;>simp[f,v.2]
 refine⟨λe g=>?_,K.fL V,λe g=>A e (R e g).2.1,hk r _ ⟨n.d.le (C.bH H X),?_,λy s=>?_,?_,λe g=>?_,λo=>?_,λy s o=>?_⟩ (cD.ah (m:=k) K) F0⟩
 .have D:=R e g
  rw[F e V D.2.2,U.same e V]
 .rw[fu]
  let⟨g0,D,g1,g2⟩:=ab
  exact⟨g0,D,g1.congr (A _ hr),g2.mono λcs y=>RA.mono.le (pK λe g w=>⟨w,A e λf=>w (by rw[f];simp[v.2])⟩)⟩
 .rcases List.mem_append.1 s with f|f
  .exact(n.c y f).re dR.mono C H (by simp;exact⟨n.kq y f,λu=>n.nc y f (u▸v.2)⟩) X
  .simp at f
   subst f
   let⟨ac,D,ad,rr⟩:=Q
   have w:Gr (ks.D::q.D::(Ks l++S)) G j dW 6 dR ks p.dp:=⟨ac,D,ad,rr.mono λcs y=>dR.mono.le (iV j λe g=>by
    rcases List.mem_cons.1 g with f|f
    .simp[f]
    .exact f)⟩
   exact Gr.cv dR.mono (w.re dR.mono N (λe g=>ai _ (H e g)) (by simp;exact⟨V,λu=>kx (u▸v.2)⟩) λe g=>(W e g).imp (λf=>f.elim (ai _) λf=>by simp[f]) id) (λe g=>Or.inl g) (oh T.size)
 .simp only[Ks,fu,cK,fF]
  refine List.nodup_append.2 ⟨n.nd,aL,λe g u o=>?_⟩
  simp at o g
  obtain⟨w,D,s,rfl⟩:=g
  have:=ck _ s
  simp at this;omega
 .have:=n.lt e g
  have:=C.size
  omega
 .rcases B.2 with f|f
  .exact n.nq (f▸o)
  .have:=n.lt _ o;omega
 .rcases List.mem_append.1 s with f|f
  .exact n.nc y f o
  .simp at f
   subst f
   exact kx o
end
end
def wC{h:List Nat}{m:E}(R:∀c∈h,c<m.size){ae ak:O}{H:List bz}{C:List dy}(hd:cx m ae H)(ht:dS H)(hp:iK m ak C)(ai:DY C):
 aN cq 165 [.agg #[O.v ae,O.v ak]] m λN Y=>∃t q l,N=.agg #[O.v t,O.v q]/\vL h m Y t q H l/\l.map (·.1)=C/\J m Y:=by
 apply AN
 simp -zeta only[aD,aC]
 intro b a2
 let⟨x2,hl⟩:=dD (a:=b) (c:=a2) rfl rfl
 have s1:b.size=m.size+1:=by simp[b]
 clear_value a2
 have aI:=hp.len;have aH:=ai.oJ
 refine(fX (b:=b.size::h) (bP R x2.size (hl _ aL)) (hd.le x2.le) ht).mono λ_ z⟨t,e,av,x3⟩=>?_
 subst e
 refine⟨x3.dq hl,_,rfl,?_⟩
 intro j az ac
 have Z:=x2.trans x3
 let⟨x5,B0,g0,s3,s5⟩:=kY (b:=j.size::b.size::h) RA.mono (d:=z) (a:=j) (c:=az) (h:=ac) rfl rfl rfl
 clear_value ac
 have ah:∀c∈[b.size,m.size],c<z.size:=λc d=>x3.lt (hl c d)
 have i1:=ah b.size aL
 have z2:=Z.size
 have A0:vL (j.size::b.size::h) z ac t (.mk z.size 0 0 0) H []:=⟨av.le (x5.bH λf s=>by
  simp only[Ks,fF,eE,aV]at s;rcases s with e|e|e
  .exact Or.inr (by rw[e];exact ad _)
  .exact Or.inr V
  .exact Or.inl (List.mem_cons.2 e)),g0,aL,aL,λf s=>by
   simp only[aV]at s;rcases s with e|e|e
   .omega
   .omega
   .have:=R f e;omega,λd=>by
   simp only[aV]at d;rcases d with e|e|e
   .simp at e;omega
   .simp at e;omega
   .have:=R _ e;simp at this;omega,aL⟩
 refine dT (n:=C.length) V (λX g=>J z g/\∃k l,vL (j.size::b.size::h) z g t k H l/\cD g j.size vD [.s t,.s k]/\l.map (·.1)=C.take X) ⟨x5,_,[],A0,B0,rfl⟩ ?_
 rintro X g aF μ hk ⟨xM,o,l,A,B,T⟩ aB
 have zM:=xM.size
 refine dit (λx=>?_) λx=>?_
 .let⟨q,hq⟩:=cG C X
  have W:=ai.dz q (aq hq)
  have q3:=W.params;have q4:=W.cR;have qf:=W.oJ
  have v6:=Z.trans xM
  let⟨aG,f,c,c1,c2,c3,e0,e1,e2,e3,e4⟩:=hp.aG hq
  have G:∀{N:Value}{f y:Nat},af m f y=some N->af g f y=some N:=λx=>v6.af x
  refine⟨V,V,_,G e0,_,G e1,_,G e2,_,G e3,_,G e4,?_⟩
  intro m7 k
  obtain⟨Q,-,s8⟩:=kJ (M:=g) (d:=m7) (c:=k) rfl rfl rfl
  clear_value k
  have U:∀c∈[g.size,b.size,m.size],c<k.size:=λc d=>by
   rcases List.mem_cons.1 d with e|e
   .omega
   .have:=ah c e;omega
  have w8:=v6.trans Q
  have hT:∀{w:E},g.size<=w.size->∀c∈o.D::(Ks l++(j.size::b.size::h)),c<w.size:=λx c d=>by
   rcases List.mem_cons.1 d with e|e
   .have:=A.g.bh;omega
   .rcases List.mem_append.1 e with e|e
    .obtain⟨u,r,rfl⟩:=List.mem_map.1 e;have:=(A.c u r).bh;omega
    .have:=A.lt c e;omega
  intro m9
  have x9:J k m9:=J.push _ _
  have ar:Gr (o.D::(Ks l++(j.size::b.size::h))) k m9 dW 6 dR (.mk k.size 0 0 0) []:=Gr.new _ (ad _) _ _ _
  clear_value m9
  have au:=c3.len
  refine ez (n:=q.dp.length) (au▸c3.gV) (λab ks u=>J k u/\Gr (o.D::(Ks l++(j.size::b.size::h))) k u dW 6 dR ks (q.dp.take ab)) ⟨x9,ar⟩ ?_
  rintro ab ks u I2 μ2 hj ⟨r,I⟩ aA
  have X2:=w8.trans r
  have z2:=r.size
  have ay:∀c∈[g.size,b.size,m.size],c<u.size:=λc d=>r.lt (U c d)
  refine dit (λh2=>?_) λh2=>?_
  .let⟨K,D⟩:=cG q.dp ab
   let⟨pa,pj,ha,ax,P,ag,aj,am,an,ao⟩:=(fj.ext X2 c3).aG D
   have yk:=I.bh
   refine⟨V,V,_,P,_,ag,_,aj,_,am,_,an,_,ao,?_⟩
   refine(wE (S:=ks.D::o.D::(Ks l++(j.size::b.size::h))) (λc d=>?_) ha ax (W.iP K (aq D))).mono λN aJ⟨a',j',e,aa,aw,v⟩=>⟨λc d=>v.same c (ay c d),_,_,_,_,_,_,e,?_⟩
   .rcases List.mem_cons.1 d with e|e
    .omega
    .exact hT V c e
   intro aK
   refine Gr.kL (g:=[.i 0,.i 0,.i 0,.i 0,.s .nil,.s .nil]) (k:=K) dR.mono bn (I.ext dR.mono v) ((r.trans v).fz []) ⟨a',j',rfl,aa,aw⟩ bF λal M3 g3 F z3 aM=>⟨J.oP ((r.trans v).aK _) F.ext U,aA V _ _ ⟨F.ext,?_⟩⟩
   rw[aU D];exact g3
  .rw[bX V]at I
   have v:∀{M1 u:E},J k M1->J M1 u->∀f,f<k.size->∀y,af u f y=af M1 f y:=λx h' f s y=>aE (h'.same f (x.lt s)) y
   have K:g.size<k.size:=V
   have i2:j.size<k.size:=aO B.lt Q.size
   refine⟨o,(B.ext (Q.trans r)).cp 1,?_⟩
   refine(bO [] (c1.ext X2) V).aH r U λa' _ ao ga e F D=>⟨_,rfl,v r F _ K _,v r F _ K _,v r F _ K _,v r F _ i2 _,?_⟩
   subst e
   refine(bO [] (c2.ext (w8.trans D)) V).aH D U λb' _ aj gb e P am=>⟨_,rfl,v D P _ K _,v D P _ K _,v D P _ i2 _,?_⟩
   subst e
   intro aw
   have ax:=D.size
   have aJ:=am.size
   have yk:=I.bh
   have ag:∀{w:E},u.size<=w.size->∀c∈ks.D::o.D::(Ks l++(j.size::b.size::h)),c<w.size:=λx c d=>by
    rcases List.mem_cons.1 d with e|e
    .omega
    .exact hT V c e
   have aa:ap (bH (ks.D::o.D::(Ks l++(j.size::b.size::h))) aj) a' q.params:=(GI.done (GI.any ga) (ag (ad _)) V).le (P.df _)
   have an:ap (bH (ks.D::o.D::(Ks l++(j.size::b.size::h))) aj) b' q.cR:=GI.done (GI.any gb) (ag F.size) V
   have ll:l.length=X:=by have:=nY List.length T;simp at this;omega
   have yq:=A.g.bh
   exact A.yV (i:=1) (bc:=[.s t,.s o]) (tb:=vD) (p:=⟨q.params,q.cR,q.aT,q.ak,q.dp⟩) (L:=[g.size,b.size,m.size]) (Q.trans am) (I.ext dR.mono (F.trans P)) V aa an B aL bn ⟨V,aL⟩ (λc d=>by
    have hn:=A.nq;simp only[aV,vK]at d hn;have:=Q.size;have:=B.lt;rcases d with e|e|e|e
    .omega
    .omega
    .omega
    .simp at e) V xM λal Y A' B' x'=>aB V Y ⟨x',al,_,A',B',by rw[aU hq,fu,T];rfl⟩
 .refine⟨t,B.cp 0,o,B.cp 1,?_⟩
  intro w
  rw[bX V]at T
  have k:Fz [b.size] g w:=(Fz.az _ g).ah (Or.inl aL) _ _
  exact⟨t,o,l,rfl,A.re k aL (λf s=>⟨Or.inl (by simp[s]),Ps (R f s) k.size⟩) Z.size,T,(Z.trans xM).ah V _ _⟩
section
variable{cs:List Ce}{p:dy}{y:Instr}
def Qh{α:Type}{l:List α}{f:Nat}{x:α}(h:l[f]? =some x):l.set f x=l:=by
 apply gX;intro i;rw[jG];split
 .next e=>
  subst e;rw[h];split
  .rfl
  .next hi=>exact absurd (aw h) hi
 .rfl
section
variable{S L B X:List Nat}{c m M:E}{a q d:O}{b:List bz}{l:List (dy×O)}{e Q f k:Nat}{x:dy×O}
def BS.psh(h:BS B e d m Q M)(o:Obj):BS (M.size::B) e d m Q (M.push o):=⟨h.s.ext (J.push M o),λc b=>by
 have z:=h.s.f.size;rw[Array.size_push];rcases List.mem_cons.1 b with a|a
 .omega
 .have:=h.gJ c a;omega⟩
def vL.oJ(h:DY (l.map (·.1)))(a:x∈l):Tl x.1:=h.dz x.1 (List.mem_map.2 ⟨x,a,rfl⟩)
def vL.len(h:vL S c M a q b l):q.len=l.length:=by have:=h.g.len bn;simpa using this
def vL.iD(n:vL S c M a q b l)(z:l.length<=1000)(k:l[f]? =some x):∃e d:O,af M q.D (q.off+f*5)=some (O.v e)/\af M q.D (q.off+f*5+1)=some (O.v d)/\af M q.D (q.off+f*5+2)=some (vi x.1.aT)/\af M q.D (q.off+f*5+3)=some (vi x.1.ak)/\af M q.D (q.off+f*5+4)=some (O.v x.2)/\ap (bH (q.D::S) M) e x.1.params/\ap (bH (q.D::S) M) d x.1.cR:=by
 let⟨A,m,v,r⟩:=n.g;have y:=aw k;have t:f<m.length:=by have:=r.len;simp at this;omega
 let⟨cs,j⟩:=dB t;let⟨e,d,h,o,p⟩:=r.dz f cs (hd x) j (by simp[k]);have iD:=v.iD;have w:Le (bH (q.D::(Ks l++S)) M) (bH (q.D::S) M):=iV M λd s=>by rcases List.mem_cons.1 s with h|h<;>simp[h]
 have aG:∀i g,cs[i]? =some g->af M q.D (q.off+f*5+i)=some g.v:=λi g u=>by
  have:=iD (f*5+i) g (fY r.size j u);rwa[<-di]at this
 subst h;exact⟨e,d,aG 0 _ rfl,aG 1 _ rfl,aG 2 _ rfl,aG 3 _ rfl,aG 4 _ rfl,o.le w,p.le w⟩
def vL.it(h:vL S c M a q b l)(g:l.length<=1000)(e:∀x∈l,x.1.dp.length<=10^12):IT (bH S M) a q (b,l.map (·.1)):=
 ⟨h.d.le (iV M λf d=>by simp[d]),(h.gr e).nK lx.mono h.nq bn (by simp only[dY];omega)⟩
def vL.aad(h:vL S c M a q b l)(i:Fz X c M)(o:l.length<=1000)(f:∀x∈l,x.1.dp.length<=10^12)(j:k<l.length)(m:lx (bH (q.D::S) M) cs p):
 fL M q.D (q.off+k*5) 5/\∃n,IT (bH S (ah M q.D (q.off+k*5) cs)) a q (b,n):=by
 obtain⟨w,g,-,-⟩:=(h.gr f).set lx.mono i (k:=k) (by simpa using j) m
 have F:Fz [q.D] M (ah M q.D (q.off+k*5) cs):=(Fz.az _ M).ah (Or.inl aL) _ _
 exact⟨w,_,h.d.le (F.bH (λe d=>by simp at d;simp[d]) λe d=>Or.inl (by simp[d])),g.nK lx.mono h.nq bn bF⟩
def vL.wr(h:vL S c M a q b l)(v:Fz X c M)(j:l[f]? =some x)(A:k<x.1.dp.length)(B:dR (bH (q.D::(Ks l++S)) M) cs y):
 fL M x.2.D (x.2.off+k*6) 6/\vL S c (ah M x.2.D (x.2.off+k*6) cs) a q b (l.set f ({x.1 with dp:=x.1.dp.set k y},x.2)):=by
 have n:=aq j
 have t:x.2.D∈Ks l:=List.mem_map.2 ⟨x,n,rfl⟩
 have C:∀d∈x.2.D::q.D::(Ks l++S),d∈q.D::(Ks l++S):=λd g=>by
  rcases List.mem_cons.1 g with e|e
  .rw[e];exact ai _ (bJ _ t)
  .exact e
 obtain⟨D,u,-,E⟩:=(h.c x n).set dR.mono v A (dR.le (iV M C) B)
 have F:Fz [x.2.D] M (ah M x.2.D (x.2.off+k*6) cs):=(Fz.az _ M).ah (Or.inl aL) _ _
 have p:∀d∈[x.2.D],d∈Ks l++S:=λd g=>by simp at g;rw[g];exact bJ _ t
 have o:Ks (l.set f ({x.1 with dp:=x.1.dp.set k y},x.2))=Ks l:=by
  simp only[Ks,ue];exact Qh (by simp[j])
 have w:(l.set f ({x.1 with dp:=x.1.dp.set k y},x.2)).map hd=l.map hd:=by
  rw[ue];exact Qh (by simp[j,hd])
 have r:∀z∈l.set f ({x.1 with dp:=x.1.dp.set k y},x.2),z=({x.1 with dp:=x.1.dp.set k y},x.2)\/z∈l/\z.2.D≠x.2.D:=λz m=>by
  let⟨G,i⟩:=List.mem_iff_getElem?.1 m;rw[jG]at i;split at i
  .split at i
   .exact Or.inl (by simpa using i.symm)
   .simp at i
  .next hne=>
   refine Or.inr ⟨aq i,λe=>hne ?_⟩;have s:f<(Ks l).length:=by simpa[Ks]using aw j
   exact(List.getElem?_inj s h.nd).1 (by simp[Ks,j,i,e])
 refine⟨D,?_,?_,λz m=>?_,by rw[o];exact h.nd,λd g=>by rw[av];exact h.lt d g,h.nq,λz m=>?_⟩
 .rw[o];exact h.d.le (F.df λd g=>ai _ (p d g))
 .rw[o,w];exact h.g.NM RA.mono F p (by simp;exactλe=>h.kq x n e.symm)
 .rw[o]
  rcases r z m with e|⟨e,s⟩
  .rw[e];exact u
  .exact(h.c z e).NM dR.mono F (λd g=>ai _ (p d g)) (by simpa using s)
 .rcases r z m with e|⟨e,s⟩
  .rw[e];exact h.nc x n
  .exact h.nc z e
end
def UP{c:List dy}(h:DY c){f k:Nat}{x:Instr}(g:c[f]? =some p)(i:p.dp[k]? =some x)(d:Tb x y):DY (c.set f {p with dp:=p.dp.set k y}):=by
 have b:=h.dz p (aq g);refine⟨by simpa using h.iZ,by simpa using h.oJ,λq j=>?_⟩;rcases cA j with e|e
 .exact h.dz q e
 .subst e;refine⟨b.params,b.cR,by simpa using b.iZ,by simpa using b.oJ,λl z a=>?_,λz a=>?_⟩
  .simp only[jG]at a;split at a
   .next e=>
    subst e;split at a
    .simp at a;subst a;exact d.1 _ (b.dp _ _ i)
    .simp at a
   .exact b.dp _ _ a
  .rcases cA a with e|e
   .exact b.iP z e
   .rw[e];exact d.2
section
variable{a:List Nat}{m:E}{b P:Nat}{c:O}
def Iu(hS:∀k∈a,k<m.size)(ac:b∈a)(I:Rd b c P m)(hP:P+100<=10^16){ab p:O}{s:List bz×List dy}(ag:IT (bH a m) ab p s)(R:UI s):aN cq 91 [vp b 0,.agg #[O.v ab,O.v p]] m (PP IT UI a b c m (P+11)):=by
 apply AH (b,0);simp -zeta only[aD,aC];have z:=I.lt;intro i Z;have b2:BS [i.size,m.size] b c m P Z:=BS.psh (BS.lM (S:=a) I _).1 _;have T:J m Z:=(J.push m _).trans (J.push i _);clear_value Z;refine(wC (b2.hS hS) ((ag.1.le (bA _ _)).ext T) (tj R.2) (eT.mono (iK.le (bA _ _) ag.2) T λ_ _=>lx.le T.le) R.1).mono λ_ j⟨w,q,l,e,A,hl,x3⟩=>⟨(b2.lw z λ_ h=>h).dq (x3.fz _),w,q,e,?_⟩;have b3:=b2.to (x3.fz _) (b2.s.r.ext x3);intro m4 K;obtain⟨b5,-,-⟩:=b3.box (S:=a) (m1:=m4) (m2:=K) rfl rfl rfl;obtain⟨x5,-,-⟩:=kJ (M:=j) (d:=m4) (c:=K) rfl rfl rfl;clear_value K;have A5:vL ([j.size,i.size,m.size]++a) m K w q s.1 l:=A.re (x5.fz []) aL (λd f=>⟨by
  rcases List.mem_cons.1 f with e|e
  .exact Or.inr V
  .exact Or.inl e,b5.hS hS d f⟩) T.size
 refine b5.pick z V (λ_ h=>h) 2 λam m6 i0 i1 b6 f6=>?_;have hB:∀d∈[b],d∈[j.size,i.size,m.size]++a:=by simp[ac]
 have Q:∀{u M':E}{l:List (dy×O)},vL ([j.size,i.size,m.size]++a) m u w q s.1 l->Fz [b] u M'->vL ([j.size,i.size,m.size]++a) m M' w q s.1 l:=λh G=>h.re G hB (λd f=>⟨Or.inl f,aO (h.lt d f) G.size⟩) (ad _);refine⟨λN u=>∃n:Nat,N=n/\n<=2/\BS [j.size,i.size,m.size] b c m (P+11 -5*n) u/\∃l,vL ([j.size,i.size,m.size]++a) m u w q s.1 l/\DY (l.map (·.1)),λN _=>N.toNat,⟨(am+1).toNat,by rw[aP V V];omega,V,⟨⟨b6.s.f,b6.s.r.mono V⟩,b6.gJ⟩,l,Q A5 f6,hl▸R.1⟩,?_⟩;rintro N u ⟨n,rfl,hk,d,l,A,r⟩;refine⟨λh=>?_,λ_=>d.iH IT.mn I aL (x:=(s.1,l.map (·.1))) (A.it (by have:=r.oJ;simp at this;omega) λy g=>(vL.oJ r g).oJ) ⟨r,R.2⟩ V _⟩;simp only[kH,ar]at h;have az:=A.len;have l4:l.length<=4:=by simpa using r.oJ
 have l0:0<l.length:=by simpa using r.iZ
 refine d.pick z V (λ_ h=>h) (q.len:Int) λG m7 X f1 b7 f7=>?_;have U:=Q A f7;let⟨y,g⟩:=cG l G.toNat;obtain⟨-,-,-,-,-,-,g7,-,-⟩:=U.iD V g;have C:=vL.oJ r (aq g);have ax:=(U.dp (aq g) C.oJ).len;have au:=C.iZ;refine⟨X,V,y.2,g7,b7.pick z V (λ_ h=>h) (y.2.len:Int) λan L j0 j1 W f8=>?_⟩;have t:=Q U f8;obtain⟨-,-,-,-,-,-,g8,-,-⟩:=t.iD V g;let⟨ao,B⟩:=cG y.1.dp an.toNat;let⟨ap,jj,ha,hj,e0,e1,e2,e3,e4,e5⟩:=(t.dp (aq g) C.oJ).aG B;have gJ:∀{d o:Nat}{ah:Value},af (bH (q.D::([j.size,i.size,m.size]++a)) L) d o=some ah->af L d o=some ah:=λh=>(eQ.1 h).2;refine⟨X,V,y.2,g8,X,V,y.2,g8,j0,V,_,gJ e0,_,gJ e1,_,gJ e2,_,gJ e3,_,gJ e4,_,gJ e5,?_⟩;have hZ:∀k∈q.D::(Ks l++([j.size,i.size,m.size]++a)),k<L.size:=λk Y=>by
  rcases List.mem_cons.1 Y with e|e
  .rw[e];exact t.g.bh.2
  .rcases List.mem_append.1 e with e|e
   .obtain⟨aa,v,rfl⟩:=List.mem_map.1 e;exact(t.c aa v).bh.2
   .exact t.lt k e
 refine(It hZ W.s.r V (ha.le (iV _ (by simp[ac]))) (hj.le (bA _ _)) (C.iP ao (aq B)) ⟨_,C.dp _ _ B⟩).mono λ_ m9⟨D,a',j',e,ak,al,f,r9,H⟩=>⟨(W.lw z λ_ h=>h).dq H,_,_,_,_,_,_,e,?_⟩;have F:=Q t H;have v:=W.to H r9;let⟨aa,aj⟩:=F.wr v.s.f g (aw B) (cs:=[.i D.op,.i D.dst,.i D.bQ,.i D.bZ,.s a',.s j']) (y:=D) ⟨a',j',rfl,ak,al⟩;have yc:=(F.c y (aq g)).bh;have ae:∀o d,d∈q.D::([j.size,i.size,m.size]++a)->d≠b->af m9 d o=af L d o:=λo d f hn=>aE (H.same d (hZ d ((List.mem_cons.1 f).elim (λe=>by simp[e]) λe=>ai _ (eD _ e))) (by simpa using hn)) o;have yq:=F.g.bh;have ay:=v.gJ j.size aL;refine⟨ae _ _ aL V,ae _ _ aL V,j0,V,aa,λd f=>bd _ _ _ _ λe=>(F.nc y (aq g)) (by rw[<-e];exact bJ _ f),⟨n -1,?_,V,⟨⟨v.s.f.ah (Or.inr V) _ _,(I.ah v.s.r v.s.f V _ _).mono V⟩,λk Y=>by rw[av];exact v.gJ k Y⟩,_,aj,?_⟩,?_⟩
 .rw[aP V V];omega
 .rw[ue];exact UP r (by simp[g]) B f
 .rw[aP V V];show((n:Int) -1).toNat<(n:Int).toNat;omega
end
end
section
variable{m:E}{b:Nat}{a j:O}
def BI.lM{L:List Nat}{g M:E}{k Q:Nat}{i:O}{p q:List Int}(h:BI g k b i m Q M a j p q)(o:b<m.size)(u:Q<=10^16)(s:∀e∈L,m.size<=e/\e<=k)(d:List Int){f:List Ce}{n:Nat}(w:f=d.map Ce.i)(A:n=d.length)(z:0<d.length/\d.length<=100){K:Int->E->Prop}
 (y:∀t c,BI g k b i m (Q+1) c a j p q->K t c):aN cq 39 [vp b 0,O.v (.mk M.size 0 n n)] (M.push (.cells (bt f) aA)) λC c=>eF L (M.push (.cells (bt f) aA)) c/\∃t:Int,C=vi t/\K t c:=
 have:=h.hi
 have x:=J.push M (.cells (bt f) aA)
 have D:=x.size
 (yo h.s u d w A z).mono λ_ c⟨t,r,_,B,l⟩=>⟨l.dq λe v=>by have:=s e v;simp only[lI];omega,t,r,y t c ((h.to o (x.fz _) (h.s.r.ext x)).to o l B.r)⟩
def Hd{Z:List Nat}{P:Nat}{s:O}{x:Instr}(o:∀c∈Z,c<m.size)(c:Rd b s P m)(hP:P+20<=10^16)(U:ap m a x.args)(W:ap m j x.eM)(p:x.args.length<=10^12/\x.eM.length<=10^12):
 aN cq 168 [vp b 0,VU x a j] m (IX Z b s m (P+4) λ_=>True):=by
 apply zn (b,0)
 simp(config:={maxSteps:=1000000}) -zeta only[aD,aC]
 have q:=c.lt
 intro v h
 let⟨H,C⟩:=dD (a:=v) (c:=h) rfl rfl
 have i:v.size=m.size+1:=by simp[v]
 have s2:h.size=m.size+2:=by simp[h,i]
 clear_value h
 clear_value v
 refine(wD [] (U.ext H) (W.ext H) p).mono λ_ r⟨K,N,l,L,E,X,S⟩=>⟨S.dq C,_,_,_,_,_,_,l,?_⟩
 intro Y F
 obtain⟨I,-,z5⟩:=kJ (M:=r) (d:=Y) (c:=F) rfl rfl rfl
 clear_value F
 have ya:=L.bh;have yj:=E.bh
 have J:=(H.trans S).trans I
 have b5:BI h r.size b s m P F K N x.args x.eM:=⟨L.ext I,E.ext I,X,⟨J.fz _,c.ext J⟩,⟨V,pt p.1,pt p.2⟩,V,V,V,V⟩
 have u:∀B∈[r.size,v.size,m.size],m.size<=B/\B<=r.size:=bF
 refine b5.pick q V u 6 λac y _ _ b6 _ f6=>?_
 have y6:=b6.hi
 have R:∀{w:O}{Q:List Int},GI [] h y w Q->Q.length<=10^12->aN cq 93 [vp b 0,O.v w] y λA f=>eF [r.size,v.size,m.size] y f/\∃e,A=O.v e/\∃g,GI [] y f e g/\g.length<=1000000000001/\Rd b s (P+4) f/\Fz [b] y f:=λn C=>
  (qP b6.s.r V (ap.le (bA _ _) (n.done aL C)) C).mono λ_ f⟨e,g,l,T,D,_,z,t⟩=>⟨t.dq λB p=>by have:=u B p;simp only[lI];omega,e,l,g,T,V,z,t⟩
 refine⟨λ_=>b6.pick q V u 26 λA G _ _ d _ _=>(d.put c _ _).iH c o i V trivial _,λ_=>⟨λ_=>b6.lM q V u [0,1,-1,99] rfl rfl aL λA G d=>(d.put c _ _).iH c o i V trivial _,λ_=>⟨λ_=>b6.lM q V u [0,1,5,-1,1000,2000] rfl rfl aL λA G d=>(d.put c _ _).iH c o i V trivial _,λ_=>⟨λ_=>b6.lM q V u [0,1,-1,99] rfl rfl aL λA G d=>(d.put c _ _).iH c o i V trivial _,λ_=>⟨λ_=>?_,λ_=>⟨λ_=>?_,λ_=>b6.iH c o i V trivial _⟩⟩⟩⟩⟩⟩
 .refine(R b6.ga p.1).mono λ_ f⟨w,e,l,g,n,D,z,t⟩=>⟨w,e,l,?_⟩
  have aa:=n.bh
  have ab:=b6.s.f.size
  have k:=b6.to q t z
  have d:BI h r.size b s m (P+4) f e N g x.eM:=⟨n.cv aL V,k.gj,oh E.bh,k.s,⟨V,D,b6.lo.2.2⟩,V,V,k.hi.2.2⟩
  exact(d.put c _ _).iH c o i V trivial _
 .refine(R b6.gj p.2).mono λ_ f⟨w,e,l,g,n,D,z,t⟩=>⟨w,e,l,?_⟩
  have aa:=n.bh
  have ab:=b6.s.f.size
  have k:=b6.to q t z
  have d:BI h r.size b s m (P+4) f K e x.args g:=⟨k.ga,n.cv aL V,V,k.s,⟨V,b6.lo.2.1,D⟩,V,V,k.hi.2.2⟩
  exact(d.put c _ _).iH c o i V trivial _
end
section
def AD(S:List Nat)(b:Nat)(c:O)(m:E)(P:Nat)(v:Value)(a:E):Prop:=∃s d,v=O.v s/\cx (bH S a) s d/\Rd b c P a/\Fz [b] m a
structure DD(S:List Nat)(rb:Nat)(bs:O)(m:E)(Q:Nat)(M:E)(s:O)(ds:List bz):Prop where
 g:Zf S m M s ds
 r:Rs rb bs m Q M
 l:0<ds.length/\ds.length<=100
section
variable{a:List Nat}{b P Q h g:Nat}{c s:O}{m M f:E}{e:List bz}
def DD.to(d:DD a b c m Q M s e)(i:b∈a/\b<m.size)(g:Fz [b] M f)(r:Rs b c m h f):DD a b c m h f s e:=⟨d.g.eA iO.mono g (by simp;exact i),r,d.l⟩
def DD.ext(h:DD a b c m Q M s e)(x:J M f):DD a b c m Q f s e:=⟨h.g.ext iO.mono x,h.r.ext x,h.l⟩
def DD.gJ(h:DD a b c m Q M s e)(g:∀d∈a,d<m.size):∀d∈s.D::a,d<M.size:=λd i=>(List.mem_cons.1 i).elim (λf=>f▸h.g.bh.2) λf=>aO (g d f) h.r.f.size
def DD.lit(h:DD a b c m Q M s e)(f:∀d∈a,d<m.size)(l:List Int){cs:List Ce}{n:Nat}(d:cs=l.map Ce.i)(g:n=l.length)(i:l.length<=100):ap (bH (s.D::a) (M.push (.cells (bt cs) aA))) (.mk M.size 0 n n) l:=ap.lit aA l (h.gJ f) d g V
def DD.iH(h:DD a b c m Q M s e)(f:∀d∈a,d<m.size)(d:Q<=g):AD a b c m g (O.v s) M:=⟨s,e,rfl,h.g.done iO.mono f bn (oh h.l),h.r.r.mono d,h.r.f⟩
def DD.set(h:DD a b c m Q M s e)(o:∀f∈a,f<m.size)(i:Rd b c P m)(n:Q<=g){k:Int}(p:0<=k/\k<(e.length:Int)){cs:List Ce}{d:bz}(hd:iO (bH (s.D::a) M) cs d):
 0<=k/\k<(s.len:Int)/\fL M s.D (s.off+k.toNat*3) 3/\AD a b c m g (O.v s) (ah M s.D (s.off+k.toNat*3) cs):=by
 have q:=h.g.len bn
 have y:=h.g.bh
 let⟨w,l,f,j⟩:=h.g.set iO.mono h.r.f (k:=k.toNat) V hd
 exact⟨p.1,V,w,s,_,rfl,l.done iO.mono o bn (by have:=h.l;simp;omega),(i.MU h.r.r f (j b (oh i.lt))).mono n,f⟩
def DD.hO(h:DD a b c m Q M s e)(i:∀d∈a,d<m.size)(k:Rd b c P m)(q:Q<=g){d:List Ce}{n:Nat}(l:List (bz×List Ce))(hd:∀x∈l,iO (bH (s.D::a) M) x.2 x.1)(t:d=l.flatMap (·.2))(u:n=l.length)(v:l.length<=100):
 jO (M.push (.cells (bt d) jZ)) jZ [.i 0,.i 0,.s .nil] 40 s (.mk M.size 0 n n) λr f=>AD a b c m g (O.v r) f:=by
 have x:=J.push M (.cells (bt d) jZ)
 have z:=h.g.bh
 have H:=(Ch iO.mono (h.gJ i) jZ l hd t u).done iO.mono (h.gJ i) bn bF
 have w:=h.l
 refine Gr.all (g:=[.i 0,.i 0,.s .nil]) iO.mono bn (h.ext x).g (h.ext x).r.f H bF λr y p j A o=>⟨r,_,rfl,p.done iO.mono i bn bF,(k.MU (h.ext x).r.r j (o b (h.ext x).r.r.lt (oh k.lt))).mono q,j⟩
def JV(g:∀z∈a,z<m.size)(O:b∈a)(v:Rd b c P m)(hP:P+100<=10^16):aN cq 167 [vp b 0] m (AD a b c m (P+6)):=by
 apply CE (b,0);have hr:=v.lt;have w:b∈a/\b<m.size:=⟨O,hr⟩;refine(wG g O v V).mono λ_ m1⟨s,e,h,g1,ad,d1,f1⟩=>⟨s,h,?_⟩;have R:DD a b c m (P+1) m1 s e:=⟨g1,⟨f1,d1⟩,oh (pG e ad)⟩;have sl:s.len=e.length:=g1.len bn;have dl:=R.l;refine(bY d1 V (s.len:Int)).mono λ_ m2⟨D,h,k0,k1,d2,f2⟩=>⟨D,h,?_⟩;have Z:=R.to w f2 (R.r.to f2 d2);have N:0<=D/\D<(e.length:Int):=V;refine(bY d2 V 14).mono λ_ F⟨ae,h,_,_,d3,f3⟩=>⟨ae,h,?_⟩;have k:=Z.to w f3 (Z.r.to f3 d3);have Q:∀{M:E},UF M .nil []:=⟨rfl,dH _,aL,aL⟩;have x:∀{M f:E},J M f->Le (bH (s.D::a) M) (bH (s.D::a) f):=λX=>X.df _;refine⟨λ_=>?_,λ_=>⟨λ_=>?_,λ_=>⟨λ_=>?_,λ_=>⟨λ_=>?_,λ_=>⟨λ_=>?_,λ_=>⟨λ_=>k.hO g v V [(⟨0,0,[]⟩,[.i 0,.i 0,.s .nil]),(⟨3,0,[]⟩,[.i 3,.i 0,.s .nil])] (by simp;exact⟨⟨.nil,rfl,Q⟩,⟨.nil,rfl,Q⟩⟩) rfl rfl aL,λ_=>k.iH g V⟩⟩⟩⟩⟩⟩
 .refine(yo k.r V [-1,5,0,2] rfl rfl aL).mono λ_ o⟨t,h,_,G,u⟩=>⟨t,h,?_⟩;have r:=(k.ext (J.push F _)).to w u G;refine(yo G V [0,1,5] rfl rfl aL).mono λ_ l⟨q,h,_,A,y⟩=>⟨q,h,?_⟩;have p:=(r.ext (J.push o _)).to w y A;exact p.set g v V N (d:=⟨t,q,[]⟩) ⟨.nil,rfl,Q⟩
 .refine(yo k.r V [-1,0,4,5] rfl rfl aL).mono λ_ o⟨t,h,_,G,u⟩=>⟨t,h,?_⟩;have r:=(k.ext (J.push F _)).to w u G;have L:=r.lit g [t] (cs:=[.i t]) (n:=1) rfl rfl aL;refine Dz _ λl y=>?_;have p:=(r.ext (J.push o _)).ext y;have a2:=p.lit g [0,0,0,0] (cs:=[.i 0,.i 0,.i 0,.i 0]) (n:=4) rfl rfl aL;refine Dz _ λq B=>?_;have H:=(p.ext (J.push l _)).ext B;have a3:=H.lit g [] (cs:=[]) (n:=0) rfl rfl aL;refine Dz _ λA C=>?_;have I:=(H.ext (J.push q _)).ext C;have K:=(J.push q (.cells (bt []) aA)).trans C;have U:=((J.push l (.cells (bt [.i 0,.i 0,.i 0,.i 0]) aA)).trans B);have z:=wY (I.gJ g) pp [([t],.mk o.size 0 1 1),([0,0,0,0],.mk l.size 0 4 4),([],.mk q.size 0 0 0)] aL (by
   simp only[aV,j7,BV,forall_eq_or_imp,forall_eq];exact⟨L.le (x ((y.trans U).trans K)),a2.le (x (B.trans K)),a3.le (x C)⟩) (c:=[.s (.mk o.size 0 1 1),.s (.mk l.size 0 4 4),.s (.mk q.size 0 0 0)]) (b:=3) rfl rfl
  exact(I.ext (J.push A _)).set g v V N (d:=⟨0,0,_⟩) ⟨_,rfl,z⟩
 .have L:=k.lit g [cO (D+1)] (cs:=[.i (cO (D+1))]) (n:=1) rfl rfl aL;refine Dz _ λl y=>?_;have p:=(k.ext (J.push F _)).ext y;have z:=wY (p.gJ g) pp [([cO (D+1)],.mk F.size 0 1 1)] aL (by
   simp only[aV,j7,BV,forall_eq];exact L.le (x y)) (c:=[.s (.mk F.size 0 1 1)]) (b:=1) rfl rfl
  exact(p.ext (J.push l _)).set g v V N (d:=⟨0,0,_⟩) ⟨_,rfl,z⟩
 .refine(yo k.r V [0,2,1] rfl rfl aL).mono λ_ o⟨t,h,_,G,u⟩=>⟨t,h,?_⟩;have r:=(k.ext (J.push F _)).to w u G;exact r.hO g v V [(⟨2,t,[]⟩,[.i 2,.i t,.s .nil])] (by simp;exact⟨.nil,rfl,Q⟩) rfl rfl aL
 .refine(bY k.r.r V 2).mono λ_ o⟨t,h,_,_,d4,u⟩=>⟨t,h,?_⟩;have r:=k.to w u (k.r.to u d4);have L:=r.lit g [] (cs:=[]) (n:=0) rfl rfl aL;refine Dz _ λl y=>?_;have p:=(r.ext (J.push o _)).ext y;have a2:=p.lit g [2] (cs:=[.i 2]) (n:=1) rfl rfl aL;refine Dz _ λq B=>?_;have H:=(p.ext (J.push l _)).ext B;have a3:=H.lit g [] (cs:=[]) (n:=0) rfl rfl aL;refine Dz _ λA C=>?_;have I:=(H.ext (J.push q _)).ext C;have a4:=I.lit g [] (cs:=[]) (n:=0) rfl rfl aL;refine Dz _ λm8 Y=>?_;have D8:=(I.ext (J.push A _)).ext Y;have W:=(J.push A (.cells (bt []) aA)).trans Y;have K:=(J.push q (.cells (bt []) aA)).trans C;have U:=((J.push l (.cells (bt [.i 2]) aA)).trans B);have z:=wY (D8.gJ g) pp [([],.mk o.size 0 0 0),([2],.mk l.size 0 1 1),([],.mk q.size 0 0 0),([],.mk A.size 0 0 0)] aL (by
   simp only[aV,j7,BV,forall_eq_or_imp,forall_eq];exact⟨L.le (x (((y.trans U).trans K).trans W)),a2.le (x ((B.trans K).trans W)),a3.le (x (C.trans W)),a4.le (x Y)⟩) (c:=[.s (.mk o.size 0 0 0),.s (.mk l.size 0 1 1),.s (.mk q.size 0 0 0),.s (.mk A.size 0 0 0)]) (b:=4) rfl rfl
  have T:=D8.ext (J.push m8 (.cells (bt [.s (.mk o.size 0 0 0),.s (.mk l.size 0 1 1),.s (.mk q.size 0 0 0),.s (.mk A.size 0 0 0)]) pp));refine(bY T.r.r V 3).mono λ_ af⟨aa,h,j0,j1,ac,G⟩=>⟨aa,h,j0,bF,aL,?_⟩;have c':=(eT.le z (G.df (S:=s.D::a) (by simp[O])) λab X=>mR.le (G.df (by simp[O])) ab X).KU (i:=aa.toNat) (j:=4) V aL;exact(T.to w G (T.r.to G ac)).set g v V N (d:=⟨t,0,_⟩) ⟨_,rfl,c'⟩
end
end
section
def Tr{α:Type}(_:α):Prop:=True
section
variable{a:List Nat}{m:E}{b P:Nat}{c:O}
def uT(hS:∀w∈a,w<m.size)(aa:b∈a)(Z:Rd b c P m)(hP:P+200<=10^16){an ao:O}{x:List bz×List dy}(u:IT (bH a m) an ao x)(ap:UI x)(aB:Int):aN cq 92 [vp b 0,.agg #[O.v an,O.v ao],vi aB] m (PP IT Tr a b c m (P+10)):=by
 apply zm (b,0);simp(config:={maxSteps:=1000000}) -zeta only[aD,aC];have F:=Z.lt;intro d ae;have b2:BS [d.size,m.size] b c m P ae:=BS.psh (BS.lM (S:=a) Z _).1 _;have x2:J m ae:=(J.push m _).trans (J.push d _);have s1:d.size=m.size+1:=by simp[d]
 have t2:IT (bH ([d.size,m.size]++a) ae) an ao x:=IT.mn _ _ _ _ _ (x2.bH λh r=>by
  simp at r;rcases r with e|e|e
  .exact Or.inr V
  .exact Or.inr V
  .exact Or.inl e) u
 clear_value ae;refine b2.pick F V (λ_ o=>o) aB λaQ m3 _ _ b3 f3=>?_;have t3:=IT.mn _ _ _ _ _ (BS.le (B:=[d.size,m.size]) aa f3) t2;refine⟨λ_=>b3.iH IT.mn Z aL t3 trivial V _,λ_=>?_⟩;refine(wC (b3.hS hS) (t3.1.le (bA _ _)) (tj ap.2) (iK.le (bA _ _) t3.2) ap.1).mono λ_ f⟨N,q,C,e,A4,hl,x4⟩=>⟨(b3.lw F λ_ o=>o).dq (x4.fz _),N,q,e,?_⟩;have b4:=b3.to (x4.fz _) (b3.s.r.ext x4);intro m5 m6;obtain⟨b6,-,-⟩:=b4.box (S:=a) (m1:=m5) (m2:=m6) rfl rfl rfl;obtain⟨x6,-,-⟩:=kJ (M:=f) (d:=m5) (c:=m6) rfl rfl rfl;clear_value m6;have A6:vL ([f.size,d.size,m.size]++a) m m6 N q x.1 C:=A4.re (x6.fz []) aL (λh r=>⟨by
  rcases List.mem_cons.1 r with e|e
  .exact Or.inr V
  .exact Or.inl e,b6.hS hS h r⟩) b3.s.f.size
 have ok:DY (C.map (·.1)):=hl▸ap.1;have aX:=A6.len;have l4:C.length<=4:=by simpa using ok.oJ
 have l0:0<C.length:=by simpa using ok.iZ
 have cl:∀g∈C,g.1.dp.length<=10^12:=λg A=>(vL.oJ ok A).oJ;refine b6.pick F V (λ_ o=>o) (q.len:Int) λp i f0 f1 b7 f7=>?_;have A7:=A6.re f7 (S':=[f.size,d.size,m.size]++a) (by simp[aa]) (λh r=>⟨Or.inl r,b7.hS hS h r⟩) (ad _);let⟨g,A⟩:=cG C p.toNat;let⟨ac,h,g0,g1,g2,g3,g4,aJ,aK⟩:=A7.iD V A;refine⟨f0,V,ac,g0,h,g1,_,g2,_,g3,g.2,g4,?_⟩;intro m8 m9;obtain⟨b9,-,-⟩:=b7.box (S:=a) (m1:=m8) (m2:=m9) rfl rfl rfl;obtain⟨x9,-,-⟩:=kJ (M:=i) (d:=m8) (c:=m9) rfl rfl rfl;clear_value m9;have A9:vL ([i.size,f.size,d.size,m.size]++a) m m9 N q x.1 C:=A7.re (x9.fz []) aL (λh r=>⟨by
  rcases List.mem_cons.1 r with e|e
  .exact Or.inr V
  .exact Or.inl e,b9.hS hS h r⟩) (ad _)
 have iH:∀{l:E}{T:O}{ar:List bz×List dy}{Q:Nat},BS [i.size,f.size,d.size,m.size] b c m Q l->IT (bH ([i.size,f.size,d.size,m.size]++a) l) T q ar->Q<=P+10->PP IT Tr a b c m (P+10) (.agg #[O.v T,O.v q]) (ah l d.size 0 [.s T,.s q]):=λh u o=>h.iH IT.mn Z aL u trivial o _;refine⟨λ_=>iH b9 (A9.it V cl) V,λhn=>?_⟩;have hB:∀h∈[b],h∈[i.size,f.size,d.size,m.size]++a:=by simp[aa]
 have W:∀{l n:E}{C:List (dy×O)},vL ([i.size,f.size,d.size,m.size]++a) m l N q x.1 C->Fz [b] l n->vL ([i.size,f.size,d.size,m.size]++a) m n N q x.1 C:=λo p=>o.re p hB (λh r=>⟨Or.inl r,aO (o.lt h r) p.size⟩) (ad _);refine b9.pick F V (λ_ o=>o) 8 λaQ H _ _ j au=>?_;have U:=W A9 au;have ay:Le (bH (q.D::([f.size,d.size,m.size]++a)) i) (bH (q.D::([i.size,f.size,d.size,m.size]++a)) H):=(x9.bH λh r=>by
  simp only[cZ,eE,aV]at r⊢;rcases r with e|e|e
  .exact Or.inl (Or.inl e)
  .exact Or.inr V
  .exact Or.inl (Or.inr e)).trans (au.df (by simp[aa]))
 have ha:=aJ.le ay;have r:=aK.le ay;have az:∀{l n:E},Fz [b] l n->Le (bH (q.D::([i.size,f.size,d.size,m.size]++a)) l) (bH (q.D::([i.size,f.size,d.size,m.size]++a)) n):=λp=>p.df (by simp[aa]);have G:=vL.oJ ok (aq A);have done:∀{l:E}{Q:Nat}{D:List Ce}{aE:dy},BS [i.size,f.size,d.size,m.size] b c m Q l->vL ([i.size,f.size,d.size,m.size]++a) m l N q x.1 C->lx (bH (q.D::([i.size,f.size,d.size,m.size]++a)) l) D aE->Q<=P+10->
  0<=p/\p<(q.len:Int)/\fL l q.D (q.off+p.toNat*5) 5/\(eF [i.size,f.size,d.size,m.size] l (ah l q.D (q.off+p.toNat*5) D)/\PP IT Tr a b c m (P+10) (.agg #[O.v N,O.v q]) (ah (ah l q.D (q.off+p.toNat*5) D) d.size 0 [.s N,.s q])):=λ{l Q D aE} h K hp hQ=>by
  let⟨X,ps,tt⟩:=K.aad h.s.f V cl (k:=p.toNat) V hp
  have yq:=K.g.bh
  exact⟨f0,V,X,λw R=>bd _ _ _ _ λe=>K.nq (by rw[<-e];exact bJ _ R),iH ⟨h.s.put Z yq.1 _ _,λw R=>by rw[av];exact h.gJ w R⟩ tt hQ⟩
 have v:∀{l n:E}{Q:Nat},BS [i.size,f.size,d.size,m.size] b c m Q l->Fz [b] l n->∀s,af n i.size s=af l i.size s:=λh p s=>kg p F (h.gJ _ aL) s;have Y:∀{l n:E}{Q:Nat},BS [i.size,f.size,d.size,m.size] b c m Q l->Fz [b] l n->∀s,af n f.size s=af l f.size s:=λh p s=>kg p F (h.gJ _ aL) s;have am:=U.dp (aq A) G.oJ;have ax:=j.hS hS;have lq:∀w∈q.D::([i.size,f.size,d.size,m.size]++a),w<H.size:=λw R=>(List.mem_cons.1 R).elim (λe=>e▸U.g.bh.2) (ax w);have lM:∀(ls:List Int){D:List Ce}{ag:Nat},D=ls.map Ce.i->ag=ls.length->0<ls.length/\ls.length<=100->∀{ak:Int->E->Prop},(∀u n,BS [i.size,f.size,d.size,m.size] b c m (P+4) n->vL ([i.size,f.size,d.size,m.size]++a) m n N q x.1 C->Le (bH (q.D::([i.size,f.size,d.size,m.size]++a)) H) (bH (q.D::([i.size,f.size,d.size,m.size]++a)) n)->(∀s,af n i.size s=af (H.push (.cells (bt D) aA)) i.size s)->(∀s,af n f.size s=af (H.push (.cells (bt D) aA)) f.size s)->ak u n)->
  aN cq 39 [vp b 0,O.v (.mk H.size 0 ag ag)] (H.push (.cells (bt D) aA)) λai n=>eF [i.size,f.size,d.size,m.size] (H.push (.cells (bt D) aA)) n/\∃u:Int,ai=vi u/\ak u n:=λls{D ag} h1 h2 h3{ak} hk=>by
  have x:=J.push H (.cells (bt D) aA)
  have L:=j.to (x.fz _) (j.s.r.ext x)
  exact(yo j.s V ls h1 h2 h3).mono λ_ n⟨u,e,_,aS,p⟩=>⟨(L.lw F λ_ o=>o).dq p,u,e,hk u n (L.to p aS.r) (W U ((x.fz _).trans p)) (az ((x.fz _).trans p)) (v L p) (Y L p)⟩
 refine⟨λ_=>?_,λ_=>⟨λ_=>?_,λ_=>⟨λ_=>?_,λ_=>⟨λ_=>?_,λ_=>?_⟩⟩⟩⟩
 .refine(qP j.s.r V (r.le (bA _ _)) (oh G.cR)).mono λ_ ab⟨T,I,e,al,aF,_,aj,t⟩=>⟨(j.lw F λ_ o=>o).dq t,T,e,v j t _,v j t _,v j t _,v j t _,Y j t _,?_⟩;exact done (aE:=⟨g.1.params,I,g.1.aT,g.1.ak,g.1.dp⟩) (j.to t aj) (W U t) ⟨ac,T,g.2,rfl,ha.le (az t),GI.done (GI.any al) lq (by have:=G.cR;show I.length<=_;omega),(W U t).dp (aq A) G.oJ⟩ V
 .have x:=(J.push H (.cells (bt [.i 0,.i 1,.i (cO (g.1.ak+1)),.i 2001,.i (-1)]) aA)).fz [b];exact⟨v j x _,v j x _,v j x _,v j x _,Y j x _,lM [0,1,cO (g.1.ak+1),2001,-1] rfl rfl aL λu n b' K le I e4=>⟨I _,I _,I _,I _,e4 _,done (aE:=⟨g.1.params,g.1.cR,g.1.aT,u,g.1.dp⟩) b' K ⟨ac,h,g.2,rfl,ha.le le,r.le le,K.dp (aq A) G.oJ⟩ V⟩⟩
 .have x:=(J.push H (.cells (bt [.i 0,.i 1,.i 9]) aA)).fz [b];have cl:=am.len;have cc:=am.cap;have c0:=G.iZ;have cf:=G.oJ;have ew:cO ((g.2.len:Int) -1)=((g.2.len -1:Nat):Int):=by rw[aP V V];omega
  rw[ew];refine⟨dw 0,V,V,v j x _,v j x _,v j x _,v j x _,v j x _,Y j x _,lM [0,1,9] rfl rfl aL λu n b' K le I e4=>⟨I _,I _,I _,I _,I _,e4 _,done (aE:=⟨g.1.params,g.1.cR,u,g.1.ak,g.1.dp.take (g.2.len -1)⟩) b' K ⟨ac,h,g.2.cut 0 (g.2.len -1) 6,rfl,ha.le le,r.le le,eT.TB (K.dp (aq A) G.oJ) V⟩ V⟩⟩
 .refine(JV ax (by simp[aa]) j.s.r V).mono λ_ ab⟨T,I,e,hd,aj,t⟩=>⟨(j.lw F λ_ o=>o).dq t,T,e,Y j t _,?_⟩;exact iH (ar:=(I,_)) (j.to t aj) ⟨hd,((W U t).it V cl).2⟩ V
 .have aW:=am.len;have aU:=G.iZ;refine j.pick F V (λ_ o=>o) (g.2.len:Int) λaR ab j0 j1 L t=>?_;have I:=W U t;obtain⟨-,-,-,-,-,-,aG,-,-⟩:=I.iD V A;let⟨ar,hz⟩:=cG g.1.dp aR.toNat;let⟨a',jj,aH,hj,e0,e1,e2,e3,e4,e5⟩:=(I.dp (aq A) G.oJ).aG hz;have gJ:∀{h s:Nat}{ai:Value},af (bH (q.D::([i.size,f.size,d.size,m.size]++a)) ab) h s=some ai->af ab h s=some ai:=λo=>(eQ.1 o).2;refine⟨f0,V,g.2,aG,j0,V,_,gJ e0,_,gJ e1,_,gJ e2,_,gJ e3,_,gJ e4,_,gJ e5,?_⟩;have hZ:∀w∈q.D::(Ks C++([i.size,f.size,d.size,m.size]++a)),w<ab.size:=λw R=>by
   rcases List.mem_cons.1 R with e|e
   .rw[e];exact I.g.bh.2
   .rcases List.mem_append.1 e with e|e
    .obtain⟨X,hw,rfl⟩:=List.mem_map.1 e;exact(I.c X hw).bh.2
    .exact I.lt w e
  refine(Hd hZ L.s.r V (aH.le (bA _ _)) (hj.le (bA _ _)) (G.iP ar (aq hz))).mono λ_ aY⟨z',a2,j2,e,aI,aM,_,aT,K⟩=>⟨(L.lw F λ_ o=>o).dq K,_,_,_,_,_,_,e,?_⟩;have aj:=W I K;have al:=L.to K aT;let⟨X,aF⟩:=aj.wr al.s.f A (aw hz) (cs:=[.i z'.op,.i z'.dst,.i z'.bQ,.i z'.bZ,.s a2,.s j2]) (y:=z') ⟨a2,j2,rfl,aI,aM⟩;have yc:=(aj.c g (aq A)).bh;have yq:=I.g.bh;refine⟨kg K F yq _,Y L K _,j0,V,X,λh r=>bd _ _ _ _ λe=>(aj.nc g (aq A)) (by rw[<-e];exact bJ _ r),iH ⟨al.s.put Z yc.1 _ _,λw R=>by rw[av];exact al.gJ w R⟩ (aF.it bF λX hw=>?_) V⟩;rcases cA hw with e|e
  .exact cl X e
  .rw[e];simpa using G.oJ
def JW(f:∀d∈a,d<m.size)(l:b∈a)(d:Rd b c P m)(K:P+2000+4*(300+40*Cg 18)<=10^16):aN cq 53 [vp b 0] m (PP IT Tr a b c m (P+50+4*(300+40*Cg 18))):=by
 apply CF (b,0);simp -zeta only[aD,aC];have e:=d.lt;intro g;have z1:g.size=m.size+1:=by simp[g]
 obtain⟨b1,-⟩:BS [m.size] b c m P g/\True:=⟨(BS.lM (S:=a) d _).1,trivial⟩;clear_value g;refine b1.call (S:=a) e (λ_ h=>h) (IE (b1.hS f) (by simp[l]) b1.s.r V) λH Q R o r t2 b2 I=>?_;intro y p;obtain⟨b4,w,-⟩:=b2.box (S:=a) (m1:=y) (m2:=p) rfl rfl rfl;clear_value p;have C:=IT.mn _ _ _ _ _ w t2;have k:b∈[o.size,m.size]++a:=by simp[l]
 refine b4.pick e V (λ_ h=>h) 4 λL M _ _ b5 u=>?_;have q:=IT.mn _ _ _ _ _ (BS.le l u) C;refine⟨λ_=>?_,λ_=>b5.call (S:=a) e (λ_ h=>h) (uT (b5.hS f) k b5.s.r V q r 14) λt B G z F n j v=>j.iH IT.mn d aL n trivial V _⟩;refine b5.call (S:=a) e (λ_ h=>h) (Iu (b5.hS f) k b5.s.r V q r) λs A T N E D b6 J=>?_;intro O;let⟨i,x⟩:=b6.put (S:=a) d (by simp:o.size∈_) [.s s,.s A];exact i.call (S:=a) e (λ_ h=>h) (uT (i.hS f) k i.s.r V (IT.mn _ _ _ _ _ x D) E 14) λt B G z F n j v=>j.iH IT.mn d aL n trivial V _
end
end
section
variable{a:Nat}{c:bN}{l:List Int}{x:O}{K:O->E->Prop}{i:Int}
def Na(l r:List Ce)(o:Nat)(c:Ce)(h:l.length<=o):(l++r).set o c=l++r.set (o -l.length) c:=by
 rw[XK _ _ h]
def lF:∀(a l r:List Ce)(o:Nat),l.length<=o->je (l++r) o a=l++je r (o -l.length) a
 |[],l,r,o,_=>rfl
 |c::a,l,r,o,h=>by
  simp only[je];rw[Na _ _ _ _ h,lF a l _ (o+1) V];congr 2;omega
def DL:∀(a l r:List Ce)(o:Nat),o+a.length<=l.length->je (l++r) o a=je l o a++r
 |[],l,r,o,_=>rfl
 |c::a,l,r,o,h=>by
  simp only[aZ]at h;simp only[je];rw[MA _ _ V,DL a _ _ (o+1) bF]
def Cm{f:Nat}:∀(b:List (List Ce))(a:Nat)(e:List Ce)(o:Nat)(d:List Ce),(∀c∈b,c.length=f)->b[a]? =some e->o+d.length<=f->je b.flatten (a*f+o) d=(b.set a (je e o d)).flatten
 |[],a,e,o,d,_,h,_=>by simp at h
 |x::b,0,e,o,d,g,h,j=>by
  simp at h;subst h;have i:=g x bg;rw[jF,QE,bT,DL _ _ _ _ V,iB,jF]
 |x::b,a+1,e,o,d,g,h,j=>by
  have i:=g x bg;rw[jF,lF _ _ _ _ (by rw[i,gQ];omega),jt,jF];have k:(a+1)*f+o -x.length=a*f+o:=by rw[i,gQ];omega
  rw[k,Cm b a e o d (λc l=>g c (ai _ l)) (by simpa using h) j]
def _root_.Go.Vc.gS.set{α:Type}{e:Nat}{R:List Ce->α->Prop}{f:List (List Ce)}{l:List α}(h:gS e R f l)(a:Nat){cs:List Ce}{x:α}(m:cs.length=e)(n:R cs x):gS e R (f.set a cs) (l.set a x):=by
 refine⟨by simp[h.len],λc b=>?_,λk c y b d=>?_⟩
 .rcases cA b with b|b
  .exact h.size c b
  .rw[b];exact m
 .by_cases j:k=a
  .subst j;have g:=aw b;have i:=aw d;simp at g i;rw[dx g]at b;rw[dx i]at d;simp at b d;subst b;subst d;exact n
  .rw[cr (λg=>j g.symm)]at b d;exact h.dz k c y b d
def _root_.Go.Vc.gS.take{α:Type}{e:Nat}{R:List Ce->α->Prop}{b:List (List Ce)}{l:List α}(h:gS e R b l)(n:Nat):gS e R (b.take n) (l.take n):=by
 refine⟨by simp[h.len],λc a=>h.size c (dA a),λj c y a d=>?_⟩;have f:=aw a;simp at f;rw[dI V]at a d;exact h.dz j c y a d
def FV{b:Nat}:∀(a:List (List Ce))(n:Nat),(∀c∈a,c.length=b)->a.flatten.take (n*b)=(a.take n).flatten
 |[],n,_=>aL
 |x::a,0,_=>aL
 |x::a,n+1,h=>by
  have d:=h x bg;rw[jF,List.take_append,nG (by rw[d,gQ];omega),Ns,jF];have e:(n+1)*b -x.length=n*b:=by rw[d,gQ];omega
  rw[e,FV a n λc f=>h c (ai _ f)]
section
variable{N:Nat}{d:Nat->Nat}{m:E}{b:O}{h:List bN}
def dL.len(e:dL N d m b h):b.len=h.length:=by
 obtain⟨f,c,a,_⟩:=e;have:=c.len;rw[cw a.size,a.len]at this;omega
def dL.cp(q:dL N d m b h)(e:h[a]? =some c):∃f,af m b.D (b.off+a*3)=some (vi c.aQ)/\af m b.D (b.off+a*3+1)=some (vi c.kj)/\af m b.D (b.off+a*3+2)=some (O.v f)/\ap m f c.aF/\FN N d m f c.aF:=by
 obtain⟨l,o,g,_⟩:=q;let⟨k,j⟩:=cG l a (by rw[g.len];exact aw e);obtain⟨f,rfl,p,n⟩:=g.dz a k c j e;have r:=λi c e=>o.iD (a*3+i) c (fY g.size j e);exact⟨f,r 0 (.i c.aQ) rfl,r 1 (.i c.kj) rfl,r 2 (.s f) rfl,p,n⟩
def dL.cells(g:dL N d m b h)(t:h.length<=9223372036854775807):cW m b h:=by
 have r:=g.len;obtain⟨n,e,a,_⟩:=g;refine⟨r,e.le,V,λk x j=>?_⟩;let⟨l,f⟩:=cG n k (by rw[a.len];exact aw j);obtain⟨o,rfl,q,s⟩:=a.dz k l x f j;refine⟨_,⟨o,rfl,q⟩,λi c p=>?_⟩;have:=e.iD (k*3+i) c (fY a.size f p);rwa[<-di]at this
def dL.wr(g:dL N d m b h){a o n:Nat}(f:a<h.length)(j:o+n<=3):fL m b.D (b.off+a*3+o) n:=by
 obtain⟨i,e,c,_⟩:=g;rw[di];exact e.wr (by rw[cw c.size,c.len];have:(a+1)*3<=h.length*3:=dg _ f;omega)
def dL.D(e:dL N d m b h){a:Nat}(i:a<h.length):d b.D=3/\b.D<m.size:=by
 have j:=e.len;obtain⟨f,c,g,_⟩:=e;have:=c.le;have:=c.D V;exact⟨this.2,this.1⟩
def Rr(N:Nat)(d:Nat->Nat)(m:E)(b:O)(h:List bN)(f:O)(l:List Int):Prop:=
 l≠[]->(d f.D=0/\N<=f.D/\FB m f l)/\∀(i:Nat)(g:O),i<h.length->af m b.D (b.off+i*3+2)=some (O.v g)->g.len≠0->g.D≠f.D
def FB.gD{b:E}{f:O}(h:gY b m aA 1 f (l.map Ce.i))(d:l≠[]):b.size<=f.D/\FB m f l:=by
 rcases h.aG with e|⟨g,c,tail,e,h2,h3,_,_⟩
 .have a:=h.len;rw[e,dY,O.OT,QE]at a;exact absurd (List.length_eq_zero_iff.1 a) d
 .rw[e];exact⟨h2,c,tail,rfl,h3⟩
def Rr.of{a:E}{w:Nat->Nat}{f:O}(q:dL N w a b h)(s:0<h.length->m[b.D]? =a[b.D]?)(u:l≠[]->gY a m aA 1 f (l.map Ce.i))(k:l≠[]->d f.D=0)(A:N<=a.size):Rr N d m b h f l:=λe=>by
 let⟨z,n⟩:=FB.gD (u e) e;refine⟨⟨k e,V,n⟩,λi x r g p=>?_⟩;let⟨c,o⟩:=dB r;obtain⟨y,_,_,v,kf,_⟩:=q.cp o;rw[aE (s V),v]at g;have:=O.BR.1 (jN g);subst this;have t:c.aF≠[]:=λj=>by have:=kf.len;rw[j]at this;simp at this;exact p this
 have:=iI kf t;omega
def dL.put(L:dL N d m b h)(Z:∀g,m.size<=g->d g=0){o:Nat}{p:bN}(I:h[a]? =some c){new:List Ce}(ho:o+new.length<=3)
 (W:∀r,ap m r c.aF->FN N d m r c.aF->∃f,je [.i c.aQ,.i c.kj,.s r] o new=[.i p.aQ,.i p.kj,.s f]/\ap m f p.aF/\FN N d m f p.aF/\(f=r\/Rr N d m b h f p.aF)):
 dL N d (ah m b.D (b.off+a*3+o) new) b (h.set a p)/\dm (λk=>k=3) d m d (ah m b.D (b.off+a*3+o) new):=by
 have B:=aw I
 have V:=L.D B
 have J:dm (λk=>k=3) d m d (ah m b.D (b.off+a*3+o) new):=dm.ah Z V.1 _ _
 let⟨v,E,n,F⟩:=L
 let⟨S,w⟩:=cG v a (by rw[n.len];exact B)
 obtain⟨r,rfl,X,T⟩:=n.dz a S c w I
 let⟨f,D,K,U,hd⟩:=W r X T
 have Q:∀(j:Nat)(q:List Ce)(g:O),v[j]? =some q->q[2]? =some (.s g)->j≠a->f.len≠0->g.len≠0->f.D≠g.D:=λj q g e H Y s t=>by
  rcases hd with rfl|hd
  .exact F a j _ q f g w e rfl H (λl=>Y l.symm) s t
  .have u:p.aF≠[]:=λl=>by have:=K.len;rw[l]at this;simp at this;exact s this
   refine kG ((hd u).2 j g (by rw[<-n.len];exact aw e) ?_ t);have:=E.iD (j*3+2) _ (fY n.size e H);rwa[<-di]at this
 refine⟨⟨v.set a (je [.i c.aQ,.i c.kj,.s r] o new),?_,?_,?_⟩,J⟩
 .rw[<-Cm v a _ o new n.size w ho,di]
  exact E.set (by rw[cw n.size,n.len];have:(a+1)*3<=h.length*3:=dg _ B;omega)
 .rw[D]
  exact(n.set a rfl ⟨f,rfl,K,U⟩).mono (yg.eH J bn)
 .rw[D]
  have G:=aw w
  intro i j C q x R u e z A y s t
  by_cases M:i=a
  .subst M
   rw[dx G]at u
   rw[cr y]at e
   simp at u;subst u
   simp at z;subst z
   exact Q j q R e A (λl=>y l.symm) s t
  .rw[cr (λl=>M l.symm)]at u
   by_cases P:j=a
   .subst P
    rw[dx G]at e
    simp at e;subst e
    simp at A;subst A
    exact kG (Q i C x u z y t s)
   .rw[cr (λl=>P l.symm)]at e
    exact F i j C q x R u e z A y s t
def dL.rG(j:dL N d m b h)(k:∀e,m.size<=e->d e=0)(g:h[a]? =some c)(n:Int):
 dL N d (ah m b.D (b.off+a*3) [.i n]) b (h.set a {c with aQ:=n})/\dm (λe=>e=3) d m d (ah m b.D (b.off+a*3) [.i n]):=
 j.put k g (o:=0) (new:=[.i n]) aL λf i e=>⟨f,rfl,i,e,Or.inl rfl⟩
def dL.setCell(k:dL N d m b h)(q:∀e,m.size<=e->d e=0)(g:a<h.length)(n t:Int){f:O}(j:ap m f l)(e:Rr N d m b h f l):
 dL N d (ah m b.D (b.off+a*3) [.i n,.i t,.s f]) b (h.set a ⟨n,t,l⟩)/\dm (λi=>i=3) d m d (ah m b.D (b.off+a*3) [.i n,.i t,.s f]):=by
 let⟨c,i⟩:=dB g
 exact k.put q i (o:=0) (new:=[.i n,.i t,.s f]) aL λr u s=>⟨f,rfl,j,λp=>(e p).1,Or.inr e⟩
def dL.cut(j:dL N d m b h){n:Nat}(v:n<=h.length):dL N d m (b.cut 0 n 3) (h.take n):=by
 have u:=j.len;let⟨f,q,g,r⟩:=j;refine⟨f.take n,by rw[<-FV f n g.size];exact q.cut V,g.take n,λi k o p a l c e=>?_⟩;have s:i<n:=by have:=aw c;simp at this;omega
 have t:k<n:=by have:=aw e;simp at this;omega
 rw[dI s]at c;rw[dI t]at e;exact r i k o p a l c e
def dL.push(F:dL N d m b h)(Q:∀c,m.size<=c->d c=0)(S:x.len=1){p t:Int}{f:O}(R:fR m x.D x.off [.i p,.i t,.s f])(E:ap m f l)(C:Rr N d m b h f l)(W:h.length<=2000000000)
 (M:∀z y w,dL N z w y (h++[⟨p,t,l⟩])->dm (λk=>k=3) d m z w->K y w):jO m lZ [.i (0:Int),.i (0:Int),.s O.nil] 40 b x K:=by
 have U:=F.len
 let⟨k,D,A,J⟩:=F
 refine iJ.append (zs:=[.i 0,.i 0,.s .nil]) (c:=[.i p,.i t,.s f]) D Q (by simp[S]) R V λz y w T H=>M z y w ⟨k++[[.i p,.i t,.s f]],by simpa using T,(A.yV (cs:=[.i p,.i t,.s f]) (x:=⟨p,t,l⟩) rfl ⟨f,rfl,E,λe=>(C e).1⟩).mono (yg.eH H bn),?_⟩ H
 have G:∀(o:Nat)(q:List Ce)(c:O),k[o]? =some q->q[2]? =some (.s c)->f.len≠0->c.len≠0->f.D≠c.D:=λo q c v s e n=>by
  have P:l≠[]:=λI=>by have:=E.len;rw[I]at this;simp at this;exact e this
  refine kG ((C P).2 o c (by rw[<-A.len];exact aw v) ?_ n);have:=D.iD (o*3+2) _ (fY A.size v s);rwa[<-di]at this
 have MW:∀{i:Nat}{j:List Ce}{a:O},(k++[[.i p,.i t,.s f]])[i]? =some j->j[2]? =some (.s a)->k[i]? =some j\/(i=k.length/\a=f):=λ{i j a} g r=>by
  rcases aW i k.length with e|e
  .rw[ax e]at g;exact Or.inl g
  .rw[aJ e]at g;have n:i -k.length=0:=by have:=aw g;simp at this;omega
   rw[n]at g;simp at g;subst g;simp at r;exact Or.inr ⟨V,r.symm⟩
 intro i o j q a c g v r s L e n
 rcases MW g r with B|⟨B,rfl⟩
 .rcases MW v s with u|⟨u,rfl⟩
  .exact J i o j q a c B u r s L e n
  .exact kG (G i j a B r n e)
 .rcases MW v s with u|⟨u,rfl⟩
  .exact G o q c u s e n
  .omega
end
structure th(ro:Nat->Nat)(m:E)(fr:O)(fs:List aY)(f:aY)(r o h:O)(css:List (List Ce)):Prop where
 qt:iJ ro m dP 6 4 fr (css.flatten++[.i f.fG,.i f.pc,.i f.dst,.s r,.s o,.s h])
 len:css.length=fs.length
 size:∀cs∈css,cs.length=6
 dz:∀(i:Nat)(cs:List Ce)(g:aY),css[i]? =some cs->fs[i]? =some g->Td ro m i cs g
 ak:iJ ro m aA 1 (10+3*fs.length) r (f.ak.map Ce.i)
 aR:iJ ro m aA 1 (11+3*fs.length) o (f.aR.map Ce.i)
 ba:iJ ro m aA 1 (12+3*fs.length) h (f.ba.map Ce.i)
section
variable{d n:Nat->Nat}{m k:E}{b:O}{a:List aY}{f:aY}{r e h:O}{j:List (List Ce)}
def nJ.fW(n:nJ d m b (a++[f])):∃r e h j,th d m b a f r e h j:=by
 let⟨j,u,l,v,p⟩:=n;have o:j≠[]:=λc=>by rw[c]at l;simp at l
 have c:j=j.dropLast++[j.getLast o]:=(ft o).symm;generalize j.dropLast=c0 at c;generalize j.getLast o=cl at c;subst c;have t:c0.length=a.length:=by simpa using l
 obtain⟨r,e,h,rfl,y,x,n⟩:=p a.length cl f (by rw[aJ V];simp[t]) aL;refine⟨r,e,h,c0,by simpa using u,t,λk w=>v k (by simp[w]),λi k g q s=>p i k g ?_ ?_,y,x,n⟩
 .rw[ax (aw q)];exact q
 .rw[ax (aw s)];exact s
def th.tf(T:th d m b a f r e h j):nJ d m b (a++[f]):=by
 refine⟨j++[[.i f.fG,.i f.pc,.i f.dst,.s r,.s e,.s h]],by simpa using T.qt,by simp[T.len],λl c=>?_,λi l o g k=>?_⟩
 .rcases List.mem_append.1 c with c|c
  .exact T.size l c
  .simp at c;subst c;rfl
 .rcases aW i a.length with n|n
  .rw[ax (by rw[T.len];exact n)]at g;rw[ax n]at k;exact T.dz i l o g k
  .have p:i=a.length:=by have:=aw k;simp at this;omega
   subst p;rw[aJ (by rw[T.len];omega)]at g;simp[T.len]at g k;subst g;subst k;exact⟨r,e,h,rfl,T.ak,T.aR,T.ba⟩
def th.yh(T:th d m b a f r e h j):b.len=a.length+1:=by
 have:=T.qt.len;simp only[be,cw T.size,T.len,aZ,eW]at this;omega
def th.iD(T:th d m b a f r e h j):af m b.D (b.off+a.length*6)=some (vi f.fG)/\af m b.D (b.off+a.length*6+1)=some (vi f.pc)/\af m b.D (b.off+a.length*6+2)=some (vi f.dst)/\
 af m b.D (b.off+a.length*6+3)=some (O.v r)/\af m b.D (b.off+a.length*6+4)=some (O.v e)/\af m b.D (b.off+a.length*6+5)=some (O.v h):=by
 have l:j.flatten.length=a.length*6:=by rw[cw T.size,T.len]
 have g:=λ(i:Nat)(c:Ce)(k:[Ce.i f.fG,Ce.i f.pc,Ce.i f.dst,Ce.s r,Ce.s e,Ce.s h][i]? =some c)=>T.qt.iD (a.length*6+i) c (by rw[aJ V,l,Hw];exact k)
 exact⟨g 0 (.i f.fG) rfl,g 1 (.i f.pc) rfl,g 2 (.i f.dst) rfl,g 3 (.s r) rfl,g 4 (.s e) rfl,g 5 (.s h) rfl⟩
def th.eH{p:Nat->Prop}(T:th d m b a f r e h j)(c:dm p d m n k)(g:∀l,(l=4\/10<=l)->¬p l):th n k b a f r e h j:=
 ⟨T.qt.eH c (g _ V),T.len,T.size,λi o q s t=>(T.dz i o q s t).eH c λl u _=>g l V,T.ak.eH c (g _ V),T.aR.eH c (g _ V),T.ba.eH c (g _ V)⟩
def th.ext(T:th d m b a f r e h j)(g:∀c,m.size<=c->d c=0)(c:J m k):th d k b a f r e h j:=T.eH (dm.eG (λ_=>False) c g) λ_ _=>id
def th.yp{p:Nat->Prop}(T:th d m b a f r e h j)(s:dm p d m n k)(t:∀c,10<=c->c<10+3*a.length->¬p c):∀(i:Nat)(g:List Ce)(l:aY),j[i]? =some g->a[i]? =some l->Td n k i g l:=λi g l q o=>
 (T.dz i g l q o).eH s λc u _=>t c V (oh (aw o))
def th.Az(T:th d m b a f r e h j)(p:∀c,m.size<=c->d c=0)(n:0<=i)(g:i<f.ak.length)(v:Int):
 th d (ah m r.D (r.off+i.toNat*1) [.i v]) b a {f with ak:=gT f.ak i v} r e h j/\dm (λk=>4<=k/\k≠9) d m d (ah m r.D (r.off+i.toNat*1) [.i v]):=by
 have o:r.cap≠0:=λl=>by have:=(T.ak.DA l).1;simp at this;rw[this]at g;simp at g;omega
 have c:dm (λk=>k=10+3*a.length) d m d (ah m r.D (r.off+i.toNat*1) [.i v]):=dm.ah p (T.ak.D o).2 _ _
 exact⟨⟨T.qt.eH c V,T.len,T.size,T.yp c λk _ q=>V,T.ak.gT n g v,T.aR.eH c V,T.ba.eH c V⟩,c.mono λk q=>V⟩
def th.pV(T:th d m b a f r e h j)(p:∀c,m.size<=c->d c=0)(n:0<=i)(g:i<f.aR.length)(v:Int):
 th d (ah m e.D (e.off+i.toNat*1) [.i v]) b a {f with aR:=gT f.aR i v} r e h j/\dm (λk=>4<=k/\k≠9) d m d (ah m e.D (e.off+i.toNat*1) [.i v]):=by
 have o:e.cap≠0:=λl=>by have:=(T.aR.DA l).1;simp at this;rw[this]at g;simp at g;omega
 have c:dm (λk=>k=11+3*a.length) d m d (ah m e.D (e.off+i.toNat*1) [.i v]):=dm.ah p (T.aR.D o).2 _ _
 exact⟨⟨T.qt.eH c V,T.len,T.size,T.yp c λk _ q=>V,T.ak.eH c V,T.aR.gT n g v,T.ba.eH c V⟩,c.mono λk q=>V⟩
def th.xu(T:th d m b a f r e h j)(p:∀c,m.size<=c->d c=0)(n:0<=i)(g:i<f.ba.length)(v:Int):
 th d (ah m h.D (h.off+i.toNat*1) [.i v]) b a {f with ba:=gT f.ba i v} r e h j/\dm (λk=>4<=k/\k≠9) d m d (ah m h.D (h.off+i.toNat*1) [.i v]):=by
 have o:h.cap≠0:=λl=>by have:=(T.ba.DA l).1;simp at this;rw[this]at g;simp at g;omega
 have c:dm (λk=>k=12+3*a.length) d m d (ah m h.D (h.off+i.toNat*1) [.i v]):=dm.ah p (T.ba.D o).2 _ _
 exact⟨⟨T.qt.eH c V,T.len,T.size,T.yp c λk _ q=>V,T.ak.eH c V,T.aR.eH c V,T.ba.gT n g v⟩,c.mono λk q=>V⟩
def th.D(T:th d m b a f r e h j):d b.D=4/\b.D<m.size:=by
 have:=T.yh;have:=T.qt.le;have:=T.qt.D V;exact⟨this.2,this.1⟩
def th.Oa(T:th d m b a f r e h j)(i:∀c,m.size<=c->d c=0)(v:Int):
 th d (ah m b.D (b.off+a.length*6+1) [.i v]) b a {f with pc:=v} r e h j/\dm (λk=>4<=k/\k≠9) d m d (ah m b.D (b.off+a.length*6+1) [.i v]):=by
 have c:dm (λk=>k=4) d m d (ah m b.D (b.off+a.length*6+1) [.i v]):=dm.ah i T.D.1 _ _
 refine⟨⟨?_,T.len,T.size,T.yp c λk l n=>V,T.ak.eH c V,T.aR.eH c V,T.ba.eH c V⟩,c.mono λk p=>V⟩
 have g:j.flatten.length=a.length*6:=by rw[cw T.size,T.len]
 have:=T.qt.set (o:=a.length*6+1) (new:=[.i v]) (by simp[g])
 rw[lF _ _ _ _ V,g,Hw]at this
 rw[di];exact this
def th.Vp(T:th d m b a f r e h j):fL m b.D (b.off+a.length*6+1) 1:=by
 rw[di];exact T.qt.wr (by simp only[be,cw T.size,T.len,aZ,eW];omega)
end
def nJ.Vj{d:Nat->Nat}{m:E}{c:O}{a:List aY}{f:aY}(e:nJ d m c (a++[f])):nJ d m (c.cut 0 a.length 6) a:=by
 let⟨r,o,h,b,T⟩:=e.fW;have g:b.flatten.length=a.length*6:=by rw[cw T.size,T.len]
 have:=T.qt.cut (n:=a.length) (by rw[T.yh];omega);rw[ny V,nG V]at this;exact⟨b,this,T.len,T.size,T.dz⟩
def nJ.push{d:Nat->Nat}{m:E}{l:O}{b:List aY}(D:nJ d m l b)(F:∀a,m.size<=a->d a=0)(H:x.len=1){a:aY}{c j g:O}(G:fR m x.D x.off [.i a.fG,.i a.pc,.i a.dst,.s c,.s j,.s g])
 (y:iJ d m aA 1 (10+3*b.length) c (a.ak.map Ce.i))(z:iJ d m aA 1 (11+3*b.length) j (a.aR.map Ce.i))(A:iJ d m aA 1 (12+3*b.length) g (a.ba.map Ce.i))(N:b.length<=1000000)
 (n:∀k c e,nJ k e c (b++[a])->dm (λp=>p=4) d m k e->K c e):jO m dP [.i (0:Int),.i (0:Int),.i (0:Int),.s O.nil,.s O.nil,.s O.nil] 96 l x K:=by
 let⟨v,q,s,t,J⟩:=D
 have M:l.len=b.length:=by have:=q.len;rw[cw t,s]at this;omega
 refine iJ.append (zs:=[.i 0,.i 0,.i 0,.s .nil,.s .nil,.s .nil]) (c:=[.i a.fG,.i a.pc,.i a.dst,.s c,.s j,.s g]) q F (by simp[H]) G V λk L e I p2=>n k L e ?_ p2
 exact th.tf (f:=a) (a:=b) (j:=v) (r:=c) (e:=j) (h:=g) ⟨by simpa using I,s,t,λi u w B C=>(J i u w B C).eH p2 λp n _=>V,y.eH p2 V,z.eH p2 V,A.eH p2 V⟩
end
section
variable{m:E}{d:List bN}{g:Nat->Nat}{b k N j:Nat}{q r:List Int}{c:bN}{i:Int}{e:Nat->Int}
def zY:∀(d:List bN)(k:Nat),k<=d.length->(∀c∈d.take k,c.aQ≠0)->k<=dF d
 |[],k,a,_=>by simp at a;simp[a]
 |c::d,0,_,_=>dH _
 |c::d,k+1,a,b=>by
  have f:=b c aL;have:=zY d k (by simpa using a) (λe hd=>b e (by simp[hd]));simp only[dF];rw[ae f];omega
def HQ:∀(d:List bN)(k:Nat)(c:bN),(∀b∈d.take k,b.aQ≠0)->d[k]? =some c->c.aQ=0->dF d=k
 |[],k,c,_,a,_=>by simp at a
 |b::d,0,c,_,a,e=>by simp at a;subst a;simp[dF,e]
 |b::d,k+1,c,f,a,e=>by
  have g:=f b aL;have:=HQ d k c (λx h=>f x (by simp[h])) (by simpa using a) e;simp only[dF];rw[ae g,this]
def GK{i:O}(g:cW m i d):HA cq 185 [O.v i] m (vi (dF d)):=by
 apply AW;have p:=g.len;refine dT (n:=d.length) (p▸g.gV) (λk a=>J m a/\∀c∈d.take k,c.aQ≠0) ⟨J.az _,aL⟩ ?_;rintro k t I μ o ⟨a,h⟩ q
 refine dit (λl=>?_) λl=>?_
 .let⟨c,f⟩:=cG d k;obtain⟨r,s,j,_⟩:=(cW.ext a g).aG f;refine⟨V,V,c.aQ,by simpa using j,λb=>⟨?_,a⟩,λb=>q V _ ⟨a,bB f h (by simpa using b)⟩⟩;rw[HQ d k c h f (by simpa using b)]
 .refine⟨?_,a⟩;have:=zY d k o h;have:=qE d;have e:(i.len:Int)=(dF d:Int):=V;rw[e]
def oA(g:Nat->Nat)(b k:Nat):Nat->Nat:=λc=>if c=b then k else g c
def fJ(g:Nat->Nat)(b k:Nat):oA g b k b=k:=an rfl
def eV{c:Nat}(d:c≠b):oA g b k c=g c:=ae d
def dm.oA{p:Nat->Prop}{m':E}(d:J m m')(e:∀b,m.size<=b->g b=0)(f:m.size<=b)(h:b<m'.size)(k:Nat):dm p g m (oA g b k) m':=
 ⟨d.size,λc a=>eV V,λc a=>by rw[eV V];exact e c (bI d.size a),λc a _=>d.same c a⟩
def Nl{s:O}(f:dL N g m s d)(p:∀b,m.size<=b->g b=0){c:Nat}(ha:c<=d.length)(w:Int){G:O}(T:ap m G q)(W:d.length<=2000000000)(L:q.length<=1000000000)(I:N<=m.size):
 aN cq 186 [O.v s,vi c,vi w,O.v G] m λZ S=>∃v M,Z=O.v M/\dL N v S M (jg d c ⟨1,w,q⟩)/\HC g m v S:=by
 apply IZ
 simp -zeta only[aD,aC]
 refine(gU T L).then L λE u o1 Q H=>⟨E,rfl,?_⟩
 intro X a
 have n:J u a:=((J.az u).aK _).ah (ad _) _ _
 have s3:a.size=u.size+1:=by simp[a,X,av]
 have t:=H.trans n
 clear_value a
 have y:HC g m g a:=dm.eG _ t p
 have C:=y.new
 have A:dL N g a s d:=f.eH (dm.eG (λ_=>False) t p) id id
 have aa:=f.len
 have R:=Q.ext n
 have P:q≠[]->g E.D=0:=λU=>by
  rcases o1.D with e|e
  .subst e;have:=Q.len;simp at this;exact absurd (List.length_eq_zero_iff.1 this.symm) U
  .exact p _ e
 have K:g u.size=0:=p _ H.size
 refine⟨λe=>?_,λe=>?_⟩
 .simp at e
  intro h
  have i:J a h:=(J.az a).aK _
  have jw:fR h a.size 0 [.i 1,.i w,.s E]:=(cD.push a _ _).iD
  have F:HC g m g h:=y.trans (dm.eG _ i C)
  have s4:h.size=a.size+1:=by simp[h]
  clear_value h
  refine dL.push (A.eH (dm.eG (λ_=>False) i C) id id) F.new (x:=.mk a.size 0 1 1) rfl jw (R.ext i) (Rr.of f (λz=>(t.trans i).same _ (f.D z).2) (λ_=>o1.ext (n.trans i)) P I) W λv r Y D l=>⟨λb j=>?_,v,r,rfl,?_,F.trans (l.mono λk B=>Or.inl B)⟩
  .simp at j;subst j
   exact l.eA _ V (by rw[K];decide)
  .rw[jg,an V];exact D
 .simp at e
  have h:c<d.length:=V
  have i:Int.toNat (c:Int)=c:=V
  rw[i]
  refine⟨V,V,A.wr (o:=0) h bn,?_⟩
  intro Y
  let⟨D,l⟩:=A.setCell C h 1 w R (Rr.of f (λz=>t.same _ (f.D z).2) (λ_=>o1.ext n) P I)
  refine⟨λb j=>?_,g,s,rfl,?_,y.trans (l.mono λk B=>Or.inl B)⟩
  .simp at j;subst j
   exact l.eA _ V (by rw[K];decide)
  .rw[jg,ae V];exact D
def Mw(b:d[j]? =some c)(a:c.aQ≠0):jq d (j+1)=j+1:=by
 simp only[jq,b];rw[ae a]
def Qr(b:d[j]? =some c)(a:c.aQ=0):jq d (j+1)=jq d j:=by
 simp only[jq,b];rw[an a]
def xW{a:O}(b:cW m a d):aN cq 189 [O.v a] m λv n=>v=O.v (a.cut 0 (jq d d.length) 3)/\J m n:=by
 apply Kq;have w:=b.len;have t:=b.cap;have x:=b.gV;refine⟨λi n=>J m n/\∃j:Nat,i=j/\j<=d.length/\jq d j=jq d d.length,λi _=>i.toNat,⟨J.az _,d.length,V,ad _,rfl⟩,?_⟩;rintro i r ⟨l,j,rfl,y,o⟩;have iH:jq d j=j->Value.slice=Value.slice->(0:Int)<=(0:Int)/\(0:Int)<=(j:Int)/\(j:Int)<=(a.cap:Int)/\(O.v (O.cut a (Int.toNat (0:Int)) (Int.toNat (j:Int)) 3)=O.v (a.cut 0 (jq d d.length) 3)/\J m r):=λe _=>by
  refine⟨V,V,V,?_,l⟩;rw[<-o,e];rfl
 refine⟨λf=>?_,λf=>?_⟩
 .simp only[kH,ar]at f;obtain⟨k,rfl⟩:∃k,j=k+1:=⟨j -1,V⟩;have p:cO (((k+1:Nat):Int) -1)=(k:Int):=by rw[aP V V];omega
  rw[p];let⟨c,h⟩:=cG d k;obtain⟨s,u,q,_⟩:=(cW.ext l b).aG h;refine⟨V,V,c.aQ,by simpa using q,λg=>⟨⟨l,k,rfl,V,?_⟩,by show(k:Int).toNat<((k+1:Nat):Int).toNat;omega⟩,λg=>iH (Mw h (by simpa using g)) rfl⟩;rw[<-o,Qr h (by simpa using g)]
 .simp only[kH,bE]at f;have:j=0:=V;subst this;exact iH rfl rfl
def iJ.Vj{s:O}(d:iJ g m aA 1 k s ((q++[i]).map Ce.i)):s.len=q.length+1/\af m s.D (s.off+q.length*1)=some (vi i)/\iJ g m aA 1 k (s.cut 0 q.length 1) (q.map Ce.i):=by
 have a:s.len=q.length+1:=by have:=d.len;simp at this;omega
 refine⟨a,?_,?_⟩
 .have:=d.iD q.length (.i i) aL;rw[eR];exact this
 .have:=d.cut (n:=q.length) V;rw[eR,fu,ny aL,nG aL]at this;exact this
def fO.RF(h:fO d (λb=>e b+eB (i::r) b))(c:∀b,0<=e b)(a:gA d i)(f:(aM d i).aQ=1):fO (d.set (ix i) jd) (λb=>e b+eB ((aM d i).aF.reverse++r) b):=by
 let⟨g,j⟩:=bS a;refine fO.Q5 h g f ?_ bn bn rfl (by simp[jd]) (by simp[jd]) (λ_=>rfl) λb=>?_
 .simp only[iW a.1,an];have:=c (ix i);have:=iF r (ix i);omega
 .simp only[iW a.1,lU,An];omega
def fO.PN(c:fO d (λb=>e b+eB (i::r) b))(g:∀b,0<=e b)(f:gA d i)(j:(aM d i).aQ≠1):fO (fm d i) (λb=>e b+eB r b):=by
 let⟨a,h⟩:=bS f;have k:=(c.cell _ (aq a)).hi;refine fO.Kz c a h V V (λb=>?_) ?_
 .simp only[iW f.1];split<;>omega
 .have:=g (ix i);have:=iF r (ix i);omega
def fO.RE(a:fO d (λb=>e b+eB (i::r) b))(c:i<1000):fO d (λb=>e b+eB r b):=
 a.congr λb=>by simp only[eB];rw[ae V];omega
def fO.PM(f:fO d (λb=>e b+eB (i::r) b))(c:∀b,0<=e b)(a:1000<=i):gA d i:=
 ⟨a,f.lv _ (by simp only[iW a,an];have:=c (ix i);have:=iF r (ix i);omega)⟩
def Cr:List bN->Nat
 |[]=>0
 |c::d=>c.aF.length+Cr d
def zZ:∀{d:List bN}{e:Nat}{c:bN}(b:bN),d[e]? =some c->Cr (d.set e b)+c.aF.length=Cr d+b.aF.length
 |[],e,c,b,d=>by simp at d
 |g::d,0,c,b,f=>by simp at f;subst f;simp only[iB,Cr];omega
 |g::d,e+1,c,b,f=>by
  have:=zZ (d:=d) (e:=e) b (by simpa using f);simp only[jt,Cr];omega
def ON:∀{d:List bN},(∀c∈d,c.aF.length<=3)->Cr d<=3*d.length
 |[],_=>by simp[Cr]
 |c::d,a=>by
  have:=ON (λb hd=>a b (ai _ hd));have:=a c bg;simp only[Cr,aZ];omega
def GH{D:O}(hh:dL N g m D d)(hn:∀b,m.size<=b->g b=0){ws:O}(hw:ap m ws [i])(hI:fO d (λb=>e b+eB [i] b))(X:∀b,0<=e b)(aO:d.length<=2000000000):
 aN cq 143 [O.v D,O.v ws] m λaD v=>∃y al,aD=O.v al/\dL N y v al (nv (ic d [i]))/\HC g m y v:=by
 apply AU
 refine(gU hw aL).then aL λs M o1 i1 h1=>⟨s,rfl,?_⟩
 have ao:s≠.nil:=λe=>by subst e;have:=i1.len;simp at this
 have G:m.size<=s.D/\s.D<M.size:=by
  rcases o1.D with e|e
  .exact absurd e ao
  .rcases o1.lt with z|z
   .exact absurd z ao
   .exact⟨e,z⟩
 have c1:HC g m (oA g s.D 6) M:=dm.oA h1 hn G.1 G.2 6
 have a1:iJ (oA g s.D 6) M aA 1 6 s ([i].map Ce.i):=iJ.gD o1 λ_=>fJ _ _ _
 have ay:dL N (oA g s.D 6) M D d:=hh.eH (dm.oA (p:=λ_=>False) h1 hn G.1 G.2 6) id id
 have aH:=ON λc a=>(hI.cell c a).fl
 have aJ:=hh.len
 refine Pm (γ:=List bN×List Int) (λh E v=>∃y,dL N y v D h.1/\iJ y v aA 1 6 E (h.2.reverse.map Ce.i)/\HC g m y v/\fO h.1 (λb=>e b+eB h.2 b)/\ic h.1 h.2=ic d [i]/\h.1.length=d.length/\h.2.length+Cr h.1<=1+Cr d) (λh=>Cq h.1+h.2.length) (d,[i])
  ⟨_,ay,a1,c1,hI,rfl,rfl,aL⟩ ?_
 rintro⟨a,st⟩ E m2 aE μ ⟨q,A,a2,h,t,u,K,ae⟩ ab
 simp only[]at A a2 t u K ae
 have au:E.len=st.length:=by have:=a2.len;simp at this;omega
 refine⟨λS=>?_,λS=>?_⟩
 .simp only[kH,ar]at S
  cases st with
  |nil=>simp at au;omega
  |cons x r=>
   simp only[QB]at a2
   let⟨p1,p2,p3⟩:=a2.Vj
   simp only[aZ,mQ]at au p1 p2 p3 ae
   have e1:cO ((E.len:Int) -1)=(r.length:Int):=by rw[aP V V];omega
   have aF:=a2.le
   rw[e1]
   have z:Int.toNat (0:Int)=0:=rfl
   have e3:Int.toNat (r.length:Int)=r.length:=V
   rw[z,e3]
   refine⟨V,V,x,p2,V,V,V,(dV _ _).then λb P hb n=>⟨b,rfl,λax=>?_,λav=>?_⟩⟩
   .have hx:=hb.1 ax
    have C:=t.PM X hx
    let⟨j,am⟩:=bS C
    have ah:=aw j
    have aB:ix x=(x -1000).toNat:=rfl
    have aK:=(t.cell _ (aq j)).hi
    have e4:cO (x -1000)=x -1000:=aP V V
    rw[e4,<-aB]
    have H:HC q m2 q P:=dm.eG _ n h.new
    have Z:dL N q P D a:=A.eH (dm.eG (λ_=>False) n h.new) id id
    have a3:=p3.eH (dm.eG (λ_=>False) n h.new) id
    obtain⟨f0,g0,_,_,_,_⟩:=Z.cp j
    refine⟨V,V,_,g0,V,V,Z.wr (o:=0) ah bn,?_⟩
    have e5:cO ((aM a x).aQ -1)=(aM a x).aQ -1:=aP V V
    rw[e5]
    intro m4
    let⟨aa,c4⟩:=Z.rG H.new j ((aM a x).aQ -1)
    have a4:=a3.eH c4 bn
    have R:HC g m q m4:=(h.trans H).trans (c4.mono λk B=>Or.inl B)
    have W:=kA (d:=jd) j
    simp only[an am,jd]at W
    simp at W
    have aC:(a.set (ix x) {aM a x with aQ:=(aM a x).aQ -1})[ix x]? =some {aM a x with aQ:=(aM a x).aQ -1}:=eJ j
    obtain⟨f1,k0,_,k2,kf,kr⟩:=aa.cp aC
    refine⟨V,V,_,k0,λT=>?_,λT=>?_⟩
    .simp only[aI]at T
     have ak:(aM a x).aQ=1:=V
     have aG:=(t.cell _ (aq j)).fl
     have Y:=kf.len
     simp only[]at Y kf kr
     have I:=zZ jd j
     simp only[jd,eW]at I
     refine⟨V,V,f1,k2,iJ.append (zs:=[.i 0]) (c:=(aM a x).aF.map Ce.i) a4 R.new (by simp[Y]) kf.Im ?_ λac aR Q q1 q2=>?_⟩
     .have:(E.cut 0 r.length 1).len=r.length:=by have:=a4.len;simp at this;omega
      rw[this,Y];omega
     have az:=aa.eH q2 bn bn
     have F:HC g m ac Q:=R.trans (q2.mono λk B=>Or.inr (Or.inr B))
     intro m6
     have U:J Q m6:=(J.az Q).aK _
     have af:=az.eH (dm.eG (λ_=>False) U F.new) id id
     have a6:=q1.eH (dm.eG (λ_=>False) U F.new) id
     have ad:HC g m ac m6:=F.trans (dm.eG _ U F.new)
     clear_value m6
     have ai:ix x<(a.set (ix x) {aM a x with aQ:=(aM a x).aQ -1}).length:=by simpa using ah
     refine⟨V,V,af.wr (o:=0) ai bn,?_⟩
     intro m7
     let⟨ag,c7⟩:=af.setCell ad.new ai 0 0 (f:=.mk Q.size 0 0 0) (l:=[]) ⟨rfl,aL,aL,aL⟩ (λL=>absurd rfl L)
     rw[Xu]at ag
     refine ab (a.set (ix x) jd,(aM a x).aF.reverse++r) _ _ ⟨ac,ag,?_,ad.trans (c7.mono λk B=>Or.inl B),t.RF X C ak,?_,by simpa using K,?_⟩ ?_
     .have:=a6.eH c7 bn
      simpa using this
     .rw[<-td C ak];exact u
     .simp only[be,mQ]
      have B:Cr (a.set (ix x) jd)+(aM a x).aF.length=Cr a:=by simpa[jd]using I
      omega
     .simp only[be,mQ,aZ]
      have B:Cq (a.set (ix x) jd)+((aM a x).aQ.toNat+(aM a x).aF.length)=Cq a:=by simpa[jd]using W
      omega
    .simp only[aj]at T
     have L:(aM a x).aQ≠1:=V
     have B:=kA (d:={aM a x with aQ:=(aM a x).aQ -1}) j
     simp only[an am]at B
     rw[an V]at B
     have I:=zZ {aM a x with aQ:=(aM a x).aQ -1} j
     refine ab (fm a x,r) _ _ ⟨q,aa,a4,R,t.PN X C L,?_,by simpa[fm]using K,?_⟩ ?_
     .rw[<-qB C L];exact u
     .simp only[fm];simp only[]at I;omega
     .simp only[fm,aZ];omega
   .have hx:=fb hb av
    have H:HC q m2 q P:=dm.eG _ n h.new
    refine ab (a,r) _ _ ⟨q,A.eH (dm.eG (λ_=>False) n h.new) id id,p3.eH (dm.eG (λ_=>False) n h.new) id,h.trans H,t.RE V,?_,K,by simp only[];omega⟩ aL
    rw[<-qC (w:=x) (λj=>hx j.1)];exact u
 .simp only[kH,bE]at S
  have j:st=[]:=List.length_eq_zero_iff.1 V
  subst j
  rw[tc]at u
  subst u
  refine(xW (A.cells V)).mono ?_
  rintro _ P ⟨rfl,n⟩
  refine⟨_,rfl,q,_,rfl,?_,h.trans (dm.eG _ n h.new)⟩
  exact(A.eH (dm.eG (λ_=>False) n h.new) id id).cut (tY _ _)
end
section
variable{i:Int}
structure ST(m0:E)(ro:Nat->Nat)(m:E)(mb e:Nat)(bx:List Ce)(aS hp fr:O)(lo:List Int)(lh:List bN)(fs:List aY)(f:aY)(r o h:O)(css:List (List Ce)):Prop where
 cQ:vf m0 ro m mb e bx aS hp fr lo lh (fs++[f])
 fW:th ro m fr fs f r o h css
section
variable{g:E}{a t:Nat->Nat}{m s:E}{d e:Nat}{j:List Ce}{aS l b:O}{q:List Int}{n:List bN}{c:List aY}{f:aY}{r o h:O}{k:List (List Ce)}
def ST.ext(S:ST g a m d e j aS l b q n c f r o h k)(i:J m s):ST g a s d e j aS l b q n c f r o h k/\To a m a s:=
 ⟨⟨(S.cQ.ext i).1,S.fW.ext S.cQ.new i⟩,(S.cQ.ext i).2⟩
def ST.Az(S:ST g a m d e j aS l b q n c f r o h k){i:Int}(s:0<=i)(t:i<f.ak.length)(v:Int):ST g a (ah m r.D (r.off+i.toNat*1) [.i v]) d e j aS l b q n c {f with ak:=gT f.ak i v} r o h k/\To a m a (ah m r.D (r.off+i.toNat*1) [.i v]):=by
 let⟨p,u⟩:=S.fW.Az S.cQ.new s t v;let⟨w,x⟩:=S.cQ.jM u p.tf;exact⟨⟨w,p⟩,x⟩
def ST.pV(S:ST g a m d e j aS l b q n c f r o h k){i:Int}(s:0<=i)(t:i<f.aR.length)(v:Int):ST g a (ah m o.D (o.off+i.toNat*1) [.i v]) d e j aS l b q n c {f with aR:=gT f.aR i v} r o h k/\To a m a (ah m o.D (o.off+i.toNat*1) [.i v]):=by
 let⟨p,u⟩:=S.fW.pV S.cQ.new s t v;let⟨w,x⟩:=S.cQ.jM u p.tf;exact⟨⟨w,p⟩,x⟩
def ST.xu(S:ST g a m d e j aS l b q n c f r o h k){i:Int}(s:0<=i)(t:i<f.ba.length)(v:Int):ST g a (ah m h.D (h.off+i.toNat*1) [.i v]) d e j aS l b q n c {f with ba:=gT f.ba i v} r o h k/\To a m a (ah m h.D (h.off+i.toNat*1) [.i v]):=by
 let⟨p,u⟩:=S.fW.xu S.cQ.new s t v;let⟨w,x⟩:=S.cQ.jM u p.tf;exact⟨⟨w,p⟩,x⟩
def ST.Oa(S:ST g a m d e j aS l b q n c f r o h k)(v:Int):ST g a (ah m b.D (b.off+c.length*6+1) [.i v]) d e j aS l b q n c {f with pc:=v} r o h k/\To a m a (ah m b.D (b.off+c.length*6+1) [.i v]):=by
 let⟨i,p⟩:=S.fW.Oa S.cQ.new v;let⟨s,t⟩:=S.cQ.jM p i.tf;exact⟨⟨s,i⟩,t⟩
def ST.jy(S:ST g a m d e j aS l b q n c f r o h k)(i:Nat)(s:List Ce):ST g a (ah m d i s) d e (je j i s) aS l b q n c f r o h k/\To a m a (ah m d i s):=by
 let⟨u,v⟩:=S.cQ.jy i s;exact⟨⟨u,S.fW.eH (dm.ah (p:=λt=>t=1) S.cQ.new S.cQ.QF i s) λt w=>V⟩,v⟩
def ST.gE(S:ST g a m d e j aS l b q n c f r o h k)(i:HC a m t s){p:O}{u:List bN}(x:dL g.size t s p u):ST g t s d e j aS p b q u c f r o h k/\To a m t s:=by
 let⟨v,w⟩:=S.cQ.gE i x;exact⟨⟨v,S.fW.eH i λz y=>V⟩,w⟩
def ST.Ip(S:ST g a m d e j aS l b q n c f r o h k)(i:dm (λp=>p=2) a m t s){v:O}{u:List Int}(y:iJ t s aA 1 2 v (u.map Ce.i)):ST g t s d e j v l b u n c f r o h k/\To a m t s:=by
 let⟨w,x⟩:=S.cQ.Ip i y;exact⟨⟨w,S.fW.eH i λp z=>V⟩,x⟩
end
def dm.Rh{c f:Nat->Nat}{m a:E}(h:To c m f a){b:Nat}(e:b<m.size)(d:c b=0):eF [b] m a:=h.dq (by simpa using⟨e,d⟩)
abbrev SB(d p:O)(s:St)(aS b a:O):List Ce:=[.s d,.s p,.i s.cE,.i s.value,.i s.bu,.i s.dU,.s aS,.s b,.s a]
def yG(f:E)(h:Nat->Nat)(m:E)(g:Nat)(e p:O)(s:St)(c:E):Prop:=
 ∃d aS b a,vf f d c g bL (SB e p s aS b a) aS b a s.aS s.heap s.ao/\To h m d c
def yG.from{b:E}{f g:Nat->Nat}{m c a:E}{e:Nat}{d p:O}{s:St}(i:yG b g c e d p s a)(n:To f m g c):yG b f m e d p s a:=
 let⟨o,aS,l,h,j,k⟩:=i
 ⟨o,aS,l,h,j,n.trans k⟩
section
variable{k:E}{e:Nat->Nat}{m:E}{g:Nat}{d p aS b c:O}{a:St}{j:List aY}{f:aY}{r l h:O}{q:List (List Ce)}
def jY(S:ST k e m g bL (SB d p a aS b c) aS b c a.aS a.heap j f r l h q)(u:j.length<=100000)(v:Int):
 aN cq 142 [vp g 0,vi v] m λw n=>ST k e n g bL (SB d p a aS b c) aS b c a.aS a.heap j {f with pc:=v} r l h q/\To e m e n:=by
 apply ph (g,0)
 have i:af m g 8=some (O.v c):=S.cQ.box.cp 8
 have t:=S.fW.yh
 have o:cO ((c.len:Int) -1)=(j.length:Int):=by rw[aP V V];omega
 have s:Int.toNat (j.length:Int)=j.length:=V
 refine⟨c,i,c,i,?_⟩
 rw[o,s]
 exact⟨V,V,S.fW.Vp,S.Oa v⟩
def Bw(S:ST k e m g bL (SB d p a aS b c) aS b c a.aS a.heap j f r l h q)(P:j.length<=100000)(n:0<=i)(x:i<f.ak.length)(y:i<f.aR.length)(w:Int)(W:0<=f.pc/\f.pc<=100000):
 aN cq 135 [vp g 0,vi i,vi w] m λ_ A=>ST k e A g bL (SB d p a aS b c) aS b c a.aS a.heap j (aY.put {f with pc:=f.pc+1} i w 0) r l h q/\To e m e A:=by
 apply ux (g,0)
 simp -zeta only[aD,aC]
 have z:af m g 8=some (O.v c):=S.cQ.box.cp 8
 have T:=S.fW.yh
 have G:cO ((c.len:Int) -1)=(j.length:Int):=by rw[aP V V];omega
 have H:Int.toNat (j.length:Int)=j.length:=V
 let⟨K,g1,g2,L,M,N⟩:=S.fW.iD
 have X:r.len=f.ak.length:=by have:=S.fW.ak.len;simp at this;omega
 have U:l.len=f.aR.length:=by have:=S.fW.aR.len;simp at this;omega
 refine⟨c,z,c,z,?_⟩
 rw[G,H]
 refine⟨V,V,_,K,_,g1,_,g2,r,L,l,M,h,N,?_⟩
 intro R o
 have Q:J m o:=((J.az m).aK _).ah (ad _) _ _
 have Z:o.size=m.size+1:=by simp[o,R,av]
 have s:e m.size=0:=S.cQ.new _ (ad _)
 let⟨u,t2⟩:=S.ext Q
 clear_value o
 refine⟨n,V,u.fW.ak.Of n x,?_⟩
 intro t
 let⟨v,t3⟩:=u.Az n x w
 have s3:t.size=o.size:=av _ _ _ _
 refine⟨t3.Rh (show m.size<o.size by omega) s,n,V,v.fW.aR.Of n y,?_⟩
 intro B
 let⟨E,C⟩:=v.pV n (by simpa using y) 0
 have s4:B.size=t.size:=av _ _ _ _
 have I:cO (f.pc+1)=f.pc+1:=aP V V
 rw[I]
 refine⟨C.Rh (show m.size<t.size by omega) s,(jY E P (f.pc+1)).mono ?_⟩
 rintro _ Y ⟨F,D⟩
 exact⟨D.Rh (show m.size<B.size by omega) s,F,((t2.trans t3).trans C).trans D⟩
def tQ(S:ST k e m g bL (SB d p a aS b c) aS b c a.aS a.heap j f r l h q)(ab:j.length<=100000)(n:0<=i)(D:i<f.ak.length)(s:i<f.aR.length)(w:Int):
 aN cq 145 [vp g 0,vi i,vi w] m λ_ H=>ST k e H g bL (SB d p a aS b c) aS b c a.aS a.heap j (f.put i w (gK w)) r l h q/\To e m e H:=by
 apply uw (g,0)
 simp -zeta only[aD,aC]
 have G:af m g 8=some (O.v c):=S.cQ.box.cp 8
 have aa:=S.fW.yh
 have N:cO ((c.len:Int) -1)=(j.length:Int):=by rw[aP V V];omega
 have P:Int.toNat (j.length:Int)=j.length:=V
 let⟨R,g1,g2,T,U,W⟩:=S.fW.iD
 have ag:r.len=f.ak.length:=by have:=S.fW.ak.len;simp at this;omega
 have ac:l.len=f.aR.length:=by have:=S.fW.aR.len;simp at this;omega
 refine⟨c,G,c,G,?_⟩
 rw[N,P]
 refine⟨V,V,_,R,_,g1,_,g2,r,T,l,U,h,W,?_⟩
 intro m1 o
 have Z:J m o:=((J.az m).aK _).ah (ad _) _ _
 have s2:o.size=m.size+1:=by simp[o,m1,av]
 have t:e m.size=0:=S.cQ.new _ (ad _)
 let⟨A,t2⟩:=S.ext Z
 clear_value o
 refine⟨n,V,A.fW.ak.Of n D,?_⟩
 intro x
 let⟨B,t3⟩:=A.Az n D w
 have s3:x.size=o.size:=av _ _ _ _
 refine⟨t3.Rh (show m.size<o.size by omega) t,n,V,B.fW.aR.Of n s,?_⟩
 intro I
 let⟨L,y⟩:=B.pV n (by simpa using s) 0
 have s4:I.size=x.size:=av _ _ _ _
 refine⟨y.Rh (show m.size<x.size by omega) t,(dV _ _).mono ?_⟩
 rintro _ m5 ⟨M,rfl,F,E⟩
 let⟨u,z⟩:=L.ext E
 have s5:=E.size
 refine⟨z.Rh (show m.size<I.size by omega) t,M,rfl,λY=>?_,λX=>?_⟩
 .refine⟨n,V,u.fW.aR.Of n (by simpa[jU]using s),?_⟩
  intro m6
  let⟨C,K⟩:=u.pV n (by simpa[jU]using s) 1
  refine⟨K.Rh (show m.size<m5.size by omega) t,?_,(((t2.trans t3).trans y).trans z).trans K⟩
  have Q:gT (gT f.aR i 0) i 1=gT f.aR i 1:=by simp[gT,Xu]
  have v:gK w=1:=by rw[gK,an (F.1 Y)]
  simp only[Q]at C
  rw[v];exact C
 .refine⟨?_,((t2.trans t3).trans y).trans z⟩
  have v:gK w=0:=by rw[gK,ae (fb F X)]
  rw[v];exact u
def wo:∀(a:List Int)(g:List bN),(ji g a).length=g.length
 |[],g=>rfl
 |w::a,g=>by rw[ji,wo a];simp[mT]
def Er:∀(a:List Int)(g:List bN)(w:Int),ji g (a++[w])=mT (ji g a) w
 |[],g,w=>rfl
 |v::a,g,w=>by rw[cZ,ji,Er a,ji]
def Aq:∀(a:List Int)(g:List bN)(n:Int),(∀c∈g,-10<=c.aQ/\c.aQ<=n)->∀c∈ji g a,-10<=c.aQ/\c.aQ<=n+a.length
 |[],g,n,h,c,b=>by have:=h c b;simp;omega
 |w::a,g,n,h,c,b=>by
  have:=Aq a (mT g w) (n+1) (λd hd=>by
   rcases nO hd with rfl|⟨i,_,f⟩
   .simp only[aM];cases e:g[ix w]? with
    |none=>
     unfold mT at hd;rw[rR (List.getElem?_eq_none_iff.1 e)]at hd;have:=h _ hd;simp only[aM,e]at this⊢;omega
    |some x=>have:=h x (aq e);simp only[vI];omega
   .have:=h d (aq f);omega) c b
  simp only[aZ];omega
def DM(L:vf k e m g bL (SB d p a aS b c) aS b c a.aS a.heap j){u:O}{l:List Int}(v:ap m u l)(P:l≠[]->e u.D=0)(K:∀w∈l,1000<=w/\ix w<a.heap.length)(H:∀h∈a.heap,-10<=h.aQ/\h.aQ<=999999)(Z:l.length<=1000000)(W:a.heap.length<=2000000000):
 aN cq 141 [vp g 0,O.v u] m λ_ s=>dL k.size e s b (ji a.heap l)/\dm (λf=>f=3) e m e s:=by
 apply vA (g,0)
 have aa:=v.len
 have I:af m g 7=some (O.v b):=L.box.cp 7
 refine dT (n:=l.length) V (λf s=>dL k.size e s b (ji a.heap (l.take f))/\dm (λf=>f=3) e m e s) ⟨L.heap,dm.az _ L.new⟩ ?_
 rintro f A S μ X ⟨i,q⟩ R
 refine dit (λF=>?_) λF=>?_
 .let⟨x,r⟩:=cG l f
  let⟨ab,z⟩:=K x (aq r)
  have y:l≠[]:=λB=>by rw[B]at r;simp at r
  have Q:ap A u l:=iT v λ_=>q.eA _ (iI v y) (by rw[P y];decide)
  have w:af A g 7=some (O.v b):=by rw[aE (q.eA _ L.box.lt (by rw[L.QF];decide))];exact I
  have N:=i.len
  rw[wo]at N
  let⟨h,t⟩:=cG (ji a.heap (l.take f)) (ix x) (by rw[wo];exact z)
  obtain⟨T,E,_⟩:=i.cp t
  have M:ix x=(x -1000).toNat:=rfl
  have C:cO (x -1000)=x -1000:=aP V V
  have U:=Aq (l.take f) a.heap 999999 H h (aq t)
  have Y:((l.take f).length:Int)<=1000000:=bF
  have D:cO (h.aQ+1)=h.aQ+1:=aP V V
  refine⟨V,V,x,by simpa using Q.aG r,b,w,b,w,?_⟩
  rw[C,<-M]
  refine⟨V,V,h.aQ,E,V,V,i.wr (o:=0) (by rw[wo];exact z) bn,?_⟩
  rw[D]
  let⟨J,G⟩:=i.rG q.new t (h.aQ+1)
  refine R V _ ⟨?_,q.trans G⟩
  rw[aU r,Er]
  have:aM (ji a.heap (l.take f)) x=h:=by simp[aM,t]
  unfold mT
  rw[this];exact J
 .rw[bX V]at i
  exact⟨i,q⟩
def BC(L:vf k e m g bL (SB d p a aS b c) aS b c a.aS a.heap j){w:Int}(z:gA a.heap w){i:Nat->Int}(q:fO a.heap i)(M:a.heap.length<=2000000000):
 aN cq 188 [vp g 0,vi w] m λD t=>∃h:Bool,D=vb h/\(h=true<->(aM a.heap w).aQ=1)/\dm (λx=>x=3) e m e t/\(h=true->dL k.size e t b a.heap)/\(h=false->dL k.size e t b (ji (fm a.heap w) (kW (aM a.heap w).aF))):=by
 apply uy (g,0)
 let⟨f,ad⟩:=bS z
 have P:=aw f
 have ab:=L.heap.len
 have N:ix w=(w -1000).toNat:=rfl
 have aa:=z.1
 have G:cO (w -1000)=w -1000:=aP V V
 have r:af m g 7=some (O.v b):=L.box.cp 7
 have ac:=(q.cell _ (aq f)).hi
 have H:cO ((aM a.heap w).aQ -1)=(aM a.heap w).aQ -1:=aP V V
 let⟨U,v,g1,g2,W,X⟩:=L.heap.cp f
 rw[G,<-N]
 refine⟨b,r,V,V,_,v,λn=>⟨true,rfl,by simpa using n,dm.az _ L.new,λ_=>L.heap,sx⟩,λn=>?_⟩
 simp only[aj]at n
 refine⟨b,r,b,r,V,V,_,v,V,V,L.heap.wr (o:=0) P bn,?_⟩
 rw[H]
 intro m1
 let⟨y,l⟩:=L.heap.rG L.new f ((aM a.heap w).aQ -1)
 let⟨I,k0,k1,T,kf,kr⟩:=y.cp (eJ f)
 let⟨u,t1⟩:=L.gE (l.mono λx A=>Or.inl A) y
 have Z:=(q.cell _ (aq f)).fl
 refine⟨b,u.box.cp 7,V,V,I,T,?_⟩
 refine(oQ kf (by simp only[];omega)).then (by have:=nR (aM a.heap w).aF;simp only[];omega) λC m2 o2 B x=>⟨C,rfl,?_⟩
 let⟨E,t2⟩:=u.ext x
 have R:kW (aM a.heap w).aF≠[]->e C.D=0:=λQ=>by
  rcases o2.D with i|i
  .subst i;have:=B.len;simp at this;exact absurd (List.length_eq_zero_iff.1 this.symm) Q
  .exact l.new _ i
 have:=nR (aM a.heap w).aF
 refine(DM (a:={a with heap:=fm a.heap w}) (j:=j) E B R (λD S=>?_) (λF J=>?_) (by simp only[];omega) (by simpa[fm]using M)).mono ?_
 .let⟨K,A⟩:=lE.1 S
  exact⟨A,by simpa[fm]using aw (bS (q.field (aq f) K A)).1⟩
 .rcases nO J with rfl|⟨h,_,A⟩
  .simp only[];omega
  .have:=q.cell F (aq A);have K:=this.lo;have Y:=this.hi;omega
 .rintro _ Y ⟨K,A⟩
  exact⟨false,rfl,by simpa using n,(l.trans (dm.eG _ x l.new)).trans A,sx,λ_=>K⟩
end
end
section
variable{q:Nat->Nat}{c:E}{e:Nat}{g:List Ce}{x:Instr}{a j:O}{b:Int}
def zE(c:Nat->Nat)(m:E)(a:List Nat):Prop:=∀b∈a,b<m.size/\c b=0
def zE.to{p:Nat->Prop}{e:Nat->Nat}{m:E}{d:List Nat}(h:zE e m d)(t:dm p e m q c):zE q c d:=λb a=>⟨aO (h b a).1 t.size,by rw[t.gW b (h b a).1];exact(h b a).2⟩
def dm.dJ{b:Nat->Nat}{m:E}(t:To b m q c){a:List Nat}(h:zE b m a):eF a m c:=t.dq h
def zE.Kr{f:Nat->Nat}{m d e:E}(c:∀b,m.size<=b->f b=0)(g:d.size=m.size+1)(h:e.size=m.size+2):zE f e [d.size,m.size]:=λb a=>by
 simp at a;rcases a with rfl|rfl
 .exact⟨V,c _ V⟩
 .exact⟨V,c _ V⟩
noncomputable def nB (s:St) (a:List aY) (f:aY) (x:Instr) (t:Int):St:=
 open Classical in
 if x.bZ≠0/\aG f.ba (x.bZ -1)≠0 then
  {s with heap:=s.heap.set (ix (aG f.ba (x.bZ -1))) ⟨1,t,cL f x.args⟩,ao:=a++[aY.put {f with pc:=f.pc+1,ba:=gT f.ba (x.bZ -1) 0} x.dst (aG f.ba (x.bZ -1)) 1]}
 else{s with heap:=jg s.heap (dF s.heap) ⟨1,t,cL f x.args⟩,ao:=a++[aY.put {f with pc:=f.pc+1} x.dst (1000+dF s.heap) 1]}
section
variable{F:E}{A:Nat->Nat}{v:E}{D:Nat}{d p aS y B:O}{u:St}{C:List aY}{t:aY}{r z h:O}{G:List (List Ce)}
def ST.Au{b:List Int}{a:List bN}(S:ST F A v D e g aS y B b a C t r z h G)(c:t.ak.length<=1000000):ap v r t.ak:=S.fW.ak.nM V
def ST.JC{b:List Int}{a:List bN}(S:ST F A v D e g aS y B b a C t r z h G)(c:t.aR.length<=1000000):ap v z t.aR:=S.fW.aR.nM V
def ST.Q6{b:List Int}{a:List bN}(S:ST F A v D e g aS y B b a C t r z h G)(c:t.ba.length<=1000000):ap v h t.ba:=S.fW.ba.nM V
def uQ(S:ST F A v D bL (SB d p u aS y B) aS y B u.aS u.heap C t r z h G)(ha:ap F a x.args)(ah:∀b∈x.args,0<=b/\b<t.ak.length)(av:x.args.length<=4)(g:Int)
 (az:t.ak.length=t.aR.length/\t.ba.length=t.aR.length/\t.aR.length<=2000)(ai:0<=x.dst/\x.dst<t.aR.length)(ay:0<=x.bZ/\x.bZ<=t.ba.length)(aA:0<=t.pc/\t.pc<=100000)(ab:C.length<=100000)(aw:u.heap.length<=1000000000)
 (ak:∀w∈t.ba,w≠0->1000<=w/\ix w<u.heap.length):
 aN cq 137 [vp D 0,fv t r z h,xv x a j,vi g] v λ_ c=>yG F A v D d p (nB u C t x g) c:=by
 apply sg (D,0)
 simp -zeta only[aD,aC]
 intro w E
 have aq:J v E:=((J.az v).aK _).aK _
 have s1:w.size=v.size+1:=by simp[w]
 have s2:E.size=v.size+2:=by simp[E,s1]
 have T:=zE.Kr S.cQ.new s1 s2
 let⟨I,t2⟩:=S.ext aq
 clear_value E
 have ax:h.len=t.ba.length:=by have:=S.fW.ba.len;simp at this;omega
 have q:∀{A v t},ST F A v D bL (SB d p u aS y B) aS y B u.aS u.heap C t r z h G->af v D 7=some (O.v y):=λS=>S.cQ.box.cp 7
 refine⟨y,q I,(GK (I.cQ.heap.cells V)).mono ?_⟩
 rintro _ L ⟨rfl,ac⟩
 let⟨o,t3⟩:=I.ext ac
 have H:=T.to t3
 refine⟨t3.dJ T,_,rfl,λaa c=>∃(b:Nat)(e:aY),aa=b/\ST F A c D bL (SB d p u aS y B) aS y B u.aS u.heap C e r z h G/\To A v A c/\zE A c [w.size,v.size]/\b<=u.heap.length/\
  e.ak=t.ak/\e.aR=t.aR/\e.pc=t.pc/\nB u C t x g={u with heap:=jg u.heap b ⟨1,g,cL t x.args⟩,ao:=C++[aY.put {e with pc:=t.pc+1} x.dst (1000+b) 1]},?_,?_⟩
 .have none:¬(x.bZ≠0/\aG t.ba (x.bZ -1)≠0)->∃(b:Nat)(e:aY),((dF u.heap:Nat):Int)=b/\ST F A L D bL (SB d p u aS y B) aS y B u.aS u.heap C e r z h G/\To A v A L/\zE A L [w.size,v.size]/\b<=u.heap.length/\
   e.ak=t.ak/\e.aR=t.aR/\e.pc=t.pc/\nB u C t x g={u with heap:=jg u.heap b ⟨1,g,cL t x.args⟩,ao:=C++[aY.put {e with pc:=t.pc+1} x.dst (1000+b) 1]}:=λU=>
   ⟨_,t,rfl,o,t2.trans t3,H,qE _,rfl,rfl,rfl,by rw[nB,ae U]⟩
  refine⟨λK=>?_,λK=>none λP=>by simp at K;omega⟩
  simp at K
  have Q:cO (x.bZ -1)=x.bZ -1:=aP V V
  rw[Q]
  have k:0<=x.bZ -1/\x.bZ -1<t.ba.length:=V
  have N:=(o.Q6 V).pH k.1 k.2
  refine⟨V,V,_,N,λm=>?_,λm=>none λP=>by simp at m;exact P.2 m⟩
  simp at m
  let⟨W,Y⟩:=ak _ (fx k.1 k.2) m
  refine⟨V,V,_,N,V,V,o.fW.ba.Of k.1 k.2,?_⟩
  intro M
  let⟨l,n⟩:=o.xu k.1 k.2 0
  have X:ix (aG t.ba (x.bZ -1))=(aG t.ba (x.bZ -1) -1000).toNat:=rfl
  have R:cO (aG t.ba (x.bZ -1) -1000)=((ix (aG t.ba (x.bZ -1)):Nat):Int):=by rw[aP V V];omega
  refine⟨n.dJ H,ix (aG t.ba (x.bZ -1)),_,R,l,(t2.trans t3).trans n,H.to n,V,rfl,rfl,rfl,?_⟩
  rw[nB,an ⟨V,m⟩,jg,ae V,iv W]
 .rintro aa M ⟨b,e,rfl,l,n,U,ag,m,eo,ep,ec⟩
  have ar:J F M:=l.cQ.cv
  have al:ap M r t.ak:=m▸l.Au (by rw[m];omega)
  refine⟨y,q l,(sk (f:=t) al (ha.ext ar) ah V).mono ?_⟩
  rintro _ m5 ⟨ws,rfl,ow,ad⟩
  let⟨k,N⟩:=l.ext ad
  have W:=U.to N
  have am:(cL t x.args).length<=1000000000:=by simp[cL];omega
  have iw:ap m5 ws (cL t x.args):=ap.gD ow V
  refine⟨N.dJ U,ws,rfl,by rw[q k,q l],(Nl k.cQ.heap k.cQ.new ag g iw V am k.cQ.cv.size).mono ?_⟩
  rintro _ m6 ⟨au,K,rfl,aj,c6⟩
  let⟨Z,P⟩:=k.gE c6 aj
  have X:=W.to P
  refine⟨P.dJ W,K,rfl,Z.cQ.mw (i:=7) aL,?_⟩
  intro m7
  let⟨S7,Q⟩:=Z.jy 7 [.s K]
  have Y:=X.to Q
  have e3:cO (1000+(b:Int))=1000+(b:Int):=aP V V
  have e4:cO (t.pc+1)=t.pc+1:=aP V V
  rw[e3,e4]
  refine⟨Q.dJ X,(tQ (a:={u with heap:=jg u.heap b ⟨1,g,cL t x.args⟩}) S7 ab ai.1 (by rw[m];omega) (by rw[eo];omega) (1000+b)).mono ?_⟩
  rintro _ m8 ⟨S8,R⟩
  refine⟨R.dJ Y,(jY (a:={u with heap:=jg u.heap b ⟨1,g,cL t x.args⟩}) S8 ab (t.pc+1)).mono ?_⟩
  rintro _ m9 ⟨S9,t9⟩
  refine⟨t9.dJ (Y.to R),au,aS,K,B,?_,((((n.trans N).trans P).trans Q).trans R).trans t9⟩
  rw[ec]
  have e5:gK (1000+(b:Int))=1:=by rw[gK,an V]
  have:=S9.cQ
  rw[e5]at this
  exact this
def sJ:∀(a aR:List Int)(r:Int),dE aR (a++[r])=gT (dE aR a) r (aG (dE aR a) r+1)
 |[],aR,r=>rfl
 |q::a,aR,r=>by rw[cZ,dE,sJ a,dE]
def FF{l:List Int}{i:Int}(h:∀z∈l,0<=z/\z<=b)(d:0<=b):0<=aG l i/\aG l i<=b:=by
 rcases aW i.toNat l.length with a|a
 .let⟨y,c⟩:=dB a;rw[HM c];exact h y (aq c)
 .rw[aG,fU,cN a];simp;omega
def qU:∀(c aR:List Int)(b:Int),0<=b->(∀z∈aR,0<=z/\z<=b)->∀z∈dE aR c,0<=z/\z<=b+c.length
 |[],aR,b,e,h,z,d=>by have:=h z d;simp;omega
 |r::c,aR,b,e,h,z,d=>by
  have:=qU c (gT aR r (aG aR r+1)) (b+1) V (λq a=>by
   have:=FF (i:=r) h e;rcases pN a with a|a
   .omega
   .have:=h q a;omega) z d
  simp only[aZ];omega
noncomputable def tB (u:St) (C:List aY) (t:aY) (x:Instr):St:=
 open Classical in
 if(aM u.heap (aG t.ak (aG x.args 0))).aQ=1/\x.op=17 then
  {u with heap:=u.heap.set (ix (aG t.ak (aG x.args 0))) ⟨-1,0,dj (aM u.heap (aG t.ak (aG x.args 0))).aF.length⟩,ao:=C++[{t with aR:=dE t.aR (x.args.drop 1),pc:=t.pc+1,ba:=gT t.ba (aG x.args 0) (aG t.ak (aG x.args 0))}]}
 else{u with heap:=apart u.heap (aG t.ak (aG x.args 0)),ao:=C++[{t with aR:=dE t.aR (x.args.drop 1),pc:=t.pc+1}]}
def ub(b:Nat):mK [.i (0:Int)] b=(dj b).map Ce.i:=by
 induction b with
 |zero=>rfl
 |succ b a=>
  have:mK [.i (0:Int)] (b+1)=.i 0::mK [.i (0:Int)] b:=by simp[mK,qT]
  rw[this,a];simp[dj,qT]
def rj{v:E}(a:0<=b)(e:b<=1000000):aN cq 191 [vi b] v λd c=>d=O.v (.mk v.size 0 b.toNat b.toNat)/\c=v.push (.cells (bt ((dj b.toNat).map Ce.i)) aA):=by
 apply Jc;refine⟨a,dw _,V,V,?_⟩;rw[ub];exact⟨rfl,rfl⟩
def Og{v:E}(b:Nat):gY v (v.push (.cells (bt ((dj b).map Ce.i)) aA)) aA 1 (.mk v.size 0 b b) ((dj b).map Ce.i):=gY.new (J.az v) aA 1 _ b (by simp[ku])
def IU(S:ST F A v D bL (SB d p u aS y B) aS y B u.aS u.heap C t r z h G)(ha:ap F a x.args)(ao:∀g∈x.args,0<=g/\g<t.ak.length)(aJ:1<=x.args.length/\x.args.length<=4)(a1:x.op=16\/x.op=17)
 (aY:t.ak.length=t.aR.length/\t.ba.length=t.aR.length/\t.aR.length<=2000)(a2:0<=t.pc/\t.pc<=100000)(al:C.length<=100000)(aQ:u.heap.length<=1000000000)(aH:∀Q∈t.aR,0<=Q/\Q<=999999)
 (ai:gA u.heap (aG t.ak (aG x.args 0))){e:Nat->Int}(hI:fO u.heap e):
 aN cq 144 [vp D 0,fv t r z h,xv x a j] v λ_ c=>yG F A v D d p (tB u C t x) c:=by
 apply sV (D,0)
 simp -zeta only[aD,aC]
 intro m1 m2
 have aI:J v m2:=((J.az v).aK _).aK _
 have s1:m1.size=v.size+1:=by simp[m1]
 have s2:m2.size=v.size+2:=by simp[m2,s1]
 have B2:=zE.Kr S.cQ.new s1 s2
 let⟨S2,t2⟩:=S.ext aI
 clear_value m2
 have a4:r.len=t.ak.length:=by have:=S.fW.ak.len;simp at this;omega
 have a0:z.len=t.aR.length:=by have:=S.fW.aR.len;simp at this;omega
 have aT:h.len=t.ba.length:=by have:=S.fW.ba.len;simp at this;omega
 have aK:=ha.len
 have H:0<=aG x.args 0/\aG x.args 0<t.ak.length:=ao _ (fx V V)
 have ga:∀{c},J F c->∀{b:Nat}{g},x.args[b]? =some g->af c a.D (a.off+Int.toNat (b:Int)*1)=some (vi g):=λhx b g W=>by simpa using(ha.ext hx).aG W
 refine⟨V,V,aG x.args 0,(ha.ext S2.cQ.cv).pH V V,H.1,V,aG t.ak (aG x.args 0),(S2.Au V).pH H.1 H.2,?_⟩
 refine⟨λaj c=>∃b:Nat,aj=b/\1<=b/\b<=x.args.length/\ST F A c D bL (SB d p u aS y B) aS y B u.aS u.heap C {t with aR:=dE t.aR ((x.args.take b).drop 1)} r z h G/\To A v A c/\zE A c [m1.size,v.size],λaj _=>((x.args.length:Int) -aj).toNat,⟨1,rfl,V,V,?_,t2,B2⟩,?_⟩
 .have e1:(x.args.take 1).drop 1=[]:=aL
  rw[e1];exact S2
 rintro aj m3 ⟨b,rfl,aV,aW,I,t3,Y⟩
 have aF:∀Q∈dE t.aR ((x.args.take b).drop 1),0<=Q/\Q<=1000010:=λQ hq=>by
  have:=qU _ t.aR 999999 V aH Q hq;have h3:((x.args.take b).drop 1).length<=4:=bF;omega
 refine dit (λh1=>?_) λh1=>?_
 .let⟨g,W⟩:=cG x.args b
  have K:=ao g (aq W)
  have M:g<(dE t.aR ((x.args.take b).drop 1)).length:=by rw[lP];omega
  have hb:=FF (i:=g) aF V
  refine⟨V,V,g,ga I.cQ.cv W,V,V,g,ga I.cQ.cv W,K.1,V,_,(I.JC (by simp only[lP];omega)).pH K.1 M,K.1,V,I.fW.aR.Of K.1 M,?_⟩
  intro q
  have N:cO (aG (dE t.aR ((x.args.take b).drop 1)) g+1)=aG (dE t.aR ((x.args.take b).drop 1)) g+1:=aP V V
  let⟨E,L⟩:=I.pV K.1 M (aG (dE t.aR ((x.args.take b).drop 1)) g+1)
  have P:q=ah m3 z.D (z.off+g.toNat*1) [.i (aG (dE t.aR ((x.args.take b).drop 1)) g+1)]:=by simp only[q,N]
  clear_value q
  subst P
  refine⟨L.dJ Y,?_,?_⟩
  .rw[jW (k:=b) (n:=x.args.length) V V]
   refine⟨b+1,rfl,V,V,?_,t3.trans L,Y.to L⟩
   have e4:(x.args.take (b+1)).drop 1=(x.args.take b).drop 1++[g]:=by
    rw[aU W,List.drop_append_of_le_length bF]
   rw[e4,sJ]
   exact E
  .rw[jW (k:=b) (n:=x.args.length) V V]
   show((x.args.length:Int) -((b+1:Nat):Int)).toNat<((x.args.length:Int) -(b:Int)).toNat
   omega
 .have e1:(x.args.take b).drop 1=x.args.drop 1:=by rw[bX V]
  rw[e1]at I
  have a5:=iv ai.1
  let⟨ak,a3⟩:=bS ai
  have ag:=aw ak
  have aZ:=I.cQ.heap.len
  have e4:cO (t.pc+1)=t.pc+1:=aP V V
  have aX:=ai.1
  have aE:ix (aG t.ak (aG x.args 0))=(aG t.ak (aG x.args 0) -1000).toNat:=rfl
  have e5:cO (aG t.ak (aG x.args 0) -1000)=aG t.ak (aG x.args 0) -1000:=aP V V
  rw[e4,e5,<-aE]
  generalize hw:aG t.ak (aG x.args 0)=w at*
  have gw:∀{A v lh own' held'},ST F A v D bL (SB d p u aS y B) aS y B u.aS lh C {t with aR:=own',ba:=held'} r z h G->af v r.D (r.off+Int.toNat (aG x.args 0)*1)=some (vi w):=λS=>by rw[<-hw];exact(S.Au (by simp only[];omega)).pH H.1 H.2
  refine⟨H.1,V,w,gw I,(BC I.cQ ai hI V).mono ?_⟩
  rintro _ q ⟨ax,rfl,hb,c4,aB,az⟩
  refine⟨(c4.mono λb N=>by omega:To A m3 A q).dJ Y,ax,rfl,λau=>?_,λar=>?_⟩
  .have ac:=hb.1 au
   let⟨E,L⟩:=I.gE (c4.mono λb N=>Or.inl N) (aB au)
   have B4:=Y.to L
   have g7:af q D 7=some (O.v y):=E.cQ.box.cp 7
   refine⟨λaa=>?_,λaa=>?_⟩
   .simp at aa
    let⟨f0,k0,k1,k2,kf,kr⟩:=E.cQ.heap.cp ak
    have ay:=(hI.cell _ (aq ak)).fl
    have aO:=kf.len
    refine⟨y,g7,y,g7,V,V,f0,k2,(rj V V).mono ?_⟩
    rintro _ m5 ⟨rfl,rfl⟩
    have e6:Int.toNat (f0.len:Int)=(aM u.heap w).aF.length:=V
    rw[e6]
    have ab:J q (q.push (.cells (bt ((dj (aM u.heap w).aF.length).map Ce.i)) aA)):=J.push _ _
    have oz:=Og (v:=q) (aM u.heap w).aF.length
    let⟨K,M⟩:=E.ext ab
    have Z:=B4.to M
    have av:A q.size=0:=E.cQ.new _ (ad _)
    generalize q.push (.cells (bt ((dj (aM u.heap w).aF.length).map Ce.i)) aA)=m5 at*
    let⟨am,c6⟩:=K.cQ.heap.setCell K.cQ.new ag (-1) 0 (f:=.mk q.size 0 _ _) (ap.gD oz (by rw[ku];omega)) (Rr.of E.cQ.heap (λH=>ab.same _ (E.cQ.heap.D H).2) (λ_=>oz) (λ_=>av) E.cQ.cv.size)
    refine⟨M.dJ B4,_,rfl,ab.da g7,V,V,K.cQ.heap.wr (o:=0) ag bn,?_⟩
    intro m6
    let⟨P,R⟩:=K.gE (c6.mono λb N=>Or.inl N) am
    have B6:=Z.to R
    refine⟨R.dJ Z,H.1,V,w,gw P,H.1,V,P.fW.ba.Of H.1 (by simp only[];omega),?_⟩
    intro m7
    let⟨U,T⟩:=P.xu H.1 (by simp only[];omega) w
    refine⟨T.dJ B6,(jY (a:={u with heap:=u.heap.set (ix w) ⟨-1,0,dj (aM u.heap w).aF.length⟩}) U al (t.pc+1)).mono ?_⟩
    rintro _ m8 ⟨S8,X⟩
    refine⟨X.dJ (B6.to T),A,aS,y,B,?_,(((((t3.trans L).trans M).trans R).trans T).trans X)⟩
    rw[tB,hw,an ⟨ac,aa⟩]
    exact S8.cQ
   .simp at aa
    refine⟨y,g7,?_⟩
    intro m5
    have ab:J q m5:=(J.az q).aK _
    let⟨K,M⟩:=E.ext ab
    have Z:=B4.to M
    clear_value m5
    refine⟨V,V,K.cQ.heap.wr (o:=0) ag bn,?_⟩
    intro m6
    let⟨am,c6⟩:=K.cQ.heap.setCell K.cQ.new ag 0 0 (f:=.mk q.size 0 0 0) (l:=[]) ⟨rfl,aL,aL,aL⟩ (λav=>absurd rfl av)
    let⟨P,R⟩:=K.gE (c6.mono λb N=>Or.inl N) am
    have B6:=Z.to R
    refine⟨R.dJ Z,y,P.cQ.box.cp 7,(xW (P.cQ.heap.cells bF)).mono ?_⟩
    rintro _ m7 ⟨rfl,ay⟩
    let⟨U,T⟩:=P.ext ay
    have B7:=B6.to T
    refine⟨T.dJ B6,_,rfl,U.cQ.mw (i:=7) aL,?_⟩
    intro m8
    obtain⟨av,aO⟩:=U.gE (dm.az _ U.cQ.new) (U.cQ.heap.cut (tY _ _))
    obtain⟨S8,X⟩:=av.jy 7 [.s (y.cut 0 (jq (u.heap.set (ix w) jd) (u.heap.set (ix w) jd).length) 3)]
    refine⟨X.dJ B7,(jY (a:={u with heap:=nv (u.heap.set (ix w) jd)}) S8 al (t.pc+1)).mono ?_⟩
    rintro _ m9 ⟨S9,t9⟩
    refine⟨t9.dJ (B7.to X),A,aS,y.cut 0 (jq (u.heap.set (ix w) jd) (u.heap.set (ix w) jd).length) 3,B,?_,((((((t3.trans L).trans M).trans R).trans T).trans X).trans t9)⟩
    rw[tB,hw,ae (λhh=>aa hh.2),Go.Proofs.YtkoifinbblcbiaaGreat.apart,an ac]
    exact S9.cQ
  .have ac:(aM u.heap w).aQ≠1:=λe=>by have:=hb.2 e;rw[ar]at this;simp at this
   let⟨E,L⟩:=I.gE (c4.mono λb N=>Or.inl N) (az ar)
   refine(jY (a:={u with heap:=ji (fm u.heap w) (kW (aM u.heap w).aF)}) E al (t.pc+1)).mono ?_
   rintro _ m5 ⟨K,M⟩
   refine⟨M.dJ (Y.to L),A,aS,y,B,?_,(t3.trans L).trans M⟩
   rw[tB,hw,ae (λhh=>ac hh.1),Go.Proofs.YtkoifinbblcbiaaGreat.apart,ae ac]
   exact K.cQ
end
end
section
variable{e:cT}{c:Instr}{j:O}{l:List Int}{g b1 b2 b3 k:Nat}{b:E}
def iL(e:cT)(c:Instr):Nat->List Int->List Int
 |_,[]=>[]
 |k,w::j=>(if(c.op=9\/c.op=24)/\nC e c k=true then 0 else gK w)::iL e c (k+1) j
def DJ(e:cT)(c:Instr):∀(l r:List Int)(k:Nat),iL e c k (l++r)=iL e c k l++iL e c (k+l.length) r
 |[],r,k=>by simp[iL]
 |b::l,r,k=>by
  have:=DJ e c l r (k+1);simp only[cZ,iL,this,aZ];have a:k+(l.length+1)=k+1+l.length:=V;rw[a]
def En(e:cT)(c:Instr):∀(l:List Int)(k:Nat),(iL e c k l).length=l.length
 |[],k=>rfl
 |a::l,k=>by simp only[iL,aZ,En e c l]
def JB{e:cT}{c:Instr}(a:c.op=9\/c.op=24):∀(l:List Int)(k:Nat),iL e c k l=dN (dO e c.bQ).cR k l
 |[],k=>rfl
 |d::l,k=>by
  simp only[iL,dN,JB a l];congr 1;unfold nC;by_cases h:((dO e c.bQ).cR.any λy=>y==(k:Int))=true
  .rw[an ⟨a,h⟩,an h]
  .rw[ae (λb=>h b.2),ae h]
def Gn{e:cT}{c:Instr}(a:¬(c.op=9\/c.op=24)):∀(l:List Int)(k:Nat),iL e c k l=dN [] k l
 |[],k=>rfl
 |d::l,k=>by
  simp only[iL,dN,Gn a l,QA,js,rS];rw[ae (λb=>a b.1)]
def EW{m:E}{p:Nat}{r A:O}(aa:fg m r A e)(T:af m p 0=some (O.v r))(g1:af m p 1=some (O.v A))(Z:zH e c)(D P:O)(K:ap m j l)(ac:l.length<=1000000):
 oF 190 [vp p 0,xv c D P,O.v j] m (iL e c 0 l):=by
 apply rP (p,0)
 simp -zeta only[aD,aC]
 intro a y
 have w:J m a:=(J.az m).aK _
 have W:J a y:=(J.az a).aK _
 have ho:gY a y aA 1 (.mk a.size 0 0 0) []:=gY.new (J.az a) aA 1 [] 0 aL
 have f:∀q∈[m.size],q<a.size:=by simp[a]
 have ad:=K.len
 clear_value y
 clear_value a
 refine ez (n:=l.length) V (λk B b=>J a b/\gY a b aA 1 B ((iL e c 0 (l.take k)).map Ce.i)) ⟨W,by simpa[iL]using ho⟩ ?_
 rintro k B m3 ab μ hk ⟨L,g⟩ z
 have M:=w.trans L
 refine dit (λU=>?_) λU=>?_
 .let⟨C,N⟩:=cG l k
  have I:(l.take k).length=k:=bF
  have v:iL e c 0 (l.take (k+1))=iL e c 0 (l.take k)++[if(c.op=9\/c.op=24)/\nC e c k=true then 0 else gK C]:=by
   rw[aU N,DJ,I];simp[iL]
  have u:(iL e c 0 (l.take k)).length<1000000000:=by rw[En,I];omega
  refine⟨V,V,C,by simpa using M.af (K.aG N),(dV _ _).aH L f λq m4 G s i=>⟨q,rfl,λY=>?_,λX=>?_⟩⟩
  .have x:=w.trans i
   refine⟨r,x.af T,A,x.af g1,(se (aa.ext x) Z D P k).aH i f λb2 m5 H F o=>⟨b2,rfl,λt=>?_,λt=>?_⟩⟩
   .intro Q
    refine nQ ((g.ext s).ext F) o u λS R h d=>⟨J.tG (o.aK _) d f,z V _ _ ⟨d,?_⟩⟩
    rw[v,ae (nb H t),gK,an (G.1 Y)];exact h
   .intro Q
    refine nQ ((g.ext s).ext F) o u λS R h d=>⟨J.tG (o.aK _) d f,z V _ _ ⟨d,?_⟩⟩
    rw[v,an (yb H t)];exact h
  .intro Q
   refine nQ (g.ext s) i u λS R h d=>⟨J.tG (i.aK _) d f,z V _ _ ⟨d,?_⟩⟩
   rw[v]
   have o:(if(c.op=9\/c.op=24)/\nC e c k=true then 0 else gK C)=0:=by
    rw[gK,ae (fb G X)];split<;>rfl
   rw[o];exact h
 .rw[bX V]at g
  exact⟨B,rfl,g.cv w.size,M⟩
structure rm(m b:E)(b1 b2 b3 g:Nat)(ak aR ba:List Int):Prop where
 ext:J m b
 lo:m.size<=b1/\m.size<=b2/\m.size<=b3/\b1≠b2/\b1≠b3/\b2≠b3/\b1<b.size/\b2<b.size/\b3<b.size
 kr:cD b b1 aA (ak.map Ce.i)
 ko:cD b b2 aA (aR.map Ce.i)
 kh:cD b b3 aA (ba.map Ce.i)
 len:ak.length=g/\aR.length=g/\ba.length=g
def La{a:E}{b:Nat}(d:cD a b aA ((dj g).map Ce.i))(f:l.length<=g):cD (ah a b 0 (l.map Ce.i)) b aA ((l++dj (g -l.length)).map Ce.i):=by
 have:=cD.ah (m:=a) (o:=0) (r:=l.map Ce.i) d;have e:je ((dj g).map Ce.i) 0 (l.map Ce.i)=(l++dj (g -l.length)).map Ce.i:=by
  have c:=Cl [] (l.map Ce.i) ((dj g).map Ce.i) (by simp[ku];omega);simp only[eE,eW]at c;rw[c];simp[dj,List.drop_replicate]
 rw[e]at this;exact this
def yy{m:E}{H R:O}(K:fg m H R e){r:Int}(S:0<=r){q:dy}(M:e.cF[r.toNat]? =some q)(C:0<=q.ak/\q.ak<=2000)(I:Int){G:O}{d h:List Int}(N:ap m j d)(L:ap m G h)(ag:(d.length:Int)<=q.ak)(ae:h.length=d.length):
 aN cq 159 [.agg #[O.v H,O.v R],vi r,vi I,O.v j,O.v G] m λab b=>∃b1 b2 b3,ab=.agg #[vi r,vi 0,vi I,O.v (.mk b1 0 q.ak.toNat q.ak.toNat),O.v (.mk b2 0 q.ak.toNat q.ak.toNat),O.v (.mk b3 0 q.ak.toNat q.ak.toNat)]/\
  rm m b b1 b2 b3 q.ak.toNat (d++dj (q.ak.toNat -d.length)) (h++dj (q.ak.toNat -h.length)) (dj q.ak.toNat):=by
 apply EK
 simp -zeta only[aD,aC]
 intro x a
 have w:J m a:=((J.az m).aK _).aK _
 have s1:x.size=m.size+1:=by simp[x]
 have s2:a.size=m.size+2:=by simp[a,s1]
 have k:∀g∈[x.size,m.size],g<a.size:=bF
 have af:=K.cF.len
 have ac:=aw M
 have X:=N.len
 have W:=L.len
 clear_value a
 obtain⟨a',l',c',_,_,_,_,_,_,k3,_⟩:=(K.ext w).cF.aG M
 refine⟨S,V,q.ak,k3,(rj C.1 V).mono ?_⟩
 rintro _ c ⟨rfl,n⟩
 have z:J a c:=by rw[n];exact J.push _ _
 have s3:c.size=a.size+1:=by rw[n];simp
 have P:cD c a.size aA ((dj q.ak.toNat).map Ce.i):=by rw[n];exact cD.push _ _ _
 clear n
 refine⟨z.dq k,_,rfl,(rj C.1 V).mono ?_⟩
 rintro _ y ⟨rfl,o⟩
 have u:J c y:=by rw[o];exact J.push _ _
 have s4:y.size=c.size+1:=by rw[o];simp
 have Z:cD y c.size aA ((dj q.ak.toNat).map Ce.i):=by rw[o];exact cD.push _ _ _
 clear o
 have A:=z.trans u
 have T:min j.len q.ak.toNat=d.length:=by rw[X];exact jf V
 have U:min G.len q.ak.toNat=h.length:=by rw[W];exact jf V
 refine⟨u.dq (λg B=>z.lt (k g B)),_,rfl,d.map Ce.i,by simp only[O.gH];rw[T];simp,(N.ext (w.trans A)).Im,(P.ext u).fL (by simp[ku];omega),?_⟩
 intro i
 have k5:cD i a.size aA ((d++dj (q.ak.toNat -d.length)).map Ce.i):=La (P.ext u) V
 have Q:cD i c.size aA ((dj q.ak.toNat).map Ce.i):=Z.congr (bd _ _ _ _ (show c.size≠a.size by omega))
 have s:J a i:=A.ah (ad _) _ _
 have s5:i.size=y.size:=av _ _ _ _
 clear_value i
 refine⟨J.tG A s k,h.map Ce.i,by simp only[O.gH];rw[U];simp,(L.ext (w.trans s)).Im,Q.fL (by simp[ku];omega),?_⟩
 intro f
 have k6:cD f c.size aA ((h++dj (q.ak.toNat -h.length)).map Ce.i):=La Q V
 have aa:cD f a.size aA ((d++dj (q.ak.toNat -d.length)).map Ce.i):=k5.congr (bd _ _ _ _ (show a.size≠c.size by omega))
 have t:J a f:=s.ah (show a.size<=c.size by omega) _ _
 have s6:f.size=i.size:=av _ _ _ _
 clear_value f
 refine⟨J.tG s t k,(rj C.1 V).mono ?_⟩
 rintro _ l ⟨rfl,p⟩
 have v:J f l:=by rw[p];exact J.push _ _
 have s7:l.size=f.size+1:=by rw[p];simp
 have k7:cD l f.size aA ((dj q.ak.toNat).map Ce.i):=by rw[p];exact cD.push _ _ _
 clear p
 refine⟨J.tG t (t.trans v) k,_,rfl,?_⟩
 intro D
 have Y:J m D:=(w.trans (t.trans v)).ah V _ _
 have s8:D.size=l.size:=av _ _ _ _
 have F:∀g,g≠x.size->D[g]? =l[g]? :=λg B=>bd _ _ _ _ B
 refine⟨a.size,c.size,f.size,rfl,Y,V,(aa.ext v).congr (F _ V),(k6.ext v).congr (F _ V),k7.congr (F _ V),by simp[ku];omega⟩
def pS(a:Nat->Nat)(b1 b2 b3 g:Nat):Nat->Nat:=oA (oA (oA a b1 (10+3*g)) b2 (11+3*g)) b3 (12+3*g)
def rm.eH{p:Nat->Prop}{d:Nat->Nat}{m:E}{ak aR ba:List Int}(N:rm m b b1 b2 b3 k ak aR ba)(e:∀a,m.size<=a->d a=0):dm p d m (pS d b1 b2 b3 g) b:=by
 have f:=N.lo;refine⟨N.ext.size,λa c=>?_,λa c=>?_,λa c _=>N.ext.same a c⟩
 .unfold pS;rw[eV V,eV V,eV V]
 .unfold pS;rw[eV V,eV V,eV V];exact e a (oh N.ext.size)
def rm.qt{a:Nat->Nat}{m:E}{ak aR ba:List Int}(N:rm m b b1 b2 b3 k ak aR ba):
 iJ (pS a b1 b2 b3 g) b aA 1 (10+3*g) (.mk b1 0 k k) (ak.map Ce.i)/\iJ (pS a b1 b2 b3 g) b aA 1 (11+3*g) (.mk b2 0 k k) (aR.map Ce.i)/\iJ (pS a b1 b2 b3 g) b aA 1 (12+3*g) (.mk b3 0 k k) (ba.map Ce.i):=by
 have f:=N.lo
 let⟨c,d,e⟩:=N.len
 refine⟨⟨by simp[c],aL,Or.inr ⟨b1,k,[],rfl,?_,by rw[dX];exact N.kr,by simp[c]⟩⟩,⟨by simp[d],aL,Or.inr ⟨b2,k,[],rfl,?_,by rw[dX];exact N.ko,by simp[d]⟩⟩,⟨by simp[e],aL,Or.inr ⟨b3,k,[],rfl,?_,by rw[dX];exact N.kh,by simp[e]⟩⟩⟩
 .unfold pS;rw[eV V,eV V,fJ]
 .unfold pS;rw[eV V,fJ]
 .unfold pS;rw[fJ]
def rm.box{m:E}{ak aR ba:List Int}(N:rm m b b1 b2 b3 k ak aR ba){m1:E}(a:J m1 m){nb:Nat}(d:m1.size<=nb)(e:nb<m.size)(i:Nat)(c:List Ce):rm m1 (ah b nb i c) b1 b2 b3 k ak aR ba:=by
 have f:=N.lo;have g:=a.size;exact⟨(a.trans N.ext).ah d _ _,by rw[av];omega,N.kr.congr (bd _ _ _ _ V),N.ko.congr (bd _ _ _ _ V),N.kh.congr (bd _ _ _ _ V),N.len⟩
def rm.Sy{m c:E}{ak aR ba:List Int}(N:rm m b b1 b2 b3 k ak aR ba)(a:J b c):rm m c b1 b2 b3 k ak aR ba:=by
 have d:=N.lo;have:=a.size;exact⟨N.ext.trans a,V,N.kr.ext a,N.ko.ext a,N.kh.ext a,N.len⟩
section
variable{B:E}{v:Nat->Nat}{m:E}{w:Nat}{d p aS z t:O}{s:St}{q:List aY}{u:aY}{D C A:O}{y:List (List Ce)}
def th.replace{c:Nat->Nat}(T:th v m t q u D C A y)(s:dm (λ_=>False) v m c b){a:aY}{g e d:O}(w:iJ c b aA 1 (10+3*q.length) g (a.ak.map Ce.i))(n:iJ c b aA 1 (11+3*q.length) e (a.aR.map Ce.i))(p:iJ c b aA 1 (12+3*q.length) d (a.ba.map Ce.i)):
 fL b t.D (t.off+q.length*6) 6/\nJ c (ah b t.D (t.off+q.length*6) [.i a.fG,.i a.pc,.i a.dst,.s g,.s e,.s d]) t (q++[a])/\dm (λk=>k=4) c b c (ah b t.D (t.off+q.length*6) [.i a.fG,.i a.pc,.i a.dst,.s g,.s e,.s d]):=by
 have j:th c b t q u D C A y:=T.eH s λ_ _=>id
 have l:y.flatten.length=q.length*6:=by rw[cw T.size,T.len]
 have i:dm (λk=>k=4) c b c (ah b t.D (t.off+q.length*6) [.i a.fG,.i a.pc,.i a.dst,.s g,.s e,.s d]):=dm.ah s.new j.D.1 _ _
 refine⟨j.qt.wr (by simp[l]),th.tf (f:=a) (a:=q) (j:=y) (r:=g) (e:=e) (h:=d) ⟨?_,T.len,T.size,j.yp i λk n p=>V,w.eH i V,n.eH i V,p.eH i V⟩,i⟩
 have:=j.qt.set (o:=q.length*6) (new:=[.i a.fG,.i a.pc,.i a.dst,.s g,.s e,.s d]) (by simp[l])
 rw[lF _ _ _ _ V,l,QD]at this
 exact this
def Nu(w nb:Nat)(d:List Nat)(k n f:Int)(g g1 g2:Int)(l j h:O)(e:E)(R:Value->E->Prop):Prop:=
 ((k==(24:Int))=true->
 let b:E:=ah e nb 2 [.i f]
 ∃a:O,af b w 8=some (O.v a)/\
 ∃c:O,af b w 8=some (O.v c)/\
 (0:Int)<=(cO ((c.len:Int) -(1:Int)))/\(cO ((c.len:Int) -(1:Int)))<(a.len:Int)/\
 fL b a.D (a.off+Int.toNat (cO ((c.len:Int) -(1:Int)))*6) 6/\
 let i:E:=ah b a.D (a.off+Int.toNat (cO ((c.len:Int) -(1:Int)))*6) [.i g,.i g1,.i f,.s l,.s j,.s h]
 eF (nb::d) b i/\
 R (.tuple #[]) i)/\
 ((k==(24:Int))=false->
 aN cq 142 [vp w 0,vi (cO (n+(1:Int)))] e λ_ a=>
 eF (nb::d) e a/\
 ∃m:O,af a w 8=some (O.v m)/\
 let c:E:=a.push (.cells (bt [.i g,.i g1,.i g2,.s l,.s j,.s h]) dP)
 af c w 8=af a w 8/\
 jO c dP [.i (0:Int),.i (0:Int),.i (0:Int),.s O.nil,.s O.nil,.s O.nil] 96 m (O.mk a.size 0 1 1) λo b=>
 eF (nb::d) c b/\
 fL b w 8 1/\
 let i:E:=ah b w 8 [.s o]
 eF (nb::d) b i/\
 R (.tuple #[]) i)
def OI(S:ST B v m w bL (SB d p s aS z t) aS z t s.aS s.heap q u D C A y){W:List Nat}(G:zE v m W){nb:Nat}{h:E}{g:aY}(N:rm m h b1 b2 b3 k g.ak g.aR g.ba)(ah:m.size<=nb/\nb<h.size)(r:nb≠b1/\nb≠b2/\nb≠b3)
 (az:q.length<=100000)(aD:0<=u.pc/\u.pc<=100000){R:Value->E->Prop}
 (ar:c.op=24->∀b,yG B v m w d p {s with ao:=q++[{g with dst:=u.dst}]} b->R (.tuple #[]) b)
 (au:c.op≠24->∀b,yG B v m w d p {s with ao:=q++[{u with pc:=u.pc+1},g]} b->R (.tuple #[]) b):
 Nu w nb W c.op u.pc u.dst g.fG g.pc g.dst (.mk b1 0 k k) (.mk b2 0 k k) (.mk b3 0 k k) h R:=by
 have aB:=N.lo
 have ay:=S.fW.yh
 have F:cO ((t.len:Int) -1)=(q.length:Int):=by rw[aP V V];omega
 have e2:Int.toNat (q.length:Int)=q.length:=V
 have e4:cO (u.pc+1)=u.pc+1:=aP V V
 have ai:v nb=0:=S.cQ.new _ ah.1
 have aC:=N.ext.size
 refine⟨λM=>?_,λM=>?_⟩
 .intro H
  have P:rm m H b1 b2 b3 k g.ak g.aR g.ba:=⟨N.ext.ah ah.1 _ _,by simp only[H,av];omega,N.kr.congr (bd _ _ _ _ (λF=>r.1 F.symm)),N.ko.congr (bd _ _ _ _ (λF=>r.2.1 F.symm)),N.kh.congr (bd _ _ _ _ (λF=>r.2.2 F.symm)),N.len⟩
  have ab:H.size=h.size:=av _ _ _ _
  clear_value H
  have o:dm (λ_=>False) v m (pS v b1 b2 b3 q.length) H:=P.eH S.cQ.new
  let⟨U,a2,a3⟩:=P.qt (a:=v) (g:=q.length)
  let⟨Z,w2,I⟩:=S.fW.replace o (a:={g with dst:=u.dst}) U a2 a3
  let⟨L,X⟩:=S.cQ.gE (o.mono λ_=>False.elim) (S.cQ.heap.eH o id id)
  have K:af H w 8=some (O.v t):=L.box.cp 8
  refine⟨t,K,t,K,?_⟩
  rw[F,e2]
  refine⟨V,V,Z,?_⟩
  intro aa
  let⟨T,Y⟩:=L.jM (I.mono λk Q=>V) w2
  refine⟨?_,ar (by simpa using M) _ ⟨_,aS,z,t,T,X.trans Y⟩⟩
  intro j e
  rcases List.mem_cons.1 e with rfl|e
  .refine I.eA _ V ?_
   unfold pS;rw[eV r.2.2,eV r.2.1,eV r.1,ai];decide
  .refine I.eA _ (oh ((G j e).1)) ?_
   rw[o.gW j (G j e).1,(G j e).2];decide
 .simp only[aj]at M
  rw[e4]
  have o:dm (λ_=>False) v m (pS v b1 b2 b3 (q.length+1)) h:=N.eH S.cQ.new
  let⟨U,a2,a3⟩:=N.qt (a:=v) (g:=q.length+1)
  let⟨ap,ax⟩:=S.cQ.gE (o.mono λ_=>False.elim) (S.cQ.heap.eH o id id)
  have I:ST B (pS v b1 b2 b3 (q.length+1)) h w bL (SB d p s aS z t) aS z t s.aS s.heap q u D C A y:=⟨ap,S.fW.eH o λ_ _=>id⟩
  have ag:zE (pS v b1 b2 b3 (q.length+1)) h (nb::W):=λj e=>by
   rcases List.mem_cons.1 e with rfl|e
   .refine⟨V,?_⟩;unfold pS;rw[eV r.2.2,eV r.2.1,eV r.1,ai]
   .exact⟨by have:=(G j e).1;omega,by rw[o.gW j (G j e).1];exact(G j e).2⟩
  apply ph (w,0)
  have K:af h w 8=some (O.v t):=I.cQ.box.cp 8
  refine⟨t,K,t,K,?_⟩
  rw[F,e2]
  refine⟨V,V,I.fW.Vp,?_⟩
  intro H
  let⟨L,aa⟩:=I.Oa (u.pc+1)
  have aq:dm (λk=>k=4) (pS v b1 b2 b3 (q.length+1)) h (pS v b1 b2 b3 (q.length+1)) H:=dm.ah I.cQ.new I.fW.D.1 _ _
  refine⟨aa.dJ ag,t,L.cQ.box.cp 8,?_⟩
  intro Z
  have Y:J H Z:=(J.az H).aK _
  let⟨T,am⟩:=L.ext Y
  have ac:=(ag.to aa).to am
  have jw:fR Z H.size 0 [.i g.fG,.i g.pc,.i g.dst,.s (.mk b1 0 k k),.s (.mk b2 0 k k),.s (.mk b3 0 k k)]:=(cD.push H _ _).iD
  have P:(q++[{u with pc:=u.pc+1}]).length=q.length+1:=aL
  have X:=λ{k:Nat}{s:O}{l:List Ce}(a:iJ (pS v b1 b2 b3 (q.length+1)) h aA 1 k s l)(Q:k≠4)=>(a.eH aq Q).eH (dm.eG (λ_=>False) Y L.cQ.new) id
  refine⟨Y.da (L.cQ.box.cp 8),nJ.push T.cQ.ao T.cQ.new (x:=.mk H.size 0 1 1) rfl (a:=g) jw (by rw[P];exact X U V) (by rw[P];exact X a2 V) (by rw[P];exact X a3 V) (by rw[P];omega) λal ak aw q1 q2=>?_⟩
  have ab:To _ Z al aw:=q2.mono λk Q=>V
  let⟨ad,aF⟩:=T.cQ.jM (q2.mono λk Q=>V) q1
  refine⟨ab.dJ ac,ad.mw (i:=8) aL,?_⟩
  intro aE
  let⟨ae,an⟩:=ad.jy 8 [.s ak]
  refine⟨an.dJ (ac.to ab),au M _ ⟨al,aS,z,ak,?_,(((ax.trans aa).trans am).trans ab).trans an⟩⟩
  have e9:q++[{u with pc:=u.pc+1}]++[g]=q++[{u with pc:=u.pc+1},g]:=aL
  rw[e9]at ae
  exact ae
end
end
section
variable{a:cT}
noncomputable def qW (a:cT) (s:St) (b:List aY) (f:aY) (x:Instr):St:=
 if x.op=9 then{s with bu:=s.bu+1,ao:=b++[{f with pc:=f.pc+1},bW a x.bQ x.dst (cL f x.args)]}
 else if x.op=24 then{s with bu:=s.bu+1,ao:=b++[bW a x.bQ f.dst (cL f x.args)]}
 else{s with bu:=s.bu+1,heap:=apart s.heap (aG f.ak (aG x.args 0)),ao:=b++[{f with pc:=f.pc+1},bW a ((aM s.heap (aG f.ak (aG x.args 0))).kj -cg a) x.dst ((aM s.heap (aG f.ak (aG x.args 0))).aF++[aG f.ak (aG x.args 1)])]}
section
variable{u:E}{n:Nat->Nat}{m:E}{q:Nat}{d p aS t j:O}{b:St}{e:List aY}{c:aY}{r v h:O}{y:List (List Ce)}
def ST.rv(S:ST u n m q bL (SB d p b aS t j) aS t j b.aS b.heap e c r v h y)(g:fg u d p a)(k:b.aS.length<=2000000000)(i:b.heap.length<=2000000000)(f:jA m j (e++[c])):
 RV m q 2 d p aS t j a {b with ao:=e++[c]}:=
 ⟨g.ext S.cQ.cv,S.cQ.box.cp 0,S.cQ.box.cp 1,S.cQ.box.cp 2,S.cQ.box.cp 3,S.cQ.box.cp 4,S.cQ.box.cp 5,S.cQ.box.cp 6,S.cQ.box.cp 7,S.cQ.box.cp 8,S.cQ.aS.nM V,S.cQ.heap.cells V,f⟩
def nJ.Ap{e:List aY}(b:nJ n m j e)(A:e.length<=2000000000)(q:∀c∈e,c.ak.length<=1000000/\c.aR.length<=1000000/\c.ba.length<=1000000):jA m j e:=by
 let⟨y,a,f,g,p⟩:=b;have t:j.len=e.length:=by have:=a.len;rw[cw g,f]at this;omega
 refine⟨t,a.le,V,λk x d=>?_⟩;let⟨o,i⟩:=cG y k (by rw[f];exact aw d);obtain⟨r,v,h,rfl,w,u,b⟩:=p k o x i d;let⟨B,C,D⟩:=q x (aq d);refine⟨_,⟨r,v,h,rfl,w.nM V,u.nM V,b.nM V⟩,λz l s=>?_⟩;have:=a.iD (k*6+z) l (fY g i s);rwa[<-di]at this
def Ng(al:ST u n m q bL (SB d p b aS t j) aS t j b.aS b.heap e c r v h y)(aQ:fg u d p a)(aE:ns a){z:Instr}{aa ah:O}(ha:ap u aa z.args)(bm:∀D∈z.args,0<=D/\D<c.ak.length)(bO:z.args.length<=4)
 (b0:z.op=9\/z.op=24\/z.op=11)(a4:(z.op=9\/z.op=24)->vO a z.bQ z.args.length)(bl:z.op=11->z.args.length=2/\vM a b.heap (aG c.ak (aG z.args 0)))
 (bY:c.ak.length=c.aR.length/\c.ba.length=c.aR.length/\c.aR.length<=2000)(bk:∀K∈e,K.ak.length<=1000000/\K.aR.length<=1000000/\K.ba.length<=1000000)(bB:0<=c.pc/\c.pc<=100000)(bU:e.length<=10000)(bV:b.heap.length<=1000000000)(b4:b.aS.length<=1000000000)(bP:0<=b.bu/\b.bu<=100000)
 {C:Nat->Int}(hI:fO b.heap C):
 aN cq 139 [vp q 0,fv c r v h,xv z aa ah] m λ_ M=>yG u n m q d p (qW a b e c z) M:=by
 apply vy (q,0)
 simp -zeta only[aD,aC]
 intro G m2
 have bE:J m m2:=((J.az m).aK _).aK _
 have s1:G.size=m.size+1:=by simp[G]
 have s2:m2.size=m.size+2:=by simp[m2,s1]
 have B2:=zE.Kr al.cQ.new s1 s2
 have kB:cD m2 G.size dW [.i z.op,.i z.dst,.i z.bQ,.i z.bZ,.s aa,.s ah]:=cD.push G _ _
 let⟨S2,t2⟩:=al.ext bE
 clear_value m2
 have br:zH a z:=λC=>let⟨A,Y,F,_⟩:=a4 C;⟨Y,A,F⟩
 have bM:(eS a.bo).length<=12:=by
  have:=rq aE.nT.types a.bo.length;rw[mU _ _ (ad _)]at this;exact this
 have bv:∀{n m t lh bx},ST u n m q bL bx aS t j b.aS lh e c r v h y->jA m j (e++[c]):=λal=>al.cQ.ao.Ap bF (λK B=>by
  rcases List.mem_append.1 B with B|B
  .exact bk K B
  .simp at B;subst B;omega)
 refine(sk (f:=c) (S2.Au V) (ha.ext S2.cQ.cv) bm V).mono ?_
 rintro _ m3 ⟨T,rfl,ow,aB⟩
 let⟨S3,t3⟩:=S2.ext aB
 have B3:=B2.to t3
 have bD:(cL c z.args).length=z.args.length:=by simp[cL]
 have ar:ap m3 T (cL c z.args):=ap.gD ow V
 have bJ:∀{M:E}{T:O}{ax:List Ce},gY M m3 aA 1 T ax->m.size<=M.size->T≠.nil->n T.D=0:=λho hs Z=>by
  rcases ho.D with C|C
  .exact absurd C Z
  .exact al.cQ.new _ V
 refine⟨t3.dJ B2,T,rfl,λK wv M=>∃(aI:Nat->Nat)(a8:O)(ak:List bN)(B:List Int)(A:dy),ST u aI M q bL (SB d p b aS a8 j) aS a8 j b.aS ak e c r v h y/\To n m aI M/\zE aI M [G.size,m.size]/\cD M G.size dW [.i z.op,.i z.dst,.i z.bQ,.i z.bZ,.s aa,.s ah]/\ap M wv B/\(B≠[]->aI wv.D=0)/\
  0<=K/\a.cF[K.toNat]? =some A/\B.length=A.params.length/\iL a z 0 B=dN A.cR 0 B/\
  (z.op=24->qW a b e c z={b with bu:=b.bu+1,heap:=ak,ao:=e++[bW a K c.dst B]})/\(z.op≠24->qW a b e c z={b with bu:=b.bu+1,heap:=ak,ao:=e++[{c with pc:=c.pc+1},bW a K z.dst B]}),?_,?_⟩
 .refine⟨λai=>?_,λai=>?_⟩
  .simp at ai
   let⟨F,U,a9,b5,bA,a6,bR⟩:=bl ai
   let⟨au,bC⟩:=bS U
   have a0:=hI.cell _ (aq au)
   have b6:=(a0.oX bC).2
   have a7:=aw au
   have bo:z.args=[aG z.args 0,aG z.args 1]:=by
    cases L:z.args with
    |nil=>rw[L]at F;simp at F
    |cons D ax=>cases ax with
     |nil=>rw[L]at F;simp at F
     |cons H ax=>cases ax with
      |nil=>rfl
      |cons _ _=>rw[L]at F;simp at F
   have a_:cL c z.args=[aG c.ak (aG z.args 0),aG c.ak (aG z.args 1)]:=by rw[bo];rfl
   have b8:=ar.len
   have b7:=ar.cap
   have gw:af m3 T.D (T.off+Int.toNat (0:Int)*1)=some (vi (aG c.ak (aG z.args 0))):=ar.aG (k:=0) (by rw[a_];rfl)
   have am:=S3.rv aQ V V (bv S3)
   generalize hw:aG c.ak (aG z.args 0)=w at*
   generalize hv:aG c.ak (aG z.args 1)=ag at*
   let⟨A,hq⟩:=cG a.cF (((aM b.heap w).kj -cg a).toNat)
   have aj:dO a ((aM b.heap w).kj -cg a)=A:=by simp[dO,hq]
   rw[aj]at bA a6
   refine⟨V,V,w,gw,d,am.bo,(fS am U.1 au).mono ?_⟩
   rintro _ m4 ⟨f4,rfl,bQ,W⟩
   let⟨S4,t4⟩:=S3.ext W
   have B4:=B3.to t4
   have a1:=am.ext W
   refine⟨t4.dJ B3,_,_,_,rfl,W.da am.bo,(qM a1.fy.bo aE.nT.types).mono ?_⟩
   rintro _ H ⟨rfl,aJ⟩
   let⟨P,t5⟩:=S4.ext aJ
   have B5:=B4.to t5
   have bj:=a1.ext aJ
   refine⟨t5.dJ B4,_,rfl,V,V,V,(fS bj U.1 au).mono ?_⟩
   rintro _ m6 ⟨f6,rfl,bt,aY⟩
   let⟨S6,t6⟩:=P.ext aY
   have B6:=B5.to t6
   have aH:=(W.trans aJ).trans aY
   have e1:(Int.toNat (1:Int))=1:=rfl
   have e2:(Int.toNat (T.len:Int))=T.len:=V
   rw[e1,e2]
   have bG:ap m6 (O.cut T 1 T.len 1) [ag]:=by
    have:=U1 (ar.ext aH) (by rw[bD];omega);rw[a_]at this;exact this
   have bT:=a0.fl
   refine⟨t6.dJ B5,_,_,_,rfl,(Mc bt bG bF).mono ?_⟩
   rintro _ m7 ⟨N,rfl,oe,aZ⟩
   let⟨S7,t7⟩:=S6.ext aZ
   have B7:=B6.to t7
   have ie:ap m7 N ((aM b.heap w).aF++[ag]):=ap.gD oe bF
   have ay:n N.D=0:=by
    rcases oe.D with C|C
    .subst C;have:=ie.len;simp at this
    .exact al.cQ.new _ (Ps aH.size aB.size)
   have bs:N.D<m7.size:=iI ie aL
   refine⟨t7.dJ B6,N,rfl,(BC S7.cQ U hI V).mono ?_⟩
   rintro _ D ⟨ab,rfl,hb,I,bq,bp⟩
   have t8:To n m7 n D:=I.mono λR Q=>V
   have B8:=B7.to t8
   have ba:ap D N ((aM b.heap w).aF++[ag]):=iT ie λ_=>I.eA _ bs (by rw[ay];decide)
   have bc:To n m n D:=(((((t2.trans t3).trans t4).trans t5).trans t6).trans t7).trans t8
   have bb:cD D G.size dW [.i z.op,.i z.dst,.i z.bQ,.i z.bZ,.s aa,.s ah]:=(kB.ext (aB.trans (aH.trans aZ))).congr (I.eA _ (B7 G.size aL).1 (by rw[(B7 G.size aL).2];decide))
   have e3:cO ((aM b.heap w).kj -((eS a.bo).length:Int))=(aM b.heap w).kj -cg a:=aP V V
   rw[e3]
   have aF:iL a z 0 ((aM b.heap w).aF++[ag])=dN A.cR 0 ((aM b.heap w).aF++[ag]):=by
    rw[Gn V,List.length_eq_zero_iff.1 a6]
   have a5:∀ak,ak=apart b.heap w->qW a b e c z={b with bu:=b.bu+1,heap:=ak,ao:=e++[{c with pc:=c.pc+1},bW a ((aM b.heap w).kj -cg a) z.dst ((aM b.heap w).aF++[ag])]}:=λak C=>by
    rw[qW,ae V,ae V,hw,hv,C]
   refine⟨t8.dJ B7,ab,rfl,λa3=>?_,λa2=>?_⟩
   .have aK:=hb.1 a3
    let⟨S,bK⟩:=S7.gE (I.mono λR Q=>Or.inl Q) (bq a3)
    have bZ:=S.cQ.heap.len
    refine⟨t,S.cQ.box.cp 7,?_⟩
    intro m9
    have bi:J D m9:=(J.az D).aK _
    let⟨S9,X⟩:=S.ext bi
    have B9:=B8.to X
    clear_value m9
    have bX:=U.1
    have bz:ix w=(w -1000).toNat:=rfl
    have e5:cO (w -1000)=w -1000:=aP V V
    rw[e5,<-bz]
    refine⟨V,V,S9.cQ.heap.wr (o:=0) a7 bn,?_⟩
    intro b9
    let⟨bw,bg⟩:=S9.cQ.heap.setCell S9.cQ.new a7 0 0 (f:=.mk D.size 0 0 0) (l:=[]) ⟨rfl,aL,aL,aL⟩ (λZ=>absurd rfl Z)
    let⟨az,aR⟩:=S9.gE (bg.mono λR Q=>Or.inl Q) bw
    have aW:=B9.to aR
    refine⟨aR.dJ B9,t,az.cQ.box.cp 7,(xW (az.cQ.heap.cells bF)).mono ?_⟩
    rintro _ b_ ⟨rfl,bh⟩
    let⟨ac,aT⟩:=az.ext bh
    have aX:=aW.to aT
    refine⟨aT.dJ aW,_,rfl,ac.cQ.mw (i:=7) aL,?_⟩
    intro aO
    obtain⟨be,ca⟩:=ac.gE (dm.az _ ac.cQ.new) (ac.cQ.heap.cut (tY _ _))
    obtain⟨bf,aU⟩:=be.jy 7 [.s (t.cut 0 (jq (b.heap.set (ix w) jd) (b.heap.set (ix w) jd).length) 3)]
    have bd:=aX.to aU
    have aV:To n D n aO:=((X.trans aR).trans aT).trans aU
    have bH:ap aO N ((aM b.heap w).aF++[ag]):=iT ba λ_=>aV.eA _ (oh I.size) (by rw[ay];simp)
    have bI:cD aO G.size dW [.i z.op,.i z.dst,.i z.bQ,.i z.bZ,.s aa,.s ah]:=bb.congr (aV.eA _ (B8 G.size aL).1 (by rw[(B8 G.size aL).2];simp))
    refine⟨aU.dJ aX,n,_,_,_,A,bf,bc.trans aV,bd,bI,bH,λ_=>ay,a9,hq,bF,aF,λC=>V,λ_=>a5 _ ?_⟩
    rw[apart,an aK];rfl
   .have aK:(aM b.heap w).aQ≠1:=λC=>by have:=hb.2 C;rw[a2]at this;simp at this
    let⟨S,bK⟩:=S7.gE (I.mono λR Q=>Or.inl Q) (bp a2)
    refine⟨n,t,_,_,A,S,bc,B8,bb,ba,λ_=>ay,a9,hq,bF,aF,λC=>V,λ_=>a5 _ ?_⟩
    rw[apart,ae aK]
  .simp at ai
   have D:z.op=9\/z.op=24:=V
   let⟨A,N,I,Q⟩:=a4 D
   have aj:dO a z.bQ=A:=by simp[dO,I]
   refine⟨n,t,b.heap,cL c z.args,A,S3,t2.trans t3,B3,kB.ext aB,ar,λZ=>bJ ow V (λC=>by subst C;have:=ar.len;simp at this;exact Z (List.length_eq_zero_iff.1 this.symm)),N,I,V,by rw[JB D,aj],λC=>?_,λC=>?_⟩
   .rw[qW,ae V,an C]
   .rw[qW,an V]
 .rintro K wv m4 ⟨au,aX,aT,B,A,S4,t4,B4,be,aY,bd,a9,hq,bh,aF,a6,a7⟩
  have aj:dO a K=A:=by simp[dO,hq]
  have bg:=(aE.dz A (aq hq)).ak
  have h3:=(aE.nT.dz A (aq hq)).1
  refine⟨b.bu,S4.cQ.box.cp 4,S4.cQ.mw (i:=4) aL,?_⟩
  have e3:cO (b.bu+1)=b.bu+1:=aP V V
  rw[e3]
  intro H
  let⟨P,t5⟩:=S4.jy 4 [.i (b.bu+1)]
  have B5:zE au H [G.size,m.size]:=B4.to t5
  replace t5:To au m4 au H:=t5
  have c5:dm (λR=>R=1) au m4 au H:=dm.ah S4.cQ.new S4.cQ.QF _ _
  have aZ:ap H wv B:=iT aY λZ=>c5.eA _ (iI aY Z) (by rw[bd Z];decide)
  have bf:cD H G.size dW [.i z.op,.i z.dst,.i z.bQ,.i z.bZ,.s aa,.s ah]:=be.congr (c5.eA _ (B4 G.size aL).1 (by rw[(B4 G.size aL).2];decide))
  replace P:ST u au H q bL (SB d p {b with bu:=b.bu+1,heap:=aT} aS aX j) aS aX j b.aS aT e c r v h y:=P
  refine⟨t5.dJ B4,d,P.cQ.box.cp 0,p,P.cQ.box.cp 1,?_⟩
  clear_value H
  have a3:=t4.trans t5
  have kg:∀{I a1:E},J I a1->∀{ab ac:Nat}{ag:Value},af I ab ac=some ag->af a1 ab ac=af I ab ac:=λL=>L.da
  have bc:(iL a z 0 B).length=B.length:=En _ _ _ _
  have bb:(bW a K z.dst B).ak=B++dj (A.ak.toNat -B.length):=by simp[bW,aj]
  have ba:(bW a K z.dst B).aR=iL a z 0 B++dj (A.ak.toNat -(iL a z 0 B).length):=by simp[bW,aj,aF,lV]
  have a_:(bW a K z.dst B).ba=dj A.ak.toNat:=by simp[bW,aj]
  have iH:∀(U az:E)(nb b1 b2 b3:Nat),J H U->rm U az b1 b2 b3 A.ak.toNat (B++dj (A.ak.toNat -B.length)) (iL a z 0 B++dj (A.ak.toNat -(iL a z 0 B).length)) (dj A.ak.toNat)->U.size<=nb/\nb<az.size->nb≠b1/\nb≠b2/\nb≠b3->
   Nu q nb [G.size,m.size] z.op c.pc c.dst K 0 z.dst (.mk b1 0 A.ak.toNat A.ak.toNat) (.mk b2 0 A.ak.toNat A.ak.toNat) (.mk b3 0 A.ak.toNat A.ak.toNat) az (λ_ M=>yG u n m q d p (qW a b e c z) M):=λU az nb b1 b2 b3 L N aR Z=>by
   let⟨SM,tM⟩:=P.ext L
   refine OI (s:={b with bu:=b.bu+1,heap:=aT}) (g:=bW a K z.dst B) (c:=z) SM (B5.to tM) (by rw[bb,ba,a_];exact N) aR Z V bB (λC M hF=>?_) (λC M hF=>?_)
   .rw[a6 C];exact yG.from hF (a3.trans tM)
   .rw[a7 C];exact yG.from hF (a3.trans tM)
  have aJ:∀{U:E}{os:O},J H U->ap U os (iL a z 0 B)->aN cq 159 [.agg #[O.v d,O.v p],vi K,vi z.dst,O.v wv,O.v os] U _:=λL ho=>yy (aQ.ext (P.cQ.cv.trans L)) a9 hq V z.dst (aZ.ext L) ho V bc
  have ay:∀{I S:E},J H I->J I S->∀ac,ac<6->af S G.size ac=af I G.size ac:=λY F ac hi=>by
   have R:=bf.ext Y;match ac,hi with
   |0,_=>exact F.da (R.cp 0)
   |1,_=>exact F.da (R.cp 1)
   |2,_=>exact F.da (R.cp 2)
   |3,_=>exact F.da (R.cp 3)
   |4,_=>exact F.da (R.cp 4)
   |5,_=>exact F.da (R.cp 5)
  have Kr:∀{I S:E},J H I->J I S->af S q 0=af I q 0/\af S q 1=af I q 1:=λY F=>⟨F.da (Y.af (P.cQ.box.cp 0)),F.da (Y.af (P.cQ.box.cp 1))⟩
  have a2:∀{U:E},J H U->oF 190 [vp q 0,xv z aa ah,O.v wv] U (iL a z 0 B):=λL=>EW (aQ.ext (P.cQ.cv.trans L)) (L.af (P.cQ.box.cp 0)) (L.af (P.cQ.box.cp 1)) br aa ah (aZ.ext L) V
  have sm:∀{I S:E},J H I->J I S->eF [G.size,m.size] I S:=λY F=>F.dq λab hb=>Y.lt (B5 ab hb).1
  have aU:∀{I S:E}{nb:Nat},J H I->J I S->nb<I.size->eF [nb,G.size,m.size] I S:=λY F aR=>F.dq λab hb=>by
   rcases List.mem_cons.1 hb with rfl|hb
   .exact aR
   .exact Y.lt (B5 ab hb).1
  refine⟨(a2 (J.az _)).mono ?_,?_⟩
  .rintro _ ai ⟨os,rfl,oo,Q⟩
   have io:ap ai os (iL a z 0 B):=ap.gD oo V
   refine⟨sm (J.az _) Q,os,rfl,ay (J.az _) Q 1 V,(Kr (J.az _) Q).1,(Kr (J.az _) Q).2,?_,?_⟩
   .refine(aJ Q io).mono ?_
    rintro _ am ⟨b1,b2,b3,rfl,N⟩
    have aK:=N.ext
    have aV:=Q.trans aK
    refine⟨sm Q aK,_,_,_,_,_,_,rfl,?_⟩
    intro a0
    have aO:J am a0:=(J.az am).aK _
    have D:=ay aV aO
    have X:=Kr aV aO
    refine⟨D 0 V,D 1 V,D 2 V,D 3 V,D 4 V,D 5 V,D 1 V,X.1,X.2,?_⟩
    intro aH
    have a5:J am aH:=aO.ah (ad _) _ _
    have bi:aH.size=am.size+1:=by simp[aH,a0,av]
    have aW:=N.lo
    exact iH ai aH am.size b1 b2 b3 Q (N.Sy a5) ⟨by have:=aK.size;omega,V⟩ ⟨V,V,V⟩
   .intro aH
    have am:J ai aH:=(J.az ai).aK _
    have a5:aH.size=ai.size+1:=by simp[aH]
    have D:=ay Q am
    have X:=Kr Q am
    refine⟨D 0 V,D 1 V,D 2 V,D 3 V,D 4 V,D 5 V,D 1 V,X.1,X.2,?_⟩
    clear_value aH
    refine(aJ (Q.trans am) (io.ext am)).mono ?_
    rintro _ a0 ⟨b1,b2,b3,rfl,N⟩
    have aK:=N.ext
    refine⟨aU (Q.trans am) aK V,_,_,_,_,_,_,rfl,?_⟩
    intro aO
    have aW:=N.lo
    have aV:=N.box am (nb:=ai.size) (ad _) V 0 [.i K,.i 0,.i z.dst,.s (.mk b1 0 A.ak.toNat A.ak.toNat),.s (.mk b2 0 A.ak.toNat A.ak.toNat),.s (.mk b3 0 A.ak.toNat A.ak.toNat)]
    exact iH ai aO ai.size b1 b2 b3 Q aV ⟨ad _,by simp only[aO,av];have:=aK.size;omega⟩ ⟨V,V,V⟩
  .intro ai
   have Q:J H ai:=(J.az H).aK _
   have a5:ai.size=H.size+1:=by simp[ai]
   have D:=ay (J.az _) Q
   have X:=Kr (J.az _) Q
   refine⟨D 0 V,D 1 V,D 2 V,D 3 V,D 4 V,D 5 V,D 1 V,X.1,X.2,?_⟩
   clear_value ai
   refine(a2 Q).mono ?_
   rintro _ aV ⟨os,rfl,oo,W⟩
   have io:ap aV os (iL a z 0 B):=ap.gD oo V
   have am:=Q.trans W
   have bi:=W.size
   refine⟨aU Q W V,os,rfl,ay Q W 1 V,(Kr Q W).1,(Kr Q W).2,?_⟩
   refine(aJ am io).mono ?_
   rintro _ a0 ⟨b1,b2,b3,rfl,N⟩
   have aH:=N.ext
   refine⟨aU am aH V,_,_,_,_,_,_,rfl,?_⟩
   intro aK
   have aW:=N.lo
   have aO:=N.box am (nb:=H.size) (ad _) V 0 [.i K,.i 0,.i z.dst,.s (.mk b1 0 A.ak.toNat A.ak.toNat),.s (.mk b2 0 A.ak.toNat A.ak.toNat),.s (.mk b3 0 A.ak.toNat A.ak.toNat)]
   exact iH H aK H.size b1 b2 b3 (J.az _) aO ⟨ad _,by simp only[aK,av];have:=aH.size;omega⟩ ⟨V,V,V⟩
def Nk(S:ST u n m q bL (SB d p b aS t j) aS t j b.aS b.heap e c r v h y)(ae:e.length<=100000)(w:Int)(U:∀g,e.getLast?=some g->0<=c.dst/\c.dst<g.ak.length/\c.dst<g.aR.length):
 aN cq 140 [vp q 0,fv c r v h,vi w] m λ_ Z=>yG u n m q d p (match e.getLast? with|none=>{b with cE:=0,value:=w,ao:=[]}|some g=>{b with ao:=e.dropLast++[g.put c.dst w (gK w)]}) Z:=by
 apply vz (q,0)
 simp -zeta only[aD,aC]
 intro f
 have Y:J m f:=(J.az m).aK _
 have s1:f.size=m.size+1:=by simp[f]
 let⟨k,t1⟩:=S.ext Y
 have M:n m.size=0:=S.cQ.new _ (ad _)
 have C:zE n f [m.size]:=λE G=>by simp at G;subst G;exact⟨V,M⟩
 clear_value f
 have H:=k.fW.yh
 have ab:=k.fW.qt.le
 have z:cO ((j.len:Int) -1)=(e.length:Int):=by rw[aP V V];omega
 have L:Int.toNat (e.length:Int)=e.length:=V
 have F:af f q 8=some (O.v j):=k.cQ.box.cp 8
 refine⟨j,F,j,F,?_⟩
 rw[z,L]
 refine⟨V,V,V,k.cQ.mw (i:=8) aL,?_⟩
 intro m2
 let⟨x,t2⟩:=k.cQ.jy 8 [.s (j.cut 0 e.length 6)]
 obtain⟨a,_⟩:=x.jM (dm.az _ x.new) (x.ao.Vj)
 have o:=C.to t2
 have ac:(j.cut 0 e.length 6).len=e.length:=by
  cases j with
  |nil=>simp at H
  |zW E I l=>simp at H
  |mk E I A l=>simp[O.cut]
 have e3:Int.toNat (0:Int)=0:=rfl
 refine⟨t2.dJ C,j.cut 0 e.length 6,a.box.cp 8,λA=>?_,λA=>?_⟩
 .simp at A
  have N:e=[]:=List.length_eq_zero_iff.1 V
  subst N
  refine⟨a.mw (i:=2) (by simp[kU]),?_⟩
  intro m3
  let⟨l,t3⟩:=a.jy 2 [.i 0]
  have D:=o.to t3
  refine⟨t3.dJ o,l.mw (i:=3) (by simp[kU]),?_⟩
  intro P
  let⟨K,B⟩:=l.jy 3 [.i w]
  exact⟨B.dJ D,n,aS,t,_,K,(((t1.trans t2).trans t3).trans B)⟩
 .simp at A
  have X:e.length≠0:=V
  have B:e≠[]:=λz=>X (by rw[z];rfl)
  obtain⟨g,l⟩:∃g,e.getLast?=some g:=⟨_,gG B⟩
  let⟨N,P,Q⟩:=U g l
  rw[l]
  simp only[]
  have W:e=e.dropLast++[g]:=by
   rw[gG B]at l;simp at l;rw[<-l];exact(ft B).symm
  have D:vf u n m2 q bL (SB d p b aS t (j.cut 0 e.length 6)) aS t (j.cut 0 e.length 6) b.aS b.heap (e.dropLast++[g]):=
   ⟨a.cv,a.jK,a.new,a.box,a.QF,a.aS,a.heap,by rw[<-W];exact a.ao⟩
  let⟨r',I,h',aa,T⟩:=D.ao.fW
  have R:e.dropLast.length<=100000:=bF
  refine(tQ (a:=b) ⟨D,T⟩ R N P Q w).mono ?_
  rintro _ m3 ⟨K,t3⟩
  exact⟨t3.dJ o,n,aS,t,_,K.cQ,(t1.trans t2).trans t3⟩
end
end
section
variable{b:cT}{a:Instr}
def zG.HE{s:St}{d:List aY}{f:aY}(C:zG b s d f a){aR:List Int}(j:aR=bD f.ak f.aR (bU b a))(i:∀o∈aR,0<=o):
 fO s.heap (λc=>fA d c+de f.ak aR c+eB ((bU b a).map (aG f.ak)) c)/\∀c,0<=fA d c+de f.ak aR c:=by
 have e:=yd (ak:=f.ak) (bU b a) f.aR C.KA C.Gl.1
 rw[<-j]at e
 refine⟨C.ok.heap.congr λc=>?_,λc=>?_⟩
 .rw[C.fr,fZ,kT,e];omega
 .have:=Ky (b:=d) (λg h=>C.ok.ao g (by rw[C.fr];exact bJ _ h)) c
  have:=tC (ak:=f.ak) i c
  omega
def QO{a:List bz}{t kj:Int}(h:kj∈cy a t):1<=t/\t<=a.length/\(tv (cy a t) kj:Int)=kj -fc a (t.toNat -1)/\(fc a (t.toNat -1):Int)<=kj:=by
 unfold cy at h⊢;by_cases b:1<=t/\t<=a.length
 .rw[an b]at h⊢;let⟨d,hd⟩:=cG a (t.toNat -1);rw[hd]at h⊢;simp only[nX,vI]at h⊢;let⟨i,c,e⟩:=List.mem_map.1 h;rw[List.mem_range]at c;have f:tv ((List.range d.cons.length).map λi=>((fc a (t.toNat -1)+i:Nat):Int)) kj=i:=by
   unfold tv;rw[List.findIdx_eq (by simpa using c)];refine⟨by simp[<-e],λj g=>?_⟩;simp;omega
  rw[f];exact⟨b.1,b.2,V,V⟩
 .rw[ae b]at h;simp at h
def Pc{k d e:Int}(l:gP d)(o:gP e)(m:E):HA cq 136 [vi k,vi d,vi e] m (vi (OY k d e)):=by
 have i:∀n:Int,-2000000<=n/\n<=2000000->HA cq 184 [vi (cO n)] m (vi (FK n)):=λn q=>by
  apply Iw;rw[aP V V];refine⟨?_,J.az _⟩;unfold FK;congr 1;repeat' split
  all_goals omega
 unfold gP at l o;have p: -2000000<=d*e/\d*e<=2000000:=by
  have a:(d*e).natAbs<=999*999:=by rw[Int.natAbs_mul];exact MC V V
  omega
 apply Kj;unfold OY;refine⟨λa=>?_,λa=>⟨λb=>?_,λb=>⟨λc=>?_,λc=>⟨λf=>⟨λh=>?_,λh=>?_⟩,λf=>?_⟩⟩⟩⟩
 .simp at a;rw[an a];exact(i _ V).then λj g=>⟨_,rfl,rfl,g⟩
 .simp at a b;rw[ae a,an b];exact(i _ V).then λj g=>⟨_,rfl,rfl,g⟩
 .simp at a b c;rw[ae a,ae b,an c];exact(i _ p).then λj g=>⟨_,rfl,rfl,g⟩
 .simp at a b c f h;rw[ae a,ae b,ae c,an ⟨f,h⟩];exact⟨rfl,J.az _⟩
 .simp at a b c f h;rw[ae a,ae b,ae c,ae V];exact⟨rfl,J.az _⟩
 .simp at a b c f;rw[ae a,ae b,ae c,ae V];exact⟨rfl,J.az _⟩
section
variable{q:E}{j:Nat->Nat}{m:E}{t:Nat}{d p aS n k:O}{c:St}{g:List aY}{f:aY}{r o h:O}{u:List (List Ce)}
def Ki(C:zG b c g f a){aR:List Int}(az:aR=bD f.ak f.aR (bU b a))(hM:lp b c f a aR)
 (ab:ST q j m t bL (SB d p c aS n k) aS n k c.aS c.heap g {f with aR:=aR} r o h u)(aX:fg q d p b){av a4:O}(ha:ap q av a.args)(hj:ap q a4 a.eM)(bq:c.heap.length<=900000000)(bB:c.aS.length<=900000000):
 aN cq 72 [vp t 0,fv f r o h,xv a av a4] m λ_ R=>yG q j m t d p (fV b c g f a aR) R:=by
 apply tP (t,0)
 simp -zeta only[aD,aC]
 intro m1 A
 have bl:J m A:=((J.az m).aK _).aK _
 have s1:m1.size=m.size+1:=by simp[m1]
 have s2:A.size=m.size+2:=by simp[A,s1]
 have D:=zE.Kr ab.cQ.new s1 s2
 have U:cD A m1.size dW [.i a.op,.i a.dst,.i a.bQ,.i a.bZ,.s av,.s a4]:=cD.push m1 _ _
 have kF:cD A m.size dP [.i f.fG,.i f.pc,.i f.dst,.s r,.s o,.s h]:=(cD.push m _ _).ext (J.push m1 _)
 let⟨y,t2⟩:=ab.ext bl
 clear_value A
 have bA:aR.length=f.aR.length:=by rw[az];exact ka _ _ _
 have bs:=C.Gl
 have F:=C.ly
 have hd:=C.dst
 have bi:=C.F.pc
 obtain⟨pq,_,bj,hP,bo,hI⟩:=C.I
 rw[bj]at bi
 have bC:=hP.len
 have ar:0<=f.pc/\f.pc<=100000:=V
 have a8:=C.ok.depth
 have bn:=C.ok.bu
 have bu:=C.ok.dU
 rw[C.fr]at a8
 have bp:g.length<=1000:=by simp at a8;omega
 have aZ:f.ak.length=aR.length/\f.ba.length=aR.length/\aR.length<=2000:=V
 have bG:r.len=f.ak.length:=by have:=ab.fW.ak.len;simp at this;omega
 have bw:o.len=aR.length:=by have:=ab.fW.aR.len;simp at this;omega
 have bm:=ha.len
 have e4:cO (f.pc+1)=f.pc+1:=aP V V
 have aa:1<=a.args.length->0<=aG a.args 0/\aG a.args 0<f.ak.length:=λK=>C.arg _ (fx V V)
 have M:∀{R},J q R->1<=a.args.length->af R av.D (av.off+Int.toNat (0:Int)*1)=some (vi (aG a.args 0)):=λZ K=>(ha.ext Z).pH V V
 have T:∀{j m bx aS n k lo lh o h u own'},ST q j m t bL bx aS n k lo lh g {f with aR:=own'} r o h u->∀{aE:Int},0<=aE->aE<f.ak.length->af m r.D (r.off+Int.toNat aE*1)=some (vi (aG f.ak aE)):=λab aE h0 K=>(ab.Au (by simp only[];omega)).pH h0 K
 have a7:=C.HE az hM.nn
 have bg:∀{j m n lh bx},ST q j m t bL bx aS n k c.aS lh g {f with aR:=aR} r o h u->jA m k (g++[{f with aR:=aR}]):=λab=>ab.cQ.ao.Ap bF (λah G=>by
  rcases List.mem_append.1 G with G|G
  .have Y:=C.ok.ao ah (by rw[C.fr];exact bJ _ G);obtain⟨pg,_,aH,ax,_⟩:=Y.Jt C.ok.fy;have K:=Y.lr;have N:=Y.lo;have h3:=Y.lh;rw[aH]at K N h3;have:=ax.ak;omega
  .simp at G;subst G;simp only[];omega)
 have a_:∀r',r'∈a.args->aG f.ak r'<1000->gP (aG f.ak r'):=λr' bk bt=>by
  have ay:=C.arg r' bk;rcases C.F.Sb _ (fx ay.1 ay.2)with P|P
  .exact P
  .omega
 have a5:∀{ac:E}(Z:J A ac)(X:Int)(s':St),s'={c with ao:=g++[aY.put {f with aR:=aR,pc:=f.pc+1} a.dst X 0]}->
  aN cq 135 [vp t 0,vi a.dst,vi X] ac λ_ R=>eF [m1.size,m.size] ac R/\yG q j m t d p s' R:=λZ X s' v=>by
  let⟨SM,tM⟩:=y.ext Z
  refine(Bw SM V hd.1 (by simp only[];omega) (by simp only[];omega) X ar).mono ?_
  rintro _ R ⟨S',t'⟩
  exact⟨t'.dJ (D.to tM),j,aS,n,k,by rw[v];exact S'.cQ,(t2.trans tM).trans t'⟩
 have aW:∀{ac:E}(Z:J A ac)(a1:Int)(s':St),s'={c with ao:=g++[{f with aR:=aR,pc:=a1}]}->
  aN cq 142 [vp t 0,vi a1] ac λ_ R=>eF [m1.size,m.size] ac R/\yG q j m t d p s' R:=λZ a1 s' v=>by
  let⟨SM,tM⟩:=y.ext Z
  refine(jY SM V a1).mono ?_
  rintro _ R ⟨S',t'⟩
  exact⟨t'.dJ (D.to tM),j,aS,n,k,by rw[v];exact S'.cQ,(t2.trans tM).trans t'⟩
 refine⟨λv=>?_,λe0=>?_⟩
 .simp at v
  exact a5 (J.az _) _ _ (by unfold fV;simp only[];rw[an v])
 simp only[aj]at e0
 refine⟨λv=>?_,λe1=>?_⟩
 .simp only[bR,aI]at v
  have N:=F.2.2.1 V
  have w:=aa V
  have H:0<=aG a.args 1/\aG a.args 1<f.ak.length:=C.arg _ (fx V V)
  have I:=hM.nM V
  refine⟨V,V,_,M y.cQ.cv V,w.1,V,_,T y w.1 w.2,V,V,_,(ha.ext y.cQ.cv).pH (i:=1) V V,H.1,V,_,T y H.1 H.2,?_⟩
  refine(Pc (a_ _ (fx V V) (I _ (fx V V))) (a_ _ (fx V V) (I _ (fx V V))) A).mono ?_
  rintro _ B ⟨rfl,z⟩
  refine⟨z.dq (λS hb=>(D S hb).1),_,rfl,z.da (U.cp 1),a5 z _ _ ?_⟩
  unfold fV;simp only[];rw[ae e0,an v]
 simp only[br,aj]at e1
 have am:¬(a.op=1\/a.op=2\/a.op=3\/a.op=4):=V
 refine⟨λv=>?_,λe5=>?_⟩
 .simp only[aI]at v
  have N:=F.2.1 V
  have w:=aa V
  have ag:(O.len aS)=c.aS.length:=by have:=y.cQ.aS.len;simp at this;omega
  refine⟨aS,y.cQ.box.cp 6,V,V,_,M y.cQ.cv V,w.1,V,_,T y w.1 w.2,?_⟩
  intro B
  have z:J A B:=(J.az A).aK _
  have jw:fR B A.size 0 [.i (aG f.ak (aG a.args 0))]:=(cD.push A _ _).iD
  let⟨I,t3⟩:=y.ext z
  have B3:=D.to t3
  clear_value B
  refine⟨z.da (y.cQ.box.cp 6),iJ.append (zs:=[.i 0]) (x:=.mk A.size 0 1 1) (c:=[.i (aG f.ak (aG a.args 0))]) I.cQ.aS I.cQ.new rfl jw (by simp only[O.gH];omega) λau aF m4 q1 q2=>?_⟩
  have Q:iJ au m4 aA 1 2 aF ((c.aS++[aG f.ak (aG a.args 0)]).map Ce.i):=by simpa using q1
  let⟨L,H⟩:=I.Ip q2 Q
  have B4:=B3.to H
  refine⟨H.dJ B3,L.cQ.mw (i:=6) aL,?_⟩
  intro m5
  let⟨S5,W⟩:=L.jy 6 [.s aF]
  refine⟨W.dJ B4,V,V,_,M S5.cQ.cv V,w.1,V,_,T S5 w.1 w.2,?_⟩
  refine(Bw (a:={c with aS:=c.aS++[aG f.ak (aG a.args 0)]}) S5 V hd.1 (by simp only[];omega) (by simp only[];omega) _ ar).mono ?_
  rintro _ m6 ⟨S6,t6⟩
  refine⟨t6.dJ (B4.to W),au,aF,n,k,?_,(((t2.trans t3).trans H).trans W).trans t6⟩
  unfold fV;simp only[];rw[ae e0,ae am,an v];exact S6.cQ
 simp only[aj]at e5
 have ba:∀X∈f.ba,X≠0->1000<=X/\ix X<c.heap.length:=λX hw a0=>by
  obtain⟨K,dd,bf,_⟩:=C.Lp X hw a0;exact⟨K,aw bf⟩
 refine⟨λv=>?_,λe6=>?_⟩
 .simp only[aI]at v
  have h6:=F.2.2.2.2.1 v
  refine(uQ y ha C.arg F.1 a.bQ aZ (by simp only[];omega) ⟨h6.1,h6.2.1⟩ ar V V ba).mono ?_
  rintro _ B ⟨al,ak,ai,ag,L3,t3⟩
  refine⟨t3.dJ D,al,ak,ai,ag,?_,t2.trans t3⟩
  have:fV b c g f a aR=nB c g {f with aR:=aR} a a.bQ:=by
   unfold fV nB;simp only[];rw[ae e0,ae am,ae e5,an v];rfl
  rw[this];exact L3
 simp only[aj]at e6
 refine⟨λv=>?_,λaV=>?_⟩
 .simp only[aI]at v
  have aO:=F.2.2.2.2.2.1 v
  have ay:a.bZ=0:=by rcases hI.bZ with P|P;exact P;omega
  have aQ:(eS b.bo).length<=12:=by
   have:=rq C.ok.fy.nT.types b.bo.length;rw[mU _ _ (ad _)]at this;exact this
  refine⟨d,y.cQ.box.cp 0,(qM (aX.ext y.cQ.cv).bo C.ok.fy.nT.types).mono ?_⟩
  rintro _ B ⟨rfl,z⟩
  let⟨I,t3⟩:=y.ext z
  have e3:cO (((eS b.bo).length:Int)+a.bQ)=cg b+a.bQ:=aP V V
  refine⟨t3.dJ D,_,rfl,z.da (U.cp 2),z.da (U.cp 0),z.da (U.cp 1),z.da (U.cp 2),z.da (U.cp 3),z.da (U.cp 4),z.da (U.cp 5),z.da (kF.cp 0),z.da (kF.cp 1),z.da (kF.cp 2),z.da (kF.cp 3),z.da (kF.cp 4),z.da (kF.cp 5),?_⟩
  rw[e3]
  refine(uQ I ha C.arg F.1 (cg b+a.bQ) aZ (by simp only[];omega) (by rw[ay];omega) ar V V ba).mono ?_
  rintro _ m4 ⟨au,aK,aB,aJ,Q,H⟩
  refine⟨H.dJ (D.to t3),au,aK,aB,aJ,?_,(t2.trans t3).trans H⟩
  have:fV b c g f a aR=nB c g {f with aR:=aR} a (cg b+a.bQ):=by
   unfold fV nB;simp only[];rw[ae e0,ae am,ae e5,ae e6,an v,ae (λhh=>hh.1 ay)];rfl
  rw[this];exact Q
 simp only[aj]at aV
 refine⟨λv=>?_,λe9=>?_⟩
 .simp only[bR,aI]at v
  have Q:=hI.op
  unfold mf at Q
  refine(Ng y aX C.ok.fy ha C.arg F.1 V (λe'=>?_) (λe'=>⟨F.2.2.1 V,hM.apply e'⟩) aZ (λah G=>?_) ar V V V V C.ok.heap).mono ?_
  .rw[ae V,ae V,ae V,ae V,an e']at Q;exact Q
  .have Y:=C.ok.ao ah (by rw[C.fr];exact bJ _ G)
   obtain⟨pg,_,aH,ax,_⟩:=Y.Jt C.ok.fy
   have K:=Y.lr
   have N:=Y.lo
   have h3:=Y.lh
   rw[aH]at K N h3
   have:=ax.ak
   omega
  rintro _ B ⟨al,ak,ai,ag,L3,t3⟩
  refine⟨t3.dJ D,al,ak,ai,ag,?_,t2.trans t3⟩
  have:fV b c g f a aR=qW b c g {f with aR:=aR} a:=by
   unfold fV qW;simp only[];rw[ae e0,ae am,ae e5,ae e6,ae aV,ae V,ae V,ae V,ae V,ae V,ae V,ae V,ae V];by_cases e9:a.op=9
   .rw[an e9,an e9];rfl
   .rw[ae e9,ae e9];by_cases Y:a.op=24
    .rw[an Y,an Y];rfl
    .rw[ae Y,ae Y,an V]
  rw[this];exact L3
 simp only[br,aj]at e9
 refine⟨λv=>?_,λbc=>?_⟩
 .simp only[aI]at v
  have N:=F.2.1 V
  have w:=aa V
  refine⟨V,V,_,M y.cQ.cv V,w.1,V,_,T y w.1 w.2,(Nk y V (aG f.ak (aG a.args 0)) (λah G=>?_)).mono ?_⟩
  .have a0:g≠[]:=λv=>by rw[v]at G;simp at G
   have Y:g=g.dropLast++[ah]:=by
    rw[gG a0]at G;simp at G;rw[<-G];exact(ft a0).symm
   have aH:g.length=g.dropLast.length+1:=by
    have:=nY List.length Y;simpa using this
   let⟨q1,q2,q3⟩:=C.ok.chain g.dropLast.length ah f (by rw[C.fr,Y];simp) (by rw[C.fr,<-aH];simp)
   have ax:=C.ok.ao ah (by rw[C.fr,Y];simp)
   have:=ax.lr
   have:=ax.lo
   exact⟨q1,by show f.dst<_;omega,by show f.dst<_;omega⟩
  rintro _ B ⟨al,ak,ai,ag,L3,t3⟩
  refine⟨t3.dJ D,al,ak,ai,ag,?_,t2.trans t3⟩
  unfold fV
  simp only[]
  rw[ae e0,ae am,ae e5,ae e6,ae aV,ae V,ae V,ae V,ae V,ae V,ae V,ae V,ae V,ae V,ae V,ae V]
  exact L3
 simp only[aj]at bc
 have bh:∀(ah:St),(if a.op=0 then ah else ah)=ah:=λah=>by split<;>rfl
 have MZ:fV b c g f a aR=(
  if a.op=14 then{c with heap:=mT c.heap (aG f.ak (aG a.args 0)),ao:=g++[{f with aR:=gT aR (aG a.args 0) (aG aR (aG a.args 0)+1),pc:=f.pc+1}]}
  else if a.op=15 then{c with heap:=nv (ic c.heap [aG f.ak (aG a.args 0)]),ao:=g++[{f with aR:=aR,pc:=f.pc+1}]}
  else if a.op=16\/a.op=17 then tB c g {f with aR:=aR} a
  else if a.op=18 then{c with ao:=g++[aY.put {f with aR:=aR,pc:=f.pc+1} a.dst (aG f.ak (aG a.args 0)) (gK (aG f.ak (aG a.args 0)))]}
  else if a.op=19 then{c with ao:=g++[aY.put {f with aR:=aR,pc:=f.pc+1} a.dst (aG (aM c.heap (aG f.ak (aG a.args 0))).aF a.bQ) 0]}
  else if a.op=20 then{c with ao:=g++[{f with aR:=aR,pc:=if aG f.ak (aG a.args 0)=0 then a.bQ else f.pc+1}]}
  else if a.op=21 then{c with ao:=g++[{f with aR:=aR,pc:=aG a.eM (tv (cy b.bo a.bQ) (aM c.heap (aG f.ak (aG a.args 0))).kj)}]}
  else{c with ao:=g++[{f with aR:=aR,pc:=a.bQ}]}):=by
  unfold fV
  simp only[]
  rw[ae e0,ae am,ae e5,ae e6,ae aV]
  by_cases aH:a.op=14
  .rw[an aH,an aH]
  rw[ae aH,ae aH]
  by_cases aJ:a.op=15
  .rw[an aJ,an aJ]
  rw[ae aJ,ae aJ]
  by_cases aK:a.op=16\/a.op=17
  .rw[an aK,an aK];rfl
  rw[ae aK,ae aK]
  by_cases aO:a.op=18
  .rw[an aO,an aO]
  rw[ae aO,ae aO]
  by_cases aQ:a.op=19
  .rw[an aQ,an aQ]
  rw[ae aQ,ae aQ]
  by_cases aT:a.op=20
  .rw[an aT,an aT]
  rw[ae aT,ae aT]
  by_cases aU:a.op=21
  .rw[an aU,an aU]
  rw[ae aU,ae aU]
  have:=C.Zq
  rw[an V]
 rw[MZ]
 clear MZ bh
 refine⟨λv=>?_,λa6=>?_⟩
 .simp only[aI]at v
  rw[an v]
  have N:=F.2.1 V
  have w:=aa V
  let⟨Y,bv⟩:=hM.Xa v
  let⟨be,bE⟩:=bS Y
  refine⟨V,V,_,M y.cQ.cv V,w.1,V,_,T y w.1 w.2,?_⟩
  intro B
  have z:J A B:=(J.az A).aK _
  have ow:gY A B aA 1 (.mk A.size 0 1 1) ([aG f.ak (aG a.args 0)].map Ce.i):=gY.new (J.az A) aA 1 _ 1 aL
  let⟨I,t3⟩:=y.ext z
  have B3:=D.to t3
  have hz:j A.size=0:=y.cQ.new _ (ad _)
  clear_value B
  refine(DM I.cQ (ap.gD ow aL) (λ_=>hz) (λX hw=>?_) (λbb hc=>?_) aL V).mono ?_
  .simp at hw;subst hw;exact⟨Y.1,aw be⟩
  .have:=C.ok.heap.cell bb hc;have P:=this.lo;have h6:=this.hi;omega
  rintro _ m4 ⟨a2,c4⟩
  let⟨L,H⟩:=I.gE (c4.mono λah hk=>Or.inl hk) a2
  have B4:=B3.to H
  have ax:aG a.args 0<aR.length:=V
  have bz:0<=aG aR (aG a.args 0)/\aG aR (aG a.args 0)<=999999:=by
   refine⟨hM.nn _ (fx (l:=aR) w.1 ax),?_⟩;have G:=oH (l:=aR) w.1 ax;rw[az]at G;let⟨qq,a3,a9⟩:=kZ _ _ _ _ G;have:=(C.OX qq (aq a3)).2;rw[<-az]at a9;omega
  have bd:cO (aG aR (aG a.args 0)+1)=aG aR (aG a.args 0)+1:=aP V V
  refine⟨H.dJ B3,V,V,_,M L.cQ.cv V,V,V,_,M L.cQ.cv V,w.1,V,aG aR (aG a.args 0),(L.JC (by simp only[];omega)).pH w.1 ax,w.1,V,L.fW.aR.Of w.1 ax,?_⟩
  rw[bd,e4]
  intro m5
  let⟨S5,W⟩:=L.pV w.1 ax (aG aR (aG a.args 0)+1)
  refine⟨W.dJ B4,(jY (a:={c with heap:=ji c.heap [aG f.ak (aG a.args 0)]}) S5 V (f.pc+1)).mono ?_⟩
  rintro _ m6 ⟨S6,t6⟩
  exact⟨t6.dJ (B4.to W),j,aS,n,k,S6.cQ,(((t2.trans t3).trans H).trans W).trans t6⟩
 simp only[aj]at a6
 rw[ae a6]
 have bb:a.args.length=1->a.args=[aG a.args 0]:=λK=>by
  cases Z:a.args with
  |nil=>rw[Z]at K;simp at K
  |cons ax G=>cases G with
   |nil=>rfl
   |cons bd G=>rw[Z]at K;simp at K
 refine⟨λv=>?_,λax=>?_⟩
 .simp only[aI]at v
  rw[an v]
  have N:=F.2.1 V
  have w:=aa V
  have ht:bU b a=[aG a.args 0]:=by unfold bU;rw[an V];exact bb V
  have G:=a7.1
  rw[ht]at G
  refine⟨n,y.cQ.box.cp 7,V,V,_,M y.cQ.cv V,w.1,V,_,T y w.1 w.2,?_⟩
  intro B
  have z:J A B:=(J.az A).aK _
  have ow:gY A B aA 1 (.mk A.size 0 1 1) ([aG f.ak (aG a.args 0)].map Ce.i):=gY.new (J.az A) aA 1 _ 1 aL
  let⟨I,t3⟩:=y.ext z
  have B3:=D.to t3
  clear_value B
  refine⟨z.da (y.cQ.box.cp 7),(GH I.cQ.heap I.cQ.new (ap.gD ow aL) (e:=λS=>fA g S+de f.ak aR S) (G.congr λS=>rfl) a7.2 V).mono ?_⟩
  rintro _ m4 ⟨au,aB,rfl,a2,c4⟩
  let⟨L,H⟩:=I.gE c4 a2
  have B4:=B3.to H
  refine⟨H.dJ B3,aB,rfl,L.cQ.mw (i:=7) aL,?_⟩
  intro m5
  let⟨S5,W⟩:=L.jy 7 [.s aB]
  rw[e4]
  refine⟨W.dJ B4,(jY (a:={c with heap:=nv (ic c.heap [aG f.ak (aG a.args 0)])}) S5 V (f.pc+1)).mono ?_⟩
  rintro _ m6 ⟨S6,t6⟩
  exact⟨t6.dJ (B4.to W),au,aS,aB,k,S6.cQ,(((t2.trans t3).trans H).trans W).trans t6⟩
 simp only[aj]at ax
 rw[ae ax]
 refine⟨λv=>?_,λau=>?_⟩
 .simp only[bR,aI]at v
  rw[an v]
  refine(IU y ha C.arg ⟨F.2.2.2.1 v,F.1⟩ v aZ ar V V (λaF G=>?_) (hM.NQ v).1 C.ok.heap).mono ?_
  .refine⟨hM.nn aF G,?_⟩
   let⟨ah,hk⟩:=List.mem_iff_getElem?.1 G
   simp only[]at hk
   rw[az]at hk
   let⟨qq,a3,a9⟩:=kZ _ _ _ _ hk
   have:=(C.OX qq (aq a3)).2
   omega
  rintro _ B ⟨al,ak,ai,ag,L3,t3⟩
  exact⟨t3.dJ D,al,ak,ai,ag,L3,t2.trans t3⟩
 simp only[br,aj]at au
 rw[ae V]
 refine⟨λv=>?_,λW=>?_⟩
 .simp only[aI]at v
  rw[an v]
  have N:=F.2.1 V
  have w:=aa V
  refine⟨V,V,_,M y.cQ.cv V,w.1,V,_,T y w.1 w.2,(tQ y V hd.1 (by simp only[];omega) (by simp only[];omega) _).mono ?_⟩
  rintro _ B ⟨I,t3⟩
  rw[e4]
  refine⟨t3.dJ D,(jY I V (f.pc+1)).mono ?_⟩
  rintro _ m4 ⟨L,H⟩
  exact⟨H.dJ (D.to t3),j,aS,n,k,L.cQ,(t2.trans t3).trans H⟩
 simp only[aj]at W
 rw[ae W]
 have ai:=y.rv aX V V (bg y)
 refine⟨λv=>?_,λI=>?_⟩
 .simp only[aI]at v
  rw[an v]
  have N:=F.2.1 V
  have w:=aa V
  let⟨Y,G⟩:=hM.load v
  have Q:=hI.op
  unfold mf at Q
  rw[ae V,ae V,ae V,ae V,ae V,ae V,ae V,an v]at Q
  refine⟨V,V,_,M y.cQ.cv V,w.1,V,_,T y w.1 w.2,(fS ai Y.1 (bS Y).1).mono ?_⟩
  rintro _ B ⟨fl,rfl,H,z⟩
  have L:=H.len
  refine⟨z.dq (λS hb=>(D S hb).1),_,_,_,rfl,z.da (U.cp 2),z.da (U.cp 1),Q.2.1,V,_,H.pH Q.2.1 G,a5 z _ _ rfl⟩
 simp only[aj]at I
 rw[ae I]
 refine⟨λv=>?_,λL=>?_⟩
 .simp only[aI]at v
  rw[an v]
  have N:=F.2.1 V
  have w:=aa V
  refine⟨V,V,_,M y.cQ.cv V,w.1,V,_,T y w.1 w.2,λP=>?_,λP=>?_⟩
  .simp at P;exact aW (J.az _) _ _ (by rw[an P])
  .simp at P;rw[e4];exact aW (J.az _) _ _ (by rw[ae P])
 simp only[aj]at L
 rw[ae L]
 refine⟨λv=>?_,λag=>?_⟩
 .simp only[aI]at v
  rw[an v]
  have N:=F.2.1 V
  have w:=aa V
  let⟨Y,ak⟩:=hM.Fs v
  let⟨be,bv,a2,aF⟩:=QO ak
  have Q:=hI.op
  unfold mf at Q
  rw[ae V,ae V,ae V,ae V,ae V,ae V,ae V,ae V,ae V,ae V,an v]at Q
  have a3:tv (cy b.bo a.bQ) (aM c.heap (aG f.ak (aG a.args 0))).kj<(cy b.bo a.bQ).length:=ud ⟨_,ak,aL⟩
  have bd:=hj.len
  have a9:=Q.2.2.1
  have aB:=(C.ok.heap.cell _ (aq (bS Y).1)).oX (bS Y).2
  have bz:=C.ok.fy.nT.types.len
  refine⟨V,V,_,M y.cQ.cv V,w.1,V,_,T y w.1 w.2,(fS ai Y.1 (bS Y).1).mono ?_⟩
  rintro _ B ⟨fl,rfl,H,z⟩
  have e7:cO (a.bQ -1)=((a.bQ.toNat -1:Nat):Int):=by rw[aP V V];omega
  rw[e7]
  have al:=y.cQ.cv.trans z
  refine⟨z.dq (λS hb=>(D S hb).1),_,_,_,rfl,d,z.af (y.cQ.box.cp 0),(kd (aX.ext al).bo C.ok.fy.nT.types V).mono ?_⟩
  rintro _ m4 ⟨rfl,G⟩
  have e8:cO ((aM c.heap (aG f.ak (aG a.args 0))).kj -((fc b.bo (a.bQ.toNat -1):Nat):Int))=((tv (cy b.bo a.bQ) (aM c.heap (aG f.ak (aG a.args 0))).kj:Nat):Int):=by
   rw[aP V V];omega
  refine⟨G.dq (λS hb=>z.lt (D S hb).1),_,rfl,G.da ((U.ext z).cp 5),?_⟩
  rw[e8]
  refine⟨V,V,_,(hj.ext (al.trans G)).pH V V,aW (z.trans G) _ _ rfl⟩
 simp only[aj]at ag
 rw[ae ag]
 refine⟨λv=>aW (J.az _) _ _ rfl,λw=>?_⟩
 simp only[aj]at w
 have:=C.Zq
 omega
end
end
section
def Ug(l a:List Int)(h:a.length=l.length):je (l.map Ce.i) 0 (a.map Ce.i)=a.map Ce.i:=by
 have:=Cl [] (a.map Ce.i) (l.map Ce.i) bF;simp only[eE,eW]at this;rw[this,Jl bF,dX]
section
variable{p:E}{b:Nat->Nat}{m:E}{q e:Nat}{i:List Ce}{aS j g:O}{l:List Int}{k:List bN}{c:List aY}{f:aY}{r a h:O}{d:List (List Ce)}
def ST.UZ(S:ST p b m q e i aS j g l k c f r a h d){aR:List Int}(t:aR.length=f.aR.length)(w:0<aR.length):fL m a.D a.off (aR.map Ce.i).length/\ST p b (ah m a.D a.off (aR.map Ce.i)) q e i aS j g l k c {f with aR:=aR} r a h d/\To b m b (ah m a.D a.off (aR.map Ce.i)):=by
 have T:=S.fW;have B:a.cap≠0:=λe=>by have:=(T.aR.DA e).1;simp at this;rw[this]at t;simp at t;rw[t]at w;simp at w
 have A:=T.aR.D B;have s:dm (λu=>u=11+3*c.length) b m b (ah m a.D a.off (aR.map Ce.i)):=dm.ah S.cQ.new A.2 _ _;have x:=T.aR.set (o:=0) (new:=aR.map Ce.i) bF;rw[Ug _ _ t,jH]at x;have v:th b (ah m a.D a.off (aR.map Ce.i)) g c {f with aR:=aR} r a h d:=⟨T.qt.eH s V,T.len,T.size,T.yp s λu _ y=>V,T.ak.eH s V,x,T.ba.eH s V⟩;let⟨y,z⟩:=S.cQ.jM (s.mono λu C=>V) v.tf;refine⟨?_,⟨y,v⟩,z⟩;have:=T.aR.wr (o:=0) (n:=(aR.map Ce.i).length) bF;rw[jH]at this;exact this
end
section
variable{h:E}{e:Nat->Nat}{b:E}{g:Nat}{d p aS c a:O}{s:St}
def Pd{k:cT}(M:vf h e b g bL (SB d p s aS c a) aS c a s.aS s.heap s.ao)(I:fg h d p k)(z:cY k s)(aM:∀P∈s.ao,∀A∈P.ak,A<=9223372036854775807)(aQ:s.heap.length<=900000000)(aW:s.aS.length<=900000000):
 aN cq 36 [vp g 0] b λ_ m'=>yG h e b g d p (nV k s) m':=by
 apply wL (g,0)
 simp -zeta only[aD,aC]
 refine⟨s.cE,M.box.cp 2,λT=>?_,λT=>?_⟩
 .simp at T
  rw[sY T]
  exact⟨e,aS,c,a,M,dm.az _ M.new⟩
 have ab:s.cE=3:=by simpa using T
 let⟨n,j,u⟩:=z.split ab
 have aT:s.ao.getLast?=some j:=by rw[u];simp
 have aJ:s.ao.dropLast=n:=by rw[u];simp
 have C:zG k s n j (eI k j):=⟨z,ab,u,rfl,aM⟩
 have a1:nV k s=(open Classical in if mX (eI k j).op/\s.bu=s.dU then{s with cE:=1}else if lp k s j (eI k j) (bD j.ak j.aR (bU k (eI k j)))then fV k s n j (eI k j) (bD j.ak j.aR (bU k (eI k j)))else{s with cE:=2}):=by
  unfold nV;rw[ae (by simpa using ab),aT,aJ]
 rw[a1]
 generalize eI k j=x at*
 have L':vf h e b g bL (SB d p s aS c a) aS c a s.aS s.heap (n++[j]):=by rw[<-u];exact M
 let⟨U,L,R,aA,Z⟩:=L'.ao.fW
 have S:ST h e b g bL (SB d p s aS c a) aS c a s.aS s.heap n j U L R aA:=⟨L',Z⟩
 have a9:=Z.yh
 have am:=z.depth
 have a8:=z.bu
 have ba:=z.dU
 rw[u]at am
 have a_:n.length<=1000:=by simp at am;omega
 have e1:cO ((a.len:Int) -1)=(n.length:Int):=by rw[aP V V];omega
 have e2:Int.toNat (n.length:Int)=n.length:=V
 have Q:af b g 8=some (O.v a):=S.cQ.box.cp 8
 let⟨g0,g1,g2,g3,g4,g5⟩:=Z.iD
 refine⟨a,Q,a,Q,?_⟩
 rw[e1,e2]
 refine⟨V,V,_,g0,_,g1,_,g2,U,g3,L,g4,R,g5,?_⟩
 intro m1
 have v:J b m1:=(J.az b).aK _
 refine⟨v.da g0,v.da g1,v.da g2,v.da g3,v.da g4,v.da g5,v.da Q,v.da Q,?_⟩
 intro t
 have a2:J b t:=v.ah (ad _) _ _
 have s2:t.size=b.size+1:=by simp[t,m1,av]
 have kF:cD t b.size dP [.i j.fG,.i j.pc,.i j.dst,.s U,.s L,.s R]:=cD.ah (m:=m1) (o:=0) (r:=[.i j.fG,.i j.pc,.i j.dst,.s U,.s L,.s R]) (cD.push b _ _)
 let⟨N,t2⟩:=S.ext a2
 clear_value t
 let⟨bh,hq,aZ,hP,aI,hI⟩:=C.I
 let⟨pa,pl,pc,bb,bd,ar,k0,k1,k2,k3,k4⟩:=I.cF.aG hq
 let⟨az,a3,ha,hj,i0,i1,i2,i3,i4,i5⟩:=ar.aG aI
 have be:=I.cF.len
 have bc:=ar.len
 have hF:=C.F
 have aY:=hF.fG
 have aq:=hF.pc
 rw[aZ]at aq
 have l:=N.cQ.cv
 refine⟨p,N.cQ.box.cp 1,aY.1,V,pc,l.af k4,aq.1,V,_,l.af i0,_,l.af i1,_,l.af i2,_,l.af i3,az,l.af i4,a3,l.af i5,?_⟩
 intro m3
 have q:J t m3:=(J.az t).aK _
 refine⟨q.da (l.af i0),q.da (l.af i1),q.da (l.af i2),q.da (l.af i3),q.da (l.af i4),q.da (l.af i5),q.da (kF.cp 1),q.da (l.af k4),q.da (kF.cp 0),q.da (N.cQ.box.cp 1),?_⟩
 intro K
 have ag:J t K:=q.ah (ad _) _ _
 have s4:K.size=t.size+1:=by simp[K,m3,av]
 let⟨S4,t4⟩:=N.ext ag
 have a4:=kF.ext ag
 have B4:zE e K [t.size,b.size]:=λac H=>by
  simp at H;rcases H with rfl|rfl
  .exact⟨V,S.cQ.new _ V⟩
  .exact⟨V,S.cQ.new _ (ad _)⟩
 clear_value K
 have a7:=t2.trans t4
 refine(Mg _ _).mono ?_
 rintro _ m5 ⟨ac,rfl,H,ah⟩
 let⟨w,t5⟩:=S4.ext ah
 have W:=B4.to t5
 have B:=a4.ext ah
 have au:=a7.trans t5
 have aR:=C.Gl
 have h4:=C.ly
 have aa:(bD j.ak j.aR (bU k x)).length=j.aR.length:=ka _ _ _
 refine⟨t5.dJ B4,ac,rfl,λaG=>⟨s.bu,w.cQ.box.cp 4,s.dU,w.cQ.box.cp 5,λG=>?_,λG=>?_⟩,λaF=>?_⟩
 .simp at G
  refine⟨w.cQ.mw (i:=2) aL,?_⟩
  intro m6
  let⟨F,D⟩:=w.jy 2 [.i 1]
  refine⟨D.dJ W,e,aS,c,a,?_,au.trans D⟩
  rw[an ⟨H.1 aG,G⟩]
  have:=F.cQ
  rw[<-u]at this
  exact this
 all_goals
  have aH:¬(mX x.op/\s.bu=s.dU):=by
   first
   |exactλy=>by simp at G;exact G y.2
   |exactλy=>fb H aF y.1
  rw[ae aH]
  have al:=w.cQ.cv
  refine⟨d,w.cQ.box.cp 0,p,w.cQ.box.cp 1,(Kp (I.ext al) C.call (ha.ext al) V h4.2.2.2.1).mono ?_⟩
  rintro _ m6 ⟨ts,rfl,ot,y⟩
  let⟨F,D⟩:=w.ext y
  have B6:=W.to D
  have bf:=Jg k x
  have it:ap m6 ts (bU k x):=ap.gD ot V
  refine⟨D.dJ W,ts,rfl,y.da (B.cp 0),y.da (B.cp 1),y.da (B.cp 2),y.da (B.cp 3),y.da (B.cp 4),y.da (B.cp 5),?_⟩
  refine(IV (b:=j) (F.Au V) (F.JC V) it C.KA aR.1 V V (λA E=>oh (C.OX A E))).mono ?_
  rintro _ m7 ⟨os,rfl,oo,aE⟩
  let⟨A,t7⟩:=F.ext aE
  have B7:=B6.to t7
  have io:ap m7 os (bD j.ak j.aR (bU k x)):=ap.gD oo V
  have aO:jA m7 a (n++[j]):=A.cQ.ao.Ap bF (λP Y=>by
   have E:=z.ao P (by rw[u];exact Y);obtain⟨pg,_,ai,X,_⟩:=E.Jt z.fy;have q1:=E.lr;have q2:=E.lo;have q3:=E.lh;rw[ai]at q1 q2 q3;have:=X.ak;omega)
  have aj:=A.rv I V V aO
  have a0:({s with ao:=n++[j]}:St)=s:=by rw[<-u]
  rw[a0]at aj
  refine⟨t7.dJ B6,os,rfl,(Mj aj C (A.Au V) (A.Q6 V) (ha.ext A.cQ.cv) io aa).mono ?_⟩
  rintro _ m8 ⟨b2,rfl,ak,ai⟩
  let⟨P,t8⟩:=A.ext ai
  have X:=B7.to t8
  have aw:=((au.trans D).trans t7).trans t8
  refine⟨t8.dJ B7,b2,rfl,λh9=>?_,λh9=>?_⟩
  .rw[ae (nb ak h9)]
   refine⟨P.cQ.mw (i:=2) aL,?_⟩
   intro m9
   let⟨Y,E⟩:=P.jy 2 [.i 2]
   refine⟨E.dJ X,e,aS,c,a,?_,aw.trans E⟩
   have:=Y.cQ
   rw[<-u]at this
   exact this
  .have hM:=yb ak h9
   rw[an hM]
   have aV:=io.len
   have aU:L.len=j.aR.length:=by have:=P.fW.aR.len;simp at this;omega
   let⟨w1,Y,E⟩:=P.UZ aa V
   refine⟨(bD j.ak j.aR (bU k x)).map Ce.i,by rw[aV,aU,aa];simp[Nat.min_def];omega,(io.ext ai).Im,w1,?_⟩
   intro m9
   have B9:=X.to E
   refine⟨E.dJ X,(Ki C rfl hM Y I ha hj aQ aW).mono ?_⟩
   rintro _ bg aK
   let⟨a6,a5,aX,aB,ay,ax⟩:=aK
   exact⟨ax.dJ B9,a6,a5,aX,aB,ay,(aw.trans E).trans ax⟩
end
end
section
variable{a:cT}{s:St}{n:Nat}
structure Sm(n:Nat)(s:St):Prop where
 heap:s.heap.length<=n
 aS:s.aS.length<=n
 vh:∀g∈s.ao,∀w∈g.ak,w<=9223372036854775807
def BZ:∀(n:Nat)(h:List bN)(g:List Int),Cq h+g.length<=n->(ic h g).length=h.length
 |n,h,[],_=>by rw[tc]
 |0,h,w::r,b=>by simp at b
 |n+1,h,w::r,b=>by
  simp only[aZ]at b;rcases eg (gA h w)with a|a
  .let⟨e,f⟩:=bS a;by_cases c:(aM h w).aQ=1
   .have d:=kA (d:=jd) e;simp only[an f,jd]at d;simp at d;rw[td a c,BZ n _ _ (by simp[jd];omega)];simp
   .have d:=kA (d:={aM h w with aQ:=(aM h w).aQ -1}) e;simp only[an f]at d;rw[an V]at d;rw[qB a c,BZ n _ _ (by simp only[fm];omega)];simp[fm]
  .rw[qC a,BZ n _ _ V]
def Qs(h:List bN):(nv h).length<=h.length:=by unfold nv;simp;omega
def LG:∀(a:List Int)(g:List bN),(ji g a).length=g.length
 |[],g=>rfl
 |w::a,g=>by rw[ji,LG a];simp[mT]
def ND(h:List bN)(w:Int):(apart h w).length<=h.length:=by
 unfold apart;split
 .exact bI (Qs _) aL
 .rw[LG];simp[fm]
def NW(h:List bN)(a:Nat)(c:bN):(jg h a c).length<=h.length+1:=by
 unfold jg;split<;>simp
def Re{k:List aY}{f:aY}{x:Instr}(C:zG a s k f x)(B:Sm n s)(hn:n<=900000000)(aR:List Int)(Z:lp a s f x aR):Sm (n+1) (fV a s k f x aR):=by
 have hh:=B.heap;have ho:=B.aS;have v:=B.vh;rw[C.fr]at v;have hF:=C.F;have Y:=C.ly;have hd:=C.dst;have af:=C.Gl;have t:∀r,aG f.ak r<=9223372036854775807:=λr=>by
  rcases aW r.toNat f.ak.length with m|m
  .let⟨y,b⟩:=dB m;rw[HM b];exact v f aL y (aq b)
  .rw[aG,fU,cN m];simp
 have yp:∀g∈k,∀w∈g.ak,w<=9223372036854775807:=λg p=>v g (by simp[p]);have c:∀{g:aY},(∀w∈g.ak,w<=9223372036854775807)->∀q∈k++[g],∀w∈q.ak,w<=9223372036854775807:=λp q d=>by
  rcases List.mem_append.1 d with d|d
  .exact yp q d
  .simp at d;subst d;exact p
 have e:∀w∈f.ak,w<=9223372036854775807:=v f aL;have j:∀(H:Int),H<=9223372036854775807->∀w∈gT f.ak x.dst H,w<=9223372036854775807:=λH hv w b=>by
  rcases pN b with rfl|b
  .exact hv
  .exact e w b
 have ab:∀{w},gP w\/gA s.heap w->w<=9223372036854775807:=λh=>by
  rcases h with h|h
  .have:=h.2;omega
  .have m:=aw (bS h).1;unfold ix at m;omega
 have G:∀(g K:Int)(I:List Int),(∀w∈I,w<=9223372036854775807)->∀w∈(bW a g K I).ak,w<=9223372036854775807:=λg K I b w h=>by
  simp only[bW]at h;rcases List.mem_append.1 h with h|h
  .exact b w h
  .rw[qK h];omega
 have Kr:∀{g q:aY},(∀w∈g.ak,w<=9223372036854775807)->(∀w∈q.ak,w<=9223372036854775807)->∀J∈k++[g,q],∀w∈J.ak,w<=9223372036854775807:=λp d J o=>by
  rcases List.mem_append.1 o with o|o
  .exact yp J o
  .simp at o;rcases o with rfl|rfl
   .exact p
   .exact d
 have aa:∀w∈cL f x.args,w<=9223372036854775807:=λw b=>by
  obtain⟨r,_,rfl⟩:=List.mem_map.1 b;exact t r
 have ac:=qE s.heap;unfold fV;simp only[];by_cases y:x.op=0
 .rw[an y];exact⟨by simp only[];omega,by simp only[];omega,c (j _ (oh (Y.2.2.2.2.2.2 y)))⟩
 rw[ae y];by_cases L:x.op=1\/x.op=2\/x.op=3\/x.op=4
 .rw[an L];exact⟨by simp only[];omega,by simp only[];omega,c (j _ (oh ((Qa x.op (aG f.ak (aG x.args 0)) (aG f.ak (aG x.args 1))).2)))⟩
 rw[ae L];by_cases W:x.op=5
 .rw[an W];exact⟨by simp only[];omega,bF,c (j _ (t _))⟩
 rw[ae W];by_cases A:x.op=6
 .rw[an A];split
  .refine⟨bF,by simp only[];omega,c (j _ ?_)⟩;rename_i u;have E:=Y.2.2.2.2.1 A;obtain⟨F,D,z,_⟩:=C.Lp _ (fx (l:=f.ba) (i:=x.bZ -1) V V) u.2;have:=aw z;unfold ix at this;omega
  .refine⟨?_,by simp only[];omega,c (j _ V)⟩;have:=NW s.heap (dF s.heap) ⟨1,x.bQ,cL f x.args⟩;simp only[];omega
 rw[ae A];by_cases M:x.op=10
 .rw[an M];refine⟨?_,by simp only[];omega,c (j _ V)⟩;have:=NW s.heap (dF s.heap) ⟨1,cg a+x.bQ,cL f x.args⟩;simp only[];omega
 rw[ae M];by_cases N:x.op=14
 .rw[an N];exact⟨by simp[mT];omega,by simp only[];omega,c e⟩
 rw[ae N];by_cases O:x.op=15
 .rw[an O];refine⟨?_,by simp only[];omega,c e⟩;have m:=Qs (ic s.heap [aG f.ak (aG x.args 0)]);rw[BZ _ _ _ (ad _)]at m;simp only[];omega
 rw[ae O];by_cases P:x.op=16\/x.op=17
 .rw[an P];split
  .exact⟨bF,by simp only[];omega,c e⟩
  .refine⟨?_,by simp only[];omega,c e⟩;have:=ND s.heap (aG f.ak (aG x.args 0));simp only[];omega
 rw[ae P];by_cases Q:x.op=18
 .rw[an Q];exact⟨by simp only[];omega,by simp only[];omega,c (j _ (t _))⟩
 rw[ae Q];by_cases u:x.op=19
 .rw[an u];refine⟨by simp only[];omega,by simp only[];omega,c (j _ ?_)⟩;let⟨E,S⟩:=Z.load u;obtain⟨T,_,_,_,_,R⟩:=C.I;have z:=R.op;unfold mf at z;rw[ae V,ae V,ae V,ae V,ae V,ae V,ae V,an u]at z;let⟨D,F⟩:=bS E;exact ab (((C.ok.heap.cell _ (aq D)).oX F).1 _ (fx z.2.1 S))
 rw[ae u];by_cases R:x.op=20
 .rw[an R];exact⟨by simp only[];omega,by simp only[];omega,c e⟩
 rw[ae R];by_cases S:x.op=21
 .rw[an S];exact⟨by simp only[];omega,by simp only[];omega,c e⟩
 rw[ae S];by_cases T:x.op=22
 .rw[an T];exact⟨by simp only[];omega,by simp only[];omega,c e⟩
 rw[ae T];by_cases X:x.op=9
 .rw[an X];exact⟨by simp only[];omega,by simp only[];omega,Kr e (G _ _ _ aa)⟩
 rw[ae X];by_cases U:x.op=24
 .rw[an U];exact⟨by simp only[];omega,by simp only[];omega,c (G _ _ _ aa)⟩
 rw[ae U];by_cases z:x.op=11
 .rw[an z];refine⟨?_,by simp only[];omega,Kr e (G _ _ _ λw b=>?_)⟩
  .have:=ND s.heap (aG f.ak (aG x.args 0));simp only[];omega
  .rcases List.mem_append.1 b with b|b
   .obtain⟨E,_⟩:=Z.apply z;let⟨D,F⟩:=bS E;exact ab (((C.ok.heap.cell _ (aq D)).oX F).1 _ b)
   .simp at b;subst b;exact t _
 rw[ae z];split
 .exact⟨by simp only[];omega,by simp only[];omega,aL⟩
 .rename_i D E;refine⟨by simp only[];omega,by simp only[];omega,λq d=>?_⟩;have F:D∈k:=List.mem_of_getLast? E;rcases List.mem_append.1 d with d|d
  .exact yp q ((List.dropLast_sublist k).subset d)
  .simp at d;subst d;intro w b;rcases pN b with rfl|b
   .exact t _
   .exact yp D F w b
def Vm(h:cY a s)(c:Sm n s)(l:n<=900000000):Sm (n+1) (nV a s):=by
 have b:Sm (n+1) s:=⟨by have:=c.heap;omega,oh c.aS,c.vh⟩;by_cases d:s.cE=3
 .let⟨g,f,e⟩:=h.split d;have k:s.ao.getLast?=some f:=by rw[e];simp
  have j:s.ao.dropLast=g:=by rw[e];simp
  have C:zG a s g f (eI a f):=⟨h,d,e,rfl,c.vh⟩;unfold nV;rw[ae (by simpa using d),k,j];simp only[];split
  .exact⟨b.heap,b.aS,b.vh⟩
  split
  .rename_i i;exact Re C c l _ i
  .exact⟨b.heap,b.aS,b.vh⟩
 .rw[sY d];exact b
def tU{a:cT}:∀(k:Nat){s:St}{n:Nat},cY a s->Sm n s->n+k<=900000000->Sm (n+k) (aB a k s)
 |0,s,n,_,b,_=>b
 |k+1,s,n,h,b,c=>by
  have:=tU k (Sd h) (Vm h b V) V;rw[aB];have e:n+(k+1)=n+1+k:=V;rw[e];exact this
def Qo(a:cT)(dU:Int):Sm 0 (lQ a dU):=⟨by simp[lQ],by simp[lQ],λg b w c=>by
 simp[lQ]at b;subst b;simp only[bW,eE]at c;rw[qK c];omega⟩
end
section
variable{a:cT}
section
variable{c:E}{e:Nat->Nat}{m:E}{b:Nat}{d p aS g f:O}{s:St}
def JJ(L:vf c e m b bL (SB d p s aS g f) aS g f s.aS s.heap s.ao)(F:fg c d p a)(w:cY a s){y:Nat}(E:Sm y s)(h:Nat)(K:h<=100000)(M:y<=500000000):
 aN cq 42 [vp b 0,vi h] m λI u=>(∃i:Int,I=vi i)/\yG c e m b d p (aB a h s) u:=by
 apply xP (b,0)
 refine⟨λo u=>∃k:Nat,o=k/\k<=h/\yG c e m b d p (aB a k s) u,λo _=>((h:Int) -o).toNat,⟨0,rfl,dH _,e,aS,g,f,L,dm.az _ L.new⟩,?_⟩
 rintro o N ⟨k,rfl,J,A,z,x,v,l,t1⟩
 have G:=tT k w
 have t:=tU k w E V
 refine dit (λC=>?_) λC=>?_
 .refine⟨_,l.box.cp 2,λr=>?_,λr=>?_⟩
  .refine(Pd l F G t.vh (oh t.heap) (oh t.aS)).mono ?_
   rintro _ j i
   have q:cO ((k:Int)+1)=((k+1:Nat):Int):=jW (n:=h) V V
   rw[q]
   refine⟨⟨k+1,rfl,V,by rw[Fq];exact i.from t1⟩,?_⟩
   show((h:Int) -((k+1:Nat):Int)).toNat<((h:Int) -(k:Int)).toNat
   omega
  .simp at r
   have q:aB a h s=aB a k s:=by
    have D:h=k+(h -k):=V;have B:∀(i j:Nat)(s:St),aB a (i+j) s=aB a j (aB a i s):=by
     intro i;induction i with
     |zero=>intro j s;simp[aB]
     |succ i H=>intro j s;rw[Nat.succ_add];simp only[aB];exact H j _
    rw[D,B,vB _ r]
   rw[q]
   exact⟨⟨_,rfl⟩,A,z,x,v,l,t1⟩
 .have:k=h:=V
  subst this
  exact⟨⟨_,rfl⟩,A,z,x,v,l,t1⟩
end
def Fb{m:E}{t C:O}(I:fg m t C a)(x:ns a)(dU:Int):
 aN cq 87 [.agg #[O.v t,O.v C],vi dU] m λS f=>∃aS l u,S=.agg #[vi 3,vi 0,vi 0,vi dU,O.v aS,O.v l,O.v u]/\J m f/\∃b1 b2 b3 b4 k,aS.cap=0/\aS.len=0/\l.cap=0/\l.len=0/\u=.mk b4 0 1 1/\
  rm m f b1 b2 b3 k (bW a 0 0 []).ak (bW a 0 0 []).aR (bW a 0 0 []).ba/\(b4≠b1/\b4≠b2/\b4≠b3/\m.size<=b4/\b4<f.size)/\cD f b4 dP [.i 0,.i 0,.i 0,.s (.mk b1 0 k k),.s (.mk b2 0 k k),.s (.mk b3 0 k k)]:=by
 apply zp
 simp -zeta only[aD,aC]
 intro g z A p r e
 have v:J m e:=((((((J.az m).aK _).aK _).aK _).aK _).aK _).aK _
 have L:g.size=m.size+1:=by simp[g]
 have M:z.size=m.size+2:=by simp[z,L]
 have P:A.size=m.size+3:=by simp[A,M]
 have Q:p.size=m.size+4:=by simp[p,P]
 have R:r.size=m.size+5:=by simp[r,Q]
 have Y:e.size=m.size+6:=by simp[e,R]
 clear_value e
 have T:=x.nT.len
 let⟨q,n⟩:=cG a.cF 0
 have W:=(x.dz q (aq n)).ak
 have o:dO a 0=q:=by simp[dO,n]
 have B:∀b,ap e (.mk b 0 0 0) []:=λb=>⟨rfl,aL,aL,aL⟩
 refine(yy (I.ext v) (dw 0) n V 0 (B p.size) (B r.size) bF rfl).mono ?_
 rintro _ c ⟨b1,b2,b3,rfl,N⟩
 have j:=N.ext
 have U:=N.lo
 refine⟨j.dq bF,_,_,_,_,_,_,rfl,?_⟩
 intro d s
 have w:J c d:=(J.az c).aK _
 have Z:d.size=c.size+1:=by simp[d]
 have s9:s.size=d.size:=av _ _ _ _
 have X:=j.size
 have K:cD d c.size dP [.i 0,.i 0,.i 0,.s (.mk b1 0 q.ak.toNat q.ak.toNat),.s (.mk b2 0 q.ak.toNat q.ak.toNat),.s (.mk b3 0 q.ak.toNat q.ak.toNat)]:=cD.push c _ _
 have i:=N.Sy w
 have y:J m s:=(v.trans (j.trans w)).ah (show m.size<=g.size by omega) _ _
 have h:∀b,b≠g.size->s[b]? =d[b]? :=λb H=>bd _ _ _ _ H
 have G:(bW a 0 0 []).ak=[]++dj (q.ak.toNat -([]:List Int).length):=by simp[bW,o]
 have F:(bW a 0 0 []).aR=[]++dj (q.ak.toNat -([]:List Int).length):=by simp[bW,o,dN]
 have D:(bW a 0 0 []).ba=dj q.ak.toNat:=by simp[bW,o]
 refine⟨_,_,_,rfl,y,b1,b2,b3,c.size,q.ak.toNat,rfl,rfl,rfl,rfl,rfl,?_,V,K.congr (h _ V)⟩
 rw[G,F,D]
 exact⟨y,V,i.kr.congr (h _ V),i.ko.congr (h _ V),i.kh.congr (h _ V),N.len⟩
def Ui{m j g:E}{u:Nat}{MZ:List Ce}{aS i l:O}{dU:Int}{b1 b2 b3 b4 k e:Nat}(c:aS.cap=0/\aS.len=0/\i.cap=0/\i.len=0/\l=.mk b4 0 1 1)
 (N:rm m j b1 b2 b3 k (bW a 0 0 []).ak (bW a 0 0 []).aR (bW a 0 0 []).ba)(C:b4≠b1/\b4≠b2/\b4≠b3/\m.size<=b4/\b4<j.size)(B:cD j b4 dP [.i 0,.i 0,.i 0,.s (.mk b1 0 k k),.s (.mk b2 0 k k),.s (.mk b3 0 k k)])
 (d:J j g)(F:j.size<=e)(kb:cD g e u (MZ++[.i 3,.i 0,.i 0,.i dU,.s aS,.s i,.s l])):
 vf m (oA (oA (pS (λ_=>0) b1 b2 b3 0) b4 4) e 1) g e u (MZ++[.i 3,.i 0,.i 0,.i dU,.s aS,.s i,.s l]) aS i l [] [] [bW a 0 0 []]:=by
 have D:=N.lo
 have A:J m g:=N.ext.trans d
 have G:=kb.lt
 have H:=N.ext.size
 have t:∀b,b≠e->b≠b4->(oA (oA (pS (λ_=>0) b1 b2 b3 0) b4 4) e 1) b=pS (λ_=>0) b1 b2 b3 0 b:=λb p q=>by rw[eV p,eV q]
 let⟨y,a2,a3⟩:=(N.Sy d).qt (a:=λ_=>0) (g:=0)
 have conv:∀{v:Nat}{s:O}{w:List Ce},iJ (pS (λ_=>0) b1 b2 b3 0) g aA 1 v s w->s.D≠e->s.D≠b4->iJ (oA (oA (pS (λ_=>0) b1 b2 b3 0) b4 4) e 1) g aA 1 v s w:=λx p q=>x.eA (λ_=>rfl) (λ_=>t _ p q)
 refine⟨A,λb z=>?_,λb z=>?_,kb,fJ _ _ _,⟨by simp[c.2.1],by rw[c.1,c.2.1];exact ad _,Or.inl c.1⟩,⟨[],⟨by simp[c.2.2.2.1],by rw[c.2.2.1,c.2.2.2.1];exact ad _,Or.inl c.2.2.1⟩,gS.nil _ _,Xx.nil⟩,?_⟩
 .rw[t b V V];unfold pS;rw[eV V,eV V,eV V]
 .rw[t b (oh d.size) (oh d.size)];unfold pS;rw[eV (oh d.size),eV (oh d.size),eV (oh d.size)]
 .refine th.tf (a:=[]) (f:=bW a 0 0 []) (r:=.mk b1 0 k k) (e:=.mk b2 0 k k) (h:=.mk b3 0 k k) (j:=[]) ⟨?_,rfl,aL,aL,conv y (by simp only[O.jD];omega) (by simp only[O.jD];omega),conv a2 (by simp only[O.jD];omega) (by simp only[O.jD];omega),conv a3 (by simp only[O.jD];omega) (by simp only[O.jD];omega)⟩
  rw[c.2.2.2.2]
  refine⟨rfl,ad _,Or.inr ⟨b4,1,[],rfl,?_,?_,rfl⟩⟩
  .rw[eV V,fJ]
  .rw[dX];exact B.ext d
end
structure Exe where
 cE:Int
 value:Int
 bu:Int
 aS:List Int
 ok:Bool
end Go.Proofs.YtkoifinbblcbiaaGreat
