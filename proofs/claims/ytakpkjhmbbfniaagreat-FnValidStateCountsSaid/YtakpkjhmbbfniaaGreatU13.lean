/- Part of a proof, joined by a program. -/
import Derived.Test.YtakpkjhmbbfniaaGreatU12
set_option linter.unusedVariables false
set_option linter.unusedSimpArgs false
set_option linter.defProp false
set_option linter.constructorNameAsVariable false
set_option maxHeartbeats 8000000
set_option maxRecDepth 100000
namespace Go.Proofs.YtakpkjhmbbfniaaGreat
open Go.Vc
section
section
variable{c:List Nat}{b P:Nat}{h d p:O}{f:List bO}{g:List cY}{m:I}
def WX.m1{d c:Nat}{x y z:Ex}(j:f∈pM)(k:WX f d c x)(l:WX f d c y)(m:WX f d (c+2) z):WX f d c (.mk 8 1 [x,y,z]):=by
 obtain⟨e,-,g,h,-⟩:=Kn f j;refine .mt k (by rw[e];rfl) E λi o n b a=>?_;rw[e]at a;rcases i with _|_|i
 ·simp at b a;subst b a;rw[g];exact l
 ·simp at b a;subst b a;rw[h];exact m
 ·simp at b
def Hq(hS:∀s∈c,s<m.size)(L:b∈c)(s:GC b h P d p f g m)(hP:P+200+2*Cg 18<=10000000000000000){H:Nat}{r:cY}(hq:g[H]? =some r){ak:Int}(ha:0<=ak/\ak<(r.params.length:Int)):
 aN bY 212 [vp b 0,.agg #[O.v d,O.v p],vi H,vi ak] m (XP c b h m (P+200+2*Cg 18) (WX f g.length r.params.length)):=by
 apply Ah (b,0)
 simp -zeta only[aE,aD]
 intro j ab
 obtain⟨x2,hl⟩:=dj (a:=j) (b:=ab) rfl rfl
 have s1:j.size=m.size+1:=by simp[j]
 have s2:ab.size=m.size+2:=by simp[ab,s1]
 have hr:=s.rd.lt
 clear_value ab
 have aq:∀{i:I},ab.size<=i.size->∀s∈j.size::c,s<i.size:=λo=>bD hS V V
 have r2:Rs b h m P ab:=⟨x2.fz _,s.rd.ext x2⟩
 have L1:∀{i:I},ab.size<=i.size->Lw b [j.size,m.size] i:=λo=>lw hr bF
 obtain⟨ps,aZ,e0,e1⟩:=s.hp.u hq
 have bb:=ax hq
 have bg:=s.hp.len
 have aO:=uB _ (s.gp.dh r (ar hq))
 have h3:r.params.length<=3:=aO.1
 have PS:∀{i:I},Fz [b] m i->IR b i ps r.params:=λQ=>aZ.le (fh Q)
 have E1:∀{i:I},Fz [b] m i->D i p.F (p.off+H*5+1)=some (vi r.aR):=λQ=>(dN.1 (fh Q _ _ _ e1)).2
 have bh:=aZ.len
 have a1:=s.gp.ty (t:=0) bd bd
 have bf:=NC 18
 refine⟨V,V,ps,(dN.1 (fh r2.f _ _ _ e0)).2,?_⟩
 intro m3
 have x3:J ab m3:=J.push _ _
 have aQ:au (bz [b] m3) (.mk ab.size 0 2 2) [0,1]:=au.lit aB _ bF rfl rfl E
 clear_value m3
 have r3:=r2.ext x3
 have z3:=x3.size
 refine(dK (S:=[b]) bF (PS r3.f) aQ bF).mono λ_ m4⟨aT,wl,w,gw,qw,x4⟩=>⟨(L1 z3).de (x4.fz _),aT,w,?_⟩
 subst qw
 have a7:IR b m4 aT (r.params++[0,1]):=GI.done gw bF bF
 have r4:=r3.ext x4
 have z4:=x4.size
 intro m5
 have x5:J m4 m5:=J.push _ _
 have g5:GE (j.size::c) m4 m5 (.mk m4.size 0 0 0) []:=Gr.new _ (ad _) _ _ _
 clear_value m5
 refine dt (n:=r.params.length) V (λT y i=>∃N,GE (j.size::c) m4 i y N/\N.length=T/\(∀w∈N,WX f g.length (r.params.length+2) w)/\Rd b h (P+T) i/\Fz [b] m4 i) ⟨[],g5,rfl,E,(r4.r.ext x5).mono V,x5.fz _⟩ ?_
 rintro T y i a5 μ hj ⟨N,aM,be,hw,rM,fM⟩ a9
 have FM:=r4.f.trans fM
 have zM:=fM.size
 refine⟨λo=>?_,λ_=>?_⟩
 ·simp only[ao]at o
  obtain⟨aV,R⟩:=ag (l:=r.params) (k:=T) V
  have ij:∀{Q:Nat}{X:List Value}{z:I}{W:Nat},aN bY Q X z (XP (y.F::j.size::c) b h z W (WX f g.length (r.params.length+2)))->W<=P+(T+1)->Rd b h (P+(T+1)) z->Fz [b] i z->aN bY Q X z λac B=>dV [j.size,m.size] z B/\∃K F:Int,∃r2:O,ac=.agg #[vi K,vi F,O.v r2]/\
   iP (B.push (.cells (br [.i K,.i F,.s r2]) bu)) bu [.i 0,.i 0,.s .nil] 40 y (O.mk B.size 0 1 1) λZ A=>dV [j.size,m.size] (B.push (.cells (br [.i K,.i F,.s r2]) bu)) A/\a5 Z (cO ((T:Int)+1)) A/\μ Z (cO ((T:Int)+1)) A<μ y T i:=λhc hQ F f1=>
   XP.jN hc (aM.fw y8.mono f1 (by simp;exact⟨Or.inr L,V⟩)) (fM.trans f1) (L1 V) r4.r (by simp[L]) V λw Z A u g' r' f' _ _=>
    a9 V _ _ ⟨_,g',bF,λq C=>by rcases List.mem_append.1 C with o|o;exact hw q o;simp at o;subst o;exact u,r'.mono hQ,f'⟩
  refine⟨λ_=>?_,λ_=>⟨V,V,aV,(dN.1 ((PS FM).u R)).2,λ_=>?_,λ_=>?_⟩⟩
  ·rw[aP (x:=(ps.len:Int)+1) V V]
   exact ij (((kQ _ _ _).x rM).mono λ_ _ o=>o.mono (λw u=>u▸.Ra ⟨V,V⟩) (ad _)) V (rM.mono V) (Fz.aC _ _)
  ·refine(bM rM V 2).mono λ_ m6⟨ah,en,_,_,G,C⟩=>⟨(L1 V).de C,ah,en,λ_=>?_,λ_=>?_⟩
   ·have z6:=C.size
    have aa:∀{z:I},m6.size<=z.size->∀s∈y.F::j.size::c,s<z.size:=λo=>bD (aq (i:=m6) V) o (by have:=aM.aZ.2;omega)
    refine uy (y.F::j.size::c) f g.length (a:=r.params.length+2) (L1 V) V λs7 m7 h7 U=>?_
    have z7:=U.size
    refine uy (y.F::j.size::c) f g.length (a:=r.params.length+2) (L1 V) V λs8 q h8 x8=>?_
    have z8:=x8.size
    intro m9
    have x9:J q m9:=J.push _ _
    have hs:eK (bz (y.F::j.size::c) m9) (.mk q.size 0 2 2) [.mk 12 T [],.mk 12 ps.len []]:=mZ (S:=y.F::j.size::c) (M:=q) [(.mk 12 T [],s7),(.mk 12 ps.len [],s8)] E (aa V) (by simp;exact⟨(h7.ext x8).sl,h8.sl⟩) rfl rfl
    have Y:=((G.ext U).ext x8).ext x9
    exact ij ((lK Y hs 1 0).mono λ_ _ o=>o.mono (λw u=>u▸.dX bd (λo=>V) bd (λo=>V) (by simp;exact⟨h7.wx,h8.wx⟩)) (ad _)) V Y (((C.then U).then x8).then x9)
   ·exact ij (((kQ _ _ _).x G).mono λ_ _ o=>o.mono (λw u=>u▸.Ra ⟨V,V⟩) (ad _)) V G C
  ·exact ij (((kQ _ _ _).x rM).mono λ_ _ o=>o.mono (λw u=>u▸.Ra ⟨V,V⟩) (ad _)) V (rM.mono V) (Fz.aC _ _)
 refine iB (aM.done y8.mono (aq (i:=m4) V) bd V) (.dX (a:=r.params.length+2) (b:=f) (c:=g.length) bd (λo=>V) bd (λ_=>⟨V,V⟩) hw) (L1 V) λs6 m6 h6 x6=>?_
 have z6:=x6.size
 intro m7 q
 obtain⟨x8,B8,z8⟩:=jC (M:=m6) (d:=m7) (c:=q) rfl rfl rfl
 clear_value q
 have h8:=h6.ext x8
 intro m9 F
 obtain⟨aU,ay,vP⟩:=BX.new (f:=m9) (d:=F) h8 rfl rfl
 clear_value F
 have ac:Rs b h m (P+3) F:=⟨((FM.then x6).then x8).then aU,(((rM.ext x6).ext x8).ext aU).mono V⟩
 have hk:q.size≠b:=V
 have L2:∀{i:I},F.size<=i.size->Lw b [q.size,m6.size,j.size,m.size] i:=λo=>lw hr bF
 have av:∀{i:I},F.size<=i.size->∀s∈q.size::j.size::c,s<i.size:=λo=>bD (aq (i:=F) V) o V
 have aW:∀{i:I},Fz [b] m4 i->IR b i aT (r.params++[0,1]):=λQ=>a7.le (fh Q)
 have aY:Fz [b] m4 F:=((fM.then x6).then x8).then aU
 have wl:(r.params++[0,1]).length=r.params.length+2:=E
 refine⟨λi=>∃y w,BX (j.size::c) f g.length (r.params.length+2) q.size i y w/\Rs b h m (P+10+Cg 18) i/\F.size<=i.size,⟨V,V,_,E1 ac.f,λa0=>?_,λ_=>⟨V,V,_,E1 ac.f,λ_=>?_,λ_=>⟨s6,_,ay,⟨ac.f,ac.r.mono V⟩,ad _⟩⟩⟩,?_⟩
 ·simp only[aL]at a0
  refine(bM ac.r V 5).mono λ_ af⟨ah,en,_,_,aK,A⟩=>⟨(L2 (ad _)).de A,ah,en,λ_=>?_,λ_=>⟨V,V,_,E1 (ac.f.trans A),λo=>by rw[a0]at o;exact absurd o bd,λ_=>⟨s6,_,ay.fz (by simp[L]) hk A,⟨(ac.to A aK).f,aK.mono V⟩,A.size⟩⟩⟩
  have U:=ac.to A aK
  have X:=A.size
  have aX:=ay.fz (by simp[L]) hk A
  refine C1 (v:=r.params++[0,1]) (S:=q.size::j.size::c) (av X) (by simp[L]) (s.to U.f U.r) V (aW (aY.trans A)) bF a1 bd (L2 X) λan aF B ap am u=>?_
  rw[wl]at ap
  intro aa Y
  obtain⟨ae,aJ,ba⟩:=BX.new (f:=aa) (d:=Y) ap rfl rfl
  clear_value Y
  have a3:=u.size
  have aC:=(U.to u am).ext ae
  have al:=(aX.fz (by simp[L]) hk u).ext ae
  have bc:B.size≠b:=V
  have aI:HX (B.size::q.size::j.size::c) f g.length (r.params.length+2) Y s6 (.mk 9 H N):=(aX.h.fz (by simp[L]) u).fx ae (ad _)
  have L3:∀{i:I},Y.size<=i.size->Lw b [B.size,q.size,m6.size,j.size,m.size] i:=λo=>lw hr bF
  refine⟨λi=>∃y w,BX (q.size::j.size::c) f g.length (r.params.length+2) B.size i y w/\HX (q.size::j.size::c) f g.length (r.params.length+2) i s6 (.mk 9 H N)/\Rs b h m (P+4+Cg 18) i/\Y.size<=i.size/\cD i q.size bu [.i 9,.i H,.s s6],⟨λ_=>?_,λ_=>⟨aF,an,aJ,aI.fI,aC,ad _,al.b⟩⟩,?_⟩
  ·obtain⟨aV,R⟩:=ag (l:=r.params) (k:=0) V
   refine⟨bd,V,aV,(dN.1 ((PS aC.f).u R)).2,λ_=>?_,λ_=>⟨aF,an,aJ,aI.fI,aC,ad _,al.b⟩⟩
   refine uy (B.size::q.size::j.size::c) f g.length (a:=r.params.length+2) (L3 (ad _)) V λaG aw aA W=>?_
   have a4:=W.size
   refine uy (B.size::q.size::j.size::c) f g.length (a:=r.params.length+2) (L3 a4) V λaH K ai C=>?_
   have bi:=C.size
   intro aR
   have a2:J K aR:=J.push _ _
   have hs:eK (bz (B.size::q.size::j.size::c) aR) (.mk K.size 0 2 2) [.mk 12 0 [],.mk 12 ps.len []]:=mZ (S:=B.size::q.size::j.size::c) (M:=K) [(.mk 12 0 [],aG),(.mk 12 ps.len [],aH)] E (bD (av (i:=K) V) (ad _) V) (by simp;exact⟨(aA.ext C).sl,ai.sl⟩) rfl rfl
   have bj:=a2.size
   refine iB (M:=aR) hs (.dX (a:=r.params.length+2) (b:=f) (c:=g.length) bd (λo=>V) bd (λo=>V) (by simp;exact⟨aA.wx,ai.wx⟩)) (L3 V) λaS a8 a6 a_=>?_
   have G:=((W.trans C).trans a2).trans a_
   have hb:=(aJ.ext G).set a6
   have ha:=(aI.ext G).put (k:=B.size) E 0 [.i 11,.i 0,.s aS]
   have hB:cD (aj a8 B.size 0 [.i 11,.i 0,.s aS]) q.size bu [.i 9,.i H,.s s6]:=(al.b.ext G).congr (bn _ _ _ _ V)
   exact⟨aS,.mk 11 0 [.mk 12 0 [],.mk 12 ps.len []],hb,ha.fI,(aC.ext G).put s.rd V _ _,by rw[az];have:=G.size;omega,hB⟩
  rintro M3 ⟨y,w,R,G,Z,aS,aV⟩
  refine⟨_,R.b.cy 0,_,R.b.cy 1,_,R.b.cy 2,?_⟩
  intro aw
  have W:J M3 aw:=J.push _ _
  have hs:eK (bz (q.size::j.size::c) aw) (.mk M3.size 0 2 2) [w,.mk 9 H N]:=mZ (S:=q.size::j.size::c) (M:=M3) [(w,y),(.mk 9 H N,s6)] E (av V) (by simp;exact⟨R.h.fI.sl,G.sl⟩) rfl rfl
  have a4:=W.size
  refine iB (M:=aw) hs (.Mj (by simp;exact⟨R.h.wx,G.wx⟩)) (L2 V) λaH K ai C=>?_
  have hb:=(BX.mk (e:=.mk 9 H N) ((aV.ext W).ext C) ((G.ext W).ext C)).set ai
  have aR:=((Z.ext W).ext C).put s.rd (k:=q.size) V 0 [.i 6,.i 1,.s aH]
  exact⟨aH,.mk 6 1 [w,.mk 9 H N],hb,⟨aR.f,aR.r.mono V⟩,by rw[az];have:=C.size;omega⟩
 ·intro af
  have G:J F af:=J.push _ _
  have aQ:au (bz [b] af) (.mk F.size 0 2 2) [1,2]:=au.lit aB _ bF rfl rfl E
  clear_value af
  have X:=G.size
  have K:∀{z M2:I}{C:Nat},F.size<=z.size->Fz [b] z M2->m.size<=C->C<F.size->∀A,D M2 C A=D z C A:=λo Q h1 h2 A=>kg Q hr ⟨h1,V⟩ A
  refine⟨K (ad _) (G.fz _) V V _,K (ad _) (G.fz _) V V _,K (ad _) (G.fz _) V V _,K (ad _) (G.fz _) V V _,K (ad _) (G.fz _) V V _,?_⟩
  have U:=ac.ext G
  refine(jw U.r V aQ E).mono λ_ B⟨ah,en,hn,am,u⟩=>⟨(L2 X).de u,ah,en,K X u V V _,K X u V V _,K X u V V _,K X u V V _,K X u V V _,?_⟩
  have aJ:=U.to u am
  have a3:=u.size
  refine C1 (v:=r.params++[0,1]) (S:=q.size::j.size::c) (av V) (by simp[L]) (s.to aJ.f aJ.r) V (aW ((aY.then G).trans u)) bF a1 bd (L2 V) λaH aV aa aI aR ai=>?_
  rw[wl]at aI
  have aX:=ai.size
  refine⟨K V ai V V _,K V ai V V _,K V ai V V _,?_⟩
  intro Y
  have ae:J aa Y:=J.push _ _
  have aC:=((ay.ext G).fz (by simp[L]) hk u).fz (by simp[L]) hk ai
  have hs:eK (bz (q.size::j.size::c) Y) (.mk aa.size 0 2 2) [aH,.mk 9 H N]:=mZ (S:=q.size::j.size::c) (M:=aa) [(aH,aV),(.mk 9 H N,s6)] E (av V) (by simp;exact⟨aI.sl,aC.h.sl⟩) rfl rfl
  have ba:=ae.size
  simp at hn
  refine iB (M:=Y) hs (.dX (a:=r.params.length+2) (b:=f) (c:=g.length) V (λo=>V) V (λo=>V) (by simp;exact⟨aI.wx,aC.h.wx⟩)) (L2 V) λaG aw aA W=>?_
  have hb:=((aC.ext ae).ext W).set aA
  have aK:=(((aJ.to ai aR).ext ae).ext W).put s.rd (k:=q.size) V 0 [.i ah,.i 0,.s aG]
  exact⟨aG,.mk ah 0 [aH,.mk 9 H N],hb,⟨aK.f,aK.r.mono V⟩,by rw[az];have:=W.size;omega⟩
 rintro M3 ⟨y,w,R,Z,aS⟩
 have L3:∀{i:I},F.size<=i.size->Lw b [m6.size,j.size,m.size] i:=λo=>lw hr bF
 have ah:∀{z M2:I}{C:Nat},M3.size<=z.size->Fz [b] z M2->m.size<=C->C<F.size->∀A,D M2 C A=D z C A:=λo Q h1 h2 A=>kg Q hr ⟨h1,V⟩ A
 refine⟨V,V,_,E1 Z.f,_,R.b.cy 0,_,R.b.cy 1,_,R.b.cy 2,?_⟩
 refine uy (j.size::c) f g.length (a:=r.params.length) (L3 aS) ha λaC af ai G=>?_
 have X:=G.size
 have K:∀C A,m.size<=C->C<F.size->D af C A=D M3 C A:=λC A h1 h2=>ah (ad _) (G.fz _) h1 h2 A
 refine⟨K _ _ V V,K _ _ V V,K _ _ V V,(E1 (Z.f.then G)).trans (E1 Z.f).symm,K _ _ V V,K _ _ V V,K _ _ V V,?_⟩
 have U:=Z.ext G
 refine C1 (S:=j.size::c) (aq V) (by simp[L]) (s.to U.f U.r) V (PS U.f) V (s.gp.ty aO.2.2.1 aO.2.2.2) bd (L3 V) λan aF B ap am u=>?_
 have W:∀A,D B q.size A=D af q.size A:=ah X u V V
 refine⟨W _,W _,W _,?_⟩
 have a3:=u.size
 intro aa
 have aw:J B aa:=J.push _ _
 have al:=(R.ext G).fz (by simp[L]) hk u
 have hs:eK (bz (j.size::c) aa) (.mk B.size 0 3 3) [.mk 12 ak [],an,w]:=mZ (S:=j.size::c) (M:=B) [(.mk 12 ak [],aC),(an,aF),(w,y)] E (aq V) (by simp;exact⟨(ai.fz (by simp[L]) u).sl,ap.sl,al.h.fI.sl⟩) rfl rfl
 refine iB (M:=aa) hs (.m1 s.gp.ds ai.wx ap.wx R.h.wx) (L3 (by have:=aw.size;omega)) λaG Y aA ae=>?_
 exact aA.ij (((U.to u am).ext aw).ext ae) s.rd V V
end
end
section
variable{g:I}{s:O}{l:List Int}{c f:Ex}
abbrev G3(M a:I)(k:Nat)(X:Prop):Prop:=D a k 0=D M k 0/\D a k 1=D M k 1/\D a k 2=D M k 2/\X
abbrev E3(v:Value)(X:Int->Int->O->Prop):Prop:=∃a b:Int,∃c:O,v=.agg #[vi a,vi b,O.v c]/\X a b c
abbrev N1(L:List Nat)(e:Nat)(M:I)(K:Int->Int->O->I->Prop):Prop:=aN bY 243 [vi 1,vi 0,O.v (.mk e 0 2 2)] M λv a=>dV L M a/\E3 v λb c d=>K b c d a
section
variable(L:List Nat)(k:Nat)(b:Int)(h i d p w l:O)(j a e:Nat)(F:Int->Int->O->I->Prop)
abbrev Xu(g:Nat)(M:I):Prop:=N1 L g M λd e f c=>G3 M c a (N1 L c.size (c.push (.cells (br [.i 9,.i b,.s h,.i d,.i e,.s f]) bu)) F)
abbrev Xt(c d:Int)(e:O)(M:I):Prop:=G3 M (M.push (.cells (br [.i c,.i d,.s e,.i 9,.i b,.s i]) bu)) a (Xu L b h a F M.size (M.push (.cells (br [.i c,.i d,.s e,.i 9,.i b,.s i]) bu)))
abbrev Xs(M:I):Prop:=aN bY 242 [vp k 0,.agg #[O.v d,O.v p],O.v w,vi 0,vi 4] M λv c=>dV L M c/\E3 v λe f g=>G3 M c j (G3 M c a (Xt L b h i a F e f g c))
abbrev Yp(f:Nat)(M:I):Prop:=aN bY 116 [O.v l,O.v (.mk f 0 3 3)] M λv c=>dV L M c/\∃s:O,v=O.v s/\G3 M c j (D c e 0=D M e 0/\D c e 1=D M e 1/\G3 M c a (Xs L k b h i d p s j a F c))
end
def _root_.Go.Vc.RQ{σ τ:Type}{n:Nat}(r:n<=9223372036854775807)(f:1<=n){m:I}{j:σ}{l:τ}{h:(σ->τ->Int->I->Prop)->(σ->τ->Int->I->Nat)->σ->τ->Int->I->Prop}(Q:Nat->σ->τ->I->Prop)(p:Q 1 j l m)
 (o:∀(k:Nat)(s:σ)(t:τ)(a:I)(b:σ->τ->Int->I->Prop)(μ:σ->τ->Int->I->Nat),1<=k->k<=n->Q k s t a->
  (k<n->∀d e c,Q (k+1) d e c->b d e (cO ((k:Int)+1)) c/\μ d e (cO ((k:Int)+1)) c<μ s t k a)->h b μ s t k a):
 ∃(b:σ->τ->Int->I->Prop)(μ:σ->τ->Int->I->Nat),b j l 1 m/\∀s t i a,b s t i a->h b μ s t i a:=by
 refine⟨λs t i c=>∃k:Nat,i=k/\1<=k/\k<=n/\Q k s t c,λ_ _ i _=>(n -i).toNat,⟨1,rfl,ad _,f,p⟩,?_⟩
 rintro s t i a ⟨k,rfl,f,q,u⟩
 refine o k s t a _ _ f q u λg d e c v=>?_
 rw[jM g r]
 exact⟨⟨k+1,rfl,V,g,v⟩,AK g⟩
def Mw(_:I)(a:List Ce)(n:Int):Prop:=∃s:O,a=[.i 12,.i n,.s s]/\s.len=0
def Mw.mono:mD 3 Mw:=⟨λ_ h=>h,λ⟨_,h,_⟩=>by rw[h];rfl⟩
abbrev GV(g m:I)(s:O)(l:List Int):Prop:=Gr [] g m bu 3 Mw s l
def GV.fw{m a:I}(h:GV g m s l)(q:a[s.F]? =m[s.F]?):GV g a s l:=by
 obtain⟨c,b,d,e⟩:=h;exact⟨c,b,d.congr q,e.mono λ_ _ h=>h⟩
def GV.ex{a:List Nat}{m:I}(h:GV g m s l)(j:s.F∉a)(t:l.length<=1000):eK (bz a m) s (l.map λn=>.mk 12 n []):=by
 obtain⟨e,d,f,i⟩:=h;have H:=Gr.mg (S:=a) Mw.mono ⟨e,d,f,i.mono λ_ _ h=>h⟩ j bd V;refine⟨by rw[H.len];simp,H.cap,H.gA,λq c b=>?_⟩;simp only[bW,iK]at b;obtain⟨n,k,rfl⟩:=b;obtain⟨r,⟨u,rfl,p⟩,o⟩:=H.jA q n k;exact⟨_,y8.of ⟨p,V,V,E⟩,o⟩
structure AS(S:List Nat)(ds:List bO)(nf a n0 k Q rb:Nat)(bs:O)(m M:I)(sl:O)(el:Ex)(sr:O)(er:Ex):Prop where
 b:cD M k bu [.i 0,.i 0,.s .nil]
 hk:n0<=k
 l:HX (k::S) ds nf a M sl el
 r:HX (k::S) ds nf a M sr er
 s:Rs rb bs m Q M
section
variable{S:List Nat}{e:List bO}{h a n k Q r b:Nat}{d o p:O}{m M q:I}{i j:Ex}
def AS.ext(f:AS S e h a n k Q b d m M o i p j)(c:J M q):AS S e h a n k Q b d m q o i p j:=⟨f.b.ext c,f.hk,f.l.ext c,f.r.ext c,f.s.ext c⟩
def AS.fz(c:AS S e h a n k Q b d m M o i p j)(g:b∈S)(l:k≠b)(f:Fz [b] M q)(s:Rd b d r q):AS S e h a n k r b d m q o i p j:=⟨c.b.congr (f.same k c.b.lt (by simpa using l)),c.hk,c.l.fz (by simp[g]) f,c.r.fz (by simp[g]) f,c.s.to f s⟩
def AS.new(f:n<=M.size)(l:HX S e h a M o i)(r:HX S e h a M p j)(s:Rs b d m Q M):J M (M.push (.cells (br [.i 0,.i 0,.s .nil]) bu))/\AS S e h a n M.size Q b d m (M.push (.cells (br [.i 0,.i 0,.s .nil]) bu)) o i p j:=
 have c:=J.push M (.cells (br [.i 0,.i 0,.s .nil]) bu)
 ⟨c,cD.push _ _ _,f,l.fx c (ad _),r.fx c (ad _),s.ext c⟩
end
section
variable{h:List Nat}{b P:Nat}{o d p:O}{i:List bO}{j:List cY}{m:I}
def WX.m3{e d:Nat}{z:Ex}(l:i∈pM)(m:WX i e d c)(n:WX i e d f)(o:WX i e (d+3) z):WX i e d (.mk 8 3 [c,f,z]):=by
 obtain⟨-,g,-,-,j,k⟩:=Kn i l;refine .mt m (by rw[g];rfl) E λh q p b a=>?_;rw[g]at a;rcases h with _|_|h
 ·simp at b a;subst b a;rw[j];exact n
 ·simp at b a;subst b a;rw[k];exact o
 ·simp at b
def WX.add{b a:Nat}(d:WX i b a c)(e:WX i b a f):WX i b a (.mk 1 0 [c,f]):=.dX bd (λh=>V) bd (λh=>V) (by simp;exact⟨d,e⟩)
def Hr(hS:∀H∈h,H<m.size)(aT:b∈h)(H:GC b o P d p i j m)(hP:P+200+3*Cg 18<=10000000000000000){C:Nat}{w:cY}(hq:j[C]? =some w)(bI:1<=w.params.length):
 aN bY 213 [vp b 0,.agg #[O.v d,O.v p],vi C] m (XP h b o m (P+200+3*Cg 18) (WX i j.length w.params.length)):=by
 apply Ai (b,0)
 simp -zeta only[aE,aD]
 intro A aq
 obtain⟨x2,hl⟩:=dj (a:=A) (b:=aq) rfl rfl
 have s1:A.size=m.size+1:=by simp[A]
 have s2:aq.size=m.size+2:=by simp[aq,s1]
 have hr:=H.rd.lt
 clear_value aq
 have aw:∀{g:I},aq.size<=g.size->∀H∈A.size::h,H<g.size:=λz=>bD hS V V
 have r2:Rs b o m P aq:=⟨x2.fz _,H.rd.ext x2⟩
 have L1:∀{g:I},aq.size<=g.size->Lw b [A.size,m.size] g:=λz=>lw hr bF
 obtain⟨ps,bj,e0,e1⟩:=H.hp.u hq
 have bX:=ax hq
 have b2:=H.hp.len
 have bb:=uB _ (H.gp.dh w (ar hq))
 have h3:w.params.length<=3:=bb.1
 have PS:∀{g:I},Fz [b] m g->IR b g ps w.params:=λF=>bj.le (fh F)
 have E1:∀{g:I},Fz [b] m g->D g p.F (p.off+C*5+1)=some (vi w.aR):=λF=>(dN.1 (fh F _ _ _ e1)).2
 have b3:=bj.len
 have bs:=H.gp.ty (t:=0) bd bd
 have aA:b∈A.size::h:=by simp[aT]
 refine⟨V,V,ps,(dN.1 (fh r2.f _ _ _ e0)).2,?_⟩
 refine uy (A.size::h) i j.length (a:=w.params.length+3) (L1 (ad _)) V λs3 m3 bE x3=>?_
 have z3:=x3.size
 intro m4
 have x4:J m3 m4:=J.push _ _
 have g4:GV m3 m4 (.mk m3.size 0 1 1) [(ps.len:Int)]:=Gr.lit (d:=[[.i 12,.i ps.len,.s s3]]) Mw.mono (ad _) E rfl rfl ⟨rfl,E,λaC H B hj q=>by
  have:aC=0:=by have:=ax hj;simp at this;omega
  subst this;simp at hj q;subst hj q;exact⟨s3,rfl,bE.sl.len⟩⟩
 have s4:m4.size=m3.size+1:=by simp[m4]
 clear_value m4
 rw[aP (x:=(ps.len:Int)+2) V V]
 refine uy (A.size::h) i j.length (a:=w.params.length+3) (L1 V) V λs5 m5 h5 x5=>?_
 have z5:=x5.size
 intro m6
 have x6:J m5 m6:=J.push _ _
 have g6:GV m5 m6 (.mk m5.size 0 1 1) [(ps.len:Int)+2]:=Gr.lit (d:=[[.i 12,.i (ps.len+2),.s s5]]) Mw.mono (ad _) E rfl rfl ⟨rfl,E,λaC H B hj q=>by
  have:aC=0:=by have:=ax hj;simp at this;omega
  subst this;simp at hj q;subst hj q;exact⟨s5,rfl,h5.sl.len⟩⟩
 clear_value m6
 have r3:=r2.ext x3
 have vq:∀{g u:I}{Q:Int}{s:O}{l:List Int}{aW:O->I->Prop}{aS:O},GV m3 g s l->J m3 g->l.length<=10->aS.len=0->(∀U u,GV m3 u U (l++[Q])->J m3 u->g.size<=u.size->(U.F=s.F\/g.size<=U.F)->(∀K,K<g.size->K≠s.F->u[K]? =g[K]?)->aW U u)->
  iP (g.push (.cells (br [.i 12,.i Q,.s aS]) bu)) bu [.i 0,.i 0,.s .nil] 40 s (.mk g.size 0 1 1) aW:=λaO c hl ht hk=>
  Gr.jN (f:=[.i 0,.i 0,.s .nil]) (X:=[]) Mw.mono bd aO (c.fz []) ⟨_,rfl,ht⟩ V λU u g' f' aJ w=>hk U u g' f'.ext aJ.1 aJ.2 w
 refine RQ (n:=w.params.length) V bI (λaC s aS g=>∃l l',GV m3 g s l/\GV m3 g aS l'/\l.length=aC/\l'.length=aC/\(∀Q∈l,0<=Q/\Q<((w.params.length+3:Nat):Int))/\(∀Q∈l',0<=Q/\Q<((w.params.length+3:Nat):Int))/\J m3 g/\s.F≠aS.F) ⟨_,_,(g4.fw ((x5.trans x6).same _ (by show m3.size<_;omega))),Gr.cF Mw.mono g6 (λ_ z=>Or.inl z) V,rfl,rfl,bF,bF,(x4.trans x5).trans x6,by show m3.size≠m5.size;omega⟩ ?_
 rintro aC s aS g bV μ bZ hj ⟨l,l',aO,g',b0,b1,hw,bm,xM,bH⟩ bL
 have zM:=xM.size
 have RM:=r3.ext xM
 refine⟨λz=>?_,λ_=>?_⟩
 ·simp only[ao]at z
  refine uy (A.size::h) i j.length (a:=w.params.length+3) (L1 V) V λs7 Z h7 x7=>?_
  have gy:=aO.aZ;have aY:=g'.aZ
  have z7:=x7.size
  intro m8
  refine vq (u:=Z) (aO.fw (x7.same _ gy.2)) (xM.trans x7) V h7.sl.len λr9 m9 r x9 z9 b9 W=>?_
  refine⟨(L1 (g:=m3) z3).By ((((xM.trans x7).trans (J.push Z _)).fz [b])) (x9.fz _),?_⟩
  refine uy (A.size::h) i j.length (a:=w.params.length+3) (L1 V) V λaa ag a7 ah=>?_
  intro bo
  have R:=((g'.fw (x7.same _ aY.2)).fw (W _ V (km bH))).fw (ah.same _ V)
  have vP:=ah.size
  refine vq (u:=Z) R (x9.trans ah) V a7.sl.len λbc N L aH bR Y T=>?_
  refine⟨(L1 (g:=m3) z3).By (((x9.trans ah).trans (J.push ag _)).fz [b]) (aH.fz _),bL V _ _ _ ⟨_,_,(r.fw (ah.same _ r.aZ.2)).fw (T _ (by have:=r.aZ.2;omega) V),L,bF,bF,λQ q=>?_,λQ q=>?_,aH,by have:=r.aZ.2;omega⟩⟩
  ·rcases List.mem_append.1 q with z|z
   ·exact hw Q z
   ·simp at z;omega
  ·rcases List.mem_append.1 q with z|z
   ·exact bm Q z
   ·simp at z;omega
 have gy:=aO.aZ;have aY:=g'.aZ
 have nS:∀K,m3.size<=K->K∉A.size::h:=λK hb z=>by have:=aw (g:=aq) (ad _) K z;omega
 have be:∀l:List Int,(∀Q∈l,0<=Q/\Q<((w.params.length+3:Nat):Int))->WX i j.length (w.params.length+3) (.mk 9 C (l.map λQ=>.mk 12 Q [])):=λl hl=>.dX bd (λz=>V) bd (λ_=>⟨V,V⟩) (by simp;exactλQ q=>.Ra (hl Q q))
 refine iB (aO.ex (nS _ gy.1) V) (be l hw) (L1 V) λsl Z h7 x7=>?_
 intro m8 m9
 obtain⟨x9,-,z9⟩:=jC (M:=Z) (d:=m8) (c:=m9) rfl rfl rfl
 clear_value m9
 have z7:=x7.size
 refine iB ((g'.fw ((x7.trans x9).same _ aY.2)).ex (nS _ aY.1) V) (be l' bm) (lw hr bF) λsr ag a7 ah=>?_
 intro bo N
 obtain⟨aH,-,bR⟩:=jC (M:=ag) (d:=bo) (c:=N) rfl rfl rfl
 clear_value N
 have vP:=ah.size
 have a8:=((h7.ext x9).ext ah).ext aH
 have a_:=a7.ext aH
 generalize bg:Ex.mk 9 C (l.map λQ=>.mk 12 Q [])=el at a8
 generalize bh:Ex.mk 9 C (l'.map λQ=>.mk 12 Q [])=er at a_
 have bc:=(((RM.ext x7).ext x9).ext ah).ext aH
 have bW:=((x7.trans x9).trans ah).trans aH
 have bi:∀{r:Nat},N.size<=r->r≠b:=λz=>V
 have G:∀{g u:I}{r aR:Nat},N.size<=g.size->Fz [b] g u->m.size<=r->r<N.size->D u r aR=D g r aR:=λz F h1 h2=>kg F hr ⟨h1,V⟩ _
 have L4:∀{g:I},N.size<=g.size->Lw b [ag.size,Z.size,A.size,m.size] g:=λz=>lw hr bF
 have L5:∀{g:I}{r:Nat},N.size<=r->r<g.size->Lw b [r,ag.size,Z.size,A.size,m.size] g:=λz h'=>lw hr bF
 have a0:∀{g:I}{r:Nat},N.size<=r->r<g.size->∀H∈r::A.size::h,H<g.size:=λz h'=>bD (aw (g:=N) V) V h'
 have a4:=λ(c f:Ex)=>WX.add (i:=i) (b:=j.length) (a:=w.params.length+3) (c:=c) (f:=f)
 let aW:=λ(r:Nat)(g:I)=>∃s B,BX (A.size::h) i j.length (w.params.length+3) r g s B/\HX (r::A.size::h) i j.length (w.params.length+3) g sl el/\Rs b o m (P+Cg 18) g
 have bA:∃k9,el=.mk 9 C k9:=⟨_,bg.symm⟩
 have bB:∃k9,er=.mk 9 C k9:=⟨_,bh.symm⟩
 clear bg bh
 obtain⟨kl,rfl⟩:=bA
 obtain⟨kr,rfl⟩:=bB
 let av:=λ(r aX:Nat)(g:I)=>AS (A.size::h) i j.length (w.params.length+3) N.size r (P+aX) b o m g sl (.mk 9 C kl) sr (.mk 9 C kr)
 let aM:=λr=>[r,ag.size,Z.size,A.size,m.size]
 let K0:=λ(jJ:Nat×Nat)(g:I)=>jJ.2=0/\N.size<=jJ.1/\aW jJ.1 g
 let aL:=λ(r:Nat)(q K:Int)(H:O)(u:I)=>K0 (r,0) (aj u r 0 [.i q,.i K,.s H])
 have H3:∀{g u:I}{T:Prop},N.size<=g.size->Fz [b] g u->T->G3 g u Z.size T:=λL F c=>⟨G L F V V,G L F V V,G L F V V,c⟩
 have H6:∀{g u:I}{T:Prop},N.size<=g.size->Fz [b] g u->T->G3 g u ag.size (G3 g u Z.size T):=λL F c=>⟨G L F V V,G L F V V,G L F V V,H3 L F c⟩
 have H5:∀{g u:I}{T:Prop},N.size<=g.size->Fz [b] g u->T->D u m.size 0=D g m.size 0/\D u m.size 1=D g m.size 1/\G3 g u Z.size T:=λL F c=>⟨G L F V V,G L F V V,H3 L F c⟩
 have H8:∀{g u:I}{T:Prop},N.size<=g.size->Fz [b] g u->T->G3 g u ag.size (D u m.size 0=D g m.size 0/\D u m.size 1=D g m.size 1/\G3 g u Z.size T):=λL F c=>⟨G L F V V,G L F V V,G L F V V,H5 L F c⟩
 have R7:∀{r t0:Nat}{g:I}{B:Ex},av r (Cg 18) g->eK (bz (r::A.size::h) g) (.mk t0 0 2 2) [.mk 9 C kl,B]->WX i j.length (w.params.length+3) B->N1 (aM r) t0 g (aL r):=λq hs hw=>
  iB hs (a4 _ _ q.l.wx hw) (L5 q.hk q.b.lt) λs' u h' c=>by
   have hb:=(BX.mk (e:=.mk 0 0 []) (s:=.nil) (q.b.ext c) ⟨⟨rfl,ad _,E,E⟩,.int 0⟩).set h';exact⟨rfl,q.hk,s',_,hb,(q.l.ext c).put E _ _,(q.s.ext c).put H.rd (by have:=q.hk;omega) _ _⟩
 have R6:∀{r:Nat}{g:I}{s:O}{q K:Int}{kk:List Ex},av r (Cg 18) g->HX (r::A.size::h) i j.length (w.params.length+3) g s (.mk q K kk)->N1 (aM r) g.size (g.push (.cells (br [.i 9,.i C,.s sl,.i q,.i K,.s s]) bu)) (aL r):=λq z=>
  R7 (q.ext (J.push _ _)) (mZ [(.mk 9 C kl,sl),(.mk _ _ _,_)] E (a0 q.hk q.b.lt) (by simp;exact⟨q.l.sl,z.sl⟩) rfl rfl) z.wx
 have R5:∀{r t0:Nat}{g:I}{B:Ex},av r (Cg 18) g->eK (bz (r::A.size::h) g) (.mk t0 0 2 2) [B,.mk 9 C kr]->WX i j.length (w.params.length+3) B->Xu (aM r) C sl Z.size (aL r) t0 g:=λq hs hw=>
  iB hs (a4 _ _ hw q.r.wx) (L5 q.hk q.b.lt) λs' u h' c=>
   have L:=Ny (me q.hk q.b.lt)
   H3 L (c.fz _) (R6 (q.ext c) h')
 have R4:∀{r:Nat}{g:I}{s:O}{B:Ex},av r (Cg 18) g->HX (r::A.size::h) i j.length (w.params.length+3) g s B->Xt (aM r) C sl sr Z.size (aL r) B.op B.bJ s g:=λ{r g s B} q z=>
  have c:=J.push g (.cells (br [.i B.op,.i B.bJ,.s s,.i 9,.i C,.s sr]) bu)
  have L:=Ny (me q.hk q.b.lt)
  H3 L (c.fz _) (R5 (q.ext c) (mZ [(B,s),(.mk 9 C kr,sr)] E (a0 q.hk q.b.lt) (by simp;exact⟨z.sl,q.r.sl⟩) rfl rfl) z.wx)
 have bf:∀{a5 L':List Nat}{g:I}{ac:O}{K':Int->Int->O->I->Prop},(∀H∈a5,H<g.size)->b∈a5->Rs b o m P g->IR b g ac (w.params++[3,0,3])->Lw b L' g->(∀B s u,HX a5 i j.length (w.params.length+3) u s B->Rd b o (P+Cg 18) u->Fz [b] g u->K' B.op B.bJ s u)->aN bY 242 [vp b 0,.agg #[O.v d,O.v p],O.v ac,vi 0,vi 4] g λbO u=>dV L' g u/\∃r0 r1:Int,∃r2:O,bO=.agg #[vi r0,vi r1,O.v r2]/\K' r0 r1 r2 u:=λbG bJ U hw hL hk=>
  C1 (v:=w.params++[3,0,3]) bG bJ (H.to U.f U.r) V hw bF bs bd hL λB s u z d F=>hk B s u (by simpa using z) d F
 have R3:∀{r:Nat}{g:I}{ac:O},av r 0 g->IR b g ac (w.params++[3,0,3])->Xs (aM r) b C sl sr d p ac ag.size Z.size (aL r) g:=λq hw=>
  bf (a0 q.hk q.b.lt) (by simp[aT]) q.s hw (L5 q.hk q.b.lt) λB s u z d' F=>
   have L:=Ny (me q.hk q.b.lt)
   H6 L F (R4 (q.fz aA (bi q.hk) F d') z)
 have R2:∀{r t0:Nat}{g:I},av r 0 g->au (bz [b] g) (.mk t0 0 3 3) [3,0,3]->Yp (aM r) b C sl sr d p ps ag.size Z.size m.size (aL r) t0 g:=λq hw=>
  (dK (S:=[b]) (by simp;exact q.s.r.lt) (PS q.s.f) hw bF).mono λ_ u⟨ac,wl,B,gw,qw,c⟩=>by
   subst qw;have L:=Ny (me q.hk q.b.lt);exact⟨(L5 q.hk q.b.lt).de (c.fz _),ac,B,H8 L (c.fz _) (R3 (q.ext c) (GI.done gw (by simp;exact q.s.r.lt) bF))⟩
 have aG:∀{g:I}{aX:Nat},N.size<=g.size->HX (A.size::h) i j.length (w.params.length+3) g sl (.mk 9 C kl)->HX (A.size::h) i j.length (w.params.length+3) g sr (.mk 9 C kr)->Rs b o m (P+aX) g->J g (g.push (.cells (br [.i 0,.i 0,.s .nil]) bu))/\av g.size aX (g.push (.cells (br [.i 0,.i 0,.s .nil]) bu)):=λh1 h2 h3 h4=>AS.new h1 h2 h3 h4
 have r0:Rs b o m (P+0) N:=bc
 have wl:∀g:I,b<g.size->au (bz [b] (g.push (.cells (br [.i 3,.i 0,.i 3]) aB))) (.mk g.size 0 3 3) [3,0,3]:=λg z=>au.lit aB _ (by simp;exact z) rfl rfl E
 refine⟨K0,⟨?_,?_⟩,?_⟩
 ·intro ae
  have R:J N ae:=J.push _ _
  have a2:au (bz [b] ae) (.mk N.size 0 3 3) [3,0,3]:=wl N bc.r.lt
  clear_value ae
  have aK:=R.size
  have a9:=a8.ext R;have ba:=a_.ext R;have aa:=r0.ext R
  refine H8 (ad _) (R.fz _) ⟨?_,?_⟩
  ·refine(dK (S:=[b]) (by simp;exact aa.r.lt) (PS aa.f) a2 bF).mono λ_ al⟨ac,bP,B,gw,qw,W⟩=>⟨(L4 aK).de (W.fz _),ac,B,H8 aK (W.fz _) ⟨?_,?_⟩⟩
   all_goals have a3:IR b al ac (w.params++[3,0,3]):=qw▸GI.done gw (by simp;exact aa.r.lt) (by rw[<-qw];simp;omega)
   all_goals have bw:=W.size
   ·refine bf (a5:=A.size::h) (aw V) aA (aa.ext W) a3 (L4 V) λai a1 am ak a6 af=>H6 V af ⟨?_,?_⟩
    all_goals have ay:=(a9.ext W).fz aA af
    all_goals have aQ:=(ba.ext W).fz aA af
    all_goals have aV:=(aa.ext W).to af a6
    all_goals have bS:=af.size
    ·intro ap
     have ab:J am ap:=J.push _ _
     have bk:eK (bz (A.size::h) ap) (.mk am.size 0 2 2) [ai,.mk 9 C kr]:=mZ [(ai,a1),(.mk 9 C kr,sr)] E (aw V) (by simp;exact⟨ak.sl,aQ.sl⟩) rfl rfl
     have bT:=ab.size
     refine H3 V (ab.fz _) ⟨?_,?_⟩
     ·refine iB (M:=ap) bk (a4 _ _ ak.wx aQ.wx) (L4 V) λbM aF aZ aI=>H3 V (aI.fz _) ⟨?_,?_⟩
      all_goals have T:=ab.trans aI
      all_goals have bU:=aI.size
      ·intro aU
       have an:J aF aU:=J.push _ _
       have bl:eK (bz (A.size::h) aU) (.mk aF.size 0 2 2) [.mk 9 C kl,.mk 1 0 [ai,.mk 9 C kr]]:=mZ [(.mk 9 C kl,sl),(.mk 1 0 [ai,.mk 9 C kr],bM)] E (aw V) (by simp;exact⟨(ay.ext T).sl,aZ.sl⟩) rfl rfl
       have b4:=an.size
       refine⟨?_,?_⟩
       ·refine iB (M:=aU) bl (a4 _ _ ay.wx aZ.wx) (L4 V) λbN bp bC bt=>?_
        have b5:=bt.size
        intro bq
        have bQ:J bp bq:=J.push _ _
        refine H8 V (bQ.fz _) ?_
        intro bK
        obtain⟨bv,bx,b6⟩:=BX.new (f:=bq) (d:=bK) bC rfl rfl
        have Y:=T.trans (an.trans bt)
        exact⟨rfl,by show N.size<=bp.size;omega,bN,_,bx,(ay.ext Y).fx bv (ad _),(aV.ext Y).ext bv⟩
       ·obtain⟨Y,q⟩:=aG (g:=aU) V ((ay.ext T).ext an) ((aQ.ext T).ext an) ((aV.ext T).ext an)
        exact H8 V (Y.fz _) (R7 q (eK.le (Y.bz λK hb=>(List.mem_cons.1 hb).elim (λz=>Or.inr V) Or.inl) bl) aZ.wx)
      ·obtain⟨Y,q⟩:=aG (g:=aF) V (ay.ext T) (aQ.ext T) (aV.ext T)
       exact H8 V (Y.fz _) (R6 q (aZ.fx Y (ad _)))
     ·obtain⟨Y,q⟩:=aG (g:=ap) V (ay.ext ab) (aQ.ext ab) (aV.ext ab)
      exact H8 V (Y.fz _) (R5 q (eK.le (Y.bz λK hb=>(List.mem_cons.1 hb).elim (λz=>Or.inr V) Or.inl) bk) ak.wx)
    ·obtain⟨Y,q⟩:=aG (g:=am) V ay aQ aV
     exact H8 V (Y.fz _) (R4 q (ak.fx Y (ad _)))
   ·obtain⟨Y,q⟩:=aG (g:=al) V (a9.ext W) (ba.ext W) (aa.ext W)
    exact H8 V (Y.fz _) (R3 q (a3.le (fh (Y.fz _))))
  ·obtain⟨Y,q⟩:=aG (g:=ae) aK a9 ba aa
   exact H8 aK (Y.fz _) (R2 q (a2.le (fh (Y.fz _))))
 ·obtain⟨Y,q⟩:=aG (g:=N) (ad _) a8 a_ r0
  have za:=Y.size
  intro ae
  refine H8 (ad _) (Y.fz _) ?_
  intro al
  have W:J ae al:=J.push _ _
  exact H8 za (W.fz _) (R2 (q.ext W) (wl ae q.s.r.lt))
 rintro⟨r,aR⟩ g ⟨ho,hk,s,B,K,hl,U⟩
 simp only at ho hk K hl
 subst ho
 have bv:=K.b.lt
 have a9:=bi hk
 have Y:∀{u:I},g.size<=u.size->Lw b [ag.size,Z.size,A.size,m.size] u:=λz=>L4 V
 have L:N.size<=g.size:=V
 have aZ:∀{u:I},g.size<=u.size->∀H∈r::A.size::h,H<u.size:=λz=>a0 hk V
 refine⟨λu=>∃s B,BX (A.size::h) i j.length (w.params.length+3) r u s B/\Rs b o m (P+2*Cg 18) u/\g.size<=u.size,⟨V,V,_,E1 U.f,λ_=>?_,λ_=>⟨s,B,K,⟨U.f,U.r.mono V⟩,ad _⟩⟩,?_⟩
 ·intro ae
  have R:J g ae:=J.push _ _
  have a2:au (bz [b] ae) (.mk g.size 0 3 3) [3,0,3]:=wl g U.r.lt
  clear_value ae
  have aK:=R.size
  have aa:=U.ext R
  refine H5 L (R.fz _) ?_
  refine(dK (S:=[b]) (by simp;exact aa.r.lt) (PS aa.f) a2 bF).mono λ_ al⟨ac,bP,e',gw,qw,W⟩=>⟨(Y aK).de (W.fz _),ac,e',H5 V (W.fz _) ?_⟩
  have a3:IR b al ac (w.params++[3,0,3]):=qw▸GI.done gw (by simp;exact aa.r.lt) (by rw[<-qw];simp;omega)
  have bw:=W.size
  have aQ:=aa.ext W
  refine C1 (v:=w.params++[3,0,3]) (S:=r::A.size::h) (aZ V) (by simp[aT]) (H.to aQ.f aQ.r) V a3 bF bs bd (Y V) λai a1 am ak a6 af=>H3 V af ?_
  have ak:HX (r::A.size::h) i j.length (w.params.length+3) am a1 ai:=by simpa using ak
  have bS:=af.size
  refine uy (r::A.size::h) i j.length (a:=w.params.length+3) (Y V) V λbl ap ay ab=>H3 V (ab.fz _) ?_
  intro aF
  have aI:J ap aF:=J.push _ _
  have bT:=ab.size
  have ba:=(((hl.ext R).ext W).fz (by simp[aT]) af).ext ab
  have hs:eK (bz (r::A.size::h) aF) (.mk ap.size 0 3 3) [.mk 9 C kl,ai,.mk 12 (ps.len+2) []]:=mZ [(.mk 9 C kl,sl),(ai,a1),(.mk 12 (ps.len+2) [],bl)] E (aZ V) (by simp;exact⟨ba.sl,(ak.ext ab).sl,ay.sl⟩) rfl rfl
  have bU:=aI.size
  refine iB (M:=aF) hs (.Mj (by simp;exact⟨ba.wx,ak.wx,ay.wx⟩)) (Y V) λbp aU bq an=>?_
  have aV:=((((K.ext R).ext W).fz (by simp[aT]) a9 af).ext (ab.trans aI)).ext an
  have hb:=aV.set bq
  have bk:=(((aQ.to af a6).ext (ab.trans aI)).ext an).put H.rd (k:=r) V 0 [.i 6,.i 3,.s bp]
  exact⟨aV.b.fu E,λb' bt=>bn _ _ _ _ (by simp at bt;omega),bp,.mk 6 3 [.mk 9 C kl,ai,.mk 12 (ps.len+2) []],hb,⟨bk.f,bk.r.mono V⟩,by rw[az];have:=an.size;omega⟩
 rintro M3 ⟨s,B,K,U,aJ⟩
 refine⟨V,V,_,E1 U.f,_,K.b.cy 0,_,K.b.cy 1,_,K.b.cy 2,?_⟩
 refine uy (A.size::h) i j.length (a:=w.params.length) (Y aJ) V λaU ae ak R=>?_
 have aK:=R.size
 have af:∀{M1 M2:I}{aR:Nat},g.size<=M1.size->Fz [b] M1 M2->D M2 r aR=D M1 r aR:=λz F=>kg F hr ⟨V,V⟩ _
 refine⟨af aJ (R.fz _),af aJ (R.fz _),af aJ (R.fz _),(E1 (U.f.then R)).trans (E1 U.f).symm,G V (R.fz _) V V,G V (R.fz _) V V,G V (R.fz _) V V,?_⟩
 have aa:=U.ext R
 refine C1 (S:=A.size::h) (aw V) aA (H.to aa.f aa.r) V (PS aa.f) V (H.gp.ty bb.2.2.1 bb.2.2.2) bd (Y V) λai aV al an aQ W=>⟨af V W,af V W,af V W,?_⟩
 have bw:=W.size
 intro am
 have aF:J al am:=J.push _ _
 have aI:=(K.ext R).fz aA a9 W
 have hs:eK (bz (A.size::h) am) (.mk al.size 0 3 3) [.mk 12 0 [],ai,B]:=mZ [(.mk 12 0 [],aU),(ai,aV),(B,s)] E (aw V) (by simp;exact⟨(ak.fz aA W).sl,an.sl,aI.h.fI.sl⟩) rfl rfl
 refine iB (M:=am) hs (.m3 H.gp.ds ak.wx an.wx K.h.wx) (Y (by have:=aF.size;omega)) λbl ap ay ab=>?_
 exact ay.ij (((aa.to W aQ).ext aF).ext ab) H.rd V V
end
end
section
variable{a:I}{c:List Ce}{b:Nat}
section
variable{f:List Nat}{e P:Nat}{h d p:O}{i:List bO}{g:List cY}{m:I}
def J0(hS:∀o∈f,o<m.size)(ak:e∈f)(o:GC e h P d p i g m)(hP:P+300+40*Cg 18<=10000000000000000){U:Nat}{q:cY}(A:g[U]? =some q)(al:U=0->q.params.length=0):
 aN bY 181 [vp e 0,.agg #[O.v d,O.v p],vi U] m (XP f e h m (P+300+40*Cg 18) (UM i g.length q.params.length)):=by
 apply Dz (e,0)
 simp -zeta only[aE,aD]
 intro n x
 obtain⟨x2,hl⟩:=dj (a:=n) (b:=x) rfl rfl
 have s1:n.size=m.size+1:=by simp[n]
 have s2:x.size=m.size+2:=by simp[x,s1]
 have hr:=o.rd.lt
 clear_value x
 have af:∀{a:I},x.size<=a.size->∀o∈n.size::f,o<a.size:=λc=>bD hS V V
 have u:Rs e h m P x:=⟨x2.fz _,o.rd.ext x2⟩
 have N:∀{a:I},x.size<=a.size->Lw e [n.size,m.size] a:=λc=>lw hr bF
 obtain⟨Y,ah,e0,e1⟩:=o.hp.u A
 have an:=ax A
 have ap:=o.hp.len
 have ab:=uB _ (o.gp.dh q (ar A))
 have h3:q.params.length<=3:=ab.1
 have PS:∀{a:I},Fz [e] m a->IR e a Y q.params:=λz=>ah.le (fh z)
 have au:=ah.len
 have aa:e∈n.size::f:=by simp[ak]
 have am:=o.gp.ty ab.2.2.1 ab.2.2.2
 refine⟨V,V,Y,(dN.1 (fh u.f _ _ _ e0)).2,V,V,_,(dN.1 (fh u.f _ _ _ e1)).2,?_⟩
 refine(Js ((PS u.f).le (bo _ _)) 1).mono λ_ m3⟨pl,en,aq,x3⟩=>⟨(N (ad _)).de (x3.fz _),pl,en,?_⟩
 have z3:=x3.size
 refine Gi (n.size::f) i g.length q.params.length (N z3) 0 λs4 r F x4=>?_
 have z4:=x4.size
 intro m5 K
 obtain⟨x6,b6,z6⟩:=BX.new (f:=m5) (d:=K) F rfl rfl
 clear_value K
 have r6:=((u.ext x3).ext x4).ext x6
 have hk:r.size≠e:=V
 have L6:∀{a:I},K.size<=a.size->Lw e [r.size,n.size,m.size] a:=λc=>lw hr bF
 refine(bM r6.r V 4).mono λ_ s⟨b,en,_,_,d7,T⟩=>⟨(L6 (ad _)).de T,b,en,?_⟩
 have L:=r6.to T d7
 have z7:=T.size
 have C:=o.to L.f L.r
 have b7:=b6.fz aa hk T
 have G:∀j∈r.size::n.size::f,j<s.size:=bD (af (a:=s) V) (ad _) V
 have H:e∈r.size::n.size::f:=by simp[ak]
 have ij:∀{z:Nat}{ac:List Value}{Q:Nat},aN bY z ac s (XP (r.size::n.size::f) e h s Q (WX i g.length q.params.length))->Q<=P+300+20*Cg 18->aN bY z ac s λv B=>dV [r.size,n.size,m.size] s B/\∃Z r1:Int,∃u:O,v=.agg #[vi Z,vi r1,O.v u]/\
  ∃w j,BX (n.size::f) i g.length q.params.length r.size (aj B r.size 0 [.i Z,.i r1,.s u]) w j/\Rs e h m (P+300+20*Cg 18) (aj B r.size 0 [.i Z,.i r1,.s u])/\K.size<=(aj B r.size 0 [.i Z,.i r1,.s u]).size:=λc hQ=>
  XP.kk c (L6 z7) λw j B h1 h2 h3 F=>by
   have hb:=(b7.fz aa hk F).set ⟨h1,h2⟩;have ai:=(L.to F h3).put o.rd (k:=r.size) V 0 [.i j.op,.i j.bJ,.s w];exact⟨w,j,hb,⟨ai.f,ai.r.mono hQ⟩,by rw[az];have:=F.size;omega⟩
 have xl:=λ(a:I)(S':List Nat)(h1:∀j∈S',j<a.size)(h2:e∈S')(Q:Nat)(cM:GC e h Q d p i g a)(z:Fz [e] m a)(hQ:Q+20*Cg 18<=10000000000000000)(t:Int)(hb:0<=t/\t<=18)=>Jk (S:=S') h1 h2 cM hQ (PS z) V am hb
 have W:=ij ((xl s _ G H _ C L.f V 18 bd).mono λ_ _ c=>c.mono (λj R=>R.1) (ad _)) V
 have first:1<=q.params.length->∃y:Int,q.params[0]? =some y/\D s Y.F (Y.off+Int.toNat 0*1)=some (vi y):=λc=>by
  obtain⟨y,X⟩:=ag (l:=q.params) (k:=0) V;exact⟨y,X,(dN.1 ((PS L.f).u X)).2⟩
 refine⟨λa=>∃w j,BX (n.size::f) i g.length q.params.length r.size a w j/\Rs e h m (P+300+20*Cg 18) a/\K.size<=a.size,?_,?_⟩
 ·refine⟨λv a=>(v=true->U=0)/\s=a,⟨λ_=>⟨λc=>by simp at c;omega,rfl⟩,λ_=>⟨λc=>by simp at c,rfl⟩⟩,?_⟩
  rintro v _ ⟨J,rfl⟩
  refine⟨λc=>?_,λ_=>?_⟩
  ·have h0:=al (J c)
   exact ij ((Hm G H C V).mono λ_ _ c=>c.mono (λj R=>by rw[h0];exact R) (ad _)) V
  refine⟨λv a=>(v=true->0<=pl)/\s=a,⟨λ_=>⟨λc=>⟨λ_=>⟨λ_=>by simpa using c,rfl⟩,λ_=>⟨λ_=>by simpa using c,rfl⟩⟩,λ_=>⟨E,rfl⟩⟩,λ_=>⟨E,rfl⟩⟩,?_⟩
  rintro v _ ⟨J,rfl⟩
  refine⟨λc=>ij (Hq G H C V A ⟨J c,V⟩) V,λ_=>?_⟩
  refine⟨λv a=>(v=true->1<=q.params.length)/\s=a,⟨λ_=>⟨λc=>?_,λ_=>⟨E,rfl⟩⟩,λ_=>⟨E,rfl⟩⟩,?_⟩
  ·simp only[ao]at c
   obtain⟨y,X,R⟩:=first V
   exact⟨bd,V,y,R,λ_=>⟨λ_=>⟨λ_=>V,rfl⟩,λ_=>⟨λ_=>V,rfl⟩⟩,λ_=>⟨E,rfl⟩⟩
  rintro v _ ⟨J,rfl⟩
  refine⟨λc=>ij (Hr G H C V A (J c)) V,λ_=>⟨λ_=>⟨λc=>?_,λ_=>W⟩,λ_=>W⟩⟩
  simp only[ao]at c
  obtain⟨y,X,R⟩:=first V
  have ae:=ij (G9 G H C V A V) V
  exact⟨bd,V,y,R,λ_=>⟨λ_=>ae,λ_=>⟨λ_=>ae,λ_=>W⟩⟩,λ_=>W⟩
 rintro a ⟨w,j,t,ae,av⟩
 refine⟨_,t.b.cy 0,_,t.b.cy 1,_,t.b.cy 2,?_⟩
 refine(yy (eK.le (bo _ _) t.h.sl)).mono λ_ m8⟨n8,e8,q8,x8⟩=>⟨(N V).de (x8.fz _),n8,e8,?_⟩
 have z8:=x8.size
 have J:=ae.ext x8
 have R:=t.ext x8
 refine⟨λ_=>?_,λc=>⟨_,R.b.cy 0,_,R.b.cy 1,_,R.b.cy 2,?_⟩⟩
 ·exact XP.ret (xl m8 (n.size::f) (af V) aa _ (o.to J.f J.r) J.f V 12 bd) (N V) J.f o.rd V (λ_ c=>c) V
 ·simp only[bN]at c
  have r9:=J.put o.rd (k:=n.size) V 0 [.i j.op,.i j.bJ,.s w]
  exact⟨w,j,rfl,(R.h.fI.put E _ _).fI.sl,⟨t.h.wx,V⟩,r9.r.mono V,r9.f⟩
end
def zl{α:Type}{R:I->List Ce->α->Prop}{n:Nat}(g:mD n R){S:List Nat}(o:∀d∈S,d<a.size)(e:Nat)(l:List (α×List Ce))(h:∀x∈l,R (bz S a) x.2 x.1)(p:c=l.flatMap (·.2))(q:b=l.length):
 Gr S a (a.push (.cells (br c) e)) e n R (.mk a.size 0 b b) (l.map (·.1)):=by
 refine Gr.lit (d:=l.map (·.2)) g (ad _) o (by rw[p,Yw]) (by simp[q]) ⟨E,λd i=>?_,λr d e k j=>?_⟩
 ·simp at i;obtain⟨m,f⟩:=i;exact g.len (h _ f)
 ·simp only[bW,iK]at k j
  obtain⟨x,m,rfl⟩:=k
  obtain⟨y,f,rfl⟩:=j
  rw[m]at f;simp at f;subst f
  exact h x (ar m)
abbrev Rp(m:I)(s:O)(l:List (List Int)):Prop:=dT m 1 (lB m) s l
def uF{S:List Nat}(d:∀e∈S,e<a.size)(e:Nat)(l:List (List Int×O))(k:l.length<=1000)(h:∀x∈l,au (bz S a) x.2 x.1)(f:c=l.map λx=>.s x.2)(g:b=l.length):Rp (bz S (a.push (.cells (br c) e))) (.mk a.size 0 b b) (l.map (·.1)):=by
 have H:=zl (R:=λm c x=>lB m c x) (n:=1) ⟨λh=>lB.le h _ _,λ⟨_,h,_⟩=>by rw[h];rfl⟩ d e (l.map λx=>(x.1,[Ce.s x.2])) (λx i=>by simp at i;obtain⟨m,o,j,rfl⟩:=i;exact⟨_,rfl,h _ j⟩) (c:=c) (b:=b) (by rw[f];clear f g h k;induction l<;>simp_all) (by simp[g]);have i:=Gr.done lB.mono H d bd bF;rwa[show(l.map λx=>(x.1,[Ce.s x.2])).map (·.1)=l.map (·.1)by simp[Um,Yj]]at i
abbrev V5(S:List Nat)(a m:I)(s:O)(l:List bO):Prop:=Gr S a m jh 3 gH s l
end
section
variable{K:O->I->Prop}
section
variable{S L:List Nat}{c P:Nat}{d:O}{m b:I}
def Kx(f:O)(d:∀a∈L,a<b.size)(g:∀a,J b a->K f a):aN bY 101 [O.v f] b λv a=>dV L b a/\∃c:O,v=.agg #[O.v c]/\K c a:=
 (Je f b).mono λ_ a⟨e,x⟩=>⟨x.de d,f,e,g a x⟩
def AG(f:O)(d:∀a,J b a->K f a):aN bY 101 [O.v f] b λv a=>∃c:O,v=.agg #[O.v c]/\K c a:=
 (Je f b).mono λ_ a⟨e,x⟩=>⟨f,e,d a x⟩
def uf(hS:∀w∈S,w<m.size)(Y:c∈S)(X:Rd c d P m)(hP:P+1<=10000000000000000):
 aN bY 100 [vp c 0] m λa_ Z=>∃x ds,a_=O.v x/\V5 S m Z x ds/\ds∈pM/\Rd c d (P+1) Z/\Fz [c] m Z:=by
 apply yd (c,0)
 simp -zeta only[aE,aD]
 have hr:=X.lt
 have j:∀{b:I},m.size<=b.size->∀w∈S,w<b.size:=λh w hc=>by have:=hS w hc;omega
 have t:∀(b:I)(g:List Int)(U:List Ce)(K:Nat),m.size<=b.size->U=g.map Ce.i->K=g.length->g.length<=1000->au (bz S (b.push (.cells (br U) aB))) (.mk b.size 0 K K) g:=λb g U K h h1 h2 h3=>au.lit aB g (j h) h1 h2 V
 have az:∀(b:I)(f:Nat),au (bz S b) (.mk f 0 0 0) []:=λb f=>lg _ _ _ _ _ _
 intro a7
 have x1:J m a7:=J.push _ _
 refine AG _ λC x2=>?_
 intro m3
 have x3:J C m3:=J.push _ _
 have z2:=(x1.trans x2).size
 have i3:au (bz S m3) (.mk C.size 0 2 2) [0,1]:=t C [0,1] _ _ z2 rfl rfl bd
 clear_value m3
 refine AG _ λm4 Q=>?_
 intro s
 have x5:J m4 s:=J.push _ _
 have z4:=(x3.trans Q).size
 have c5:Rp (bz S s) (.mk m4.size 0 2 2) [[],[0,1]]:=uF (j V) _ [([],.mk m.size 0 0 0),([0,1],.mk C.size 0 2 2)] E (by simp;exact⟨az _ _,i3.le (Q.cK _)⟩) rfl rfl
 clear_value s
 intro m6 G
 obtain⟨x7,-,z7⟩:=jC (M:=s) (d:=m6) (c:=G) rfl rfl rfl
 clear_value G
 have z5:=x5.size
 intro m8
 have x8:J G m8:=J.push _ _
 clear_value m8
 have z8:=x8.size
 refine Kx _ bF λH x9=>?_
 intro aa
 have aJ:J H aa:=J.push _ _
 have z9:=x9.size
 have a2:au (bz S aa) (.mk H.size 0 3 3) [3,0,3]:=t H [3,0,3] _ _ V rfl rfl bd
 clear_value aa
 have vP:=aJ.size
 refine Kx _ bF λab an=>?_
 intro o
 have aK:J ab o:=J.push _ _
 have be:=an.size
 have aS:Rp (bz S o) (.mk ab.size 0 2 2) [[],[3,0,3]]:=uF (j V) _ [([],.mk G.size 0 0 0),([3,0,3],.mk H.size 0 3 3)] E (by simp;exact⟨az _ _,a2.le (an.cK _)⟩) rfl rfl
 clear_value o
 intro a8 p
 obtain⟨ba,-,bg⟩:=jC (M:=o) (d:=a8) (c:=p) rfl rfl rfl
 clear_value p
 have bf:=aK.size
 have u:∀{b:I},p.size<=b.size->∀f∈[o.size,s.size],f<b.size:=λh=>bF
 intro ac
 have aL:J p ac:=J.push _ _
 have a3:au (bz S ac) (.mk p.size 0 2 2) [1,3]:=t p [1,3] _ _ V rfl rfl bd
 clear_value ac
 have bb:=aL.size
 refine Kx _ (u bb) λae ap=>?_
 intro q
 have aM:J ae q:=J.push _ _
 have bh:=ap.size
 have aU:Rp (bz S q) (.mk ae.size 0 1 1) [[1,3]]:=uF (j V) _ [([1,3],.mk p.size 0 2 2)] E (by simp;exact a3.le (ap.cK _)) rfl rfl
 clear_value q
 have bi:=aM.size
 intro af
 have aO:J q af:=J.push _ _
 have a4:au (bz S af) (.mk q.size 0 3 3) [1,1,0]:=t q [1,1,0] _ _ V rfl rfl bd
 clear_value af
 have bj:=aO.size
 refine Kx _ (u V) λB aq=>?_
 intro ah
 have av:J B ah:=J.push _ _
 have bk:=aq.size
 have a5:au (bz S ah) (.mk B.size 0 1 1) [0]:=t B [0] _ _ V rfl rfl bd
 clear_value ah
 have bl:=av.size
 refine Kx _ (u V) λD L=>?_
 intro ai
 have N:J D ai:=J.push _ _
 have bm:=L.size
 have a6:au (bz S ai) (.mk D.size 0 1 1) [3]:=t D [3] _ _ V rfl rfl bd
 clear_value ai
 have bn:=N.size
 refine Kx _ (u V) λaj y=>?_
 intro r
 have aP:J aj r:=J.push _ _
 have bo:=y.size
 have aV:Rp (bz S r) (.mk aj.size 0 3 3) [[1,1,0],[0],[3]]:=uF (j V) _ [([1,1,0],.mk q.size 0 3 3),([0],.mk B.size 0 1 1),([3],.mk D.size 0 1 1)] E (by simp;exact⟨a4.le ((((((aq.trans av).trans L).trans N).trans y)).cK _),a5.le (((L.trans N).trans y).cK _),a6.le (y.cK _)⟩) rfl rfl
 clear_value r
 have bp:=aP.size
 have aF:=(((((aO.trans aq).trans av).trans L).trans N).trans y).trans aP
 have aC:=(((ba.trans aL).trans ap).trans aM).trans aF
 have T:=(((((x7.trans x8).trans x9).trans aJ).trans an).trans aK).trans aC
 have A:∀{aw ax:I}{x:O}{g:List (List Int)},J aw ax->Rp (bz S aw) x g->Rp (bz S ax) x g:=λaI h=>dT.le h (aI.cK _) (lB.le (aI.cK _))
 have al:Rp (bz S r) .nil []:=⟨rfl,ad _,E,E⟩
 intro e
 have v:J r e:=J.push _ _
 have aY:bR (bz S e) (.mk r.size 0 4 4) O0:=(zl (R:=gH) gH.mono (j (b:=r) V) jh [(⟨0,0,[[1,3]]⟩,[.i 0,.i 0,.s (.mk ae.size 0 1 1)]),(⟨1,0,[]⟩,[.i 1,.i 0,.s .nil]),(⟨0,0,[[1,1,0],[0],[3]]⟩,[.i 0,.i 0,.s (.mk aj.size 0 3 3)]),(⟨0,1,[]⟩,[.i 0,.i 1,.s .nil])] (by simp;exact⟨⟨_,rfl,A aF aU⟩,⟨_,rfl,al⟩,⟨_,rfl,aV⟩,⟨_,rfl,al⟩⟩) rfl rfl).done gH.mono (j V) bd bd
 clear_value e
 have bq:=v.size
 intro F
 have z:J e F:=J.push _ _
 have aG:V5 S e F (.mk e.size 0 3 3) HV:=zl (R:=gH) gH.mono (j (b:=e) V) jh [(⟨0,0,[[],[0,1]]⟩,[.i 0,.i 0,.s (.mk m4.size 0 2 2)]),(⟨0,0,[]⟩,[.i 0,.i 0,.s .nil]),(⟨0,0,[[],[3,0,3]]⟩,[.i 0,.i 0,.s (.mk ab.size 0 2 2)])] (by simp;exact⟨⟨_,rfl,A (T.trans v) c5⟩,⟨_,rfl,A v al⟩,⟨_,rfl,A (aC.trans v) aS⟩⟩) rfl rfl
 clear_value F
 have aA:=((((x1.trans x2).trans x3).trans Q).trans x5).trans (T.trans (v.trans z))
 have bs:=z.size
 have aR:Lw c [o.size,s.size] F:=λf n=>⟨u V f n,by simp at n;omega⟩
 refine(bM (X.ext aA) V 5).mono λ_ ak⟨aH,aW,k0,k1,W,i⟩=>⟨aR.de i,aH,aW,λh=>?_,λ_=>⟨_,HV,rfl,Gr.cF gH.mono (aG.fw gH.mono i (by simp;exact⟨Y,V⟩)) (λ_ h=>Or.inl h) V,by simp[pM],W,(aA.fz _).trans i⟩⟩
 simp only[ao]at h
 obtain⟨am,hq⟩:=ag (l:=O0) (k:=aH.toNat) (by simp[O0];omega)
 have a1:Le (bz S e) (bz (e.size::S) ak):=(z.bz λf n=>(List.mem_cons.1 n).elim (λh=>Or.inr V) Or.inl).trans (i.cK (by simp[Y]))
 obtain⟨aX,hf,e0,e1,e2⟩:=(aY.le a1).u hq
 refine⟨k0,bF,_,(dN.1 e0).2,_,(dN.1 e1).2,_,(dN.1 e2).2,?_⟩
 intro bc
 have aZ:V5 S e ak (.mk e.size 0 3 3) HV:=aG.fw gH.mono i (by simp;exact⟨Y,V⟩)
 have hz:=i.size
 have a0:HV++[am]∈pM:=by
  have:=ar hq;simp only[pM,aT,Un];exact Or.inr ⟨am,this,rfl⟩
 refine Gr.jN (f:=[.i 0,.i 0,.s .nil]) (j:=am) gH.mono bd aZ ((z.fz _).trans i) ⟨aX,rfl,hf⟩ (by simp[HV]) λa9 M' g' f' z' q'=>?_
 have ay:=((((((x1.trans x2).trans x3).trans Q).trans x5).trans (T.trans v)).fz [c]).trans f'
 have aQ:Lw c [o.size,s.size] e:=λf n=>⟨u V f n,by simp at n;omega⟩
 exact⟨aQ.By (((z.fz [c]).trans i).then (J.push ak _)) f',a9,_,rfl,Gr.cF gH.mono g' (λ_ h=>Or.inl h) V,a0,X.JT W ay (q' c W.lt (by show c≠e.size;omega)),ay⟩
end
end
section
variable{a:Nat}{b:List Ce}
def Mr(M:I)(b:List Ce)(x:cY×Option Ex):Prop:=∃c a k z,b=[.s c,.i x.1.aR,.i a,.i k,.s z]/\au M c x.1.params/\∀e,x.2=some e->a=e.op/\k=e.bJ/\eK M z e.bt
def Mr.mono:mD 5 Mr:=⟨λh⟨b,a,k,z,e,c,d⟩=>⟨b,a,k,z,e,c.le h,λx j=>let⟨f,g,i⟩:=d x j;⟨f,g,eK.le h i⟩⟩,λ⟨_,_,_,_,e,_⟩=>by rw[e];rfl⟩
def V3(M:I)(b:List Ce)(x:cY×Ex):Prop:=∃a s,b=[.s a,.i x.1.aR,.i x.2.op,.i x.2.bJ,.s s]/\au M a x.1.params/\eK M s x.2.bt
def V3.mono:mD 5 V3:=⟨λh⟨a,s,e,b,c⟩=>⟨a,s,e,b.le h,eK.le h c⟩,λ⟨_,_,e,_⟩=>by rw[e];rfl⟩
abbrev TN(m:I)(s:O)(l:List (cY×Ex)):Prop:=dT m 5 (V3 m) s l
structure TP(ds:List bO)(l:List (cY×Ex)):Prop where
 gp:GP ds (l.map (·.1))
 xl:∀x∈l,UM ds l.length x.1.params.length x.2
def Gr.WA{α:Type}{S:List Nat}{q p:I}{j g h c k:Nat}{R:I->List Ce->α->Prop}{o:List α}(x:0<g)(m:Gr S q p j g R (.mk h 0 a c) o)(v:k<=a):Gr S q p j g R (.mk h 0 k c) (o.take k):=by
 have w:=m.len x;obtain⟨-,b,r,d⟩:=m;simp only[O.fZ]at w;have t:b.length=a:=by rw[d.len];omega
 rcases r.u with e|⟨B,C,tail,e,h4,h5,h6,h7⟩
 ·simp at e
 simp only[O.fZ,O.mk.injEq]at e h7;obtain⟨rfl,-,-,rfl⟩:=e;have l:b.flatten=(b.take k).flatten++(b.drop k).flatten:=by rw[<-vR,df]
 have n:∀c∈b.take k,c.length=g:=λc s=>d.size c (cw s);refine⟨E,b.take k,⟨by rw[cX n,cZ,t,iO v];rfl,Or.inr ⟨h,c,(b.drop k).flatten++tail,E,h4,by rw[<-eI,<-l];exact h5,by rw[<-eI,<-l];exact h6,bF⟩⟩,?_,n,λy z A f i=>?_⟩
 ·rw[cZ,cZ,d.len]
 ·rw[lZ]at f i;split at f
  ·rename_i u;rw[aq u]at i;exact d.dh y z A f i
  ·simp at f
section
variable{S L:List Nat}{d P:Nat}{c:O}{m M:I}
def pB{K:O->Int->Int->Int->O->I->Prop}(l:List Int)(r:Int)(n:∀c∈S,c<M.size)(m:∀d∈L,d<M.size)(t:l.length<=1000)(p:b=l.map Ce.i)(s:a=l.length)(q:∀c,J M c->au (bz S c) (.mk M.size 0 a a) l->K (.mk M.size 0 a a) r 0 0 .nil c):
 aN bY 180 [O.v (.mk M.size 0 a a),vi r] (M.push (.cells (br b) aB)) λv c=>dV L (M.push (.cells (br b) aB)) c/\∃e:O,∃f:Int,∃g:Int,∃h:Int,∃i:O,v=.agg #[O.v e,vi f,vi g,vi h,O.v i]/\K e f g h i c:=
 have j:=J.push M (.cells (br b) aB)
 (Ov _ r _).mono λ_ c⟨k,x⟩=>⟨x.de λd o=>j.lt (m d o),_,_,_,_,_,k,q c (j.trans x) ((au.lit aB l n p s V).le (x.cK _))⟩
def vC(a:List Int)(r:Int):cY:=⟨a,[],r,0,[]⟩
def Qe.mono:mD 5 Qe:=⟨λh=>Qe.le h,λ⟨_,_,_,_,e,_⟩=>by rw[e];rfl⟩
def Oo(l:List (cY×O))(c:∀d∈S,d<M.size)(h:∀x∈l,au (bz S M) x.2 x.1.params)(k:l.length<=1000)(f:b=l.flatMap λx=>[.s x.2,.i x.1.aR,.i 0,.i 0,.s .nil])(g:a=l.length):nB (bz S (M.push (.cells (br b) eF))) (.mk M.size 0 a a) (l.map (·.1)):=by
 have H:=(zl (R:=Qe) Qe.mono c eF (l.map λx=>(x.1,[Ce.s x.2,.i x.1.aR,.i 0,.i 0,.s .nil])) (λx d=>by simp at d;obtain⟨i,j,e,rfl⟩:=d;exact⟨_,_,_,_,rfl,h _ e⟩) (c:=b) (b:=a) (by rw[f,List.flatMap_map]) (by simp[g])).done Qe.mono c bd bF;rwa[show(l.map λx=>(x.1,[Ce.s x.2,.i x.1.aR,.i 0,.i 0,.s .nil])).map (·.1)=l.map (·.1)by simp[Um,Yj]]at H
end
end
section
def R1:List cY:=[vC [1] 0,vC [1,1] 1,vC [1] 1,vC [1,0] 1,vC [2,1] 1,vC [1,1] 0]
def Sf:List cY:=[vC [3] 0,vC [0] 1,vC [0,1] 1,vC [3,0] 3,vC [3] 1,vC [1,3,0] 0]
def Md:List cY:=[vC [0] 0,vC [0,0] 0,vC [1,0] 0,vC [0] 1]
def NI:(∀q∈R1,(q.params,q.aR)∈Mz)/\(∀q∈Sf,(q.params,q.aR)∈Mz)/\∀q∈Md,(q.params,q.aR)∈Mz:=bd
def LN{α:Type}{l:List α}{k:Nat}{x:α}(h:l[k]? =some x):l.set k x=l:=fK λi=>by
 rw[iI];split
 ·rename_i e;subst e;rw[aq (ax h),h]
 ·rfl
section
variable{b:List Nat}{c P:Nat}{d:O}{m:I}
def BT(hS:∀o∈b,o<m.size)(u:c∈b)(T:Rd c d P m)(hP:P+10+4*(300+40*Cg 18)<=10000000000000000):
 aN bY 157 [vp c 0] m λbH m'=>∃z a1 A q,bH=.agg #[O.v z,O.v a1]/\bR (bz b m') z A/\TN (bz b m') a1 q/\TP A q/\Rd c d (P+10+4*(300+40*Cg 18)) m'/\Fz [c] m m':=by
 apply uY (c,0)
 unfold qd
 simp(config:={zeta:=false,maxSteps:=2000000}) only[aE,aD]
 have hr:=T.lt
 intro ah
 have x1:J m ah:=J.push _ _
 have s1:ah.size=m.size+1:=by simp[ah]
 clear_value ah
 have ay:∀o∈m.size::b,o<ah.size:=bD hS x1.size V
 refine(uf ay (by simp[u]) (T.ext x1) V).mono λ_ e⟨z,A,t,gd,aS,d2,f2⟩=>⟨f2.de bF,z,t,?_⟩
 have z2:=f2.size
 have F2:=(x1.fz [c]).trans f2
 have aR:bR (bz (m.size::b) e) z A:=gd.done gH.mono ay bd (by have:=nD A aS;omega)
 intro m3 C
 obtain⟨x4,-,z4⟩:=jC (M:=e) (d:=m3) (c:=C) rfl rfl rfl
 clear_value C
 have h:∀{g:I},C.size<=g.size->∀o∈e.size::m.size::b,o<g.size:=λs=>bD (λo hc=>by have:=ay o hc;omega) s V
 have j:∀{g:I},C.size<=g.size->∀y∈[e.size,m.size],y<g.size:=λs=>bF
 refine pB (S:=e.size::m.size::b) [1] 0 (h V) (j V) bd rfl rfl λba x5 i1=>?_
 have z5:=x5.size
 refine pB (S:=e.size::m.size::b) [1,1] 1 (h V) (j V) bd rfl rfl λbb x6 i2=>?_
 have z6:=x6.size
 refine pB (S:=e.size::m.size::b) [1] 1 (h V) (j V) bd rfl rfl λbc x7 i3=>?_
 have z7:=x7.size
 refine pB (S:=e.size::m.size::b) [1,0] 1 (h V) (j V) bd rfl rfl λbe x8 i4=>?_
 have z8:=x8.size
 refine pB (S:=e.size::m.size::b) [2,1] 1 (h V) (j V) bd rfl rfl λbf x9 i5=>?_
 have z9:=x9.size
 refine pB (S:=e.size::m.size::b) [1,1] 0 (h V) (j V) bd rfl rfl λa6 aI i6=>?_
 have vP:=aI.size
 intro Z
 have y1:J a6 Z:=J.push _ _
 have X9:=x9.trans aI;have X8:=x8.trans X9;have X7:=x7.trans X8;have X6:=x6.trans X7
 have g1:nB (bz (e.size::m.size::b) Z) (.mk a6.size 0 6 6) R1:=Oo [(vC [1] 0,.mk C.size 0 1 1),(vC [1,1] 1,.mk ba.size 0 2 2),(vC [1] 1,.mk bb.size 0 1 1),(vC [1,0] 1,.mk bc.size 0 2 2),(vC [2,1] 1,.mk be.size 0 2 2),(vC [1,1] 0,.mk bf.size 0 2 2)] (h V) (by simp;exact⟨i1.le (X6.cK _),i2.le (X7.cK _),i3.le (X8.cK _),i4.le (X9.cK _),i5.le (aI.cK _),i6⟩) E rfl rfl
 have bT:Z.size=a6.size+1:=by simp[Z]
 clear_value Z
 have w1:=y1.size
 refine pB (S:=e.size::m.size::b) [3] 0 (h V) (j V) bd rfl rfl λc1 u1 j1=>?_
 have v1:=u1.size
 refine pB (S:=e.size::m.size::b) [0] 1 (h V) (j V) bd rfl rfl λc2 u2 j2=>?_
 have v2:=u2.size
 refine pB (S:=e.size::m.size::b) [0,1] 1 (h V) (j V) bd rfl rfl λc3 u3 j3=>?_
 have v3:=u3.size
 refine pB (S:=e.size::m.size::b) [3,0] 3 (h V) (j V) bd rfl rfl λc4 u4 j4=>?_
 have v4:=u4.size
 refine pB (S:=e.size::m.size::b) [3] 1 (h V) (j V) bd rfl rfl λc5 u5 j5=>?_
 have v5:=u5.size
 refine pB (S:=e.size::m.size::b) [1,3,0] 0 (h V) (j V) bd rfl rfl λc6 u6 j6=>?_
 have v6:=u6.size
 intro b2
 have y2:J c6 b2:=J.push _ _
 have U5:=u5.trans u6;have U4:=u4.trans U5;have U3:=u3.trans U4;have U2:=u2.trans U3
 have g2:nB (bz (e.size::m.size::b) b2) (.mk c6.size 0 6 6) Sf:=Oo [(vC [3] 0,.mk Z.size 0 1 1),(vC [0] 1,.mk c1.size 0 1 1),(vC [0,1] 1,.mk c2.size 0 2 2),(vC [3,0] 3,.mk c3.size 0 2 2),(vC [3] 1,.mk c4.size 0 1 1),(vC [1,3,0] 0,.mk c5.size 0 3 3)] (h V) (by simp;exact⟨j1.le (U2.cK _),j2.le (U3.cK _),j3.le (U4.cK _),j4.le (U5.cK _),j5.le (u6.cK _),j6⟩) E rfl rfl
 have bU:b2.size=c6.size+1:=by simp[b2]
 clear_value b2
 have w2:=y2.size
 refine pB (S:=e.size::m.size::b) [0] 0 (h V) (j V) bd rfl rfl λe1 t1 k1=>?_
 have q1:=t1.size
 refine pB (S:=e.size::m.size::b) [0,0] 0 (h V) (j V) bd rfl rfl λe2 t2 k2=>?_
 have q2:=t2.size
 refine pB (S:=e.size::m.size::b) [1,0] 0 (h V) (j V) bd rfl rfl λe3 t3 k3=>?_
 have q3:=t3.size
 refine pB (S:=e.size::m.size::b) [0] 1 (h V) (j V) bd rfl rfl λe4 t4 k4=>?_
 have q4:=t4.size
 intro N
 have y3:J e4 N:=J.push _ _
 have T3:=t3.trans t4;have T2:=t2.trans T3
 have g3:nB (bz (e.size::m.size::b) N) (.mk e4.size 0 4 4) Md:=Oo [(vC [0] 0,.mk b2.size 0 1 1),(vC [0,0] 0,.mk e1.size 0 2 2),(vC [1,0] 0,.mk e2.size 0 2 2),(vC [0] 1,.mk e3.size 0 1 1)] (h V) (by simp;exact⟨k1.le (T2.cK _),k2.le (T3.cK _),k3.le (t4.cK _),k4⟩) E rfl rfl
 have bV:N.size=e4.size+1:=by simp[N]
 clear_value N
 have w3:=y3.size
 refine pB (S:=e.size::m.size::b) [] 0 (h V) (j V) bd rfl rfl λM0 x0 n0=>?_
 have z0:=x0.size
 have aM:=((((u1.trans U2).trans y2)).trans (t1.trans T2)).trans (y3.trans x0)
 have XM:J C M0:=((x5.trans X6).trans y1).trans aM
 have G1:=nB.le (aM.cK _) g1
 have G2:=nB.le ((((t1.trans T2)).trans (y3.trans x0)).cK _) g2
 have a_:=nB.le (x0.cK _) g3
 have dM:Rd c d (P+1) M0:=(d2.ext x4).ext XM
 have L2:∀{g:I},C.size<=g.size->Lw c [e.size,m.size] g:=λs=>lw hr bF
 have bN:c∈e.size::m.size::b:=by simp[u]
 have p:∀{g M':I}{y ac:Nat},C.size<=y->y<g.size->Fz [c] g M'->D M' y ac=D g y ac:=λh1 h2 ab=>aJ (ab.same _ h2 bF) _
 refine(bM dM V _).mono λ_ m5⟨r1,Q,bB,a3,d5,f5⟩=>⟨(L2 V).de f5,r1,Q,bB,by simp at a3⊢;omega,?_⟩
 have ap:Le (bz (e.size::m.size::b) M0) (bz (e.size::m.size::b) m5):=f5.cK (by simp[u])
 have b3:=f5.size
 obtain⟨U,aV⟩:=ag (l:=R1) (k:=r1.toNat) (by simp[R1]at a3⊢;omega)
 obtain⟨_,⟨pa,pn,pk,pz,rfl,pi⟩,pr⟩:=(nB.le ap G1).jA _ U aV
 have pg:=λv o s=>(dN.1 (pr v o s)).2
 refine⟨_,pg 0 _ rfl,_,pg 1 _ rfl,_,pg 2 _ rfl,_,pg 3 _ rfl,_,pg 4 _ rfl,?_⟩
 refine(bM d5 V _).mono λ_ m6⟨r2,Q,bE,a5,d6,B⟩=>⟨(L2 V).de B,r2,Q,?_⟩
 have b4:=B.size
 have av:Le (bz (e.size::m.size::b) m5) (bz (e.size::m.size::b) m6):=B.cK (by simp[u])
 obtain⟨W,aW⟩:=ag (l:=Sf) (k:=r2.toNat) (by simp[Sf]at a5⊢;omega)
 obtain⟨_,⟨qa,qn,qk,qz,rfl,qi⟩,qr⟩:=(nB.le (ap.trans av) G2).jA _ W aW
 have qg:=λv o s=>(dN.1 (qr v o s)).2
 refine⟨p bF bF B,p bF bF B,p bF bF B,p bF bF B,p bF bF B,bE,by simp at a5⊢;omega,_,qg 0 _ rfl,_,qg 1 _ rfl,_,qg 2 _ rfl,_,qg 3 _ rfl,_,qg 4 _ rfl,?_⟩
 refine(bM d6 V _).mono λ_ f⟨r3,Q,bG,a7,d7,r⟩=>⟨(L2 V).de r,r3,Q,?_⟩
 have b5:=r.size
 have aw:Le (bz (e.size::m.size::b) m6) (bz (e.size::m.size::b) f):=r.cK (by simp[u])
 obtain⟨Y,aX⟩:=ag (l:=Md) (k:=r3.toNat) (by simp[Md]at a7⊢;omega)
 obtain⟨_,⟨ra,rn,rk,rz,rfl,ri⟩,rr⟩:=(nB.le ((ap.trans av).trans aw) a_).jA _ Y aX
 have rg:=λv o s=>(dN.1 (rr v o s)).2
 refine⟨p bF bF r,p bF bF r,p bF bF r,p bF bF r,p bF bF r,p bF bF r,p bF bF r,p bF bF r,p bF bF r,p bF bF r,bG,by simp at a7⊢;omega,_,rg 0 _ rfl,_,rg 1 _ rfl,_,rg 2 _ rfl,_,rg 3 _ rfl,_,rg 4 _ rfl,?_⟩
 intro m8
 have a8:J f m8:=J.push _ _
 have br:au (bz (e.size::m.size::b) f) (.mk N.size 0 0 0) []:=lg _ _ _ _ _ _
 have gf:Gr (e.size::m.size::b) f m8 eF 5 Mr (.mk f.size 0 4 4) [(vC [] 0,none),(U,none),(W,none),(Y,none)]:=zl Mr.mono (h V) eF [((vC [] 0,none),[.s (.mk N.size 0 0 0),.i 0,.i 0,.i 0,.s .nil]),((U,none),[.s pa,.i U.aR,.i pn,.i pk,.s pz]),((W,none),[.s qa,.i W.aR,.i qn,.i qk,.s qz]),((Y,none),[.s ra,.i Y.aR,.i rn,.i rk,.s rz])] (by simp;exact⟨⟨_,_,_,_,rfl,br,E⟩,⟨_,_,_,_,rfl,pi.le (av.trans aw),E⟩,⟨_,_,_,_,rfl,qi.le aw,E⟩,⟨_,_,_,_,rfl,ri,E⟩⟩) rfl rfl
 have s8:m8.size=f.size+1:=by simp[m8]
 clear_value m8
 let w:=[vC [] 0,U,W,Y]
 have bJ:f.size≠e.size:=V
 have bj:∀ak∈w,(ak.params,ak.aR)∈Mz:=by
  simp only[w,aT,jk,yZ];rintro ak (rfl|rfl|rfl|rfl)
  ·simp[vC,Mz]
  ·exact NI.1 _ (ar aV)
  ·exact NI.2.1 _ (ar aW)
  ·exact NI.2.2 _ (ar aX)
 have a9:Fz [c] e f:=(((x4.trans XM).fz [c]).trans f5).trans (B.trans r)
 have a2:∀{g:I}{am:O}{q:List (cY×Option Ex)}(ac:Nat)(aa:List Ce),Gr (e.size::m.size::b) f g eF 5 Mr am q->Gr (e.size::m.size::b) f (aj g e.size ac aa) eF 5 Mr am q:=λac aa R=>R.KC Mr.mono ((Fz.aC [e.size] _).aj (Or.inl E) ac aa) E (by have:=R.aZ;simp;omega)
 intro m9
 have g9:Gr (e.size::m.size::b) f m9 eF 5 Mr (.mk f.size 0 4 4) [(vC [] 0,none),(U,none),(W,none),(Y,none)]:=a2 1 [.s (.mk f.size 0 4 4)] gf
 have r9:Rs c d e (P+4) m9:=(Rs.mk (a9.then a8) (d7.ext a8)).put d2 (ad _) 1 [.s (.mk f.size 0 4 4)]
 have s9:m9.size=m8.size:=az _ _ _ _
 clear_value m9
 intro aG
 have an:J m9 aG:=J.push _ _
 have bu:au (bz [c] aG) (.mk m9.size 0 5 5) [4,4,3,2,4]:=au.lit aB _ bF rfl rfl E
 clear_value aG
 have b0:=an.size
 refine(jw (r9.r.ext an) V bu E).mono λ_ bv⟨mn,Q,bq,bg,al⟩=>⟨(L2 V).de al,mn,Q,?_⟩
 have b1:=al.size
 have bL:2<=mn/\mn<=4:=by simp at bq;omega
 obtain⟨n,rfl⟩:∃n:Nat,mn=n:=⟨mn.toNat,V⟩
 have bm:O.cut (.mk f.size 0 4 4) (Int.toNat 0) (Int.toNat n) 5=.mk f.size 0 n 4:=by simp[O.cut]
 rw[bm]
 refine⟨bd,V,bF,?_⟩
 intro ai
 have bi:Gr (e.size::m.size::b) f ai eF 5 Mr (.mk f.size 0 n 4) ([(vC [] 0,none),(U,none),(W,none),(Y,none)].take n):=Gr.WA bd (a2 1 [.s (.mk f.size 0 n 4)] ((g9.ext Mr.mono an).fw Mr.mono al (by simp[u];omega))) V
 have bC:Rs c d e (P+5) ai:=((r9.ext an).to al bg).put d2 (ad _) 1 [.s (.mk f.size 0 n 4)]
 have bP:ai.size=bv.size:=az _ _ _ _
 clear_value ai
 have aY:(w.take n).length=n:=by simp[w];omega
 have gp:GP A (w.take n):=⟨aS,V,V,λak i=>bj ak (cw i)⟩
 have ew:cO ((n:Int) -1)=n -1:=aP V V
 rw[ew]
 refine⟨λab g=>∃(i:Nat)(q:List (cY×Option Ex)),ab=(i:Int) -1/\i<=n/\Gr (e.size::m.size::b) f g eF 5 Mr (.mk f.size 0 n 4) q/\q.map (·.1)=w.take n/\(∀(v:Nat)(x:cY×Option Ex),q[v]? =some x->i<=v->∃t,x.2=some t/\UM A n x.1.params.length t)/\Rs c d e (P+5+(n -i)*(300+40*Cg 18)) g/\ai.size<=g.size,λab _=>(ab+1).toNat,⟨n,_,rfl,ad _,bi,by rw[KZ];rfl,λv x G s=>by have:=ax G;simp at this;omega,by rw[Nat.sub_self,Nz];exact bC,ad _⟩,?_⟩
 rintro ab g ⟨i,q,rfl,bK,R,hl,aA,ae,zM⟩
 have bp:q.length=n:=by rw[<-aY,<-hl];simp
 have gy:=R.aZ
 simp only[O.jb]at gy
 have aQ:f.size∉e.size::m.size::b:=λs=>by have:=h (g:=C) (ad _) _ s;omega
 refine dit (λs=>?_) λs=>?_
 ·obtain⟨i,rfl⟩:∃H,i=H+1:=⟨i -1,V⟩
  have ek:((i+1:Nat):Int) -1=(i:Int):=V
  rw[ek]
  obtain⟨x,hx⟩:=ag (l:=q) (k:=i) V
  have aC:(w.take n)[i]? =some x.1:=by rw[<-hl];simp[hx]
  have bt:nB (bz [c] g) (.mk f.size 0 n 4) (w.take n):=by
   have K:=R.mg Mr.mono aQ bd V;rw[<-hl];refine⟨bF,K.cap,K.gA,λH aL hy=>?_⟩;simp only[bW,iK]at hy;obtain⟨af,hz,rfl⟩:=hy;obtain⟨aa,⟨L,i1,i2,i3,rfl,ha,-⟩,aF⟩:=K.jA H af hz;have a0:=gL g (S:=e.size::m.size::b) (c:=[c]) (by simp[u]);exact⟨_,⟨L,_,_,_,rfl,ha.le a0⟩,a0.jA aF⟩
  have bo:bR (bz [c] g) z A:=aR.le ((gL e (c:=[c]) (by simp[u])).trans (fh ae.f))
  have hB:(n -(i+1))*(300+40*Cg 18)+(300+40*Cg 18)=(n -i)*(300+40*Cg 18):=by rw[<-om];congr 1;omega
  have bk:(n -i)*(300+40*Cg 18)<=4*(300+40*Cg 18):=da _ V
  have bs:i=0->x.1.params.length=0:=λT=>by subst T;obtain⟨n',rfl⟩:∃n',n=n'+1:=⟨n -1,V⟩;simp[w]at aC;rw[<-aC];rfl
  have bl:∀o∈f.size::e.size::m.size::b,o<g.size:=bD (h (g:=g) V) (ad _) gy.2
  refine XP.kk (J0 (f:=f.size::e.size::m.size::b) bl (by simp[u]) ⟨ae.r,bo,bt,gp⟩ V aC bs) (L2 V) λam t M1 hs F bh ao=>?_
  have bX:=ao.size
  intro bw aH
  obtain⟨aK,-,bZ⟩:=jC (M:=M1) (d:=bw) (c:=aH) rfl rfl rfl
  clear_value aH
  have aO:=(R.fw Mr.mono ao (by simp[u];omega)).ext Mr.mono aK
  obtain⟨aa,⟨L,i1,i2,i3,rfl,ha,-⟩,aZ⟩:=aO.cells hx
  have bx:=aZ 0 _ rfl;have bA:=aZ 1 _ rfl
  refine⟨V,bF,L,bx,V,bF,_,bA,V,bF,?_⟩
  obtain⟨wr,gs,-,bO⟩:=aO.set Mr.mono (X:=List.range f.size) ⟨V,λy hb hn=>absurd (List.mem_range.2 hb) hn⟩ (k:=i) V (a:=(x.1,some t)) (cs:=[.s L,.i x.1.aR,.i t.op,.i t.bJ,.s am]) ⟨L,_,_,_,rfl,ha,λe' aU=>by simp at aU;subst aU;exact⟨rfl,rfl,eK.le (aK.cK _) hs⟩⟩
  refine⟨wr,?_⟩
  intro aU
  have bQ:aU.size=aH.size:=az _ _ _ _
  have a4:Rs c d e (P+5+(n -(i+1))*(300+40*Cg 18)+300+40*Cg 18) aU:=((ae.to ao bh).ext aK).put d2 (by show e.size<=f.size;omega) _ _
  refine⟨λy hb=>bn _ _ _ _ (by simp at hb;show y≠f.size;omega),⟨i,q.set i (x.1,some t),aP V V,V,gs,?_,λv aL G bI=>?_,⟨a4.f,a4.r.mono V⟩,V⟩,?_⟩
  ·rw[wQ,LN (by simp[hx]),hl]
  ·rw[iI]at G
   split at G
   ·rename_i e';subst e';rw[aq V]at G;simp at G;subst G
    have:(w.take n).length=n:=aY
    rw[this]at F;exact⟨t,rfl,F⟩
   ·exact aA v aL G V
  ·rw[aP V V];show((i:Int) -1+1).toNat<((i:Int)+1).toNat;omega
 ·have T:i=0:=V
  subst T
  have ao:Le (bz (e.size::m.size::b) g) (bz b (aj g m.size 0 [.s z,.s (.mk f.size 0 n 4)])):=bS E λo hc=>by simp[hc]
  have K:=R.mg Mr.mono aQ bd V
  have bk:(n -0)*(300+40*Cg 18)<=4*(300+40*Cg 18):=da _ V
  have G:Rs c d m (P+5+(n -0)*(300+40*Cg 18)) g:=⟨F2.trans ae.f,ae.r⟩
  have G:=G.put T (ad _) 0 [.s z,.s (.mk f.size 0 n 4)]
  have aH:(q.map λx=>(x.1,x.2.getD (.mk 0 0 []))).map (·.1)=w.take n:=by rw[Um,<-hl];rfl
  refine⟨z,.mk f.size 0 n 4,A,q.map λx=>(x.1,x.2.getD (.mk 0 0 [])),rfl,aR.le ?_,⟨bF,K.cap,K.gA,λH aL hy=>?_⟩,⟨by rw[aH];exact gp,λx hx=>?_⟩,G.r.mono V,G.f⟩
  ·exact(ae.f.cK (by simp[u])).trans ((bS E λo hc=>by simp[hc]))
  ·simp only[bW,iK]at hy
   obtain⟨af,hz,rfl⟩:=hy
   obtain⟨t,F,hf⟩:=aA H af hz (dZ _)
   obtain⟨aa,⟨L,i1,i2,i3,rfl,ha,hb⟩,aF⟩:=K.jA H af hz
   obtain⟨rfl,rfl,aC⟩:=hb t F
   exact⟨_,⟨L,i3,by simp[F],ha.le ao,by simp only[F,tB];exact eK.le ao aC⟩,ao.jA aF⟩
  ·simp only[Un]at hx
   obtain⟨af,hz,rfl⟩:=hx
   obtain⟨H,L⟩:=List.mem_iff_getElem?.1 hz
   obtain⟨t,F,hf⟩:=aA H af L (dZ _)
   simp only[F,tB,eP,bp];exact hf
end
end
structure Mi(S:List Nat)(m0 m:I)(lb:Nat)(s:O)(l:List cg)(sc:Nat):Prop where
 box:cD m lb j9 [.s s,.i sc]
 gr:GS (lb::S) m0 m s l
 up:m0.size<=lb
def Mi.ext{S:List Nat}{c m b:I}{a d:Nat}{s:O}{l:List cg}(h:Mi S c m a s l d)(x:J m b):Mi S c b a s l d:=⟨h.box.ext x,h.gr.ext fA.mono x,h.up⟩
def Mi.ne{S:List Nat}{b m:I}{a c:Nat}{s:O}{l:List cg}(h:Mi S b m a s l c):s.F≠a:=h.gr.ne h.box bd
def Xq(S:List Nat)(f m:I)(c:Nat)(s:O)(P:List cg->Nat->Prop)(d:I):Prop:=∃a b e,Mi S f d c a b e/\P b e/\Fz [c,s.F] m d/\(a.F=s.F\/m.size<=a.F)
def Ja{S:List Nat}{n e:I}{b f:Nat}{s w D:O}{l:List cg}{x:cg}(q:Mi S n e b s l f)(C:n.size<=e.size)(R:au (bz (s.F::b::S) e) w x.args)(T:mf (bz (s.F::b::S) e) D x.bt)(t:l.length<=1000000)(hs:f<=1000000):
 aN bY 241 [vp b 0,np x w D] e λaa X=>aa=vi (f:Nat)/\Xq S n e b s (λc d=>c=l++[x]/\d=f+1) X:=by
 apply uj (b,0)
 simp -zeta only[aE,aD]
 intro i
 have k:J e i:=J.push _ _
 have s1:i.size=e.size+1:=by simp[i]
 clear_value i
 have g:=q.ext k
 have hy:=g.gr.aZ
 have U:=g.ne
 have K:=g.box.lt
 have ae:=q.box.lt
 have af:=q.gr.aZ
 refine⟨s,g.box.cy 0,?_⟩
 intro Z
 have L:J i Z:=J.push _ _
 refine⟨aJ (L.same _ K) _,?_⟩
 have P:GS (b::S) (e.extract 0 n.size) i s l:=Gr.cF fA.mono g.gr (λM t=>Or.inl t) (by rw[kL C];exact ad _)
 refine Gr.jN (f:=[.i 0,.i 0,.i 0,.s .nil,.s .nil]) (j:=x) fA.mono bd P (((J.Mk C).trans k).fz []) ⟨w,D,rfl,R.le (k.cK _),dT.le T (k.cK _) λ_ _=>pL.le (k.cK _)⟩ V λp u G ac ab F=>?_
 have A:cD u b j9 [.s s,.i f]:=g.box.congr (F b K (km U))
 have W:=G.ne A bd
 refine⟨λc d=>?_,A.fu E,?_⟩
 ·simp at d;subst d
  rw[F e.size V V,L.same _ V]
 intro j
 have B:cD j b j9 [.s p,.i f]:=cD.aj (m:=u) (o:=0) (r:=[.s p]) A
 have y:∀c,c≠b->j[c]? =u[c]? :=λc d=>bn _ _ _ _ d
 have s4:j.size=u.size:=az _ _ _ _
 have N:cO ((f:Int)+1)=(f+1:Nat):=by rw[aP V V];rfl
 refine⟨λc d=>y c (by simp at d;omega),_,B.cy 1,B.fu E,?_⟩
 rw[N]
 intro v
 have H:cD v b j9 [.s p,.i (f+1:Nat)]:=cD.aj (m:=j) (o:=1) (r:=[.i (f+1:Nat)]) B
 have z:∀c,c≠b->v[c]? =j[c]? :=λc d=>bn _ _ _ _ d
 have s5:v.size=j.size:=az _ _ _ _
 refine⟨λc d=>z c (by simp at d;omega),_,H.cy 1,?_⟩
 have Q:GS (b::S) n v p (l++[x]):=by
  refine Gr.cF fA.mono (G.re fA.mono (Y:=[b]) ⟨V,λc d h=>?_⟩ E (by simp;exact W) λc d=>Or.inl d) (λM t=>Or.inl t) (by rw[kL C];exact ad _);have:c≠b:=by simpa using h
  exact(z c this).trans (y c this)
 refine⟨by rw[aP V V];congr 1;omega,p,_,_,⟨H,Q,q.up⟩,⟨rfl,rfl⟩,⟨V,λc d h=>?_⟩,by have:=ab.2;omega⟩
 simp only[aT,jk,yZ,tD]at h
 rw[z c h.1,y c h.1,F c V h.2,k.same c d]
section
variable{a:List bO}{b K D f e:Nat}{d:List cg}
structure LW(a:List bO)(b sc:Nat)(d:List cg)(K D sc':Nat):Prop where
 wl:WL a b False sc d
 dd:sc'=sc+dc d
 sz:sw d<=K
 mG:sc'<=sc+D
def LW.aC(a:List bO)(b c:Nat):LW a b c [] 0 0 c:=⟨.nil _ _ _ _,E,E,V⟩
def LW.fI{c g:Nat}(h:LW a b c d K D g)(j:K<=f)(i:D<=e):LW a b c d f e g:=⟨h.wl,h.dd,by have:=h.sz;omega,by have:=h.mG;omega⟩
def LW.trans{i j k:Nat}{g:List cg}(h:LW a b i d K D j)(c:LW a b j g f e k):LW a b i (d++g) (K+f) (D+e) k:=
 ⟨h.wl.append (h.dd▸c.wl),by rw[c.dd,h.dd,cp];omega,by have:=h.sz;have:=c.sz;rw[db];omega,by have:=h.mG;have:=c.mG;omega⟩
def LW.kv{a:List bO}{b c:Nat}{x:cg}(h:WS a b False c x):LW a b c [x] x.w 1 (c+1):=⟨.kv h,by rw[jG,qU,WC h],by simp[sw],V⟩
section
variable{S:List Nat}{g m h:I}{c i n:Nat}{s k:O}{l j:List cg}
def Mi.ft(a:Mi S g m c s l i)(e:J g m)(d:Fz [c,s.F] m h):J g h:=by
 have k:=a.gr.aZ;have j:=a.up;exact Fz.ext (((e.fz [c,s.F]).trans d).AY λf b=>Or.inr (by simp at b;omega))
def Mi.re{S' Y:List Nat}(d:Mi S g m c s l i)(j:Fz Y m h)(e:∀b∈Y,b∈S/\b≠c/\b≠s.F)(k:∀b∈S',b∈S\/m.size<=b):Mi S' g h c s l i:=
 ⟨d.box.congr (j.same _ d.box.lt λf=>(e _ f).2.1 rfl),d.gr.re fA.mono j (λb a=>ah _ (e b a).1) (λf=>(e _ f).2.2 rfl) λb a=>(List.mem_cons.1 a).elim (λf=>Or.inl (by rw[f];exact aS)) λa=>(k b a).imp (ah _) id,d.up⟩
end
structure LS(S:List Nat)(m0 m:I)(lb:Nat)(s:O)(l:List cg)(sc:Nat)(GK:O)(ev:List Int):Prop where
 em:Mi S m0 m lb s l sc
 x:J m0 m
 ft:∀c∈S,c<m.size
 GK:au (bz [s.F,lb] m) GK ev
 sm:∀y∈ev,0<=y/\y<(sc:Int)
def WJ(e:Ex)(t:O):Value:=.agg #[vi e.op,vi e.bJ,O.v t]
def Rv(a:List bO)(b:Nat)(e:Ex):Prop:=∀(S:List Nat)(c m:I)(g:Nat)(s:O)(l:List cg)(h:Nat)(GK:O)(f:List Int)(i p t:O),LS S c m g s l h GK f->WX a b f.length e->h+4*e.n<=2000->f.length+4*e.n<=2000->l.length+4*e.n<=2000->bR c i a->dx a->eK c t e.bt->
 aN bY 208 [vp g 0,.agg #[O.v i,O.v p],WJ e t,O.v GK] m λv n=>∃r:Int,v=vi r/\Xq S c m g s (λk j=>∃d,k=l++d/\LW a b h d (3*e.n -1) e.n j/\0<=r/\r<(j:Int)) n
def Wr(a:List bO)(b:Nat)(e:Ex):Prop:=∀(S:List Nat)(m:I)(d:Nat)(GK:O)(c:List Int)(g p t:O),(∀f∈S,f<m.size)->au m GK c->(∀y∈c,0<=y/\y<(d:Int))->WX a b c.length e->d+4*e.n<=2000->c.length+4*e.n<=2000->bR m g a->dx a->eK m t e.bt->
 lV 179 [.agg #[O.v g,O.v p],WJ e t,O.v GK,vi d] m S λf=>WB a b False d f/\f.w<=3*e.n
def _root_.Go.Vc.Ex.KD(e:Ex):1<=e.n:=by rw[Ex.Vm];omega
def AJ{f:Ex}(n:Rv a b f):Wr a b f:=by
 intro k x q GK G D X aa v M P R ae ab L Q N;apply wy;simp -zeta only[aE,aD];intro U h c e g;obtain⟨i,hl,s1,s2,s3⟩:=oE (c:=U) (a:=h) (b:=c) rfl rfl rfl;have s:J c e:=J.push _ _;have s4:e.size=c.size+1:=by simp[e]
 have I:GS ((c.size+1)::h.size::k) c e (.mk c.size 0 0 0) []:=Gr.new _ (ad _) _ _ _;have j:J e g:=J.push _ _;have A:cD g e.size j9 [.s (.mk c.size 0 0 0),.i q]:=cD.push _ _ _;clear_value g e c;have X3:=i;have t:=(i.trans s).trans j;have z5:=j.size;have K:∀u∈h.size::k,u<g.size:=bD v t.size V;have T:Mi (h.size::k) c g e.size (.mk c.size 0 0 0) [] q:=⟨A,s4▸I.ext fA.mono j,V⟩;have hp:=f.KD;refine(n (h.size::k) c g e.size _ [] q GK G D X aa ⟨T,s.trans j,K,(M.le (((i.trans s).trans j).bz (S:=[]) bF|>λn=>(xy x).trans n)),P⟩ R V V bF (L.le i.le) Q (eK.le i.le N)).mono λag W⟨y,H,z,p,af,l,⟨d,F,r,Y,Z⟩,m,b6⟩=>?_;subst F;have z6:=m.size;have B:J x W:=Fz.ext (((t.fz [e.size,c.size]).trans m).AY λC o=>by simp at o;omega);refine⟨m.de λC o=>by simp at o;simp;omega,y,H,z,l.box.cy 0,?_⟩;intro m7;have hz:=r.sz;have ac:=eY p;refine⟨z,.mk p y,rfl,dL.le (bS E λu w=>by simp[w]) (l.gr.mg fA.mono (λw=>?_) bd (by show p.length<=_;omega)),⟨WB.of r.wl ⟨Y,by rw[<-r.dd];exact Z⟩,by rw[Bk.oU];omega⟩,B.aj V _ _⟩;have hy:=l.gr.aZ;have O:=l.ne;simp only[aT]at w;rcases w with f|f|f
 ·exact O f
 ·omega
 ·have:=v _ f;omega
end
section
variable{M d:I}{a e:Nat}{c:List bO}
def MJ{m:I}{t:O}{l:List Ex}(h:eK m t l){k:Nat}{x:Ex}(f:l[k]? =some x)(a:J m M):∃u,eK m u x.bt/\D M t.F (t.off+k*3)=some (vi x.op)/\D M t.F (t.off+k*3+1)=some (vi x.bJ)/\D M t.F (t.off+k*3+2)=some (O.v u):=
 let⟨u,b,c,d,e⟩:=h.u f;⟨u,b,a.D c,a.D d,a.D e⟩
def gx(x:J M d){o:Nat}{v:Value}(h:D M a o=some v):D d a o=D M a o:=by rw[x.D h,h]
def gl(x:J M d)(h:a<M.size)(o:Nat):D d a o=D M a o:=aJ (x.same a h) o
def QM{t bJ:Int}{bt:List Ex}(ih:∀w∈bt,Rv c e w):Rv c e (.mk t bJ bt):=by
 intro z m0 H f D af sc GK N ap av bB g hw bx bm bu hd ht hk;have W:=hw.bq;simp only[WJ,Ex.S0,Ex.QT,Ex.OZ,Ex.PI]at*;apply sj (f,0);simp -zeta only[aE,aD];intro aq v;obtain⟨L,hl⟩:=dj (a:=aq) (b:=v) rfl rfl;have s1:aq.size=H.size+1:=by simp[aq]
 have s2:v.size=H.size+2:=by simp[v,s1]
 clear_value v;have aW:=hk.len;have br:=hk.gA;have bs:=g.em.box.lt;have o:=g.em.gr.aZ;have bv:=g.em.ne;have cK:∀{M:I}{h:O},Fz [f,D.F] H M->(h.F=D.F\/H.size<=h.F)->Le (bz [D.F,f] H) (bz [h.F,f] M):=λai i=>nH λa aK hn=>by
  simp at hn;exact⟨by simp;rcases i with w|w<;>omega,ai.same a aK bF⟩
 have st:∀{aC:List Nat}{M:I}{h:O}{l':List cg}{K:Nat},Mi aC m0 M f h l' K->Fz [f,D.F] H M->(h.F=D.F\/H.size<=h.F)->(∀r∈aC,r<M.size)->sc<=K->LS aC m0 M f h l' K GK N:=λam ai i hS hs=>⟨am,g.em.ft g.x ai,hS,g.GK.le (cK ai i),λy o=>⟨(g.sm y o).1,by have:=(g.sm y o).2;omega⟩⟩;have de:∀{M d:I}{h:O},v.size<=M.size->(h.F=D.F\/v.size<=h.F)->Fz [f,h.F] M d->dV [aq.size,H.size] M d:=λhz i ai=>ai.de λa aK=>by simp at aK;simp;omega
 have ao:∀{M d:I},v.size<=M.size->J M d->dV [aq.size,H.size] M d:=λhz bi=>bi.de λa i=>by simp at i;omega
 have fr:∀{M d:I}{h:O},Fz [f,D.F] H M->(h.F=D.F\/v.size<=h.F)->Fz [f,h.F] M d->Fz [f,D.F] H d:=λai i U=>ai.pX U λy o=>by simp at o⊢;omega
 refine⟨λay=>?_,λay=>⟨λal=>?_,λal=>⟨λaz=>?_,λaz=>?_⟩⟩⟩
 ·simp only[aL]at ay;obtain⟨p,s⟩:=W.1.Ra ay;have q:=g.GK.len;obtain⟨y,A⟩:=ag (l:=N) (k:=bJ.toNat) V;have j:=g.sm y (ar A);exact⟨p,V,y,(dN.1 ((g.GK.le (L.cK _)).u A)).2,y,rfl,D,af,sc,g.em.ext L,⟨[],E,(LW.aC c e sc).fI V V,j⟩,L.fz _,Or.inl rfl⟩
 ·simp only[aL]at al;have h2:=W.1.HB al;obtain⟨e0,ac⟩:=ag (l:=bt) (k:=0) V;obtain⟨p,j⟩:=ag (l:=bt) (k:=1) V;have aS:en bt=e0.n+p.n:=by
   obtain⟨B,a,rfl⟩:∃B a,bt=[B,a]:=by
    match bt,h2 with
    |[B,a],_=>exact⟨B,a,rfl⟩
   simp at ac j;subst ac j;simp[en]
  have p0:=e0.KD;have p1:=p.KD;obtain⟨u0,aN,g0,g1,g2⟩:=MJ hk ac (g.x.trans L);refine⟨bd,V,_,g0,_,g1,_,g2,?_⟩;have S2:=st (g.em.ext L) (L.fz _) (Or.inl rfl) (λr u=>by have:=g.ft r u;omega) (ad _);refine(ih e0 (ar ac) z m0 v f D af sc GK N ap av u0 S2 (by have:=W.2 0 e0 ac;simpa[xb]using this) V V V hd ht aN).mono λab s⟨Z,aH,Q,l3,aa,P,⟨ak,aG,w3,bf,bh⟩,f3,b3⟩=>⟨de (ad _) (Or.inl rfl) f3,Z,aH,?_⟩;subst aG;have F3:=fr (L.fz _) (Or.inl rfl) f3;have z3:=f3.size;have X3:=g.em.ft g.x F3;obtain⟨u1,aI,k0,k1,k2⟩:=MJ hk j X3;have a3:=w3.mG;have a_:=eY ak;have be:=w3.sz;refine⟨bd,V,_,k0,_,k1,_,k2,?_⟩;have S3:=st P F3 V (λr u=>by have:=g.ft r u;omega) (by have:=w3.dd;omega);have C:∀r∈[Q.F,f],r<s.size:=λr u=>by have:=P.gr.aZ;have:=P.box.lt;simp at u;omega
  intro G;have q:J s G:=J.push _ _;have aJ:au (bz [Q.F,f] G) (.mk s.size 0 1 1) [Z]:=au.lit aB _ C rfl rfl E;clear_value G;refine⟨gx q k0,gx q k1,gx q k2,gl q V _,gl q V _,gl q V _,?_⟩;have z4:=q.size;refine(dK (S:=[Q.F,f]) (λr u=>q.lt (C r u)) (S3.GK.le (q.cK _)) aJ bF).mono λab m5⟨R,l5,e5,g5,q5,F⟩=>⟨ao V F,R,e5,gx F (q.D k0),gx F (q.D k1),gx F (q.D k2),gl F V _,gl F V _,gl F V _,?_⟩;subst q5;have z5:=F.size;have S5:LS z m0 m5 f Q (af++ak) aa R (N++[Z]):=⟨(P.ext q).ext F,(X3.trans q).trans F,λr u=>by have:=g.ft r u;omega,GI.done g5 (λr u=>q.lt (C r u)) bF,λy o=>by
   rcases List.mem_append.1 o with o|o
   ·have:=g.sm y o;have:=w3.dd;omega
   ·simp at o;omega⟩
  refine(ih p (ar j) z m0 m5 f Q (af++ak) aa R (N++[Z]) ap av u1 S5 (by have:=W.2 1 p j;simpa[xb,al]using this) V bF bF hd ht aI).mono λab m6⟨r1,aA,s6,l6,aR,o6,⟨aM,aj,w6,aO,aQ⟩,T,b6⟩=>⟨de V V T,r1,aA,r1,rfl,s6,l6,aR,o6,⟨ak++aM,by rw[aj,eI],(w3.trans w6).fI V V,aO,aQ⟩,fr ((F3.then q).then F) V T,V⟩
 ·simp only[cr,aL]at az;have h3:t=7->bt.length=3:=W.1.VW;have aJ:t=8->bt.length=1+(bU c bJ).length/\0<(bU c bJ).length:=W.1.all;have a7:1<=bt.length:=by rcases az with p|p;have:=h3 p;omega;have:=aJ p;omega
  obtain⟨e0,ac⟩:=ag (l:=bt) (k:=0) V;have bn:en (bt.take 1)=e0.n:=by have:=HH ac;simpa using this
  have bp:=OQ bt 1;have p0:=e0.KD;obtain⟨u0,aN,g0,g1,g2⟩:=MJ hk ac (g.x.trans L);refine⟨bd,V,_,g0,_,g1,_,g2,?_⟩;have S2:=st (g.em.ext L) (L.fz _) (Or.inl rfl) (λr u=>by have:=g.ft r u;omega) (ad _);refine(ih e0 (ar ac) z m0 v f D af sc GK N ap av u0 S2 (by have:=W.2 0 e0 ac;simpa[xb]using this) V V V hd ht aN).mono λab s⟨Z,aH,Q,l3,aa,P,⟨ak,aG,w3,bf,bh⟩,f3,b3⟩=>⟨de (ad _) (Or.inl rfl) f3,Z,aH,?_⟩;subst aG;have F3:=fr (L.fz _) (Or.inl rfl) f3;have z3:=f3.size;have X3:=g.em.ft g.x F3;have a3:=w3.mG;have a_:=eY ak;have be:=w3.sz;have S3:=st P F3 V (λr u=>by have:=g.ft r u;omega) (by have:=w3.dd;omega);have aI:∀r∈Q.F::f::z,r<s.size:=bD (bD (m:=H) g.ft V P.box.lt) (ad _) P.gr.aZ.2;intro G;have q:J s G:=J.push _ _;have g4:GB (Q.F::f::z) s G (.mk s.size 0 0 0) []:=GB.new _ s;have s4:G.size=s.size+1:=by simp[G]
  clear_value G;refine(fV (S:=[s.size]) bF (hd.le (X3.trans q).le) ht bJ).mono λab m5⟨cs,cl,ec,u,qc,F⟩=>⟨ao V F,cs,ec,?_⟩;subst qc;have bl:=u.len;have z5:=F.size;refine NW (a:=bt.length) (aW▸hk.gA) a7 (λj ks M=>∃C,GB (Q.F::f::z) s M ks C/\C.length+1=j/\(∀(aj:Nat)(a:Bk),C[aj]? =some a->WB c e False (aa+y9 c t bJ aj) a)/\bw C+3*e0.n<=3*en (bt.take j)/\J s M/\Fz [s.size] m5 M/\(ks.F=s.size\/m5.size<=ks.F)) ⟨[],g4.ext pL.mono F,rfl,E,bF,q.trans F,Fz.aC _ _,Or.inl rfl⟩ ?_;rintro j ks M a0 μ bq hj ⟨C,U,a9,aY,a4,xM,fM,aV⟩ aO
  have zM:=xM.size;have aU:=U.aZ;have oM:=P.box.ext xM;refine dit (λp=>?_) λp=>?_
  ·have ew:cO ((j:Int) -1)=((j -1:Nat):Int):=by rw[aP V V];omega
   refine⟨λaZ d=>J M d/\aZ=(y9 c t bJ (j -1):Nat),⟨λh8=>?_,λh8=>⟨J.aC _,by simp only[an]at h8;rw[HZ h8];rfl⟩⟩,?_⟩
   ·simp only[aL]at h8;have ha:=aJ h8;obtain⟨y,A⟩:=ag (l:=bU c bJ) (k:=j -1) V;rw[ew];refine⟨V,V,y,(dN.1 ((u.le (fM.cK E)).u A)).2,?_⟩;refine(dm (S:=[]) E (hd.le ((X3.trans xM).le.trans (xy _))) ht y).mono λab m6⟨T,l6,e6,h6,q6,R⟩=>⟨ao V R,T,e6,R,?_⟩;subst q6;rw[HY h8 A,h6.len]
   rintro aZ m6 ⟨R,rfl⟩;obtain⟨w,he⟩:=ag (l:=bt) (k:=j) V;have X6:=(X3.trans xM).trans R;obtain⟨aR,hu,k0,k1,k2⟩:=MJ hk he X6;have B6:=oM.ext R;have z6:=R.size;refine⟨V,V,_,k0,_,k1,_,k2,_,B6.cy 1,_,B6.cy 1,?_⟩;have bj:=NJ ht t bJ (j -1);have a6:=HH he;have a5:=OQ bt (j+1);have bb:=w.KD;refine(kG (S:=[]) (m:=m6) E aa (y9 c t bJ (j -1)) V).mono λab m7⟨s7,l7,e7,g7,q7,A⟩=>⟨ao V A,s7,e7,gx A (B6.cy 1),gx A k0,gx A k1,gx A k2,gl A V _,gl A V _,gl A V _,?_⟩;have z7:=A.size;have a2:au (bz [] m7) GK N:=(S3.GK.le ((((xM.trans R).trans A).cK _).trans (bo _ _))).le (xy _);refine(dK (S:=[]) E a2 (GI.done g7 E V) V).mono λab m8⟨s8,l8,e8,g8,q8,T⟩=>⟨ao V T,s8,e8,gx T ((B6.ext A).cy 1),gx T (A.D k0),gx T (A.D k1),gx T (A.D k2),gl T V _,gl T V _,gl T V _,?_⟩;subst q8;have z8:=T.size;have a8:(N++l7).length=N.length+y9 c t bJ (j -1):=by simp;exact q7.2
   rw[aP (x:=(aa:Int)+(y9 c t bJ (j -1):Nat)) V V,show(aa:Int)+(y9 c t bJ (j -1):Nat)=((aa+y9 c t bJ (j -1):Nat):Int)by omega];have aA:=(R.trans A).trans T;have bc:WX c e (N++l7).length w:=by
    have:=W.2 j w he;rw[a8];obtain⟨j',rfl⟩:∃j',j=j'+1:=⟨j -1,V⟩;have a1:xb c t bJ (j'+1)=y9 c t bJ j':=ae (by simpa using al);rwa[a1]at this
   refine(AJ (ih w (ar he)) (ks.F::Q.F::f::z) m8 _ s8 (N++l7) ap av aR (bD (λr u=>by have:=aI r u;omega) (ad _) V) ((GI.done g8 E V).le (bo _ _)) (λy o=>?_) bc V V (hd.le ((X6.trans A).trans T).le) ht (eK.le ((X6.trans A).trans T).le hu)).mono λab m9⟨s9,b9,e9,h9,q9,x9⟩=>⟨ao V x9,s9,_,e9,?_⟩
   ·rcases List.mem_append.1 o with o|o
    ·have:=S3.sm y o;omega
    ·have:=q7.1 y o;omega
   intro bA;have z9:=x9.size;have bk:=oF C;refine GB.jN (b:=b9) ((U.ext pL.mono aA).ext pL.mono x9) (((xM.trans aA).trans x9).fz []) h9 V λaQ d g' f' z' q'=>⟨λa i=>by
    have aS:a<s.size:=by simp at i;omega
    rw[f'.ext.same a aS,(((xM.trans aA).trans x9).aM _).same a aS],aO V _ _ ⟨_,g',by rw[bg,List.length_singleton];omega,λaj a hi=>?_,?_,f'.ext,(fM.then (aA.trans x9)).pX (Y:=[ks.F]) ⟨z'.1,λa i hn=>q' a i (by simpa using hn)⟩ (λy o=>by simp at o⊢;omega),by have:=fM.size;omega⟩⟩
   ·rcases aX aj C.length with aM|aM
    ·rw[aw aM]at hi;exact aY aj a hi
    ·rw[aF aM]at hi;have:aj -C.length=0:=by have:=ax hi;simp at this;omega
     rw[this]at hi;simp at hi;subst hi;have:aj=j -1:=V;subst this;exact q9.1
   ·rw[mX,sH,xe];have:=q9.2;omega
  ·have T:j=bt.length:=V;subst T;rw[eT]at a4;intro m6;have R:J M m6:=J.push _ _;have aZ:au (bz (Q.F::f::z) m6) (.mk M.size 0 1 1) [Z]:=au.lit aB _ (λr u=>by have:=aI r u;omega) rfl rfl E;have z6:=R.size;have aV:mf (bz (Q.F::f::z) m6) ks C:=mf.le (R.cK _) (U.done pL.mono aI bd (by have:=oF C;omega));clear_value m6;have X6:=xM.trans R;refine(Ja (x:=⟨t,bJ,0,[Z],C⟩) (P.ext X6) (X3.trans X6).size aZ aV bF V).mono λab m7⟨aS,s7,l7,a1,o7,⟨aA,aM⟩,A,b7⟩=>⟨de V V A,aa,aS,aa,rfl,s7,l7,a1,o7,⟨ak++[⟨t,bJ,0,[Z],C⟩],by rw[aA,eI],?_,V,V⟩,fr (F3.then X6) V A,V⟩;have ws:WS c e False aa ⟨t,bJ,0,[Z],C⟩:=⟨⟨Or.inl (by show 0<=t/\t<=11;omega),bF,λ_=>rfl,⟨by show(0:Int)<=0;omega,by show(0:Int)<=_;omega⟩,λp=>by show C.length=2;have:=h3 p;omega,λp=>by show C.length=(bU c bJ).length/\0<C.length;have:=aJ p;omega,λp=>by simp only at p;omega⟩,aY⟩;subst aM;exact(w3.trans (LW.kv ws)).fI (by rw[cg.kT];simp only[ba,eG];omega) V
 ·simp only[bP,an]at az;simp only[an]at ay al;have ho:=W.1.o;intro s;have x3:J v s:=J.push _ _;have g3:GI [] v s (.mk v.size 0 0 0) []:=GI.nil [] v;have aS:s.size=v.size+1:=by simp[s]
  clear_value s;have P:Mi (v.size::z) m0 s f D af sc:=(g.em.ext L).re (x3.fz []) E λa i=>(List.mem_cons.1 i).elim (λp=>Or.inr V) Or.inl;refine dt (n:=bt.length) (aW▸hk.gA) (λj B M=>∃h K u r,Mi (B.F::z) m0 M f h (af++u) K/\LW c e sc u (3*en (bt.take j) -j) (en (bt.take j)) K/\GI [] v M B r/\r.length=j/\(∀y∈r,0<=y/\y<(K:Int))/\Fz [f,D.F] H M/\(h.F=D.F\/v.size<=h.F)/\v.size<=M.size) ⟨D,sc,[],[],by simpa using P,(LW.aC c e sc).fI (dZ _) (dZ _),g3,rfl,E,(L.trans x3).fz _,Or.inl rfl,V⟩ ?_;rintro j B M a0 μ hj ⟨h,K,u,r,am,A,U,a9,aa,fM,i,zM⟩ aO
  have Q:=g.em.ft g.x fM;have aj:=A.mG;have aJ:=A.dd;have aU:=U.aZ;have F:B.F≠f:=U.ne am.box bd;have IH:B.F≠h.F:=U.IH am.gr bd;have aN:=eY u;have aA:=A.sz;have a5:=OQ bt j;refine dit (λp=>?_) λp=>?_
  ·obtain⟨w,he⟩:=ag (l:=bt) (k:=j) V;obtain⟨aR,hu,k0,k1,k2⟩:=MJ hk he Q;have a6:=HH he;have aM:=OQ bt (j+1);have bb:=w.KD;have ak:=NQ (bt.take j);rw[cZ,iO V]at ak;refine⟨V,V,_,k0,_,k1,_,k2,?_⟩;have SM:=st am fM V (bD (m:=H) g.ft V aU.2) V;refine(ih w (ar he) (B.F::z) m0 M f h (af++u) K GK N ap av aR SM (by have:=W.2 j w he;rwa[VZ V V]at this) V V bF hd ht hu).mono λab G⟨aQ,er,s4,l4,aI,o4,⟨aH,ac,w4,Z,r1⟩,C,b4⟩=>⟨de zM i C,aQ,er,?_⟩;subst ac;have z4:=C.size;have F4:=fr fM i C;intro m5;have ga:GI [] v G B r:=GI.any (S:=[f,h.F]) ((GI.any (h:=[f,h.F]) U).KC rW.mono C (λ_ p=>p) (by simp;exact⟨F,IH⟩));have aG:B.F≠s4.F:=ga.IH o4.gr bd;refine GI.jN ga (X:=List.range v.size) ⟨V,λa i hn=>absurd (List.mem_range.2 i) hn⟩ E V λa' d g' f' z' q'=>?_;have R:Fz [B.F] G d:=⟨z'.1,λa i hn=>q' a i (by simpa using hn)⟩;refine⟨λa i=>?_,aO V _ _ ⟨s4,aI,u++aH,r++[aQ],?_,(A.trans w4).fI V V,g',bF,λy o=>?_,F4.pX R λy o=>by simp at o⊢;omega,V,V⟩⟩
   ·simp at i;rw[q' a V V,(J.push G _).same a V]
   ·rw[<-eI];exact o4.re R (by simp;exact⟨F,aG⟩) λa i=>(List.mem_cons.1 i).elim (λw=>by subst w;rcases z'.2 with w|w;exact Or.inl (by simp[w]);exact Or.inr w) λp=>Or.inl (ah _ p)
   ·have:=w4.dd;rcases List.mem_append.1 o with o|o
    ·have:=aa y o;omega
    ·simp at o;omega
  ·have T:j=bt.length:=V;subst T;rw[eT]at A aj aA;have ak:=NQ bt;intro G;have q:J M G:=J.push _ _;have nS:B.F∉h.F::f::z:=by
    simp only[aT,tD];exact⟨IH,F,λp=>by have:=g.ft _ p;omega⟩
   have ha:au (bz (h.F::f::z) M) B r:=(GI.any (h:=h.F::f::z) U).mg rW.mono nS bd V;have oS:Mi z m0 M f h (af++u) K:=am.re (Fz.aC [] _) E λa i=>Or.inl (ah _ i);have z4:=q.size;refine(Ja (x:=⟨t,bJ,0,r,[]⟩) (oS.ext q) (Q.trans q).size (ha.le (q.cK _)) (lg _ _ _ _ _ _) bF V).mono λab m5⟨Z,s5,l5,ac,o5,⟨C,R⟩,w,b5⟩=>⟨de V i w,K,Z,K,rfl,s5,l5,ac,o5,⟨u++[⟨t,bJ,0,r,[]⟩],by rw[C,eI],?_,V,V⟩,fr (fM.then q) i w,V⟩;have ws:WS c e False K ⟨t,bJ,0,r,[]⟩:=⟨⟨Or.inl (by show 0<=t/\t<=11;omega),aa,λp=>by simp only at p;omega,⟨by show(0:Int)<=0;omega,by show(0:Int)<=_;omega⟩,λp=>by simp only at p;omega,λp=>by simp only at p;omega,W.1.call⟩,E⟩;subst R;exact(A.trans (LW.kv ws)).fI (by rw[cg.kT];simp only[xe];omega) V
def QN:∀a:Ex,Rv c e a:=Ex.ind λ_ _ _ b=>QM b
end
def FC{v:List Nat}{z:I}(hS:∀d∈v,d<z.size){aa am:O}{U:List bO}{W:List (cY×Ex)}(hd:bR z aa U)(hp:TN z am W)(ae:TP U W):sY 156 [.agg #[O.v aa,O.v am]] z v U λrs=>vS U rs False 95:=by
 apply yA;simp -zeta only[aE,aD];have ht:=qP ae.gp.ds;intro h a2;obtain⟨T,hl⟩:=dj (a:=h) (b:=a2) rfl rfl;have s1:h.size=z.size+1:=by simp[h]
 clear_value a2;have aQ:=hp.len;have a1:W.length<=4:=by have:=ae.gp.mG;simpa using this
 have a0:0<W.length:=by have:=ae.gp.gR;simpa using this
 refine(eV (S:=h.size::v) (bD hS T.size (hl _ E)) (hd.le T.le) ht).mono λ_ ax⟨dd,e,aM,x3⟩=>?_;subst e;refine⟨x3.de hl,_,rfl,?_⟩;intro p aV aH;have u2:=T.trans x3;obtain⟨x5,B0,g0,s3,s5⟩:=jQ (S:=p.size::h.size::v) gK.mono (b:=ax) (a:=p) (c:=aV) (f:=aH) rfl rfl rfl;clear_value aH;have ak:∀d∈[h.size,z.size],d<ax.size:=λd g=>x3.lt (hl d g);have aF:∀d∈h.size::v,d<ax.size:=λd g=>x3.lt (bD hS T.size (hl _ E) d g);refine jL (R:=λb c K=>∃aa Z rs,Value.agg #[O.v b,O.v c]=.agg #[O.v aa,O.v Z]/\dI (bz v K) aa Z U rs/\vS U rs False 95/\J z K) (t:=W.length) (m:=z) (S:=v) gK.mono bd bd hS ⟨V,ak _ E⟩ u2 s3 aM aQ V x5 B0 g0 (λ_ q=>q.params.length<=3/\q.cV.length<=3/\WB U W.length False q.params.length q.body/\q.body.w<=95) (λb u l' m' h1 h2 c f j=>⟨b,u,l',rfl,⟨h1,h2,ht,V⟩,⟨V,λq hq=>by obtain⟨t,s⟩:=List.mem_iff_getElem?.1 hq;rw[c];exact f t q s⟩,j⟩) λaf K A l' aK μ aO aY xM aB an aW=>?_
 obtain⟨q,hq⟩:=ag (l:=W) (k:=af) aO;obtain⟨aU,aZ⟩:=ae.xl q (ar hq);have aR:q.1.params.length<=3:=(uB _ (ae.gp.dh q.1 (List.mem_map.2 ⟨q,ar hq,rfl⟩))).1;have v6:=u2.trans xM;obtain⟨cs,⟨aq,aJ,rfl,ha,hk⟩,hr⟩:=hp.jA af q hq;have aG:=ha.len;refine⟨V,V,_,v6.D (hr 0 _ rfl),_,v6.D (hr 1 _ rfl),_,v6.D (hr 2 _ rfl),_,v6.D (hr 3 _ rfl),_,v6.D (hr 4 _ rfl),?_⟩;intro m7 s;have hy:=aB.aZ;have aX:=an.lt;have zM:=xM.size;obtain⟨x8,-,s8⟩:=jC (M:=K) (d:=m7) (c:=s) rfl rfl rfl;clear_value s;have ab:∀d∈[K.size,h.size,z.size],d<s.size:=λd g=>by
  rcases List.mem_cons.1 g with e|e
  ·omega
  ·have:=ak d e;omega
 have w8:=v6.trans x8;have ai:∀{u:I},s.size<=u.size->∀d∈A.F::p.size::h.size::v,d<u.size:=λaC d g=>by
  simp only[aT]at g;rcases g with e|e|e|e
  ·omega
  ·omega
  ·have:=aF d (by simp[e]);omega
  ·have:=aF d (by simp[e]);omega
 have hm:=u2.size;have aI:∀{u:I},J s u->∀{ap:Value->I->Prop},(∀N L f,au f N L->L.length=q.1.params.length->(∀y∈L,0<=y/\y<(q.1.params.length:Int))->J u f->ap (O.v N) f)->aN bY 88 [vi 0,vi (aq.len:Int)] u ap:=λ{u} x ap hk'=>by
  rw[aG];exact(kG (S:=[]) (m:=u) E 0 q.1.params.length V).mono λaz f⟨N,L,e,gn,qn,xn⟩=>by
   subst e;exact hk' N L f ((GI.done gn E V).le (bo _ _)) qn.2 (λy hy=>by have:=qn.1 y hy;omega) xn
 have ft:∀{u:I}{aA:List Nat}{N:O}{L:List Int},(∀d∈aA,d<u.size)->J s u->au u N L->L.length=q.1.params.length->(∀y∈L,0<=y/\y<(q.1.params.length:Int))->lV 179 [.agg #[O.v aa,O.v am],.agg #[vi q.2.op,vi q.2.bJ,O.v aJ],O.v N,vi (aq.len:Int)] u aA λP=>WB U W.length False q.1.params.length P/\P.w<=3*q.2.n:=λaL x hs h1 h2=>by
  rw[aG];exact AJ (QN q.2) _ _ q.1.params.length _ _ aa am aJ aL hs h2 (by rw[h1];exact aU) V V (hd.le (w8.trans x).le) ht (eK.le (w8.trans x).le hk)
 have G:∀{y f:I}{P ac:Nat},s.size<=y.size->J y f->P<s.size->D f P ac=D y P ac:=λaC x hb=>gl x V _;have j:K.size<s.size:=V;have Q:z.size<s.size:=ab _ E;refine⟨λP u=>∃t F,P.2=0/\s.size<=P.1/\cD u P.1 cQ [.s t,.i F.aR]/\dL (bz (A.F::p.size::h.size::v) u) t F.aA/\(WB U W.length False q.1.params.length F/\F.w<=3*q.2.n)/\J s u,⟨?_,?_⟩,?_⟩
 ·refine aI (J.aC s) λN L H hs Y al b=>⟨b.de ab,N,rfl,G (ad _) b j,G (ad _) b j,G (ad _) b j,G (ad _) b Q,G (ad _) b Q,?_,?_⟩;all_goals have w:=b.size
  ·refine(ft (aA:=A.F::p.size::h.size::v) (ai w) b hs Y al).mono λaz C⟨t,F,e,ay,aP,c⟩=>⟨c.de λd g=>b.lt (ab d g),t,_,e,?_⟩;have vP:=c.size;intro X;have B:J C X:=J.push _ _;refine⟨G V B j,G V B j,G V B j,G V B Q,G V B Q,?_⟩;intro aw;obtain⟨ao,av,aS⟩:=jC (M:=C) (d:=X) (c:=aw) rfl rfl rfl;exact⟨t,F,rfl,by show s.size<=C.size;omega,av,dL.le (ao.cK _) ay,aP,(b.trans c).trans ao⟩
  ·intro C;have c:J H C:=J.push _ _;have ao:cD C H.size cQ [.s .nil,.i 0]:=cD.push _ _ _;have vP:=c.size;clear_value C;refine⟨G w c j,G w c j,G w c j,G w c Q,G w c Q,?_⟩;refine(ft (aA:=H.size::A.F::p.size::h.size::v) (bD (ai w) vP ao.lt) (b.trans c) (hs.ext c) Y al).mono λaz X⟨t,F,e,av,ay,B⟩=>⟨B.de λd g=>?_,t,_,e,?_⟩
   ·rcases List.mem_cons.1 g with e|e
    ·rw[e];exact ao.lt
    ·have:=ab d e;omega
   intro aw;exact⟨t,F,rfl,w,cD.aj (m:=X) (o:=0) (r:=[.s t,.i F.aR]) (ao.ext B),dL.le (bS E λd g=>ah _ g) av,ay,((b.trans c).trans B).aj w _ _⟩
 ·intro H;have b:J s H:=J.push _ _;have B9:cD H s.size cQ [.s .nil,.i 0]:=cD.push _ _ _;have w:=b.size;clear_value H;refine⟨G (ad _) b j,G (ad _) b j,G (ad _) b j,G (ad _) b Q,G (ad _) b Q,?_⟩;have sm:∀{y f:I},H.size<=y.size->J y f->dV [s.size,K.size,h.size,z.size] y f:=λaC x=>x.de λd g=>by
   rcases List.mem_cons.1 g with e|e
   ·have:=B9.lt;omega
   ·have:=ab d e;omega
  refine aI b λN L C hs Y al c=>⟨sm (ad _) c,N,rfl,G w c j,G w c j,G w c j,G w c Q,G w c Q,?_⟩;have vP:=c.size;refine(ft (aA:=s.size::A.F::p.size::h.size::v) (bD (ai (u:=C) V) (ad _) (by have:=B9.lt;omega)) (b.trans c) hs Y al).mono λaz X⟨t,F,e,av,ay,B⟩=>⟨sm vP B,t,_,e,?_⟩;intro aw;exact⟨t,F,rfl,ad _,cD.aj (m:=X) (o:=0) (r:=[.s t,.i F.aR]) ((B9.ext c).ext B),dL.le (bS E λd g=>ah _ g) av,ay,((b.trans c).trans B).aj (ad _) _ _⟩
 rintro⟨kb,ac⟩ y ⟨t,F,ho,aP,BB,aS,aw,x1⟩;simp only at ho aP BB;subst ho;have bl:=BB.lt;have z1:=x1.size;have X1:=x8.trans x1;refine⟨A,(an.ext X1).cy 1,_,BB.cy 0,_,BB.cy 1,?_⟩;have al:p.size<s.size:=V;have ij:∀{f:I}{X b':O},J y f->au (bz (A.F::p.size::h.size::v) f) X q.1.params->au (bz (A.F::p.size::h.size::v) f) b' []->D (f.push (.cells (br [.s X,.s b',.i q.1.aR,.s t,.i F.aR]) iU)) p.size 1=D f p.size 1/\
  iP (f.push (.cells (br [.s X,.s b',.i q.1.aR,.s t,.i F.aR]) iU)) iU [.s .nil,.s .nil,.i 0,.s .nil,.i 0] 88 A (O.mk f.size 0 1 1) λZ B=>dV [K.size,h.size,z.size] (f.push (.cells (br [.s X,.s b',.i q.1.aR,.s t,.i F.aR]) iU)) B/\fu B p.size 1 1/\(dV [K.size,h.size,z.size] B (aj B p.size 1 [.s Z])/\(aK (cO ((af:Int)+1)) (aj B p.size 1 [.s Z])/\μ (cO ((af:Int)+1)) (aj B p.size 1 [.s Z])<μ af K)):=λT h1 h2=>
  Gr.box (f:=[.s .nil,.s .nil,.i 0,.s .nil,.i 0]) (j:=1) (h:=88) (o:=[.s dd,.s A]) (y:=⟨q.1.params,[],q.1.aR,F⟩) gK.mono bd ((aB.ext gK.mono X1).ext gK.mono T) (((xM.trans X1).trans T).fz []) ⟨_,_,t,rfl,h1,h2,dL.le (T.cK _) aS⟩ V ((an.ext X1).ext T) E bd ⟨V,E⟩ (λd g=>⟨by have:=ab d g;have:=T.size;omega,by
   rcases List.mem_cons.1 g with e|e
   ·omega
   ·have:=ak d e;omega,by
   rcases List.mem_cons.1 g with e|e
   ·omega
   ·have:=ak d e;omega⟩) λZ m' g' Y f' z' q'=>aW Z m' ⟨q.1.params,[],q.1.aR,F⟩ g' Y f'.ext ⟨aR,E,aw.1,by have:=aw.2;show F.w<=95;omega⟩
 have av:∀{f:I},J y f->au f aq q.1.params:=λx=>ha.ext ((v6.trans X1).trans x);have ao:∀{f:I},J y f->∀d∈A.F::p.size::h.size::v,d<f.size:=λx=>ai (by have:=x.size;omega);have Y:∀{f B:I}{ac:Nat},J y f->J f B->D B kb ac=D f kb ac:=λx x'=>gl x' (by have:=x.size;omega) _;have ay:∀{f B:I},J y f->J f B->dV [K.size,h.size,z.size] f B:=λx x'=>x'.de λd g=>by have:=ab d g;have:=x.size;omega
 refine⟨?_,?_⟩
 ·refine(bB (A.F::p.size::h.size::v) (av (J.aC _)) V).mono λ_ H⟨X,la,e,ga,ea,b⟩=>⟨ay (J.aC _) b,X,e,Y (J.aC _) b,Y (J.aC _) b,G z1 b j,G z1 b al,?_⟩;subst ea;have w:=b.size;intro C;have c:J H C:=J.push _ _;refine⟨Y b c,Y b c,G V c j,G V c j,G V c al,?_⟩;exact ij (b.trans c) ((GI.done ga (ao (J.aC _)) V).le (c.cK _)) (lg _ _ _ _ _ _)
 ·intro H;have b:J y H:=J.push _ _;have w:=b.size;refine⟨Y (J.aC _) b,Y (J.aC _) b,G z1 b j,G z1 b j,G z1 b al,?_⟩;refine(bB (A.F::p.size::h.size::v) (av b) V).mono λ_ C⟨X,la,e,ga,ea,c⟩=>⟨ay b c,X,e,Y b c,Y b c,G V c j,G V c al,?_⟩;subst ea;exact ij (b.trans c) (GI.done ga (ao b) V) (lg _ _ _ _ _ _)
section
variable{L:List Nat}{K:Int->I->Prop}{v:Int}
def Bc(P:Nat->Prop)(l b:List Instr)(n:Nat):Prop:=∃a,b=l++a/\(∀(i:Nat)(x:Instr),a[i]? =some x->Ms (l.length+i) x\/P (l.length+i)/\x.op=22)/\NE a/\a.length<=n
section
variable{P c:Nat->Prop}{l a e:List Instr}{n b k:Nat}{x:Instr}
def lC.w(h:lC l a n):Bc P l a n:=let⟨g,b,c,d,e⟩:=h;⟨g,b,λi x f=>Or.inl (c i x f),d,e⟩
def Bc.Vd(h:Bc P l a n)(f:∀q,¬P q)(m:n<=b):lC l a b:=let⟨j,c,d,e,k⟩:=h;⟨j,c,λi x g=>(d i x g).resolve_right λh=>f _ h.1,e,V⟩
def Bc.imp(h:Bc P l a n)(g:∀q,P q->c q)(o:n<=b):Bc c l a b:=let⟨k,d,e,f,m⟩:=h;⟨k,d,λj x i=>(e j x i).imp id λh=>⟨g _ h.1,h.2⟩,f,V⟩
def Bc.len(h:Bc P l a n):l.length<=a.length/\a.length<=l.length+n:=by obtain⟨b,rfl,-,-,d⟩:=h;simp;omega
def Bc.then(o:Bc P l a n)(p:lC a e b):Bc P l e (n+b):=by
 obtain⟨d,rfl,g,j,s⟩:=o;obtain⟨r,rfl,h,k,t⟩:=p;refine⟨d++r,E,λi x c=>?_,λx q=>?_,bF⟩
 ·rcases aX i d.length with f|f
  ·rw[aw f]at c;exact g i x c
  ·rw[aF f]at c;have:=h _ x c;have m:(l++d).length+(i -d.length)=l.length+i:=bF;rw[m]at this;exact Or.inl this
 ·exact(List.mem_append.1 q).elim (j x) (k x)
def Bc.JU(h:Bc P l a n)(j:P a.length):Bc P l (a++[⟨22,0,0,0,[],[]⟩]) (n+1):=by
 obtain⟨c,rfl,e,f,m⟩:=h;refine⟨c++[⟨22,0,0,0,[],[]⟩],E,λi x b=>?_,λx k=>?_,bF⟩
 ·rcases aX i c.length with d|d
  ·rw[aw d]at b;exact e i x b
  ·rw[aF d]at b;have:i -c.length=0:=by have:=ax b;simp at this;omega
   rw[this]at b;simp at b;subst b;have g:i=c.length:=V;subst g;exact Or.inr ⟨by simpa using j,rfl⟩
 ·rcases List.mem_append.1 k with h|h
  ·exact f x h
  ·simp at h;subst h;simp
def Bc.set(h:Bc P l a n)(g:l.length<=k)(m:Ms k x)(j:x.args.length<=1000000000000/\x.dR.length<=1000000000000):Bc (λq=>P q/\q≠k) l (a.set k x) n:=by
 obtain⟨p,rfl,c,e,d⟩:=h;refine⟨p.set (k -l.length) x,by rw[UC _ _ g],λi y b=>?_,λy o=>?_,bF⟩
 ·rw[iI]at b;split at b
  ·rename_i q;have f:l.length+i=k:=V;split at b
   ·simp at b;subst b;rw[f];exact Or.inl m
   ·simp at b
  ·exact(c i y b).imp id λh=>⟨⟨h.1,V⟩,h.2⟩
 ·rcases cx o with h|h
  ·exact e y h
  ·rw[h];exact j
def Bc.Wx(h:Bc P l a n)(d:l.length<=k)(c:a[k]? =some x):Bc (λq=>P q/\q≠k) l (a.set k ⟨x.op,0,a.length,0,x.args,x.dR⟩) n:=by
 have m:=ax c;have g:=h;obtain⟨i,rfl,e,f,j⟩:=h;rw[aF d]at c;have b:=e _ x c;rw[show l.length+(k -l.length)=k by omega]at b;refine g.set d ⟨λ_=>by show(k:Int)<((l++i).length:Nat);omega,λh=>?_⟩ (f x (ar c));simp only at h;rcases b with b|b
 ·exact b.arg h
 ·omega
end
section
variable{S:List Nat}{e m a:I}{b:Nat}{s c:O}{l d:List Instr}
def CF.re{S' Y:List Nat}(h:CF S e m b s l)(i:Fz Y m a)(f:∀c∈Y,c∈S/\c≠b/\c≠s.F)(j:∀c∈S',c∈S\/m.size<=c):CF S' e a b s l:=
 ⟨h.box.congr (i.same _ h.box.lt λg=>(f _ g).2.1 rfl),h.gr.re dv.mono i (λc d=>ah _ (f c d).1) (λg=>(f _ g).2.2 rfl) λc d=>(List.mem_cons.1 d).elim (λg=>Or.inl (by rw[g];exact aS)) λd=>(j c d).imp (ah _) id,h.up⟩
def EX(k:CF S e m b s l)(z:J e m)(w:∀h∈S,h<m.size)(n:l.length<=1000000000000)(u:∀f∈L,f<m.size/\f≠b/\f≠s.F){o i bJ:Int}(y:∀c d a,CF S e a b c d->d=l++[⟨o,i,bJ,0,[v],[]⟩]->Fz [b,s.F] m a->(c.F=s.F\/m.size<=c.F)->K (l.length:Nat) a):
 aN bY 90 [vp b 0,.agg #[vi o,vi i,vi bJ,vi 0,O.v (.mk m.size 0 1 1),O.v .nil]] (m.push (.cells (br [.i v]) aB)) λr a=>dV L (m.push (.cells (br [.i v]) aB)) a/\∃q:Int,r=vi q/\K q a:=by
 have g:=J.push m (.cells (br [.i v]) aB)
 have D:=k.gr.aZ;have C:=k.box.lt
 have A:au (bz (s.F::b::S) (m.push (.cells (br [.i v]) aB))) (.mk m.size 0 1 1) [v]:=au.lit aB _ (by
  intro h p;simp only[aT]at p;rcases p with j|j|j
  ·omega
  ·omega
  ·exact w h j) rfl rfl E
 refine(oP (x:=⟨o,i,bJ,0,[v],[]⟩) (k.ext g) (z.trans g).size A (rf _) n).mono λr a⟨p,c,d,t,j,h,B⟩=>⟨Mq.de h λf n=>?_,_,p,?_⟩
 ·have:=u f n;exact⟨g.lt this.1,this.2⟩
 exact y c d a t j.symm (((g.fz [b,s.F])).trans h) (by have:=g.size;omega)
def QJ(j:CF S e m b s l)(t:J e m)(p:l.length<=1000000000000)(o:∀f∈L,f<m.size/\f≠b/\f≠s.F)(q:∀c d a,CF S e a b c d->d=l++[⟨22,0,0,0,[],[]⟩]->Fz [b,s.F] m a->(c.F=s.F\/m.size<=c.F)->K (l.length:Nat) a):
 aN bY 90 [vp b 0,.agg #[vi 22,vi 0,vi 0,vi 0,O.v .nil,O.v .nil]] m λr a=>dV L m a/\∃n:Int,r=vi n/\K n a:=
 (oP (x:=⟨22,0,0,0,[],[]⟩) j t.size (rf _) (rf _) p).mono λr a⟨i,c,d,k,h,f,g⟩=>⟨Mq.de f o,_,i,q c d a k h.symm f g⟩
def Qg{K:I->Prop}{k:Nat}{x:Instr}(i:CF S e m b s l)(q:J e m)(p:l[k]? =some x)(n:∀f∈L,f<m.size/\f≠b/\f≠s.F)(o:∀c d a,CF S e a b c d->d=l.set k ⟨x.op,0,l.length,0,x.args,x.dR⟩->Fz [b,s.F] m a->(c.F=s.F\/m.size<=c.F)->K a):
 aN bY 154 [vp b 0,vi k] m λ_ a=>dV L m a/\K a:=
 (Ot i q.size p).mono λr a⟨c,d,j,h,f,g⟩=>⟨Mq.de f n,o c d a j h.symm f g⟩
end
def Of{l:List Instr}{d:Int}:lC l (l++[⟨18,d,0,0,[v],[]⟩]) 1:=lC.kv ⟨λh=>by simp at h,λ_=>E⟩ E
end
end Go.Proofs.YtakpkjhmbbfniaaGreat
