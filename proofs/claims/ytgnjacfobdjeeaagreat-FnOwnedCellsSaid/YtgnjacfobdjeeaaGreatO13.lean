/- Part of a proof, joined by a program. -/
import Derived.Test.YtgnjacfobdjeeaaGreatO12
set_option linter.unusedVariables false
set_option linter.unusedSimpArgs false
set_option linter.defProp false
set_option linter.constructorNameAsVariable false
set_option maxHeartbeats 8000000
set_option maxRecDepth 100000
namespace Go.Proofs.YtgnjacfobdjeeaaGreat
open Go.Vc
section
section
variable{c:List Nat}{b P:Nat}{h d p:O}{f:List bq}{g:List cY}{m:I}
def WX.m1{d c:Nat}{x y z:Ex}(j:f∈pN)(k:WX f d c x)(l:WX f d c y)(m:WX f d (c+2) z):WX f d c (.mk 8 1 [x,y,z]):=by
 obtain⟨e,-,g,h,-⟩:=KC f j;refine .mt k (by rw[e];rfl) E λi o n b a=>?_;rw[e]at a;rcases i with _|_|i
 ·simp at b a;subst b a;rw[g];exact l
 ·simp at b a;subst b a;rw[h];exact m
 ·simp at b
def HA(hS:∀s∈c,s<m.size)(L:b∈c)(s:GC b h P d p f g m)(hP:P+200+2*Cg 18<=10000000000000000){H:Nat}{r:cY}(hq:g[H]? =some r){ak:Int}(ha:0<=ak/\ak<(r.params.length:Int)):
 aN bY 280 [vp b 0,.agg #[O.v d,O.v p],vi H,vi ak] m (XP c b h m (P+200+2*Cg 18) (WX f g.length r.params.length)):=by
 apply Ak (b,0)
 simp -zeta only[aE,aD]
 intro j ab
 obtain⟨x2,hl⟩:=di (a:=j) (c:=ab) rfl rfl
 have s1:j.size=m.size+1:=by simp[j]
 have s2:ab.size=m.size+2:=by simp[ab,s1]
 have hr:=s.rd.lt
 clear_value ab
 have aq:∀{i:I},ab.size<=i.size->∀s∈j.size::c,s<i.size:=λo=>bG hS V V
 have r2:Rs b h m P ab:=⟨x2.fz _,s.rd.ext x2⟩
 have L1:∀{i:I},ab.size<=i.size->Lw b [j.size,m.size] i:=λo=>lw hr bK
 obtain⟨ps,aZ,e0,e1⟩:=s.hp.u hq
 have bb:=ax hq
 have bg:=s.hp.len
 have aO:=uB _ (s.gp.df r (au hq))
 have h3:r.params.length<=3:=aO.1
 have PS:∀{i:I},Fz [b] m i->IR b i ps r.params:=λQ=>aZ.le (fh Q)
 have E1:∀{i:I},Fz [b] m i->D i p.F (p.off+H*5+1)=some (vi r.aR):=λQ=>(dP.1 (fh Q _ _ _ e1)).2
 have bi:=aZ.len
 have a1:=s.gp.ty (t:=0) bd bd
 have bf:=NQ 18
 refine⟨V,V,ps,(dP.1 (fh r2.f _ _ _ e0)).2,?_⟩
 intro m3
 have x3:J ab m3:=J.push _ _
 have aQ:ar (bA [b] m3) (.mk ab.size 0 2 2) [0,1]:=ar.lit aB _ bK rfl rfl E
 clear_value m3
 have r3:=r2.ext x3
 have z3:=x3.size
 refine(dL (S:=[b]) bK (PS r3.f) aQ bK).mono λ_ m4⟨aT,wl,w,gw,qw,x4⟩=>⟨(L1 z3).da (x4.fz _),aT,w,?_⟩
 subst qw
 have a7:IR b m4 aT (r.params++[0,1]):=GI.done gw bK bK
 have r4:=r3.ext x4
 have z4:=x4.size
 intro m5
 have x5:J m4 m5:=J.push _ _
 have g5:GE (j.size::c) m4 m5 (.mk m4.size 0 0 0) []:=Gr.new _ (ad _) _ _ _
 clear_value m5
 refine dC (n:=r.params.length) V (λT y i=>∃N,GE (j.size::c) m4 i y N/\N.length=T/\(∀w∈N,WX f g.length (r.params.length+2) w)/\Rd b h (P+T) i/\Fz [b] m4 i) ⟨[],g5,rfl,E,(r4.r.ext x5).mono V,x5.fz _⟩ ?_
 rintro T y i a5 μ hj ⟨N,aM,be,hw,rM,fM⟩ a9
 have FM:=r4.f.trans fM
 have zM:=fM.size
 refine⟨λo=>?_,λ_=>?_⟩
 ·simp only[ao]at o
  obtain⟨aV,R⟩:=ag (l:=r.params) (k:=T) V
  have il:∀{Q:Nat}{X:List Value}{z:I}{W:Nat},aN bY Q X z (XP (y.F::j.size::c) b h z W (WX f g.length (r.params.length+2)))->W<=P+(T+1)->Rd b h (P+(T+1)) z->Fz [b] i z->aN bY Q X z λac B=>dV [j.size,m.size] z B/\∃K F:Int,∃r2:O,ac=.agg #[vi K,vi F,O.v r2]/\
   iS (B.push (.cells (br [.i K,.i F,.s r2]) bz)) bz [.i 0,.i 0,.s .nil] 40 y (O.mk B.size 0 1 1) λZ A=>dV [j.size,m.size] (B.push (.cells (br [.i K,.i F,.s r2]) bz)) A/\a5 Z (cK ((T:Int)+1)) A/\μ Z (cK ((T:Int)+1)) A<μ y T i:=λhc hQ F f1=>
   XP.jK hc (aM.fu zd.mono f1 (by simp;exact⟨Or.inr L,V⟩)) (fM.trans f1) (L1 V) r4.r (by simp[L]) V λw Z A u g' r' f' _ _=>
    a9 V _ _ ⟨_,g',bK,λq C=>by rcases List.mem_append.1 C with o|o;exact hw q o;simp at o;subst o;exact u,r'.mono hQ,f'⟩
  refine⟨λ_=>?_,λ_=>⟨V,V,aV,(dP.1 ((PS FM).u R)).2,λ_=>?_,λ_=>?_⟩⟩
  ·rw[aP (b:=(ps.len:Int)+1) V V]
   exact il (((kM _ _ _).x rM).mono λ_ _ o=>o.mono (λw u=>u▸.Rg ⟨V,V⟩) (ad _)) V (rM.mono V) (Fz.aC _ _)
  ·refine(bO rM V 2).mono λ_ m6⟨ah,en,_,_,G,C⟩=>⟨(L1 V).da C,ah,en,λ_=>?_,λ_=>?_⟩
   ·have z6:=C.size
    have aa:∀{z:I},m6.size<=z.size->∀s∈y.F::j.size::c,s<z.size:=λo=>bG (aq (i:=m6) V) o (by have:=aM.aY.2;omega)
    refine uz (y.F::j.size::c) f g.length (a:=r.params.length+2) (L1 V) V λs7 m7 h7 U=>?_
    have z7:=U.size
    refine uz (y.F::j.size::c) f g.length (a:=r.params.length+2) (L1 V) V λs8 q h8 x8=>?_
    have z8:=x8.size
    intro m9
    have x9:J q m9:=J.push _ _
    have hs:eJ (bA (y.F::j.size::c) m9) (.mk q.size 0 2 2) [.mk 12 T [],.mk 12 ps.len []]:=nk (S:=y.F::j.size::c) (M:=q) [(.mk 12 T [],s7),(.mk 12 ps.len [],s8)] E (aa V) (by simp;exact⟨(h7.ext x8).sl,h8.sl⟩) rfl rfl
    have Y:=((G.ext U).ext x8).ext x9
    exact il ((lI Y hs 1 0).mono λ_ _ o=>o.mono (λw u=>u▸.dY bd (λo=>V) bd (λo=>V) (by simp;exact⟨h7.wx,h8.wx⟩)) (ad _)) V Y (((C.then U).then x8).then x9)
   ·exact il (((kM _ _ _).x G).mono λ_ _ o=>o.mono (λw u=>u▸.Rg ⟨V,V⟩) (ad _)) V G C
  ·exact il (((kM _ _ _).x rM).mono λ_ _ o=>o.mono (λw u=>u▸.Rg ⟨V,V⟩) (ad _)) V (rM.mono V) (Fz.aC _ _)
 refine iD (aM.done zd.mono (aq (i:=m4) V) bd V) (.dY (a:=r.params.length+2) (b:=f) (c:=g.length) bd (λo=>V) bd (λ_=>⟨V,V⟩) hw) (L1 V) λs6 m6 h6 x6=>?_
 have z6:=x6.size
 intro m7 q
 obtain⟨x8,B8,z8⟩:=jz (M:=m6) (d:=m7) (c:=q) rfl rfl rfl
 clear_value q
 have h8:=h6.ext x8
 intro m9 F
 obtain⟨aU,ay,vP⟩:=BX.new (f:=m9) (d:=F) h8 rfl rfl
 clear_value F
 have ac:Rs b h m (P+3) F:=⟨((FM.then x6).then x8).then aU,(((rM.ext x6).ext x8).ext aU).mono V⟩
 have hk:q.size≠b:=V
 have L2:∀{i:I},F.size<=i.size->Lw b [q.size,m6.size,j.size,m.size] i:=λo=>lw hr bK
 have av:∀{i:I},F.size<=i.size->∀s∈q.size::j.size::c,s<i.size:=λo=>bG (aq (i:=F) V) o V
 have aW:∀{i:I},Fz [b] m4 i->IR b i aT (r.params++[0,1]):=λQ=>a7.le (fh Q)
 have aY:Fz [b] m4 F:=((fM.then x6).then x8).then aU
 have wl:(r.params++[0,1]).length=r.params.length+2:=E
 refine⟨λi=>∃y w,BX (j.size::c) f g.length (r.params.length+2) q.size i y w/\Rs b h m (P+10+Cg 18) i/\F.size<=i.size,⟨V,V,_,E1 ac.f,λa0=>?_,λ_=>⟨V,V,_,E1 ac.f,λ_=>?_,λ_=>⟨s6,_,ay,⟨ac.f,ac.r.mono V⟩,ad _⟩⟩⟩,?_⟩
 ·simp only[aL]at a0
  refine(bO ac.r V 5).mono λ_ af⟨ah,en,_,_,aK,A⟩=>⟨(L2 (ad _)).da A,ah,en,λ_=>?_,λ_=>⟨V,V,_,E1 (ac.f.trans A),λo=>by rw[a0]at o;exact absurd o bd,λ_=>⟨s6,_,ay.fz (by simp[L]) hk A,⟨(ac.to A aK).f,aK.mono V⟩,A.size⟩⟩⟩
  have U:=ac.to A aK
  have X:=A.size
  have aX:=ay.fz (by simp[L]) hk A
  refine C1 (v:=r.params++[0,1]) (S:=q.size::j.size::c) (av X) (by simp[L]) (s.to U.f U.r) V (aW (aY.trans A)) bK a1 bd (L2 X) λan aF B ap am u=>?_
  rw[wl]at ap
  intro aa Y
  obtain⟨ae,aJ,ba⟩:=BX.new (f:=aa) (d:=Y) ap rfl rfl
  clear_value Y
  have a3:=u.size
  have aC:=(U.to u am).ext ae
  have al:=(aX.fz (by simp[L]) hk u).ext ae
  have bc:B.size≠b:=V
  have aI:HX (B.size::q.size::j.size::c) f g.length (r.params.length+2) Y s6 (.mk 9 H N):=(aX.h.fz (by simp[L]) u).fw ae (ad _)
  have L3:∀{i:I},Y.size<=i.size->Lw b [B.size,q.size,m6.size,j.size,m.size] i:=λo=>lw hr bK
  refine⟨λi=>∃y w,BX (q.size::j.size::c) f g.length (r.params.length+2) B.size i y w/\HX (q.size::j.size::c) f g.length (r.params.length+2) i s6 (.mk 9 H N)/\Rs b h m (P+4+Cg 18) i/\Y.size<=i.size/\cB i q.size bz [.i 9,.i H,.s s6],⟨λ_=>?_,λ_=>⟨aF,an,aJ,aI.fG,aC,ad _,al.b⟩⟩,?_⟩
  ·obtain⟨aV,R⟩:=ag (l:=r.params) (k:=0) V
   refine⟨bd,V,aV,(dP.1 ((PS aC.f).u R)).2,λ_=>?_,λ_=>⟨aF,an,aJ,aI.fG,aC,ad _,al.b⟩⟩
   refine uz (B.size::q.size::j.size::c) f g.length (a:=r.params.length+2) (L3 (ad _)) V λaG aw aA W=>?_
   have a4:=W.size
   refine uz (B.size::q.size::j.size::c) f g.length (a:=r.params.length+2) (L3 a4) V λaH K ai C=>?_
   have bj:=C.size
   intro aR
   have a2:J K aR:=J.push _ _
   have hs:eJ (bA (B.size::q.size::j.size::c) aR) (.mk K.size 0 2 2) [.mk 12 0 [],.mk 12 ps.len []]:=nk (S:=B.size::q.size::j.size::c) (M:=K) [(.mk 12 0 [],aG),(.mk 12 ps.len [],aH)] E (bG (av (i:=K) V) (ad _) V) (by simp;exact⟨(aA.ext C).sl,ai.sl⟩) rfl rfl
   have bk:=a2.size
   refine iD (M:=aR) hs (.dY (a:=r.params.length+2) (b:=f) (c:=g.length) bd (λo=>V) bd (λo=>V) (by simp;exact⟨aA.wx,ai.wx⟩)) (L3 V) λaS a8 a6 a_=>?_
   have G:=((W.trans C).trans a2).trans a_
   have hb:=(aJ.ext G).set a6
   have ha:=(aI.ext G).put (k:=B.size) E 0 [.i 11,.i 0,.s aS]
   have hB:cB (aj a8 B.size 0 [.i 11,.i 0,.s aS]) q.size bz [.i 9,.i H,.s s6]:=(al.b.ext G).congr (bh _ _ _ _ V)
   exact⟨aS,.mk 11 0 [.mk 12 0 [],.mk 12 ps.len []],hb,ha.fG,(aC.ext G).put s.rd V _ _,by rw[az];have:=G.size;omega,hB⟩
  rintro M3 ⟨y,w,R,G,Z,aS,aV⟩
  refine⟨_,R.b.cy 0,_,R.b.cy 1,_,R.b.cy 2,?_⟩
  intro aw
  have W:J M3 aw:=J.push _ _
  have hs:eJ (bA (q.size::j.size::c) aw) (.mk M3.size 0 2 2) [w,.mk 9 H N]:=nk (S:=q.size::j.size::c) (M:=M3) [(w,y),(.mk 9 H N,s6)] E (av V) (by simp;exact⟨R.h.fG.sl,G.sl⟩) rfl rfl
  have a4:=W.size
  refine iD (M:=aw) hs (.Mx (by simp;exact⟨R.h.wx,G.wx⟩)) (L2 V) λaH K ai C=>?_
  have hb:=(BX.mk (e:=.mk 9 H N) ((aV.ext W).ext C) ((G.ext W).ext C)).set ai
  have aR:=((Z.ext W).ext C).put s.rd (k:=q.size) V 0 [.i 6,.i 1,.s aH]
  exact⟨aH,.mk 6 1 [w,.mk 9 H N],hb,⟨aR.f,aR.r.mono V⟩,by rw[az];have:=C.size;omega⟩
 ·intro af
  have G:J F af:=J.push _ _
  have aQ:ar (bA [b] af) (.mk F.size 0 2 2) [1,2]:=ar.lit aB _ bK rfl rfl E
  clear_value af
  have X:=G.size
  have K:∀{z M2:I}{C:Nat},F.size<=z.size->Fz [b] z M2->m.size<=C->C<F.size->∀A,D M2 C A=D z C A:=λo Q h1 h2 A=>kg Q hr ⟨h1,V⟩ A
  refine⟨K (ad _) (G.fz _) V V _,K (ad _) (G.fz _) V V _,K (ad _) (G.fz _) V V _,K (ad _) (G.fz _) V V _,K (ad _) (G.fz _) V V _,?_⟩
  have U:=ac.ext G
  refine(jw U.r V aQ E).mono λ_ B⟨ah,en,hn,am,u⟩=>⟨(L2 X).da u,ah,en,K X u V V _,K X u V V _,K X u V V _,K X u V V _,K X u V V _,?_⟩
  have aJ:=U.to u am
  have a3:=u.size
  refine C1 (v:=r.params++[0,1]) (S:=q.size::j.size::c) (av V) (by simp[L]) (s.to aJ.f aJ.r) V (aW ((aY.then G).trans u)) bK a1 bd (L2 V) λaH aV aa aI aR ai=>?_
  rw[wl]at aI
  have aX:=ai.size
  refine⟨K V ai V V _,K V ai V V _,K V ai V V _,?_⟩
  intro Y
  have ae:J aa Y:=J.push _ _
  have aC:=((ay.ext G).fz (by simp[L]) hk u).fz (by simp[L]) hk ai
  have hs:eJ (bA (q.size::j.size::c) Y) (.mk aa.size 0 2 2) [aH,.mk 9 H N]:=nk (S:=q.size::j.size::c) (M:=aa) [(aH,aV),(.mk 9 H N,s6)] E (av V) (by simp;exact⟨aI.sl,aC.h.sl⟩) rfl rfl
  have ba:=ae.size
  simp at hn
  refine iD (M:=Y) hs (.dY (a:=r.params.length+2) (b:=f) (c:=g.length) V (λo=>V) V (λo=>V) (by simp;exact⟨aI.wx,aC.h.wx⟩)) (L2 V) λaG aw aA W=>?_
  have hb:=((aC.ext ae).ext W).set aA
  have aK:=(((aJ.to ai aR).ext ae).ext W).put s.rd (k:=q.size) V 0 [.i ah,.i 0,.s aG]
  exact⟨aG,.mk ah 0 [aH,.mk 9 H N],hb,⟨aK.f,aK.r.mono V⟩,by rw[az];have:=W.size;omega⟩
 rintro M3 ⟨y,w,R,Z,aS⟩
 have L3:∀{i:I},F.size<=i.size->Lw b [m6.size,j.size,m.size] i:=λo=>lw hr bK
 have ah:∀{z M2:I}{C:Nat},M3.size<=z.size->Fz [b] z M2->m.size<=C->C<F.size->∀A,D M2 C A=D z C A:=λo Q h1 h2 A=>kg Q hr ⟨h1,V⟩ A
 refine⟨V,V,_,E1 Z.f,_,R.b.cy 0,_,R.b.cy 1,_,R.b.cy 2,?_⟩
 refine uz (j.size::c) f g.length (a:=r.params.length) (L3 aS) ha λaC af ai G=>?_
 have X:=G.size
 have K:∀C A,m.size<=C->C<F.size->D af C A=D M3 C A:=λC A h1 h2=>ah (ad _) (G.fz _) h1 h2 A
 refine⟨K _ _ V V,K _ _ V V,K _ _ V V,(E1 (Z.f.then G)).trans (E1 Z.f).symm,K _ _ V V,K _ _ V V,K _ _ V V,?_⟩
 have U:=Z.ext G
 refine C1 (S:=j.size::c) (aq V) (by simp[L]) (s.to U.f U.r) V (PS U.f) V (s.gp.ty aO.2.2.1 aO.2.2.2) bd (L3 V) λan aF B ap am u=>?_
 have W:∀A,D B q.size A=D af q.size A:=ah X u V V
 refine⟨W _,W _,W _,?_⟩
 have a3:=u.size
 intro aa
 have aw:J B aa:=J.push _ _
 have al:=(R.ext G).fz (by simp[L]) hk u
 have hs:eJ (bA (j.size::c) aa) (.mk B.size 0 3 3) [.mk 12 ak [],an,w]:=nk (S:=j.size::c) (M:=B) [(.mk 12 ak [],aC),(an,aF),(w,y)] E (aq V) (by simp;exact⟨(ai.fz (by simp[L]) u).sl,ap.sl,al.h.fG.sl⟩) rfl rfl
 refine iD (M:=aa) hs (.m1 s.gp.ds ai.wx ap.wx R.h.wx) (L3 (by have:=aw.size;omega)) λaG Y aA ae=>?_
 exact aA.il (((U.to u am).ext aw).ext ae) s.rd V V
end
end
section
variable{g:I}{s:O}{l:List Int}{c f:Ex}
abbrev G3(M a:I)(k:Nat)(X:Prop):Prop:=D a k 0=D M k 0/\D a k 1=D M k 1/\D a k 2=D M k 2/\X
abbrev E3(v:Value)(X:Int->Int->O->Prop):Prop:=∃a b:Int,∃c:O,v=.agg #[vi a,vi b,O.v c]/\X a b c
abbrev N1(L:List Nat)(e:Nat)(M:I)(K:Int->Int->O->I->Prop):Prop:=aN bY 311 [vi 1,vi 0,O.v (.mk e 0 2 2)] M λv a=>dV L M a/\E3 v λb c d=>K b c d a
section
variable(L:List Nat)(k:Nat)(b:Int)(h i d p w l:O)(j a e:Nat)(F:Int->Int->O->I->Prop)
abbrev XW(g:Nat)(M:I):Prop:=N1 L g M λd e f c=>G3 M c a (N1 L c.size (c.push (.cells (br [.i 9,.i b,.s h,.i d,.i e,.s f]) bz)) F)
abbrev XV(c d:Int)(e:O)(M:I):Prop:=G3 M (M.push (.cells (br [.i c,.i d,.s e,.i 9,.i b,.s i]) bz)) a (XW L b h a F M.size (M.push (.cells (br [.i c,.i d,.s e,.i 9,.i b,.s i]) bz)))
abbrev XU(M:I):Prop:=aN bY 310 [vp k 0,.agg #[O.v d,O.v p],O.v w,vi 0,vi 4] M λv c=>dV L M c/\E3 v λe f g=>G3 M c j (G3 M c a (XV L b h i a F e f g c))
abbrev YQ(f:Nat)(M:I):Prop:=aN bY 213 [O.v l,O.v (.mk f 0 3 3)] M λv c=>dV L M c/\∃s:O,v=O.v s/\G3 M c j (D c e 0=D M e 0/\D c e 1=D M e 1/\G3 M c a (XU L k b h i d p s j a F c))
end
def _root_.Go.Vc.RZ{σ τ:Type}{n:Nat}(r:n<=9223372036854775807)(f:1<=n){m:I}{j:σ}{l:τ}{h:(σ->τ->Int->I->Prop)->(σ->τ->Int->I->Nat)->σ->τ->Int->I->Prop}(Q:Nat->σ->τ->I->Prop)(p:Q 1 j l m)
 (o:∀(k:Nat)(s:σ)(t:τ)(a:I)(b:σ->τ->Int->I->Prop)(μ:σ->τ->Int->I->Nat),1<=k->k<=n->Q k s t a->
  (k<n->∀d e c,Q (k+1) d e c->b d e (cK ((k:Int)+1)) c/\μ d e (cK ((k:Int)+1)) c<μ s t k a)->h b μ s t k a):
 ∃(b:σ->τ->Int->I->Prop)(μ:σ->τ->Int->I->Nat),b j l 1 m/\∀s t i a,b s t i a->h b μ s t i a:=by
 refine⟨λs t i c=>∃k:Nat,i=k/\1<=k/\k<=n/\Q k s t c,λ_ _ i _=>(n -i).toNat,⟨1,rfl,ad _,f,p⟩,?_⟩
 rintro s t i a ⟨k,rfl,f,q,u⟩
 refine o k s t a _ _ f q u λg d e c v=>?_
 rw[jJ g r]
 exact⟨⟨k+1,rfl,V,g,v⟩,AM g⟩
def MJ(_:I)(a:List Ce)(n:Int):Prop:=∃s:O,a=[.i 12,.i n,.s s]/\s.len=0
def MJ.mono:mK 3 MJ:=⟨λ_ h=>h,λ⟨_,h,_⟩=>by rw[h];rfl⟩
abbrev GV(g m:I)(s:O)(l:List Int):Prop:=Gr [] g m bz 3 MJ s l
def GV.fu{m a:I}(h:GV g m s l)(q:a[s.F]? =m[s.F]?):GV g a s l:=by
 obtain⟨c,b,d,e⟩:=h;exact⟨c,b,d.congr q,e.mono λ_ _ h=>h⟩
def GV.ex{a:List Nat}{m:I}(h:GV g m s l)(j:s.F∉a)(t:l.length<=1000):eJ (bA a m) s (l.map λn=>.mk 12 n []):=by
 obtain⟨e,d,f,i⟩:=h;have H:=Gr.mq (S:=a) MJ.mono ⟨e,d,f,i.mono λ_ _ h=>h⟩ j bd V;refine⟨by rw[H.len];simp,H.cap,H.fL,λq c b=>?_⟩;simp only[bW,iK]at b;obtain⟨n,k,rfl⟩:=b;obtain⟨r,⟨u,rfl,p⟩,o⟩:=H.je q n k;exact⟨_,zd.of ⟨p,V,V,E⟩,o⟩
structure AS(S:List Nat)(ds:List bq)(nf a n0 k Q rb:Nat)(bs:O)(m M:I)(sl:O)(el:Ex)(sr:O)(er:Ex):Prop where
 b:cB M k bz [.i 0,.i 0,.s .nil]
 hk:n0<=k
 l:HX (k::S) ds nf a M sl el
 r:HX (k::S) ds nf a M sr er
 s:Rs rb bs m Q M
section
variable{S:List Nat}{e:List bq}{h a n k Q r b:Nat}{d o p:O}{m M q:I}{i j:Ex}
def AS.ext(f:AS S e h a n k Q b d m M o i p j)(c:J M q):AS S e h a n k Q b d m q o i p j:=⟨f.b.ext c,f.hk,f.l.ext c,f.r.ext c,f.s.ext c⟩
def AS.fz(c:AS S e h a n k Q b d m M o i p j)(g:b∈S)(l:k≠b)(f:Fz [b] M q)(s:Rd b d r q):AS S e h a n k r b d m q o i p j:=⟨c.b.congr (f.same k c.b.lt (by simpa using l)),c.hk,c.l.fz (by simp[g]) f,c.r.fz (by simp[g]) f,c.s.to f s⟩
def AS.new(f:n<=M.size)(l:HX S e h a M o i)(r:HX S e h a M p j)(s:Rs b d m Q M):J M (M.push (.cells (br [.i 0,.i 0,.s .nil]) bz))/\AS S e h a n M.size Q b d m (M.push (.cells (br [.i 0,.i 0,.s .nil]) bz)) o i p j:=
 have c:=J.push M (.cells (br [.i 0,.i 0,.s .nil]) bz)
 ⟨c,cB.push _ _ _,f,l.fw c (ad _),r.fw c (ad _),s.ext c⟩
end
section
variable{h:List Nat}{b P:Nat}{o d p:O}{i:List bq}{j:List cY}{m:I}
def WX.m3{e d:Nat}{z:Ex}(l:i∈pN)(m:WX i e d c)(n:WX i e d f)(o:WX i e (d+3) z):WX i e d (.mk 8 3 [c,f,z]):=by
 obtain⟨-,g,-,-,j,k⟩:=KC i l;refine .mt m (by rw[g];rfl) E λh q p b a=>?_;rw[g]at a;rcases h with _|_|h
 ·simp at b a;subst b a;rw[j];exact n
 ·simp at b a;subst b a;rw[k];exact o
 ·simp at b
def WX.add{b a:Nat}(d:WX i b a c)(e:WX i b a f):WX i b a (.mk 1 0 [c,f]):=.dY bd (λh=>V) bd (λh=>V) (by simp;exact⟨d,e⟩)
def HB(hS:∀H∈h,H<m.size)(aT:b∈h)(H:GC b o P d p i j m)(hP:P+200+3*Cg 18<=10000000000000000){C:Nat}{w:cY}(hq:j[C]? =some w)(bH:1<=w.params.length):
 aN bY 281 [vp b 0,.agg #[O.v d,O.v p],vi C] m (XP h b o m (P+200+3*Cg 18) (WX i j.length w.params.length)):=by
 apply Al (b,0)
 simp -zeta only[aE,aD]
 intro A aq
 obtain⟨x2,hl⟩:=di (a:=A) (c:=aq) rfl rfl
 have s1:A.size=m.size+1:=by simp[A]
 have s2:aq.size=m.size+2:=by simp[aq,s1]
 have hr:=H.rd.lt
 clear_value aq
 have aw:∀{g:I},aq.size<=g.size->∀H∈A.size::h,H<g.size:=λz=>bG hS V V
 have r2:Rs b o m P aq:=⟨x2.fz _,H.rd.ext x2⟩
 have L1:∀{g:I},aq.size<=g.size->Lw b [A.size,m.size] g:=λz=>lw hr bK
 obtain⟨ps,bk,e0,e1⟩:=H.hp.u hq
 have bX:=ax hq
 have b2:=H.hp.len
 have bb:=uB _ (H.gp.df w (au hq))
 have h3:w.params.length<=3:=bb.1
 have PS:∀{g:I},Fz [b] m g->IR b g ps w.params:=λF=>bk.le (fh F)
 have E1:∀{g:I},Fz [b] m g->D g p.F (p.off+C*5+1)=some (vi w.aR):=λF=>(dP.1 (fh F _ _ _ e1)).2
 have b3:=bk.len
 have bs:=H.gp.ty (t:=0) bd bd
 have aA:b∈A.size::h:=by simp[aT]
 refine⟨V,V,ps,(dP.1 (fh r2.f _ _ _ e0)).2,?_⟩
 refine uz (A.size::h) i j.length (a:=w.params.length+3) (L1 (ad _)) V λs3 m3 bD x3=>?_
 have z3:=x3.size
 intro m4
 have x4:J m3 m4:=J.push _ _
 have g4:GV m3 m4 (.mk m3.size 0 1 1) [(ps.len:Int)]:=Gr.lit (f:=[[.i 12,.i ps.len,.s s3]]) MJ.mono (ad _) E rfl rfl ⟨rfl,E,λaC H B hj q=>by
  have:aC=0:=by have:=ax hj;simp at this;omega
  subst this;simp at hj q;subst hj q;exact⟨s3,rfl,bD.sl.len⟩⟩
 have s4:m4.size=m3.size+1:=by simp[m4]
 clear_value m4
 rw[aP (b:=(ps.len:Int)+2) V V]
 refine uz (A.size::h) i j.length (a:=w.params.length+3) (L1 V) V λs5 m5 h5 x5=>?_
 have z5:=x5.size
 intro m6
 have x6:J m5 m6:=J.push _ _
 have g6:GV m5 m6 (.mk m5.size 0 1 1) [(ps.len:Int)+2]:=Gr.lit (f:=[[.i 12,.i (ps.len+2),.s s5]]) MJ.mono (ad _) E rfl rfl ⟨rfl,E,λaC H B hj q=>by
  have:aC=0:=by have:=ax hj;simp at this;omega
  subst this;simp at hj q;subst hj q;exact⟨s5,rfl,h5.sl.len⟩⟩
 clear_value m6
 have r3:=r2.ext x3
 have vq:∀{g u:I}{Q:Int}{s:O}{l:List Int}{aW:O->I->Prop}{aS:O},GV m3 g s l->J m3 g->l.length<=10->aS.len=0->(∀U u,GV m3 u U (l++[Q])->J m3 u->g.size<=u.size->(U.F=s.F\/g.size<=U.F)->(∀K,K<g.size->K≠s.F->u[K]? =g[K]?)->aW U u)->
  iS (g.push (.cells (br [.i 12,.i Q,.s aS]) bz)) bz [.i 0,.i 0,.s .nil] 40 s (.mk g.size 0 1 1) aW:=λaO c hl ht hk=>
  Gr.jK (g:=[.i 0,.i 0,.s .nil]) (X:=[]) MJ.mono bd aO (c.fz []) ⟨_,rfl,ht⟩ V λU u g' f' aJ w=>hk U u g' f'.ext aJ.1 aJ.2 w
 refine RZ (n:=w.params.length) V bH (λaC s aS g=>∃l l',GV m3 g s l/\GV m3 g aS l'/\l.length=aC/\l'.length=aC/\(∀Q∈l,0<=Q/\Q<((w.params.length+3:Nat):Int))/\(∀Q∈l',0<=Q/\Q<((w.params.length+3:Nat):Int))/\J m3 g/\s.F≠aS.F) ⟨_,_,(g4.fu ((x5.trans x6).same _ (by show m3.size<_;omega))),Gr.cG MJ.mono g6 (λ_ z=>Or.inl z) V,rfl,rfl,bK,bK,(x4.trans x5).trans x6,by show m3.size≠m5.size;omega⟩ ?_
 rintro aC s aS g bV μ bZ hj ⟨l,l',aO,g',b0,b1,hw,bn,xM,bF⟩ bL
 have zM:=xM.size
 have RM:=r3.ext xM
 refine⟨λz=>?_,λ_=>?_⟩
 ·simp only[ao]at z
  refine uz (A.size::h) i j.length (a:=w.params.length+3) (L1 V) V λs7 Z h7 x7=>?_
  have gy:=aO.aY;have aY:=g'.aY
  have z7:=x7.size
  intro m8
  refine vq (u:=Z) (aO.fu (x7.same _ gy.2)) (xM.trans x7) V h7.sl.len λr9 m9 r x9 z9 b9 W=>?_
  refine⟨(L1 (g:=m3) z3).zE ((((xM.trans x7).trans (J.push Z _)).fz [b])) (x9.fz _),?_⟩
  refine uz (A.size::h) i j.length (a:=w.params.length+3) (L1 V) V λaa ag a7 ah=>?_
  intro bo
  have R:=((g'.fu (x7.same _ aY.2)).fu (W _ V (jQ bF))).fu (ah.same _ V)
  have vP:=ah.size
  refine vq (u:=Z) R (x9.trans ah) V a7.sl.len λbc N L aH bR Y T=>?_
  refine⟨(L1 (g:=m3) z3).zE (((x9.trans ah).trans (J.push ag _)).fz [b]) (aH.fz _),bL V _ _ _ ⟨_,_,(r.fu (ah.same _ r.aY.2)).fu (T _ (by have:=r.aY.2;omega) V),L,bK,bK,λQ q=>?_,λQ q=>?_,aH,by have:=r.aY.2;omega⟩⟩
  ·rcases List.mem_append.1 q with z|z
   ·exact hw Q z
   ·simp at z;omega
  ·rcases List.mem_append.1 q with z|z
   ·exact bn Q z
   ·simp at z;omega
 have gy:=aO.aY;have aY:=g'.aY
 have nS:∀K,m3.size<=K->K∉A.size::h:=λK hb z=>by have:=aw (g:=aq) (ad _) K z;omega
 have be:∀l:List Int,(∀Q∈l,0<=Q/\Q<((w.params.length+3:Nat):Int))->WX i j.length (w.params.length+3) (.mk 9 C (l.map λQ=>.mk 12 Q [])):=λl hl=>.dY bd (λz=>V) bd (λ_=>⟨V,V⟩) (by simp;exactλQ q=>.Rg (hl Q q))
 refine iD (aO.ex (nS _ gy.1) V) (be l hw) (L1 V) λsl Z h7 x7=>?_
 intro m8 m9
 obtain⟨x9,-,z9⟩:=jz (M:=Z) (d:=m8) (c:=m9) rfl rfl rfl
 clear_value m9
 have z7:=x7.size
 refine iD ((g'.fu ((x7.trans x9).same _ aY.2)).ex (nS _ aY.1) V) (be l' bn) (lw hr bK) λsr ag a7 ah=>?_
 intro bo N
 obtain⟨aH,-,bR⟩:=jz (M:=ag) (d:=bo) (c:=N) rfl rfl rfl
 clear_value N
 have vP:=ah.size
 have a8:=((h7.ext x9).ext ah).ext aH
 have a_:=a7.ext aH
 generalize bg:Ex.mk 9 C (l.map λQ=>.mk 12 Q [])=el at a8
 generalize bi:Ex.mk 9 C (l'.map λQ=>.mk 12 Q [])=er at a_
 have bc:=(((RM.ext x7).ext x9).ext ah).ext aH
 have bW:=((x7.trans x9).trans ah).trans aH
 have bj:∀{r:Nat},N.size<=r->r≠b:=λz=>V
 have G:∀{g u:I}{r aR:Nat},N.size<=g.size->Fz [b] g u->m.size<=r->r<N.size->D u r aR=D g r aR:=λz F h1 h2=>kg F hr ⟨h1,V⟩ _
 have L4:∀{g:I},N.size<=g.size->Lw b [ag.size,Z.size,A.size,m.size] g:=λz=>lw hr bK
 have L5:∀{g:I}{r:Nat},N.size<=r->r<g.size->Lw b [r,ag.size,Z.size,A.size,m.size] g:=λz h'=>lw hr bK
 have a0:∀{g:I}{r:Nat},N.size<=r->r<g.size->∀H∈r::A.size::h,H<g.size:=λz h'=>bG (aw (g:=N) V) V h'
 have a4:=λ(c f:Ex)=>WX.add (i:=i) (b:=j.length) (a:=w.params.length+3) (c:=c) (f:=f)
 let aW:=λ(r:Nat)(g:I)=>∃s B,BX (A.size::h) i j.length (w.params.length+3) r g s B/\HX (r::A.size::h) i j.length (w.params.length+3) g sl el/\Rs b o m (P+Cg 18) g
 have bx:∃k9,el=.mk 9 C k9:=⟨_,bg.symm⟩
 have bB:∃k9,er=.mk 9 C k9:=⟨_,bi.symm⟩
 clear bg bi
 obtain⟨kl,rfl⟩:=bx
 obtain⟨kr,rfl⟩:=bB
 let av:=λ(r aX:Nat)(g:I)=>AS (A.size::h) i j.length (w.params.length+3) N.size r (P+aX) b o m g sl (.mk 9 C kl) sr (.mk 9 C kr)
 let aM:=λr=>[r,ag.size,Z.size,A.size,m.size]
 let K0:=λ(jG:Nat×Nat)(g:I)=>jG.2=0/\N.size<=jG.1/\aW jG.1 g
 let aL:=λ(r:Nat)(q K:Int)(H:O)(u:I)=>K0 (r,0) (aj u r 0 [.i q,.i K,.s H])
 have H3:∀{g u:I}{T:Prop},N.size<=g.size->Fz [b] g u->T->G3 g u Z.size T:=λL F c=>⟨G L F V V,G L F V V,G L F V V,c⟩
 have H6:∀{g u:I}{T:Prop},N.size<=g.size->Fz [b] g u->T->G3 g u ag.size (G3 g u Z.size T):=λL F c=>⟨G L F V V,G L F V V,G L F V V,H3 L F c⟩
 have H5:∀{g u:I}{T:Prop},N.size<=g.size->Fz [b] g u->T->D u m.size 0=D g m.size 0/\D u m.size 1=D g m.size 1/\G3 g u Z.size T:=λL F c=>⟨G L F V V,G L F V V,H3 L F c⟩
 have H8:∀{g u:I}{T:Prop},N.size<=g.size->Fz [b] g u->T->G3 g u ag.size (D u m.size 0=D g m.size 0/\D u m.size 1=D g m.size 1/\G3 g u Z.size T):=λL F c=>⟨G L F V V,G L F V V,G L F V V,H5 L F c⟩
 have R7:∀{r t0:Nat}{g:I}{B:Ex},av r (Cg 18) g->eJ (bA (r::A.size::h) g) (.mk t0 0 2 2) [.mk 9 C kl,B]->WX i j.length (w.params.length+3) B->N1 (aM r) t0 g (aL r):=λq hs hw=>
  iD hs (a4 _ _ q.l.wx hw) (L5 q.hk q.b.lt) λs' u h' c=>by
   have hb:=(BX.mk (e:=.mk 0 0 []) (s:=.nil) (q.b.ext c) ⟨⟨rfl,ad _,E,E⟩,.int 0⟩).set h';exact⟨rfl,q.hk,s',_,hb,(q.l.ext c).put E _ _,(q.s.ext c).put H.rd (by have:=q.hk;omega) _ _⟩
 have R6:∀{r:Nat}{g:I}{s:O}{q K:Int}{kk:List Ex},av r (Cg 18) g->HX (r::A.size::h) i j.length (w.params.length+3) g s (.mk q K kk)->N1 (aM r) g.size (g.push (.cells (br [.i 9,.i C,.s sl,.i q,.i K,.s s]) bz)) (aL r):=λq z=>
  R7 (q.ext (J.push _ _)) (nk [(.mk 9 C kl,sl),(.mk _ _ _,_)] E (a0 q.hk q.b.lt) (by simp;exact⟨q.l.sl,z.sl⟩) rfl rfl) z.wx
 have R5:∀{r t0:Nat}{g:I}{B:Ex},av r (Cg 18) g->eJ (bA (r::A.size::h) g) (.mk t0 0 2 2) [B,.mk 9 C kr]->WX i j.length (w.params.length+3) B->XW (aM r) C sl Z.size (aL r) t0 g:=λq hs hw=>
  iD hs (a4 _ _ hw q.r.wx) (L5 q.hk q.b.lt) λs' u h' c=>
   have L:=NO (mj q.hk q.b.lt)
   H3 L (c.fz _) (R6 (q.ext c) h')
 have R4:∀{r:Nat}{g:I}{s:O}{B:Ex},av r (Cg 18) g->HX (r::A.size::h) i j.length (w.params.length+3) g s B->XV (aM r) C sl sr Z.size (aL r) B.op B.bL s g:=λ{r g s B} q z=>
  have c:=J.push g (.cells (br [.i B.op,.i B.bL,.s s,.i 9,.i C,.s sr]) bz)
  have L:=NO (mj q.hk q.b.lt)
  H3 L (c.fz _) (R5 (q.ext c) (nk [(B,s),(.mk 9 C kr,sr)] E (a0 q.hk q.b.lt) (by simp;exact⟨z.sl,q.r.sl⟩) rfl rfl) z.wx)
 have bf:∀{a5 L':List Nat}{g:I}{ac:O}{K':Int->Int->O->I->Prop},(∀H∈a5,H<g.size)->b∈a5->Rs b o m P g->IR b g ac (w.params++[3,0,3])->Lw b L' g->(∀B s u,HX a5 i j.length (w.params.length+3) u s B->Rd b o (P+Cg 18) u->Fz [b] g u->K' B.op B.bL s u)->aN bY 310 [vp b 0,.agg #[O.v d,O.v p],O.v ac,vi 0,vi 4] g λbO u=>dV L' g u/\∃r0 r1:Int,∃r2:O,bO=.agg #[vi r0,vi r1,O.v r2]/\K' r0 r1 r2 u:=λbE bI U hw hL hk=>
  C1 (v:=w.params++[3,0,3]) bE bI (H.to U.f U.r) V hw bK bs bd hL λB s u z d F=>hk B s u (by simpa using z) d F
 have R3:∀{r:Nat}{g:I}{ac:O},av r 0 g->IR b g ac (w.params++[3,0,3])->XU (aM r) b C sl sr d p ac ag.size Z.size (aL r) g:=λq hw=>
  bf (a0 q.hk q.b.lt) (by simp[aT]) q.s hw (L5 q.hk q.b.lt) λB s u z d' F=>
   have L:=NO (mj q.hk q.b.lt)
   H6 L F (R4 (q.fz aA (bj q.hk) F d') z)
 have R2:∀{r t0:Nat}{g:I},av r 0 g->ar (bA [b] g) (.mk t0 0 3 3) [3,0,3]->YQ (aM r) b C sl sr d p ps ag.size Z.size m.size (aL r) t0 g:=λq hw=>
  (dL (S:=[b]) (by simp;exact q.s.r.lt) (PS q.s.f) hw bK).mono λ_ u⟨ac,wl,B,gw,qw,c⟩=>by
   subst qw;have L:=NO (mj q.hk q.b.lt);exact⟨(L5 q.hk q.b.lt).da (c.fz _),ac,B,H8 L (c.fz _) (R3 (q.ext c) (GI.done gw (by simp;exact q.s.r.lt) bK))⟩
 have aG:∀{g:I}{aX:Nat},N.size<=g.size->HX (A.size::h) i j.length (w.params.length+3) g sl (.mk 9 C kl)->HX (A.size::h) i j.length (w.params.length+3) g sr (.mk 9 C kr)->Rs b o m (P+aX) g->J g (g.push (.cells (br [.i 0,.i 0,.s .nil]) bz))/\av g.size aX (g.push (.cells (br [.i 0,.i 0,.s .nil]) bz)):=λh1 h2 h3 h4=>AS.new h1 h2 h3 h4
 have r0:Rs b o m (P+0) N:=bc
 have wl:∀g:I,b<g.size->ar (bA [b] (g.push (.cells (br [.i 3,.i 0,.i 3]) aB))) (.mk g.size 0 3 3) [3,0,3]:=λg z=>ar.lit aB _ (by simp;exact z) rfl rfl E
 refine⟨K0,⟨?_,?_⟩,?_⟩
 ·intro ae
  have R:J N ae:=J.push _ _
  have a2:ar (bA [b] ae) (.mk N.size 0 3 3) [3,0,3]:=wl N bc.r.lt
  clear_value ae
  have aK:=R.size
  have a9:=a8.ext R;have ba:=a_.ext R;have aa:=r0.ext R
  refine H8 (ad _) (R.fz _) ⟨?_,?_⟩
  ·refine(dL (S:=[b]) (by simp;exact aa.r.lt) (PS aa.f) a2 bK).mono λ_ al⟨ac,bP,B,gw,qw,W⟩=>⟨(L4 aK).da (W.fz _),ac,B,H8 aK (W.fz _) ⟨?_,?_⟩⟩
   all_goals have a3:IR b al ac (w.params++[3,0,3]):=qw▸GI.done gw (by simp;exact aa.r.lt) (by rw[<-qw];simp;omega)
   all_goals have bv:=W.size
   ·refine bf (a5:=A.size::h) (aw V) aA (aa.ext W) a3 (L4 V) λai a1 am ak a6 af=>H6 V af ⟨?_,?_⟩
    all_goals have ay:=(a9.ext W).fz aA af
    all_goals have aQ:=(ba.ext W).fz aA af
    all_goals have aV:=(aa.ext W).to af a6
    all_goals have bS:=af.size
    ·intro ap
     have ab:J am ap:=J.push _ _
     have bl:eJ (bA (A.size::h) ap) (.mk am.size 0 2 2) [ai,.mk 9 C kr]:=nk [(ai,a1),(.mk 9 C kr,sr)] E (aw V) (by simp;exact⟨ak.sl,aQ.sl⟩) rfl rfl
     have bT:=ab.size
     refine H3 V (ab.fz _) ⟨?_,?_⟩
     ·refine iD (M:=ap) bl (a4 _ _ ak.wx aQ.wx) (L4 V) λbM aF aZ aI=>H3 V (aI.fz _) ⟨?_,?_⟩
      all_goals have T:=ab.trans aI
      all_goals have bU:=aI.size
      ·intro aU
       have an:J aF aU:=J.push _ _
       have bm:eJ (bA (A.size::h) aU) (.mk aF.size 0 2 2) [.mk 9 C kl,.mk 1 0 [ai,.mk 9 C kr]]:=nk [(.mk 9 C kl,sl),(.mk 1 0 [ai,.mk 9 C kr],bM)] E (aw V) (by simp;exact⟨(ay.ext T).sl,aZ.sl⟩) rfl rfl
       have b4:=an.size
       refine⟨?_,?_⟩
       ·refine iD (M:=aU) bm (a4 _ _ ay.wx aZ.wx) (L4 V) λbN bp bC bt=>?_
        have b5:=bt.size
        intro bq
        have bQ:J bp bq:=J.push _ _
        refine H8 V (bQ.fz _) ?_
        intro bJ
        obtain⟨bu,bw,b6⟩:=BX.new (f:=bq) (d:=bJ) bC rfl rfl
        have Y:=T.trans (an.trans bt)
        exact⟨rfl,by show N.size<=bp.size;omega,bN,_,bw,(ay.ext Y).fw bu (ad _),(aV.ext Y).ext bu⟩
       ·obtain⟨Y,q⟩:=aG (g:=aU) V ((ay.ext T).ext an) ((aQ.ext T).ext an) ((aV.ext T).ext an)
        exact H8 V (Y.fz _) (R7 q (eJ.le (Y.bA λK hb=>(List.mem_cons.1 hb).elim (λz=>Or.inr V) Or.inl) bm) aZ.wx)
      ·obtain⟨Y,q⟩:=aG (g:=aF) V (ay.ext T) (aQ.ext T) (aV.ext T)
       exact H8 V (Y.fz _) (R6 q (aZ.fw Y (ad _)))
     ·obtain⟨Y,q⟩:=aG (g:=ap) V (ay.ext ab) (aQ.ext ab) (aV.ext ab)
      exact H8 V (Y.fz _) (R5 q (eJ.le (Y.bA λK hb=>(List.mem_cons.1 hb).elim (λz=>Or.inr V) Or.inl) bl) ak.wx)
    ·obtain⟨Y,q⟩:=aG (g:=am) V ay aQ aV
     exact H8 V (Y.fz _) (R4 q (ak.fw Y (ad _)))
   ·obtain⟨Y,q⟩:=aG (g:=al) V (a9.ext W) (ba.ext W) (aa.ext W)
    exact H8 V (Y.fz _) (R3 q (a3.le (fh (Y.fz _))))
  ·obtain⟨Y,q⟩:=aG (g:=ae) aK a9 ba aa
   exact H8 aK (Y.fz _) (R2 q (a2.le (fh (Y.fz _))))
 ·obtain⟨Y,q⟩:=aG (g:=N) (ad _) a8 a_ r0
  have za:=Y.size
  intro ae
  refine H8 (ad _) (Y.fz _) ?_
  intro al
  have W:J ae al:=J.push _ _
  exact H8 za (W.fz _) (R2 (q.ext W) (wl ae q.s.r.lt))
 rintro⟨r,aR⟩ g ⟨ho,hk,s,B,K,hl,U⟩
 simp only at ho hk K hl
 subst ho
 have bu:=K.b.lt
 have a9:=bj hk
 have Y:∀{u:I},g.size<=u.size->Lw b [ag.size,Z.size,A.size,m.size] u:=λz=>L4 V
 have L:N.size<=g.size:=V
 have aZ:∀{u:I},g.size<=u.size->∀H∈r::A.size::h,H<u.size:=λz=>a0 hk V
 refine⟨λu=>∃s B,BX (A.size::h) i j.length (w.params.length+3) r u s B/\Rs b o m (P+2*Cg 18) u/\g.size<=u.size,⟨V,V,_,E1 U.f,λ_=>?_,λ_=>⟨s,B,K,⟨U.f,U.r.mono V⟩,ad _⟩⟩,?_⟩
 ·intro ae
  have R:J g ae:=J.push _ _
  have a2:ar (bA [b] ae) (.mk g.size 0 3 3) [3,0,3]:=wl g U.r.lt
  clear_value ae
  have aK:=R.size
  have aa:=U.ext R
  refine H5 L (R.fz _) ?_
  refine(dL (S:=[b]) (by simp;exact aa.r.lt) (PS aa.f) a2 bK).mono λ_ al⟨ac,bP,e',gw,qw,W⟩=>⟨(Y aK).da (W.fz _),ac,e',H5 V (W.fz _) ?_⟩
  have a3:IR b al ac (w.params++[3,0,3]):=qw▸GI.done gw (by simp;exact aa.r.lt) (by rw[<-qw];simp;omega)
  have bv:=W.size
  have aQ:=aa.ext W
  refine C1 (v:=w.params++[3,0,3]) (S:=r::A.size::h) (aZ V) (by simp[aT]) (H.to aQ.f aQ.r) V a3 bK bs bd (Y V) λai a1 am ak a6 af=>H3 V af ?_
  have ak:HX (r::A.size::h) i j.length (w.params.length+3) am a1 ai:=by simpa using ak
  have bS:=af.size
  refine uz (r::A.size::h) i j.length (a:=w.params.length+3) (Y V) V λbm ap ay ab=>H3 V (ab.fz _) ?_
  intro aF
  have aI:J ap aF:=J.push _ _
  have bT:=ab.size
  have ba:=(((hl.ext R).ext W).fz (by simp[aT]) af).ext ab
  have hs:eJ (bA (r::A.size::h) aF) (.mk ap.size 0 3 3) [.mk 9 C kl,ai,.mk 12 (ps.len+2) []]:=nk [(.mk 9 C kl,sl),(ai,a1),(.mk 12 (ps.len+2) [],bm)] E (aZ V) (by simp;exact⟨ba.sl,(ak.ext ab).sl,ay.sl⟩) rfl rfl
  have bU:=aI.size
  refine iD (M:=aF) hs (.Mx (by simp;exact⟨ba.wx,ak.wx,ay.wx⟩)) (Y V) λbp aU bq an=>?_
  have aV:=((((K.ext R).ext W).fz (by simp[aT]) a9 af).ext (ab.trans aI)).ext an
  have hb:=aV.set bq
  have bl:=(((aQ.to af a6).ext (ab.trans aI)).ext an).put H.rd (k:=r) V 0 [.i 6,.i 3,.s bp]
  exact⟨aV.b.fm E,λb' bt=>bh _ _ _ _ (by simp at bt;omega),bp,.mk 6 3 [.mk 9 C kl,ai,.mk 12 (ps.len+2) []],hb,⟨bl.f,bl.r.mono V⟩,by rw[az];have:=an.size;omega⟩
 rintro M3 ⟨s,B,K,U,aJ⟩
 refine⟨V,V,_,E1 U.f,_,K.b.cy 0,_,K.b.cy 1,_,K.b.cy 2,?_⟩
 refine uz (A.size::h) i j.length (a:=w.params.length) (Y aJ) V λaU ae ak R=>?_
 have aK:=R.size
 have af:∀{M1 M2:I}{aR:Nat},g.size<=M1.size->Fz [b] M1 M2->D M2 r aR=D M1 r aR:=λz F=>kg F hr ⟨V,V⟩ _
 refine⟨af aJ (R.fz _),af aJ (R.fz _),af aJ (R.fz _),(E1 (U.f.then R)).trans (E1 U.f).symm,G V (R.fz _) V V,G V (R.fz _) V V,G V (R.fz _) V V,?_⟩
 have aa:=U.ext R
 refine C1 (S:=A.size::h) (aw V) aA (H.to aa.f aa.r) V (PS aa.f) V (H.gp.ty bb.2.2.1 bb.2.2.2) bd (Y V) λai aV al an aQ W=>⟨af V W,af V W,af V W,?_⟩
 have bv:=W.size
 intro am
 have aF:J al am:=J.push _ _
 have aI:=(K.ext R).fz aA a9 W
 have hs:eJ (bA (A.size::h) am) (.mk al.size 0 3 3) [.mk 12 0 [],ai,B]:=nk [(.mk 12 0 [],aU),(ai,aV),(B,s)] E (aw V) (by simp;exact⟨(ak.fz aA W).sl,an.sl,aI.h.fG.sl⟩) rfl rfl
 refine iD (M:=am) hs (.m3 H.gp.ds ak.wx an.wx K.h.wx) (Y (by have:=aF.size;omega)) λbm ap ay ab=>?_
 exact ay.il (((aa.to W aQ).ext aF).ext ab) H.rd V V
end
end
section
variable{a:I}{c:List Ce}{b:Nat}
section
variable{f:List Nat}{e P:Nat}{h d p:O}{i:List bq}{g:List cY}{m:I}
def Ke(hS:∀o∈f,o<m.size)(ak:e∈f)(o:GC e h P d p i g m)(hP:P+300+40*Cg 18<=10000000000000000){U:Nat}{q:cY}(A:g[U]? =some q)(al:U=0->q.params.length=0):
 aN bY 249 [vp e 0,.agg #[O.v d,O.v p],vi U] m (XP f e h m (P+300+40*Cg 18) (U7 i g.length q.params.length)):=by
 apply DA (e,0)
 simp -zeta only[aE,aD]
 intro n x
 obtain⟨x2,hl⟩:=di (a:=n) (c:=x) rfl rfl
 have s1:n.size=m.size+1:=by simp[n]
 have s2:x.size=m.size+2:=by simp[x,s1]
 have hr:=o.rd.lt
 clear_value x
 have af:∀{a:I},x.size<=a.size->∀o∈n.size::f,o<a.size:=λc=>bG hS V V
 have u:Rs e h m P x:=⟨x2.fz _,o.rd.ext x2⟩
 have N:∀{a:I},x.size<=a.size->Lw e [n.size,m.size] a:=λc=>lw hr bK
 obtain⟨Y,ah,e0,e1⟩:=o.hp.u A
 have an:=ax A
 have ap:=o.hp.len
 have ab:=uB _ (o.gp.df q (au A))
 have h3:q.params.length<=3:=ab.1
 have PS:∀{a:I},Fz [e] m a->IR e a Y q.params:=λz=>ah.le (fh z)
 have ar:=ah.len
 have aa:e∈n.size::f:=by simp[ak]
 have am:=o.gp.ty ab.2.2.1 ab.2.2.2
 refine⟨V,V,Y,(dP.1 (fh u.f _ _ _ e0)).2,V,V,_,(dP.1 (fh u.f _ _ _ e1)).2,?_⟩
 refine(JF ((PS u.f).le (bt _ _)) 1).mono λ_ m3⟨pl,en,aq,x3⟩=>⟨(N (ad _)).da (x3.fz _),pl,en,?_⟩
 have z3:=x3.size
 refine Gp (n.size::f) i g.length q.params.length (N z3) 0 λs4 r F x4=>?_
 have z4:=x4.size
 intro m5 K
 obtain⟨x6,b6,z6⟩:=BX.new (f:=m5) (d:=K) F rfl rfl
 clear_value K
 have r6:=((u.ext x3).ext x4).ext x6
 have hk:r.size≠e:=V
 have L6:∀{a:I},K.size<=a.size->Lw e [r.size,n.size,m.size] a:=λc=>lw hr bK
 refine(bO r6.r V 4).mono λ_ s⟨b,en,_,_,d7,T⟩=>⟨(L6 (ad _)).da T,b,en,?_⟩
 have L:=r6.to T d7
 have z7:=T.size
 have C:=o.to L.f L.r
 have b7:=b6.fz aa hk T
 have G:∀j∈r.size::n.size::f,j<s.size:=bG (af (a:=s) V) (ad _) V
 have H:e∈r.size::n.size::f:=by simp[ak]
 have il:∀{z:Nat}{ac:List Value}{Q:Nat},aN bY z ac s (XP (r.size::n.size::f) e h s Q (WX i g.length q.params.length))->Q<=P+300+20*Cg 18->aN bY z ac s λv B=>dV [r.size,n.size,m.size] s B/\∃Z r1:Int,∃u:O,v=.agg #[vi Z,vi r1,O.v u]/\
  ∃w j,BX (n.size::f) i g.length q.params.length r.size (aj B r.size 0 [.i Z,.i r1,.s u]) w j/\Rs e h m (P+300+20*Cg 18) (aj B r.size 0 [.i Z,.i r1,.s u])/\K.size<=(aj B r.size 0 [.i Z,.i r1,.s u]).size:=λc hQ=>
  XP.kk c (L6 z7) λw j B h1 h2 h3 F=>by
   have hb:=(b7.fz aa hk F).set ⟨h1,h2⟩;have ai:=(L.to F h3).put o.rd (k:=r.size) V 0 [.i j.op,.i j.bL,.s w];exact⟨w,j,hb,⟨ai.f,ai.r.mono hQ⟩,by rw[az];have:=F.size;omega⟩
 have xl:=λ(a:I)(S':List Nat)(h1:∀j∈S',j<a.size)(h2:e∈S')(Q:Nat)(cM:GC e h Q d p i g a)(z:Fz [e] m a)(hQ:Q+20*Cg 18<=10000000000000000)(t:Int)(hb:0<=t/\t<=18)=>Jx (S:=S') h1 h2 cM hQ (PS z) V am hb
 have W:=il ((xl s _ G H _ C L.f V 18 bd).mono λ_ _ c=>c.mono (λj R=>R.1) (ad _)) V
 have first:1<=q.params.length->∃y:Int,q.params[0]? =some y/\D s Y.F (Y.off+Int.toNat 0*1)=some (vi y):=λc=>by
  obtain⟨y,X⟩:=ag (l:=q.params) (k:=0) V;exact⟨y,X,(dP.1 ((PS L.f).u X)).2⟩
 refine⟨λa=>∃w j,BX (n.size::f) i g.length q.params.length r.size a w j/\Rs e h m (P+300+20*Cg 18) a/\K.size<=a.size,?_,?_⟩
 ·refine⟨λv a=>(v=true->U=0)/\s=a,⟨λ_=>⟨λc=>by simp at c;omega,rfl⟩,λ_=>⟨λc=>by simp at c,rfl⟩⟩,?_⟩
  rintro v _ ⟨J,rfl⟩
  refine⟨λc=>?_,λ_=>?_⟩
  ·have h0:=al (J c)
   exact il ((Hx G H C V).mono λ_ _ c=>c.mono (λj R=>by rw[h0];exact R) (ad _)) V
  refine⟨λv a=>(v=true->0<=pl)/\s=a,⟨λ_=>⟨λc=>⟨λ_=>⟨λ_=>by simpa using c,rfl⟩,λ_=>⟨λ_=>by simpa using c,rfl⟩⟩,λ_=>⟨E,rfl⟩⟩,λ_=>⟨E,rfl⟩⟩,?_⟩
  rintro v _ ⟨J,rfl⟩
  refine⟨λc=>il (HA G H C V A ⟨J c,V⟩) V,λ_=>?_⟩
  refine⟨λv a=>(v=true->1<=q.params.length)/\s=a,⟨λ_=>⟨λc=>?_,λ_=>⟨E,rfl⟩⟩,λ_=>⟨E,rfl⟩⟩,?_⟩
  ·simp only[ao]at c
   obtain⟨y,X,R⟩:=first V
   exact⟨bd,V,y,R,λ_=>⟨λ_=>⟨λ_=>V,rfl⟩,λ_=>⟨λ_=>V,rfl⟩⟩,λ_=>⟨E,rfl⟩⟩
  rintro v _ ⟨J,rfl⟩
  refine⟨λc=>il (HB G H C V A (J c)) V,λ_=>⟨λ_=>⟨λc=>?_,λ_=>W⟩,λ_=>W⟩⟩
  simp only[ao]at c
  obtain⟨y,X,R⟩:=first V
  have ae:=il (Hj G H C V A V) V
  exact⟨bd,V,y,R,λ_=>⟨λ_=>ae,λ_=>⟨λ_=>ae,λ_=>W⟩⟩,λ_=>W⟩
 rintro a ⟨w,j,t,ae,av⟩
 refine⟨_,t.b.cy 0,_,t.b.cy 1,_,t.b.cy 2,?_⟩
 refine(yB (eJ.le (bt _ _) t.h.sl)).mono λ_ m8⟨n8,e8,q8,x8⟩=>⟨(N V).da (x8.fz _),n8,e8,?_⟩
 have z8:=x8.size
 have J:=ae.ext x8
 have R:=t.ext x8
 refine⟨λ_=>?_,λc=>⟨_,R.b.cy 0,_,R.b.cy 1,_,R.b.cy 2,?_⟩⟩
 ·exact XP.ret (xl m8 (n.size::f) (af V) aa _ (o.to J.f J.r) J.f V 12 bd) (N V) J.f o.rd V (λ_ c=>c) V
 ·simp only[bP]at c
  have r9:=J.put o.rd (k:=n.size) V 0 [.i j.op,.i j.bL,.s w]
  exact⟨w,j,rfl,(R.h.fG.put E _ _).fG.sl,⟨t.h.wx,V⟩,r9.r.mono V,r9.f⟩
end
def zo{α:Type}{R:I->List Ce->α->Prop}{n:Nat}(g:mK n R){S:List Nat}(o:∀d∈S,d<a.size)(e:Nat)(l:List (α×List Ce))(h:∀x∈l,R (bA S a) x.2 x.1)(p:c=l.flatMap (·.2))(q:b=l.length):
 Gr S a (a.push (.cells (br c) e)) e n R (.mk a.size 0 b b) (l.map (·.1)):=by
 refine Gr.lit (f:=l.map (·.2)) g (ad _) o (by rw[p,YY]) (by simp[q]) ⟨E,λd i=>?_,λr d e k j=>?_⟩
 ·simp at i;obtain⟨m,f⟩:=i;exact g.len (h _ f)
 ·simp only[bW,iK]at k j
  obtain⟨x,m,rfl⟩:=k
  obtain⟨y,f,rfl⟩:=j
  rw[m]at f;simp at f;subst f
  exact h x (au m)
abbrev Ry(m:I)(s:O)(l:List (List Int)):Prop:=dW m 1 (ly m) s l
def uF{S:List Nat}(d:∀e∈S,e<a.size)(e:Nat)(l:List (List Int×O))(k:l.length<=1000)(h:∀x∈l,ar (bA S a) x.2 x.1)(f:c=l.map λx=>.s x.2)(g:b=l.length):Ry (bA S (a.push (.cells (br c) e))) (.mk a.size 0 b b) (l.map (·.1)):=by
 have H:=zo (R:=λm c x=>ly m c x) (n:=1) ⟨λh=>ly.le h _ _,λ⟨_,h,_⟩=>by rw[h];rfl⟩ d e (l.map λx=>(x.1,[Ce.s x.2])) (λx i=>by simp at i;obtain⟨m,o,j,rfl⟩:=i;exact⟨_,rfl,h _ j⟩) (c:=c) (b:=b) (by rw[f];clear f g h k;induction l<;>simp_all) (by simp[g]);have i:=Gr.done ly.mono H d bd bK;rwa[show(l.map λx=>(x.1,[Ce.s x.2])).map (·.1)=l.map (·.1)by simp[UB,YI]]at i
abbrev Wq(S:List Nat)(a m:I)(s:O)(l:List bq):Prop:=Gr S a m jk 3 gE s l
end
section
variable{K:O->I->Prop}
section
variable{S L:List Nat}{c P:Nat}{d:O}{m b:I}
def KK(f:O)(d:∀a∈L,a<b.size)(g:∀a,J b a->K f a):aN bY 201 [O.v f] b λv a=>dV L b a/\∃c:O,v=.agg #[O.v c]/\K c a:=
 (Jr f b).mono λ_ a⟨e,x⟩=>⟨x.da d,f,e,g a x⟩
def AI(f:O)(d:∀a,J b a->K f a):aN bY 201 [O.v f] b λv a=>∃c:O,v=.agg #[O.v c]/\K c a:=
 (Jr f b).mono λ_ a⟨e,x⟩=>⟨f,e,d a x⟩
def uf(hS:∀w∈S,w<m.size)(Y:c∈S)(X:Rd c d P m)(hP:P+1<=10000000000000000):
 aN bY 200 [vp c 0] m λa_ Z=>∃x ds,a_=O.v x/\Wq S m Z x ds/\ds∈pN/\Rd c d (P+1) Z/\Fz [c] m Z:=by
 apply yg (c,0)
 simp -zeta only[aE,aD]
 have hr:=X.lt
 have j:∀{b:I},m.size<=b.size->∀w∈S,w<b.size:=λh w hc=>by have:=hS w hc;omega
 have t:∀(b:I)(g:List Int)(U:List Ce)(K:Nat),m.size<=b.size->U=g.map Ce.i->K=g.length->g.length<=1000->ar (bA S (b.push (.cells (br U) aB))) (.mk b.size 0 K K) g:=λb g U K h h1 h2 h3=>ar.lit aB g (j h) h1 h2 V
 have az:∀(b:I)(f:Nat),ar (bA S b) (.mk f 0 0 0) []:=λb f=>kY _ _ _ _ _ _
 intro a7
 have x1:J m a7:=J.push _ _
 refine AI _ λC x2=>?_
 intro m3
 have x3:J C m3:=J.push _ _
 have z2:=(x1.trans x2).size
 have i3:ar (bA S m3) (.mk C.size 0 2 2) [0,1]:=t C [0,1] _ _ z2 rfl rfl bd
 clear_value m3
 refine AI _ λm4 Q=>?_
 intro s
 have x5:J m4 s:=J.push _ _
 have z4:=(x3.trans Q).size
 have c5:Ry (bA S s) (.mk m4.size 0 2 2) [[],[0,1]]:=uF (j V) _ [([],.mk m.size 0 0 0),([0,1],.mk C.size 0 2 2)] E (by simp;exact⟨az _ _,i3.le (Q.cJ _)⟩) rfl rfl
 clear_value s
 intro m6 G
 obtain⟨x7,-,z7⟩:=jz (M:=s) (d:=m6) (c:=G) rfl rfl rfl
 clear_value G
 have z5:=x5.size
 intro m8
 have x8:J G m8:=J.push _ _
 clear_value m8
 have z8:=x8.size
 refine KK _ bK λH x9=>?_
 intro aa
 have aJ:J H aa:=J.push _ _
 have z9:=x9.size
 have a2:ar (bA S aa) (.mk H.size 0 3 3) [3,0,3]:=t H [3,0,3] _ _ V rfl rfl bd
 clear_value aa
 have vP:=aJ.size
 refine KK _ bK λab an=>?_
 intro o
 have aK:J ab o:=J.push _ _
 have be:=an.size
 have aT:Ry (bA S o) (.mk ab.size 0 2 2) [[],[3,0,3]]:=uF (j V) _ [([],.mk G.size 0 0 0),([3,0,3],.mk H.size 0 3 3)] E (by simp;exact⟨az _ _,a2.le (an.cJ _)⟩) rfl rfl
 clear_value o
 intro a8 p
 obtain⟨ba,-,bg⟩:=jz (M:=o) (d:=a8) (c:=p) rfl rfl rfl
 clear_value p
 have bf:=aK.size
 have u:∀{b:I},p.size<=b.size->∀f∈[o.size,s.size],f<b.size:=λh=>bK
 intro ac
 have aL:J p ac:=J.push _ _
 have a3:ar (bA S ac) (.mk p.size 0 2 2) [1,3]:=t p [1,3] _ _ V rfl rfl bd
 clear_value ac
 have bb:=aL.size
 refine KK _ (u bb) λae ap=>?_
 intro q
 have aM:J ae q:=J.push _ _
 have bh:=ap.size
 have aU:Ry (bA S q) (.mk ae.size 0 1 1) [[1,3]]:=uF (j V) _ [([1,3],.mk p.size 0 2 2)] E (by simp;exact a3.le (ap.cJ _)) rfl rfl
 clear_value q
 have bi:=aM.size
 intro af
 have aO:J q af:=J.push _ _
 have a4:ar (bA S af) (.mk q.size 0 3 3) [1,1,0]:=t q [1,1,0] _ _ V rfl rfl bd
 clear_value af
 have bj:=aO.size
 refine KK _ (u V) λB aq=>?_
 intro ah
 have av:J B ah:=J.push _ _
 have bk:=aq.size
 have a5:ar (bA S ah) (.mk B.size 0 1 1) [0]:=t B [0] _ _ V rfl rfl bd
 clear_value ah
 have bl:=av.size
 refine KK _ (u V) λD L=>?_
 intro ai
 have N:J D ai:=J.push _ _
 have bm:=L.size
 have a6:ar (bA S ai) (.mk D.size 0 1 1) [3]:=t D [3] _ _ V rfl rfl bd
 clear_value ai
 have bn:=N.size
 refine KK _ (u V) λaj y=>?_
 intro r
 have aP:J aj r:=J.push _ _
 have bo:=y.size
 have aV:Ry (bA S r) (.mk aj.size 0 3 3) [[1,1,0],[0],[3]]:=uF (j V) _ [([1,1,0],.mk q.size 0 3 3),([0],.mk B.size 0 1 1),([3],.mk D.size 0 1 1)] E (by simp;exact⟨a4.le ((((((aq.trans av).trans L).trans N).trans y)).cJ _),a5.le (((L.trans N).trans y).cJ _),a6.le (y.cJ _)⟩) rfl rfl
 clear_value r
 have bp:=aP.size
 have aF:=(((((aO.trans aq).trans av).trans L).trans N).trans y).trans aP
 have aC:=(((ba.trans aL).trans ap).trans aM).trans aF
 have T:=(((((x7.trans x8).trans x9).trans aJ).trans an).trans aK).trans aC
 have A:∀{aw ax:I}{x:O}{g:List (List Int)},J aw ax->Ry (bA S aw) x g->Ry (bA S ax) x g:=λaI h=>dW.le h (aI.cJ _) (ly.le (aI.cJ _))
 have al:Ry (bA S r) .nil []:=⟨rfl,ad _,E,E⟩
 intro e
 have v:J r e:=J.push _ _
 have aY:bR (bA S e) (.mk r.size 0 4 4) Pk:=(zo (R:=gE) gE.mono (j (b:=r) V) jk [(⟨0,0,[[1,3]]⟩,[.i 0,.i 0,.s (.mk ae.size 0 1 1)]),(⟨1,0,[]⟩,[.i 1,.i 0,.s .nil]),(⟨0,0,[[1,1,0],[0],[3]]⟩,[.i 0,.i 0,.s (.mk aj.size 0 3 3)]),(⟨0,1,[]⟩,[.i 0,.i 1,.s .nil])] (by simp;exact⟨⟨_,rfl,A aF aU⟩,⟨_,rfl,al⟩,⟨_,rfl,aV⟩,⟨_,rfl,al⟩⟩) rfl rfl).done gE.mono (j V) bd bd
 clear_value e
 have bq:=v.size
 intro F
 have z:J e F:=J.push _ _
 have aG:Wq S e F (.mk e.size 0 3 3) Ig:=zo (R:=gE) gE.mono (j (b:=e) V) jk [(⟨0,0,[[],[0,1]]⟩,[.i 0,.i 0,.s (.mk m4.size 0 2 2)]),(⟨0,0,[]⟩,[.i 0,.i 0,.s .nil]),(⟨0,0,[[],[3,0,3]]⟩,[.i 0,.i 0,.s (.mk ab.size 0 2 2)])] (by simp;exact⟨⟨_,rfl,A (T.trans v) c5⟩,⟨_,rfl,A v al⟩,⟨_,rfl,A (aC.trans v) aT⟩⟩) rfl rfl
 clear_value F
 have aA:=((((x1.trans x2).trans x3).trans Q).trans x5).trans (T.trans (v.trans z))
 have bs:=z.size
 have aR:Lw c [o.size,s.size] F:=λf n=>⟨u V f n,by simp at n;omega⟩
 refine(bO (X.ext aA) V 5).mono λ_ ak⟨aH,aW,k0,k1,W,i⟩=>⟨aR.da i,aH,aW,λh=>?_,λ_=>⟨_,Ig,rfl,Gr.cG gE.mono (aG.fu gE.mono i (by simp;exact⟨Y,V⟩)) (λ_ h=>Or.inl h) V,by simp[pN],W,(aA.fz _).trans i⟩⟩
 simp only[ao]at h
 obtain⟨am,hq⟩:=ag (l:=Pk) (k:=aH.toNat) (by simp[Pk];omega)
 have a1:Le (bA S e) (bA (e.size::S) ak):=(z.bA λf n=>(List.mem_cons.1 n).elim (λh=>Or.inr V) Or.inl).trans (i.cJ (by simp[Y]))
 obtain⟨aX,hf,e0,e1,e2⟩:=(aY.le a1).u hq
 refine⟨k0,bK,_,(dP.1 e0).2,_,(dP.1 e1).2,_,(dP.1 e2).2,?_⟩
 intro bc
 have aZ:Wq S e ak (.mk e.size 0 3 3) Ig:=aG.fu gE.mono i (by simp;exact⟨Y,V⟩)
 have hz:=i.size
 have a0:Ig++[am]∈pN:=by
  have:=au hq;simp only[pN,aS,UC];exact Or.inr ⟨am,this,rfl⟩
 refine Gr.jK (g:=[.i 0,.i 0,.s .nil]) (k:=am) gE.mono bd aZ ((z.fz _).trans i) ⟨aX,rfl,hf⟩ (by simp[Ig]) λa9 M' g' f' z' q'=>?_
 have ay:=((((((x1.trans x2).trans x3).trans Q).trans x5).trans (T.trans v)).fz [c]).trans f'
 have aQ:Lw c [o.size,s.size] e:=λf n=>⟨u V f n,by simp at n;omega⟩
 exact⟨aQ.zE (((z.fz [c]).trans i).then (J.push ak _)) f',a9,_,rfl,Gr.cG gE.mono g' (λ_ h=>Or.inl h) V,a0,X.J6 W ay (q' c W.lt (by show c≠e.size;omega)),ay⟩
end
end
section
variable{a:Nat}{b:List Ce}
def MF(M:I)(b:List Ce)(x:cY×Option Ex):Prop:=∃c a k z,b=[.s c,.i x.1.aR,.i a,.i k,.s z]/\ar M c x.1.params/\∀e,x.2=some e->a=e.op/\k=e.bL/\eJ M z e.bu
def MF.mono:mK 5 MF:=⟨λh⟨b,a,k,z,e,c,d⟩=>⟨b,a,k,z,e,c.le h,λx j=>let⟨f,g,i⟩:=d x j;⟨f,g,eJ.le h i⟩⟩,λ⟨_,_,_,_,e,_⟩=>by rw[e];rfl⟩
def Wp(M:I)(b:List Ce)(x:cY×Ex):Prop:=∃a s,b=[.s a,.i x.1.aR,.i x.2.op,.i x.2.bL,.s s]/\ar M a x.1.params/\eJ M s x.2.bu
def Wp.mono:mK 5 Wp:=⟨λh⟨a,s,e,b,c⟩=>⟨a,s,e,b.le h,eJ.le h c⟩,λ⟨_,_,e,_⟩=>by rw[e];rfl⟩
abbrev Ua(m:I)(s:O)(l:List (cY×Ex)):Prop:=dW m 5 (Wp m) s l
structure Ud(ds:List bq)(l:List (cY×Ex)):Prop where
 gp:GP ds (l.map (·.1))
 xl:∀x∈l,U7 ds l.length x.1.params.length x.2
def Gr.Xb{α:Type}{S:List Nat}{q p:I}{j g h c k:Nat}{R:I->List Ce->α->Prop}{o:List α}(x:0<g)(m:Gr S q p j g R (.mk h 0 a c) o)(v:k<=a):Gr S q p j g R (.mk h 0 k c) (o.take k):=by
 have w:=m.len x;obtain⟨-,b,r,d⟩:=m;simp only[O.fj]at w;have t:b.length=a:=by rw[d.len];omega
 rcases r.u with e|⟨B,C,tail,e,h4,h5,h6,h7⟩
 ·simp at e
 simp only[O.fj,O.mk.injEq]at e h7;obtain⟨rfl,-,-,rfl⟩:=e;have l:b.flatten=(b.take k).flatten++(b.drop k).flatten:=by rw[<-vR,de]
 have n:∀c∈b.take k,c.length=g:=λc s=>d.size c (cT s);refine⟨E,b.take k,⟨by rw[cX n,fY,t,iR v];rfl,Or.inr ⟨h,c,(b.drop k).flatten++tail,E,h4,by rw[<-eH,<-l];exact h5,by rw[<-eH,<-l];exact h6,bK⟩⟩,?_,n,λy z A f i=>?_⟩
 ·rw[fY,fY,d.len]
 ·rw[mg]at f i;split at f
  ·rename_i u;rw[aq u]at i;exact d.df y z A f i
  ·simp at f
section
variable{S L:List Nat}{d P:Nat}{c:O}{m M:I}
def pB{K:O->Int->Int->Int->O->I->Prop}(l:List Int)(r:Int)(n:∀c∈S,c<M.size)(m:∀d∈L,d<M.size)(t:l.length<=1000)(p:b=l.map Ce.i)(s:a=l.length)(q:∀c,J M c->ar (bA S c) (.mk M.size 0 a a) l->K (.mk M.size 0 a a) r 0 0 .nil c):
 aN bY 248 [O.v (.mk M.size 0 a a),vi r] (M.push (.cells (br b) aB)) λv c=>dV L (M.push (.cells (br b) aB)) c/\∃e:O,∃f:Int,∃g:Int,∃h:Int,∃i:O,v=.agg #[O.v e,vi f,vi g,vi h,O.v i]/\K e f g h i c:=
 have j:=J.push M (.cells (br b) aB)
 (OI _ r _).mono λ_ c⟨k,x⟩=>⟨x.da λd o=>j.lt (m d o),_,_,_,_,_,k,q c (j.trans x) ((ar.lit aB l n p s V).le (x.cJ _))⟩
def vB(a:List Int)(r:Int):cY:=⟨a,[],r,0,[]⟩
def Qm.mono:mK 5 Qm:=⟨λh=>Qm.le h,λ⟨_,_,_,_,e,_⟩=>by rw[e];rfl⟩
def OE(l:List (cY×O))(c:∀d∈S,d<M.size)(h:∀x∈l,ar (bA S M) x.2 x.1.params)(k:l.length<=1000)(f:b=l.flatMap λx=>[.s x.2,.i x.1.aR,.i 0,.i 0,.s .nil])(g:a=l.length):nG (bA S (M.push (.cells (br b) eE))) (.mk M.size 0 a a) (l.map (·.1)):=by
 have H:=(zo (R:=Qm) Qm.mono c eE (l.map λx=>(x.1,[Ce.s x.2,.i x.1.aR,.i 0,.i 0,.s .nil])) (λx d=>by simp at d;obtain⟨i,j,e,rfl⟩:=d;exact⟨_,_,_,_,rfl,h _ e⟩) (c:=b) (b:=a) (by rw[f,List.flatMap_map]) (by simp[g])).done Qm.mono c bd bK;rwa[show(l.map λx=>(x.1,[Ce.s x.2,.i x.1.aR,.i 0,.i 0,.s .nil])).map (·.1)=l.map (·.1)by simp[UB,YI]]at H
end
end
section
def Sc:List cY:=[vB [1] 0,vB [1,1] 1,vB [1] 1,vB [1,0] 1,vB [2,1] 1,vB [1,1] 0]
def Sk:List cY:=[vB [3] 0,vB [0] 1,vB [0,1] 1,vB [3,0] 3,vB [3] 1,vB [1,3,0] 0]
def Mp:List cY:=[vB [0] 0,vB [0,0] 0,vB [1,0] 0,vB [0] 1]
def NX:(∀q∈Sc,(q.params,q.aR)∈MM)/\(∀q∈Sk,(q.params,q.aR)∈MM)/\∀q∈Mp,(q.params,q.aR)∈MM:=bd
def Mb{α:Type}{l:List α}{k:Nat}{x:α}(h:l[k]? =some x):l.set k x=l:=fI λi=>by
 rw[iI];split
 ·rename_i e;subst e;rw[aq (ax h),h]
 ·rfl
section
variable{b:List Nat}{c P:Nat}{d:O}{m:I}
def BU(hS:∀o∈b,o<m.size)(u:c∈b)(T:Rd c d P m)(hP:P+10+4*(300+40*Cg 18)<=10000000000000000):
 aN bY 235 [vp c 0] m λbE m'=>∃z a0 A q,bE=.agg #[O.v z,O.v a0]/\bR (bA b m') z A/\Ua (bA b m') a0 q/\Ud A q/\Rd c d (P+10+4*(300+40*Cg 18)) m'/\Fz [c] m m':=by
 apply uZ (c,0)
 unfold ql
 simp(config:={zeta:=false,maxSteps:=2000000}) only[aE,aD]
 have hr:=T.lt
 intro ah
 have x1:J m ah:=J.push _ _
 have s1:ah.size=m.size+1:=by simp[ah]
 clear_value ah
 have ay:∀o∈m.size::b,o<ah.size:=bG hS x1.size V
 refine(uf ay (by simp[u]) (T.ext x1) V).mono λ_ e⟨z,A,t,gd,aT,d2,f2⟩=>⟨f2.da bK,z,t,?_⟩
 have z2:=f2.size
 have F2:=(x1.fz [c]).trans f2
 have aR:bR (bA (m.size::b) e) z A:=gd.done gE.mono ay bd (by have:=nI A aT;omega)
 intro m3 C
 obtain⟨x4,-,z4⟩:=jz (M:=e) (d:=m3) (c:=C) rfl rfl rfl
 clear_value C
 have h:∀{g:I},C.size<=g.size->∀o∈e.size::m.size::b,o<g.size:=λs=>bG (λo hc=>by have:=ay o hc;omega) s V
 have j:∀{g:I},C.size<=g.size->∀y∈[e.size,m.size],y<g.size:=λs=>bK
 refine pB (S:=e.size::m.size::b) [1] 0 (h V) (j V) bd rfl rfl λa_ x5 i1=>?_
 have z5:=x5.size
 refine pB (S:=e.size::m.size::b) [1,1] 1 (h V) (j V) bd rfl rfl λba x6 i2=>?_
 have z6:=x6.size
 refine pB (S:=e.size::m.size::b) [1] 1 (h V) (j V) bd rfl rfl λbb x7 i3=>?_
 have z7:=x7.size
 refine pB (S:=e.size::m.size::b) [1,0] 1 (h V) (j V) bd rfl rfl λbc x8 i4=>?_
 have z8:=x8.size
 refine pB (S:=e.size::m.size::b) [2,1] 1 (h V) (j V) bd rfl rfl λbe x9 i5=>?_
 have z9:=x9.size
 refine pB (S:=e.size::m.size::b) [1,1] 0 (h V) (j V) bd rfl rfl λa6 aJ i6=>?_
 have vP:=aJ.size
 intro Z
 have y1:J a6 Z:=J.push _ _
 have X9:=x9.trans aJ;have X8:=x8.trans X9;have X7:=x7.trans X8;have X6:=x6.trans X7
 have g1:nG (bA (e.size::m.size::b) Z) (.mk a6.size 0 6 6) Sc:=OE [(vB [1] 0,.mk C.size 0 1 1),(vB [1,1] 1,.mk a_.size 0 2 2),(vB [1] 1,.mk ba.size 0 1 1),(vB [1,0] 1,.mk bb.size 0 2 2),(vB [2,1] 1,.mk bc.size 0 2 2),(vB [1,1] 0,.mk be.size 0 2 2)] (h V) (by simp;exact⟨i1.le (X6.cJ _),i2.le (X7.cJ _),i3.le (X8.cJ _),i4.le (X9.cJ _),i5.le (aJ.cJ _),i6⟩) E rfl rfl
 have bQ:Z.size=a6.size+1:=by simp[Z]
 clear_value Z
 have w1:=y1.size
 refine pB (S:=e.size::m.size::b) [3] 0 (h V) (j V) bd rfl rfl λc1 u1 j1=>?_
 have v1:=u1.size
 refine pB (S:=e.size::m.size::b) [0] 1 (h V) (j V) bd rfl rfl λc2 u2 j2=>?_
 have v2:=u2.size
 refine pB (S:=e.size::m.size::b) [0,1] 1 (h V) (j V) bd rfl rfl λc3 u3 j3=>?_
 have v3:=u3.size
 refine pB (S:=e.size::m.size::b) [3,0] 3 (h V) (j V) bd rfl rfl λc4 u4 j4=>?_
 have v4:=u4.size
 refine pB (S:=e.size::m.size::b) [3] 1 (h V) (j V) bd rfl rfl λc5 u5 j5=>?_
 have v5:=u5.size
 refine pB (S:=e.size::m.size::b) [1,3,0] 0 (h V) (j V) bd rfl rfl λc6 u6 j6=>?_
 have v6:=u6.size
 intro b2
 have y2:J c6 b2:=J.push _ _
 have U5:=u5.trans u6;have U4:=u4.trans U5;have U3:=u3.trans U4;have U2:=u2.trans U3
 have g2:nG (bA (e.size::m.size::b) b2) (.mk c6.size 0 6 6) Sk:=OE [(vB [3] 0,.mk Z.size 0 1 1),(vB [0] 1,.mk c1.size 0 1 1),(vB [0,1] 1,.mk c2.size 0 2 2),(vB [3,0] 3,.mk c3.size 0 2 2),(vB [3] 1,.mk c4.size 0 1 1),(vB [1,3,0] 0,.mk c5.size 0 3 3)] (h V) (by simp;exact⟨j1.le (U2.cJ _),j2.le (U3.cJ _),j3.le (U4.cJ _),j4.le (U5.cJ _),j5.le (u6.cJ _),j6⟩) E rfl rfl
 have bT:b2.size=c6.size+1:=by simp[b2]
 clear_value b2
 have w2:=y2.size
 refine pB (S:=e.size::m.size::b) [0] 0 (h V) (j V) bd rfl rfl λe1 t1 k1=>?_
 have q1:=t1.size
 refine pB (S:=e.size::m.size::b) [0,0] 0 (h V) (j V) bd rfl rfl λe2 t2 k2=>?_
 have q2:=t2.size
 refine pB (S:=e.size::m.size::b) [1,0] 0 (h V) (j V) bd rfl rfl λe3 t3 k3=>?_
 have q3:=t3.size
 refine pB (S:=e.size::m.size::b) [0] 1 (h V) (j V) bd rfl rfl λe4 t4 k4=>?_
 have q4:=t4.size
 intro N
 have y3:J e4 N:=J.push _ _
 have T3:=t3.trans t4;have T2:=t2.trans T3
 have g3:nG (bA (e.size::m.size::b) N) (.mk e4.size 0 4 4) Mp:=OE [(vB [0] 0,.mk b2.size 0 1 1),(vB [0,0] 0,.mk e1.size 0 2 2),(vB [1,0] 0,.mk e2.size 0 2 2),(vB [0] 1,.mk e3.size 0 1 1)] (h V) (by simp;exact⟨k1.le (T2.cJ _),k2.le (T3.cJ _),k3.le (t4.cJ _),k4⟩) E rfl rfl
 have bU:N.size=e4.size+1:=by simp[N]
 clear_value N
 have w3:=y3.size
 refine pB (S:=e.size::m.size::b) [] 0 (h V) (j V) bd rfl rfl λM0 x0 n0=>?_
 have z0:=x0.size
 have aM:=((((u1.trans U2).trans y2)).trans (t1.trans T2)).trans (y3.trans x0)
 have XM:J C M0:=((x5.trans X6).trans y1).trans aM
 have G1:=nG.le (aM.cJ _) g1
 have G2:=nG.le ((((t1.trans T2)).trans (y3.trans x0)).cJ _) g2
 have a9:=nG.le (x0.cJ _) g3
 have dM:Rd c d (P+1) M0:=(d2.ext x4).ext XM
 have L2:∀{g:I},C.size<=g.size->Lw c [e.size,m.size] g:=λs=>lw hr bK
 have bL:c∈e.size::m.size::b:=by simp[u]
 have p:∀{g M':I}{y ac:Nat},C.size<=y->y<g.size->Fz [c] g M'->D M' y ac=D g y ac:=λh1 h2 ab=>aI (ab.same _ h2 bK) _
 refine(bO dM V _).mono λ_ m5⟨r1,Q,bz,a2,d5,f5⟩=>⟨(L2 V).da f5,r1,Q,bz,by simp at a2⊢;omega,?_⟩
 have ap:Le (bA (e.size::m.size::b) M0) (bA (e.size::m.size::b) m5):=f5.cJ (by simp[u])
 have b1:=f5.size
 obtain⟨U,aV⟩:=ag (l:=Sc) (k:=r1.toNat) (by simp[Sc]at a2⊢;omega)
 obtain⟨_,⟨pa,pn,pk,pz,rfl,pi⟩,pr⟩:=(nG.le ap G1).je _ U aV
 have pg:=λv o s=>(dP.1 (pr v o s)).2
 refine⟨_,pg 0 _ rfl,_,pg 1 _ rfl,_,pg 2 _ rfl,_,pg 3 _ rfl,_,pg 4 _ rfl,?_⟩
 refine(bO d5 V _).mono λ_ m6⟨r2,Q,bC,a4,d6,B⟩=>⟨(L2 V).da B,r2,Q,?_⟩
 have b3:=B.size
 have av:Le (bA (e.size::m.size::b) m5) (bA (e.size::m.size::b) m6):=B.cJ (by simp[u])
 obtain⟨W,aW⟩:=ag (l:=Sk) (k:=r2.toNat) (by simp[Sk]at a4⊢;omega)
 obtain⟨_,⟨qa,qn,qk,qz,rfl,qi⟩,qr⟩:=(nG.le (ap.trans av) G2).je _ W aW
 have qg:=λv o s=>(dP.1 (qr v o s)).2
 refine⟨p bK bK B,p bK bK B,p bK bK B,p bK bK B,p bK bK B,bC,by simp at a4⊢;omega,_,qg 0 _ rfl,_,qg 1 _ rfl,_,qg 2 _ rfl,_,qg 3 _ rfl,_,qg 4 _ rfl,?_⟩
 refine(bO d6 V _).mono λ_ f⟨r3,Q,bD,a5,d7,r⟩=>⟨(L2 V).da r,r3,Q,?_⟩
 have b4:=r.size
 have aw:Le (bA (e.size::m.size::b) m6) (bA (e.size::m.size::b) f):=r.cJ (by simp[u])
 obtain⟨Y,aX⟩:=ag (l:=Mp) (k:=r3.toNat) (by simp[Mp]at a5⊢;omega)
 obtain⟨_,⟨ra,rn,rk,rz,rfl,ri⟩,rr⟩:=(nG.le ((ap.trans av).trans aw) a9).je _ Y aX
 have rg:=λv o s=>(dP.1 (rr v o s)).2
 refine⟨p bK bK r,p bK bK r,p bK bK r,p bK bK r,p bK bK r,p bK bK r,p bK bK r,p bK bK r,p bK bK r,p bK bK r,bD,by simp at a5⊢;omega,_,rg 0 _ rfl,_,rg 1 _ rfl,_,rg 2 _ rfl,_,rg 3 _ rfl,_,rg 4 _ rfl,?_⟩
 intro m8
 have a7:J f m8:=J.push _ _
 have bq:ar (bA (e.size::m.size::b) f) (.mk N.size 0 0 0) []:=kY _ _ _ _ _ _
 have gf:Gr (e.size::m.size::b) f m8 eE 5 MF (.mk f.size 0 4 4) [(vB [] 0,none),(U,none),(W,none),(Y,none)]:=zo MF.mono (h V) eE [((vB [] 0,none),[.s (.mk N.size 0 0 0),.i 0,.i 0,.i 0,.s .nil]),((U,none),[.s pa,.i U.aR,.i pn,.i pk,.s pz]),((W,none),[.s qa,.i W.aR,.i qn,.i qk,.s qz]),((Y,none),[.s ra,.i Y.aR,.i rn,.i rk,.s rz])] (by simp;exact⟨⟨_,_,_,_,rfl,bq,E⟩,⟨_,_,_,_,rfl,pi.le (av.trans aw),E⟩,⟨_,_,_,_,rfl,qi.le aw,E⟩,⟨_,_,_,_,rfl,ri,E⟩⟩) rfl rfl
 have s8:m8.size=f.size+1:=by simp[m8]
 clear_value m8
 let w:=[vB [] 0,U,W,Y]
 have bH:f.size≠e.size:=V
 have bj:∀ak∈w,(ak.params,ak.aR)∈MM:=by
  simp only[w,aS,jo,zc];rintro ak (rfl|rfl|rfl|rfl)
  ·simp[vB,MM]
  ·exact NX.1 _ (au aV)
  ·exact NX.2.1 _ (au aW)
  ·exact NX.2.2 _ (au aX)
 have a8:Fz [c] e f:=(((x4.trans XM).fz [c]).trans f5).trans (B.trans r)
 have a1:∀{g:I}{am:O}{q:List (cY×Option Ex)}(ac:Nat)(aa:List Ce),Gr (e.size::m.size::b) f g eE 5 MF am q->Gr (e.size::m.size::b) f (aj g e.size ac aa) eE 5 MF am q:=λac aa R=>R.KP MF.mono ((Fz.aC [e.size] _).aj (Or.inl E) ac aa) E (by have:=R.aY;simp;omega)
 intro m9
 have g9:Gr (e.size::m.size::b) f m9 eE 5 MF (.mk f.size 0 4 4) [(vB [] 0,none),(U,none),(W,none),(Y,none)]:=a1 1 [.s (.mk f.size 0 4 4)] gf
 have r9:Rs c d e (P+4) m9:=(Rs.mk (a8.then a7) (d7.ext a7)).put d2 (ad _) 1 [.s (.mk f.size 0 4 4)]
 have s9:m9.size=m8.size:=az _ _ _ _
 clear_value m9
 intro aG
 have an:J m9 aG:=J.push _ _
 have bt:ar (bA [c] aG) (.mk m9.size 0 5 5) [4,4,3,2,4]:=ar.lit aB _ bK rfl rfl E
 clear_value aG
 have bZ:=an.size
 refine(jw (r9.r.ext an) V bt E).mono λ_ bu⟨mn,Q,bp,bf,al⟩=>⟨(L2 V).da al,mn,Q,?_⟩
 have b0:=al.size
 have bJ:2<=mn/\mn<=4:=by simp at bp;omega
 obtain⟨n,rfl⟩:∃n:Nat,mn=n:=⟨mn.toNat,V⟩
 have bm:O.cut (.mk f.size 0 4 4) (Int.toNat 0) (Int.toNat n) 5=.mk f.size 0 n 4:=by simp[O.cut]
 rw[bm]
 refine⟨bd,V,bK,?_⟩
 intro ai
 have bi:Gr (e.size::m.size::b) f ai eE 5 MF (.mk f.size 0 n 4) ([(vB [] 0,none),(U,none),(W,none),(Y,none)].take n):=Gr.Xb bd (a1 1 [.s (.mk f.size 0 n 4)] ((g9.ext MF.mono an).fu MF.mono al (by simp[u];omega))) V
 have bB:Rs c d e (P+5) ai:=((r9.ext an).to al bf).put d2 (ad _) 1 [.s (.mk f.size 0 n 4)]
 have bN:ai.size=bu.size:=az _ _ _ _
 clear_value ai
 have aY:(w.take n).length=n:=by simp[w];omega
 have gp:GP A (w.take n):=⟨aT,V,V,λak i=>bj ak (cT i)⟩
 have ew:cK ((n:Int) -1)=n -1:=aP V V
 rw[ew]
 refine⟨λab g=>∃(i:Nat)(q:List (cY×Option Ex)),ab=(i:Int) -1/\i<=n/\Gr (e.size::m.size::b) f g eE 5 MF (.mk f.size 0 n 4) q/\q.map (·.1)=w.take n/\(∀(v:Nat)(x:cY×Option Ex),q[v]? =some x->i<=v->∃t,x.2=some t/\U7 A n x.1.params.length t)/\Rs c d e (P+5+(n -i)*(300+40*Cg 18)) g/\ai.size<=g.size,λab _=>(ab+1).toNat,⟨n,_,rfl,ad _,bi,by rw[Lj];rfl,λv x G s=>by have:=ax G;simp at this;omega,by rw[Nat.sub_self,NP];exact bB,ad _⟩,?_⟩
 rintro ab g ⟨i,q,rfl,bI,R,hl,aA,ae,zM⟩
 have bo:q.length=n:=by rw[<-aY,<-hl];simp
 have gy:=R.aY
 simp only[O.iT]at gy
 have aQ:f.size∉e.size::m.size::b:=λs=>by have:=h (g:=C) (ad _) _ s;omega
 refine dit (λs=>?_) λs=>?_
 ·obtain⟨i,rfl⟩:∃H,i=H+1:=⟨i -1,V⟩
  have ek:((i+1:Nat):Int) -1=(i:Int):=V
  rw[ek]
  obtain⟨x,hx⟩:=ag (l:=q) (k:=i) V
  have aC:(w.take n)[i]? =some x.1:=by rw[<-hl];simp[hx]
  have bs:nG (bA [c] g) (.mk f.size 0 n 4) (w.take n):=by
   have K:=R.mq MF.mono aQ bd V;rw[<-hl];refine⟨bK,K.cap,K.fL,λH aL hy=>?_⟩;simp only[bW,iK]at hy;obtain⟨af,hz,rfl⟩:=hy;obtain⟨aa,⟨L,i1,i2,i3,rfl,ha,-⟩,aF⟩:=K.je H af hz;have aZ:=gJ g (S:=e.size::m.size::b) (c:=[c]) (by simp[u]);exact⟨_,⟨L,_,_,_,rfl,ha.le aZ⟩,aZ.je aF⟩
  have bn:bR (bA [c] g) z A:=aR.le ((gJ e (c:=[c]) (by simp[u])).trans (fh ae.f))
  have hB:(n -(i+1))*(300+40*Cg 18)+(300+40*Cg 18)=(n -i)*(300+40*Cg 18):=by rw[<-oA];congr 1;omega
  have bk:(n -i)*(300+40*Cg 18)<=4*(300+40*Cg 18):=cZ _ V
  have br:i=0->x.1.params.length=0:=λT=>by subst T;obtain⟨n',rfl⟩:∃n',n=n'+1:=⟨n -1,V⟩;simp[w]at aC;rw[<-aC];rfl
  have bl:∀o∈f.size::e.size::m.size::b,o<g.size:=bG (h (g:=g) V) (ad _) gy.2
  refine XP.kk (Ke (f:=f.size::e.size::m.size::b) bl (by simp[u]) ⟨ae.r,bn,bs,gp⟩ V aC br) (L2 V) λam t M1 hs F bg ao=>?_
  have bV:=ao.size
  intro bv aH
  obtain⟨aK,-,bX⟩:=jz (M:=M1) (d:=bv) (c:=aH) rfl rfl rfl
  clear_value aH
  have aO:=(R.fu MF.mono ao (by simp[u];omega)).ext MF.mono aK
  obtain⟨aa,⟨L,i1,i2,i3,rfl,ha,-⟩,kd⟩:=aO.cells hx
  have bw:=kd 0 _ rfl;have bx:=kd 1 _ rfl
  refine⟨V,bK,L,bw,V,bK,_,bx,V,bK,?_⟩
  obtain⟨wr,gs,-,bM⟩:=aO.set MF.mono (X:=List.range f.size) ⟨V,λy hb hn=>absurd (List.mem_range.2 hb) hn⟩ (k:=i) V (a:=(x.1,some t)) (cs:=[.s L,.i x.1.aR,.i t.op,.i t.bL,.s am]) ⟨L,_,_,_,rfl,ha,λe' aU=>by simp at aU;subst aU;exact⟨rfl,rfl,eJ.le (aK.cJ _) hs⟩⟩
  refine⟨wr,?_⟩
  intro aU
  have bP:aU.size=aH.size:=az _ _ _ _
  have a3:Rs c d e (P+5+(n -(i+1))*(300+40*Cg 18)+300+40*Cg 18) aU:=((ae.to ao bg).ext aK).put d2 (by show e.size<=f.size;omega) _ _
  refine⟨λy hb=>bh _ _ _ _ (by simp at hb;show y≠f.size;omega),⟨i,q.set i (x.1,some t),aP V V,V,gs,?_,λv aL G bF=>?_,⟨a3.f,a3.r.mono V⟩,V⟩,?_⟩
  ·rw[wR,Mb (by simp[hx]),hl]
  ·rw[iI]at G
   split at G
   ·rename_i e';subst e';rw[aq V]at G;simp at G;subst G
    have:(w.take n).length=n:=aY
    rw[this]at F;exact⟨t,rfl,F⟩
   ·exact aA v aL G V
  ·rw[aP V V];show((i:Int) -1+1).toNat<((i:Int)+1).toNat;omega
 ·have T:i=0:=V
  subst T
  have ao:Le (bA (e.size::m.size::b) g) (bA b (aj g m.size 0 [.s z,.s (.mk f.size 0 n 4)])):=bS E λo hc=>by simp[hc]
  have K:=R.mq MF.mono aQ bd V
  have bk:(n -0)*(300+40*Cg 18)<=4*(300+40*Cg 18):=cZ _ V
  have G:Rs c d m (P+5+(n -0)*(300+40*Cg 18)) g:=⟨F2.trans ae.f,ae.r⟩
  have G:=G.put T (ad _) 0 [.s z,.s (.mk f.size 0 n 4)]
  have aH:(q.map λx=>(x.1,x.2.getD (.mk 0 0 []))).map (·.1)=w.take n:=by rw[UB,<-hl];rfl
  refine⟨z,.mk f.size 0 n 4,A,q.map λx=>(x.1,x.2.getD (.mk 0 0 [])),rfl,aR.le ?_,⟨bK,K.cap,K.fL,λH aL hy=>?_⟩,⟨by rw[aH];exact gp,λx hx=>?_⟩,G.r.mono V,G.f⟩
  ·exact(ae.f.cJ (by simp[u])).trans ((bS E λo hc=>by simp[hc]))
  ·simp only[bW,iK]at hy
   obtain⟨af,hz,rfl⟩:=hy
   obtain⟨t,F,hf⟩:=aA H af hz (dH _)
   obtain⟨aa,⟨L,i1,i2,i3,rfl,ha,hb⟩,aF⟩:=K.je H af hz
   obtain⟨rfl,rfl,aC⟩:=hb t F
   exact⟨_,⟨L,i3,by simp[F],ha.le ao,by simp only[F,tx];exact eJ.le ao aC⟩,ao.je aF⟩
  ·simp only[UC]at hx
   obtain⟨af,hz,rfl⟩:=hx
   obtain⟨H,L⟩:=List.mem_iff_getElem?.1 hz
   obtain⟨t,F,hf⟩:=aA H af L (dH _)
   simp only[F,tx,eO,bo];exact hf
end
end
structure Mw(S:List Nat)(m0 m:I)(lb:Nat)(s:O)(l:List cq)(sc:Nat):Prop where
 box:cB m lb j7 [.s s,.i sc]
 gr:GS (lb::S) m0 m s l
 up:m0.size<=lb
def Mw.ext{S:List Nat}{c m b:I}{a d:Nat}{s:O}{l:List cq}(h:Mw S c m a s l d)(x:J m b):Mw S c b a s l d:=⟨h.box.ext x,h.gr.ext ft.mono x,h.up⟩
def Mw.ne{S:List Nat}{b m:I}{a c:Nat}{s:O}{l:List cq}(h:Mw S b m a s l c):s.F≠a:=h.gr.ne h.box bd
def XT(S:List Nat)(f m:I)(c:Nat)(s:O)(P:List cq->Nat->Prop)(d:I):Prop:=∃a b e,Mw S f d c a b e/\P b e/\Fz [c,s.F] m d/\(a.F=s.F\/m.size<=a.F)
def Jn{S:List Nat}{n e:I}{b f:Nat}{s w D:O}{l:List cq}{x:cq}(q:Mw S n e b s l f)(C:n.size<=e.size)(R:ar (bA (s.F::b::S) e) w x.args)(T:mo (bA (s.F::b::S) e) D x.bu)(t:l.length<=1000000)(hs:f<=1000000):
 aN bY 309 [vp b 0,nv x w D] e λaa X=>aa=vi (f:Nat)/\XT S n e b s (λc d=>c=l++[x]/\d=f+1) X:=by
 apply uj (b,0)
 simp -zeta only[aE,aD]
 intro i
 have k:J e i:=J.push _ _
 have s1:i.size=e.size+1:=by simp[i]
 clear_value i
 have g:=q.ext k
 have hy:=g.gr.aY
 have U:=g.ne
 have K:=g.box.lt
 have ae:=q.box.lt
 have af:=q.gr.aY
 refine⟨s,g.box.cy 0,?_⟩
 intro Z
 have L:J i Z:=J.push _ _
 refine⟨aI (L.same _ K) _,?_⟩
 have P:GS (b::S) (e.extract 0 n.size) i s l:=Gr.cG ft.mono g.gr (λM t=>Or.inl t) (by rw[kG C];exact ad _)
 refine Gr.jK (g:=[.i 0,.i 0,.i 0,.s .nil,.s .nil]) (k:=x) ft.mono bd P (((J.My C).trans k).fz []) ⟨w,D,rfl,R.le (k.cJ _),dW.le T (k.cJ _) λ_ _=>pM.le (k.cJ _)⟩ V λp u G ac ab F=>?_
 have A:cB u b j7 [.s s,.i f]:=g.box.congr (F b K (jQ U))
 have W:=G.ne A bd
 refine⟨λc d=>?_,A.fm E,?_⟩
 ·simp at d;subst d
  rw[F e.size V V,L.same _ V]
 intro j
 have B:cB j b j7 [.s p,.i f]:=cB.aj (m:=u) (o:=0) (r:=[.s p]) A
 have y:∀c,c≠b->j[c]? =u[c]? :=λc d=>bh _ _ _ _ d
 have s4:j.size=u.size:=az _ _ _ _
 have N:cK ((f:Int)+1)=(f+1:Nat):=by rw[aP V V];rfl
 refine⟨λc d=>y c (by simp at d;omega),_,B.cy 1,B.fm E,?_⟩
 rw[N]
 intro v
 have H:cB v b j7 [.s p,.i (f+1:Nat)]:=cB.aj (m:=j) (o:=1) (r:=[.i (f+1:Nat)]) B
 have z:∀c,c≠b->v[c]? =j[c]? :=λc d=>bh _ _ _ _ d
 have s5:v.size=j.size:=az _ _ _ _
 refine⟨λc d=>z c (by simp at d;omega),_,H.cy 1,?_⟩
 have Q:GS (b::S) n v p (l++[x]):=by
  refine Gr.cG ft.mono (G.re ft.mono (Y:=[b]) ⟨V,λc d h=>?_⟩ E (by simp;exact W) λc d=>Or.inl d) (λM t=>Or.inl t) (by rw[kG C];exact ad _);have:c≠b:=by simpa using h
  exact(z c this).trans (y c this)
 refine⟨by rw[aP V V];congr 1;omega,p,_,_,⟨H,Q,q.up⟩,⟨rfl,rfl⟩,⟨V,λc d h=>?_⟩,by have:=ab.2;omega⟩
 simp only[aS,jo,zc,tA]at h
 rw[z c h.1,y c h.1,F c V h.2,k.same c d]
section
variable{K D d b:Nat}{a:List cq}
structure LW(ds:List bq)(nf sc:Nat)(a:List cq)(K D sc':Nat):Prop where
 wl:WL ds nf False sc a
 dd:sc'=sc+dc a
 sz:sw a<=K
 mN:sc'<=sc+D
def LW.aC(b:List bq)(c a:Nat):LW b c a [] 0 0 a:=⟨.nil _ _ _ _,E,E,V⟩
def LW.fG{c:List bq}{e f g:Nat}(h:LW c e f a K D g)(j:K<=d)(i:D<=b):LW c e f a d b g:=⟨h.wl,h.dd,by have:=h.sz;omega,by have:=h.mN;omega⟩
def LW.trans{e:List bq}{f i j k:Nat}{g:List cq}(h:LW e f i a K D j)(c:LW e f j g d b k):LW e f i (a++g) (K+d) (D+b) k:=
 ⟨h.wl.append (h.dd▸c.wl),by rw[c.dd,h.dd,cr];omega,by have:=h.sz;have:=c.sz;rw[db];omega,by have:=h.mN;have:=c.mN;omega⟩
def LW.kj{b:List bq}{c a:Nat}{x:cq}(h:WS b c False a x):LW b c a [x] x.w 1 (a+1):=⟨.kj h,by rw[jD,qU,Xc h],by simp[sw],V⟩
section
variable{S:List Nat}{e m f:I}{c g j:Nat}{s i:O}{l h:List cq}
def Mw.fq(h:Mw S e m c s l g)(d:J e m)(b:Fz [c,s.F] m f):J e f:=by
 have k:=h.gr.aY;have j:=h.up;exact Fz.ext (((d.fz [c,s.F]).trans b).AZ λi a=>Or.inr (by simp at a;omega))
def Mw.re{S' Y:List Nat}(h:Mw S e m c s l g)(j:Fz Y m f)(d:∀b∈Y,b∈S/\b≠c/\b≠s.F)(k:∀b∈S',b∈S\/m.size<=b):Mw S' e f c s l g:=
 ⟨h.box.congr (j.same _ h.box.lt λi=>(d _ i).2.1 rfl),h.gr.re ft.mono j (λb a=>ai _ (d b a).1) (λi=>(d _ i).2.2 rfl) λb a=>(List.mem_cons.1 a).elim (λi=>Or.inl (by rw[i];exact ba)) λa=>(k b a).imp (ai _) id,h.up⟩
end
structure LS(S:List Nat)(m0 m:I)(lb:Nat)(s:O)(l:List cq)(sc:Nat)(GY:O)(ev:List Int):Prop where
 em:Mw S m0 m lb s l sc
 x:J m0 m
 fq:∀c∈S,c<m.size
 GY:ar (bA [s.F,lb] m) GY ev
 sm:∀y∈ev,0<=y/\y<(sc:Int)
def Xi(e:Ex)(t:O):Value:=.agg #[vi e.op,vi e.bL,O.v t]
def RE(b:List bq)(i:Nat)(e:Ex):Prop:=∀(S:List Nat)(c m:I)(f:Nat)(s:O)(l:List cq)(g:Nat)(GY:O)(d:List Int)(h p t:O),LS S c m f s l g GY d->WX b i d.length e->g+4*e.n<=2000->d.length+4*e.n<=2000->l.length+4*e.n<=2000->bR c h b->dv b->eJ c t e.bu->
 aN bY 276 [vp f 0,.agg #[O.v h,O.v p],Xi e t,O.v GY] m λv n=>∃r:Int,v=vi r/\XT S c m f s (λk j=>∃a,k=l++a/\LW b i g a (3*e.n -1) e.n j/\0<=r/\r<(j:Int)) n
def WO(a:List bq)(g:Nat)(e:Ex):Prop:=∀(S:List Nat)(m:I)(c:Nat)(GY:O)(b:List Int)(f p t:O),(∀d∈S,d<m.size)->ar m GY b->(∀y∈b,0<=y/\y<(c:Int))->WX a g b.length e->c+4*e.n<=2000->b.length+4*e.n<=2000->bR m f a->dv a->eJ m t e.bu->
 lX 247 [.agg #[O.v f,O.v p],Xi e t,O.v GY,vi c] m S λd=>WB a g False c d/\d.w<=3*e.n
def _root_.Go.Vc.Ex.KQ(e:Ex):1<=e.n:=by rw[Ex.VC];omega
def AL{t:List bq}{x:Nat}{e:Ex}(l:RE t x e):WO t x e:=by
 intro i w o GY G D X aa u M P R ae ab L Q N;apply wA;simp -zeta only[aE,aD];intro U f b c d;obtain⟨g,hl,s1,s2,s3⟩:=oF (a:=U) (b:=f) (c:=b) rfl rfl rfl;have q:J b c:=J.push _ _;have s4:c.size=b.size+1:=by simp[c]
 have I:GS ((b.size+1)::f.size::i) b c (.mk b.size 0 0 0) []:=Gr.new _ (ad _) _ _ _;have h:J c d:=J.push _ _;have A:cB d c.size j7 [.s (.mk b.size 0 0 0),.i o]:=cB.push _ _ _;clear_value d c b;have X3:=g;have r:=(g.trans q).trans h;have z5:=h.size;have K:∀s∈f.size::i,s<d.size:=bG u r.size V;have T:Mw (f.size::i) b d c.size (.mk b.size 0 0 0) [] o:=⟨A,s4▸I.ext ft.mono h,V⟩;have hp:=e.KQ;refine(l (f.size::i) b d c.size _ [] o GY G D X aa ⟨T,q.trans h,K,(M.le (((g.trans q).trans h).bA (S:=[]) bK|>λl=>(xB w).trans l)),P⟩ R V V bK (L.le g.le) Q (eJ.le g.le N)).mono λag W⟨y,H,z,n,af,j,⟨a,F,p,Y,Z⟩,k,b6⟩=>?_;subst F;have z6:=k.size;have B:J w W:=Fz.ext (((r.fz [c.size,b.size]).trans k).AZ λC m=>by simp at m;omega);refine⟨k.da λC m=>by simp at m;simp;omega,y,H,z,j.box.cy 0,?_⟩;intro m7;have hz:=p.sz;have ac:=eW n;refine⟨z,.mk n y,rfl,dN.le (bS E λs v=>by simp[v]) (j.gr.mq ft.mono (λv=>?_) bd (by show n.length<=_;omega)),⟨WB.of p.wl ⟨Y,by rw[<-p.dd];exact Z⟩,by rw[Bk.oV];omega⟩,B.aj V _ _⟩;have hy:=j.gr.aY;have O:=j.ne;simp only[aS]at v;rcases v with e|e|e
 ·exact O e
 ·omega
 ·have:=u _ e;omega
end
section
variable{M c:I}{a:Nat}
def MY{m:I}{t:O}{l:List Ex}(h:eJ m t l){k:Nat}{x:Ex}(f:l[k]? =some x)(a:J m M):∃u,eJ m u x.bu/\D M t.F (t.off+k*3)=some (vi x.op)/\D M t.F (t.off+k*3+1)=some (vi x.bL)/\D M t.F (t.off+k*3+2)=some (O.v u):=
 let⟨u,b,c,d,e⟩:=h.u f;⟨u,b,a.D c,a.D d,a.D e⟩
def gx(x:J M c){o:Nat}{v:Value}(h:D M a o=some v):D c a o=D M a o:=by rw[x.D h,h]
def gl(x:J M c)(h:a<M.size)(o:Nat):D c a o=D M a o:=aI (x.same a h) o
def QU{s:List bq}{nf:Nat}{r bL:Int}{bu:List Ex}(ih:∀v∈bu,RE s nf v):RE s nf (.mk r bL bu):=by
 intro w m0 G d C ac sc GY L ao aq bB e hw bx bl bs hd ht hk;have U:=hw.bo;simp only[Xi,Ex.Ta,Ex.QZ,Ex.Pj,Ex.PR]at*;apply rZ (d,0);simp -zeta only[aE,aD];intro ap u;obtain⟨K,hl⟩:=di (a:=ap) (c:=u) rfl rfl;have s1:ap.size=G.size+1:=by simp[ap]
 have s2:u.size=G.size+2:=by simp[u,s1]
 clear_value u;have aW:=hk.len;have bp:=hk.fL;have br:=e.em.box.lt;have h:=e.em.gr.aY;have bv:=e.em.ne;have cJ:∀{M:I}{f:O},Fz [d,C.F] G M->(f.F=C.F\/G.size<=f.F)->Le (bA [C.F,d] G) (bA [f.F,d] M):=λaf g=>nM λa aJ hn=>by
  simp at hn;exact⟨by simp;rcases g with v|v<;>omega,af.same a aJ bK⟩
 have st:∀{aA:List Nat}{M:I}{f:O}{l':List cq}{H:Nat},Mw aA m0 M d f l' H->Fz [d,C.F] G M->(f.F=C.F\/G.size<=f.F)->(∀p∈aA,p<M.size)->sc<=H->LS aA m0 M d f l' H GY L:=λal af g hS hs=>⟨al,e.em.fq e.x af,hS,e.GY.le (cJ af g),λy h=>⟨(e.sm y h).1,by have:=(e.sm y h).2;omega⟩⟩;have da:∀{M c:I}{f:O},u.size<=M.size->(f.F=C.F\/u.size<=f.F)->Fz [d,f.F] M c->dV [ap.size,G.size] M c:=λhz g af=>af.da λa aJ=>by simp at aJ;simp;omega
 have am:∀{M c:I},u.size<=M.size->J M c->dV [ap.size,G.size] M c:=λhz bh=>bh.da λa g=>by simp at g;omega
 have fr:∀{M c:I}{f:O},Fz [d,C.F] G M->(f.F=C.F\/u.size<=f.F)->Fz [d,f.F] M c->Fz [d,C.F] G c:=λaf g T=>af.pZ T λy h=>by simp at h⊢;omega
 refine⟨λav=>?_,λav=>⟨λak=>?_,λak=>⟨λay=>?_,λay=>?_⟩⟩⟩
 ·simp only[aL]at av;obtain⟨j,q⟩:=U.1.Rg av;have o:=e.GY.len;obtain⟨y,z⟩:=ag (l:=L) (k:=bL.toNat) V;have i:=e.sm y (au z);exact⟨j,V,y,(dP.1 ((e.GY.le (K.cJ _)).u z)).2,y,rfl,C,ac,sc,e.em.ext K,⟨[],E,(LW.aC s nf sc).fG V V,i⟩,K.fz _,Or.inl rfl⟩
 ·simp only[aL]at ak;have h2:=U.1.HO ak;obtain⟨e0,ab⟩:=ag (l:=bu) (k:=0) V;obtain⟨j,i⟩:=ag (l:=bu) (k:=1) V;have aR:en bu=e0.n+j.n:=by
   obtain⟨A,a,rfl⟩:∃A a,bu=[A,a]:=by
    match bu,h2 with
    |[A,a],_=>exact⟨A,a,rfl⟩
   simp at ab i;subst ab i;simp[en]
  have p0:=e0.KQ;have p1:=j.KQ;obtain⟨u0,aM,g0,g1,g2⟩:=MY hk ab (e.x.trans K);refine⟨bd,V,_,g0,_,g1,_,g2,?_⟩;have S2:=st (e.em.ext K) (K.fz _) (Or.inl rfl) (λp t=>by have:=e.fq p t;omega) (ad _);refine(ih e0 (au ab) w m0 u d C ac sc GY L ao aq u0 S2 (by have:=U.2 0 e0 ab;simpa[xb]using this) V V V hd ht aM).mono λaa q⟨W,aG,P,l3,Z,N,⟨aj,aC,w3,be,bf⟩,f3,b3⟩=>⟨da (ad _) (Or.inl rfl) f3,W,aG,?_⟩;subst aC;have F3:=fr (K.fz _) (Or.inl rfl) f3;have z3:=f3.size;have X3:=e.em.fq e.x F3;obtain⟨u1,aH,k0,k1,k2⟩:=MY hk i X3;have a2:=w3.mN;have a_:=eW aj;have bc:=w3.sz;refine⟨bd,V,_,k0,_,k1,_,k2,?_⟩;have S3:=st N F3 V (λp t=>by have:=e.fq p t;omega) (by have:=w3.dd;omega);have B:∀p∈[P.F,d],p<q.size:=λp t=>by have:=N.gr.aY;have:=N.box.lt;simp at t;omega
  intro F;have o:J q F:=J.push _ _;have aI:ar (bA [P.F,d] F) (.mk q.size 0 1 1) [W]:=ar.lit aB _ B rfl rfl E;clear_value F;refine⟨gx o k0,gx o k1,gx o k2,gl o V _,gl o V _,gl o V _,?_⟩;have z4:=o.size;refine(dL (S:=[P.F,d]) (λp t=>o.lt (B p t)) (S3.GY.le (o.cJ _)) aI bK).mono λaa m5⟨Q,l5,e5,g5,q5,D⟩=>⟨am V D,Q,e5,gx D (o.D k0),gx D (o.D k1),gx D (o.D k2),gl D V _,gl D V _,gl D V _,?_⟩;subst q5;have z5:=D.size;have S5:LS w m0 m5 d P (ac++aj) Z Q (L++[W]):=⟨(N.ext o).ext D,(X3.trans o).trans D,λp t=>by have:=e.fq p t;omega,GI.done g5 (λp t=>o.lt (B p t)) bK,λy h=>by
   rcases List.mem_append.1 h with h|h
   ·have:=e.sm y h;have:=w3.dd;omega
   ·simp at h;omega⟩
  refine(ih j (au i) w m0 m5 d P (ac++aj) Z Q (L++[W]) ao aq u1 S5 (by have:=U.2 1 j i;simpa[xb,ak]using this) V bK bK hd ht aH).mono λaa m6⟨r1,az,s6,l6,aQ,o6,⟨aK,ah,w6,aN,aO⟩,R,b6⟩=>⟨da V V R,r1,az,r1,rfl,s6,l6,aQ,o6,⟨aj++aK,by rw[ah,eH],(w3.trans w6).fG V V,aN,aO⟩,fr ((F3.then o).then D) V R,V⟩
 ·simp only[cv,aL]at ay;have h3:r=7->bu.length=3:=U.1.Wh;have aI:r=8->bu.length=1+(bU s bL).length/\0<(bU s bL).length:=U.1.all;have a6:1<=bu.length:=by rcases ay with i|i;have:=h3 i;omega;have:=aI i;omega
  obtain⟨e0,ab⟩:=ag (l:=bu) (k:=0) V;have bm:en (bu.take 1)=e0.n:=by have:=HR ab;simpa using this
  have bn:=O9 bu 1;have p0:=e0.KQ;obtain⟨u0,aM,g0,g1,g2⟩:=MY hk ab (e.x.trans K);refine⟨bd,V,_,g0,_,g1,_,g2,?_⟩;have S2:=st (e.em.ext K) (K.fz _) (Or.inl rfl) (λp t=>by have:=e.fq p t;omega) (ad _);refine(ih e0 (au ab) w m0 u d C ac sc GY L ao aq u0 S2 (by have:=U.2 0 e0 ab;simpa[xb]using this) V V V hd ht aM).mono λaa q⟨W,aG,P,l3,Z,N,⟨aj,aC,w3,be,bf⟩,f3,b3⟩=>⟨da (ad _) (Or.inl rfl) f3,W,aG,?_⟩;subst aC;have F3:=fr (K.fz _) (Or.inl rfl) f3;have z3:=f3.size;have X3:=e.em.fq e.x F3;have a2:=w3.mN;have a_:=eW aj;have bc:=w3.sz;have S3:=st N F3 V (λp t=>by have:=e.fq p t;omega) (by have:=w3.dd;omega);have aH:∀p∈P.F::d::w,p<q.size:=bG (bG (m:=G) e.fq V N.box.lt) (ad _) N.gr.aY.2;intro F;have o:J q F:=J.push _ _;have g4:GB (P.F::d::w) q F (.mk q.size 0 0 0) []:=GB.new _ q;have s4:F.size=q.size+1:=by simp[F]
  clear_value F;refine(fR (e:=[q.size]) bK (hd.le (X3.trans o).le) ht bL).mono λaa m5⟨cs,cl,ec,t,qc,D⟩=>⟨am V D,cs,ec,?_⟩;subst qc;have bk:=t.len;have z5:=D.size;refine Of (a:=bu.length) (aW▸hk.fL) a6 (λj ks M=>∃B,GB (P.F::d::w) q M ks B/\B.length+1=j/\(∀(ah:Nat)(a:Bk),B[ah]? =some a->WB s nf False (Z+ze s r bL ah) a)/\bw B+3*e0.n<=3*en (bu.take j)/\J q M/\Fz [q.size] m5 M/\(ks.F=q.size\/m5.size<=ks.F)) ⟨[],g4.ext pM.mono D,rfl,E,bK,o.trans D,Fz.aC _ _,Or.inl rfl⟩ ?_;rintro j ks M aZ μ bo hj ⟨B,T,a8,aX,a3,xM,fM,aU⟩ aN
  have zM:=xM.size;have aT:=T.aY;have oM:=N.box.ext xM;refine dit (λi=>?_) λi=>?_
  ·have ew:cK ((j:Int) -1)=((j -1:Nat):Int):=by rw[aP V V];omega
   refine⟨λaY c=>J M c/\aY=(ze s r bL (j -1):Nat),⟨λh8=>?_,λh8=>⟨J.aC _,by simp only[an]at h8;rw[Ii h8];rfl⟩⟩,?_⟩
   ·simp only[aL]at h8;have ha:=aI h8;obtain⟨y,z⟩:=ag (l:=bU s bL) (k:=j -1) V;rw[ew];refine⟨V,V,y,(dP.1 ((t.le (fM.cJ E)).u z)).2,?_⟩;refine(dk (e:=[]) E (hd.le ((X3.trans xM).le.trans (xB _))) ht y).mono λaa m6⟨R,l6,e6,h6,q6,Q⟩=>⟨am V Q,R,e6,Q,?_⟩;subst q6;rw[Ih h8 z,h6.len]
   rintro aY m6 ⟨Q,rfl⟩;obtain⟨v,he⟩:=ag (l:=bu) (k:=j) V;have X6:=(X3.trans xM).trans Q;obtain⟨aQ,hu,k0,k1,k2⟩:=MY hk he X6;have B6:=oM.ext Q;have z6:=Q.size;refine⟨V,V,_,k0,_,k1,_,k2,_,B6.cy 1,_,B6.cy 1,?_⟩;have bi:=NY ht r bL (j -1);have a5:=HR he;have a4:=O9 bu (j+1);have ba:=v.KQ;refine(kC (S:=[]) (d:=m6) E Z (ze s r bL (j -1)) V).mono λaa m7⟨s7,l7,e7,g7,q7,z⟩=>⟨am V z,s7,e7,gx z (B6.cy 1),gx z k0,gx z k1,gx z k2,gl z V _,gl z V _,gl z V _,?_⟩;have z7:=z.size;have a1:ar (bA [] m7) GY L:=(S3.GY.le ((((xM.trans Q).trans z).cJ _).trans (bt _ _))).le (xB _);refine(dL (S:=[]) E a1 (GI.done g7 E V) V).mono λaa m8⟨s8,l8,e8,g8,q8,R⟩=>⟨am V R,s8,e8,gx R ((B6.ext z).cy 1),gx R (z.D k0),gx R (z.D k1),gx R (z.D k2),gl R V _,gl R V _,gl R V _,?_⟩;subst q8;have z8:=R.size;have a7:(L++l7).length=L.length+ze s r bL (j -1):=by simp;exact q7.2
   rw[aP (b:=(Z:Int)+(ze s r bL (j -1):Nat)) V V,show(Z:Int)+(ze s r bL (j -1):Nat)=((Z+ze s r bL (j -1):Nat):Int)by omega];have az:=(Q.trans z).trans R;have bb:WX s nf (L++l7).length v:=by
    have:=U.2 j v he;rw[a7];obtain⟨j',rfl⟩:∃j',j=j'+1:=⟨j -1,V⟩;have a0:xb s r bL (j'+1)=ze s r bL j':=ae (by simpa using ak);rwa[a0]at this
   refine(AL (ih v (au he)) (ks.F::P.F::d::w) m8 _ s8 (L++l7) ao aq aQ (bG (λp t=>by have:=aH p t;omega) (ad _) V) ((GI.done g8 E V).le (bt _ _)) (λy h=>?_) bb V V (hd.le ((X6.trans z).trans R).le) ht (eJ.le ((X6.trans z).trans R).le hu)).mono λaa m9⟨s9,b9,e9,h9,q9,x9⟩=>⟨am V x9,s9,_,e9,?_⟩
   ·rcases List.mem_append.1 h with h|h
    ·have:=S3.sm y h;omega
    ·have:=q7.1 y h;omega
   intro bz;have z9:=x9.size;have bj:=oG B;refine GB.jK (c:=b9) ((T.ext pM.mono az).ext pM.mono x9) (((xM.trans az).trans x9).fz []) h9 V λaO c g' f' z' q'=>⟨λa g=>by
    have aR:a<q.size:=by simp at g;omega
    rw[f'.ext.same a aR,(((xM.trans az).trans x9).aM _).same a aR],aN V _ _ ⟨_,g',by rw[a9,List.length_singleton];omega,λah a hi=>?_,?_,f'.ext,(fM.then (az.trans x9)).pZ (Y:=[ks.F]) ⟨z'.1,λa g hn=>q' a g (by simpa using hn)⟩ (λy h=>by simp at h⊢;omega),by have:=fM.size;omega⟩⟩
   ·rcases aV ah B.length with aK|aK
    ·rw[aw aK]at hi;exact aX ah a hi
    ·rw[aF aK]at hi;have:ah -B.length=0:=by have:=ax hi;simp at this;omega
     rw[this]at hi;simp at hi;subst hi;have:ah=j -1:=V;subst this;exact q9.1
   ·rw[nj,sE,xe];have:=q9.2;omega
  ·have R:j=bu.length:=V;subst R;rw[fZ]at a3;intro m6;have Q:J M m6:=J.push _ _;have aY:ar (bA (P.F::d::w) m6) (.mk M.size 0 1 1) [W]:=ar.lit aB _ (λp t=>by have:=aH p t;omega) rfl rfl E;have z6:=Q.size;have aU:mo (bA (P.F::d::w) m6) ks B:=mo.le (Q.cJ _) (T.done pM.mono aH bd (by have:=oG B;omega));clear_value m6;have X6:=xM.trans Q;refine(Jn (x:=⟨r,bL,0,[W],B⟩) (N.ext X6) (X3.trans X6).size aY aU bK V).mono λaa m7⟨aR,s7,l7,a0,o7,⟨az,aK⟩,z,b7⟩=>⟨da V V z,Z,aR,Z,rfl,s7,l7,a0,o7,⟨aj++[⟨r,bL,0,[W],B⟩],by rw[az,eH],?_,V,V⟩,fr (F3.then X6) V z,V⟩;have ws:WS s nf False Z ⟨r,bL,0,[W],B⟩:=⟨⟨Or.inl (by show 0<=r/\r<=11;omega),bK,λ_=>rfl,⟨by show(0:Int)<=0;omega,by show(0:Int)<=_;omega⟩,λi=>by show B.length=2;have:=h3 i;omega,λi=>by show B.length=(bU s bL).length/\0<B.length;have:=aI i;omega,λi=>by simp only at i;omega⟩,aX⟩;subst aK;exact(w3.trans (LW.kj ws)).fG (by rw[cq.kN];simp only[bg,eF];omega) V
 ·simp only[bQ,an]at ay;simp only[an]at av ak;have ho:=U.1.o;intro q;have x3:J u q:=J.push _ _;have g3:GI [] u q (.mk u.size 0 0 0) []:=GI.nil [] u;have aU:q.size=u.size+1:=by simp[q]
  clear_value q;have N:Mw (u.size::w) m0 q d C ac sc:=(e.em.ext K).re (x3.fz []) E λa g=>(List.mem_cons.1 g).elim (λi=>Or.inr V) Or.inl;refine dC (n:=bu.length) (aW▸hk.fL) (λj A M=>∃f H t p,Mw (A.F::w) m0 M d f (ac++t) H/\LW s nf sc t (3*en (bu.take j) -j) (en (bu.take j)) H/\GI [] u M A p/\p.length=j/\(∀y∈p,0<=y/\y<(H:Int))/\Fz [d,C.F] G M/\(f.F=C.F\/u.size<=f.F)/\u.size<=M.size) ⟨C,sc,[],[],by simpa using N,(LW.aC s nf sc).fG (dH _) (dH _),g3,rfl,E,(K.trans x3).fz _,Or.inl rfl,V⟩ ?_;rintro j A M aZ μ hj ⟨f,H,t,p,al,z,T,a8,ab,fM,g,zM⟩ aN
  have P:=e.em.fq e.x fM;have aj:=z.mN;have aK:=z.dd;have aT:=T.aY;have D:A.F≠d:=T.ne al.box bd;have IW:A.F≠f.F:=T.IW al.gr bd;have aR:=eW t;have aC:=z.sz;have a4:=O9 bu j;refine dit (λi=>?_) λi=>?_
  ·obtain⟨v,he⟩:=ag (l:=bu) (k:=j) V;obtain⟨aQ,hu,k0,k1,k2⟩:=MY hk he P;have a5:=HR he;have aM:=O9 bu (j+1);have ba:=v.KQ;have az:=Oa (bu.take j);rw[fY,iR V]at az;refine⟨V,V,_,k0,_,k1,_,k2,?_⟩;have SM:=st al fM V (bG (m:=G) e.fq V aT.2) V;refine(ih v (au he) (A.F::w) m0 M d f (ac++t) H GY L ao aq aQ SM (by have:=U.2 j v he;rwa[Wl V V]at this) V V bK hd ht hu).mono λaa F⟨aO,er,s4,l4,aI,o4,⟨aH,ah,w4,W,r1⟩,B,b4⟩=>⟨da zM g B,aO,er,?_⟩;subst ah;have z4:=B.size;have F4:=fr fM g B;intro m5;have Z:GI [] u F A p:=GI.any (c:=[d,f.F]) ((GI.any (g:=[d,f.F]) T).KP rS.mono B (λ_ i=>i) (by simp;exact⟨D,IW⟩));have aG:A.F≠s4.F:=Z.IW o4.gr bd;refine GI.jK Z (X:=List.range u.size) ⟨V,λa g hn=>absurd (List.mem_range.2 g) hn⟩ E V λa' c g' f' z' q'=>?_;have Q:Fz [A.F] F c:=⟨z'.1,λa g hn=>q' a g (by simpa using hn)⟩;refine⟨λa g=>?_,aN V _ _ ⟨s4,aI,t++aH,p++[aO],?_,(z.trans w4).fG V V,g',bK,λy h=>?_,F4.pZ Q λy h=>by simp at h⊢;omega,V,V⟩⟩
   ·simp at g;rw[q' a V V,(J.push F _).same a V]
   ·rw[<-eH];exact o4.re Q (by simp;exact⟨D,aG⟩) λa g=>(List.mem_cons.1 g).elim (λv=>by subst v;rcases z'.2 with v|v;exact Or.inl (by simp[v]);exact Or.inr v) λi=>Or.inl (ai _ i)
   ·have:=w4.dd;rcases List.mem_append.1 h with h|h
    ·have:=ab y h;omega
    ·simp at h;omega
  ·have R:j=bu.length:=V;subst R;rw[fZ]at z aj aC;have az:=Oa bu;intro F;have o:J M F:=J.push _ _;have Z:A.F∉f.F::d::w:=by
    simp only[aS,tA];exact⟨IW,D,λi=>by have:=e.fq _ i;omega⟩
   have ha:ar (bA (f.F::d::w) M) A p:=(GI.any (g:=f.F::d::w) T).mq rS.mono Z bd V;have oS:Mw w m0 M d f (ac++t) H:=al.re (Fz.aC [] _) E λa g=>Or.inl (ai _ g);have z4:=o.size;refine(Jn (x:=⟨r,bL,0,p,[]⟩) (oS.ext o) (P.trans o).size (ha.le (o.cJ _)) (kY _ _ _ _ _ _) bK V).mono λaa m5⟨W,s5,l5,ah,o5,⟨B,Q⟩,v,b5⟩=>⟨da V g v,H,W,H,rfl,s5,l5,ah,o5,⟨t++[⟨r,bL,0,p,[]⟩],by rw[B,eH],?_,V,V⟩,fr (fM.then o) g v,V⟩;have ws:WS s nf False H ⟨r,bL,0,p,[]⟩:=⟨⟨Or.inl (by show 0<=r/\r<=11;omega),ab,λi=>by simp only at i;omega,⟨by show(0:Int)<=0;omega,by show(0:Int)<=_;omega⟩,λi=>by simp only at i;omega,λi=>by simp only at i;omega,U.1.call⟩,E⟩;subst Q;exact(z.trans (LW.kj ws)).fG (by rw[cq.kN];simp only[xe];omega) V
def QV{a:List bq}{c:Nat}:∀e:Ex,RE a c e:=Ex.ind λ_ _ _ b=>QU b
end
def FG{v:List Nat}{z:I}(hS:∀d∈v,d<z.size){aa am:O}{U:List bq}{W:List (cY×Ex)}(hd:bR z aa U)(hp:Ua z am W)(ae:Ud U W):sW 234 [.agg #[O.v aa,O.v am]] z v U λrs=>vS U rs False 95:=by
 apply yD;simp -zeta only[aE,aD];have ht:=qP ae.gp.ds;intro h a2;obtain⟨T,hl⟩:=di (a:=h) (c:=a2) rfl rfl;have s1:h.size=z.size+1:=by simp[h]
 clear_value a2;have aQ:=hp.len;have a1:W.length<=4:=by have:=ae.gp.mN;simpa using this
 have a0:0<W.length:=by have:=ae.gp.gR;simpa using this
 refine(eT (b:=h.size::v) (bG hS T.size (hl _ E)) (hd.le T.le) ht).mono λ_ ax⟨dd,e,aM,x3⟩=>?_;subst e;refine⟨x3.da hl,_,rfl,?_⟩;intro p aV aH;have u2:=T.trans x3;obtain⟨x5,B0,g0,s3,s5⟩:=jO (b:=p.size::h.size::v) gH.mono (d:=ax) (a:=p) (c:=aV) (h:=aH) rfl rfl rfl;clear_value aH;have ak:∀d∈[h.size,z.size],d<ax.size:=λd g=>x3.lt (hl d g);have aF:∀d∈h.size::v,d<ax.size:=λd g=>x3.lt (bG hS T.size (hl _ E) d g);refine jI (R:=λb c K=>∃aa Z rs,Value.agg #[O.v b,O.v c]=.agg #[O.v aa,O.v Z]/\dJ (bA v K) aa Z U rs/\vS U rs False 95/\J z K) (t:=W.length) (f:=z) (b:=v) gH.mono bd bd hS ⟨V,ak _ E⟩ u2 s3 aM aQ V x5 B0 g0 (λ_ q=>q.params.length<=3/\q.cW.length<=3/\WB U W.length False q.params.length q.body/\q.body.w<=95) (λb u l' m' h1 h2 c f j=>⟨b,u,l',rfl,⟨h1,h2,ht,V⟩,⟨V,λq hq=>by obtain⟨t,s⟩:=List.mem_iff_getElem?.1 hq;rw[c];exact f t q s⟩,j⟩) λaf K A l' aK μ aO aY xM aB an aW=>?_
 obtain⟨q,hq⟩:=ag (l:=W) (k:=af) aO;obtain⟨aU,aZ⟩:=ae.xl q (au hq);have aR:q.1.params.length<=3:=(uB _ (ae.gp.df q.1 (List.mem_map.2 ⟨q,au hq,rfl⟩))).1;have v6:=u2.trans xM;obtain⟨cs,⟨aq,aJ,rfl,ha,hk⟩,hr⟩:=hp.je af q hq;have aG:=ha.len;refine⟨V,V,_,v6.D (hr 0 _ rfl),_,v6.D (hr 1 _ rfl),_,v6.D (hr 2 _ rfl),_,v6.D (hr 3 _ rfl),_,v6.D (hr 4 _ rfl),?_⟩;intro m7 s;have hy:=aB.aY;have aX:=an.lt;have zM:=xM.size;obtain⟨x8,-,s8⟩:=jz (M:=K) (d:=m7) (c:=s) rfl rfl rfl;clear_value s;have ab:∀d∈[K.size,h.size,z.size],d<s.size:=λd g=>by
  rcases List.mem_cons.1 g with e|e
  ·omega
  ·have:=ak d e;omega
 have w8:=v6.trans x8;have ah:∀{u:I},s.size<=u.size->∀d∈A.F::p.size::h.size::v,d<u.size:=λaC d g=>by
  simp only[aS]at g;rcases g with e|e|e|e
  ·omega
  ·omega
  ·have:=aF d (by simp[e]);omega
  ·have:=aF d (by simp[e]);omega
 have hm:=u2.size;have aI:∀{u:I},J s u->∀{ap:Value->I->Prop},(∀N L f,ar f N L->L.length=q.1.params.length->(∀y∈L,0<=y/\y<(q.1.params.length:Int))->J u f->ap (O.v N) f)->aN bY 189 [vi 0,vi (aq.len:Int)] u ap:=λ{u} x ap hk'=>by
  rw[aG];exact(kC (S:=[]) (d:=u) E 0 q.1.params.length V).mono λaz f⟨N,L,e,gn,qn,xn⟩=>by
   subst e;exact hk' N L f ((GI.done gn E V).le (bt _ _)) qn.2 (λy hy=>by have:=qn.1 y hy;omega) xn
 have fq:∀{u:I}{aA:List Nat}{N:O}{L:List Int},(∀d∈aA,d<u.size)->J s u->ar u N L->L.length=q.1.params.length->(∀y∈L,0<=y/\y<(q.1.params.length:Int))->lX 247 [.agg #[O.v aa,O.v am],.agg #[vi q.2.op,vi q.2.bL,O.v aJ],O.v N,vi (aq.len:Int)] u aA λP=>WB U W.length False q.1.params.length P/\P.w<=3*q.2.n:=λaL x hs h1 h2=>by
  rw[aG];exact AL (QV q.2) _ _ q.1.params.length _ _ aa am aJ aL hs h2 (by rw[h1];exact aU) V V (hd.le (w8.trans x).le) ht (eJ.le (w8.trans x).le hk)
 have G:∀{y f:I}{P ac:Nat},s.size<=y.size->J y f->P<s.size->D f P ac=D y P ac:=λaC x hb=>gl x V _;have j:K.size<s.size:=V;have Q:z.size<s.size:=ab _ E;refine⟨λP u=>∃t F,P.2=0/\s.size<=P.1/\cB u P.1 cO [.s t,.i F.aR]/\dN (bA (A.F::p.size::h.size::v) u) t F.aA/\(WB U W.length False q.1.params.length F/\F.w<=3*q.2.n)/\J s u,⟨?_,?_⟩,?_⟩
 ·refine aI (J.aC s) λN L H hs Y al b=>⟨b.da ab,N,rfl,G (ad _) b j,G (ad _) b j,G (ad _) b j,G (ad _) b Q,G (ad _) b Q,?_,?_⟩;all_goals have w:=b.size
  ·refine(fq (aA:=A.F::p.size::h.size::v) (ah w) b hs Y al).mono λaz C⟨t,F,e,ay,aP,c⟩=>⟨c.da λd g=>b.lt (ab d g),t,_,e,?_⟩;have vP:=c.size;intro X;have B:J C X:=J.push _ _;refine⟨G V B j,G V B j,G V B j,G V B Q,G V B Q,?_⟩;intro aw;obtain⟨ao,av,aT⟩:=jz (M:=C) (d:=X) (c:=aw) rfl rfl rfl;exact⟨t,F,rfl,by show s.size<=C.size;omega,av,dN.le (ao.cJ _) ay,aP,(b.trans c).trans ao⟩
  ·intro C;have c:J H C:=J.push _ _;have ao:cB C H.size cO [.s .nil,.i 0]:=cB.push _ _ _;have vP:=c.size;clear_value C;refine⟨G w c j,G w c j,G w c j,G w c Q,G w c Q,?_⟩;refine(fq (aA:=H.size::A.F::p.size::h.size::v) (bG (ah w) vP ao.lt) (b.trans c) (hs.ext c) Y al).mono λaz X⟨t,F,e,av,ay,B⟩=>⟨B.da λd g=>?_,t,_,e,?_⟩
   ·rcases List.mem_cons.1 g with e|e
    ·rw[e];exact ao.lt
    ·have:=ab d e;omega
   intro aw;exact⟨t,F,rfl,w,cB.aj (m:=X) (o:=0) (r:=[.s t,.i F.aR]) (ao.ext B),dN.le (bS E λd g=>ai _ g) av,ay,((b.trans c).trans B).aj w _ _⟩
 ·intro H;have b:J s H:=J.push _ _;have B9:cB H s.size cO [.s .nil,.i 0]:=cB.push _ _ _;have w:=b.size;clear_value H;refine⟨G (ad _) b j,G (ad _) b j,G (ad _) b j,G (ad _) b Q,G (ad _) b Q,?_⟩;have sm:∀{y f:I},H.size<=y.size->J y f->dV [s.size,K.size,h.size,z.size] y f:=λaC x=>x.da λd g=>by
   rcases List.mem_cons.1 g with e|e
   ·have:=B9.lt;omega
   ·have:=ab d e;omega
  refine aI b λN L C hs Y al c=>⟨sm (ad _) c,N,rfl,G w c j,G w c j,G w c j,G w c Q,G w c Q,?_⟩;have vP:=c.size;refine(fq (aA:=s.size::A.F::p.size::h.size::v) (bG (ah (u:=C) V) (ad _) (by have:=B9.lt;omega)) (b.trans c) hs Y al).mono λaz X⟨t,F,e,av,ay,B⟩=>⟨sm vP B,t,_,e,?_⟩;intro aw;exact⟨t,F,rfl,ad _,cB.aj (m:=X) (o:=0) (r:=[.s t,.i F.aR]) ((B9.ext c).ext B),dN.le (bS E λd g=>ai _ g) av,ay,((b.trans c).trans B).aj (ad _) _ _⟩
 rintro⟨kb,ac⟩ y ⟨t,F,ho,aP,BB,aT,aw,x1⟩;simp only at ho aP BB;subst ho;have bl:=BB.lt;have z1:=x1.size;have X1:=x8.trans x1;refine⟨A,(an.ext X1).cy 1,_,BB.cy 0,_,BB.cy 1,?_⟩;have al:p.size<s.size:=V;have il:∀{f:I}{X b':O},J y f->ar (bA (A.F::p.size::h.size::v) f) X q.1.params->ar (bA (A.F::p.size::h.size::v) f) b' []->D (f.push (.cells (br [.s X,.s b',.i q.1.aR,.s t,.i F.aR]) iY)) p.size 1=D f p.size 1/\
  iS (f.push (.cells (br [.s X,.s b',.i q.1.aR,.s t,.i F.aR]) iY)) iY [.s .nil,.s .nil,.i 0,.s .nil,.i 0] 88 A (O.mk f.size 0 1 1) λZ B=>dV [K.size,h.size,z.size] (f.push (.cells (br [.s X,.s b',.i q.1.aR,.s t,.i F.aR]) iY)) B/\fm B p.size 1 1/\(dV [K.size,h.size,z.size] B (aj B p.size 1 [.s Z])/\(aK (cK ((af:Int)+1)) (aj B p.size 1 [.s Z])/\μ (cK ((af:Int)+1)) (aj B p.size 1 [.s Z])<μ af K)):=λT h1 h2=>
  Gr.box (g:=[.s .nil,.s .nil,.i 0,.s .nil,.i 0]) (j:=1) (z:=88) (o:=[.s dd,.s A]) (y:=⟨q.1.params,[],q.1.aR,F⟩) gH.mono bd ((aB.ext gH.mono X1).ext gH.mono T) (((xM.trans X1).trans T).fz []) ⟨_,_,t,rfl,h1,h2,dN.le (T.cJ _) aT⟩ V ((an.ext X1).ext T) E bd ⟨V,E⟩ (λd g=>⟨by have:=ab d g;have:=T.size;omega,by
   rcases List.mem_cons.1 g with e|e
   ·omega
   ·have:=ak d e;omega,by
   rcases List.mem_cons.1 g with e|e
   ·omega
   ·have:=ak d e;omega⟩) λZ m' g' Y f' z' q'=>aW Z m' ⟨q.1.params,[],q.1.aR,F⟩ g' Y f'.ext ⟨aR,E,aw.1,by have:=aw.2;show F.w<=95;omega⟩
 have av:∀{f:I},J y f->ar f aq q.1.params:=λx=>ha.ext ((v6.trans X1).trans x);have ao:∀{f:I},J y f->∀d∈A.F::p.size::h.size::v,d<f.size:=λx=>ah (by have:=x.size;omega);have Y:∀{f B:I}{ac:Nat},J y f->J f B->D B kb ac=D f kb ac:=λx x'=>gl x' (by have:=x.size;omega) _;have ay:∀{f B:I},J y f->J f B->dV [K.size,h.size,z.size] f B:=λx x'=>x'.da λd g=>by have:=ab d g;have:=x.size;omega
 refine⟨?_,?_⟩
 ·refine(bE (A.F::p.size::h.size::v) (av (J.aC _)) V).mono λ_ H⟨X,la,e,ga,ea,b⟩=>⟨ay (J.aC _) b,X,e,Y (J.aC _) b,Y (J.aC _) b,G z1 b j,G z1 b al,?_⟩;subst ea;have w:=b.size;intro C;have c:J H C:=J.push _ _;refine⟨Y b c,Y b c,G V c j,G V c j,G V c al,?_⟩;exact il (b.trans c) ((GI.done ga (ao (J.aC _)) V).le (c.cJ _)) (kY _ _ _ _ _ _)
 ·intro H;have b:J y H:=J.push _ _;have w:=b.size;refine⟨Y (J.aC _) b,Y (J.aC _) b,G z1 b j,G z1 b j,G z1 b al,?_⟩;refine(bE (A.F::p.size::h.size::v) (av b) V).mono λ_ C⟨X,la,e,ga,ea,c⟩=>⟨ay b c,X,e,Y b c,Y b c,G V c j,G V c al,?_⟩;subst ea;exact il (b.trans c) (GI.done ga (ao b) V) (kY _ _ _ _ _ _)
section
variable{L:List Nat}{K:Int->I->Prop}{v:Int}
def Be(P:Nat->Prop)(l b:List Instr)(n:Nat):Prop:=∃a,b=l++a/\(∀(i:Nat)(x:Instr),a[i]? =some x->MG (l.length+i) x\/P (l.length+i)/\x.op=22)/\NS a/\a.length<=n
section
variable{P c:Nat->Prop}{l a e:List Instr}{n b k:Nat}{x:Instr}
def lz.w(h:lz l a n):Be P l a n:=let⟨g,b,c,d,e⟩:=h;⟨g,b,λi x f=>Or.inl (c i x f),d,e⟩
def Be.Vs(h:Be P l a n)(f:∀q,¬P q)(m:n<=b):lz l a b:=let⟨j,c,d,e,k⟩:=h;⟨j,c,λi x g=>(d i x g).resolve_right λh=>f _ h.1,e,V⟩
def Be.imp(h:Be P l a n)(g:∀q,P q->c q)(o:n<=b):Be c l a b:=let⟨k,d,e,f,m⟩:=h;⟨k,d,λj x i=>(e j x i).imp id λh=>⟨g _ h.1,h.2⟩,f,V⟩
def Be.len(h:Be P l a n):l.length<=a.length/\a.length<=l.length+n:=by obtain⟨b,rfl,-,-,d⟩:=h;simp;omega
def Be.then(o:Be P l a n)(p:lz a e b):Be P l e (n+b):=by
 obtain⟨d,rfl,g,j,s⟩:=o;obtain⟨r,rfl,h,k,t⟩:=p;refine⟨d++r,E,λi x c=>?_,λx q=>?_,bK⟩
 ·rcases aV i d.length with f|f
  ·rw[aw f]at c;exact g i x c
  ·rw[aF f]at c;have:=h _ x c;have m:(l++d).length+(i -d.length)=l.length+i:=bK;rw[m]at this;exact Or.inl this
 ·exact(List.mem_append.1 q).elim (j x) (k x)
def Be.J7(h:Be P l a n)(j:P a.length):Be P l (a++[⟨22,0,0,0,[],[]⟩]) (n+1):=by
 obtain⟨c,rfl,e,f,m⟩:=h;refine⟨c++[⟨22,0,0,0,[],[]⟩],E,λi x b=>?_,λx k=>?_,bK⟩
 ·rcases aV i c.length with d|d
  ·rw[aw d]at b;exact e i x b
  ·rw[aF d]at b;have:i -c.length=0:=by have:=ax b;simp at this;omega
   rw[this]at b;simp at b;subst b;have g:i=c.length:=V;subst g;exact Or.inr ⟨by simpa using j,rfl⟩
 ·rcases List.mem_append.1 k with h|h
  ·exact f x h
  ·simp at h;subst h;simp
def Be.set(h:Be P l a n)(g:l.length<=k)(m:MG k x)(j:x.args.length<=1000000000000/\x.dR.length<=1000000000000):Be (λq=>P q/\q≠k) l (a.set k x) n:=by
 obtain⟨p,rfl,c,e,d⟩:=h;refine⟨p.set (k -l.length) x,by rw[UT _ _ g],λi y b=>?_,λy o=>?_,bK⟩
 ·rw[iI]at b;split at b
  ·rename_i q;have f:l.length+i=k:=V;split at b
   ·simp at b;subst b;rw[f];exact Or.inl m
   ·simp at b
  ·exact(c i y b).imp id λh=>⟨⟨h.1,V⟩,h.2⟩
 ·rcases cx o with h|h
  ·exact e y h
  ·rw[h];exact j
def Be.WW(h:Be P l a n)(d:l.length<=k)(c:a[k]? =some x):Be (λq=>P q/\q≠k) l (a.set k ⟨x.op,0,a.length,0,x.args,x.dR⟩) n:=by
 have m:=ax c;have g:=h;obtain⟨i,rfl,e,f,j⟩:=h;rw[aF d]at c;have b:=e _ x c;rw[show l.length+(k -l.length)=k by omega]at b;refine g.set d ⟨λ_=>by show(k:Int)<((l++i).length:Nat);omega,λh=>?_⟩ (f x (au c));simp only at h;rcases b with b|b
 ·exact b.arg h
 ·omega
end
section
variable{S:List Nat}{e m a:I}{b:Nat}{s c:O}{l d:List Instr}
def CG.re{S' Y:List Nat}(h:CG S e m b s l)(i:Fz Y m a)(f:∀c∈Y,c∈S/\c≠b/\c≠s.F)(j:∀c∈S',c∈S\/m.size<=c):CG S' e a b s l:=
 ⟨h.box.congr (i.same _ h.box.lt λg=>(f _ g).2.1 rfl),h.gr.re dt.mono i (λc d=>ai _ (f c d).1) (λg=>(f _ g).2.2 rfl) λc d=>(List.mem_cons.1 d).elim (λg=>Or.inl (by rw[g];exact ba)) λd=>(j c d).imp (ai _) id,h.up⟩
def E8(k:CG S e m b s l)(z:J e m)(w:∀h∈S,h<m.size)(n:l.length<=1000000000000)(u:∀f∈L,f<m.size/\f≠b/\f≠s.F){o i bL:Int}(y:∀c d a,CG S e a b c d->d=l++[⟨o,i,bL,0,[v],[]⟩]->Fz [b,s.F] m a->(c.F=s.F\/m.size<=c.F)->K (l.length:Nat) a):
 aN bY 191 [vp b 0,.agg #[vi o,vi i,vi bL,vi 0,O.v (.mk m.size 0 1 1),O.v .nil]] (m.push (.cells (br [.i v]) aB)) λr a=>dV L (m.push (.cells (br [.i v]) aB)) a/\∃q:Int,r=vi q/\K q a:=by
 have g:=J.push m (.cells (br [.i v]) aB)
 have D:=k.gr.aY;have C:=k.box.lt
 have A:ar (bA (s.F::b::S) (m.push (.cells (br [.i v]) aB))) (.mk m.size 0 1 1) [v]:=ar.lit aB _ (by
  intro h p;simp only[aS]at p;rcases p with j|j|j
  ·omega
  ·omega
  ·exact w h j) rfl rfl E
 refine(oR (x:=⟨o,i,bL,0,[v],[]⟩) (k.ext g) (z.trans g).size A (rc _) n).mono λr a⟨p,c,d,t,j,h,B⟩=>⟨MD.da h λf n=>?_,_,p,?_⟩
 ·have:=u f n;exact⟨g.lt this.1,this.2⟩
 exact y c d a t j.symm (((g.fz [b,s.F])).trans h) (by have:=g.size;omega)
def QR(j:CG S e m b s l)(t:J e m)(p:l.length<=1000000000000)(o:∀f∈L,f<m.size/\f≠b/\f≠s.F)(q:∀c d a,CG S e a b c d->d=l++[⟨22,0,0,0,[],[]⟩]->Fz [b,s.F] m a->(c.F=s.F\/m.size<=c.F)->K (l.length:Nat) a):
 aN bY 191 [vp b 0,.agg #[vi 22,vi 0,vi 0,vi 0,O.v .nil,O.v .nil]] m λr a=>dV L m a/\∃n:Int,r=vi n/\K n a:=
 (oR (x:=⟨22,0,0,0,[],[]⟩) j t.size (rc _) (rc _) p).mono λr a⟨i,c,d,k,h,f,g⟩=>⟨MD.da f o,_,i,q c d a k h.symm f g⟩
def Qn{K:I->Prop}{k:Nat}{x:Instr}(i:CG S e m b s l)(q:J e m)(p:l[k]? =some x)(n:∀f∈L,f<m.size/\f≠b/\f≠s.F)(o:∀c d a,CG S e a b c d->d=l.set k ⟨x.op,0,l.length,0,x.args,x.dR⟩->Fz [b,s.F] m a->(c.F=s.F\/m.size<=c.F)->K a):
 aN bY 232 [vp b 0,vi k] m λ_ a=>dV L m a/\K a:=
 (OG i q.size p).mono λr a⟨c,d,j,h,f,g⟩=>⟨MD.da f n,o c d a j h.symm f g⟩
end
def Ow{l:List Instr}{d:Int}:lz l (l++[⟨18,d,0,0,[v],[]⟩]) 1:=lz.kj ⟨λh=>by simp at h,λ_=>E⟩ E
end
end Go.Proofs.YtgnjacfobdjeeaaGreat
