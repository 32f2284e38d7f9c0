/- Part of a proof, joined by a program. -/
import Derived.Test.YtgnjacfobdjeeaaGreatW13
set_option linter.unusedVariables false
set_option linter.unusedSimpArgs false
set_option linter.defProp false
set_option linter.constructorNameAsVariable false
set_option maxHeartbeats 8000000
set_option maxRecDepth 100000
namespace Go.Proofs.YtgnjacfobdjeeaaGreat
open Go.Vc
section
section
variable{c:List Nat}{b P:Nat}{h d p:O}{f:List bB}{g:List dw}{m:I}
def WX.m1{d c:Nat}{x y z:Ex}(j:f∈rD)(k:WX f d c x)(l:WX f d c y)(m:WX f d (c+2) z):WX f d c (.mk 8 1 [x,y,z]):=by
 obtain⟨e,-,g,h,-⟩:=Mo f j;refine .mt k (by rw[e];rfl) D λi o n b a=>?_;rw[e]at a;rcases i with _|_|i
 ·simp at b a;subst b a;rw[g];exact l
 ·simp at b a;subst b a;rw[h];exact m
 ·simp at b
def Jo(hS:∀s∈c,s<m.size)(K:b∈c)(s:GC b h P d p f g m)(hP:P+200+2*Cg 18<=10000000000000000){G:Nat}{r:dw}(hq:g[G]? =some r){al:Int}(ha:0<=al/\al<(r.params.length:Int)):
 aO cw 280 [vp b 0,.agg #[O.v d,O.v p],vi G,vi al] m (XP c b h m (P+200+2*Cg 18) (WX f g.length r.params.length)):=by
 apply Co (b,0)
 simp -zeta only[aD,aC]
 intro j ab
 obtain⟨x2,hl⟩:=dG (a:=j) (c:=ab) rfl rfl
 have s1:j.size=m.size+1:=by simp[j]
 have s2:ab.size=m.size+2:=by simp[ab,s1]
 have hr:=s.rd.lt
 clear_value ab
 have aw:∀{i:I},ab.size<=i.size->∀s∈j.size::c,s<i.size:=λo=>bR hS V V
 have r2:Rs b h m P ab:=⟨x2.fz _,s.rd.ext x2⟩
 have L1:∀{i:I},ab.size<=i.size->Lw b [j.size,m.size] i:=λo=>lw hr bJ
 obtain⟨ps,a0,e0,e1⟩:=s.hp.E hq
 have bc:=ax hq
 have bi:=s.hp.len
 have aP:=wE _ (s.gp.dt r (ar hq))
 have h3:r.params.length<=3:=aP.1
 have PS:∀{i:I},Fz [b] m i->IR b i ps r.params:=λN=>a0.le (fh N)
 have E1:∀{i:I},Fz [b] m i->af i p.F (p.off+G*5+1)=some (vi r.aV):=λN=>(eg.1 (fh N _ _ _ e1)).2
 have bj:=a0.len
 have a2:=s.gp.ty (t:=0) bh bh
 have bg:=PH 18
 refine⟨V,V,ps,(eg.1 (fh r2.f _ _ _ e0)).2,?_⟩
 intro m3
 have x3:J ab m3:=J.push _ _
 have aR:ap (bO [b] m3) (.mk ab.size 0 2 2) [0,1]:=ap.lit aE _ bJ rfl rfl D
 clear_value m3
 have r3:=r2.ext x3
 have z3:=x3.size
 refine(eG (S:=[b]) bJ (PS r3.f) aR bJ).mono λ_ m4⟨aU,wl,w,gw,qw,x4⟩=>⟨(L1 z3).dm (x4.fz _),aU,w,?_⟩
 subst qw
 have a8:IR b m4 aU (r.params++[0,1]):=GI.done gw bJ bJ
 have r4:=r3.ext x4
 have z4:=x4.size
 intro m5
 have x5:J m4 m5:=J.push _ _
 have g5:GE (j.size::c) m4 m5 (.mk m4.size 0 0 0) []:=Gr.new _ (ad _) _ _ _
 clear_value m5
 refine dU (n:=r.params.length) V (λR y i=>∃L,GE (j.size::c) m4 i y L/\L.length=R/\(∀w∈L,WX f g.length (r.params.length+2) w)/\Rd b h (P+R) i/\Fz [b] m4 i) ⟨[],g5,rfl,D,(r4.r.ext x5).mono V,x5.fz _⟩ ?_
 rintro R y i a6 μ hj ⟨L,aN,bf,hw,rM,fM⟩ a_
 have FM:=r4.f.trans fM
 have zM:=fM.size
 refine⟨λo=>?_,λ_=>?_⟩
 ·simp only[au]at o
  obtain⟨aW,Q⟩:=ag (l:=r.params) (k:=R) V
  have ic:∀{N:Nat}{W:List Value}{z:I}{U:Nat},aO cw N W z (XP (y.F::j.size::c) b h z U (WX f g.length (r.params.length+2)))->U<=P+(R+1)->Rd b h (P+(R+1)) z->Fz [b] i z->aO cw N W z λac B=>eE [j.size,m.size] z B/\∃H E:Int,∃r2:O,ac=.agg #[vi H,vi E,O.v r2]/\
   jE (B.push (.cells (bG [.i H,.i E,.s r2]) bK)) bK [.i 0,.i 0,.s .nil] 40 y (O.mk B.size 0 1 1) λY A=>eE [j.size,m.size] (B.push (.cells (bG [.i H,.i E,.s r2]) bK)) A/\a6 Y (cW ((R:Int)+1)) A/\μ Y (cW ((R:Int)+1)) A<μ y R i:=λhc hQ E f1=>
   XP.kv hc (aN.dW Bd.mono f1 (by simp;exact⟨Or.inr K,V⟩)) (fM.trans f1) (L1 V) r4.r (by simp[K]) V λw Y A u g' r' f' _ _=>
    a_ V _ _ ⟨_,g',bJ,λq C=>by rcases List.mem_append.1 C with o|o;exact hw q o;simp at o;subst o;exact u,r'.mono hQ,f'⟩
  refine⟨λ_=>?_,λ_=>⟨V,V,aW,(eg.1 ((PS FM).E Q)).2,λ_=>?_,λ_=>?_⟩⟩
  ·rw[aQ (b:=(ps.len:Int)+1) V V]
   exact ic (((me _ _ _).x rM).mono λ_ _ o=>o.mono (λw u=>u▸.Tj ⟨V,V⟩) (ad _)) V (rM.mono V) (Fz.aB _ _)
  ·refine(cB rM V 2).mono λ_ m6⟨aj,en,_,_,F,C⟩=>⟨(L1 V).dm C,aj,en,λ_=>?_,λ_=>?_⟩
   ·have z6:=C.size
    have aa:∀{z:I},m6.size<=z.size->∀s∈y.F::j.size::c,s<z.size:=λo=>bR (aw (i:=m6) V) o (by have:=aN.bg.2;omega)
    refine wB (y.F::j.size::c) f g.length (a:=r.params.length+2) (L1 V) V λs7 m7 h7 T=>?_
    have z7:=T.size
    refine wB (y.F::j.size::c) f g.length (a:=r.params.length+2) (L1 V) V λs8 q h8 x8=>?_
    have z8:=x8.size
    intro m9
    have x9:J q m9:=J.push _ _
    have Z:fw (bO (y.F::j.size::c) m9) (.mk q.size 0 2 2) [.mk 12 R [],.mk 12 ps.len []]:=oN (S:=y.F::j.size::c) (M:=q) [(.mk 12 R [],s7),(.mk 12 ps.len [],s8)] D (aa V) (by simp;exact⟨(h7.ext x8).sl,h8.sl⟩) rfl rfl
    have X:=((F.ext T).ext x8).ext x9
    exact ic ((mS X Z 1 0).mono λ_ _ o=>o.mono (λw u=>u▸.eR bh (λo=>V) bh (λo=>V) (by simp;exact⟨h7.wx,h8.wx⟩)) (ad _)) V X (((C.then T).then x8).then x9)
   ·exact ic (((me _ _ _).x F).mono λ_ _ o=>o.mono (λw u=>u▸.Tj ⟨V,V⟩) (ad _)) V F C
  ·exact ic (((me _ _ _).x rM).mono λ_ _ o=>o.mono (λw u=>u▸.Tj ⟨V,V⟩) (ad _)) V (rM.mono V) (Fz.aB _ _)
 refine jq (aN.done Bd.mono (aw (i:=m4) V) bh V) (.eR (a:=r.params.length+2) (b:=f) (c:=g.length) bh (λo=>V) bh (λ_=>⟨V,V⟩) hw) (L1 V) λs6 m6 h6 x6=>?_
 have z6:=x6.size
 intro m7 q
 obtain⟨x8,B8,z8⟩:=km (M:=m6) (d:=m7) (c:=q) rfl rfl rfl
 clear_value q
 have h8:=h6.ext x8
 intro m9 E
 obtain⟨aV,aA,uG⟩:=BX.new (f:=m9) (d:=E) h8 rfl rfl
 clear_value E
 have ac:Rs b h m (P+3) E:=⟨((FM.then x6).then x8).then aV,(((rM.ext x6).ext x8).ext aV).mono V⟩
 have hk:q.size≠b:=V
 have L2:∀{i:I},E.size<=i.size->Lw b [q.size,m6.size,j.size,m.size] i:=λo=>lw hr bJ
 have ay:∀{i:I},E.size<=i.size->∀s∈q.size::j.size::c,s<i.size:=λo=>bR (aw (i:=E) V) o V
 have aX:∀{i:I},Fz [b] m4 i->IR b i aU (r.params++[0,1]):=λN=>a8.le (fh N)
 have aZ:Fz [b] m4 E:=((fM.then x6).then x8).then aV
 have wl:(r.params++[0,1]).length=r.params.length+2:=D
 refine⟨λi=>∃y w,BX (j.size::c) f g.length (r.params.length+2) q.size i y w/\Rs b h m (P+10+Cg 18) i/\E.size<=i.size,⟨V,V,_,E1 ac.f,λa1=>?_,λ_=>⟨V,V,_,E1 ac.f,λ_=>?_,λ_=>⟨s6,_,aA,⟨ac.f,ac.r.mono V⟩,ad _⟩⟩⟩,?_⟩
 ·simp only[aF]at a1
  refine(cB ac.r V 5).mono λ_ ah⟨aj,en,_,_,aM,A⟩=>⟨(L2 (ad _)).dm A,aj,en,λ_=>?_,λ_=>⟨V,V,_,E1 (ac.f.trans A),λo=>by rw[a1]at o;exact absurd o bh,λ_=>⟨s6,_,aA.fz (by simp[K]) hk A,⟨(ac.to A aM).f,aM.mono V⟩,A.size⟩⟩⟩
  have T:=ac.to A aM
  have W:=A.size
  have aY:=aA.fz (by simp[K]) hk A
  refine EZ (v:=r.params++[0,1]) (S:=q.size::j.size::c) (ay W) (by simp[K]) (s.to T.f T.r) V (aX (aZ.trans A)) bJ a2 bh (L2 W) λao aH B aq an u=>?_
  rw[wl]at aq
  intro aa X
  obtain⟨ae,aL,bb⟩:=BX.new (f:=aa) (d:=X) aq rfl rfl
  clear_value X
  have a4:=u.size
  have aG:=(T.to u an).ext ae
  have am:=(aY.fz (by simp[K]) hk u).ext ae
  have be:B.size≠b:=V
  have aK:HX (B.size::q.size::j.size::c) f g.length (r.params.length+2) X s6 (.mk 9 G L):=(aY.h.fz (by simp[K]) u).iV ae (ad _)
  have L3:∀{i:I},X.size<=i.size->Lw b [B.size,q.size,m6.size,j.size,m.size] i:=λo=>lw hr bJ
  refine⟨λi=>∃y w,BX (q.size::j.size::c) f g.length (r.params.length+2) B.size i y w/\HX (q.size::j.size::c) f g.length (r.params.length+2) i s6 (.mk 9 G L)/\Rs b h m (P+4+Cg 18) i/\X.size<=i.size/\cF i q.size bK [.i 9,.i G,.s s6],⟨λ_=>?_,λ_=>⟨aH,ao,aL,aK.fg,aG,ad _,am.b⟩⟩,?_⟩
  ·obtain⟨aW,Q⟩:=ag (l:=r.params) (k:=0) V
   refine⟨bh,V,aW,(eg.1 ((PS aG.f).E Q)).2,λ_=>?_,λ_=>⟨aH,ao,aL,aK.fg,aG,ad _,am.b⟩⟩
   refine wB (B.size::q.size::j.size::c) f g.length (a:=r.params.length+2) (L3 (ad _)) V λaI az aB U=>?_
   have a5:=U.size
   refine wB (B.size::q.size::j.size::c) f g.length (a:=r.params.length+2) (L3 a5) V λaJ H ak C=>?_
   have bk:=C.size
   intro aS
   have a3:J H aS:=J.push _ _
   have Z:fw (bO (B.size::q.size::j.size::c) aS) (.mk H.size 0 2 2) [.mk 12 0 [],.mk 12 ps.len []]:=oN (S:=B.size::q.size::j.size::c) (M:=H) [(.mk 12 0 [],aI),(.mk 12 ps.len [],aJ)] D (bR (ay (i:=H) V) (ad _) V) (by simp;exact⟨(aB.ext C).sl,ak.sl⟩) rfl rfl
   have bl:=a3.size
   refine jq (M:=aS) Z (.eR (a:=r.params.length+2) (b:=f) (c:=g.length) bh (λo=>V) bh (λo=>V) (by simp;exact⟨aB.wx,ak.wx⟩)) (L3 V) λaT a9 a7 ba=>?_
   have F:=((U.trans C).trans a3).trans ba
   have hb:=(aL.ext F).set a7
   have ha:=(aK.ext F).put (k:=B.size) D 0 [.i 11,.i 0,.s aT]
   have hB:cF (ai a9 B.size 0 [.i 11,.i 0,.s aT]) q.size bK [.i 9,.i G,.s s6]:=(am.b.ext F).congr (bd _ _ _ _ V)
   exact⟨aT,.mk 11 0 [.mk 12 0 [],.mk 12 ps.len []],hb,ha.fg,(aG.ext F).put s.rd V _ _,by rw[av];have:=F.size;omega,hB⟩
  rintro M3 ⟨y,w,Q,F,Y,aT,aW⟩
  refine⟨_,Q.b.cp 0,_,Q.b.cp 1,_,Q.b.cp 2,?_⟩
  intro az
  have U:J M3 az:=J.push _ _
  have Z:fw (bO (q.size::j.size::c) az) (.mk M3.size 0 2 2) [w,.mk 9 G L]:=oN (S:=q.size::j.size::c) (M:=M3) [(w,y),(.mk 9 G L,s6)] D (ay V) (by simp;exact⟨Q.h.fg.sl,F.sl⟩) rfl rfl
  have a5:=U.size
  refine jq (M:=az) Z (.Of (by simp;exact⟨Q.h.wx,F.wx⟩)) (L2 V) λaJ H ak C=>?_
  have hb:=(BX.mk (e:=.mk 9 G L) ((aW.ext U).ext C) ((F.ext U).ext C)).set ak
  have aS:=((Y.ext U).ext C).put s.rd (k:=q.size) V 0 [.i 6,.i 1,.s aJ]
  exact⟨aJ,.mk 6 1 [w,.mk 9 G L],hb,⟨aS.f,aS.r.mono V⟩,by rw[av];have:=C.size;omega⟩
 ·intro ah
  have F:J E ah:=J.push _ _
  have aR:ap (bO [b] ah) (.mk E.size 0 2 2) [1,2]:=ap.lit aE _ bJ rfl rfl D
  clear_value ah
  have W:=F.size
  have H:∀{z M2:I}{C:Nat},E.size<=z.size->Fz [b] z M2->m.size<=C->C<E.size->∀A,af M2 C A=af z C A:=λo N h1 h2 A=>kg N hr ⟨h1,V⟩ A
  refine⟨H (ad _) (F.fz _) V V _,H (ad _) (F.fz _) V V _,H (ad _) (F.fz _) V V _,H (ad _) (F.fz _) V V _,H (ad _) (F.fz _) V V _,?_⟩
  have T:=ac.ext F
  refine(kN T.r V aR D).mono λ_ B⟨aj,en,hn,an,u⟩=>⟨(L2 W).dm u,aj,en,H W u V V _,H W u V V _,H W u V V _,H W u V V _,H W u V V _,?_⟩
  have aL:=T.to u an
  have a4:=u.size
  refine EZ (v:=r.params++[0,1]) (S:=q.size::j.size::c) (ay V) (by simp[K]) (s.to aL.f aL.r) V (aX ((aZ.then F).trans u)) bJ a2 bh (L2 V) λaJ aW aa aK aS ak=>?_
  rw[wl]at aK
  have aY:=ak.size
  refine⟨H V ak V V _,H V ak V V _,H V ak V V _,?_⟩
  intro X
  have ae:J aa X:=J.push _ _
  have aG:=((aA.ext F).fz (by simp[K]) hk u).fz (by simp[K]) hk ak
  have Z:fw (bO (q.size::j.size::c) X) (.mk aa.size 0 2 2) [aJ,.mk 9 G L]:=oN (S:=q.size::j.size::c) (M:=aa) [(aJ,aW),(.mk 9 G L,s6)] D (ay V) (by simp;exact⟨aK.sl,aG.h.sl⟩) rfl rfl
  have bb:=ae.size
  simp at hn
  refine jq (M:=X) Z (.eR (a:=r.params.length+2) (b:=f) (c:=g.length) V (λo=>V) V (λo=>V) (by simp;exact⟨aK.wx,aG.h.wx⟩)) (L2 V) λaI az aB U=>?_
  have hb:=((aG.ext ae).ext U).set aB
  have aM:=(((aL.to ak aS).ext ae).ext U).put s.rd (k:=q.size) V 0 [.i aj,.i 0,.s aI]
  exact⟨aI,.mk aj 0 [aJ,.mk 9 G L],hb,⟨aM.f,aM.r.mono V⟩,by rw[av];have:=U.size;omega⟩
 rintro M3 ⟨y,w,Q,Y,aT⟩
 have L3:∀{i:I},E.size<=i.size->Lw b [m6.size,j.size,m.size] i:=λo=>lw hr bJ
 have aj:∀{z M2:I}{C:Nat},M3.size<=z.size->Fz [b] z M2->m.size<=C->C<E.size->∀A,af M2 C A=af z C A:=λo N h1 h2 A=>kg N hr ⟨h1,V⟩ A
 refine⟨V,V,_,E1 Y.f,_,Q.b.cp 0,_,Q.b.cp 1,_,Q.b.cp 2,?_⟩
 refine wB (j.size::c) f g.length (a:=r.params.length) (L3 aT) ha λaG ah ak F=>?_
 have W:=F.size
 have H:∀C A,m.size<=C->C<E.size->af ah C A=af M3 C A:=λC A h1 h2=>aj (ad _) (F.fz _) h1 h2 A
 refine⟨H _ _ V V,H _ _ V V,H _ _ V V,(E1 (Y.f.then F)).trans (E1 Y.f).symm,H _ _ V V,H _ _ V V,H _ _ V V,?_⟩
 have T:=Y.ext F
 refine EZ (S:=j.size::c) (aw V) (by simp[K]) (s.to T.f T.r) V (PS T.f) V (s.gp.ty aP.2.2.1 aP.2.2.2) bh (L3 V) λao aH B aq an u=>?_
 have U:∀A,af B q.size A=af ah q.size A:=aj W u V V
 refine⟨U _,U _,U _,?_⟩
 have a4:=u.size
 intro aa
 have az:J B aa:=J.push _ _
 have am:=(Q.ext F).fz (by simp[K]) hk u
 have Z:fw (bO (j.size::c) aa) (.mk B.size 0 3 3) [.mk 12 al [],ao,w]:=oN (S:=j.size::c) (M:=B) [(.mk 12 al [],aG),(ao,aH),(w,y)] D (aw V) (by simp;exact⟨(ak.fz (by simp[K]) u).sl,aq.sl,am.h.fg.sl⟩) rfl rfl
 refine jq (M:=aa) Z (.m1 s.gp.ds ak.wx aq.wx Q.h.wx) (L3 (by have:=az.size;omega)) λaI X aB ae=>?_
 exact aB.ic (((T.to u an).ext az).ext ae) s.rd V V
end
end
section
variable{g:I}{s:O}{l:List Int}{c f:Ex}
abbrev G3(M a:I)(k:Nat)(X:Prop):Prop:=af a k 0=af M k 0/\af a k 1=af M k 1/\af a k 2=af M k 2/\X
abbrev E3(v:Value)(X:Int->Int->O->Prop):Prop:=∃a b:Int,∃c:O,v=.agg #[vi a,vi b,O.v c]/\X a b c
abbrev N1(L:List Nat)(e:Nat)(M:I)(K:Int->Int->O->I->Prop):Prop:=aO cw 311 [vi 1,vi 0,O.v (.mk e 0 2 2)] M λv a=>eE L M a/\E3 v λb c d=>K b c d a
section
variable(L:List Nat)(k:Nat)(b:Int)(h i d p w l:O)(j a e:Nat)(F:Int->Int->O->I->Prop)
abbrev Z6(g:Nat)(M:I):Prop:=N1 L g M λd e f c=>G3 M c a (N1 L c.size (c.push (.cells (bG [.i 9,.i b,.s h,.i d,.i e,.s f]) bK)) F)
abbrev Z5(c d:Int)(e:O)(M:I):Prop:=G3 M (M.push (.cells (bG [.i c,.i d,.s e,.i 9,.i b,.s i]) bK)) a (Z6 L b h a F M.size (M.push (.cells (bG [.i c,.i d,.s e,.i 9,.i b,.s i]) bK)))
abbrev Z4(M:I):Prop:=aO cw 310 [vp k 0,.agg #[O.v d,O.v p],O.v w,vi 0,vi 4] M λv c=>eE L M c/\E3 v λe f g=>G3 M c j (G3 M c a (Z5 L b h i a F e f g c))
abbrev TR2(f:Nat)(M:I):Prop:=aO cw 213 [O.v l,O.v (.mk f 0 3 3)] M λv c=>eE L M c/\∃s:O,v=O.v s/\G3 M c j (af c e 0=af M e 0/\af c e 1=af M e 1/\G3 M c a (Z4 L k b h i d p s j a F c))
end
def _root_.Go.Vc.Ub{σ τ:Type}{n:Nat}(r:n<=9223372036854775807)(f:1<=n){m:I}{j:σ}{l:τ}{h:(σ->τ->Int->I->Prop)->(σ->τ->Int->I->Nat)->σ->τ->Int->I->Prop}(Q:Nat->σ->τ->I->Prop)(p:Q 1 j l m)
 (o:∀(k:Nat)(s:σ)(t:τ)(a:I)(b:σ->τ->Int->I->Prop)(μ:σ->τ->Int->I->Nat),1<=k->k<=n->Q k s t a->
  (k<n->∀d e c,Q (k+1) d e c->b d e (cW ((k:Int)+1)) c/\μ d e (cW ((k:Int)+1)) c<μ s t k a)->h b μ s t k a):
 ∃(b:σ->τ->Int->I->Prop)(μ:σ->τ->Int->I->Nat),b j l 1 m/\∀s t i a,b s t i a->h b μ s t i a:=by
 refine⟨λs t i c=>∃k:Nat,i=k/\1<=k/\k<=n/\Q k s t c,λ_ _ i _=>(n -i).toNat,⟨1,rfl,ad _,f,p⟩,?_⟩
 rintro s t i a ⟨k,rfl,f,q,u⟩
 refine o k s t a _ _ f q u λg d e c v=>?_
 rw[ka g r]
 exact⟨⟨k+1,rfl,V,g,v⟩,Fp g⟩
def Ot(_:I)(a:List Ce)(n:Int):Prop:=∃s:O,a=[.i 12,.i n,.s s]/\s.len=0
def Ot.mono:nZ 3 Ot:=⟨λ_ h=>h,λ⟨_,h,_⟩=>by rw[h];rfl⟩
abbrev GV(g m:I)(s:O)(l:List Int):Prop:=Gr [] g m bK 3 Ot s l
def GV.dW{m a:I}(h:GV g m s l)(q:a[s.F]? =m[s.F]?):GV g a s l:=by
 obtain⟨c,b,d,e⟩:=h;exact⟨c,b,d.congr q,e.mono λ_ _ h=>h⟩
def GV.ex{a:List Nat}{m:I}(h:GV g m s l)(j:s.F∉a)(t:l.length<=1000):fw (bO a m) s (l.map λn=>.mk 12 n []):=by
 obtain⟨e,d,f,i⟩:=h;have H:=Gr.nE (S:=a) Ot.mono ⟨e,d,f,i.mono λ_ _ h=>h⟩ j bh V;refine⟨by rw[H.len];simp,H.cap,H.fS,λq c b=>?_⟩;simp only[cQ,jv]at b;obtain⟨n,k,rfl⟩:=b;obtain⟨r,⟨u,rfl,p⟩,o⟩:=H.iP q n k;exact⟨_,Bd.of ⟨p,V,V,D⟩,o⟩
structure AS(S:List Nat)(ds:List bB)(nf a n0 k Q rb:Nat)(bs:O)(m M:I)(sl:O)(el:Ex)(sr:O)(er:Ex):Prop where
 b:cF M k bK [.i 0,.i 0,.s .nil]
 hk:n0<=k
 l:HX (k::S) ds nf a M sl el
 r:HX (k::S) ds nf a M sr er
 s:Rs rb bs m Q M
section
variable{S:List Nat}{e:List bB}{h a n k Q r b:Nat}{d o p:O}{m M q:I}{i j:Ex}
def AS.ext(f:AS S e h a n k Q b d m M o i p j)(c:J M q):AS S e h a n k Q b d m q o i p j:=⟨f.b.ext c,f.hk,f.l.ext c,f.r.ext c,f.s.ext c⟩
def AS.fz(c:AS S e h a n k Q b d m M o i p j)(g:b∈S)(l:k≠b)(f:Fz [b] M q)(s:Rd b d r q):AS S e h a n k r b d m q o i p j:=⟨c.b.congr (f.same k c.b.lt (by simpa using l)),c.hk,c.l.fz (by simp[g]) f,c.r.fz (by simp[g]) f,c.s.to f s⟩
def AS.new(f:n<=M.size)(l:HX S e h a M o i)(r:HX S e h a M p j)(s:Rs b d m Q M):J M (M.push (.cells (bG [.i 0,.i 0,.s .nil]) bK))/\AS S e h a n M.size Q b d m (M.push (.cells (bG [.i 0,.i 0,.s .nil]) bK)) o i p j:=
 have c:=J.push M (.cells (bG [.i 0,.i 0,.s .nil]) bK)
 ⟨c,cF.push _ _ _,f,l.iV c (ad _),r.iV c (ad _),s.ext c⟩
end
section
variable{h:List Nat}{b P:Nat}{o d p:O}{i:List bB}{j:List dw}{m:I}
def WX.m3{e d:Nat}{z:Ex}(l:i∈rD)(m:WX i e d c)(n:WX i e d f)(o:WX i e (d+3) z):WX i e d (.mk 8 3 [c,f,z]):=by
 obtain⟨-,g,-,-,j,k⟩:=Mo i l;refine .mt m (by rw[g];rfl) D λh q p b a=>?_;rw[g]at a;rcases h with _|_|h
 ·simp at b a;subst b a;rw[j];exact n
 ·simp at b a;subst b a;rw[k];exact o
 ·simp at b
def WX.add{b a:Nat}(d:WX i b a c)(e:WX i b a f):WX i b a (.mk 1 0 [c,f]):=.eR bh (λh=>V) bh (λh=>V) (by simp;exact⟨d,e⟩)
def Jp(hS:∀F∈h,F<m.size)(aT:b∈h)(F:GC b o P d p i j m)(hP:P+200+3*Cg 18<=10000000000000000){C:Nat}{w:dw}(hq:j[C]? =some w)(bD:1<=w.params.length):
 aO cw 281 [vp b 0,.agg #[O.v d,O.v p],vi C] m (XP h b o m (P+200+3*Cg 18) (WX i j.length w.params.length)):=by
 apply Cp (b,0)
 simp -zeta only[aD,aC]
 intro A aq
 obtain⟨x2,hl⟩:=dG (a:=A) (c:=aq) rfl rfl
 have s1:A.size=m.size+1:=by simp[A]
 have s2:aq.size=m.size+2:=by simp[aq,s1]
 have hr:=F.rd.lt
 clear_value aq
 have ay:∀{g:I},aq.size<=g.size->∀F∈A.size::h,F<g.size:=λz=>bR hS V V
 have r2:Rs b o m P aq:=⟨x2.fz _,F.rd.ext x2⟩
 have L1:∀{g:I},aq.size<=g.size->Lw b [A.size,m.size] g:=λz=>lw hr bJ
 obtain⟨ps,bk,e0,e1⟩:=F.hp.E hq
 have bX:=ax hq
 have b1:=F.hp.len
 have bb:=wE _ (F.gp.dt w (ar hq))
 have h3:w.params.length<=3:=bb.1
 have PS:∀{g:I},Fz [b] m g->IR b g ps w.params:=λE=>bk.le (fh E)
 have E1:∀{g:I},Fz [b] m g->af g p.F (p.off+C*5+1)=some (vi w.aV):=λE=>(eg.1 (fh E _ _ _ e1)).2
 have b2:=bk.len
 have br:=F.gp.ty (t:=0) bh bh
 have aA:b∈A.size::h:=by simp[aT]
 refine⟨V,V,ps,(eg.1 (fh r2.f _ _ _ e0)).2,?_⟩
 refine wB (A.size::h) i j.length (a:=w.params.length+3) (L1 (ad _)) V λs3 m3 bA x3=>?_
 have z3:=x3.size
 intro m4
 have x4:J m3 m4:=J.push _ _
 have g4:GV m3 m4 (.mk m3.size 0 1 1) [(ps.len:Int)]:=Gr.lit (f:=[[.i 12,.i ps.len,.s s3]]) Ot.mono (ad _) D rfl rfl ⟨rfl,D,λaB F B hj q=>by
  have:aB=0:=by have:=ax hj;simp at this;omega
  subst this;simp at hj q;subst hj q;exact⟨s3,rfl,bA.sl.len⟩⟩
 have s4:m4.size=m3.size+1:=by simp[m4]
 clear_value m4
 rw[aQ (b:=(ps.len:Int)+2) V V]
 refine wB (A.size::h) i j.length (a:=w.params.length+3) (L1 V) V λs5 m5 h5 x5=>?_
 have z5:=x5.size
 intro m6
 have x6:J m5 m6:=J.push _ _
 have g6:GV m5 m6 (.mk m5.size 0 1 1) [(ps.len:Int)+2]:=Gr.lit (f:=[[.i 12,.i (ps.len+2),.s s5]]) Ot.mono (ad _) D rfl rfl ⟨rfl,D,λaB F B hj q=>by
  have:aB=0:=by have:=ax hj;simp at this;omega
  subst this;simp at hj q;subst hj q;exact⟨s5,rfl,h5.sl.len⟩⟩
 clear_value m6
 have r3:=r2.ext x3
 have vq:∀{g u:I}{N:Int}{s:O}{l:List Int}{aW:O->I->Prop}{aS:O},GV m3 g s l->J m3 g->l.length<=10->aS.len=0->(∀T u,GV m3 u T (l++[N])->J m3 u->g.size<=u.size->(T.F=s.F\/g.size<=T.F)->(∀H,H<g.size->H≠s.F->u[H]? =g[H]?)->aW T u)->
  jE (g.push (.cells (bG [.i 12,.i N,.s aS]) bK)) bK [.i 0,.i 0,.s .nil] 40 s (.mk g.size 0 1 1) aW:=λaN c hl ht hk=>
  Gr.kv (g:=[.i 0,.i 0,.s .nil]) (X:=[]) Ot.mono bh aN (c.fz []) ⟨_,rfl,ht⟩ V λT u g' f' aJ w=>hk T u g' f'.ext aJ.1 aJ.2 w
 refine Ub (n:=w.params.length) V bD (λaB s aS g=>∃l l',GV m3 g s l/\GV m3 g aS l'/\l.length=aB/\l'.length=aB/\(∀N∈l,0<=N/\N<((w.params.length+3:Nat):Int))/\(∀N∈l',0<=N/\N<((w.params.length+3:Nat):Int))/\J m3 g/\s.F≠aS.F) ⟨_,_,(g4.dW ((x5.trans x6).same _ (by show m3.size<_;omega))),Gr.bY Ot.mono g6 (λ_ z=>Or.inl z) V,rfl,rfl,bJ,bJ,(x4.trans x5).trans x6,by show m3.size≠m5.size;omega⟩ ?_
 rintro aB s aS g bV μ bY hj ⟨l,l',aN,g',bZ,b0,hw,bn,xM,bC⟩ bH
 have zM:=xM.size
 have RM:=r3.ext xM
 refine⟨λz=>?_,λ_=>?_⟩
 ·simp only[au]at z
  refine wB (A.size::h) i j.length (a:=w.params.length+3) (L1 V) V λs7 Y h7 x7=>?_
  have gy:=aN.bg;have aY:=g'.bg
  have z7:=x7.size
  intro m8
  refine vq (u:=Y) (aN.dW (x7.same _ gy.2)) (xM.trans x7) V h7.sl.len λr9 m9 r x9 z9 Z U=>?_
  refine⟨(L1 (g:=m3) z3).th ((((xM.trans x7).trans (J.push Y _)).fz [b])) (x9.fz _),?_⟩
  refine wB (A.size::h) i j.length (a:=w.params.length+3) (L1 V) V λaa ag a7 ah=>?_
  intro bo
  have Q:=((g'.dW (x7.same _ aY.2)).dW (U _ V (kd bC))).dW (ah.same _ V)
  have uG:=ah.size
  refine vq (u:=Y) Q (x9.trans ah) V a7.sl.len λbc L K aH bQ W R=>?_
  refine⟨(L1 (g:=m3) z3).th (((x9.trans ah).trans (J.push ag _)).fz [b]) (aH.fz _),bH V _ _ _ ⟨_,_,(r.dW (ah.same _ r.bg.2)).dW (R _ (by have:=r.bg.2;omega) V),K,bJ,bJ,λN q=>?_,λN q=>?_,aH,by have:=r.bg.2;omega⟩⟩
  ·rcases List.mem_append.1 q with z|z
   ·exact hw N z
   ·simp at z;omega
  ·rcases List.mem_append.1 q with z|z
   ·exact bn N z
   ·simp at z;omega
 have gy:=aN.bg;have aY:=g'.bg
 have nS:∀H,m3.size<=H->H∉A.size::h:=λH hb z=>by have:=ay (g:=aq) (ad _) H z;omega
 have be:∀l:List Int,(∀N∈l,0<=N/\N<((w.params.length+3:Nat):Int))->WX i j.length (w.params.length+3) (.mk 9 C (l.map λN=>.mk 12 N [])):=λl hl=>.eR bh (λz=>V) bh (λ_=>⟨V,V⟩) (by simp;exactλN q=>.Tj (hl N q))
 refine jq (aN.ex (nS _ gy.1) V) (be l hw) (L1 V) λsl Y h7 x7=>?_
 intro m8 m9
 obtain⟨x9,-,z9⟩:=km (M:=Y) (d:=m8) (c:=m9) rfl rfl rfl
 clear_value m9
 have z7:=x7.size
 refine jq ((g'.dW ((x7.trans x9).same _ aY.2)).ex (nS _ aY.1) V) (be l' bn) (lw hr bJ) λsr ag a7 ah=>?_
 intro bo L
 obtain⟨aH,-,bQ⟩:=km (M:=ag) (d:=bo) (c:=L) rfl rfl rfl
 clear_value L
 have uG:=ah.size
 have a8:=((h7.ext x9).ext ah).ext aH
 have a_:=a7.ext aH
 generalize bg:Ex.mk 9 C (l.map λN=>.mk 12 N [])=el at a8
 generalize bi:Ex.mk 9 C (l'.map λN=>.mk 12 N [])=er at a_
 have bc:=(((RM.ext x7).ext x9).ext ah).ext aH
 have bW:=((x7.trans x9).trans ah).trans aH
 have bj:∀{r:Nat},L.size<=r->r≠b:=λz=>V
 have G:∀{g u:I}{r aR:Nat},L.size<=g.size->Fz [b] g u->m.size<=r->r<L.size->af u r aR=af g r aR:=λz E h1 h2=>kg E hr ⟨h1,V⟩ _
 have L4:∀{g:I},L.size<=g.size->Lw b [ag.size,Y.size,A.size,m.size] g:=λz=>lw hr bJ
 have L5:∀{g:I}{r:Nat},L.size<=r->r<g.size->Lw b [r,ag.size,Y.size,A.size,m.size] g:=λz h'=>lw hr bJ
 have a0:∀{g:I}{r:Nat},L.size<=r->r<g.size->∀F∈r::A.size::h,F<g.size:=λz h'=>bR (ay (g:=L) V) V h'
 have a4:=λ(c f:Ex)=>WX.add (i:=i) (b:=j.length) (a:=w.params.length+3) (c:=c) (f:=f)
 let aW:=λ(r:Nat)(g:I)=>∃s B,BX (A.size::h) i j.length (w.params.length+3) r g s B/\HX (r::A.size::h) i j.length (w.params.length+3) g sl el/\Rs b o m (P+Cg 18) g
 have bw:∃k9,el=.mk 9 C k9:=⟨_,bg.symm⟩
 have bx:∃k9,er=.mk 9 C k9:=⟨_,bi.symm⟩
 clear bg bi
 obtain⟨kl,rfl⟩:=bw
 obtain⟨kr,rfl⟩:=bx
 let aw:=λ(r aX:Nat)(g:I)=>AS (A.size::h) i j.length (w.params.length+3) L.size r (P+aX) b o m g sl (.mk 9 C kl) sr (.mk 9 C kr)
 let aM:=λr=>[r,ag.size,Y.size,A.size,m.size]
 let K0:=λ(jW:Nat×Nat)(g:I)=>jW.2=0/\L.size<=jW.1/\aW jW.1 g
 let aL:=λ(r:Nat)(q H:Int)(F:O)(u:I)=>K0 (r,0) (ai u r 0 [.i q,.i H,.s F])
 have H3:∀{g u:I}{R:Prop},L.size<=g.size->Fz [b] g u->R->G3 g u Y.size R:=λK E c=>⟨G K E V V,G K E V V,G K E V V,c⟩
 have H6:∀{g u:I}{R:Prop},L.size<=g.size->Fz [b] g u->R->G3 g u ag.size (G3 g u Y.size R):=λK E c=>⟨G K E V V,G K E V V,G K E V V,H3 K E c⟩
 have H5:∀{g u:I}{R:Prop},L.size<=g.size->Fz [b] g u->R->af u m.size 0=af g m.size 0/\af u m.size 1=af g m.size 1/\G3 g u Y.size R:=λK E c=>⟨G K E V V,G K E V V,H3 K E c⟩
 have H8:∀{g u:I}{R:Prop},L.size<=g.size->Fz [b] g u->R->G3 g u ag.size (af u m.size 0=af g m.size 0/\af u m.size 1=af g m.size 1/\G3 g u Y.size R):=λK E c=>⟨G K E V V,G K E V V,G K E V V,H5 K E c⟩
 have R7:∀{r t0:Nat}{g:I}{B:Ex},aw r (Cg 18) g->fw (bO (r::A.size::h) g) (.mk t0 0 2 2) [.mk 9 C kl,B]->WX i j.length (w.params.length+3) B->N1 (aM r) t0 g (aL r):=λq hs hw=>
  jq hs (a4 _ _ q.l.wx hw) (L5 q.hk q.b.lt) λs' u h' c=>by
   have hb:=(BX.mk (e:=.mk 0 0 []) (s:=.nil) (q.b.ext c) ⟨⟨rfl,ad _,D,D⟩,.int 0⟩).set h';exact⟨rfl,q.hk,s',_,hb,(q.l.ext c).put D _ _,(q.s.ext c).put F.rd (by have:=q.hk;omega) _ _⟩
 have R6:∀{r:Nat}{g:I}{s:O}{q H:Int}{kk:List Ex},aw r (Cg 18) g->HX (r::A.size::h) i j.length (w.params.length+3) g s (.mk q H kk)->N1 (aM r) g.size (g.push (.cells (bG [.i 9,.i C,.s sl,.i q,.i H,.s s]) bK)) (aL r):=λq z=>
  R7 (q.ext (J.push _ _)) (oN [(.mk 9 C kl,sl),(.mk _ _ _,_)] D (a0 q.hk q.b.lt) (by simp;exact⟨q.l.sl,z.sl⟩) rfl rfl) z.wx
 have R5:∀{r t0:Nat}{g:I}{B:Ex},aw r (Cg 18) g->fw (bO (r::A.size::h) g) (.mk t0 0 2 2) [B,.mk 9 C kr]->WX i j.length (w.params.length+3) B->Z6 (aM r) C sl Y.size (aL r) t0 g:=λq hs hw=>
  jq hs (a4 _ _ hw q.r.wx) (L5 q.hk q.b.lt) λs' u h' c=>
   have K:=PC (nC q.hk q.b.lt)
   H3 K (c.fz _) (R6 (q.ext c) h')
 have R4:∀{r:Nat}{g:I}{s:O}{B:Ex},aw r (Cg 18) g->HX (r::A.size::h) i j.length (w.params.length+3) g s B->Z5 (aM r) C sl sr Y.size (aL r) B.op B.bN s g:=λ{r g s B} q z=>
  have c:=J.push g (.cells (bG [.i B.op,.i B.bN,.s s,.i 9,.i C,.s sr]) bK)
  have K:=PC (nC q.hk q.b.lt)
  H3 K (c.fz _) (R5 (q.ext c) (oN [(B,s),(.mk 9 C kr,sr)] D (a0 q.hk q.b.lt) (by simp;exact⟨z.sl,q.r.sl⟩) rfl rfl) z.wx)
 have bf:∀{a5 L':List Nat}{g:I}{ab:O}{K':Int->Int->O->I->Prop},(∀F∈a5,F<g.size)->b∈a5->Rs b o m P g->IR b g ab (w.params++[3,0,3])->Lw b L' g->(∀B s u,HX a5 i j.length (w.params.length+3) u s B->Rd b o (P+Cg 18) u->Fz [b] g u->K' B.op B.bN s u)->aO cw 310 [vp b 0,.agg #[O.v d,O.v p],O.v ab,vi 0,vi 4] g λbM u=>eE L' g u/\∃r0 r1:Int,∃r2:O,bM=.agg #[vi r0,vi r1,O.v r2]/\K' r0 r1 r2 u:=λbB bE T hw hL hk=>
  EZ (v:=w.params++[3,0,3]) bB bE (F.to T.f T.r) V hw bJ br bh hL λB s u z d E=>hk B s u (by simpa using z) d E
 have R3:∀{r:Nat}{g:I}{ab:O},aw r 0 g->IR b g ab (w.params++[3,0,3])->Z4 (aM r) b C sl sr d p ab ag.size Y.size (aL r) g:=λq hw=>
  bf (a0 q.hk q.b.lt) (by simp[aT]) q.s hw (L5 q.hk q.b.lt) λB s u z d' E=>
   have K:=PC (nC q.hk q.b.lt)
   H6 K E (R4 (q.fz aA (bj q.hk) E d') z)
 have R2:∀{r t0:Nat}{g:I},aw r 0 g->ap (bO [b] g) (.mk t0 0 3 3) [3,0,3]->TR2 (aM r) b C sl sr d p ps ag.size Y.size m.size (aL r) t0 g:=λq hw=>
  (eG (S:=[b]) (by simp;exact q.s.r.lt) (PS q.s.f) hw bJ).mono λ_ u⟨ab,wl,B,gw,qw,c⟩=>by
   subst qw;have K:=PC (nC q.hk q.b.lt);exact⟨(L5 q.hk q.b.lt).dm (c.fz _),ab,B,H8 K (c.fz _) (R3 (q.ext c) (GI.done gw (by simp;exact q.s.r.lt) bJ))⟩
 have aG:∀{g:I}{aX:Nat},L.size<=g.size->HX (A.size::h) i j.length (w.params.length+3) g sl (.mk 9 C kl)->HX (A.size::h) i j.length (w.params.length+3) g sr (.mk 9 C kr)->Rs b o m (P+aX) g->J g (g.push (.cells (bG [.i 0,.i 0,.s .nil]) bK))/\aw g.size aX (g.push (.cells (bG [.i 0,.i 0,.s .nil]) bK)):=λh1 h2 h3 h4=>AS.new h1 h2 h3 h4
 have r0:Rs b o m (P+0) L:=bc
 have wl:∀g:I,b<g.size->ap (bO [b] (g.push (.cells (bG [.i 3,.i 0,.i 3]) aE))) (.mk g.size 0 3 3) [3,0,3]:=λg z=>ap.lit aE _ (by simp;exact z) rfl rfl D
 refine⟨K0,⟨?_,?_⟩,?_⟩
 ·intro ac
  have Q:J L ac:=J.push _ _
  have a2:ap (bO [b] ac) (.mk L.size 0 3 3) [3,0,3]:=wl L bc.r.lt
  clear_value ac
  have aK:=Q.size
  have a9:=a8.ext Q;have ba:=a_.ext Q;have Z:=r0.ext Q
  refine H8 (ad _) (Q.fz _) ⟨?_,?_⟩
  ·refine(eG (S:=[b]) (by simp;exact Z.r.lt) (PS Z.f) a2 bJ).mono λ_ al⟨ab,bN,B,gw,qw,U⟩=>⟨(L4 aK).dm (U.fz _),ab,B,H8 aK (U.fz _) ⟨?_,?_⟩⟩
   all_goals have a3:IR b al ab (w.params++[3,0,3]):=qw▸GI.done gw (by simp;exact Z.r.lt) (by rw[<-qw];simp;omega)
   all_goals have bu:=U.size
   ·refine bf (a5:=A.size::h) (ay V) aA (Z.ext U) a3 (L4 V) λaj a1 am ak a6 ae=>H6 V ae ⟨?_,?_⟩
    all_goals have az:=(a9.ext U).fz aA ae
    all_goals have aP:=(ba.ext U).fz aA ae
    all_goals have aV:=(Z.ext U).to ae a6
    all_goals have bS:=ae.size
    ·intro ao
     have aa:J am ao:=J.push _ _
     have bl:fw (bO (A.size::h) ao) (.mk am.size 0 2 2) [aj,.mk 9 C kr]:=oN [(aj,a1),(.mk 9 C kr,sr)] D (ay V) (by simp;exact⟨ak.sl,aP.sl⟩) rfl rfl
     have bT:=aa.size
     refine H3 V (aa.fz _) ⟨?_,?_⟩
     ·refine jq (M:=ao) bl (a4 _ _ ak.wx aP.wx) (L4 V) λbI aF aZ aI=>H3 V (aI.fz _) ⟨?_,?_⟩
      all_goals have R:=aa.trans aI
      all_goals have bU:=aI.size
      ·intro aU
       have an:J aF aU:=J.push _ _
       have bm:fw (bO (A.size::h) aU) (.mk aF.size 0 2 2) [.mk 9 C kl,.mk 1 0 [aj,.mk 9 C kr]]:=oN [(.mk 9 C kl,sl),(.mk 1 0 [aj,.mk 9 C kr],bI)] D (ay V) (by simp;exact⟨(az.ext R).sl,aZ.sl⟩) rfl rfl
       have b3:=an.size
       refine⟨?_,?_⟩
       ·refine jq (M:=aU) bm (a4 _ _ az.wx aZ.wx) (L4 V) λbL bp bz bs=>?_
        have b4:=bs.size
        intro bq
        have bP:J bp bq:=J.push _ _
        refine H8 V (bP.fz _) ?_
        intro bF
        obtain⟨bt,bv,b5⟩:=BX.new (f:=bq) (d:=bF) bz rfl rfl
        have W:=R.trans (an.trans bs)
        exact⟨rfl,by show L.size<=bp.size;omega,bL,_,bv,(az.ext W).iV bt (ad _),(aV.ext W).ext bt⟩
       ·obtain⟨W,q⟩:=aG (g:=aU) V ((az.ext R).ext an) ((aP.ext R).ext an) ((aV.ext R).ext an)
        exact H8 V (W.fz _) (R7 q (fw.le (W.bO λH hb=>(List.mem_cons.1 hb).elim (λz=>Or.inr V) Or.inl) bm) aZ.wx)
      ·obtain⟨W,q⟩:=aG (g:=aF) V (az.ext R) (aP.ext R) (aV.ext R)
       exact H8 V (W.fz _) (R6 q (aZ.iV W (ad _)))
     ·obtain⟨W,q⟩:=aG (g:=ao) V (az.ext aa) (aP.ext aa) (aV.ext aa)
      exact H8 V (W.fz _) (R5 q (fw.le (W.bO λH hb=>(List.mem_cons.1 hb).elim (λz=>Or.inr V) Or.inl) bl) ak.wx)
    ·obtain⟨W,q⟩:=aG (g:=am) V az aP aV
     exact H8 V (W.fz _) (R4 q (ak.iV W (ad _)))
   ·obtain⟨W,q⟩:=aG (g:=al) V (a9.ext U) (ba.ext U) (Z.ext U)
    exact H8 V (W.fz _) (R3 q (a3.le (fh (W.fz _))))
  ·obtain⟨W,q⟩:=aG (g:=ac) aK a9 ba Z
   exact H8 aK (W.fz _) (R2 q (a2.le (fh (W.fz _))))
 ·obtain⟨W,q⟩:=aG (g:=L) (ad _) a8 a_ r0
  have za:=W.size
  intro ac
  refine H8 (ad _) (W.fz _) ?_
  intro al
  have U:J ac al:=J.push _ _
  exact H8 za (U.fz _) (R2 (q.ext U) (wl ac q.s.r.lt))
 rintro⟨r,aR⟩ g ⟨ho,hk,s,B,H,hl,T⟩
 simp only at ho hk H hl
 subst ho
 have bt:=H.b.lt
 have a9:=bj hk
 have W:∀{u:I},g.size<=u.size->Lw b [ag.size,Y.size,A.size,m.size] u:=λz=>L4 V
 have K:L.size<=g.size:=V
 have aZ:∀{u:I},g.size<=u.size->∀F∈r::A.size::h,F<u.size:=λz=>a0 hk V
 refine⟨λu=>∃s B,BX (A.size::h) i j.length (w.params.length+3) r u s B/\Rs b o m (P+2*Cg 18) u/\g.size<=u.size,⟨V,V,_,E1 T.f,λ_=>?_,λ_=>⟨s,B,H,⟨T.f,T.r.mono V⟩,ad _⟩⟩,?_⟩
 ·intro ac
  have Q:J g ac:=J.push _ _
  have a2:ap (bO [b] ac) (.mk g.size 0 3 3) [3,0,3]:=wl g T.r.lt
  clear_value ac
  have aK:=Q.size
  have Z:=T.ext Q
  refine H5 K (Q.fz _) ?_
  refine(eG (S:=[b]) (by simp;exact Z.r.lt) (PS Z.f) a2 bJ).mono λ_ al⟨ab,bN,e',gw,qw,U⟩=>⟨(W aK).dm (U.fz _),ab,e',H5 V (U.fz _) ?_⟩
  have a3:IR b al ab (w.params++[3,0,3]):=qw▸GI.done gw (by simp;exact Z.r.lt) (by rw[<-qw];simp;omega)
  have bu:=U.size
  have aP:=Z.ext U
  refine EZ (v:=w.params++[3,0,3]) (S:=r::A.size::h) (aZ V) (by simp[aT]) (F.to aP.f aP.r) V a3 bJ br bh (W V) λaj a1 am ak a6 ae=>H3 V ae ?_
  have ak:HX (r::A.size::h) i j.length (w.params.length+3) am a1 aj:=by simpa using ak
  have bS:=ae.size
  refine wB (r::A.size::h) i j.length (a:=w.params.length+3) (W V) V λbm ao az aa=>H3 V (aa.fz _) ?_
  intro aF
  have aI:J ao aF:=J.push _ _
  have bT:=aa.size
  have ba:=(((hl.ext Q).ext U).fz (by simp[aT]) ae).ext aa
  have hs:fw (bO (r::A.size::h) aF) (.mk ao.size 0 3 3) [.mk 9 C kl,aj,.mk 12 (ps.len+2) []]:=oN [(.mk 9 C kl,sl),(aj,a1),(.mk 12 (ps.len+2) [],bm)] D (aZ V) (by simp;exact⟨ba.sl,(ak.ext aa).sl,az.sl⟩) rfl rfl
  have bU:=aI.size
  refine jq (M:=aF) hs (.Of (by simp;exact⟨ba.wx,ak.wx,az.wx⟩)) (W V) λbp aU bq an=>?_
  have aV:=((((H.ext Q).ext U).fz (by simp[aT]) a9 ae).ext (aa.trans aI)).ext an
  have hb:=aV.set bq
  have bl:=(((aP.to ae a6).ext (aa.trans aI)).ext an).put F.rd (k:=r) V 0 [.i 6,.i 3,.s bp]
  exact⟨aV.b.fH D,λb' bs=>bd _ _ _ _ (by simp at bs;omega),bp,.mk 6 3 [.mk 9 C kl,aj,.mk 12 (ps.len+2) []],hb,⟨bl.f,bl.r.mono V⟩,by rw[av];have:=an.size;omega⟩
 rintro M3 ⟨s,B,H,T,aJ⟩
 refine⟨V,V,_,E1 T.f,_,H.b.cp 0,_,H.b.cp 1,_,H.b.cp 2,?_⟩
 refine wB (A.size::h) i j.length (a:=w.params.length) (W aJ) V λaU ac ak Q=>?_
 have aK:=Q.size
 have ae:∀{M1 M2:I}{aR:Nat},g.size<=M1.size->Fz [b] M1 M2->af M2 r aR=af M1 r aR:=λz E=>kg E hr ⟨V,V⟩ _
 refine⟨ae aJ (Q.fz _),ae aJ (Q.fz _),ae aJ (Q.fz _),(E1 (T.f.then Q)).trans (E1 T.f).symm,G V (Q.fz _) V V,G V (Q.fz _) V V,G V (Q.fz _) V V,?_⟩
 have Z:=T.ext Q
 refine EZ (S:=A.size::h) (ay V) aA (F.to Z.f Z.r) V (PS Z.f) V (F.gp.ty bb.2.2.1 bb.2.2.2) bh (W V) λaj aV al an aP U=>⟨ae V U,ae V U,ae V U,?_⟩
 have bu:=U.size
 intro am
 have aF:J al am:=J.push _ _
 have aI:=(H.ext Q).fz aA a9 U
 have hs:fw (bO (A.size::h) am) (.mk al.size 0 3 3) [.mk 12 0 [],aj,B]:=oN [(.mk 12 0 [],aU),(aj,aV),(B,s)] D (ay V) (by simp;exact⟨(ak.fz aA U).sl,an.sl,aI.h.fg.sl⟩) rfl rfl
 refine jq (M:=am) hs (.m3 F.gp.ds ak.wx an.wx H.h.wx) (W (by have:=aF.size;omega)) λbm ao az aa=>?_
 exact az.ic (((Z.to U aP).ext aF).ext aa) F.rd V V
end
end
section
variable{a:I}{c:List Ce}{b:Nat}
section
variable{f:List Nat}{e P:Nat}{h d p:O}{i:List bB}{g:List dw}{m:I}
def LU(hS:∀o∈f,o<m.size)(al:e∈f)(o:GC e h P d p i g m)(hP:P+300+40*Cg 18<=10000000000000000){T:Nat}{q:dw}(A:g[T]? =some q)(am:T=0->q.params.length=0):
 aO cw 249 [vp e 0,.agg #[O.v d,O.v p],vi T] m (XP f e h m (P+300+40*Cg 18) (WY i g.length q.params.length)):=by
 apply FC (e,0)
 simp -zeta only[aD,aC]
 intro n x
 obtain⟨x2,hl⟩:=dG (a:=n) (c:=x) rfl rfl
 have s1:n.size=m.size+1:=by simp[n]
 have s2:x.size=m.size+2:=by simp[x,s1]
 have hr:=o.rd.lt
 clear_value x
 have ah:∀{a:I},x.size<=a.size->∀o∈n.size::f,o<a.size:=λc=>bR hS V V
 have u:Rs e h m P x:=⟨x2.fz _,o.rd.ext x2⟩
 have L:∀{a:I},x.size<=a.size->Lw e [n.size,m.size] a:=λc=>lw hr bJ
 obtain⟨X,aj,e0,e1⟩:=o.hp.E A
 have ao:=ax A
 have ap:=o.hp.len
 have ab:=wE _ (o.gp.dt q (ar A))
 have h3:q.params.length<=3:=ab.1
 have PS:∀{a:I},Fz [e] m a->IR e a X q.params:=λz=>aj.le (fh z)
 have aw:=aj.len
 have aa:e∈n.size::f:=by simp[al]
 have an:=o.gp.ty ab.2.2.1 ab.2.2.2
 refine⟨V,V,X,(eg.1 (fh u.f _ _ _ e0)).2,V,V,_,(eg.1 (fh u.f _ _ _ e1)).2,?_⟩
 refine(K3 ((PS u.f).le (bD _ _)) 1).mono λ_ m3⟨pl,en,aq,x3⟩=>⟨(L (ad _)).dm (x3.fz _),pl,en,?_⟩
 have z3:=x3.size
 refine Ip (n.size::f) i g.length q.params.length (L z3) 0 λs4 r E x4=>?_
 have z4:=x4.size
 intro m5 J
 obtain⟨x6,b6,z6⟩:=BX.new (f:=m5) (d:=J) E rfl rfl
 clear_value J
 have r6:=((u.ext x3).ext x4).ext x6
 have hk:r.size≠e:=V
 have L6:∀{a:I},J.size<=a.size->Lw e [r.size,n.size,m.size] a:=λc=>lw hr bJ
 refine(cB r6.r V 4).mono λ_ s⟨b,en,_,_,d7,R⟩=>⟨(L6 (ad _)).dm R,b,en,?_⟩
 have K:=r6.to R d7
 have z7:=R.size
 have C:=o.to K.f K.r
 have b7:=b6.fz aa hk R
 have F:∀j∈r.size::n.size::f,j<s.size:=bR (ah (a:=s) V) (ad _) V
 have G:e∈r.size::n.size::f:=by simp[al]
 have ic:∀{z:Nat}{ac:List Value}{Q:Nat},aO cw z ac s (XP (r.size::n.size::f) e h s Q (WX i g.length q.params.length))->Q<=P+300+20*Cg 18->aO cw z ac s λv B=>eE [r.size,n.size,m.size] s B/\∃Y Z:Int,∃u:O,v=.agg #[vi Y,vi Z,O.v u]/\
  ∃w j,BX (n.size::f) i g.length q.params.length r.size (ai B r.size 0 [.i Y,.i Z,.s u]) w j/\Rs e h m (P+300+20*Cg 18) (ai B r.size 0 [.i Y,.i Z,.s u])/\J.size<=(ai B r.size 0 [.i Y,.i Z,.s u]).size:=λc hQ=>
  XP.kk c (L6 z7) λw j B h1 h2 h3 E=>by
   have hb:=(b7.fz aa hk E).set ⟨h1,h2⟩;have ak:=(K.to E h3).put o.rd (k:=r.size) V 0 [.i j.op,.i j.bN,.s w];exact⟨w,j,hb,⟨ak.f,ak.r.mono hQ⟩,by rw[av];have:=E.size;omega⟩
 have Dj:=λ(a:I)(S':List Nat)(h1:∀j∈S',j<a.size)(h2:e∈S')(Q:Nat)(cM:GC e h Q d p i g a)(z:Fz [e] m a)(hQ:Q+20*Cg 18<=10000000000000000)(t:Int)(hb:0<=t/\t<=18)=>KT (S:=S') h1 h2 cM hQ (PS z) V an hb
 have U:=ic ((Dj s _ F G _ C K.f V 18 bh).mono λ_ _ c=>c.mono (λj N=>N.1) (ad _)) V
 have first:1<=q.params.length->∃y:Int,q.params[0]? =some y/\af s X.F (X.off+Int.toNat 0*1)=some (vi y):=λc=>by
  obtain⟨y,W⟩:=ag (l:=q.params) (k:=0) V;exact⟨y,W,(eg.1 ((PS K.f).E W)).2⟩
 refine⟨λa=>∃w j,BX (n.size::f) i g.length q.params.length r.size a w j/\Rs e h m (P+300+20*Cg 18) a/\J.size<=a.size,?_,?_⟩
 ·refine⟨λv a=>(v=true->T=0)/\s=a,⟨λ_=>⟨λc=>by simp at c;omega,rfl⟩,λ_=>⟨λc=>by simp at c,rfl⟩⟩,?_⟩
  rintro v _ ⟨H,rfl⟩
  refine⟨λc=>?_,λ_=>?_⟩
  ·have h0:=am (H c)
   exact ic ((Jl F G C V).mono λ_ _ c=>c.mono (λj N=>by rw[h0];exact N) (ad _)) V
  refine⟨λv a=>(v=true->0<=pl)/\s=a,⟨λ_=>⟨λc=>⟨λ_=>⟨λ_=>by simpa using c,rfl⟩,λ_=>⟨λ_=>by simpa using c,rfl⟩⟩,λ_=>⟨D,rfl⟩⟩,λ_=>⟨D,rfl⟩⟩,?_⟩
  rintro v _ ⟨H,rfl⟩
  refine⟨λc=>ic (Jo F G C V A ⟨H c,V⟩) V,λ_=>?_⟩
  refine⟨λv a=>(v=true->1<=q.params.length)/\s=a,⟨λ_=>⟨λc=>?_,λ_=>⟨D,rfl⟩⟩,λ_=>⟨D,rfl⟩⟩,?_⟩
  ·simp only[au]at c
   obtain⟨y,W,N⟩:=first V
   exact⟨bh,V,y,N,λ_=>⟨λ_=>⟨λ_=>V,rfl⟩,λ_=>⟨λ_=>V,rfl⟩⟩,λ_=>⟨D,rfl⟩⟩
  rintro v _ ⟨H,rfl⟩
  refine⟨λc=>ic (Jp F G C V A (H c)) V,λ_=>⟨λ_=>⟨λc=>?_,λ_=>U⟩,λ_=>U⟩⟩
  simp only[au]at c
  obtain⟨y,W,N⟩:=first V
  have ae:=ic (I7 F G C V A V) V
  exact⟨bh,V,y,N,λ_=>⟨λ_=>ae,λ_=>⟨λ_=>ae,λ_=>U⟩⟩,λ_=>U⟩
 rintro a ⟨w,j,t,ae,ay⟩
 refine⟨_,t.b.cp 0,_,t.b.cp 1,_,t.b.cp 2,?_⟩
 refine(AA (fw.le (bD _ _) t.h.sl)).mono λ_ m8⟨n8,e8,q8,x8⟩=>⟨(L V).dm (x8.fz _),n8,e8,?_⟩
 have z8:=x8.size
 have H:=ae.ext x8
 have N:=t.ext x8
 refine⟨λ_=>?_,λc=>⟨_,N.b.cp 0,_,N.b.cp 1,_,N.b.cp 2,?_⟩⟩
 ·exact XP.ret (Dj m8 (n.size::f) (ah V) aa _ (o.to H.f H.r) H.f V 12 bh) (L V) H.f o.rd V (λ_ c=>c) V
 ·simp only[bH]at c
  have r9:=H.put o.rd (k:=n.size) V 0 [.i j.op,.i j.bN,.s w]
  exact⟨w,j,rfl,(N.h.fg.put D _ _).fg.sl,⟨t.h.wx,V⟩,r9.r.mono V,r9.f⟩
end
def Bl{α:Type}{R:I->List Ce->α->Prop}{n:Nat}(g:nZ n R){S:List Nat}(o:∀d∈S,d<a.size)(e:Nat)(l:List (α×List Ce))(h:∀x∈l,R (bO S a) x.2 x.1)(p:c=l.flatMap (·.2))(q:b=l.length):
 Gr S a (a.push (.cells (bG c) e)) e n R (.mk a.size 0 b b) (l.map (·.1)):=by
 refine Gr.lit (f:=l.map (·.2)) g (ad _) o (by rw[p,List.flatMap_def]) (by simp[q]) ⟨D,λd i=>?_,λr d e k j=>?_⟩
 ·simp at i;obtain⟨m,f⟩:=i;exact g.len (h _ f)
 ·simp only[cQ,jv]at k j
  obtain⟨x,m,rfl⟩:=k
  obtain⟨y,f,rfl⟩:=j
  rw[m]at f;simp at f;subst f
  exact h x (ar m)
abbrev TD(m:I)(s:O)(l:List (List Int)):Prop:=eH m 1 (mJ m) s l
def wI{S:List Nat}(d:∀e∈S,e<a.size)(e:Nat)(l:List (List Int×O))(k:l.length<=1000)(h:∀x∈l,ap (bO S a) x.2 x.1)(f:c=l.map λx=>.s x.2)(g:b=l.length):TD (bO S (a.push (.cells (bG c) e))) (.mk a.size 0 b b) (l.map (·.1)):=by
 have H:=Bl (R:=λm c x=>mJ m c x) (n:=1) ⟨λh=>mJ.le h _ _,λ⟨_,h,_⟩=>by rw[h];rfl⟩ d e (l.map λx=>(x.1,[Ce.s x.2])) (λx i=>by simp at i;obtain⟨m,o,j,rfl⟩:=i;exact⟨_,rfl,h _ j⟩) (c:=c) (b:=b) (by rw[f];clear f g h k;induction l<;>simp_all) (by simp[g]);have i:=Gr.done mJ.mono H d bh bJ;rwa[show(l.map λx=>(x.1,[Ce.s x.2])).map (·.1)=l.map (·.1)by simp[Wt,Function.comp_def]]at i
abbrev YE(S:List Nat)(a m:I)(s:O)(l:List bB):Prop:=Gr S a m jR 3 il s l
end
section
variable{K:O->I->Prop}
section
variable{S L:List Nat}{c P:Nat}{d:O}{m b:I}
def Mx(f:O)(d:∀a∈L,a<b.size)(g:∀a,J b a->K f a):aO cw 201 [O.v f] b λv a=>eE L b a/\∃c:O,v=.agg #[O.v c]/\K c a:=
 (KN f b).mono λ_ a⟨e,x⟩=>⟨x.dm d,f,e,g a x⟩
def CI(f:O)(d:∀a,J b a->K f a):aO cw 201 [O.v f] b λv a=>∃c:O,v=.agg #[O.v c]/\K c a:=
 (KN f b).mono λ_ a⟨e,x⟩=>⟨f,e,d a x⟩
def vZ(hS:∀w∈S,w<m.size)(Y:c∈S)(X:Rd c d P m)(hP:P+1<=10000000000000000):
 aO cw 200 [vp c 0] m λa_ Z=>∃x ds,a_=O.v x/\YE S m Z x ds/\ds∈rD/\Rd c d (P+1) Z/\Fz [c] m Z:=by
 apply Al (c,0)
 simp -zeta only[aD,aC]
 have hr:=X.lt
 have j:∀{b:I},m.size<=b.size->∀w∈S,w<b.size:=λh w hc=>by have:=hS w hc;omega
 have t:∀(b:I)(g:List Int)(U:List Ce)(K:Nat),m.size<=b.size->U=g.map Ce.i->K=g.length->g.length<=1000->ap (bO S (b.push (.cells (bG U) aE))) (.mk b.size 0 K K) g:=λb g U K h h1 h2 h3=>ap.lit aE g (j h) h1 h2 V
 have az:∀(b:I)(f:Nat),ap (bO S b) (.mk f 0 0 0) []:=λb f=>my _ _ _ _ _ _
 intro a7
 have x1:J m a7:=J.push _ _
 refine CI _ λC x2=>?_
 intro m3
 have x3:J C m3:=J.push _ _
 have z2:=(x1.trans x2).size
 have i3:ap (bO S m3) (.mk C.size 0 2 2) [0,1]:=t C [0,1] _ _ z2 rfl rfl bh
 clear_value m3
 refine CI _ λm4 Q=>?_
 intro s
 have x5:J m4 s:=J.push _ _
 have z4:=(x3.trans Q).size
 have c5:TD (bO S s) (.mk m4.size 0 2 2) [[],[0,1]]:=wI (j V) _ [([],.mk m.size 0 0 0),([0,1],.mk C.size 0 2 2)] D (by simp;exact⟨az _ _,i3.le (Q.da _)⟩) rfl rfl
 clear_value s
 intro m6 G
 obtain⟨x7,-,z7⟩:=km (M:=s) (d:=m6) (c:=G) rfl rfl rfl
 clear_value G
 have z5:=x5.size
 intro m8
 have x8:J G m8:=J.push _ _
 clear_value m8
 have z8:=x8.size
 refine Mx _ bJ λH x9=>?_
 intro aa
 have aJ:J H aa:=J.push _ _
 have z9:=x9.size
 have a2:ap (bO S aa) (.mk H.size 0 3 3) [3,0,3]:=t H [3,0,3] _ _ V rfl rfl bh
 clear_value aa
 have uG:=aJ.size
 refine Mx _ bJ λab an=>?_
 intro o
 have aK:J ab o:=J.push _ _
 have bd:=an.size
 have aS:TD (bO S o) (.mk ab.size 0 2 2) [[],[3,0,3]]:=wI (j V) _ [([],.mk G.size 0 0 0),([3,0,3],.mk H.size 0 3 3)] D (by simp;exact⟨az _ _,a2.le (an.da _)⟩) rfl rfl
 clear_value o
 intro a8 p
 obtain⟨ba,-,bf⟩:=km (M:=o) (d:=a8) (c:=p) rfl rfl rfl
 clear_value p
 have be:=aK.size
 have u:∀{b:I},p.size<=b.size->∀f∈[o.size,s.size],f<b.size:=λh=>bJ
 intro ac
 have aL:J p ac:=J.push _ _
 have a3:ap (bO S ac) (.mk p.size 0 2 2) [1,3]:=t p [1,3] _ _ V rfl rfl bh
 clear_value ac
 have bb:=aL.size
 refine Mx _ (u bb) λae ao=>?_
 intro q
 have aM:J ae q:=J.push _ _
 have bg:=ao.size
 have aT:TD (bO S q) (.mk ae.size 0 1 1) [[1,3]]:=wI (j V) _ [([1,3],.mk p.size 0 2 2)] D (by simp;exact a3.le (ao.da _)) rfl rfl
 clear_value q
 have bi:=aM.size
 intro af
 have aN:J q af:=J.push _ _
 have a4:ap (bO S af) (.mk q.size 0 3 3) [1,1,0]:=t q [1,1,0] _ _ V rfl rfl bh
 clear_value af
 have bj:=aN.size
 refine Mx _ (u V) λB aq=>?_
 intro ah
 have av:J B ah:=J.push _ _
 have bk:=aq.size
 have a5:ap (bO S ah) (.mk B.size 0 1 1) [0]:=t B [0] _ _ V rfl rfl bh
 clear_value ah
 have bl:=av.size
 refine Mx _ (u V) λE L=>?_
 intro ai
 have N:J E ai:=J.push _ _
 have bm:=L.size
 have a6:ap (bO S ai) (.mk E.size 0 1 1) [3]:=t E [3] _ _ V rfl rfl bh
 clear_value ai
 have bn:=N.size
 refine Mx _ (u V) λaj y=>?_
 intro r
 have aP:J aj r:=J.push _ _
 have bo:=y.size
 have aV:TD (bO S r) (.mk aj.size 0 3 3) [[1,1,0],[0],[3]]:=wI (j V) _ [([1,1,0],.mk q.size 0 3 3),([0],.mk B.size 0 1 1),([3],.mk E.size 0 1 1)] D (by simp;exact⟨a4.le ((((((aq.trans av).trans L).trans N).trans y)).da _),a5.le (((L.trans N).trans y).da _),a6.le (y.da _)⟩) rfl rfl
 clear_value r
 have bp:=aP.size
 have aF:=(((((aN.trans aq).trans av).trans L).trans N).trans y).trans aP
 have aB:=(((ba.trans aL).trans ao).trans aM).trans aF
 have T:=(((((x7.trans x8).trans x9).trans aJ).trans an).trans aK).trans aB
 have A:∀{aw ax:I}{x:O}{g:List (List Int)},J aw ax->TD (bO S aw) x g->TD (bO S ax) x g:=λaI h=>eH.le h (aI.da _) (mJ.le (aI.da _))
 have al:TD (bO S r) .nil []:=⟨rfl,ad _,D,D⟩
 intro e
 have v:J r e:=J.push _ _
 have aY:cx (bO S e) (.mk r.size 0 4 4) QW:=(Bl (R:=il) il.mono (j (b:=r) V) jR [(⟨0,0,[[1,3]]⟩,[.i 0,.i 0,.s (.mk ae.size 0 1 1)]),(⟨1,0,[]⟩,[.i 1,.i 0,.s .nil]),(⟨0,0,[[1,1,0],[0],[3]]⟩,[.i 0,.i 0,.s (.mk aj.size 0 3 3)]),(⟨0,1,[]⟩,[.i 0,.i 1,.s .nil])] (by simp;exact⟨⟨_,rfl,A aF aT⟩,⟨_,rfl,al⟩,⟨_,rfl,aV⟩,⟨_,rfl,al⟩⟩) rfl rfl).done il.mono (j V) bh bh
 clear_value e
 have bq:=v.size
 intro F
 have z:J e F:=J.push _ _
 have aG:YE S e F (.mk e.size 0 3 3) JT:=Bl (R:=il) il.mono (j (b:=e) V) jR [(⟨0,0,[[],[0,1]]⟩,[.i 0,.i 0,.s (.mk m4.size 0 2 2)]),(⟨0,0,[]⟩,[.i 0,.i 0,.s .nil]),(⟨0,0,[[],[3,0,3]]⟩,[.i 0,.i 0,.s (.mk ab.size 0 2 2)])] (by simp;exact⟨⟨_,rfl,A (T.trans v) c5⟩,⟨_,rfl,A v al⟩,⟨_,rfl,A (aB.trans v) aS⟩⟩) rfl rfl
 clear_value F
 have aA:=((((x1.trans x2).trans x3).trans Q).trans x5).trans (T.trans (v.trans z))
 have br:=z.size
 have aR:Lw c [o.size,s.size] F:=λf n=>⟨u V f n,by simp at n;omega⟩
 refine(cB (X.ext aA) V 5).mono λ_ ak⟨aH,aW,k0,k1,W,i⟩=>⟨aR.dm i,aH,aW,λh=>?_,λ_=>⟨_,JT,rfl,Gr.bY il.mono (aG.dW il.mono i (by simp;exact⟨Y,V⟩)) (λ_ h=>Or.inl h) V,by simp[rD],W,(aA.fz _).trans i⟩⟩
 simp only[au]at h
 obtain⟨am,hq⟩:=ag (l:=QW) (k:=aH.toNat) (by simp[QW];omega)
 have a1:Le (bO S e) (bO (e.size::S) ak):=(z.bO λf n=>(List.mem_cons.1 n).elim (λh=>Or.inr V) Or.inl).trans (i.da (by simp[Y]))
 obtain⟨aX,hf,e0,e1,e2⟩:=(aY.le a1).E hq
 refine⟨k0,bJ,_,(eg.1 e0).2,_,(eg.1 e1).2,_,(eg.1 e2).2,?_⟩
 intro bc
 have aZ:YE S e ak (.mk e.size 0 3 3) JT:=aG.dW il.mono i (by simp;exact⟨Y,V⟩)
 have hz:=i.size
 have a0:JT++[am]∈rD:=by
  have:=ar hq;simp only[rD,aU,Wu];exact Or.inr ⟨am,this,rfl⟩
 refine Gr.kv (g:=[.i 0,.i 0,.s .nil]) (k:=am) il.mono bh aZ ((z.fz _).trans i) ⟨aX,rfl,hf⟩ (by simp[JT]) λa9 M' g' f' z' q'=>?_
 have ay:=((((((x1.trans x2).trans x3).trans Q).trans x5).trans (T.trans v)).fz [c]).trans f'
 have aQ:Lw c [o.size,s.size] e:=λf n=>⟨u V f n,by simp at n;omega⟩
 exact⟨aQ.th (((z.fz [c]).trans i).then (J.push ak _)) f',a9,_,rfl,Gr.bY il.mono g' (λ_ h=>Or.inl h) V,a0,X.NB W ay (q' c W.lt (by show c≠e.size;omega)),ay⟩
end
end
section
variable{a:Nat}{b:List Ce}
def Om(M:I)(b:List Ce)(x:dw×Option Ex):Prop:=∃c a k z,b=[.s c,.i x.1.aV,.i a,.i k,.s z]/\ap M c x.1.params/\∀e,x.2=some e->a=e.op/\k=e.bN/\fw M z e.bE
def Om.mono:nZ 5 Om:=⟨λh⟨b,a,k,z,e,c,d⟩=>⟨b,a,k,z,e,c.le h,λx j=>let⟨f,g,i⟩:=d x j;⟨f,g,fw.le h i⟩⟩,λ⟨_,_,_,_,e,_⟩=>by rw[e];rfl⟩
def YD(M:I)(b:List Ce)(x:dw×Ex):Prop:=∃a s,b=[.s a,.i x.1.aV,.i x.2.op,.i x.2.bN,.s s]/\ap M a x.1.params/\fw M s x.2.bE
def YD.mono:nZ 5 YD:=⟨λh⟨a,s,e,b,c⟩=>⟨a,s,e,b.le h,fw.le h c⟩,λ⟨_,_,e,_⟩=>by rw[e];rfl⟩
abbrev V1(m:I)(s:O)(l:List (dw×Ex)):Prop:=eH m 5 (YD m) s l
structure V5(ds:List bB)(l:List (dw×Ex)):Prop where
 gp:GP ds (l.map (·.1))
 Dj:∀x∈l,WY ds l.length x.1.params.length x.2
def Gr.Zt{α:Type}{S:List Nat}{q p:I}{j g h c k:Nat}{R:I->List Ce->α->Prop}{o:List α}(x:0<g)(m:Gr S q p j g R (.mk h 0 a c) o)(v:k<=a):Gr S q p j g R (.mk h 0 k c) (o.take k):=by
 have w:=m.len x;obtain⟨-,b,r,d⟩:=m;simp only[O.iE]at w;have t:b.length=a:=by rw[d.len];omega
 rcases r.E with e|⟨B,C,tail,e,h4,h5,h6,h7⟩
 ·simp at e
 simp only[O.iE,O.mk.injEq]at e h7;obtain⟨rfl,-,-,rfl⟩:=e;have l:b.flatten=(b.take k).flatten++(b.drop k).flatten:=by rw[<-qB,dg]
 have n:∀c∈b.take k,c.length=g:=λc s=>d.size c (fR s);refine⟨D,b.take k,⟨by rw[cr n,fY,t,iO v];rfl,Or.inr ⟨h,c,(b.drop k).flatten++tail,D,h4,by rw[<-fm,<-l];exact h5,by rw[<-fm,<-l];exact h6,bJ⟩⟩,?_,n,λy z A f i=>?_⟩
 ·rw[fY,fY,d.len]
 ·rw[nv]at f i;split at f
  ·rename_i u;rw[ao u]at i;exact d.dt y z A f i
  ·simp at f
section
variable{S L:List Nat}{d P:Nat}{c:O}{m M:I}
def qZ{K:O->Int->Int->Int->O->I->Prop}(l:List Int)(r:Int)(n:∀c∈S,c<M.size)(m:∀d∈L,d<M.size)(t:l.length<=1000)(p:b=l.map Ce.i)(s:a=l.length)(q:∀c,J M c->ap (bO S c) (.mk M.size 0 a a) l->K (.mk M.size 0 a a) r 0 0 .nil c):
 aO cw 248 [O.v (.mk M.size 0 a a),vi r] (M.push (.cells (bG b) aE)) λv c=>eE L (M.push (.cells (bG b) aE)) c/\∃e:O,∃f:Int,∃g:Int,∃h:Int,∃i:O,v=.agg #[O.v e,vi f,vi g,vi h,O.v i]/\K e f g h i c:=
 have j:=J.push M (.cells (bG b) aE)
 (Qv _ r _).mono λ_ c⟨k,x⟩=>⟨x.dm λd o=>j.lt (m d o),_,_,_,_,_,k,q c (j.trans x) ((ap.lit aE l n p s V).le (x.da _))⟩
def xK(a:List Int)(r:Int):dw:=⟨a,[],r,0,[]⟩
def Sa.mono:nZ 5 Sa:=⟨λh=>Sa.le h,λ⟨_,_,_,_,e,_⟩=>by rw[e];rfl⟩
def Qr(l:List (dw×O))(c:∀d∈S,d<M.size)(h:∀x∈l,ap (bO S M) x.2 x.1.params)(k:l.length<=1000)(f:b=l.flatMap λx=>[.s x.2,.i x.1.aV,.i 0,.i 0,.s .nil])(g:a=l.length):pd (bO S (M.push (.cells (bG b) eY))) (.mk M.size 0 a a) (l.map (·.1)):=by
 have H:=(Bl (R:=Sa) Sa.mono c eY (l.map λx=>(x.1,[Ce.s x.2,.i x.1.aV,.i 0,.i 0,.s .nil])) (λx d=>by simp at d;obtain⟨i,j,e,rfl⟩:=d;exact⟨_,_,_,_,rfl,h _ e⟩) (c:=b) (b:=a) (by rw[f,List.flatMap_map]) (by simp[g])).done Sa.mono c bh bJ;rwa[show(l.map λx=>(x.1,[Ce.s x.2,.i x.1.aV,.i 0,.i 0,.s .nil])).map (·.1)=l.map (·.1)by simp[Wt,Function.comp_def]]at H
end
end
section
def Uk:List dw:=[xK [1] 0,xK [1,1] 1,xK [1] 1,xK [1,0] 1,xK [2,1] 1,xK [1,1] 0]
def Uu:List dw:=[xK [3] 0,xK [0] 1,xK [0,1] 1,xK [3,0] 3,xK [3] 1,xK [1,3,0] 0]
def NZ:List dw:=[xK [0] 0,xK [0,0] 0,xK [1,0] 0,xK [0] 1]
def PO:(∀q∈Uk,(q.params,q.aV)∈Ow)/\(∀q∈Uu,(q.params,q.aV)∈Ow)/\∀q∈NZ,(q.params,q.aV)∈Ow:=bh
def NL{α:Type}{l:List α}{k:Nat}{x:α}(h:l[k]? =some x):l.set k x=l:=iy λi=>by
 rw[jt];split
 ·rename_i e;subst e;rw[ao (ax h),h]
 ·rfl
section
variable{b:List Nat}{c P:Nat}{d:O}{m:I}
def DY(hS:∀o∈b,o<m.size)(u:c∈b)(R:Rd c d P m)(hP:P+10+4*(300+40*Cg 18)<=10000000000000000):
 aO cw 235 [vp c 0] m λbE m'=>∃z a1 A q,bE=.agg #[O.v z,O.v a1]/\cx (bO b m') z A/\V1 (bO b m') a1 q/\V5 A q/\Rd c d (P+10+4*(300+40*Cg 18)) m'/\Fz [c] m m':=by
 apply wZ (c,0)
 unfold rX
 simp(config:={zeta:=false,maxSteps:=2000000}) only[aD,aC]
 have hr:=R.lt
 intro aj
 have x1:J m aj:=J.push _ _
 have s1:aj.size=m.size+1:=by simp[aj]
 clear_value aj
 have aA:∀o∈m.size::b,o<aj.size:=bR hS x1.size V
 refine(vZ aA (by simp[u]) (R.ext x1) V).mono λ_ e⟨z,A,t,gd,aT,d2,f2⟩=>⟨f2.dm bJ,z,t,?_⟩
 have z2:=f2.size
 have F2:=(x1.fz [c]).trans f2
 have aS:cx (bO (m.size::b) e) z A:=gd.done il.mono aA bh (by have:=pt A aT;omega)
 intro m3 C
 obtain⟨x4,-,z4⟩:=km (M:=e) (d:=m3) (c:=C) rfl rfl rfl
 clear_value C
 have h:∀{g:I},C.size<=g.size->∀o∈e.size::m.size::b,o<g.size:=λs=>bR (λo hc=>by have:=aA o hc;omega) s V
 have j:∀{g:I},C.size<=g.size->∀y∈[e.size,m.size],y<g.size:=λs=>bJ
 refine qZ (S:=e.size::m.size::b) [1] 0 (h V) (j V) bh rfl rfl λba x5 i1=>?_
 have z5:=x5.size
 refine qZ (S:=e.size::m.size::b) [1,1] 1 (h V) (j V) bh rfl rfl λbb x6 i2=>?_
 have z6:=x6.size
 refine qZ (S:=e.size::m.size::b) [1] 1 (h V) (j V) bh rfl rfl λbc x7 i3=>?_
 have z7:=x7.size
 refine qZ (S:=e.size::m.size::b) [1,0] 1 (h V) (j V) bh rfl rfl λbe x8 i4=>?_
 have z8:=x8.size
 refine qZ (S:=e.size::m.size::b) [2,1] 1 (h V) (j V) bh rfl rfl λbf x9 i5=>?_
 have z9:=x9.size
 refine qZ (S:=e.size::m.size::b) [1,1] 0 (h V) (j V) bh rfl rfl λa6 aJ i6=>?_
 have uG:=aJ.size
 intro Y
 have y1:J a6 Y:=J.push _ _
 have X9:=x9.trans aJ;have X8:=x8.trans X9;have X7:=x7.trans X8;have X6:=x6.trans X7
 have g1:pd (bO (e.size::m.size::b) Y) (.mk a6.size 0 6 6) Uk:=Qr [(xK [1] 0,.mk C.size 0 1 1),(xK [1,1] 1,.mk ba.size 0 2 2),(xK [1] 1,.mk bb.size 0 1 1),(xK [1,0] 1,.mk bc.size 0 2 2),(xK [2,1] 1,.mk be.size 0 2 2),(xK [1,1] 0,.mk bf.size 0 2 2)] (h V) (by simp;exact⟨i1.le (X6.da _),i2.le (X7.da _),i3.le (X8.da _),i4.le (X9.da _),i5.le (aJ.da _),i6⟩) D rfl rfl
 have bP:Y.size=a6.size+1:=by simp[Y]
 clear_value Y
 have w1:=y1.size
 refine qZ (S:=e.size::m.size::b) [3] 0 (h V) (j V) bh rfl rfl λc1 u1 j1=>?_
 have v1:=u1.size
 refine qZ (S:=e.size::m.size::b) [0] 1 (h V) (j V) bh rfl rfl λc2 u2 j2=>?_
 have v2:=u2.size
 refine qZ (S:=e.size::m.size::b) [0,1] 1 (h V) (j V) bh rfl rfl λc3 u3 j3=>?_
 have v3:=u3.size
 refine qZ (S:=e.size::m.size::b) [3,0] 3 (h V) (j V) bh rfl rfl λc4 u4 j4=>?_
 have v4:=u4.size
 refine qZ (S:=e.size::m.size::b) [3] 1 (h V) (j V) bh rfl rfl λc5 u5 j5=>?_
 have v5:=u5.size
 refine qZ (S:=e.size::m.size::b) [1,3,0] 0 (h V) (j V) bh rfl rfl λc6 u6 j6=>?_
 have v6:=u6.size
 intro Z
 have y2:J c6 Z:=J.push _ _
 have U5:=u5.trans u6;have U4:=u4.trans U5;have U3:=u3.trans U4;have U2:=u2.trans U3
 have g2:pd (bO (e.size::m.size::b) Z) (.mk c6.size 0 6 6) Uu:=Qr [(xK [3] 0,.mk Y.size 0 1 1),(xK [0] 1,.mk c1.size 0 1 1),(xK [0,1] 1,.mk c2.size 0 2 2),(xK [3,0] 3,.mk c3.size 0 2 2),(xK [3] 1,.mk c4.size 0 1 1),(xK [1,3,0] 0,.mk c5.size 0 3 3)] (h V) (by simp;exact⟨j1.le (U2.da _),j2.le (U3.da _),j3.le (U4.da _),j4.le (U5.da _),j5.le (u6.da _),j6⟩) D rfl rfl
 have bQ:Z.size=c6.size+1:=by simp[Z]
 clear_value Z
 have w2:=y2.size
 refine qZ (S:=e.size::m.size::b) [0] 0 (h V) (j V) bh rfl rfl λe1 t1 k1=>?_
 have q1:=t1.size
 refine qZ (S:=e.size::m.size::b) [0,0] 0 (h V) (j V) bh rfl rfl λe2 t2 k2=>?_
 have q2:=t2.size
 refine qZ (S:=e.size::m.size::b) [1,0] 0 (h V) (j V) bh rfl rfl λe3 t3 k3=>?_
 have q3:=t3.size
 refine qZ (S:=e.size::m.size::b) [0] 1 (h V) (j V) bh rfl rfl λe4 t4 k4=>?_
 have q4:=t4.size
 intro L
 have y3:J e4 L:=J.push _ _
 have T3:=t3.trans t4;have T2:=t2.trans T3
 have g3:pd (bO (e.size::m.size::b) L) (.mk e4.size 0 4 4) NZ:=Qr [(xK [0] 0,.mk Z.size 0 1 1),(xK [0,0] 0,.mk e1.size 0 2 2),(xK [1,0] 0,.mk e2.size 0 2 2),(xK [0] 1,.mk e3.size 0 1 1)] (h V) (by simp;exact⟨k1.le (T2.da _),k2.le (T3.da _),k3.le (t4.da _),k4⟩) D rfl rfl
 have bS:L.size=e4.size+1:=by simp[L]
 clear_value L
 have w3:=y3.size
 refine qZ (S:=e.size::m.size::b) [] 0 (h V) (j V) bh rfl rfl λM0 x0 n0=>?_
 have z0:=x0.size
 have aM:=((((u1.trans U2).trans y2)).trans (t1.trans T2)).trans (y3.trans x0)
 have XM:J C M0:=((x5.trans X6).trans y1).trans aM
 have G1:=pd.le (aM.da _) g1
 have G2:=pd.le ((((t1.trans T2)).trans (y3.trans x0)).da _) g2
 have a_:=pd.le (x0.da _) g3
 have dM:Rd c d (P+1) M0:=(d2.ext x4).ext XM
 have L2:∀{g:I},C.size<=g.size->Lw c [e.size,m.size] g:=λs=>lw hr bJ
 have bK:c∈e.size::m.size::b:=by simp[u]
 have p:∀{g M':I}{y ac:Nat},C.size<=y->y<g.size->Fz [c] g M'->af M' y ac=af g y ac:=λh1 h2 ab=>aN (ab.same _ h2 bJ) _
 refine(cB dM V _).mono λ_ m5⟨r1,N,bA,a3,d5,f5⟩=>⟨(L2 V).dm f5,r1,N,bA,by simp at a3⊢;omega,?_⟩
 have aw:Le (bO (e.size::m.size::b) M0) (bO (e.size::m.size::b) m5):=f5.da (by simp[u])
 have bX:=f5.size
 obtain⟨T,aW⟩:=ag (l:=Uk) (k:=r1.toNat) (by simp[Uk]at a3⊢;omega)
 obtain⟨_,⟨pa,pn,pk,pz,rfl,pi⟩,pr⟩:=(pd.le aw G1).iP _ T aW
 have pg:=λv o s=>(eg.1 (pr v o s)).2
 refine⟨_,pg 0 _ rfl,_,pg 1 _ rfl,_,pg 2 _ rfl,_,pg 3 _ rfl,_,pg 4 _ rfl,?_⟩
 refine(cB d5 V _).mono λ_ m6⟨r2,N,bC,a5,d6,B⟩=>⟨(L2 V).dm B,r2,N,?_⟩
 have bY:=B.size
 have ay:Le (bO (e.size::m.size::b) m5) (bO (e.size::m.size::b) m6):=B.da (by simp[u])
 obtain⟨U,aX⟩:=ag (l:=Uu) (k:=r2.toNat) (by simp[Uu]at a5⊢;omega)
 obtain⟨_,⟨qa,qn,qk,qz,rfl,qi⟩,qr⟩:=(pd.le (aw.trans ay) G2).iP _ U aX
 have qg:=λv o s=>(eg.1 (qr v o s)).2
 refine⟨p bJ bJ B,p bJ bJ B,p bJ bJ B,p bJ bJ B,p bJ bJ B,bC,by simp at a5⊢;omega,_,qg 0 _ rfl,_,qg 1 _ rfl,_,qg 2 _ rfl,_,qg 3 _ rfl,_,qg 4 _ rfl,?_⟩
 refine(cB d6 V _).mono λ_ f⟨r3,N,bD,a7,d7,r⟩=>⟨(L2 V).dm r,r3,N,?_⟩
 have bZ:=r.size
 have az:Le (bO (e.size::m.size::b) m6) (bO (e.size::m.size::b) f):=r.da (by simp[u])
 obtain⟨W,aY⟩:=ag (l:=NZ) (k:=r3.toNat) (by simp[NZ]at a7⊢;omega)
 obtain⟨_,⟨ra,rn,rk,rz,rfl,ri⟩,rr⟩:=(pd.le ((aw.trans ay).trans az) a_).iP _ W aY
 have rg:=λv o s=>(eg.1 (rr v o s)).2
 refine⟨p bJ bJ r,p bJ bJ r,p bJ bJ r,p bJ bJ r,p bJ bJ r,p bJ bJ r,p bJ bJ r,p bJ bJ r,p bJ bJ r,p bJ bJ r,bD,by simp at a7⊢;omega,_,rg 0 _ rfl,_,rg 1 _ rfl,_,rg 2 _ rfl,_,rg 3 _ rfl,_,rg 4 _ rfl,?_⟩
 intro m8
 have a8:J f m8:=J.push _ _
 have br:ap (bO (e.size::m.size::b) f) (.mk L.size 0 0 0) []:=my _ _ _ _ _ _
 have gf:Gr (e.size::m.size::b) f m8 eY 5 Om (.mk f.size 0 4 4) [(xK [] 0,none),(T,none),(U,none),(W,none)]:=Bl Om.mono (h V) eY [((xK [] 0,none),[.s (.mk L.size 0 0 0),.i 0,.i 0,.i 0,.s .nil]),((T,none),[.s pa,.i T.aV,.i pn,.i pk,.s pz]),((U,none),[.s qa,.i U.aV,.i qn,.i qk,.s qz]),((W,none),[.s ra,.i W.aV,.i rn,.i rk,.s rz])] (by simp;exact⟨⟨_,_,_,_,rfl,br,D⟩,⟨_,_,_,_,rfl,pi.le (ay.trans az),D⟩,⟨_,_,_,_,rfl,qi.le az,D⟩,⟨_,_,_,_,rfl,ri,D⟩⟩) rfl rfl
 have s8:m8.size=f.size+1:=by simp[m8]
 clear_value m8
 let w:=[xK [] 0,T,U,W]
 have bG:f.size≠e.size:=V
 have bk:∀al∈w,(al.params,al.aV)∈Ow:=by
  simp only[w,aU,jS,Bc];rintro al (rfl|rfl|rfl|rfl)
  ·simp[xK,Ow]
  ·exact PO.1 _ (ar aW)
  ·exact PO.2.1 _ (ar aX)
  ·exact PO.2.2 _ (ar aY)
 have a9:Fz [c] e f:=(((x4.trans XM).fz [c]).trans f5).trans (B.trans r)
 have a2:∀{g:I}{an:O}{q:List (dw×Option Ex)}(ac:Nat)(aa:List Ce),Gr (e.size::m.size::b) f g eY 5 Om an q->Gr (e.size::m.size::b) f (ai g e.size ac aa) eY 5 Om an q:=λac aa Q=>Q.MB Om.mono ((Fz.aB [e.size] _).ai (Or.inl D) ac aa) D (by have:=Q.bg;simp;omega)
 intro m9
 have g9:Gr (e.size::m.size::b) f m9 eY 5 Om (.mk f.size 0 4 4) [(xK [] 0,none),(T,none),(U,none),(W,none)]:=a2 1 [.s (.mk f.size 0 4 4)] gf
 have r9:Rs c d e (P+4) m9:=(Rs.mk (a9.then a8) (d7.ext a8)).put d2 (ad _) 1 [.s (.mk f.size 0 4 4)]
 have s9:m9.size=m8.size:=av _ _ _ _
 clear_value m9
 intro aH
 have aq:J m9 aH:=J.push _ _
 have bu:ap (bO [c] aH) (.mk m9.size 0 5 5) [4,4,3,2,4]:=ap.lit aE _ bJ rfl rfl D
 clear_value aH
 have bV:=aq.size
 refine(kN (r9.r.ext aq) V bu D).mono λ_ bv⟨mn,N,bq,bg,am⟩=>⟨(L2 V).dm am,mn,N,?_⟩
 have bW:=am.size
 have bI:2<=mn/\mn<=4:=by simp at bq;omega
 obtain⟨n,rfl⟩:∃n:Nat,mn=n:=⟨mn.toNat,V⟩
 have bn:O.cut (.mk f.size 0 4 4) (Int.toNat 0) (Int.toNat n) 5=.mk f.size 0 n 4:=by simp[O.cut]
 rw[bn]
 refine⟨bh,V,bJ,?_⟩
 intro ak
 have bj:Gr (e.size::m.size::b) f ak eY 5 Om (.mk f.size 0 n 4) ([(xK [] 0,none),(T,none),(U,none),(W,none)].take n):=Gr.Zt bh (a2 1 [.s (.mk f.size 0 n 4)] ((g9.ext Om.mono aq).dW Om.mono am (by simp[u];omega))) V
 have bB:Rs c d e (P+5) ak:=((r9.ext aq).to am bg).put d2 (ad _) 1 [.s (.mk f.size 0 n 4)]
 have bM:ak.size=bv.size:=av _ _ _ _
 clear_value ak
 have aZ:(w.take n).length=n:=by simp[w];omega
 have gp:GP A (w.take n):=⟨aT,V,V,λal i=>bk al (fR i)⟩
 have ew:cW ((n:Int) -1)=n -1:=aQ V V
 rw[ew]
 refine⟨λab g=>∃(i:Nat)(q:List (dw×Option Ex)),ab=(i:Int) -1/\i<=n/\Gr (e.size::m.size::b) f g eY 5 Om (.mk f.size 0 n 4) q/\q.map (·.1)=w.take n/\(∀(v:Nat)(x:dw×Option Ex),q[v]? =some x->i<=v->∃t,x.2=some t/\WY A n x.1.params.length t)/\Rs c d e (P+5+(n -i)*(300+40*Cg 18)) g/\ak.size<=g.size,λab _=>(ab+1).toNat,⟨n,_,rfl,ad _,bj,by rw[MY];rfl,λv x F s=>by have:=ax F;simp at this;omega,by rw[PD,PE];exact bB,ad _⟩,?_⟩
 rintro ab g ⟨i,q,rfl,bH,Q,hl,aB,ae,zM⟩
 have bp:q.length=n:=by rw[<-aZ,<-hl];simp
 have gy:=Q.bg
 simp only[O.jm]at gy
 have aR:f.size∉e.size::m.size::b:=λs=>by have:=h (g:=C) (ad _) _ s;omega
 refine dit (λs=>?_) λs=>?_
 ·obtain⟨i,rfl⟩:∃G,i=G+1:=⟨i -1,V⟩
  have ek:((i+1:Nat):Int) -1=(i:Int):=V
  rw[ek]
  obtain⟨x,hx⟩:=ag (l:=q) (k:=i) V
  have aF:(w.take n)[i]? =some x.1:=by rw[<-hl];simp[hx]
  have bt:pd (bO [c] g) (.mk f.size 0 n 4) (w.take n):=by
   have H:=Q.nE Om.mono aR bh V;rw[<-hl];refine⟨bJ,H.cap,H.fS,λG aL hy=>?_⟩;simp only[cQ,jv]at hy;obtain⟨ah,hz,rfl⟩:=hy;obtain⟨aa,⟨K,i1,i2,i3,rfl,ha,-⟩,aG⟩:=H.iP G ah hz;have a0:=jL g (S:=e.size::m.size::b) (c:=[c]) (by simp[u]);exact⟨_,⟨K,_,_,_,rfl,ha.le a0⟩,a0.iP aG⟩
  have bo:cx (bO [c] g) z A:=aS.le ((jL e (c:=[c]) (by simp[u])).trans (fh ae.f))
  have hB:(n -(i+1))*(300+40*Cg 18)+(300+40*Cg 18)=(n -i)*(300+40*Cg 18):=by rw[<-pU];congr 1;omega
  have bl:(n -i)*(300+40*Cg 18)<=4*(300+40*Cg 18):=db _ V
  have bs:i=0->x.1.params.length=0:=λR=>by subst R;obtain⟨n',rfl⟩:∃n',n=n'+1:=⟨n -1,V⟩;simp[w]at aF;rw[<-aF];rfl
  have bm:∀o∈f.size::e.size::m.size::b,o<g.size:=bR (h (g:=g) V) (ad _) gy.2
  refine XP.kk (LU (f:=f.size::e.size::m.size::b) bm (by simp[u]) ⟨ae.r,bo,bt,gp⟩ V aF bs) (L2 V) λan t M1 hs E bi au=>?_
  have bT:=au.size
  intro bw aI
  obtain⟨aK,-,bU⟩:=km (M:=M1) (d:=bw) (c:=aI) rfl rfl rfl
  clear_value aI
  have aP:=(Q.dW Om.mono au (by simp[u];omega)).ext Om.mono aK
  obtain⟨aa,⟨K,i1,i2,i3,rfl,ha,-⟩,jg⟩:=aP.cells hx
  have bx:=jg 0 _ rfl;have bz:=jg 1 _ rfl
  refine⟨V,bJ,K,bx,V,bJ,_,bz,V,bJ,?_⟩
  obtain⟨wr,gs,-,bL⟩:=aP.set Om.mono (X:=List.range f.size) ⟨V,λy hb hn=>absurd (List.mem_range.2 hb) hn⟩ (k:=i) V (a:=(x.1,some t)) (cs:=[.s K,.i x.1.aV,.i t.op,.i t.bN,.s an]) ⟨K,_,_,_,rfl,ha,λe' aV=>by simp at aV;subst aV;exact⟨rfl,rfl,fw.le (aK.da _) hs⟩⟩
  refine⟨wr,?_⟩
  intro aV
  have bN:aV.size=aI.size:=av _ _ _ _
  have a4:Rs c d e (P+5+(n -(i+1))*(300+40*Cg 18)+300+40*Cg 18) aV:=((ae.to au bi).ext aK).put d2 (by show e.size<=f.size;omega) _ _
  refine⟨λy hb=>bd _ _ _ _ (by simp at hb;show y≠f.size;omega),⟨i,q.set i (x.1,some t),aQ V V,V,gs,?_,λv aL F bF=>?_,⟨a4.f,a4.r.mono V⟩,V⟩,?_⟩
  ·rw[tG,NL (by simp[hx]),hl]
  ·rw[jt]at F
   split at F
   ·rename_i e';subst e';rw[ao V]at F;simp at F;subst F
    have:(w.take n).length=n:=aZ
    rw[this]at E;exact⟨t,rfl,E⟩
   ·exact aB v aL F V
  ·rw[aQ V V];show((i:Int) -1+1).toNat<((i:Int)+1).toNat;omega
 ·have R:i=0:=V
  subst R
  have au:Le (bO (e.size::m.size::b) g) (bO b (ai g m.size 0 [.s z,.s (.mk f.size 0 n 4)])):=cz D λo hc=>by simp[hc]
  have H:=Q.nE Om.mono aR bh V
  have bl:(n -0)*(300+40*Cg 18)<=4*(300+40*Cg 18):=db _ V
  have F:Rs c d m (P+5+(n -0)*(300+40*Cg 18)) g:=⟨F2.trans ae.f,ae.r⟩
  have F:=F.put R (ad _) 0 [.s z,.s (.mk f.size 0 n 4)]
  have aI:(q.map λx=>(x.1,x.2.getD (.mk 0 0 []))).map (·.1)=w.take n:=by rw[Wt,<-hl];rfl
  refine⟨z,.mk f.size 0 n 4,A,q.map λx=>(x.1,x.2.getD (.mk 0 0 [])),rfl,aS.le ?_,⟨bJ,H.cap,H.fS,λG aL hy=>?_⟩,⟨by rw[aI];exact gp,λx hx=>?_⟩,F.r.mono V,F.f⟩
  ·exact(ae.f.da (by simp[u])).trans ((cz D λo hc=>by simp[hc]))
  ·simp only[cQ,jv]at hy
   obtain⟨ah,hz,rfl⟩:=hy
   obtain⟨t,E,hf⟩:=aB G ah hz (eJ _)
   obtain⟨aa,⟨K,i1,i2,i3,rfl,ha,hb⟩,aG⟩:=H.iP G ah hz
   obtain⟨rfl,rfl,aF⟩:=hb t E
   exact⟨_,⟨K,i3,by simp[E],ha.le au,by simp only[E,vh];exact fw.le au aF⟩,au.iP aG⟩
  ·simp only[Wu]at hx
   obtain⟨ah,hz,rfl⟩:=hx
   obtain⟨G,K⟩:=List.mem_iff_getElem?.1 hz
   obtain⟨t,E,hf⟩:=aB G ah K (eJ _)
   simp only[E,vh,dR,bp];exact hf
end
end
structure Oe(S:List Nat)(m0 m:I)(lb:Nat)(s:O)(l:List cR)(sc:Nat):Prop where
 box:cF m lb ly [.s s,.i sc]
 gr:GS (lb::S) m0 m s l
 up:m0.size<=lb
def Oe.ext{S:List Nat}{c m b:I}{a d:Nat}{s:O}{l:List cR}(h:Oe S c m a s l d)(x:J m b):Oe S c b a s l d:=⟨h.box.ext x,h.gr.ext gH.mono x,h.up⟩
def Oe.ne{S:List Nat}{b m:I}{a c:Nat}{s:O}{l:List cR}(h:Oe S b m a s l c):s.F≠a:=h.gr.ne h.box bh
def Z3(S:List Nat)(f m:I)(c:Nat)(s:O)(P:List cR->Nat->Prop)(d:I):Prop:=∃a b e,Oe S f d c a b e/\P b e/\Fz [c,s.F] m d/\(a.F=s.F\/m.size<=a.F)
def KJ{S:List Nat}{n e:I}{b f:Nat}{s w E:O}{l:List cR}{x:cR}(q:Oe S n e b s l f)(C:n.size<=e.size)(R:ap (bO (s.F::b::S) e) w x.args)(T:nD (bO (s.F::b::S) e) E x.bE)(t:l.length<=1000000)(hs:f<=1000000):
 aO cw 309 [vp b 0,oW x w E] e λaa X=>aa=vi (f:Nat)/\Z3 S n e b s (λc d=>c=l++[x]/\d=f+1) X:=by
 apply wg (b,0)
 simp -zeta only[aD,aC]
 intro i
 have k:J e i:=J.push _ _
 have s1:i.size=e.size+1:=by simp[i]
 clear_value i
 have g:=q.ext k
 have hy:=g.gr.bg
 have U:=g.ne
 have K:=g.box.lt
 have ae:=q.box.lt
 have af:=q.gr.bg
 refine⟨s,g.box.cp 0,?_⟩
 intro Z
 have L:J i Z:=J.push _ _
 refine⟨aN (L.same _ K) _,?_⟩
 have P:GS (b::S) (e.extract 0 n.size) i s l:=Gr.bY gH.mono g.gr (λM t=>Or.inl t) (by rw[nL C];exact ad _)
 refine Gr.kv (g:=[.i 0,.i 0,.i 0,.s .nil,.s .nil]) (k:=x) gH.mono bh P (((J.Lr C).trans k).fz []) ⟨w,E,rfl,R.le (k.da _),eH.le T (k.da _) λ_ _=>rC.le (k.da _)⟩ V λp u G ac ab F=>?_
 have A:cF u b ly [.s s,.i f]:=g.box.congr (F b K (kd U))
 have W:=G.ne A bh
 refine⟨λc d=>?_,A.fH D,?_⟩
 ·simp at d;subst d
  rw[F e.size V V,L.same _ V]
 intro j
 have B:cF j b ly [.s p,.i f]:=cF.ai (m:=u) (o:=0) (r:=[.s p]) A
 have y:∀c,c≠b->j[c]? =u[c]? :=λc d=>bd _ _ _ _ d
 have s4:j.size=u.size:=av _ _ _ _
 have N:cW ((f:Int)+1)=(f+1:Nat):=by rw[aQ V V];rfl
 refine⟨λc d=>y c (by simp at d;omega),_,B.cp 1,B.fH D,?_⟩
 rw[N]
 intro v
 have H:cF v b ly [.s p,.i (f+1:Nat)]:=cF.ai (m:=j) (o:=1) (r:=[.i (f+1:Nat)]) B
 have z:∀c,c≠b->v[c]? =j[c]? :=λc d=>bd _ _ _ _ d
 have s5:v.size=j.size:=av _ _ _ _
 refine⟨λc d=>z c (by simp at d;omega),_,H.cp 1,?_⟩
 have Q:GS (b::S) n v p (l++[x]):=by
  refine Gr.bY gH.mono (G.re gH.mono (Y:=[b]) ⟨V,λc d h=>?_⟩ D (by simp;exact W) λc d=>Or.inl d) (λM t=>Or.inl t) (by rw[nL C];exact ad _);have:c≠b:=by simpa using h
  exact(z c this).trans (y c this)
 refine⟨by rw[aQ V V];congr 1;omega,p,_,_,⟨H,Q,q.up⟩,⟨rfl,rfl⟩,⟨V,λc d h=>?_⟩,by have:=ab.2;omega⟩
 simp only[aU,jS,Bc,tH]at h
 rw[z c h.1,y c h.1,F c V h.2,k.same c d]
section
variable{K b e d:Nat}{a:List cR}
structure LW(ds:List bB)(nf sc:Nat)(a:List cR)(K b sc':Nat):Prop where
 wl:WL ds nf False sc a
 dd:sc'=sc+dc a
 sz:sw a<=K
 om:sc'<=sc+b
def LW.aB(b:List bB)(c a:Nat):LW b c a [] 0 0 a:=⟨.nil _ _ _ _,D,D,V⟩
def LW.fg{c:List bB}{f g i:Nat}(h:LW c f g a K b i)(k:K<=e)(j:b<=d):LW c f g a e d i:=⟨h.wl,h.dd,by have:=h.sz;omega,by have:=h.om;omega⟩
def LW.trans{f:List bB}{g j k l:Nat}{i:List cR}(h:LW f g j a K b k)(c:LW f g k i e d l):LW f g j (a++i) (K+e) (b+d) l:=
 ⟨h.wl.append (h.dd▸c.wl),by rw[c.dd,h.dd,cT];omega,by have:=h.sz;have:=c.sz;rw[dy];omega,by have:=h.om;have:=c.om;omega⟩
def LW.kK{b:List bB}{c a:Nat}{x:cR}(h:WS b c False a x):LW b c a [x] x.w 1 (a+1):=⟨.kK h,by rw[kC,sQ,Zu h],by simp[sw],V⟩
section
variable{S:List Nat}{f m g:I}{c h k:Nat}{s j:O}{l i:List cR}
def Oe.fX(a:Oe S f m c s l h)(e:J f m)(d:Fz [c,s.F] m g):J f g:=by
 have k:=a.gr.bg;have j:=a.up;exact Fz.ext (((e.fz [c,s.F]).trans d).CY λi b=>Or.inr (by simp at b;omega))
def Oe.re{S' Y:List Nat}(d:Oe S f m c s l h)(j:Fz Y m g)(e:∀b∈Y,b∈S/\b≠c/\b≠s.F)(k:∀b∈S',b∈S\/m.size<=b):Oe S' f g c s l h:=
 ⟨d.box.congr (j.same _ d.box.lt λi=>(e _ i).2.1 rfl),d.gr.re gH.mono j (λb a=>aj _ (e b a).1) (λi=>(e _ i).2.2 rfl) λb a=>(List.mem_cons.1 a).elim (λi=>Or.inl (by rw[i];exact ba)) λa=>(k b a).imp (aj _) id,d.up⟩
end
structure LS(S:List Nat)(m0 m:I)(lb:Nat)(s:O)(l:List cR)(sc:Nat)(IK:O)(ev:List Int):Prop where
 em:Oe S m0 m lb s l sc
 x:J m0 m
 fX:∀c∈S,c<m.size
 IK:ap (bO [s.F,lb] m) IK ev
 sm:∀y∈ev,0<=y/\y<(sc:Int)
def ZA(e:Ex)(t:O):Value:=.agg #[vi e.op,vi e.bN,O.v t]
def TL(b:List bB)(i:Nat)(e:Ex):Prop:=∀(S:List Nat)(c m:I)(f:Nat)(s:O)(l:List cR)(g:Nat)(IK:O)(d:List Int)(h p t:O),LS S c m f s l g IK d->WX b i d.length e->g+4*e.n<=2000->d.length+4*e.n<=2000->l.length+4*e.n<=2000->cx c h b->dP b->fw c t e.bE->
 aO cw 276 [vp f 0,.agg #[O.v h,O.v p],ZA e t,O.v IK] m λv n=>∃r:Int,v=vi r/\Z3 S c m f s (λk j=>∃a,k=l++a/\LW b i g a (3*e.n -1) e.n j/\0<=r/\r<(j:Int)) n
def Y4(a:List bB)(g:Nat)(e:Ex):Prop:=∀(S:List Nat)(m:I)(c:Nat)(IK:O)(b:List Int)(f p t:O),(∀d∈S,d<m.size)->ap m IK b->(∀y∈b,0<=y/\y<(c:Int))->WX a g b.length e->c+4*e.n<=2000->b.length+4*e.n<=2000->cx m f a->dP a->fw m t e.bE->
 nk 247 [.agg #[O.v f,O.v p],ZA e t,O.v IK,vi c] m S λd=>WB a g False c d/\d.w<=3*e.n
def _root_.Go.Vc.Ex.MC(e:Ex):1<=e.n:=by rw[Ex.XB];omega
def CO{t:List bB}{x:Nat}{e:Ex}(l:TL t x e):Y4 t x e:=by
 intro i w o IK G E X aa u M P R ae ab L Q N;apply yK;simp -zeta only[aD,aC];intro U f b c d;obtain⟨g,hl,s1,s2,s3⟩:=pX (a:=U) (b:=f) (c:=b) rfl rfl rfl;have q:J b c:=J.push _ _;have s4:c.size=b.size+1:=by simp[c]
 have I:GS ((b.size+1)::f.size::i) b c (.mk b.size 0 0 0) []:=Gr.new _ (ad _) _ _ _;have h:J c d:=J.push _ _;have A:cF d c.size ly [.s (.mk b.size 0 0 0),.i o]:=cF.push _ _ _;clear_value d c b;have X3:=g;have r:=(g.trans q).trans h;have z5:=h.size;have K:∀s∈f.size::i,s<d.size:=bR u r.size V;have T:Oe (f.size::i) b d c.size (.mk b.size 0 0 0) [] o:=⟨A,s4▸I.ext gH.mono h,V⟩;have hp:=e.MC;refine(l (f.size::i) b d c.size _ [] o IK G E X aa ⟨T,q.trans h,K,(M.le (((g.trans q).trans h).bO (S:=[]) bJ|>λl=>(zJ w).trans l)),P⟩ R V V bJ (L.le g.le) Q (fw.le g.le N)).mono λag W⟨y,H,z,n,af,j,⟨a,F,p,Y,Z⟩,k,b6⟩=>?_;subst F;have z6:=k.size;have B:J w W:=Fz.ext (((r.fz [c.size,b.size]).trans k).CY λC m=>by simp at m;omega);refine⟨k.dm λC m=>by simp at m;simp;omega,y,H,z,j.box.cp 0,?_⟩;intro m7;have hz:=p.sz;have ac:=fO n;refine⟨z,.mk n y,rfl,eI.le (cz D λs v=>by simp[v]) (j.gr.nE gH.mono (λv=>?_) bh (by show n.length<=_;omega)),⟨WB.of p.wl ⟨Y,by rw[<-p.dd];exact Z⟩,by rw[Bk.qA];omega⟩,B.ai V _ _⟩;have hy:=j.gr.bg;have O:=j.ne;simp only[aU]at v;rcases v with e|e|e
 ·exact O e
 ·omega
 ·have:=u _ e;omega
end
section
variable{M c:I}{a:Nat}
def OL{m:I}{t:O}{l:List Ex}(h:fw m t l){k:Nat}{x:Ex}(f:l[k]? =some x)(a:J m M):∃u,fw m u x.bE/\af M t.F (t.off+k*3)=some (vi x.op)/\af M t.F (t.off+k*3+1)=some (vi x.bN)/\af M t.F (t.off+k*3+2)=some (O.v u):=
 let⟨u,b,c,d,e⟩:=h.E f;⟨u,b,a.af c,a.af d,a.af e⟩
def gx(x:J M c){o:Nat}{v:Value}(h:af M a o=some v):af c a o=af M a o:=by rw[x.af h,h]
def gl(x:J M c)(h:a<M.size)(o:Nat):af c a o=af M a o:=aN (x.same a h) o
def SK{r:List bB}{nf:Nat}{q bN:Int}{bE:List Ex}(ih:∀u∈bE,TL r nf u):TL r nf (.mk q bN bE):=by
 intro v m0 G d B ac sc IK L ao au bv E hw bt bl br hd ht hk;have U:=hw.aW;simp only[ZA,Ex.Vg,Ex.SS,Ex.QV,Ex.Rt]at*;apply tT (d,0);simp -zeta only[aD,aC];intro aq t;obtain⟨K,hl⟩:=dG (a:=aq) (c:=t) rfl rfl;have s1:aq.size=G.size+1:=by simp[aq]
 have s2:t.size=G.size+2:=by simp[t,s1]
 clear_value t;have aV:=hk.len;have bp:=hk.fS;have bq:=E.em.box.lt;have g:=E.em.gr.bg;have bs:=E.em.ne;have da:∀{M:I}{e:O},Fz [d,B.F] G M->(e.F=B.F\/G.size<=e.F)->Le (bO [B.F,d] G) (bO [e.F,d] M):=λaf f=>px λa aK hn=>by
  simp at hn;exact⟨by simp;rcases f with u|u<;>omega,af.same a aK bJ⟩
 have st:∀{aA:List Nat}{M:I}{e:O}{l':List cR}{H:Nat},Oe aA m0 M d e l' H->Fz [d,B.F] G M->(e.F=B.F\/G.size<=e.F)->(∀o∈aA,o<M.size)->sc<=H->LS aA m0 M d e l' H IK L:=λam af f hS hs=>⟨am,E.em.fX E.x af,hS,E.IK.le (da af f),λy g=>⟨(E.sm y g).1,by have:=(E.sm y g).2;omega⟩⟩;have dm:∀{M c:I}{e:O},t.size<=M.size->(e.F=B.F\/t.size<=e.F)->Fz [d,e.F] M c->eE [aq.size,G.size] M c:=λhz f af=>af.dm λa aK=>by simp at aK;simp;omega
 have an:∀{M c:I},t.size<=M.size->J M c->eE [aq.size,G.size] M c:=λhz bg=>bg.dm λa f=>by simp at f;omega
 have fr:∀{M c:I}{e:O},Fz [d,B.F] G M->(e.F=B.F\/t.size<=e.F)->Fz [d,e.F] M c->Fz [d,B.F] G c:=λaf f T=>af.rS T λy g=>by simp at g⊢;omega
 refine⟨λav=>?_,λav=>⟨λal=>?_,λal=>⟨λay=>?_,λay=>?_⟩⟩⟩
 ·simp only[aF]at av;obtain⟨i,p⟩:=U.1.Tj av;have j:=E.IK.len;obtain⟨y,w⟩:=ag (l:=L) (k:=bN.toNat) V;have h:=E.sm y (ar w);exact⟨i,V,y,(eg.1 ((E.IK.le (K.da _)).E w)).2,y,rfl,B,ac,sc,E.em.ext K,⟨[],D,(LW.aB r nf sc).fg V V,h⟩,K.fz _,Or.inl rfl⟩
 ·simp only[aF]at al;have h2:=U.1.JA al;obtain⟨e0,ab⟩:=ag (l:=bE) (k:=0) V;obtain⟨j,h⟩:=ag (l:=bE) (k:=1) V;have aR:en bE=e0.n+j.n:=by
   obtain⟨z,a,rfl⟩:∃z a,bE=[z,a]:=by
    match bE,h2 with
    |[z,a],_=>exact⟨z,a,rfl⟩
   simp at ab h;subst ab h;simp[en]
  have p0:=e0.MC;have p1:=j.MC;obtain⟨u0,aM,g0,g1,g2⟩:=OL hk ab (E.x.trans K);refine⟨bh,V,_,g0,_,g1,_,g2,?_⟩;have S2:=st (E.em.ext K) (K.fz _) (Or.inl rfl) (λo s=>by have:=E.fX o s;omega) (ad _);refine(ih e0 (ar ab) v m0 t d B ac sc IK L ao au u0 S2 (by have:=U.2 0 e0 ab;simpa[xb]using this) V V V hd ht aM).mono λaa p⟨W,aH,P,l3,Z,N,⟨ai,aB,w3,bd,bf⟩,f3,b3⟩=>⟨dm (ad _) (Or.inl rfl) f3,W,aH,?_⟩;subst aB;have F3:=fr (K.fz _) (Or.inl rfl) f3;have z3:=f3.size;have X3:=E.em.fX E.x F3;obtain⟨u1,aI,k0,k1,k2⟩:=OL hk h X3;have a3:=w3.om;have a_:=fO ai;have bc:=w3.sz;refine⟨bh,V,_,k0,_,k1,_,k2,?_⟩;have S3:=st N F3 V (λo s=>by have:=E.fX o s;omega) (by have:=w3.dd;omega);have A:∀o∈[P.F,d],o<p.size:=λo s=>by have:=N.gr.bg;have:=N.box.lt;simp at s;omega
  intro F;have i:J p F:=J.push _ _;have aJ:ap (bO [P.F,d] F) (.mk p.size 0 1 1) [W]:=ap.lit aE _ A rfl rfl D;clear_value F;refine⟨gx i k0,gx i k1,gx i k2,gl i V _,gl i V _,gl i V _,?_⟩;have z4:=i.size;refine(eG (S:=[P.F,d]) (λo s=>i.lt (A o s)) (S3.IK.le (i.da _)) aJ bJ).mono λaa m5⟨Q,l5,e5,g5,q5,C⟩=>⟨an V C,Q,e5,gx C (i.af k0),gx C (i.af k1),gx C (i.af k2),gl C V _,gl C V _,gl C V _,?_⟩;subst q5;have z5:=C.size;have S5:LS v m0 m5 d P (ac++ai) Z Q (L++[W]):=⟨(N.ext i).ext C,(X3.trans i).trans C,λo s=>by have:=E.fX o s;omega,GI.done g5 (λo s=>i.lt (A o s)) bJ,λy g=>by
   rcases List.mem_append.1 g with g|g
   ·have:=E.sm y g;have:=w3.dd;omega
   ·simp at g;omega⟩
  refine(ih j (ar h) v m0 m5 d P (ac++ai) Z Q (L++[W]) ao au u1 S5 (by have:=U.2 1 j h;simpa[xb,al]using this) V bJ bJ hd ht aI).mono λaa m6⟨r1,az,s6,l6,aP,o6,⟨aL,ah,w6,aN,aO⟩,R,b6⟩=>⟨dm V V R,r1,az,r1,rfl,s6,l6,aP,o6,⟨ai++aL,by rw[ah,fm],(w3.trans w6).fg V V,aN,aO⟩,fr ((F3.then i).then C) V R,V⟩
 ·simp only[bT,aF]at ay;have h3:q=7->bE.length=3:=U.1.Yw;have aJ:q=8->bE.length=1+(cq r bN).length/\0<(cq r bN).length:=U.1.all;have a7:1<=bE.length:=by rcases ay with h|h;have:=h3 h;omega;have:=aJ h;omega
  obtain⟨e0,ab⟩:=ag (l:=bE) (k:=0) V;have bm:en (bE.take 1)=e0.n:=by have:=JE ab;simpa using this
  have bn:=QP bE 1;have p0:=e0.MC;obtain⟨u0,aM,g0,g1,g2⟩:=OL hk ab (E.x.trans K);refine⟨bh,V,_,g0,_,g1,_,g2,?_⟩;have S2:=st (E.em.ext K) (K.fz _) (Or.inl rfl) (λo s=>by have:=E.fX o s;omega) (ad _);refine(ih e0 (ar ab) v m0 t d B ac sc IK L ao au u0 S2 (by have:=U.2 0 e0 ab;simpa[xb]using this) V V V hd ht aM).mono λaa p⟨W,aH,P,l3,Z,N,⟨ai,aB,w3,bd,bf⟩,f3,b3⟩=>⟨dm (ad _) (Or.inl rfl) f3,W,aH,?_⟩;subst aB;have F3:=fr (K.fz _) (Or.inl rfl) f3;have z3:=f3.size;have X3:=E.em.fX E.x F3;have a3:=w3.om;have a_:=fO ai;have bc:=w3.sz;have S3:=st N F3 V (λo s=>by have:=E.fX o s;omega) (by have:=w3.dd;omega);have aI:∀o∈P.F::d::v,o<p.size:=bR (bR (m:=G) E.fX V N.box.lt) (ad _) N.gr.bg.2;intro F;have i:J p F:=J.push _ _;have g4:GB (P.F::d::v) p F (.mk p.size 0 0 0) []:=GB.new _ p;have s4:F.size=p.size+1:=by simp[F]
  clear_value F;refine(gU (e:=[p.size]) bJ (hd.le (X3.trans i).le) ht bN).mono λaa m5⟨cs,cl,ec,s,qc,C⟩=>⟨an V C,cs,ec,?_⟩;subst qc;have bk:=s.len;have z5:=C.size;refine P3 (a:=bE.length) (aV▸hk.fS) a7 (λj ks M=>∃A,GB (P.F::d::v) p M ks A/\A.length+1=j/\(∀(ah:Nat)(a:Bk),A[ah]? =some a->WB r nf False (Z+Be r q bN ah) a)/\bw A+3*e0.n<=3*en (bE.take j)/\J p M/\Fz [p.size] m5 M/\(ks.F=p.size\/m5.size<=ks.F)) ⟨[],g4.ext rC.mono C,rfl,D,bJ,i.trans C,Fz.aB _ _,Or.inl rfl⟩ ?_;rintro j ks M a0 μ bo hj ⟨A,T,a9,aW,a4,xM,fM,aT⟩ aN
  have zM:=xM.size;have aS:=T.bg;have oM:=N.box.ext xM;refine dit (λh=>?_) λh=>?_
  ·have ew:cW ((j:Int) -1)=((j -1:Nat):Int):=by rw[aQ V V];omega
   refine⟨λaX c=>J M c/\aX=(Be r q bN (j -1):Nat),⟨λh8=>?_,λh8=>⟨J.aB _,by simp only[ak]at h8;rw[JV h8];rfl⟩⟩,?_⟩
   ·simp only[aF]at h8;have ha:=aJ h8;obtain⟨y,w⟩:=ag (l:=cq r bN) (k:=j -1) V;rw[ew];refine⟨V,V,y,(eg.1 ((s.le (fM.da D)).E w)).2,?_⟩;refine(dH (e:=[]) D (hd.le ((X3.trans xM).le.trans (zJ _))) ht y).mono λaa m6⟨R,l6,e6,h6,q6,Q⟩=>⟨an V Q,R,e6,Q,?_⟩;subst q6;rw[JU h8 w,h6.len]
   rintro aX m6 ⟨Q,rfl⟩;obtain⟨u,he⟩:=ag (l:=bE) (k:=j) V;have X6:=(X3.trans xM).trans Q;obtain⟨aP,hu,k0,k1,k2⟩:=OL hk he X6;have B6:=oM.ext Q;have z6:=Q.size;refine⟨V,V,_,k0,_,k1,_,k2,_,B6.cp 1,_,B6.cp 1,?_⟩;have bi:=PQ ht q bN (j -1);have a6:=JE he;have a5:=QP bE (j+1);have ba:=u.MC;refine(lS (S:=[]) (d:=m6) D Z (Be r q bN (j -1)) V).mono λaa m7⟨s7,l7,e7,g7,q7,w⟩=>⟨an V w,s7,e7,gx w (B6.cp 1),gx w k0,gx w k1,gx w k2,gl w V _,gl w V _,gl w V _,?_⟩;have z7:=w.size;have a2:ap (bO [] m7) IK L:=(S3.IK.le ((((xM.trans Q).trans w).da _).trans (bD _ _))).le (zJ _);refine(eG (S:=[]) D a2 (GI.done g7 D V) V).mono λaa m8⟨s8,l8,e8,g8,q8,R⟩=>⟨an V R,s8,e8,gx R ((B6.ext w).cp 1),gx R (w.af k0),gx R (w.af k1),gx R (w.af k2),gl R V _,gl R V _,gl R V _,?_⟩;subst q8;have z8:=R.size;have a8:(L++l7).length=L.length+Be r q bN (j -1):=by simp;exact q7.2
   rw[aQ (b:=(Z:Int)+(Be r q bN (j -1):Nat)) V V,show(Z:Int)+(Be r q bN (j -1):Nat)=((Z+Be r q bN (j -1):Nat):Int)by omega];have az:=(Q.trans w).trans R;have bb:WX r nf (L++l7).length u:=by
    have:=U.2 j u he;rw[a8];obtain⟨j',rfl⟩:∃j',j=j'+1:=⟨j -1,V⟩;have a1:xb r q bN (j'+1)=Be r q bN j':=ae (by simpa using al);rwa[a1]at this
   refine(CO (ih u (ar he)) (ks.F::P.F::d::v) m8 _ s8 (L++l7) ao au aP (bR (λo s=>by have:=aI o s;omega) (ad _) V) ((GI.done g8 D V).le (bD _ _)) (λy g=>?_) bb V V (hd.le ((X6.trans w).trans R).le) ht (fw.le ((X6.trans w).trans R).le hu)).mono λaa m9⟨s9,b9,e9,h9,q9,x9⟩=>⟨an V x9,s9,_,e9,?_⟩
   ·rcases List.mem_append.1 g with g|g
    ·have:=S3.sm y g;omega
    ·have:=q7.1 y g;omega
   intro bu;have z9:=x9.size;have bj:=pY A;refine GB.kv (c:=b9) ((T.ext rC.mono az).ext rC.mono x9) (((xM.trans az).trans x9).fz []) h9 V λaO c g' f' z' q'=>⟨λa f=>by
    have aR:a<p.size:=by simp at f;omega
    rw[f'.ext.same a aR,(((xM.trans az).trans x9).aK _).same a aR],aN V _ _ ⟨_,g',by rw[aZ,List.length_singleton];omega,λah a hi=>?_,?_,f'.ext,(fM.then (az.trans x9)).rS (Y:=[ks.F]) ⟨z'.1,λa f hn=>q' a f (by simpa using hn)⟩ (λy g=>by simp at g⊢;omega),by have:=fM.size;omega⟩⟩
   ·rcases be ah A.length with aL|aL
    ·rw[aw aL]at hi;exact aW ah a hi
    ·rw[aG aL]at hi;have:ah -A.length=0:=by have:=ax hi;simp at this;omega
     rw[this]at hi;simp at hi;subst hi;have:ah=j -1:=V;subst this;exact q9.1
   ·rw[oL,ud,zk];have:=q9.2;omega
  ·have R:j=bE.length:=V;subst R;rw[eZ]at a4;intro m6;have Q:J M m6:=J.push _ _;have aX:ap (bO (P.F::d::v) m6) (.mk M.size 0 1 1) [W]:=ap.lit aE _ (λo s=>by have:=aI o s;omega) rfl rfl D;have z6:=Q.size;have aT:nD (bO (P.F::d::v) m6) ks A:=nD.le (Q.da _) (T.done rC.mono aI bh (by have:=pY A;omega));clear_value m6;have X6:=xM.trans Q;refine(KJ (x:=⟨q,bN,0,[W],A⟩) (N.ext X6) (X3.trans X6).size aX aT bJ V).mono λaa m7⟨aR,s7,l7,a1,o7,⟨az,aL⟩,w,b7⟩=>⟨dm V V w,Z,aR,Z,rfl,s7,l7,a1,o7,⟨ai++[⟨q,bN,0,[W],A⟩],by rw[az,fm],?_,V,V⟩,fr (F3.then X6) V w,V⟩;have ws:WS r nf False Z ⟨q,bN,0,[W],A⟩:=⟨⟨Or.inl (by show 0<=q/\q<=11;omega),bJ,λ_=>rfl,⟨by show(0:Int)<=0;omega,by show(0:Int)<=_;omega⟩,λh=>by show A.length=2;have:=h3 h;omega,λh=>by show A.length=(cq r bN).length/\0<A.length;have:=aJ h;omega,λh=>by simp only at h;omega⟩,aW⟩;subst aL;exact(w3.trans (LW.kK ws)).fg (by rw[cR.mf];simp only[aY,dY];omega) V
 ·simp only[bz,ak]at ay;simp only[ak]at av al;have ho:=U.1.o;intro p;have x3:J t p:=J.push _ _;have g3:GI [] t p (.mk t.size 0 0 0) []:=GI.nil [] t;have aT:p.size=t.size+1:=by simp[p]
  clear_value p;have N:Oe (t.size::v) m0 p d B ac sc:=(E.em.ext K).re (x3.fz []) D λa f=>(List.mem_cons.1 f).elim (λh=>Or.inr V) Or.inl;refine dU (n:=bE.length) (aV▸hk.fS) (λj z M=>∃e H s o,Oe (z.F::v) m0 M d e (ac++s) H/\LW r nf sc s (3*en (bE.take j) -j) (en (bE.take j)) H/\GI [] t M z o/\o.length=j/\(∀y∈o,0<=y/\y<(H:Int))/\Fz [d,B.F] G M/\(e.F=B.F\/t.size<=e.F)/\t.size<=M.size) ⟨B,sc,[],[],by simpa using N,(LW.aB r nf sc).fg (eJ _) (eJ _),g3,rfl,D,(K.trans x3).fz _,Or.inl rfl,V⟩ ?_;rintro j z M a0 μ hj ⟨e,H,s,o,am,w,T,a9,ab,fM,f,zM⟩ aN
  have P:=E.em.fX E.x fM;have ai:=w.om;have aL:=w.dd;have aS:=T.bg;have C:z.F≠d:=T.ne am.box bh;have Kp:z.F≠e.F:=T.Kp am.gr bh;have aR:=fO s;have aB:=w.sz;have a5:=QP bE j;refine dit (λh=>?_) λh=>?_
  ·obtain⟨u,he⟩:=ag (l:=bE) (k:=j) V;obtain⟨aP,hu,k0,k1,k2⟩:=OL hk he P;have a6:=JE he;have aM:=QP bE (j+1);have ba:=u.MC;have az:=PX (bE.take j);rw[fY,iO V]at az;refine⟨V,V,_,k0,_,k1,_,k2,?_⟩;have SM:=st am fM V (bR (m:=G) E.fX V aS.2) V;refine(ih u (ar he) (z.F::v) m0 M d e (ac++s) H IK L ao au aP SM (by have:=U.2 j u he;rwa[YA V V]at this) V V bJ hd ht hu).mono λaa F⟨aO,er,s4,l4,aJ,o4,⟨aI,ah,w4,W,r1⟩,A,b4⟩=>⟨dm zM f A,aO,er,?_⟩;subst ah;have z4:=A.size;have F4:=fr fM f A;intro m5;have Z:GI [] t F z o:=GI.any (c:=[d,e.F]) ((GI.any (g:=[d,e.F]) T).MB tI.mono A (λ_ h=>h) (by simp;exact⟨C,Kp⟩));have aH:z.F≠s4.F:=Z.Kp o4.gr bh;refine GI.kv Z (X:=List.range t.size) ⟨V,λa f hn=>absurd (List.mem_range.2 f) hn⟩ D V λa' c g' f' z' q'=>?_;have Q:Fz [z.F] F c:=⟨z'.1,λa f hn=>q' a f (by simpa using hn)⟩;refine⟨λa f=>?_,aN V _ _ ⟨s4,aJ,s++aI,o++[aO],?_,(w.trans w4).fg V V,g',bJ,λy g=>?_,F4.rS Q λy g=>by simp at g⊢;omega,V,V⟩⟩
   ·simp at f;rw[q' a V V,(J.push F _).same a V]
   ·rw[<-fm];exact o4.re Q (by simp;exact⟨C,aH⟩) λa f=>(List.mem_cons.1 f).elim (λu=>by subst u;rcases z'.2 with u|u;exact Or.inl (by simp[u]);exact Or.inr u) λh=>Or.inl (aj _ h)
   ·have:=w4.dd;rcases List.mem_append.1 g with g|g
    ·have:=ab y g;omega
    ·simp at g;omega
  ·have R:j=bE.length:=V;subst R;rw[eZ]at w ai aB;have az:=PX bE;intro F;have i:J M F:=J.push _ _;have Z:z.F∉e.F::d::v:=by
    simp only[aU,tH];exact⟨Kp,C,λh=>by have:=E.fX _ h;omega⟩
   have ha:ap (bO (e.F::d::v) M) z o:=(GI.any (g:=e.F::d::v) T).nE tI.mono Z bh V;have oS:Oe v m0 M d e (ac++s) H:=am.re (Fz.aB [] _) D λa f=>Or.inl (aj _ f);have z4:=i.size;refine(KJ (x:=⟨q,bN,0,o,[]⟩) (oS.ext i) (P.trans i).size (ha.le (i.da _)) (my _ _ _ _ _ _) bJ V).mono λaa m5⟨W,s5,l5,ah,o5,⟨A,Q⟩,u,b5⟩=>⟨dm V f u,H,W,H,rfl,s5,l5,ah,o5,⟨s++[⟨q,bN,0,o,[]⟩],by rw[A,fm],?_,V,V⟩,fr (fM.then i) f u,V⟩;have ws:WS r nf False H ⟨q,bN,0,o,[]⟩:=⟨⟨Or.inl (by show 0<=q/\q<=11;omega),ab,λh=>by simp only at h;omega,⟨by show(0:Int)<=0;omega,by show(0:Int)<=_;omega⟩,λh=>by simp only at h;omega,λh=>by simp only at h;omega,U.1.call⟩,D⟩;subst Q;exact(w.trans (LW.kK ws)).fg (by rw[cR.mf];simp only[zk];omega) V
def SL{a:List bB}{c:Nat}:∀e:Ex,TL a c e:=Ex.ind λ_ _ _ b=>SK b
end
def HK{v:List Nat}{z:I}(hS:∀d∈v,d<z.size){Z am:O}{T:List bB}{U:List (dw×Ex)}(hd:cx z Z T)(hp:V1 z am U)(ac:V5 T U):uH 234 [.agg #[O.v Z,O.v am]] z v T λrs=>yd T rs False 95:=by
 apply AE;simp -zeta only[aD,aC];have ht:=sN ac.gp.ds;intro h a2;obtain⟨Q,hl⟩:=dG (a:=h) (c:=a2) rfl rfl;have s1:h.size=z.size+1:=by simp[h]
 clear_value a2;have aQ:=hp.len;have a1:U.length<=4:=by have:=ac.gp.om;simpa using this
 have a0:0<U.length:=by have:=ac.gp.iL;simpa using this
 refine(fJ (b:=h.size::v) (bR hS Q.size (hl _ D)) (hd.le Q.le) ht).mono λ_ ax⟨dd,e,aM,x3⟩=>?_;subst e;refine⟨x3.dm hl,_,rfl,?_⟩;intro p aV aH;have u2:=Q.trans x3;obtain⟨x5,B0,g0,s3,s5⟩:=kO (b:=p.size::h.size::v) iC.mono (d:=ax) (a:=p) (c:=aV) (h:=aH) rfl rfl rfl;clear_value aH;have ak:∀d∈[h.size,z.size],d<ax.size:=λd g=>x3.lt (hl d g);have aF:∀d∈h.size::v,d<ax.size:=λd g=>x3.lt (bR hS Q.size (hl _ D) d g);refine kJ (R:=λb c H=>∃Z Y rs,Value.agg #[O.v b,O.v c]=.agg #[O.v Z,O.v Y]/\eD (bO v H) Z Y T rs/\yd T rs False 95/\J z H) (t:=U.length) (f:=z) (b:=v) iC.mono bh bh hS ⟨V,ak _ D⟩ u2 s3 aM aQ V x5 B0 g0 (λ_ q=>q.params.length<=3/\q.cJ.length<=3/\WB T U.length False q.params.length q.body/\q.body.w<=95) (λb u l' m' h1 h2 c f j=>⟨b,u,l',rfl,⟨h1,h2,ht,V⟩,⟨V,λq hq=>by obtain⟨t,s⟩:=List.mem_iff_getElem?.1 hq;rw[c];exact f t q s⟩,j⟩) λae H A l' aK μ aN aY xM aB an aW=>?_
 obtain⟨q,hq⟩:=ag (l:=U) (k:=ae) aN;obtain⟨aT,aZ⟩:=ac.Dj q (ar hq);have aR:q.1.params.length<=3:=(wE _ (ac.gp.dt q.1 (List.mem_map.2 ⟨q,ar hq,rfl⟩))).1;have v6:=u2.trans xM;obtain⟨cs,⟨au,aJ,rfl,ha,hk⟩,hr⟩:=hp.iP ae q hq;have aG:=ha.len;refine⟨V,V,_,v6.af (hr 0 _ rfl),_,v6.af (hr 1 _ rfl),_,v6.af (hr 2 _ rfl),_,v6.af (hr 3 _ rfl),_,v6.af (hr 4 _ rfl),?_⟩;intro m7 s;have hy:=aB.bg;have aX:=an.lt;have zM:=xM.size;obtain⟨x8,-,s8⟩:=km (M:=H) (d:=m7) (c:=s) rfl rfl rfl;clear_value s;have aa:∀d∈[H.size,h.size,z.size],d<s.size:=λd g=>by
  rcases List.mem_cons.1 g with e|e
  ·omega
  ·have:=ak d e;omega
 have w8:=v6.trans x8;have ah:∀{u:I},s.size<=u.size->∀d∈A.F::p.size::h.size::v,d<u.size:=λaE d g=>by
  simp only[aU]at g;rcases g with e|e|e|e
  ·omega
  ·omega
  ·have:=aF d (by simp[e]);omega
  ·have:=aF d (by simp[e]);omega
 have hm:=u2.size;have aI:∀{u:I},J s u->∀{aq:Value->I->Prop},(∀L K f,ap f L K->K.length=q.1.params.length->(∀y∈K,0<=y/\y<(q.1.params.length:Int))->J u f->aq (O.v L) f)->aO cw 189 [vi 0,vi (au.len:Int)] u aq:=λ{u} x aq hk'=>by
  rw[aG];exact(lS (S:=[]) (d:=u) D 0 q.1.params.length V).mono λaz f⟨L,K,e,gn,qn,xn⟩=>by
   subst e;exact hk' L K f ((GI.done gn D V).le (bD _ _)) qn.2 (λy hy=>by have:=qn.1 y hy;omega) xn
 have fX:∀{u:I}{aA:List Nat}{L:O}{K:List Int},(∀d∈aA,d<u.size)->J s u->ap u L K->K.length=q.1.params.length->(∀y∈K,0<=y/\y<(q.1.params.length:Int))->nk 247 [.agg #[O.v Z,O.v am],.agg #[vi q.2.op,vi q.2.bN,O.v aJ],O.v L,vi (au.len:Int)] u aA λN=>WB T U.length False q.1.params.length N/\N.w<=3*q.2.n:=λaL x hs h1 h2=>by
  rw[aG];exact CO (SL q.2) _ _ q.1.params.length _ _ Z am aJ aL hs h2 (by rw[h1];exact aT) V V (hd.le (w8.trans x).le) ht (fw.le (w8.trans x).le hk)
 have G:∀{y f:I}{N ab:Nat},s.size<=y.size->J y f->N<s.size->af f N ab=af y N ab:=λaE x hb=>gl x V _;have j:H.size<s.size:=V;have P:z.size<s.size:=aa _ D;refine⟨λN u=>∃t F,N.2=0/\s.size<=N.1/\cF u N.1 de [.s t,.i F.aV]/\eI (bO (A.F::p.size::h.size::v) u) t F.aA/\(WB T U.length False q.1.params.length F/\F.w<=3*q.2.n)/\J s u,⟨?_,?_⟩,?_⟩
 ·refine aI (J.aB s) λL K E hs X al b=>⟨b.dm aa,L,rfl,G (ad _) b j,G (ad _) b j,G (ad _) b j,G (ad _) b P,G (ad _) b P,?_,?_⟩;all_goals have w:=b.size
  ·refine(fX (aA:=A.F::p.size::h.size::v) (ah w) b hs X al).mono λaz C⟨t,F,e,ay,aP,c⟩=>⟨c.dm λd g=>b.lt (aa d g),t,_,e,?_⟩;have uG:=c.size;intro W;have B:J C W:=J.push _ _;refine⟨G V B j,G V B j,G V B j,G V B P,G V B P,?_⟩;intro aw;obtain⟨ao,av,aS⟩:=km (M:=C) (d:=W) (c:=aw) rfl rfl rfl;exact⟨t,F,rfl,by show s.size<=C.size;omega,av,eI.le (ao.da _) ay,aP,(b.trans c).trans ao⟩
  ·intro C;have c:J E C:=J.push _ _;have ao:cF C E.size de [.s .nil,.i 0]:=cF.push _ _ _;have uG:=c.size;clear_value C;refine⟨G w c j,G w c j,G w c j,G w c P,G w c P,?_⟩;refine(fX (aA:=E.size::A.F::p.size::h.size::v) (bR (ah w) uG ao.lt) (b.trans c) (hs.ext c) X al).mono λaz W⟨t,F,e,av,ay,B⟩=>⟨B.dm λd g=>?_,t,_,e,?_⟩
   ·rcases List.mem_cons.1 g with e|e
    ·rw[e];exact ao.lt
    ·have:=aa d e;omega
   intro aw;exact⟨t,F,rfl,w,cF.ai (m:=W) (o:=0) (r:=[.s t,.i F.aV]) (ao.ext B),eI.le (cz D λd g=>aj _ g) av,ay,((b.trans c).trans B).ai w _ _⟩
 ·intro E;have b:J s E:=J.push _ _;have B9:cF E s.size de [.s .nil,.i 0]:=cF.push _ _ _;have w:=b.size;clear_value E;refine⟨G (ad _) b j,G (ad _) b j,G (ad _) b j,G (ad _) b P,G (ad _) b P,?_⟩;have sm:∀{y f:I},E.size<=y.size->J y f->eE [s.size,H.size,h.size,z.size] y f:=λaE x=>x.dm λd g=>by
   rcases List.mem_cons.1 g with e|e
   ·have:=B9.lt;omega
   ·have:=aa d e;omega
  refine aI b λL K C hs X al c=>⟨sm (ad _) c,L,rfl,G w c j,G w c j,G w c j,G w c P,G w c P,?_⟩;have uG:=c.size;refine(fX (aA:=s.size::A.F::p.size::h.size::v) (bR (ah (u:=C) V) (ad _) (by have:=B9.lt;omega)) (b.trans c) hs X al).mono λaz W⟨t,F,e,av,ay,B⟩=>⟨sm uG B,t,_,e,?_⟩;intro aw;exact⟨t,F,rfl,ad _,cF.ai (m:=W) (o:=0) (r:=[.s t,.i F.aV]) ((B9.ext c).ext B),eI.le (cz D λd g=>aj _ g) av,ay,((b.trans c).trans B).ai (ad _) _ _⟩
 rintro⟨kb,ab⟩ y ⟨t,F,ho,aP,BB,aS,aw,x1⟩;simp only at ho aP BB;subst ho;have bl:=BB.lt;have z1:=x1.size;have X1:=x8.trans x1;refine⟨A,(an.ext X1).cp 1,_,BB.cp 0,_,BB.cp 1,?_⟩;have al:p.size<s.size:=V;have ic:∀{f:I}{W b':O},J y f->ap (bO (A.F::p.size::h.size::v) f) W q.1.params->ap (bO (A.F::p.size::h.size::v) f) b' []->af (f.push (.cells (bG [.s W,.s b',.i q.1.aV,.s t,.i F.aV]) jI)) p.size 1=af f p.size 1/\
  jE (f.push (.cells (bG [.s W,.s b',.i q.1.aV,.s t,.i F.aV]) jI)) jI [.s .nil,.s .nil,.i 0,.s .nil,.i 0] 88 A (O.mk f.size 0 1 1) λY B=>eE [H.size,h.size,z.size] (f.push (.cells (bG [.s W,.s b',.i q.1.aV,.s t,.i F.aV]) jI)) B/\fH B p.size 1 1/\(eE [H.size,h.size,z.size] B (ai B p.size 1 [.s Y])/\(aK (cW ((ae:Int)+1)) (ai B p.size 1 [.s Y])/\μ (cW ((ae:Int)+1)) (ai B p.size 1 [.s Y])<μ ae H)):=λQ h1 h2=>
  Gr.box (g:=[.s .nil,.s .nil,.i 0,.s .nil,.i 0]) (j:=1) (z:=88) (o:=[.s dd,.s A]) (y:=⟨q.1.params,[],q.1.aV,F⟩) iC.mono bh ((aB.ext iC.mono X1).ext iC.mono Q) (((xM.trans X1).trans Q).fz []) ⟨_,_,t,rfl,h1,h2,eI.le (Q.da _) aS⟩ V ((an.ext X1).ext Q) D bh ⟨V,D⟩ (λd g=>⟨by have:=aa d g;have:=Q.size;omega,by
   rcases List.mem_cons.1 g with e|e
   ·omega
   ·have:=ak d e;omega,by
   rcases List.mem_cons.1 g with e|e
   ·omega
   ·have:=ak d e;omega⟩) λY m' g' X f' z' q'=>aW Y m' ⟨q.1.params,[],q.1.aV,F⟩ g' X f'.ext ⟨aR,D,aw.1,by have:=aw.2;show F.w<=95;omega⟩
 have av:∀{f:I},J y f->ap f au q.1.params:=λx=>ha.ext ((v6.trans X1).trans x);have ao:∀{f:I},J y f->∀d∈A.F::p.size::h.size::v,d<f.size:=λx=>ah (by have:=x.size;omega);have X:∀{f B:I}{ab:Nat},J y f->J f B->af B kb ab=af f kb ab:=λx x'=>gl x' (by have:=x.size;omega) _;have ay:∀{f B:I},J y f->J f B->eE [H.size,h.size,z.size] f B:=λx x'=>x'.dm λd g=>by have:=aa d g;have:=x.size;omega
 refine⟨?_,?_⟩
 ·refine(bP (A.F::p.size::h.size::v) (av (J.aB _)) V).mono λ_ E⟨W,la,e,ga,ea,b⟩=>⟨ay (J.aB _) b,W,e,X (J.aB _) b,X (J.aB _) b,G z1 b j,G z1 b al,?_⟩;subst ea;have w:=b.size;intro C;have c:J E C:=J.push _ _;refine⟨X b c,X b c,G V c j,G V c j,G V c al,?_⟩;exact ic (b.trans c) ((GI.done ga (ao (J.aB _)) V).le (c.da _)) (my _ _ _ _ _ _)
 ·intro E;have b:J y E:=J.push _ _;have w:=b.size;refine⟨X (J.aB _) b,X (J.aB _) b,G z1 b j,G z1 b j,G z1 b al,?_⟩;refine(bP (A.F::p.size::h.size::v) (av b) V).mono λ_ C⟨W,la,e,ga,ea,c⟩=>⟨ay b c,W,e,X b c,X b c,G V c j,G V c al,?_⟩;subst ea;exact ic (b.trans c) (GI.done ga (ao b) V) (my _ _ _ _ _ _)
section
variable{L:List Nat}{K:Int->I->Prop}{v:Int}
def Dc(P:Nat->Prop)(l b:List Instr)(n:Nat):Prop:=∃a,b=l++a/\(∀(i:Nat)(x:Instr),a[i]? =some x->On (l.length+i) x\/P (l.length+i)/\x.op=22)/\PK a/\a.length<=n
section
variable{P c:Nat->Prop}{l a e:List Instr}{n b k:Nat}{x:Instr}
def mK.w(h:mK l a n):Dc P l a n:=let⟨g,b,c,d,e⟩:=h;⟨g,b,λi x f=>Or.inl (c i x f),d,e⟩
def Dc.Xr(h:Dc P l a n)(f:∀q,¬P q)(m:n<=b):mK l a b:=let⟨j,c,d,e,k⟩:=h;⟨j,c,λi x g=>(d i x g).resolve_right λh=>f _ h.1,e,V⟩
def Dc.imp(h:Dc P l a n)(g:∀q,P q->c q)(o:n<=b):Dc c l a b:=let⟨k,d,e,f,m⟩:=h;⟨k,d,λj x i=>(e j x i).imp id λh=>⟨g _ h.1,h.2⟩,f,V⟩
def Dc.len(h:Dc P l a n):l.length<=a.length/\a.length<=l.length+n:=by obtain⟨b,rfl,-,-,d⟩:=h;simp;omega
def Dc.then(o:Dc P l a n)(p:mK a e b):Dc P l e (n+b):=by
 obtain⟨d,rfl,g,j,s⟩:=o;obtain⟨r,rfl,h,k,t⟩:=p;refine⟨d++r,D,λi x c=>?_,λx q=>?_,bJ⟩
 ·rcases be i d.length with f|f
  ·rw[aw f]at c;exact g i x c
  ·rw[aG f]at c;have:=h _ x c;have m:(l++d).length+(i -d.length)=l.length+i:=bJ;rw[m]at this;exact Or.inl this
 ·exact(List.mem_append.1 q).elim (j x) (k x)
def Dc.LO(h:Dc P l a n)(j:P a.length):Dc P l (a++[⟨22,0,0,0,[],[]⟩]) (n+1):=by
 obtain⟨c,rfl,e,f,m⟩:=h;refine⟨c++[⟨22,0,0,0,[],[]⟩],D,λi x b=>?_,λx k=>?_,bJ⟩
 ·rcases be i c.length with d|d
  ·rw[aw d]at b;exact e i x b
  ·rw[aG d]at b;have:i -c.length=0:=by have:=ax b;simp at this;omega
   rw[this]at b;simp at b;subst b;have g:i=c.length:=V;subst g;exact Or.inr ⟨by simpa using j,rfl⟩
 ·rcases List.mem_append.1 k with h|h
  ·exact f x h
  ·simp at h;subst h;simp
def Dc.set(h:Dc P l a n)(g:l.length<=k)(m:On k x)(j:x.args.length<=1000000000000/\x.ez.length<=1000000000000):Dc (λq=>P q/\q≠k) l (a.set k x) n:=by
 obtain⟨p,rfl,c,e,d⟩:=h;refine⟨p.set (k -l.length) x,by rw[WN _ _ g],λi y b=>?_,λy o=>?_,bJ⟩
 ·rw[jt]at b;split at b
  ·rename_i q;have f:l.length+i=k:=V;split at b
   ·simp at b;subst b;rw[f];exact Or.inl m
   ·simp at b
  ·exact(c i y b).imp id λh=>⟨⟨h.1,V⟩,h.2⟩
 ·rcases di o with h|h
  ·exact e y h
  ·rw[h];exact j
def Dc.Zd(h:Dc P l a n)(d:l.length<=k)(c:a[k]? =some x):Dc (λq=>P q/\q≠k) l (a.set k ⟨x.op,0,a.length,0,x.args,x.ez⟩) n:=by
 have m:=ax c;have g:=h;obtain⟨i,rfl,e,f,j⟩:=h;rw[aG d]at c;have b:=e _ x c;rw[show l.length+(k -l.length)=k by omega]at b;refine g.set d ⟨λ_=>by show(k:Int)<((l++i).length:Nat);omega,λh=>?_⟩ (f x (ar c));simp only at h;rcases b with b|b
 ·exact b.arg h
 ·omega
end
section
variable{S:List Nat}{e m a:I}{b:Nat}{s c:O}{l d:List Instr}
def EE.re{S' Y:List Nat}(h:EE S e m b s l)(i:Fz Y m a)(f:∀c∈Y,c∈S/\c≠b/\c≠s.F)(j:∀c∈S',c∈S\/m.size<=c):EE S' e a b s l:=
 ⟨h.box.congr (i.same _ h.box.lt λg=>(f _ g).2.1 rfl),h.gr.re dO.mono i (λc d=>aj _ (f c d).1) (λg=>(f _ g).2.2 rfl) λc d=>(List.mem_cons.1 d).elim (λg=>Or.inl (by rw[g];exact ba)) λd=>(j c d).imp (aj _) id,h.up⟩
def Hh(k:EE S e m b s l)(z:J e m)(w:∀h∈S,h<m.size)(n:l.length<=1000000000000)(u:∀f∈L,f<m.size/\f≠b/\f≠s.F){o i bN:Int}(y:∀c d a,EE S e a b c d->d=l++[⟨o,i,bN,0,[v],[]⟩]->Fz [b,s.F] m a->(c.F=s.F\/m.size<=c.F)->K (l.length:Nat) a):
 aO cw 191 [vp b 0,.agg #[vi o,vi i,vi bN,vi 0,O.v (.mk m.size 0 1 1),O.v .nil]] (m.push (.cells (bG [.i v]) aE)) λr a=>eE L (m.push (.cells (bG [.i v]) aE)) a/\∃q:Int,r=vi q/\K q a:=by
 have g:=J.push m (.cells (bG [.i v]) aE)
 have E:=k.gr.bg;have C:=k.box.lt
 have A:ap (bO (s.F::b::S) (m.push (.cells (bG [.i v]) aE))) (.mk m.size 0 1 1) [v]:=ap.lit aE _ (by
  intro h p;simp only[aU]at p;rcases p with j|j|j
  ·omega
  ·omega
  ·exact w h j) rfl rfl D
 refine(qv (x:=⟨o,i,bN,0,[v],[]⟩) (k.ext g) (z.trans g).size A (sZ _) n).mono λr a⟨p,c,d,t,j,h,B⟩=>⟨Ok.dm h λf n=>?_,_,p,?_⟩
 ·have:=u f n;exact⟨g.lt this.1,this.2⟩
 exact y c d a t j.symm (((g.fz [b,s.F])).trans h) (by have:=g.size;omega)
def SH(j:EE S e m b s l)(t:J e m)(p:l.length<=1000000000000)(o:∀f∈L,f<m.size/\f≠b/\f≠s.F)(q:∀c d a,EE S e a b c d->d=l++[⟨22,0,0,0,[],[]⟩]->Fz [b,s.F] m a->(c.F=s.F\/m.size<=c.F)->K (l.length:Nat) a):
 aO cw 191 [vp b 0,.agg #[vi 22,vi 0,vi 0,vi 0,O.v .nil,O.v .nil]] m λr a=>eE L m a/\∃n:Int,r=vi n/\K n a:=
 (qv (x:=⟨22,0,0,0,[],[]⟩) j t.size (sZ _) (sZ _) p).mono λr a⟨i,c,d,k,h,f,g⟩=>⟨Ok.dm f o,_,i,q c d a k h.symm f g⟩
def Sb{K:I->Prop}{k:Nat}{x:Instr}(i:EE S e m b s l)(q:J e m)(p:l[k]? =some x)(n:∀f∈L,f<m.size/\f≠b/\f≠s.F)(o:∀c d a,EE S e a b c d->d=l.set k ⟨x.op,0,l.length,0,x.args,x.ez⟩->Fz [b,s.F] m a->(c.F=s.F\/m.size<=c.F)->K a):
 aO cw 232 [vp b 0,vi k] m λ_ a=>eE L m a/\K a:=
 (Qt i q.size p).mono λr a⟨c,d,j,h,f,g⟩=>⟨Ok.dm f n,o c d a j h.symm f g⟩
end
def Qj{l:List Instr}{d:Int}:mK l (l++[⟨18,d,0,0,[v],[]⟩]) 1:=mK.kK ⟨λh=>by simp at h,λ_=>D⟩ D
end
end Go.Proofs.YtgnjacfobdjeeaaGreat
