/- Part of a proof, joined by a program. -/
import Derived.Test.YtgnjacfobdjeeaaGreatP13
set_option linter.unusedVariables false
set_option linter.unusedSimpArgs false
set_option linter.defProp false
set_option linter.constructorNameAsVariable false
set_option maxHeartbeats 8000000
set_option maxRecDepth 100000
namespace Go.Proofs.YtgnjacfobdjeeaaGreat
open Go.Vc
section
section
variable{c:List Nat}{b P:Nat}{h d p:O}{f:List bu}{g:List dk}{m:J}
def WX.m1{d c:Nat}{x y z:Ex}(hd:f∈qQ)(j:WX f d c x)(k:WX f d c y)(l:WX f d (c+2) z):WX f d c (.mk 8 1 [x,y,z]):=by
 obtain⟨e,-,g,h,-⟩:=Lh f hd;refine .mt j (by rw[e];rfl) aJ λi n m b a=>?_;rw[e]at a;rcases i with _|_|i
 ·simp at b a;subst b a;rw[g];exact k
 ·simp at b a;subst b a;rw[h];exact l
 ·simp at b
def Iw(hS:∀s∈c,s<m.size)(H:b∈c)(s:GC b h P d p f g m)(hP:P+200+2*Cg 18<=10000000000000000){F:Nat}{r:dk}(hq:g[F]? =some r){ak:Int}(ha:0<=ak/\ak<(r.params.length:Int)):
 aL cp 280 [vp b 0,.agg #[O.v d,O.v p],vi F,vi ak] m (XP c b h m (P+200+2*Cg 18) (WX f g.length r.params.length)):=by
 apply BN (b,0)
 simp -zeta only[aC,aB]
 intro j aa
 obtain⟨x2,hl⟩:=dF (a:=j) (c:=aa) rfl rfl
 have s1:j.size=m.size+1:=by simp[j]
 have s2:aa.size=m.size+2:=by simp[aa,s1]
 have hr:=s.rd.lt
 clear_value aa
 have ap:∀{i:J},aa.size<=i.size->∀s∈j.size::c,s<i.size:=λo=>bP hS V V
 have r2:Rs b h m P aa:=⟨x2.fz _,s.rd.ext x2⟩
 have L1:∀{i:J},aa.size<=i.size->Lw b [j.size,m.size] i:=λo=>lw hr bR
 obtain⟨ps,a0,e0,e1⟩:=s.hp.D hq
 have bc:=aD hq
 have bg:=s.hp.len
 have aQ:=vZ _ (s.gp.dz r (av hq))
 have h3:r.params.length<=3:=aQ.1
 have PS:∀{i:J},Fz [b] m i->IR b i ps r.params:=λK=>a0.le (fh K)
 have E1:∀{i:J},Fz [b] m i->af i p.E (p.off+F*5+1)=some (vi r.aV):=λK=>(dV.1 (fh K _ _ _ e1)).2
 have bi:=a0.len
 have a2:=s.gp.ty (t:=0) bh bh
 have bf:=O0 18
 refine⟨V,V,ps,(dV.1 (fh r2.f _ _ _ e0)).2,?_⟩
 intro m3
 have x3:N aa m3:=N.push _ _
 have aR:aq (bM [b] m3) (.mk aa.size 0 2 2) [0,1]:=aq.lit aI _ bR rfl rfl aJ
 clear_value m3
 have r3:=r2.ext x3
 have z3:=x3.size
 refine(eB (S:=[b]) bR (PS r3.f) aR bR).mono λ_ m4⟨aU,wl,w,gw,qw,x4⟩=>⟨(L1 z3).dv (x4.fz _),aU,w,?_⟩
 subst qw
 have a8:IR b m4 aU (r.params++[0,1]):=GI.done gw bR bR
 have r4:=r3.ext x4
 have z4:=x4.size
 intro m5
 have x5:N m4 m5:=N.push _ _
 have g5:GE (j.size::c) m4 m5 (.mk m4.size 0 0 0) []:=Gr.new _ (ad _) _ _ _
 clear_value m5
 refine dS (n:=r.params.length) V (λQ y i=>∃I,GE (j.size::c) m4 i y I/\I.length=Q/\(∀w∈I,WX f g.length (r.params.length+2) w)/\Rd b h (P+Q) i/\Fz [b] m4 i) ⟨[],g5,rfl,aJ,(r4.r.ext x5).mono V,x5.fz _⟩ ?_
 rintro Q y i a6 μ hj ⟨I,aO,be,hw,rM,fM⟩ a_
 have FM:=r4.f.trans fM
 have zM:=fM.size
 refine⟨λo=>?_,λ_=>?_⟩
 ·simp only[au]at o
  obtain⟨aW,L⟩:=ag (l:=r.params) (k:=Q) V
  have gW:∀{K:Nat}{U:List Value}{z:J}{T:Nat},aL cp K U z (XP (y.E::j.size::c) b h z T (WX f g.length (r.params.length+2)))->T<=P+(Q+1)->Rd b h (P+(Q+1)) z->Fz [b] i z->aL cp K U z λac B=>dR [j.size,m.size] z B/\∃G D:Int,∃r2:O,ac=.agg #[vi G,vi D,O.v r2]/\
   jh (B.push (.cells (bC [.i G,.i D,.s r2]) bI)) bI [.i 0,.i 0,.s .nil] 40 y (O.mk B.size 0 1 1) λX A=>dR [j.size,m.size] (B.push (.cells (bC [.i G,.i D,.s r2]) bI)) A/\a6 X (cR ((Q:Int)+1)) A/\μ X (cR ((Q:Int)+1)) A<μ y Q i:=λhc hQ D Z=>
   XP.jY hc (aO.dO AF.mono Z (by simp;exact⟨Or.inr H,V⟩)) (fM.trans Z) (L1 V) r4.r (by simp[H]) V λw X A u g' r' f' _ _=>
    a_ V _ _ ⟨_,g',bR,λq C=>by rcases List.mem_append.1 C with o|o;exact hw q o;simp at o;subst o;exact u,r'.mono hQ,f'⟩
  refine⟨λ_=>?_,λ_=>⟨V,V,aW,(dV.1 ((PS FM).D L)).2,λ_=>?_,λ_=>?_⟩⟩
  ·rw[aP (b:=(ps.len:Int)+1) V V]
   exact gW (((lL _ _ _).x rM).mono λ_ _ o=>o.mono (λw u=>u▸.So ⟨V,V⟩) (ad _)) V (rM.mono V) (Fz.az _ _)
  ·refine(cw rM V 2).mono λ_ m6⟨ai,en,_,_,E,C⟩=>⟨(L1 V).dv C,ai,en,λ_=>?_,λ_=>?_⟩
   ·have z6:=C.size
    have ab:∀{z:J},m6.size<=z.size->∀s∈y.E::j.size::c,s<z.size:=λo=>bP (ap (i:=m6) V) o (by have:=aO.be.2;omega)
    refine vX (y.E::j.size::c) f g.length (a:=r.params.length+2) (L1 V) V λs7 m7 h7 R=>?_
    have z7:=R.size
    refine vX (y.E::j.size::c) f g.length (a:=r.params.length+2) (L1 V) V λs8 q h8 x8=>?_
    have z8:=x8.size
    intro m9
    have x9:N q m9:=N.push _ _
    have Y:fe (bM (y.E::j.size::c) m9) (.mk q.size 0 2 2) [.mk 12 Q [],.mk 12 ps.len []]:=ou (S:=y.E::j.size::c) (M:=q) [(.mk 12 Q [],s7),(.mk 12 ps.len [],s8)] aJ (ab V) (by simp;exact⟨(h7.ext x8).sl,h8.sl⟩) rfl rfl
    have W:=((E.ext R).ext x8).ext x9
    exact gW ((mJ W Y 1 0).mono λ_ _ o=>o.mono (λw u=>u▸.eO bh (λo=>V) bh (λo=>V) (by simp;exact⟨h7.wx,h8.wx⟩)) (ad _)) V W (((C.then R).then x8).then x9)
   ·exact gW (((lL _ _ _).x E).mono λ_ _ o=>o.mono (λw u=>u▸.So ⟨V,V⟩) (ad _)) V E C
  ·exact gW (((lL _ _ _).x rM).mono λ_ _ o=>o.mono (λw u=>u▸.So ⟨V,V⟩) (ad _)) V (rM.mono V) (Fz.az _ _)
 refine iR (aO.done AF.mono (ap (i:=m4) V) bh V) (.eO (a:=r.params.length+2) (b:=f) (c:=g.length) bh (λo=>V) bh (λ_=>⟨V,V⟩) hw) (L1 V) λs6 m6 h6 x6=>?_
 have z6:=x6.size
 intro m7 q
 obtain⟨x8,B8,z8⟩:=jN (M:=m6) (d:=m7) (c:=q) rfl rfl rfl
 clear_value q
 have h8:=h6.ext x8
 intro m9 D
 obtain⟨aV,ax,yz⟩:=BX.new (f:=m9) (d:=D) h8 rfl rfl
 clear_value D
 have ab:Rs b h m (P+3) D:=⟨((FM.then x6).then x8).then aV,(((rM.ext x6).ext x8).ext aV).mono V⟩
 have hk:q.size≠b:=V
 have L2:∀{i:J},D.size<=i.size->Lw b [q.size,m6.size,j.size,m.size] i:=λo=>lw hr bR
 have ar:∀{i:J},D.size<=i.size->∀s∈q.size::j.size::c,s<i.size:=λo=>bP (ap (i:=D) V) o V
 have aX:∀{i:J},Fz [b] m4 i->IR b i aU (r.params++[0,1]):=λK=>a8.le (fh K)
 have aZ:Fz [b] m4 D:=((fM.then x6).then x8).then aV
 have wl:(r.params++[0,1]).length=r.params.length+2:=aJ
 refine⟨λi=>∃y w,BX (j.size::c) f g.length (r.params.length+2) q.size i y w/\Rs b h m (P+10+Cg 18) i/\D.size<=i.size,⟨V,V,_,E1 ab.f,λa1=>?_,λ_=>⟨V,V,_,E1 ab.f,λ_=>?_,λ_=>⟨s6,_,ax,⟨ab.f,ab.r.mono V⟩,ad _⟩⟩⟩,?_⟩
 ·simp only[aE]at a1
  refine(cw ab.r V 5).mono λ_ ae⟨ai,en,_,_,aN,A⟩=>⟨(L2 (ad _)).dv A,ai,en,λ_=>?_,λ_=>⟨V,V,_,E1 (ab.f.trans A),λo=>by rw[a1]at o;exact absurd o bh,λ_=>⟨s6,_,ax.fz (by simp[H]) hk A,⟨(ab.to A aN).f,aN.mono V⟩,A.size⟩⟩⟩
  have R:=ab.to A aN
  have U:=A.size
  have aY:=ax.fz (by simp[H]) hk A
  refine Em (v:=r.params++[0,1]) (S:=q.size::j.size::c) (ar U) (by simp[H]) (s.to R.f R.r) V (aX (aZ.trans A)) bR a2 bh (L2 U) λan aF B ao am u=>?_
  rw[wl]at ao
  intro Z W
  obtain⟨ac,aM,bb⟩:=BX.new (f:=Z) (d:=W) ao rfl rfl
  clear_value W
  have a4:=u.size
  have aA:=(R.to u am).ext ac
  have al:=(aY.fz (by simp[H]) hk u).ext ac
  have bd:B.size≠b:=V
  have aK:HX (B.size::q.size::j.size::c) f g.length (r.params.length+2) W s6 (.mk 9 F I):=(aY.h.fz (by simp[H]) u).jB ac (ad _)
  have L3:∀{i:J},W.size<=i.size->Lw b [B.size,q.size,m6.size,j.size,m.size] i:=λo=>lw hr bR
  refine⟨λi=>∃y w,BX (q.size::j.size::c) f g.length (r.params.length+2) B.size i y w/\HX (q.size::j.size::c) f g.length (r.params.length+2) i s6 (.mk 9 F I)/\Rs b h m (P+4+Cg 18) i/\W.size<=i.size/\cx i q.size bI [.i 9,.i F,.s s6],⟨λ_=>?_,λ_=>⟨aF,an,aM,aK.eQ,aA,ad _,al.b⟩⟩,?_⟩
  ·obtain⟨aW,L⟩:=ag (l:=r.params) (k:=0) V
   refine⟨bh,V,aW,(dV.1 ((PS aA.f).D L)).2,λ_=>?_,λ_=>⟨aF,an,aM,aK.eQ,aA,ad _,al.b⟩⟩
   refine vX (B.size::q.size::j.size::c) f g.length (a:=r.params.length+2) (L3 (ad _)) V λaG aw az T=>?_
   have a5:=T.size
   refine vX (B.size::q.size::j.size::c) f g.length (a:=r.params.length+2) (L3 a5) V λaH G aj C=>?_
   have bj:=C.size
   intro aS
   have a3:N G aS:=N.push _ _
   have Y:fe (bM (B.size::q.size::j.size::c) aS) (.mk G.size 0 2 2) [.mk 12 0 [],.mk 12 ps.len []]:=ou (S:=B.size::q.size::j.size::c) (M:=G) [(.mk 12 0 [],aG),(.mk 12 ps.len [],aH)] aJ (bP (ar (i:=G) V) (ad _) V) (by simp;exact⟨(az.ext C).sl,aj.sl⟩) rfl rfl
   have bk:=a3.size
   refine iR (M:=aS) Y (.eO (a:=r.params.length+2) (b:=f) (c:=g.length) bh (λo=>V) bh (λo=>V) (by simp;exact⟨az.wx,aj.wx⟩)) (L3 V) λaT a9 a7 ba=>?_
   have E:=((T.trans C).trans a3).trans ba
   have hb:=(aM.ext E).set a7
   have ha:=(aK.ext E).put (k:=B.size) aJ 0 [.i 11,.i 0,.s aT]
   have hB:cx (ah a9 B.size 0 [.i 11,.i 0,.s aT]) q.size bI [.i 9,.i F,.s s6]:=(al.b.ext E).congr (bt _ _ _ _ V)
   exact⟨aT,.mk 11 0 [.mk 12 0 [],.mk 12 ps.len []],hb,ha.eQ,(aA.ext E).put s.rd V _ _,by rw[ay];have:=E.size;omega,hB⟩
  rintro M3 ⟨y,w,L,E,X,aT,aW⟩
  refine⟨_,L.b.bV 0,_,L.b.bV 1,_,L.b.bV 2,?_⟩
  intro aw
  have T:N M3 aw:=N.push _ _
  have Y:fe (bM (q.size::j.size::c) aw) (.mk M3.size 0 2 2) [w,.mk 9 F I]:=ou (S:=q.size::j.size::c) (M:=M3) [(w,y),(.mk 9 F I,s6)] aJ (ar V) (by simp;exact⟨L.h.eQ.sl,E.sl⟩) rfl rfl
  have a5:=T.size
  refine iR (M:=aw) Y (.Nq (by simp;exact⟨L.h.wx,E.wx⟩)) (L2 V) λaH G aj C=>?_
  have hb:=(BX.mk (e:=.mk 9 F I) ((aW.ext T).ext C) ((E.ext T).ext C)).set aj
  have aS:=((X.ext T).ext C).put s.rd (k:=q.size) V 0 [.i 6,.i 1,.s aH]
  exact⟨aH,.mk 6 1 [w,.mk 9 F I],hb,⟨aS.f,aS.r.mono V⟩,by rw[ay];have:=C.size;omega⟩
 ·intro ae
  have E:N D ae:=N.push _ _
  have aR:aq (bM [b] ae) (.mk D.size 0 2 2) [1,2]:=aq.lit aI _ bR rfl rfl aJ
  clear_value ae
  have U:=E.size
  have G:∀{z M2:J}{C:Nat},D.size<=z.size->Fz [b] z M2->m.size<=C->C<D.size->∀A,af M2 C A=af z C A:=λo K h1 h2 A=>kg K hr ⟨h1,V⟩ A
  refine⟨G (ad _) (E.fz _) V V _,G (ad _) (E.fz _) V V _,G (ad _) (E.fz _) V V _,G (ad _) (E.fz _) V V _,G (ad _) (E.fz _) V V _,?_⟩
  have R:=ab.ext E
  refine(j9 R.r V aR aJ).mono λ_ B⟨ai,en,hn,am,u⟩=>⟨(L2 U).dv u,ai,en,G U u V V _,G U u V V _,G U u V V _,G U u V V _,G U u V V _,?_⟩
  have aM:=R.to u am
  have a4:=u.size
  refine Em (v:=r.params++[0,1]) (S:=q.size::j.size::c) (ar V) (by simp[H]) (s.to aM.f aM.r) V (aX ((aZ.then E).trans u)) bR a2 bh (L2 V) λaH aW Z aK aS aj=>?_
  rw[wl]at aK
  have aY:=aj.size
  refine⟨G V aj V V _,G V aj V V _,G V aj V V _,?_⟩
  intro W
  have ac:N Z W:=N.push _ _
  have aA:=((ax.ext E).fz (by simp[H]) hk u).fz (by simp[H]) hk aj
  have Y:fe (bM (q.size::j.size::c) W) (.mk Z.size 0 2 2) [aH,.mk 9 F I]:=ou (S:=q.size::j.size::c) (M:=Z) [(aH,aW),(.mk 9 F I,s6)] aJ (ar V) (by simp;exact⟨aK.sl,aA.h.sl⟩) rfl rfl
  have bb:=ac.size
  simp at hn
  refine iR (M:=W) Y (.eO (a:=r.params.length+2) (b:=f) (c:=g.length) V (λo=>V) V (λo=>V) (by simp;exact⟨aK.wx,aA.h.wx⟩)) (L2 V) λaG aw az T=>?_
  have hb:=((aA.ext ac).ext T).set az
  have aN:=(((aM.to aj aS).ext ac).ext T).put s.rd (k:=q.size) V 0 [.i ai,.i 0,.s aG]
  exact⟨aG,.mk ai 0 [aH,.mk 9 F I],hb,⟨aN.f,aN.r.mono V⟩,by rw[ay];have:=T.size;omega⟩
 rintro M3 ⟨y,w,L,X,aT⟩
 have L3:∀{i:J},D.size<=i.size->Lw b [m6.size,j.size,m.size] i:=λo=>lw hr bR
 have T:∀{z M2:J}{C:Nat},M3.size<=z.size->Fz [b] z M2->m.size<=C->C<D.size->∀A,af M2 C A=af z C A:=λo K h1 h2 A=>kg K hr ⟨h1,V⟩ A
 refine⟨V,V,_,E1 X.f,_,L.b.bV 0,_,L.b.bV 1,_,L.b.bV 2,?_⟩
 refine vX (j.size::c) f g.length (a:=r.params.length) (L3 aT) ha λaz ae ai E=>?_
 have U:=E.size
 have gx:∀C A,m.size<=C->C<D.size->af ae C A=af M3 C A:=λC A h1 h2=>T (ad _) (E.fz _) h1 h2 A
 refine⟨gx _ _ V V,gx _ _ V V,gx _ _ V V,(E1 (X.f.then E)).trans (E1 X.f).symm,gx _ _ V V,gx _ _ V V,gx _ _ V V,?_⟩
 have R:=X.ext E
 refine Em (S:=j.size::c) (ap V) (by simp[H]) (s.to R.f R.r) V (PS R.f) V (s.gp.ty aQ.2.2.1 aQ.2.2.2) bh (L3 V) λan aF B ao am u=>?_
 have G:∀A,af B q.size A=af ae q.size A:=T U u V V
 refine⟨G _,G _,G _,?_⟩
 have a4:=u.size
 intro Z
 have aj:N B Z:=N.push _ _
 have al:=(L.ext E).fz (by simp[H]) hk u
 have Y:fe (bM (j.size::c) Z) (.mk B.size 0 3 3) [.mk 12 ak [],an,w]:=ou (S:=j.size::c) (M:=B) [(.mk 12 ak [],az),(an,aF),(w,y)] aJ (ap V) (by simp;exact⟨(ai.fz (by simp[H]) u).sl,ao.sl,al.h.eQ.sl⟩) rfl rfl
 refine iR (M:=Z) Y (.m1 s.gp.ds ai.wx ao.wx L.h.wx) (L3 (by have:=aj.size;omega)) λaA W aw ac=>?_
 exact aw.gW (((R.to u am).ext aj).ext ac) s.rd V V
end
end
section
variable{g:J}{s:O}{l:List Int}{c f:Ex}
abbrev G3(M a:J)(k:Nat)(X:Prop):Prop:=af a k 0=af M k 0/\af a k 1=af M k 1/\af a k 2=af M k 2/\X
abbrev E3(v:Value)(X:Int->Int->O->Prop):Prop:=∃a b:Int,∃c:O,v=.agg #[vi a,vi b,O.v c]/\X a b c
abbrev N1(L:List Nat)(e:Nat)(M:J)(K:Int->Int->O->J->Prop):Prop:=aL cp 311 [vi 1,vi 0,O.v (.mk e 0 2 2)] M λv a=>dR L M a/\E3 v λb c d=>K b c d a
section
variable(L:List Nat)(k:Nat)(b:Int)(h i d p w l:O)(j a e:Nat)(F:Int->Int->O->J->Prop)
abbrev Y0(g:Nat)(M:J):Prop:=N1 L g M λd e f c=>G3 M c a (N1 L c.size (c.push (.cells (bC [.i 9,.i b,.s h,.i d,.i e,.s f]) bI)) F)
abbrev YZ(c d:Int)(e:O)(M:J):Prop:=G3 M (M.push (.cells (bC [.i c,.i d,.s e,.i 9,.i b,.s i]) bI)) a (Y0 L b h a F M.size (M.push (.cells (bC [.i c,.i d,.s e,.i 9,.i b,.s i]) bI)))
abbrev YY(M:J):Prop:=aL cp 310 [vp k 0,.agg #[O.v d,O.v p],O.v w,vi 0,vi 4] M λv c=>dR L M c/\E3 v λe f g=>G3 M c j (G3 M c a (YZ L b h i a F e f g c))
abbrev ZK(f:Nat)(M:J):Prop:=aL cp 213 [O.v l,O.v (.mk f 0 3 3)] M λv c=>dR L M c/\∃s:O,v=O.v s/\G3 M c j (af c e 0=af M e 0/\af c e 1=af M e 1/\G3 M c a (YY L k b h i d p s j a F c))
end
def _root_.Go.Vc.Tj{σ τ:Type}{n:Nat}(q:n<=9223372036854775807)(e:1<=n){m:J}{h:σ}{j:τ}{g:(σ->τ->Int->J->Prop)->(σ->τ->Int->J->Nat)->σ->τ->Int->J->Prop}(Q:Nat->σ->τ->J->Prop)(o:Q 1 h j m)
 (l:∀(k:Nat)(s:σ)(t:τ)(a:J)(I:σ->τ->Int->J->Prop)(μ:σ->τ->Int->J->Nat),1<=k->k<=n->Q k s t a->
  (k<n->∀c d b,Q (k+1) c d b->I c d (cR ((k:Int)+1)) b/\μ c d (cR ((k:Int)+1)) b<μ s t k a)->g I μ s t k a):
 ∃(I:σ->τ->Int->J->Prop)(μ:σ->τ->Int->J->Nat),I h j 1 m/\∀s t i a,I s t i a->g I μ s t i a:=by
 refine⟨λs t i b=>∃k:Nat,i=k/\1<=k/\k<=n/\Q k s t b,λ_ _ i _=>(n -i).toNat,⟨1,rfl,ad _,e,o⟩,?_⟩
 rintro s t i a ⟨k,rfl,e,p,r⟩
 refine l k s t a _ _ e p r λf c d b u=>?_
 rw[kV f q]
 exact⟨⟨k+1,rfl,V,f,u⟩,EB f⟩
def NF(_:J)(a:List Ce)(n:Int):Prop:=∃s:O,a=[.i 12,.i n,.s s]/\s.len=0
def NF.mono:nM 3 NF:=⟨λ_ h=>h,λ⟨_,h,_⟩=>by rw[h];rfl⟩
abbrev GV(g m:J)(s:O)(l:List Int):Prop:=Gr [] g m bI 3 NF s l
def GV.dO{m a:J}(h:GV g m s l)(q:a[s.E]? =m[s.E]?):GV g a s l:=by
 obtain⟨c,b,d,e⟩:=h;exact⟨c,b,d.congr q,e.mono λ_ _ h=>h⟩
def GV.ex{a:List Nat}{m:J}(h:GV g m s l)(j:s.E∉a)(t:l.length<=1000):fe (bM a m) s (l.map λn=>.mk 12 n []):=by
 obtain⟨e,d,f,i⟩:=h;have H:=Gr.ns (S:=a) NF.mono ⟨e,d,f,i.mono λ_ _ h=>h⟩ j bh V;refine⟨by rw[H.len];simp,H.cap,H.gV,λq c b=>?_⟩;simp only[cU,iW]at b;obtain⟨n,k,rfl⟩:=b;obtain⟨r,⟨u,rfl,p⟩,o⟩:=H.iv q n k;exact⟨_,AF.of ⟨p,V,V,aJ⟩,o⟩
structure AS(S:List Nat)(ds:List bu)(nf a n0 k Q rb:Nat)(bs:O)(m M:J)(sl:O)(el:Ex)(sr:O)(er:Ex):Prop where
 b:cx M k bI [.i 0,.i 0,.s .nil]
 hk:n0<=k
 l:HX (k::S) ds nf a M sl el
 r:HX (k::S) ds nf a M sr er
 s:Rs rb bs m Q M
section
variable{S:List Nat}{e:List bu}{h a n k Q r b:Nat}{d o p:O}{m M q:J}{i j:Ex}
def AS.ext(f:AS S e h a n k Q b d m M o i p j)(c:N M q):AS S e h a n k Q b d m q o i p j:=⟨f.b.ext c,f.hk,f.l.ext c,f.r.ext c,f.s.ext c⟩
def AS.fz(c:AS S e h a n k Q b d m M o i p j)(g:b∈S)(l:k≠b)(f:Fz [b] M q)(s:Rd b d r q):AS S e h a n k r b d m q o i p j:=⟨c.b.congr (f.same k c.b.lt (by simpa using l)),c.hk,c.l.fz (by simp[g]) f,c.r.fz (by simp[g]) f,c.s.to f s⟩
def AS.new(f:n<=M.size)(l:HX S e h a M o i)(r:HX S e h a M p j)(s:Rs b d m Q M):N M (M.push (.cells (bC [.i 0,.i 0,.s .nil]) bI))/\AS S e h a n M.size Q b d m (M.push (.cells (bC [.i 0,.i 0,.s .nil]) bI)) o i p j:=
 have c:=N.push M (.cells (bC [.i 0,.i 0,.s .nil]) bI)
 ⟨c,cx.push _ _ _,f,l.jB c (ad _),r.jB c (ad _),s.ext c⟩
end
section
variable{h:List Nat}{b P:Nat}{o d p:O}{i:List bu}{j:List dk}{m:J}
def WX.m3{e d:Nat}{z:Ex}(hd:i∈qQ)(l:WX i e d c)(m:WX i e d f)(n:WX i e (d+3) z):WX i e d (.mk 8 3 [c,f,z]):=by
 obtain⟨-,g,-,-,j,k⟩:=Lh i hd;refine .mt l (by rw[g];rfl) aJ λh p o b a=>?_;rw[g]at a;rcases h with _|_|h
 ·simp at b a;subst b a;rw[j];exact m
 ·simp at b a;subst b a;rw[k];exact n
 ·simp at b
def WX.add{b a:Nat}(d:WX i b a c)(e:WX i b a f):WX i b a (.mk 1 0 [c,f]):=.eO bh (λh=>V) bh (λh=>V) (by simp;exact⟨d,e⟩)
def Ix(hS:∀E∈h,E<m.size)(aU:b∈h)(E:GC b o P d p i j m)(hP:P+200+3*Cg 18<=10000000000000000){C:Nat}{w:dk}(hq:j[C]? =some w)(bF:1<=w.params.length):
 aL cp 281 [vp b 0,.agg #[O.v d,O.v p],vi C] m (XP h b o m (P+200+3*Cg 18) (WX i j.length w.params.length)):=by
 apply BO (b,0)
 simp -zeta only[aC,aB]
 intro A ap
 obtain⟨x2,hl⟩:=dF (a:=A) (c:=ap) rfl rfl
 have s1:A.size=m.size+1:=by simp[A]
 have s2:ap.size=m.size+2:=by simp[ap,s1]
 have hr:=E.rd.lt
 clear_value ap
 have aw:∀{g:J},ap.size<=g.size->∀E∈A.size::h,E<g.size:=λz=>bP hS V V
 have r2:Rs b o m P ap:=⟨x2.fz _,E.rd.ext x2⟩
 have L1:∀{g:J},ap.size<=g.size->Lw b [A.size,m.size] g:=λz=>lw hr bR
 obtain⟨ps,bk,e0,e1⟩:=E.hp.D hq
 have bY:=aD hq
 have b2:=E.hp.len
 have bc:=vZ _ (E.gp.dz w (av hq))
 have h3:w.params.length<=3:=bc.1
 have PS:∀{g:J},Fz [b] m g->IR b g ps w.params:=λD=>bk.le (fh D)
 have E1:∀{g:J},Fz [b] m g->af g p.E (p.off+C*5+1)=some (vi w.aV):=λD=>(dV.1 (fh D _ _ _ e1)).2
 have b3:=bk.len
 have br:=E.gp.ty (t:=0) bh bh
 have az:b∈A.size::h:=by simp[aU]
 refine⟨V,V,ps,(dV.1 (fh r2.f _ _ _ e0)).2,?_⟩
 refine vX (A.size::h) i j.length (a:=w.params.length+3) (L1 (ad _)) V λs3 Z bB x3=>?_
 have z3:=x3.size
 intro m4
 have x4:N Z m4:=N.push _ _
 have g4:GV Z m4 (.mk Z.size 0 1 1) [(ps.len:Int)]:=Gr.lit (f:=[[.i 12,.i ps.len,.s s3]]) NF.mono (ad _) aJ rfl rfl ⟨rfl,aJ,λaA E B hj q=>by
  have:aA=0:=by have:=aD hj;simp at this;omega
  subst this;simp at hj q;subst hj q;exact⟨s3,rfl,bB.sl.len⟩⟩
 have s4:m4.size=Z.size+1:=by simp[m4]
 clear_value m4
 rw[aP (b:=(ps.len:Int)+2) V V]
 refine vX (A.size::h) i j.length (a:=w.params.length+3) (L1 V) V λs5 m5 h5 x5=>?_
 have z5:=x5.size
 intro m6
 have x6:N m5 m6:=N.push _ _
 have g6:GV m5 m6 (.mk m5.size 0 1 1) [(ps.len:Int)+2]:=Gr.lit (f:=[[.i 12,.i (ps.len+2),.s s5]]) NF.mono (ad _) aJ rfl rfl ⟨rfl,aJ,λaA E B hj q=>by
  have:aA=0:=by have:=aD hj;simp at this;omega
  subst this;simp at hj q;subst hj q;exact⟨s5,rfl,h5.sl.len⟩⟩
 clear_value m6
 have r3:=r2.ext x3
 have vq:∀{g u:J}{K:Int}{s:O}{l:List Int}{aX:O->J->Prop}{aT:O},GV Z g s l->N Z g->l.length<=10->aT.len=0->(∀R u,GV Z u R (l++[K])->N Z u->g.size<=u.size->(R.E=s.E\/g.size<=R.E)->(∀F,F<g.size->F≠s.E->u[F]? =g[F]?)->aX R u)->
  jh (g.push (.cells (bC [.i 12,.i K,.s aT]) bI)) bI [.i 0,.i 0,.s .nil] 40 s (.mk g.size 0 1 1) aX:=λaQ c hl ht hk=>
  Gr.jY (g:=[.i 0,.i 0,.s .nil]) (X:=[]) NF.mono bh aQ (c.fz []) ⟨_,rfl,ht⟩ V λR u g' f' aK w=>hk R u g' f'.ext aK.1 aK.2 w
 refine Tj (n:=w.params.length) V bF (λaA s aT g=>∃l l',GV Z g s l/\GV Z g aT l'/\l.length=aA/\l'.length=aA/\(∀K∈l,0<=K/\K<((w.params.length+3:Nat):Int))/\(∀K∈l',0<=K/\K<((w.params.length+3:Nat):Int))/\N Z g/\s.E≠aT.E) ⟨_,_,(g4.dO ((x5.trans x6).same _ (by show Z.size<_;omega))),Gr.ct NF.mono g6 (λ_ z=>Or.inl z) V,rfl,rfl,bR,bR,(x4.trans x5).trans x6,by show Z.size≠m5.size;omega⟩ ?_
 rintro aA s aT g bW μ bZ hj ⟨l,l',aQ,g',b0,b1,hw,bn,xM,bE⟩ bJ
 have zM:=xM.size
 have RM:=r3.ext xM
 refine⟨λz=>?_,λ_=>?_⟩
 ·simp only[au]at z
  refine vX (A.size::h) i j.length (a:=w.params.length+3) (L1 V) V λs7 W h7 x7=>?_
  have gy:=aQ.be;have aZ:=g'.be
  have z7:=x7.size
  intro m8
  refine vq (u:=W) (aQ.dO (x7.same _ gy.2)) (xM.trans x7) V h7.sl.len λr9 m9 r x9 z9 Y T=>?_
  refine⟨(L1 (g:=Z) z3).sM ((((xM.trans x7).trans (N.push W _)).fz [b])) (x9.fz _),?_⟩
  refine vX (A.size::h) i j.length (a:=w.params.length+3) (L1 V) V λaa ag a8 ai=>?_
  intro bo
  have L:=((g'.dO (x7.same _ aZ.2)).dO (T _ V (km bE))).dO (ai.same _ V)
  have yz:=ai.size
  refine vq (u:=W) L (x9.trans ai) V a8.sl.len λbd I H aG bS U Q=>?_
  refine⟨(L1 (g:=Z) z3).sM (((x9.trans ai).trans (N.push ag _)).fz [b]) (aG.fz _),bJ V _ _ _ ⟨_,_,(r.dO (ai.same _ r.be.2)).dO (Q _ (by have:=r.be.2;omega) V),H,bR,bR,λK q=>?_,λK q=>?_,aG,by have:=r.be.2;omega⟩⟩
  ·rcases List.mem_append.1 q with z|z
   ·exact hw K z
   ·simp at z;omega
  ·rcases List.mem_append.1 q with z|z
   ·exact bn K z
   ·simp at z;omega
 have gy:=aQ.be;have aZ:=g'.be
 have nS:∀F,Z.size<=F->F∉A.size::h:=λF hb z=>by have:=aw (g:=ap) (ad _) F z;omega
 have be:∀l:List Int,(∀K∈l,0<=K/\K<((w.params.length+3:Nat):Int))->WX i j.length (w.params.length+3) (.mk 9 C (l.map λK=>.mk 12 K [])):=λl hl=>.eO bh (λz=>V) bh (λ_=>⟨V,V⟩) (by simp;exactλK q=>.So (hl K q))
 refine iR (aQ.ex (nS _ gy.1) V) (be l hw) (L1 V) λsl W h7 x7=>?_
 intro m8 m9
 obtain⟨x9,-,z9⟩:=jN (M:=W) (d:=m8) (c:=m9) rfl rfl rfl
 clear_value m9
 have z7:=x7.size
 refine iR ((g'.dO ((x7.trans x9).same _ aZ.2)).ex (nS _ aZ.1) V) (be l' bn) (lw hr bR) λsr ag a8 ai=>?_
 intro bo I
 obtain⟨aG,-,bS⟩:=jN (M:=ag) (d:=bo) (c:=I) rfl rfl rfl
 clear_value I
 have yz:=ai.size
 have a9:=((h7.ext x9).ext ai).ext aG
 have ba:=a8.ext aG
 generalize bg:Ex.mk 9 C (l.map λK=>.mk 12 K [])=el at a9
 generalize bi:Ex.mk 9 C (l'.map λK=>.mk 12 K [])=er at ba
 have bd:=(((RM.ext x7).ext x9).ext ai).ext aG
 have bX:=((x7.trans x9).trans ai).trans aG
 have bj:∀{r:Nat},I.size<=r->r≠b:=λz=>V
 have G:∀{g u:J}{r aS:Nat},I.size<=g.size->Fz [b] g u->m.size<=r->r<I.size->af u r aS=af g r aS:=λz D h1 h2=>kg D hr ⟨h1,V⟩ _
 have L4:∀{g:J},I.size<=g.size->Lw b [ag.size,W.size,A.size,m.size] g:=λz=>lw hr bR
 have L5:∀{g:J}{r:Nat},I.size<=r->r<g.size->Lw b [r,ag.size,W.size,A.size,m.size] g:=λz h'=>lw hr bR
 have a1:∀{g:J}{r:Nat},I.size<=r->r<g.size->∀E∈r::A.size::h,E<g.size:=λz h'=>bP (aw (g:=I) V) V h'
 have a5:=λ(c f:Ex)=>WX.add (i:=i) (b:=j.length) (a:=w.params.length+3) (c:=c) (f:=f)
 let aX:=λ(r:Nat)(g:J)=>∃s B,BX (A.size::h) i j.length (w.params.length+3) r g s B/\HX (r::A.size::h) i j.length (w.params.length+3) g sl el/\Rs b o m (P+Cg 18) g
 have bx:∃k9,el=.mk 9 C k9:=⟨_,bg.symm⟩
 have bz:∃k9,er=.mk 9 C k9:=⟨_,bi.symm⟩
 clear bg bi
 obtain⟨kl,rfl⟩:=bx
 obtain⟨kr,rfl⟩:=bz
 let ar:=λ(r aY:Nat)(g:J)=>AS (A.size::h) i j.length (w.params.length+3) I.size r (P+aY) b o m g sl (.mk 9 C kl) sr (.mk 9 C kr)
 let aO:=λr=>[r,ag.size,W.size,A.size,m.size]
 let K0:=λ(mo:Nat×Nat)(g:J)=>mo.2=0/\I.size<=mo.1/\aX mo.1 g
 let aN:=λ(r:Nat)(q F:Int)(E:O)(u:J)=>K0 (r,0) (ah u r 0 [.i q,.i F,.s E])
 have H3:∀{g u:J}{Q:Prop},I.size<=g.size->Fz [b] g u->Q->G3 g u W.size Q:=λH D c=>⟨G H D V V,G H D V V,G H D V V,c⟩
 have H6:∀{g u:J}{Q:Prop},I.size<=g.size->Fz [b] g u->Q->G3 g u ag.size (G3 g u W.size Q):=λH D c=>⟨G H D V V,G H D V V,G H D V V,H3 H D c⟩
 have H5:∀{g u:J}{Q:Prop},I.size<=g.size->Fz [b] g u->Q->af u m.size 0=af g m.size 0/\af u m.size 1=af g m.size 1/\G3 g u W.size Q:=λH D c=>⟨G H D V V,G H D V V,H3 H D c⟩
 have H8:∀{g u:J}{Q:Prop},I.size<=g.size->Fz [b] g u->Q->G3 g u ag.size (af u m.size 0=af g m.size 0/\af u m.size 1=af g m.size 1/\G3 g u W.size Q):=λH D c=>⟨G H D V V,G H D V V,G H D V V,H5 H D c⟩
 have R7:∀{r t0:Nat}{g:J}{B:Ex},ar r (Cg 18) g->fe (bM (r::A.size::h) g) (.mk t0 0 2 2) [.mk 9 C kl,B]->WX i j.length (w.params.length+3) B->N1 (aO r) t0 g (aN r):=λq hs hw=>
  iR hs (a5 _ _ q.l.wx hw) (L5 q.hk q.b.lt) λs' u h' c=>by
   have hb:=(BX.mk (e:=.mk 0 0 []) (s:=.nil) (q.b.ext c) ⟨⟨rfl,ad _,aJ,aJ⟩,.int 0⟩).set h';exact⟨rfl,q.hk,s',_,hb,(q.l.ext c).put aJ _ _,(q.s.ext c).put E.rd (by have:=q.hk;omega) _ _⟩
 have R6:∀{r:Nat}{g:J}{s:O}{q F:Int}{kk:List Ex},ar r (Cg 18) g->HX (r::A.size::h) i j.length (w.params.length+3) g s (.mk q F kk)->N1 (aO r) g.size (g.push (.cells (bC [.i 9,.i C,.s sl,.i q,.i F,.s s]) bI)) (aN r):=λq z=>
  R7 (q.ext (N.push _ _)) (ou [(.mk 9 C kl,sl),(.mk _ _ _,_)] aJ (a1 q.hk q.b.lt) (by simp;exact⟨q.l.sl,z.sl⟩) rfl rfl) z.wx
 have R5:∀{r t0:Nat}{g:J}{B:Ex},ar r (Cg 18) g->fe (bM (r::A.size::h) g) (.mk t0 0 2 2) [B,.mk 9 C kr]->WX i j.length (w.params.length+3) B->Y0 (aO r) C sl W.size (aN r) t0 g:=λq hs hw=>
  iR hs (a5 _ _ hw q.r.wx) (L5 q.hk q.b.lt) λs' u h' c=>
   have H:=OX (nm q.hk q.b.lt)
   H3 H (c.fz _) (R6 (q.ext c) h')
 have R4:∀{r:Nat}{g:J}{s:O}{B:Ex},ar r (Cg 18) g->HX (r::A.size::h) i j.length (w.params.length+3) g s B->YZ (aO r) C sl sr W.size (aN r) B.op B.bL s g:=λ{r g s B} q z=>
  have c:=N.push g (.cells (bC [.i B.op,.i B.bL,.s s,.i 9,.i C,.s sr]) bI)
  have H:=OX (nm q.hk q.b.lt)
  H3 H (c.fz _) (R5 (q.ext c) (ou [(B,s),(.mk 9 C kr,sr)] aJ (a1 q.hk q.b.lt) (by simp;exact⟨z.sl,q.r.sl⟩) rfl rfl) z.wx)
 have bf:∀{a6 L':List Nat}{g:J}{ab:O}{K':Int->Int->O->J->Prop},(∀E∈a6,E<g.size)->b∈a6->Rs b o m P g->IR b g ab (w.params++[3,0,3])->Lw b L' g->(∀B s u,HX a6 i j.length (w.params.length+3) u s B->Rd b o (P+Cg 18) u->Fz [b] g u->K' B.op B.bL s u)->aL cp 310 [vp b 0,.agg #[O.v d,O.v p],O.v ab,vi 0,vi 4] g λbN u=>dR L' g u/\∃r0 r1:Int,∃r2:O,bN=.agg #[vi r0,vi r1,O.v r2]/\K' r0 r1 r2 u:=λbD bG R hw hL hk=>
  Em (v:=w.params++[3,0,3]) bD bG (E.to R.f R.r) V hw bR br bh hL λB s u z d D=>hk B s u (by simpa using z) d D
 have R3:∀{r:Nat}{g:J}{ab:O},ar r 0 g->IR b g ab (w.params++[3,0,3])->YY (aO r) b C sl sr d p ab ag.size W.size (aN r) g:=λq hw=>
  bf (a1 q.hk q.b.lt) (by simp[aU]) q.s hw (L5 q.hk q.b.lt) λB s u z d' D=>
   have H:=OX (nm q.hk q.b.lt)
   H6 H D (R4 (q.fz az (bj q.hk) D d') z)
 have R2:∀{r t0:Nat}{g:J},ar r 0 g->aq (bM [b] g) (.mk t0 0 3 3) [3,0,3]->ZK (aO r) b C sl sr d p ps ag.size W.size m.size (aN r) t0 g:=λq hw=>
  (eB (S:=[b]) (by simp;exact q.s.r.lt) (PS q.s.f) hw bR).mono λ_ u⟨ab,wl,B,gw,qw,c⟩=>by
   subst qw;have H:=OX (nm q.hk q.b.lt);exact⟨(L5 q.hk q.b.lt).dv (c.fz _),ab,B,H8 H (c.fz _) (R3 (q.ext c) (GI.done gw (by simp;exact q.s.r.lt) bR))⟩
 have aF:∀{g:J}{aY:Nat},I.size<=g.size->HX (A.size::h) i j.length (w.params.length+3) g sl (.mk 9 C kl)->HX (A.size::h) i j.length (w.params.length+3) g sr (.mk 9 C kr)->Rs b o m (P+aY) g->N g (g.push (.cells (bC [.i 0,.i 0,.s .nil]) bI))/\ar g.size aY (g.push (.cells (bC [.i 0,.i 0,.s .nil]) bI)):=λh1 h2 h3 h4=>AS.new h1 h2 h3 h4
 have r0:Rs b o m (P+0) I:=bd
 have wl:∀g:J,b<g.size->aq (bM [b] (g.push (.cells (bC [.i 3,.i 0,.i 3]) aI))) (.mk g.size 0 3 3) [3,0,3]:=λg z=>aq.lit aI _ (by simp;exact z) rfl rfl aJ
 refine⟨K0,⟨?_,?_⟩,?_⟩
 ·intro ac
  have L:N I ac:=N.push _ _
  have a3:aq (bM [b] ac) (.mk I.size 0 3 3) [3,0,3]:=wl I bd.r.lt
  clear_value ac
  have aM:=L.size
  have a_:=a9.ext L;have bb:=ba.ext L;have Y:=r0.ext L
  refine H8 (ad _) (L.fz _) ⟨?_,?_⟩
  ·refine(eB (S:=[b]) (by simp;exact Y.r.lt) (PS Y.f) a3 bR).mono λ_ al⟨ab,bO,B,gw,qw,T⟩=>⟨(L4 aM).dv (T.fz _),ab,B,H8 aM (T.fz _) ⟨?_,?_⟩⟩
   all_goals have a4:IR b al ab (w.params++[3,0,3]):=qw▸GI.done gw (by simp;exact Y.r.lt) (by rw[<-qw];simp;omega)
   all_goals have bv:=T.size
   ·refine bf (a6:=A.size::h) (aw V) az (Y.ext T) a4 (L4 V) λaj a2 am ak a7 ae=>H6 V ae ⟨?_,?_⟩
    all_goals have ax:=(a_.ext T).fz az ae
    all_goals have aR:=(bb.ext T).fz az ae
    all_goals have aW:=(Y.ext T).to ae a7
    all_goals have bT:=ae.size
    ·intro ao
     have aa:N am ao:=N.push _ _
     have bl:fe (bM (A.size::h) ao) (.mk am.size 0 2 2) [aj,.mk 9 C kr]:=ou [(aj,a2),(.mk 9 C kr,sr)] aJ (aw V) (by simp;exact⟨ak.sl,aR.sl⟩) rfl rfl
     have bU:=aa.size
     refine H3 V (aa.fz _) ⟨?_,?_⟩
     ·refine iR (M:=ao) bl (a5 _ _ ak.wx aR.wx) (L4 V) λbK aE a0 aH=>H3 V (aH.fz _) ⟨?_,?_⟩
      all_goals have Q:=aa.trans aH
      all_goals have bV:=aH.size
      ·intro aV
       have an:N aE aV:=N.push _ _
       have bm:fe (bM (A.size::h) aV) (.mk aE.size 0 2 2) [.mk 9 C kl,.mk 1 0 [aj,.mk 9 C kr]]:=ou [(.mk 9 C kl,sl),(.mk 1 0 [aj,.mk 9 C kr],bK)] aJ (aw V) (by simp;exact⟨(ax.ext Q).sl,a0.sl⟩) rfl rfl
       have b4:=an.size
       refine⟨?_,?_⟩
       ·refine iR (M:=aV) bm (a5 _ _ ax.wx a0.wx) (L4 V) λbL bp bA bs=>?_
        have b5:=bs.size
        intro bq
        have bQ:N bp bq:=N.push _ _
        refine H8 V (bQ.fz _) ?_
        intro bH
        obtain⟨bu,bw,b6⟩:=BX.new (f:=bq) (d:=bH) bA rfl rfl
        have U:=Q.trans (an.trans bs)
        exact⟨rfl,by show I.size<=bp.size;omega,bL,_,bw,(ax.ext U).jB bu (ad _),(aW.ext U).ext bu⟩
       ·obtain⟨U,q⟩:=aF (g:=aV) V ((ax.ext Q).ext an) ((aR.ext Q).ext an) ((aW.ext Q).ext an)
        exact H8 V (U.fz _) (R7 q (fe.le (U.bM λF hb=>(List.mem_cons.1 hb).elim (λz=>Or.inr V) Or.inl) bm) a0.wx)
      ·obtain⟨U,q⟩:=aF (g:=aE) V (ax.ext Q) (aR.ext Q) (aW.ext Q)
       exact H8 V (U.fz _) (R6 q (a0.jB U (ad _)))
     ·obtain⟨U,q⟩:=aF (g:=ao) V (ax.ext aa) (aR.ext aa) (aW.ext aa)
      exact H8 V (U.fz _) (R5 q (fe.le (U.bM λF hb=>(List.mem_cons.1 hb).elim (λz=>Or.inr V) Or.inl) bl) ak.wx)
    ·obtain⟨U,q⟩:=aF (g:=am) V ax aR aW
     exact H8 V (U.fz _) (R4 q (ak.jB U (ad _)))
   ·obtain⟨U,q⟩:=aF (g:=al) V (a_.ext T) (bb.ext T) (Y.ext T)
    exact H8 V (U.fz _) (R3 q (a4.le (fh (U.fz _))))
  ·obtain⟨U,q⟩:=aF (g:=ac) aM a_ bb Y
   exact H8 aM (U.fz _) (R2 q (a3.le (fh (U.fz _))))
 ·obtain⟨U,q⟩:=aF (g:=I) (ad _) a9 ba r0
  have za:=U.size
  intro ac
  refine H8 (ad _) (U.fz _) ?_
  intro al
  have T:N ac al:=N.push _ _
  exact H8 za (T.fz _) (R2 (q.ext T) (wl ac q.s.r.lt))
 rintro⟨r,aS⟩ g ⟨ho,hk,s,B,F,hl,R⟩
 simp only at ho hk F hl
 subst ho
 have bu:=F.b.lt
 have a_:=bj hk
 have U:∀{u:J},g.size<=u.size->Lw b [ag.size,W.size,A.size,m.size] u:=λz=>L4 V
 have H:I.size<=g.size:=V
 have a0:∀{u:J},g.size<=u.size->∀E∈r::A.size::h,E<u.size:=λz=>a1 hk V
 refine⟨λu=>∃s B,BX (A.size::h) i j.length (w.params.length+3) r u s B/\Rs b o m (P+2*Cg 18) u/\g.size<=u.size,⟨V,V,_,E1 R.f,λ_=>?_,λ_=>⟨s,B,F,⟨R.f,R.r.mono V⟩,ad _⟩⟩,?_⟩
 ·intro ac
  have L:N g ac:=N.push _ _
  have a3:aq (bM [b] ac) (.mk g.size 0 3 3) [3,0,3]:=wl g R.r.lt
  clear_value ac
  have aM:=L.size
  have Y:=R.ext L
  refine H5 H (L.fz _) ?_
  refine(eB (S:=[b]) (by simp;exact Y.r.lt) (PS Y.f) a3 bR).mono λ_ al⟨ab,bO,e',gw,qw,T⟩=>⟨(U aM).dv (T.fz _),ab,e',H5 V (T.fz _) ?_⟩
  have a4:IR b al ab (w.params++[3,0,3]):=qw▸GI.done gw (by simp;exact Y.r.lt) (by rw[<-qw];simp;omega)
  have bv:=T.size
  have aR:=Y.ext T
  refine Em (v:=w.params++[3,0,3]) (S:=r::A.size::h) (a0 V) (by simp[aU]) (E.to aR.f aR.r) V a4 bR br bh (U V) λaj a2 am ak a7 ae=>H3 V ae ?_
  have ak:HX (r::A.size::h) i j.length (w.params.length+3) am a2 aj:=by simpa using ak
  have bT:=ae.size
  refine vX (r::A.size::h) i j.length (a:=w.params.length+3) (U V) V λbm ao ax aa=>H3 V (aa.fz _) ?_
  intro aE
  have aH:N ao aE:=N.push _ _
  have bU:=aa.size
  have bb:=(((hl.ext L).ext T).fz (by simp[aU]) ae).ext aa
  have hs:fe (bM (r::A.size::h) aE) (.mk ao.size 0 3 3) [.mk 9 C kl,aj,.mk 12 (ps.len+2) []]:=ou [(.mk 9 C kl,sl),(aj,a2),(.mk 12 (ps.len+2) [],bm)] aJ (a0 V) (by simp;exact⟨bb.sl,(ak.ext aa).sl,ax.sl⟩) rfl rfl
  have bV:=aH.size
  refine iR (M:=aE) hs (.Nq (by simp;exact⟨bb.wx,ak.wx,ax.wx⟩)) (U V) λbp aV bq an=>?_
  have aW:=((((F.ext L).ext T).fz (by simp[aU]) a_ ae).ext (aa.trans aH)).ext an
  have hb:=aW.set bq
  have bl:=(((aR.to ae a7).ext (aa.trans aH)).ext an).put E.rd (k:=r) V 0 [.i 6,.i 3,.s bp]
  exact⟨aW.b.dZ aJ,λb' bs=>bt _ _ _ _ (by simp at bs;omega),bp,.mk 6 3 [.mk 9 C kl,aj,.mk 12 (ps.len+2) []],hb,⟨bl.f,bl.r.mono V⟩,by rw[ay];have:=an.size;omega⟩
 rintro M3 ⟨s,B,F,R,aK⟩
 refine⟨V,V,_,E1 R.f,_,F.b.bV 0,_,F.b.bV 1,_,F.b.bV 2,?_⟩
 refine vX (A.size::h) i j.length (a:=w.params.length) (U aK) V λaV ac ak L=>?_
 have aM:=L.size
 have ae:∀{M1 M2:J}{aS:Nat},g.size<=M1.size->Fz [b] M1 M2->af M2 r aS=af M1 r aS:=λz D=>kg D hr ⟨V,V⟩ _
 refine⟨ae aK (L.fz _),ae aK (L.fz _),ae aK (L.fz _),(E1 (R.f.then L)).trans (E1 R.f).symm,G V (L.fz _) V V,G V (L.fz _) V V,G V (L.fz _) V V,?_⟩
 have Y:=R.ext L
 refine Em (S:=A.size::h) (aw V) az (E.to Y.f Y.r) V (PS Y.f) V (E.gp.ty bc.2.2.1 bc.2.2.2) bh (U V) λaj aW al an aR T=>⟨ae V T,ae V T,ae V T,?_⟩
 have bv:=T.size
 intro am
 have aE:N al am:=N.push _ _
 have aH:=(F.ext L).fz az a_ T
 have hs:fe (bM (A.size::h) am) (.mk al.size 0 3 3) [.mk 12 0 [],aj,B]:=ou [(.mk 12 0 [],aV),(aj,aW),(B,s)] aJ (aw V) (by simp;exact⟨(ak.fz az T).sl,an.sl,aH.h.eQ.sl⟩) rfl rfl
 refine iR (M:=am) hs (.m3 E.gp.ds ak.wx an.wx F.h.wx) (U (by have:=aE.size;omega)) λbm ao ax aa=>?_
 exact ax.gW (((Y.to T aR).ext aE).ext aa) E.rd V V
end
end
section
variable{a:J}{c:List Ce}{b:Nat}
section
variable{f:List Nat}{e P:Nat}{h d p:O}{i:List bu}{g:List dk}{m:J}
def KU(hS:∀o∈f,o<m.size)(ak:e∈f)(o:GC e h P d p i g m)(hP:P+300+40*Cg 18<=10000000000000000){R:Nat}{q:dk}(A:g[R]? =some q)(al:R=0->q.params.length=0):
 aL cp 249 [vp e 0,.agg #[O.v d,O.v p],vi R] m (XP f e h m (P+300+40*Cg 18) (V5 i g.length q.params.length)):=by
 apply EJ (e,0)
 simp -zeta only[aC,aB]
 intro n x
 obtain⟨x2,hl⟩:=dF (a:=n) (c:=x) rfl rfl
 have s1:n.size=m.size+1:=by simp[n]
 have s2:x.size=m.size+2:=by simp[x,s1]
 have hr:=o.rd.lt
 clear_value x
 have ae:∀{a:J},x.size<=a.size->∀o∈n.size::f,o<a.size:=λc=>bP hS V V
 have u:Rs e h m P x:=⟨x2.fz _,o.rd.ext x2⟩
 have K:∀{a:J},x.size<=a.size->Lw e [n.size,m.size] a:=λc=>lw hr bR
 obtain⟨W,ai,e0,e1⟩:=o.hp.D A
 have ao:=aD A
 have ap:=o.hp.len
 have ab:=vZ _ (o.gp.dz q (av A))
 have h3:q.params.length<=3:=ab.1
 have PS:∀{a:J},Fz [e] m a->IR e a W q.params:=λz=>ai.le (fh z)
 have ar:=ai.len
 have aa:e∈n.size::f:=by simp[ak]
 have an:=o.gp.ty ab.2.2.1 ab.2.2.2
 refine⟨V,V,W,(dV.1 (fh u.f _ _ _ e0)).2,V,V,_,(dV.1 (fh u.f _ _ _ e1)).2,?_⟩
 refine(Ki ((PS u.f).le (bG _ _)) 1).mono λ_ m3⟨pl,en,aq,x3⟩=>⟨(K (ad _)).dv (x3.fz _),pl,en,?_⟩
 have z3:=x3.size
 refine Hs (n.size::f) i g.length q.params.length (K z3) 0 λs4 r D x4=>?_
 have z4:=x4.size
 intro m5 H
 obtain⟨x6,b6,z6⟩:=BX.new (f:=m5) (d:=H) D rfl rfl
 clear_value H
 have r6:=((u.ext x3).ext x4).ext x6
 have hk:r.size≠e:=V
 have L6:∀{a:J},H.size<=a.size->Lw e [r.size,n.size,m.size] a:=λc=>lw hr bR
 refine(cw r6.r V 4).mono λ_ s⟨b,en,_,_,d7,N⟩=>⟨(L6 (ad _)).dv N,b,en,?_⟩
 have I:=r6.to N d7
 have z7:=N.size
 have C:=o.to I.f I.r
 have b7:=b6.fz aa hk N
 have E:∀j∈r.size::n.size::f,j<s.size:=bP (ae (a:=s) V) (ad _) V
 have F:e∈r.size::n.size::f:=by simp[ak]
 have gW:∀{z:Nat}{ac:List Value}{Q:Nat},aL cp z ac s (XP (r.size::n.size::f) e h s Q (WX i g.length q.params.length))->Q<=P+300+20*Cg 18->aL cp z ac s λv B=>dR [r.size,n.size,m.size] s B/\∃X Y:Int,∃u:O,v=.agg #[vi X,vi Y,O.v u]/\
  ∃w j,BX (n.size::f) i g.length q.params.length r.size (ah B r.size 0 [.i X,.i Y,.s u]) w j/\Rs e h m (P+300+20*Cg 18) (ah B r.size 0 [.i X,.i Y,.s u])/\H.size<=(ah B r.size 0 [.i X,.i Y,.s u]).size:=λc hQ=>
  XP.kk c (L6 z7) λw j B h1 h2 h3 D=>by
   have hb:=(b7.fz aa hk D).set ⟨h1,h2⟩;have aj:=(I.to D h3).put o.rd (k:=r.size) V 0 [.i j.op,.i j.bL,.s w];exact⟨w,j,hb,⟨aj.f,aj.r.mono hQ⟩,by rw[ay];have:=D.size;omega⟩
 have IN:=λ(a:J)(S':List Nat)(h1:∀j∈S',j<a.size)(h2:e∈S')(Q:Nat)(cM:GC e h Q d p i g a)(z:Fz [e] m a)(hQ:Q+20*Cg 18<=10000000000000000)(t:Int)(hb:0<=t/\t<=18)=>Kb (S:=S') h1 h2 cM hQ (PS z) V an hb
 have T:=gW ((IN s _ E F _ C I.f V 18 bh).mono λ_ _ c=>c.mono (λj L=>L.1) (ad _)) V
 have first:1<=q.params.length->∃y:Int,q.params[0]? =some y/\af s W.E (W.off+Int.toNat 0*1)=some (vi y):=λc=>by
  obtain⟨y,U⟩:=ag (l:=q.params) (k:=0) V;exact⟨y,U,(dV.1 ((PS I.f).D U)).2⟩
 refine⟨λa=>∃w j,BX (n.size::f) i g.length q.params.length r.size a w j/\Rs e h m (P+300+20*Cg 18) a/\H.size<=a.size,?_,?_⟩
 ·refine⟨λv a=>(v=true->R=0)/\s=a,⟨λ_=>⟨λc=>by simp at c;omega,rfl⟩,λ_=>⟨λc=>by simp at c,rfl⟩⟩,?_⟩
  rintro v _ ⟨G,rfl⟩
  refine⟨λc=>?_,λ_=>?_⟩
  ·have Z:=al (G c)
   exact gW ((It E F C V).mono λ_ _ c=>c.mono (λj L=>by rw[Z];exact L) (ad _)) V
  refine⟨λv a=>(v=true->0<=pl)/\s=a,⟨λ_=>⟨λc=>⟨λ_=>⟨λ_=>by simpa using c,rfl⟩,λ_=>⟨λ_=>by simpa using c,rfl⟩⟩,λ_=>⟨aJ,rfl⟩⟩,λ_=>⟨aJ,rfl⟩⟩,?_⟩
  rintro v _ ⟨G,rfl⟩
  refine⟨λc=>gW (Iw E F C V A ⟨G c,V⟩) V,λ_=>?_⟩
  refine⟨λv a=>(v=true->1<=q.params.length)/\s=a,⟨λ_=>⟨λc=>?_,λ_=>⟨aJ,rfl⟩⟩,λ_=>⟨aJ,rfl⟩⟩,?_⟩
  ·simp only[au]at c
   obtain⟨y,U,L⟩:=first V
   exact⟨bh,V,y,L,λ_=>⟨λ_=>⟨λ_=>V,rfl⟩,λ_=>⟨λ_=>V,rfl⟩⟩,λ_=>⟨aJ,rfl⟩⟩
  rintro v _ ⟨G,rfl⟩
  refine⟨λc=>gW (Ix E F C V A (G c)) V,λ_=>⟨λ_=>⟨λc=>?_,λ_=>T⟩,λ_=>T⟩⟩
  simp only[au]at c
  obtain⟨y,U,L⟩:=first V
  have Z:=gW (Ie E F C V A V) V
  exact⟨bh,V,y,L,λ_=>⟨λ_=>Z,λ_=>⟨λ_=>Z,λ_=>T⟩⟩,λ_=>T⟩
 rintro a ⟨w,j,t,am,aw⟩
 refine⟨_,t.b.bV 0,_,t.b.bV 1,_,t.b.bV 2,?_⟩
 refine(Aa (fe.le (bG _ _) t.h.sl)).mono λ_ m8⟨n8,e8,q8,Z⟩=>⟨(K V).dv (Z.fz _),n8,e8,?_⟩
 have z8:=Z.size
 have G:=am.ext Z
 have L:=t.ext Z
 refine⟨λ_=>?_,λc=>⟨_,L.b.bV 0,_,L.b.bV 1,_,L.b.bV 2,?_⟩⟩
 ·exact XP.ret (IN m8 (n.size::f) (ae V) aa _ (o.to G.f G.r) G.f V 12 bh) (K V) G.f o.rd V (λ_ c=>c) V
 ·simp only[bU]at c
  have r9:=G.put o.rd (k:=n.size) V 0 [.i j.op,.i j.bL,.s w]
  exact⟨w,j,rfl,(L.h.eQ.put aJ _ _).eQ.sl,⟨t.h.wx,V⟩,r9.r.mono V,r9.f⟩
end
def AM{α:Type}{R:J->List Ce->α->Prop}{n:Nat}(g:nM n R){S:List Nat}(o:∀d∈S,d<a.size)(e:Nat)(l:List (α×List Ce))(h:∀x∈l,R (bM S a) x.2 x.1)(p:c=l.flatMap (·.2))(q:b=l.length):
 Gr S a (a.push (.cells (bC c) e)) e n R (.mk a.size 0 b b) (l.map (·.1)):=by
 refine Gr.lit (f:=l.map (·.2)) g (ad _) o (by rw[p,ZV]) (by simp[q]) ⟨aJ,λd i=>?_,λr d e k j=>?_⟩
 ·simp at i;obtain⟨m,f⟩:=i;exact g.len (h _ f)
 ·simp only[cU,iW]at k j
  obtain⟨x,m,rfl⟩:=k
  obtain⟨y,f,rfl⟩:=j
  rw[m]at f;simp at f;subst f
  exact h x (av m)
abbrev SH(m:J)(s:O)(l:List (List Int)):Prop:=eK m 1 (mw m) s l
def wg{S:List Nat}(d:∀e∈S,e<a.size)(e:Nat)(l:List (List Int×O))(k:l.length<=1000)(h:∀x∈l,aq (bM S a) x.2 x.1)(f:c=l.map λx=>.s x.2)(g:b=l.length):SH (bM S (a.push (.cells (bC c) e))) (.mk a.size 0 b b) (l.map (·.1)):=by
 have H:=AM (R:=λm c x=>mw m c x) (n:=1) ⟨λh=>mw.le h _ _,λ⟨_,h,_⟩=>by rw[h];rfl⟩ d e (l.map λx=>(x.1,[Ce.s x.2])) (λx i=>by simp at i;obtain⟨m,o,j,rfl⟩:=i;exact⟨_,rfl,h _ j⟩) (c:=c) (b:=b) (by rw[f];clear f g h k;induction l<;>simp_all) (by simp[g]);have i:=Gr.done mw.mono H d bh bR;rwa[show(l.map λx=>(x.1,[Ce.s x.2])).map (·.1)=l.map (·.1)by simp[VG,ZD]]at i
abbrev Xu(S:List Nat)(a m:J)(s:O)(l:List bu):Prop:=Gr S a m jw 3 hO s l
end
section
variable{K:O->J->Prop}
section
variable{S L:List Nat}{c P:Nat}{d:O}{m b:J}
def Lq(f:O)(d:∀a∈L,a<b.size)(g:∀a,N b a->K f a):aL cp 201 [O.v f] b λv a=>dR L b a/\∃c:O,v=.agg #[O.v c]/\K c a:=
 (J5 f b).mono λ_ a⟨e,x⟩=>⟨x.dv d,f,e,g a x⟩
def Cl(f:O)(d:∀a,N b a->K f a):aL cp 201 [O.v f] b λv a=>∃c:O,v=.agg #[O.v c]/\K c a:=
 (J5 f b).mono λ_ a⟨e,x⟩=>⟨f,e,d a x⟩
def vF(hS:∀u∈S,u<m.size)(W:c∈S)(U:Rd c d P m)(hP:P+1<=10000000000000000):
 aL cp 200 [vp c 0] m λa9 X=>∃v ds,a9=O.v v/\Xu S m X v ds/\ds∈qQ/\Rd c d (P+1) X/\Fz [c] m X:=by
 apply zL (c,0)
 simp -zeta only[aC,aB]
 have hr:=U.lt
 have j:∀{b:J},m.size<=b.size->∀u∈S,u<b.size:=λh u hc=>by have:=hS u hc;omega
 have I:∀(b:J)(g:List Int)(Q:List Ce)(F:Nat),m.size<=b.size->Q=g.map Ce.i->F=g.length->g.length<=1000->aq (bM S (b.push (.cells (bC Q) aI))) (.mk b.size 0 F F) g:=λb g Q F h h1 h2 h3=>aq.lit aI g (j h) h1 h2 V
 have ax:∀(b:J)(f:Nat),aq (bM S b) (.mk f 0 0 0) []:=λb f=>lZ _ _ _ _ _ _
 intro a6
 have x1:N m a6:=N.push _ _
 refine Cl _ λA x2=>?_
 intro m3
 have x3:N A m3:=N.push _ _
 have z2:=(x1.trans x2).size
 have i3:aq (bM S m3) (.mk A.size 0 2 2) [0,1]:=I A [0,1] _ _ z2 rfl rfl bh
 clear_value m3
 refine Cl _ λm4 K=>?_
 intro s
 have x5:N m4 s:=N.push _ _
 have z4:=(x3.trans K).size
 have c5:SH (bM S s) (.mk m4.size 0 2 2) [[],[0,1]]:=wg (j V) _ [([],.mk m.size 0 0 0),([0,1],.mk A.size 0 2 2)] aJ (by simp;exact⟨ax _ _,i3.le (K.cW _)⟩) rfl rfl
 clear_value s
 intro m6 D
 obtain⟨x7,-,z7⟩:=jN (M:=s) (d:=m6) (c:=D) rfl rfl rfl
 clear_value D
 have z5:=x5.size
 intro m8
 have x8:N D m8:=N.push _ _
 clear_value m8
 have z8:=x8.size
 refine Lq _ bR λE x9=>?_
 intro Y
 have aG:N E Y:=N.push _ _
 have z9:=x9.size
 have a1:aq (bM S Y) (.mk E.size 0 3 3) [3,0,3]:=I E [3,0,3] _ _ V rfl rfl bh
 clear_value Y
 have yz:=aG.size
 refine Lq _ bR λZ al=>?_
 intro o
 have aH:N Z o:=N.push _ _
 have bc:=al.size
 have aR:SH (bM S o) (.mk Z.size 0 2 2) [[],[3,0,3]]:=wg (j V) _ [([],.mk D.size 0 0 0),([3,0,3],.mk E.size 0 3 3)] aJ (by simp;exact⟨ax _ _,a1.le (al.cW _)⟩) rfl rfl
 clear_value o
 intro a7 p
 obtain⟨a_,-,be⟩:=jN (M:=o) (d:=a7) (c:=p) rfl rfl rfl
 clear_value p
 have bd:=aH.size
 have LL:∀{b:J},p.size<=b.size->∀f∈[o.size,s.size],f<b.size:=λh=>bR
 intro aa
 have aK:N p aa:=N.push _ _
 have a2:aq (bM S aa) (.mk p.size 0 2 2) [1,3]:=I p [1,3] _ _ V rfl rfl bh
 clear_value aa
 have ba:=aK.size
 refine Lq _ (LL ba) λab am=>?_
 intro q
 have aM:N ab q:=N.push _ _
 have bf:=am.size
 have aS:SH (bM S q) (.mk ab.size 0 1 1) [[1,3]]:=wg (j V) _ [([1,3],.mk p.size 0 2 2)] aJ (by simp;exact a2.le (am.cW _)) rfl rfl
 clear_value q
 have bg:=aM.size
 intro ac
 have aN:N q ac:=N.push _ _
 have a3:aq (bM S ac) (.mk q.size 0 3 3) [1,1,0]:=I q [1,1,0] _ _ V rfl rfl bh
 clear_value ac
 have bi:=aN.size
 refine Lq _ (LL V) λz an=>?_
 intro ae
 have ao:N z ae:=N.push _ _
 have bj:=an.size
 have a4:aq (bM S ae) (.mk z.size 0 1 1) [0]:=I z [0] _ _ V rfl rfl bh
 clear_value ae
 have bk:=ao.size
 refine Lq _ (LL V) λB G=>?_
 intro af
 have H:N B af:=N.push _ _
 have bl:=G.size
 have a5:aq (bM S af) (.mk B.size 0 1 1) [3]:=I B [3] _ _ V rfl rfl bh
 clear_value af
 have bm:=H.size
 refine Lq _ (LL V) λah w=>?_
 intro r
 have aO:N ah r:=N.push _ _
 have bn:=w.size
 have aT:SH (bM S r) (.mk ah.size 0 3 3) [[1,1,0],[0],[3]]:=wg (j V) _ [([1,1,0],.mk q.size 0 3 3),([0],.mk z.size 0 1 1),([3],.mk B.size 0 1 1)] aJ (by simp;exact⟨a3.le ((((((an.trans ao).trans G).trans H).trans w)).cW _),a4.le (((G.trans H).trans w).cW _),a5.le (w.cW _)⟩) rfl rfl
 clear_value r
 have bo:=aO.size
 have aA:=(((((aN.trans an).trans ao).trans G).trans H).trans w).trans aO
 have az:=(((a_.trans aK).trans am).trans aM).trans aA
 have L:=(((((x7.trans x8).trans x9).trans aG).trans al).trans aH).trans az
 have y:∀{ap ar:J}{v:O}{g:List (List Int)},N ap ar->SH (bM S ap) v g->SH (bM S ar) v g:=λaF h=>eK.le h (aF.cW _) (mw.le (aF.cW _))
 have aj:SH (bM S r) .nil []:=⟨rfl,ad _,aJ,aJ⟩
 intro e
 have t:N r e:=N.push _ _
 have aX:cr (bM S e) (.mk r.size 0 4 4) Qg:=(AM (R:=hO) hO.mono (j (b:=r) V) jw [(⟨0,0,[[1,3]]⟩,[.i 0,.i 0,.s (.mk ab.size 0 1 1)]),(⟨1,0,[]⟩,[.i 1,.i 0,.s .nil]),(⟨0,0,[[1,1,0],[0],[3]]⟩,[.i 0,.i 0,.s (.mk ah.size 0 3 3)]),(⟨0,1,[]⟩,[.i 0,.i 1,.s .nil])] (by simp;exact⟨⟨_,rfl,y aA aS⟩,⟨_,rfl,aj⟩,⟨_,rfl,aT⟩,⟨_,rfl,aj⟩⟩) rfl rfl).done hO.mono (j V) bh bh
 clear_value e
 have bp:=t.size
 intro C
 have x:N e C:=N.push _ _
 have aD:Xu S e C (.mk e.size 0 3 3) Ja:=AM (R:=hO) hO.mono (j (b:=e) V) jw [(⟨0,0,[[],[0,1]]⟩,[.i 0,.i 0,.s (.mk m4.size 0 2 2)]),(⟨0,0,[]⟩,[.i 0,.i 0,.s .nil]),(⟨0,0,[[],[3,0,3]]⟩,[.i 0,.i 0,.s (.mk Z.size 0 2 2)])] (by simp;exact⟨⟨_,rfl,y (L.trans t) c5⟩,⟨_,rfl,y t aj⟩,⟨_,rfl,y (az.trans t) aR⟩⟩) rfl rfl
 clear_value C
 have ay:=((((x1.trans x2).trans x3).trans K).trans x5).trans (L.trans (t.trans x))
 have bq:=x.size
 have aQ:Lw c [o.size,s.size] C:=λf n=>⟨LL V f n,by simp at n;omega⟩
 refine(cw (U.ext ay) V 5).mono λ_ ai⟨aE,aV,k0,k1,T,i⟩=>⟨aQ.dv i,aE,aV,λh=>?_,λ_=>⟨_,Ja,rfl,Gr.ct hO.mono (aD.dO hO.mono i (by simp;exact⟨W,V⟩)) (λ_ h=>Or.inl h) V,by simp[qQ],T,(ay.fz _).trans i⟩⟩
 simp only[au]at h
 obtain⟨ak,hq⟩:=ag (l:=Qg) (k:=aE.toNat) (by simp[Qg];omega)
 have a0:Le (bM S e) (bM (e.size::S) ai):=(x.bM λf n=>(List.mem_cons.1 n).elim (λh=>Or.inr V) Or.inl).trans (i.cW (by simp[W]))
 obtain⟨aW,hf,e0,e1,e2⟩:=(aX.le a0).D hq
 refine⟨k0,bR,_,(dV.1 e0).2,_,(dV.1 e1).2,_,(dV.1 e2).2,?_⟩
 intro bb
 have aY:Xu S e ai (.mk e.size 0 3 3) Ja:=aD.dO hO.mono i (by simp;exact⟨W,V⟩)
 have hz:=i.size
 have aZ:Ja++[ak]∈qQ:=by
  have:=av hq;simp only[qQ,aU,VH];exact Or.inr ⟨ak,this,rfl⟩
 refine Gr.jY (g:=[.i 0,.i 0,.s .nil]) (k:=ak) hO.mono bh aY ((x.fz _).trans i) ⟨aW,rfl,hf⟩ (by simp[Ja]) λa8 M' g' f' z' q'=>?_
 have aw:=((((((x1.trans x2).trans x3).trans K).trans x5).trans (L.trans t)).fz [c]).trans f'
 have aP:Lw c [o.size,s.size] e:=λf n=>⟨LL V f n,by simp at n;omega⟩
 exact⟨aP.sM (((x.fz [c]).trans i).then (N.push ai _)) f',a8,_,rfl,Gr.ct hO.mono g' (λ_ h=>Or.inl h) V,aZ,U.MC T aw (q' c T.lt (by show c≠e.size;omega)),aw⟩
end
end
section
variable{a:Nat}{b:List Ce}
def Nz(M:J)(b:List Ce)(x:dk×Option Ex):Prop:=∃c a k z,b=[.s c,.i x.1.aV,.i a,.i k,.s z]/\aq M c x.1.params/\∀e,x.2=some e->a=e.op/\k=e.bL/\fe M z e.bD
def Nz.mono:nM 5 Nz:=⟨λh⟨b,a,k,z,e,c,d⟩=>⟨b,a,k,z,e,c.le h,λx j=>let⟨f,g,i⟩:=d x j;⟨f,g,fe.le h i⟩⟩,λ⟨_,_,_,_,e,_⟩=>by rw[e];rfl⟩
def Xt(M:J)(b:List Ce)(x:dk×Ex):Prop:=∃a s,b=[.s a,.i x.1.aV,.i x.2.op,.i x.2.bL,.s s]/\aq M a x.1.params/\fe M s x.2.bD
def Xt.mono:nM 5 Xt:=⟨λh⟨a,s,e,b,c⟩=>⟨a,s,e,b.le h,fe.le h c⟩,λ⟨_,_,e,_⟩=>by rw[e];rfl⟩
abbrev Ve(m:J)(s:O)(l:List (dk×Ex)):Prop:=eK m 5 (Xt m) s l
structure Vj(ds:List bu)(l:List (dk×Ex)):Prop where
 gp:GP ds (l.map (·.1))
 IN:∀x∈l,V5 ds l.length x.1.params.length x.2
def Gr.Ym{α:Type}{S:List Nat}{q p:J}{j g h c k:Nat}{R:J->List Ce->α->Prop}{o:List α}(x:0<g)(m:Gr S q p j g R (.mk h 0 a c) o)(v:k<=a):Gr S q p j g R (.mk h 0 k c) (o.take k):=by
 have w:=m.len x;obtain⟨-,b,r,d⟩:=m;simp only[O.jt]at w;have t:b.length=a:=by rw[d.len];omega
 rcases r.D with e|⟨B,C,tail,e,h4,h5,h6,h7⟩
 ·simp at e
 simp only[O.jt,O.mk.injEq]at e h7;obtain⟨rfl,-,-,rfl⟩:=e;have l:b.flatten=(b.take k).flatten++(b.drop k).flatten:=by rw[<-xF,cT]
 have n:∀c∈b.take k,c.length=g:=λc s=>d.size c (jL s);refine⟨aJ,b.take k,⟨by rw[df n,gU,t,jc v];rfl,Or.inr ⟨h,c,(b.drop k).flatten++tail,aJ,h4,by rw[<-eW,<-l];exact h5,by rw[<-eW,<-l];exact h6,bR⟩⟩,?_,n,λy z A f i=>?_⟩
 ·rw[gU,gU,d.len]
 ·rw[kW]at f i;split at f
  ·rename_i u;rw[an u]at i;exact d.dz y z A f i
  ·simp at f
section
variable{S L:List Nat}{d P:Nat}{c:O}{m M:J}
def qF{K:O->Int->Int->Int->O->J->Prop}(l:List Int)(r:Int)(n:∀c∈S,c<M.size)(m:∀d∈L,d<M.size)(t:l.length<=1000)(p:b=l.map Ce.i)(s:a=l.length)(q:∀c,N M c->aq (bM S c) (.mk M.size 0 a a) l->K (.mk M.size 0 a a) r 0 0 .nil c):
 aL cp 248 [O.v (.mk M.size 0 a a),vi r] (M.push (.cells (bC b) aI)) λv c=>dR L (M.push (.cells (bC b) aI)) c/\∃e:O,∃f:Int,∃g:Int,∃h:Int,∃i:O,v=.agg #[O.v e,vi f,vi g,vi h,O.v i]/\K e f g h i c:=
 have j:=N.push M (.cells (bC b) aI)
 (PK _ r _).mono λ_ c⟨k,x⟩=>⟨x.dv λd o=>j.lt (m d o),_,_,_,_,_,k,q c (j.trans x) ((aq.lit aI l n p s V).le (x.cW _))⟩
def xl(a:List Int)(r:Int):dk:=⟨a,[],r,0,[]⟩
def Rl.mono:nM 5 Rl:=⟨λh=>Rl.le h,λ⟨_,_,_,_,e,_⟩=>by rw[e];rfl⟩
def PG(l:List (dk×O))(c:∀d∈S,d<M.size)(h:∀x∈l,aq (bM S M) x.2 x.1.params)(k:l.length<=1000)(f:b=l.flatMap λx=>[.s x.2,.i x.1.aV,.i 0,.i 0,.s .nil])(g:a=l.length):oN (bM S (M.push (.cells (bC b) eT))) (.mk M.size 0 a a) (l.map (·.1)):=by
 have H:=(AM (R:=Rl) Rl.mono c eT (l.map λx=>(x.1,[Ce.s x.2,.i x.1.aV,.i 0,.i 0,.s .nil])) (λx d=>by simp at d;obtain⟨i,j,e,rfl⟩:=d;exact⟨_,_,_,_,rfl,h _ e⟩) (c:=b) (b:=a) (by rw[f,List.flatMap_map]) (by simp[g])).done Rl.mono c bh bR;rwa[show(l.map λx=>(x.1,[Ce.s x.2,.i x.1.aV,.i 0,.i 0,.s .nil])).map (·.1)=l.map (·.1)by simp[VG,ZD]]at H
end
end
section
def Ts:List dk:=[xl [1] 0,xl [1,1] 1,xl [1] 1,xl [1,0] 1,xl [2,1] 1,xl [1,1] 0]
def TA:List dk:=[xl [3] 0,xl [0] 1,xl [0,1] 1,xl [3,0] 3,xl [3] 1,xl [1,3,0] 0]
def Nf:List dk:=[xl [0] 0,xl [0,0] 0,xl [1,0] 0,xl [0] 1]
def O7:(∀q∈Ts,(q.params,q.aV)∈NI)/\(∀q∈TA,(q.params,q.aV)∈NI)/\∀q∈Nf,(q.params,q.aV)∈NI:=bh
def MP{α:Type}{l:List α}{k:Nat}{x:α}(h:l[k]? =some x):l.set k x=l:=iT λi=>by
 rw[iV];split
 ·rename_i e;subst e;rw[an (aD h),h]
 ·rfl
section
variable{b:List Nat}{c P:Nat}{d:O}{m:J}
def Dk(hS:∀j∈b,j<m.size)(t:c∈b)(I:Rd c d P m)(hP:P+10+4*(300+40*Cg 18)<=10000000000000000):
 aL cp 235 [vp c 0] m λbB m'=>∃y aY z p,bB=.agg #[O.v y,O.v aY]/\cr (bM b m') y z/\Ve (bM b m') aY p/\Vj z p/\Rd c d (P+10+4*(300+40*Cg 18)) m'/\Fz [c] m m':=by
 apply wI (c,0)
 unfold ry
 simp(config:={zeta:=false,maxSteps:=2000000}) only[aC,aB]
 have hr:=I.lt
 intro ab
 have x1:N m ab:=N.push _ _
 have s1:ab.size=m.size+1:=by simp[ab]
 clear_value ab
 have ar:∀j∈m.size::b,j<ab.size:=bP hS x1.size V
 refine(vF ar (by simp[t]) (I.ext x1) V).mono λ_ e⟨y,z,s,gd,aQ,d2,f2⟩=>⟨f2.dv bR,y,s,?_⟩
 have z2:=f2.size
 have F2:=(x1.fz [c]).trans f2
 have aO:cr (bM (m.size::b) e) y z:=gd.done hO.mono ar bh (by have:=oP z aQ;omega)
 intro m3 B
 obtain⟨x4,-,z4⟩:=jN (M:=e) (d:=m3) (c:=B) rfl rfl rfl
 clear_value B
 have h:∀{g:J},B.size<=g.size->∀j∈e.size::m.size::b,j<g.size:=λr=>bP (λj hc=>by have:=ar j hc;omega) r V
 have LL:∀{g:J},B.size<=g.size->∀w∈[e.size,m.size],w<g.size:=λr=>bR
 refine qF (S:=e.size::m.size::b) [1] 0 (h V) (LL V) bh rfl rfl λba x5 i1=>?_
 have z5:=x5.size
 refine qF (S:=e.size::m.size::b) [1,1] 1 (h V) (LL V) bh rfl rfl λa2 x6 i2=>?_
 have z6:=x6.size
 refine qF (S:=e.size::m.size::b) [1] 1 (h V) (LL V) bh rfl rfl λa3 x7 i3=>?_
 have z7:=x7.size
 refine qF (S:=e.size::m.size::b) [1,0] 1 (h V) (LL V) bh rfl rfl λa4 x8 i4=>?_
 have z8:=x8.size
 refine qF (S:=e.size::m.size::b) [2,1] 1 (h V) (LL V) bh rfl rfl λbb x9 i5=>?_
 have z9:=x9.size
 refine qF (S:=e.size::m.size::b) [1,1] 0 (h V) (LL V) bh rfl rfl λa6 aE i6=>?_
 have yz:=aE.size
 intro b1
 have y1:N a6 b1:=N.push _ _
 have X9:=x9.trans aE;have X8:=x8.trans X9;have X7:=x7.trans X8;have X6:=x6.trans X7
 have g1:oN (bM (e.size::m.size::b) b1) (.mk a6.size 0 6 6) Ts:=PG [(xl [1] 0,.mk B.size 0 1 1),(xl [1,1] 1,.mk ba.size 0 2 2),(xl [1] 1,.mk a2.size 0 1 1),(xl [1,0] 1,.mk a3.size 0 2 2),(xl [2,1] 1,.mk a4.size 0 2 2),(xl [1,1] 0,.mk bb.size 0 2 2)] (h V) (by simp;exact⟨i1.le (X6.cW _),i2.le (X7.cW _),i3.le (X8.cW _),i4.le (X9.cW _),i5.le (aE.cW _),i6⟩) aJ rfl rfl
 have bK:b1.size=a6.size+1:=by simp[b1]
 clear_value b1
 have w1:=y1.size
 refine qF (S:=e.size::m.size::b) [3] 0 (h V) (LL V) bh rfl rfl λc1 u1 j1=>?_
 have v1:=u1.size
 refine qF (S:=e.size::m.size::b) [0] 1 (h V) (LL V) bh rfl rfl λc2 u2 j2=>?_
 have v2:=u2.size
 refine qF (S:=e.size::m.size::b) [0,1] 1 (h V) (LL V) bh rfl rfl λc3 u3 j3=>?_
 have v3:=u3.size
 refine qF (S:=e.size::m.size::b) [3,0] 3 (h V) (LL V) bh rfl rfl λc4 u4 j4=>?_
 have v4:=u4.size
 refine qF (S:=e.size::m.size::b) [3] 1 (h V) (LL V) bh rfl rfl λc5 u5 j5=>?_
 have v5:=u5.size
 refine qF (S:=e.size::m.size::b) [1,3,0] 0 (h V) (LL V) bh rfl rfl λc6 u6 j6=>?_
 have v6:=u6.size
 intro b2
 have y2:N c6 b2:=N.push _ _
 have U5:=u5.trans u6;have U4:=u4.trans U5;have U3:=u3.trans U4;have U2:=u2.trans U3
 have g2:oN (bM (e.size::m.size::b) b2) (.mk c6.size 0 6 6) TA:=PG [(xl [3] 0,.mk b1.size 0 1 1),(xl [0] 1,.mk c1.size 0 1 1),(xl [0,1] 1,.mk c2.size 0 2 2),(xl [3,0] 3,.mk c3.size 0 2 2),(xl [3] 1,.mk c4.size 0 1 1),(xl [1,3,0] 0,.mk c5.size 0 3 3)] (h V) (by simp;exact⟨j1.le (U2.cW _),j2.le (U3.cW _),j3.le (U4.cW _),j4.le (U5.cW _),j5.le (u6.cW _),j6⟩) aJ rfl rfl
 have bL:b2.size=c6.size+1:=by simp[b2]
 clear_value b2
 have w2:=y2.size
 refine qF (S:=e.size::m.size::b) [0] 0 (h V) (LL V) bh rfl rfl λe1 t1 k1=>?_
 have q1:=t1.size
 refine qF (S:=e.size::m.size::b) [0,0] 0 (h V) (LL V) bh rfl rfl λe2 t2 k2=>?_
 have q2:=t2.size
 refine qF (S:=e.size::m.size::b) [1,0] 0 (h V) (LL V) bh rfl rfl λe3 t3 k3=>?_
 have q3:=t3.size
 refine qF (S:=e.size::m.size::b) [0] 1 (h V) (LL V) bh rfl rfl λe4 t4 k4=>?_
 have q4:=t4.size
 intro b3
 have y3:N e4 b3:=N.push _ _
 have T3:=t3.trans t4;have T2:=t2.trans T3
 have g3:oN (bM (e.size::m.size::b) b3) (.mk e4.size 0 4 4) Nf:=PG [(xl [0] 0,.mk b2.size 0 1 1),(xl [0,0] 0,.mk e1.size 0 2 2),(xl [1,0] 0,.mk e2.size 0 2 2),(xl [0] 1,.mk e3.size 0 1 1)] (h V) (by simp;exact⟨k1.le (T2.cW _),k2.le (T3.cW _),k3.le (t4.cW _),k4⟩) aJ rfl rfl
 have bN:b3.size=e4.size+1:=by simp[b3]
 clear_value b3
 have w3:=y3.size
 refine qF (S:=e.size::m.size::b) [] 0 (h V) (LL V) bh rfl rfl λM0 x0 n0=>?_
 have z0:=x0.size
 have aH:=((((u1.trans U2).trans y2)).trans (t1.trans T2)).trans (y3.trans x0)
 have XM:N B M0:=((x5.trans X6).trans y1).trans aH
 have G1:=oN.le (aH.cW _) g1
 have G2:=oN.le ((((t1.trans T2)).trans (y3.trans x0)).cW _) g2
 have a_:=oN.le (x0.cW _) g3
 have dM:Rd c d (P+1) M0:=(d2.ext x4).ext XM
 have L2:∀{g:J},B.size<=g.size->Lw c [e.size,m.size] g:=λr=>lw hr bR
 have bG:c∈e.size::m.size::b:=by simp[t]
 have o:∀{g M':J}{w Y:Nat},B.size<=w->w<g.size->Fz [c] g M'->af M' w Y=af g w Y:=λh1 h2 Q=>aM (Q.same _ h2 bR) _
 refine(cw dM V _).mono λ_ m5⟨r1,en,bw,a0,d5,f5⟩=>⟨(L2 V).dv f5,r1,en,bw,by simp at a0⊢;omega,?_⟩
 have am:Le (bM (e.size::m.size::b) M0) (bM (e.size::m.size::b) m5):=f5.cW (by simp[t])
 have bU:=f5.size
 obtain⟨K,aS⟩:=ag (l:=Ts) (k:=r1.toNat) (by simp[Ts]at a0⊢;omega)
 obtain⟨_,⟨pa,pn,pk,pz,rfl,pi⟩,pr⟩:=(oN.le am G1).iv _ K aS
 have pg:=λu j r=>(dV.1 (pr u j r)).2
 refine⟨_,pg 0 _ rfl,_,pg 1 _ rfl,_,pg 2 _ rfl,_,pg 3 _ rfl,_,pg 4 _ rfl,?_⟩
 refine(cw d5 V _).mono λ_ m6⟨r2,en,bz,a5,d6,A⟩=>⟨(L2 V).dv A,r2,en,?_⟩
 have bV:=A.size
 have ao:Le (bM (e.size::m.size::b) m5) (bM (e.size::m.size::b) m6):=A.cW (by simp[t])
 obtain⟨p2,aT⟩:=ag (l:=TA) (k:=r2.toNat) (by simp[TA]at a5⊢;omega)
 obtain⟨_,⟨qa,qn,qk,qz,rfl,qi⟩,qr⟩:=(oN.le (am.trans ao) G2).iv _ p2 aT
 have qg:=λu j r=>(dV.1 (qr u j r)).2
 refine⟨o bR bR A,o bR bR A,o bR bR A,o bR bR A,o bR bR A,bz,by simp at a5⊢;omega,_,qg 0 _ rfl,_,qg 1 _ rfl,_,qg 2 _ rfl,_,qg 3 _ rfl,_,qg 4 _ rfl,?_⟩
 refine(cw d6 V _).mono λ_ f⟨r3,en,bA,a7,d7,q⟩=>⟨(L2 V).dv q,r3,en,?_⟩
 have bW:=q.size
 have ap:Le (bM (e.size::m.size::b) m6) (bM (e.size::m.size::b) f):=q.cW (by simp[t])
 obtain⟨p3,aV⟩:=ag (l:=Nf) (k:=r3.toNat) (by simp[Nf]at a7⊢;omega)
 obtain⟨_,⟨ra,rn,rk,rz,rfl,ri⟩,rr⟩:=(oN.le ((am.trans ao).trans ap) a_).iv _ p3 aV
 have rg:=λu j r=>(dV.1 (rr u j r)).2
 refine⟨o bR bR q,o bR bR q,o bR bR q,o bR bR q,o bR bR q,o bR bR q,o bR bR q,o bR bR q,o bR bR q,o bR bR q,bA,by simp at a7⊢;omega,_,rg 0 _ rfl,_,rg 1 _ rfl,_,rg 2 _ rfl,_,rg 3 _ rfl,_,rg 4 _ rfl,?_⟩
 intro U
 have a8:N f U:=N.push _ _
 have bn:aq (bM (e.size::m.size::b) f) (.mk b3.size 0 0 0) []:=lZ _ _ _ _ _ _
 have gf:Gr (e.size::m.size::b) f U eT 5 Nz (.mk f.size 0 4 4) [(xl [] 0,none),(K,none),(p2,none),(p3,none)]:=AM Nz.mono (h V) eT [((xl [] 0,none),[.s (.mk b3.size 0 0 0),.i 0,.i 0,.i 0,.s .nil]),((K,none),[.s pa,.i K.aV,.i pn,.i pk,.s pz]),((p2,none),[.s qa,.i p2.aV,.i qn,.i qk,.s qz]),((p3,none),[.s ra,.i p3.aV,.i rn,.i rk,.s rz])] (by simp;exact⟨⟨_,_,_,_,rfl,bn,aJ⟩,⟨_,_,_,_,rfl,pi.le (ao.trans ap),aJ⟩,⟨_,_,_,_,rfl,qi.le ap,aJ⟩,⟨_,_,_,_,rfl,ri,aJ⟩⟩) rfl rfl
 have s8:U.size=f.size+1:=by simp[U]
 clear_value U
 let v:=[xl [] 0,K,p2,p3]
 have bD:f.size≠e.size:=V
 have bf:∀ae∈v,(ae.params,ae.aV)∈NI:=by
  simp only[v,aU,jy,AE];rintro ae (rfl|rfl|rfl|rfl)
  ·simp[xl,NI]
  ·exact O7.1 _ (av aS)
  ·exact O7.2.1 _ (av aT)
  ·exact O7.2.2 _ (av aV)
 have a9:Fz [c] e f:=(((x4.trans XM).fz [c]).trans f5).trans (A.trans q)
 have aZ:∀{g:J}{aj:O}{p:List (dk×Option Ex)}(Y:Nat)(L:List Ce),Gr (e.size::m.size::b) f g eT 5 Nz aj p->Gr (e.size::m.size::b) f (ah g e.size Y L) eT 5 Nz aj p:=λY L G=>G.Ly Nz.mono ((Fz.az [e.size] _).ah (Or.inl aJ) Y L) aJ (by have:=G.be;simp;omega)
 intro W
 have g9:Gr (e.size::m.size::b) f W eT 5 Nz (.mk f.size 0 4 4) [(xl [] 0,none),(K,none),(p2,none),(p3,none)]:=aZ 1 [.s (.mk f.size 0 4 4)] gf
 have r9:Rs c d e (P+4) W:=(Rs.mk (a9.then a8) (d7.ext a8)).put d2 (ad _) 1 [.s (.mk f.size 0 4 4)]
 have s9:W.size=U.size:=ay _ _ _ _
 clear_value W
 intro az
 have ak:N W az:=N.push _ _
 have bq:aq (bM [c] az) (.mk W.size 0 5 5) [4,4,3,2,4]:=aq.lit aI _ bR rfl rfl aJ
 clear_value az
 have bS:=ak.size
 refine(j9 (r9.r.ext ak) V bq aJ).mono λ_ br⟨mn,en,bm,bc,ai⟩=>⟨(L2 V).dv ai,mn,en,?_⟩
 have bT:=ai.size
 have bF:2<=mn/\mn<=4:=by simp at bm;omega
 obtain⟨n,rfl⟩:∃n:Nat,mn=n:=⟨mn.toNat,V⟩
 have bj:O.cut (.mk f.size 0 4 4) (Int.toNat 0) (Int.toNat n) 5=.mk f.size 0 n 4:=by simp[O.cut]
 rw[bj]
 refine⟨bh,V,bR,?_⟩
 intro ac
 have be:Gr (e.size::m.size::b) f ac eT 5 Nz (.mk f.size 0 n 4) ([(xl [] 0,none),(K,none),(p2,none),(p3,none)].take n):=Gr.Ym bh (aZ 1 [.s (.mk f.size 0 n 4)] ((g9.ext Nz.mono ak).dO Nz.mono ai (by simp[t];omega))) V
 have bx:Rs c d e (P+5) ac:=((r9.ext ak).to ai bc).put d2 (ad _) 1 [.s (.mk f.size 0 n 4)]
 have bI:ac.size=br.size:=ay _ _ _ _
 clear_value ac
 have aW:(v.take n).length=n:=by simp[v];omega
 have gp:GP z (v.take n):=⟨aQ,V,V,λae i=>bf ae (jL i)⟩
 have ew:cR ((n:Int) -1)=n -1:=aP V V
 rw[ew]
 refine⟨λQ g=>∃(i:Nat)(p:List (dk×Option Ex)),Q=(i:Int) -1/\i<=n/\Gr (e.size::m.size::b) f g eT 5 Nz (.mk f.size 0 n 4) p/\p.map (·.1)=v.take n/\(∀(u:Nat)(x:dk×Option Ex),p[u]? =some x->i<=u->∃s,x.2=some s/\V5 z n x.1.params.length s)/\Rs c d e (P+5+(n -i)*(300+40*Cg 18)) g/\ac.size<=g.size,λQ _=>(Q+1).toNat,⟨n,_,rfl,ad _,be,by rw[Ma];rfl,λu x D r=>by have:=aD D;simp at this;omega,by rw[OY,OZ];exact bx,ad _⟩,?_⟩
 rintro Q g ⟨i,p,rfl,bE,G,hl,au,Z,zM⟩
 have bl:p.length=n:=by rw[<-aW,<-hl];simp
 have gy:=G.be
 simp only[O.jH]at gy
 have aN:f.size∉e.size::m.size::b:=λr=>by have:=h (g:=B) (ad _) _ r;omega
 refine dit (λr=>?_) λr=>?_
 ·obtain⟨i,rfl⟩:∃E,i=E+1:=⟨i -1,V⟩
  have ek:((i+1:Nat):Int) -1=(i:Int):=V
  rw[ek]
  obtain⟨x,R⟩:=ag (l:=p) (k:=i) V
  have aw:(v.take n)[i]? =some x.1:=by rw[<-hl];simp[R]
  have bp:oN (bM [c] g) (.mk f.size 0 n 4) (v.take n):=by
   have H:=G.ns Nz.mono aN bh V;rw[<-hl];refine⟨bR,H.cap,H.gV,λE aG hy=>?_⟩;simp only[cU,iW]at hy;obtain⟨aa,T,rfl⟩:=hy;obtain⟨L,⟨F,i1,i2,i3,rfl,ha,-⟩,ax⟩:=H.iv E aa T;have aX:=ji g (S:=e.size::m.size::b) (c:=[c]) (by simp[t]);exact⟨_,⟨F,_,_,_,rfl,ha.le aX⟩,aX.iv ax⟩
  have bk:cr (bM [c] g) y z:=aO.le ((ji e (c:=[c]) (by simp[t])).trans (fh Z.f))
  have hB:(n -(i+1))*(300+40*Cg 18)+(300+40*Cg 18)=(n -i)*(300+40*Cg 18):=by rw[<-pE];congr 1;omega
  have bg:(n -i)*(300+40*Cg 18)<=4*(300+40*Cg 18):=dp _ V
  have bo:i=0->x.1.params.length=0:=λI=>by subst I;obtain⟨n',rfl⟩:∃n',n=n'+1:=⟨n -1,V⟩;simp[v]at aw;rw[<-aw];rfl
  have bi:∀j∈f.size::e.size::m.size::b,j<g.size:=bP (h (g:=g) V) (ad _) gy.2
  refine XP.kk (KU (f:=f.size::e.size::m.size::b) bi (by simp[t]) ⟨Z.r,bk,bp,gp⟩ V aw bo) (L2 V) λaj s M1 hs C bd al=>?_
  have bO:=al.size
  intro bs aA
  obtain⟨aF,-,bQ⟩:=jN (M:=M1) (d:=bs) (c:=aA) rfl rfl rfl
  clear_value aA
  have aK:=(G.dO Nz.mono al (by simp[t];omega)).ext Nz.mono aF
  obtain⟨L,⟨F,i1,i2,i3,rfl,ha,-⟩,jk⟩:=aK.cells R
  have bu:=jk 0 _ rfl;have bv:=jk 1 _ rfl
  refine⟨V,bR,F,bu,V,bR,_,bv,V,bR,?_⟩
  obtain⟨wr,gs,-,bH⟩:=aK.set Nz.mono (X:=List.range f.size) ⟨V,λw hb hn=>absurd (List.mem_range.2 hb) hn⟩ (k:=i) V (a:=(x.1,some s)) (cs:=[.s F,.i x.1.aV,.i s.op,.i s.bL,.s aj]) ⟨F,_,_,_,rfl,ha,λe' aR=>by simp at aR;subst aR;exact⟨rfl,rfl,fe.le (aF.cW _) hs⟩⟩
  refine⟨wr,?_⟩
  intro aR
  have bJ:aR.size=aA.size:=ay _ _ _ _
  have a1:Rs c d e (P+5+(n -(i+1))*(300+40*Cg 18)+300+40*Cg 18) aR:=((Z.to al bd).ext aF).put d2 (by show e.size<=f.size;omega) _ _
  refine⟨λw hb=>bt _ _ _ _ (by simp at hb;show w≠f.size;omega),⟨i,p.set i (x.1,some s),aP V V,V,gs,?_,λu aG D bC=>?_,⟨a1.f,a1.r.mono V⟩,V⟩,?_⟩
  ·rw[th,MP (by simp[R]),hl]
  ·rw[iV]at D
   split at D
   ·rename_i e';subst e';rw[an V]at D;simp at D;subst D
    have:(v.take n).length=n:=aW
    rw[this]at C;exact⟨s,rfl,C⟩
   ·exact au u aG D V
  ·rw[aP V V];show((i:Int) -1+1).toNat<((i:Int)+1).toNat;omega
 ·have I:i=0:=V
  subst I
  have al:Le (bM (e.size::m.size::b) g) (bM b (ah g m.size 0 [.s y,.s (.mk f.size 0 n 4)])):=cv aJ λj hc=>by simp[hc]
  have H:=G.ns Nz.mono aN bh V
  have bg:(n -0)*(300+40*Cg 18)<=4*(300+40*Cg 18):=dp _ V
  have D:Rs c d m (P+5+(n -0)*(300+40*Cg 18)) g:=⟨F2.trans Z.f,Z.r⟩
  have D:=D.put I (ad _) 0 [.s y,.s (.mk f.size 0 n 4)]
  have aA:(p.map λx=>(x.1,x.2.getD (.mk 0 0 []))).map (·.1)=v.take n:=by rw[VG,<-hl];rfl
  refine⟨y,.mk f.size 0 n 4,z,p.map λx=>(x.1,x.2.getD (.mk 0 0 [])),rfl,aO.le ?_,⟨bR,H.cap,H.gV,λE aG hy=>?_⟩,⟨by rw[aA];exact gp,λx R=>?_⟩,D.r.mono V,D.f⟩
  ·exact(Z.f.cW (by simp[t])).trans ((cv aJ λj hc=>by simp[hc]))
  ·simp only[cU,iW]at hy
   obtain⟨aa,T,rfl⟩:=hy
   obtain⟨s,C,hf⟩:=au E aa T (eY _)
   obtain⟨L,⟨F,i1,i2,i3,rfl,ha,hb⟩,ax⟩:=H.iv E aa T
   obtain⟨rfl,rfl,aw⟩:=hb s C
   exact⟨_,⟨F,i3,by simp[C],ha.le al,by simp only[C,uN];exact fe.le al aw⟩,al.iv ax⟩
  ·simp only[VH]at R
   obtain⟨aa,T,rfl⟩:=R
   obtain⟨E,F⟩:=List.mem_iff_getElem?.1 T
   obtain⟨s,C,hf⟩:=au E aa F (eY _)
   simp only[C,uN,dL,bl];exact hf
end
end
structure Np(S:List Nat)(m0 m:J)(lb:Nat)(s:O)(l:List cK)(sc:Nat):Prop where
 box:cx m lb kU [.s s,.i sc]
 gr:GS (lb::S) m0 m s l
 up:m0.size<=lb
def Np.ext{S:List Nat}{c m b:J}{a d:Nat}{s:O}{l:List cK}(h:Np S c m a s l d)(x:N m b):Np S c b a s l d:=⟨h.box.ext x,h.gr.ext gG.mono x,h.up⟩
def Np.ne{S:List Nat}{b m:J}{a c:Nat}{s:O}{l:List cK}(h:Np S b m a s l c):s.E≠a:=h.gr.ne h.box bh
def YX(S:List Nat)(f m:J)(c:Nat)(s:O)(P:List cK->Nat->Prop)(d:J):Prop:=∃a b e,Np S f d c a b e/\P b e/\Fz [c,s.E] m d/\(a.E=s.E\/m.size<=a.E)
def J1{S:List Nat}{n e:J}{b f:Nat}{s w D:O}{l:List cK}{x:cK}(q:Np S n e b s l f)(C:n.size<=e.size)(P:aq (bM (s.E::b::S) e) w x.args)(Q:np (bM (s.E::b::S) e) D x.bD)(t:l.length<=1000000)(hs:f<=1000000):
 aL cp 309 [vp b 0,oG x w D] e λX U=>X=vi (f:Nat)/\YX S n e b s (λc d=>c=l++[x]/\d=f+1) U:=by
 apply vJ (b,0)
 simp -zeta only[aC,aB]
 intro i
 have k:N e i:=N.push _ _
 have s1:i.size=e.size+1:=by simp[i]
 clear_value i
 have g:=q.ext k
 have hy:=g.gr.be
 have R:=g.ne
 have H:=g.box.lt
 have ab:=q.box.lt
 have ac:=q.gr.be
 refine⟨s,g.box.bV 0,?_⟩
 intro W
 have I:N i W:=N.push _ _
 refine⟨aM (I.same _ H) _,?_⟩
 have g1:GS (b::S) (e.extract 0 n.size) i s l:=Gr.ct gG.mono g.gr (λK t=>Or.inl t) (by rw[nC C];exact ad _)
 refine Gr.jY (g:=[.i 0,.i 0,.i 0,.s .nil,.s .nil]) (k:=x) gG.mono bh g1 (((N.KC C).trans k).fz []) ⟨w,D,rfl,P.le (k.cW _),eK.le Q (k.cW _) λ_ _=>qO.le (k.cW _)⟩ V λp u F aa Z E=>?_
 have A:cx u b kU [.s s,.i f]:=g.box.congr (E b H (km R))
 have T:=F.ne A bh
 refine⟨λc d=>?_,A.dZ aJ,?_⟩
 ·simp at d;subst d
  rw[E e.size V V,I.same _ V]
 intro j
 have B:cx j b kU [.s p,.i f]:=cx.ah (m:=u) (o:=0) (r:=[.s p]) A
 have y:∀c,c≠b->j[c]? =u[c]? :=λc d=>bt _ _ _ _ d
 have s4:j.size=u.size:=ay _ _ _ _
 have L:cR ((f:Int)+1)=(f+1:Nat):=by rw[aP V V];rfl
 refine⟨λc d=>y c (by simp at d;omega),_,B.bV 1,B.dZ aJ,?_⟩
 rw[L]
 intro v
 have G:cx v b kU [.s p,.i (f+1:Nat)]:=cx.ah (m:=j) (o:=1) (r:=[.i (f+1:Nat)]) B
 have z:∀c,c≠b->v[c]? =j[c]? :=λc d=>bt _ _ _ _ d
 have s5:v.size=j.size:=ay _ _ _ _
 refine⟨λc d=>z c (by simp at d;omega),_,G.bV 1,?_⟩
 have M:GS (b::S) n v p (l++[x]):=by
  refine Gr.ct gG.mono (F.re gG.mono (Y:=[b]) ⟨V,λc d h=>?_⟩ aJ (by simp;exact T) λc d=>Or.inl d) (λK t=>Or.inl t) (by rw[nC C];exact ad _);have:c≠b:=by simpa using h
  exact(z c this).trans (y c this)
 refine⟨by rw[aP V V];congr 1;omega,p,_,_,⟨G,M,q.up⟩,⟨rfl,rfl⟩,⟨V,λc d h=>?_⟩,by have:=Z.2;omega⟩
 simp only[aU,jy,AE,tn]at h
 rw[z c h.1,y c h.1,E c V h.2,k.same c d]
section
variable{K D d b:Nat}{a:List cK}
structure LW(ds:List bu)(nf sc:Nat)(a:List cK)(K D sc':Nat):Prop where
 wl:WL ds nf False sc a
 dd:sc'=sc+dc a
 sz:sw a<=K
 nR:sc'<=sc+D
def LW.az(b:List bu)(c a:Nat):LW b c a [] 0 0 a:=⟨.nil _ _ _ _,aJ,aJ,V⟩
def LW.eQ{c:List bu}{e f g:Nat}(h:LW c e f a K D g)(j:K<=d)(i:D<=b):LW c e f a d b g:=⟨h.wl,h.dd,by have:=h.sz;omega,by have:=h.nR;omega⟩
def LW.trans{e:List bu}{f i j k:Nat}{g:List cK}(h:LW e f i a K D j)(c:LW e f j g d b k):LW e f i (a++g) (K+d) (D+b) k:=
 ⟨h.wl.append (h.dd▸c.wl),by rw[c.dd,h.dd,cL];omega,by have:=h.sz;have:=c.sz;rw[dq];omega,by have:=h.nR;have:=c.nR;omega⟩
def LW.jZ{b:List bu}{c a:Nat}{x:cK}(h:WS b c False a x):LW b c a [x] x.w 1 (a+1):=⟨.jZ h,by rw[jR,sA,Yn h],by simp[sw],V⟩
section
variable{S:List Nat}{e m f:J}{c g j:Nat}{s i:O}{l h:List cK}
def Np.fW(h:Np S e m c s l g)(d:N e m)(b:Fz [c,s.E] m f):N e f:=by
 have k:=h.gr.be;have j:=h.up;exact Fz.ext (((d.fz [c,s.E]).trans b).CD λi a=>Or.inr (by simp at a;omega))
def Np.re{S' Y:List Nat}(h:Np S e m c s l g)(j:Fz Y m f)(d:∀b∈Y,b∈S/\b≠c/\b≠s.E)(k:∀b∈S',b∈S\/m.size<=b):Np S' e f c s l g:=
 ⟨h.box.congr (j.same _ h.box.lt λi=>(d _ i).2.1 rfl),h.gr.re gG.mono j (λb a=>ai _ (d b a).1) (λi=>(d _ i).2.2 rfl) λb a=>(List.mem_cons.1 a).elim (λi=>Or.inl (by rw[i];exact aX)) λa=>(k b a).imp (ai _) id,h.up⟩
end
structure LS(S:List Nat)(m0 m:J)(lb:Nat)(s:O)(l:List cK)(sc:Nat)(HL:O)(ev:List Int):Prop where
 em:Np S m0 m lb s l sc
 x:N m0 m
 fW:∀c∈S,c<m.size
 HL:aq (bM [s.E,lb] m) HL ev
 sm:∀y∈ev,0<=y/\y<(sc:Int)
def Yt(e:Ex)(t:O):Value:=.agg #[vi e.op,vi e.bL,O.v t]
def SN(b:List bu)(h:Nat)(e:Ex):Prop:=∀(S:List Nat)(c m:J)(d:Nat)(s:O)(l:List cK)(f:Nat)(HL:O)(ev:List Int)(g p t:O),LS S c m d s l f HL ev->WX b h ev.length e->f+4*e.n<=2000->ev.length+4*e.n<=2000->l.length+4*e.n<=2000->cr c g b->dI b->fe c t e.bD->
 aL cp 276 [vp d 0,.agg #[O.v g,O.v p],Yt e t,O.v HL] m λv k=>∃r:Int,v=vi r/\YX S c m d s (λj i=>∃a,j=l++a/\LW b h f a (3*e.n -1) e.n i/\0<=r/\r<(i:Int)) k
def XW(a:List bu)(f:Nat)(e:Ex):Prop:=∀(S:List Nat)(m:J)(b:Nat)(HL:O)(ev:List Int)(d p t:O),(∀c∈S,c<m.size)->aq m HL ev->(∀y∈ev,0<=y/\y<(b:Int))->WX a f ev.length e->b+4*e.n<=2000->ev.length+4*e.n<=2000->cr m d a->dI a->fe m t e.bD->
 mX 247 [.agg #[O.v d,O.v p],Yt e t,O.v HL,vi b] m S λc=>WB a f False b c/\c.w<=3*e.n
def _root_.Go.Vc.Ex.Lz(e:Ex):1<=e.n:=by rw[Ex.WA];omega
def Cq{s:List bu}{w:Nat}{e:Ex}(k:SN s w e):XW s w e:=by
 intro i v n HL ev C R X t H K M ab Z hd L I;apply yg;simp -zeta only[aC,aB];intro P f b c d;obtain⟨g,hl,s1,s2,s3⟩:=pH (a:=P) (b:=f) (c:=b) rfl rfl rfl;have p:N b c:=N.push _ _;have W:c.size=b.size+1:=by simp[c]
 have F:GS ((b.size+1)::f.size::i) b c (.mk b.size 0 0 0) []:=Gr.new _ (ad _) _ _ _;have h:N c d:=N.push _ _;have z:cx d c.size kU [.s (.mk b.size 0 0 0),.i n]:=cx.push _ _ _;clear_value d c b;have Y:=g;have q:=(g.trans p).trans h;have z5:=h.size;have G:∀r∈f.size::i,r<d.size:=bP t q.size V;have O:Np (f.size::i) b d c.size (.mk b.size 0 0 0) [] n:=⟨z,W▸F.ext gG.mono h,V⟩;have hp:=e.Lz;refine(k (f.size::i) b d c.size _ [] n HL ev C R X ⟨O,p.trans h,G,(H.le (((g.trans p).trans h).bM (S:=[]) bR|>λk=>(zc v).trans k)),K⟩ M V V bR (hd.le g.le) L (fe.le g.le I)).mono λae Q⟨x,E,y,m,ac,o6,⟨a,D,o,T,U⟩,j,b6⟩=>?_;subst D;have z6:=j.size;have A:N v Q:=Fz.ext (((q.fz [c.size,b.size]).trans j).CD λB l=>by simp at l;omega);refine⟨j.dv λB l=>by simp at l;simp;omega,x,E,y,o6.box.bV 0,?_⟩;intro m7;have hz:=o.sz;have aa:=fH m;refine⟨y,.mk m x,rfl,eD.le (cv aJ λr u=>by simp[u]) (o6.gr.ns gG.mono (λu=>?_) bh (by show m.length<=_;omega)),⟨WB.of o.wl ⟨T,by rw[<-o.dd];exact U⟩,by rw[Bk.pW];omega⟩,A.ah V _ _⟩;have hy:=o6.gr.be;have J:=o6.ne;simp only[aU]at u;rcases u with e|e|e
 ·exact J e
 ·omega
 ·have:=t _ e;omega
end
section
variable{M c:J}{a:Nat}
def NV{m:J}{t:O}{l:List Ex}(h:fe m t l){k:Nat}{x:Ex}(f:l[k]? =some x)(a:N m M):∃u,fe m u x.bD/\af M t.E (t.off+k*3)=some (vi x.op)/\af M t.E (t.off+k*3+1)=some (vi x.bL)/\af M t.E (t.off+k*3+2)=some (O.v u):=
 let⟨u,b,c,d,e⟩:=h.D f;⟨u,b,a.af c,a.af d,a.af e⟩
def gx(x:N M c){o:Nat}{v:Value}(h:af M a o=some v):af c a o=af M a o:=by rw[x.af h,h]
def gl(x:N M c)(h:a<M.size)(o:Nat):af c a o=af M a o:=aM (x.same a h) o
def RU{r:List bu}{nf:Nat}{q bL:Int}{bD:List Ex}(ih:∀u∈bD,SN r nf u):SN r nf (.mk q bL bD):=by
 intro v m0 F d B aa sc HL ev am ao bv E hw bs bj bp hd ht hk;have Q:=hw.bd;simp only[Yt,Ex.Uk,Ex.RZ,Ex.Qf,Ex.QM]at*;apply tB (d,0);simp -zeta only[aC,aB];intro an t;obtain⟨H,hl⟩:=dF (a:=an) (c:=t) rfl rfl;have s1:an.size=F.size+1:=by simp[an]
 have s2:t.size=F.size+2:=by simp[t,s1]
 clear_value t;have aT:=hk.len;have bn:=hk.gV;have bo:=E.em.box.lt;have g:=E.em.gr.be;have br:=E.em.ne;have cW:∀{M:J}{e:O},Fz [d,B.E] F M->(e.E=B.E\/F.size<=e.E)->Le (bM [B.E,d] F) (bM [e.E,d] M):=λab f=>oT λa aH hn=>by
  simp at hn;exact⟨by simp;rcases f with u|u<;>omega,ab.same a aH bR⟩
 have st:∀{ax:List Nat}{M:J}{e:O}{l':List cK}{G:Nat},Np ax m0 M d e l' G->Fz [d,B.E] F M->(e.E=B.E\/F.size<=e.E)->(∀o∈ax,o<M.size)->sc<=G->LS ax m0 M d e l' G HL ev:=λaj ab f hS hs=>⟨aj,E.em.fW E.x ab,hS,E.HL.le (cW ab f),λy g=>⟨(E.sm y g).1,by have:=(E.sm y g).2;omega⟩⟩;have dv:∀{M c:J}{e:O},t.size<=M.size->(e.E=B.E\/t.size<=e.E)->Fz [d,e.E] M c->dR [an.size,F.size] M c:=λhz f ab=>ab.dv λa aH=>by simp at aH;simp;omega
 have al:∀{M c:J},t.size<=M.size->N M c->dR [an.size,F.size] M c:=λhz be=>be.dv λa f=>by simp at f;omega
 have fr:∀{M c:J}{e:O},Fz [d,B.E] F M->(e.E=B.E\/t.size<=e.E)->Fz [d,e.E] M c->Fz [d,B.E] F c:=λab f P=>ab.rf P λy g=>by simp at g⊢;omega
 refine⟨λap=>?_,λap=>⟨λah=>?_,λah=>⟨λar=>?_,λar=>?_⟩⟩⟩
 ·simp only[aE]at ap;obtain⟨i,p⟩:=Q.1.So ap;have j:=E.HL.len;obtain⟨y,w⟩:=ag (l:=ev) (k:=bL.toNat) V;have h:=E.sm y (av w);exact⟨i,V,y,(dV.1 ((E.HL.le (H.cW _)).D w)).2,y,rfl,B,aa,sc,E.em.ext H,⟨[],aJ,(LW.az r nf sc).eQ V V,h⟩,H.fz _,Or.inl rfl⟩
 ·simp only[aE]at ah;have h2:=Q.1.IK ah;obtain⟨W,Z⟩:=ag (l:=bD) (k:=0) V;obtain⟨j,h⟩:=ag (l:=bD) (k:=1) V;have aQ:en bD=W.n+j.n:=by
   obtain⟨z,a,rfl⟩:∃z a,bD=[z,a]:=by
    match bD,h2 with
    |[z,a],_=>exact⟨z,a,rfl⟩
   simp at Z h;subst Z h;simp[en]
  have p0:=W.Lz;have p1:=j.Lz;obtain⟨u0,aL,g0,g1,g2⟩:=NV hk Z (E.x.trans H);refine⟨bh,V,_,g0,_,g1,_,g2,?_⟩;have S2:=st (E.em.ext H) (H.fz _) (Or.inl rfl) (λo s=>by have:=E.fW o s;omega) (ad _);refine(ih W (av Z) v m0 t d B aa sc HL ev am ao u0 S2 (by have:=Q.2 0 W Z;simpa[xb]using this) V V V hd ht aL).mono λU p⟨R,az,I,l3,T,o3,⟨af,ay,w3,bc,bd⟩,f3,b3⟩=>⟨dv (ad _) (Or.inl rfl) f3,R,az,?_⟩;subst ay;have F3:=fr (H.fz _) (Or.inl rfl) f3;have z3:=f3.size;have X3:=E.em.fW E.x F3;obtain⟨u1,aA,k0,k1,k2⟩:=NV hk h X3;have a1:=w3.nR;have a9:=fH af;have bb:=w3.sz;refine⟨bh,V,_,k0,_,k1,_,k2,?_⟩;have S3:=st o3 F3 V (λo s=>by have:=E.fW o s;omega) (by have:=w3.dd;omega);have A:∀o∈[I.E,d],o<p.size:=λo s=>by have:=o3.gr.be;have:=o3.box.lt;simp at s;omega
  intro D;have i:N p D:=N.push _ _;have aG:aq (bM [I.E,d] D) (.mk p.size 0 1 1) [R]:=aq.lit aI _ A rfl rfl aJ;clear_value D;refine⟨gx i k0,gx i k1,gx i k2,gl i V _,gl i V _,gl i V _,?_⟩;have z4:=i.size;refine(eB (S:=[I.E,d]) (λo s=>i.lt (A o s)) (S3.HL.le (i.cW _)) aG bR).mono λU m5⟨K,l5,e5,g5,q5,C⟩=>⟨al V C,K,e5,gx C (i.af k0),gx C (i.af k1),gx C (i.af k2),gl C V _,gl C V _,gl C V _,?_⟩;subst q5;have z5:=C.size;have S5:LS v m0 m5 d I (aa++af) T K (ev++[R]):=⟨(o3.ext i).ext C,(X3.trans i).trans C,λo s=>by have:=E.fW o s;omega,GI.done g5 (λo s=>i.lt (A o s)) bR,λy g=>by
   rcases List.mem_append.1 g with g|g
   ·have:=E.sm y g;have:=w3.dd;omega
   ·simp at g;omega⟩
  refine(ih j (av h) v m0 m5 d I (aa++af) T K (ev++[R]) am ao u1 S5 (by have:=Q.2 1 j h;simpa[xb,ah]using this) V bR bR hd ht aA).mono λU m6⟨r1,au,s6,l6,aO,o6,⟨aK,ac,w6,aM,aN⟩,L,b6⟩=>⟨dv V V L,r1,au,r1,rfl,s6,l6,aO,o6,⟨af++aK,by rw[ac,eW],(w3.trans w6).eQ V V,aM,aN⟩,fr ((F3.then i).then C) V L,V⟩
 ·simp only[bT,aE]at ar;have h3:q=7->bD.length=3:=Q.1.Xo;have aG:q=8->bD.length=1+(cg r bL).length/\0<(cg r bL).length:=Q.1.all;have a5:1<=bD.length:=by rcases ar with h|h;have:=h3 h;omega;have:=aG h;omega
  obtain⟨W,Z⟩:=ag (l:=bD) (k:=0) V;have bk:en (bD.take 1)=W.n:=by have:=IM Z;simpa using this
  have bl:=P9 bD 1;have p0:=W.Lz;obtain⟨u0,aL,g0,g1,g2⟩:=NV hk Z (E.x.trans H);refine⟨bh,V,_,g0,_,g1,_,g2,?_⟩;have S2:=st (E.em.ext H) (H.fz _) (Or.inl rfl) (λo s=>by have:=E.fW o s;omega) (ad _);refine(ih W (av Z) v m0 t d B aa sc HL ev am ao u0 S2 (by have:=Q.2 0 W Z;simpa[xb]using this) V V V hd ht aL).mono λU p⟨R,az,I,l3,T,o3,⟨af,ay,w3,bc,bd⟩,f3,b3⟩=>⟨dv (ad _) (Or.inl rfl) f3,R,az,?_⟩;subst ay;have F3:=fr (H.fz _) (Or.inl rfl) f3;have z3:=f3.size;have X3:=E.em.fW E.x F3;have a1:=w3.nR;have a9:=fH af;have bb:=w3.sz;have S3:=st o3 F3 V (λo s=>by have:=E.fW o s;omega) (by have:=w3.dd;omega);have aA:∀o∈I.E::d::v,o<p.size:=bP (bP (m:=F) E.fW V o3.box.lt) (ad _) o3.gr.be.2;intro D;have i:N p D:=N.push _ _;have g4:GB (I.E::d::v) p D (.mk p.size 0 0 0) []:=GB.new _ p;have s4:D.size=p.size+1:=by simp[D]
  clear_value D;refine(gN (e:=[p.size]) bR (hd.le (X3.trans i).le) ht bL).mono λU m5⟨cs,cl,ec,s,qc,C⟩=>⟨al V C,cs,ec,?_⟩;subst qc;have bi:=s.len;have z5:=C.size;refine Ph (a:=bD.length) (aT▸hk.gV) a5 (λj ks M=>∃A,GB (I.E::d::v) p M ks A/\A.length+1=j/\(∀(ac:Nat)(a:Bk),A[ac]? =some a->WB r nf False (T+AG r q bL ac) a)/\bw A+3*W.n<=3*en (bD.take j)/\N p M/\Fz [p.size] m5 M/\(ks.E=p.size\/m5.size<=ks.E)) ⟨[],g4.ext qO.mono C,rfl,aJ,bR,i.trans C,Fz.az _ _,Or.inl rfl⟩ ?_;rintro j ks M aX μ bm hj ⟨A,P,a7,aV,a2,xM,fM,aS⟩ aM
  have zM:=xM.size;have aR:=P.be;have oM:=o3.box.ext xM;refine dit (λh=>?_) λh=>?_
  ·have ew:cR ((j:Int) -1)=((j -1:Nat):Int):=by rw[aP V V];omega
   refine⟨λaW c=>N M c/\aW=(AG r q bL (j -1):Nat),⟨λh8=>?_,λh8=>⟨N.az _,by simp only[ak]at h8;rw[Jc h8];rfl⟩⟩,?_⟩
   ·simp only[aE]at h8;have ha:=aG h8;obtain⟨y,w⟩:=ag (l:=cg r bL) (k:=j -1) V;rw[ew];refine⟨V,V,y,(dV.1 ((s.le (fM.cW aJ)).D w)).2,?_⟩;refine(dC (e:=[]) aJ (hd.le ((X3.trans xM).le.trans (zc _))) ht y).mono λU m6⟨L,l6,e6,h6,q6,K⟩=>⟨al V K,L,e6,K,?_⟩;subst q6;rw[Jb h8 w,h6.len]
   rintro aW m6 ⟨K,rfl⟩;obtain⟨u,he⟩:=ag (l:=bD) (k:=j) V;have X6:=(X3.trans xM).trans K;obtain⟨aO,hu,k0,k1,k2⟩:=NV hk he X6;have B6:=oM.ext K;have z6:=K.size;refine⟨V,V,_,k0,_,k1,_,k2,_,B6.bV 1,_,B6.bV 1,?_⟩;have bf:=O8 ht q bL (j -1);have a4:=IM he;have a3:=P9 bD (j+1);have a_:=u.Lz;refine(lE (S:=[]) (d:=m6) aJ T (AG r q bL (j -1)) V).mono λU m7⟨s7,l7,e7,g7,q7,w⟩=>⟨al V w,s7,e7,gx w (B6.bV 1),gx w k0,gx w k1,gx w k2,gl w V _,gl w V _,gl w V _,?_⟩;have z7:=w.size;have a0:aq (bM [] m7) HL ev:=(S3.HL.le ((((xM.trans K).trans w).cW _).trans (bG _ _))).le (zc _);refine(eB (S:=[]) aJ a0 (GI.done g7 aJ V) V).mono λU m8⟨s8,l8,e8,g8,q8,L⟩=>⟨al V L,s8,e8,gx L ((B6.ext w).bV 1),gx L (w.af k0),gx L (w.af k1),gx L (w.af k2),gl L V _,gl L V _,gl L V _,?_⟩;subst q8;have z8:=L.size;have a6:(ev++l7).length=ev.length+AG r q bL (j -1):=by simp;exact q7.2
   rw[aP (b:=(T:Int)+(AG r q bL (j -1):Nat)) V V,show(T:Int)+(AG r q bL (j -1):Nat)=((T+AG r q bL (j -1):Nat):Int)by omega];have au:=(K.trans w).trans L;have ba:WX r nf (ev++l7).length u:=by
    have:=Q.2 j u he;rw[a6];obtain⟨j',rfl⟩:∃j',j=j'+1:=⟨j -1,V⟩;have aY:xb r q bL (j'+1)=AG r q bL j':=ae (by simpa using ah);rwa[aY]at this
   refine(Cq (ih u (av he)) (ks.E::I.E::d::v) m8 _ s8 (ev++l7) am ao aO (bP (λo s=>by have:=aA o s;omega) (ad _) V) ((GI.done g8 aJ V).le (bG _ _)) (λy g=>?_) ba V V (hd.le ((X6.trans w).trans L).le) ht (fe.le ((X6.trans w).trans L).le hu)).mono λU m9⟨s9,b9,e9,h9,q9,x9⟩=>⟨al V x9,s9,_,e9,?_⟩
   ·rcases List.mem_append.1 g with g|g
    ·have:=S3.sm y g;omega
    ·have:=q7.1 y g;omega
   intro bt;have z9:=x9.size;have bg:=pI A;refine GB.jY (c:=b9) ((P.ext qO.mono au).ext qO.mono x9) (((xM.trans au).trans x9).fz []) h9 V λaN c g' f' z' q'=>⟨λa f=>by
    have aQ:a<p.size:=by simp at f;omega
    rw[f'.ext.same a aQ,(((xM.trans au).trans x9).aN _).same a aQ],aM V _ _ ⟨_,g',by rw[a8,List.length_singleton];omega,λac a hi=>?_,?_,f'.ext,(fM.then (au.trans x9)).rf (Y:=[ks.E]) ⟨z'.1,λa f hn=>q' a f (by simpa using hn)⟩ (λy g=>by simp at g⊢;omega),by have:=fM.size;omega⟩⟩
   ·rcases bA ac A.length with aK|aK
    ·rw[aw aK]at hi;exact aV ac a hi
    ·rw[aF aK]at hi;have:ac -A.length=0:=by have:=aD hi;simp at this;omega
     rw[this]at hi;simp at hi;subst hi;have:ac=j -1:=V;subst this;exact q9.1
   ·rw[oh,tK,yN];have:=q9.2;omega
  ·have L:j=bD.length:=V;subst L;rw[fE]at a2;intro m6;have K:N M m6:=N.push _ _;have aW:aq (bM (I.E::d::v) m6) (.mk M.size 0 1 1) [R]:=aq.lit aI _ (λo s=>by have:=aA o s;omega) rfl rfl aJ;have z6:=K.size;have aS:np (bM (I.E::d::v) m6) ks A:=np.le (K.cW _) (P.done qO.mono aA bh (by have:=pI A;omega));clear_value m6;have X6:=xM.trans K;refine(J1 (x:=⟨q,bL,0,[R],A⟩) (o3.ext X6) (X3.trans X6).size aW aS bR V).mono λU m7⟨aQ,s7,l7,aY,o7,⟨au,aK⟩,w,b7⟩=>⟨dv V V w,T,aQ,T,rfl,s7,l7,aY,o7,⟨af++[⟨q,bL,0,[R],A⟩],by rw[au,eW],?_,V,V⟩,fr (F3.then X6) V w,V⟩;have ws:WS r nf False T ⟨q,bL,0,[R],A⟩:=⟨⟨Or.inl (by show 0<=q/\q<=11;omega),bR,λ_=>rfl,⟨by show(0:Int)<=0;omega,by show(0:Int)<=_;omega⟩,λh=>by show A.length=2;have:=h3 h;omega,λh=>by show A.length=(cg r bL).length/\0<A.length;have:=aG h;omega,λh=>by simp only at h;omega⟩,aV⟩;subst aK;exact(w3.trans (LW.jZ ws)).eQ (by rw[cK.lO];simp only[aZ,eG];omega) V
 ·simp only[bq,ak]at ar;simp only[ak]at ap ah;have ho:=Q.1.o;intro p;have x3:N t p:=N.push _ _;have g3:GI [] t p (.mk t.size 0 0 0) []:=GI.nil [] t;have aS:p.size=t.size+1:=by simp[p]
  clear_value p;have o3:Np (t.size::v) m0 p d B aa sc:=(E.em.ext H).re (x3.fz []) aJ λa f=>(List.mem_cons.1 f).elim (λh=>Or.inr V) Or.inl;refine dS (n:=bD.length) (aT▸hk.gV) (λj z M=>∃e G s o,Np (z.E::v) m0 M d e (aa++s) G/\LW r nf sc s (3*en (bD.take j) -j) (en (bD.take j)) G/\GI [] t M z o/\o.length=j/\(∀y∈o,0<=y/\y<(G:Int))/\Fz [d,B.E] F M/\(e.E=B.E\/t.size<=e.E)/\t.size<=M.size) ⟨B,sc,[],[],by simpa using o3,(LW.az r nf sc).eQ (eY _) (eY _),g3,rfl,aJ,(H.trans x3).fz _,Or.inl rfl,V⟩ ?_;rintro j z M aX μ hj ⟨e,G,s,o,aj,w,P,a7,W,fM,f,zM⟩ aM
  have I:=E.em.fW E.x fM;have af:=w.nR;have aK:=w.dd;have aR:=P.be;have C:z.E≠d:=P.ne aj.box bh;have JJ:z.E≠e.E:=P.JJ aj.gr bh;have aQ:=fH s;have ay:=w.sz;have a3:=P9 bD j;refine dit (λh=>?_) λh=>?_
  ·obtain⟨u,he⟩:=ag (l:=bD) (k:=j) V;obtain⟨aO,hu,k0,k1,k2⟩:=NV hk he I;have a4:=IM he;have aL:=P9 bD (j+1);have a_:=u.Lz;have au:=Pe (bD.take j);rw[gU,jc V]at au;refine⟨V,V,_,k0,_,k1,_,k2,?_⟩;have SM:=st aj fM V (bP (m:=F) E.fW V aR.2) V;refine(ih u (av he) (z.E::v) m0 M d e (aa++s) G HL ev am ao aO SM (by have:=Q.2 j u he;rwa[Xr V V]at this) V V bR hd ht hu).mono λU D⟨aN,er,s4,l4,aG,Z,⟨aA,ac,w4,R,r1⟩,A,b4⟩=>⟨dv zM f A,aN,er,?_⟩;subst ac;have z4:=A.size;have F4:=fr fM f A;intro m5;have T:GI [] t D z o:=GI.any (c:=[d,e.E]) ((GI.any (g:=[d,e.E]) P).Ly tq.mono A (λ_ h=>h) (by simp;exact⟨C,JJ⟩));have az:z.E≠s4.E:=T.JJ Z.gr bh;refine GI.jY T (X:=List.range t.size) ⟨V,λa f hn=>absurd (List.mem_range.2 f) hn⟩ aJ V λa' c g' f' z' q'=>?_;have K:Fz [z.E] D c:=⟨z'.1,λa f hn=>q' a f (by simpa using hn)⟩;refine⟨λa f=>?_,aM V _ _ ⟨s4,aG,s++aA,o++[aN],?_,(w.trans w4).eQ V V,g',bR,λy g=>?_,F4.rf K λy g=>by simp at g⊢;omega,V,V⟩⟩
   ·simp at f;rw[q' a V V,(N.push D _).same a V]
   ·rw[<-eW];exact Z.re K (by simp;exact⟨C,az⟩) λa f=>(List.mem_cons.1 f).elim (λu=>by subst u;rcases z'.2 with u|u;exact Or.inl (by simp[u]);exact Or.inr u) λh=>Or.inl (ai _ h)
   ·have:=w4.dd;rcases List.mem_append.1 g with g|g
    ·have:=W y g;omega
    ·simp at g;omega
  ·have L:j=bD.length:=V;subst L;rw[fE]at w af ay;have au:=Pe bD;intro D;have i:N M D:=N.push _ _;have T:z.E∉e.E::d::v:=by
    simp only[aU,tn];exact⟨JJ,C,λh=>by have:=E.fW _ h;omega⟩
   have ha:aq (bM (e.E::d::v) M) z o:=(GI.any (g:=e.E::d::v) P).ns tq.mono T bh V;have Z:Np v m0 M d e (aa++s) G:=aj.re (Fz.az [] _) aJ λa f=>Or.inl (ai _ f);have z4:=i.size;refine(J1 (x:=⟨q,bL,0,o,[]⟩) (Z.ext i) (I.trans i).size (ha.le (i.cW _)) (lZ _ _ _ _ _ _) bR V).mono λU m5⟨R,s5,l5,ac,o5,⟨A,K⟩,u,b5⟩=>⟨dv V f u,G,R,G,rfl,s5,l5,ac,o5,⟨s++[⟨q,bL,0,o,[]⟩],by rw[A,eW],?_,V,V⟩,fr (fM.then i) f u,V⟩;have ws:WS r nf False G ⟨q,bL,0,o,[]⟩:=⟨⟨Or.inl (by show 0<=q/\q<=11;omega),W,λh=>by simp only at h;omega,⟨by show(0:Int)<=0;omega,by show(0:Int)<=_;omega⟩,λh=>by simp only at h;omega,λh=>by simp only at h;omega,Q.1.call⟩,aJ⟩;subst K;exact(w.trans (LW.jZ ws)).eQ (by rw[cK.lO];simp only[yN];omega) V
def RW{a:List bu}{c:Nat}:∀e:Ex,SN a c e:=Ex.ind λ_ _ _ b=>RU b
end
def GO{v:List Nat}{z:J}(hS:∀d∈v,d<z.size){X am:O}{Q:List bu}{T:List (dk×Ex)}(hd:cr z X Q)(hp:Ve z am T)(ab:Vj Q T):ue 234 [.agg #[O.v X,O.v am]] z v Q λrs=>xH Q rs False 95:=by
 apply Ac;simp -zeta only[aC,aB];have ht:=sj ab.gp.ds;intro h a2;obtain⟨P,hl⟩:=dF (a:=h) (c:=a2) rfl rfl;have s1:h.size=z.size+1:=by simp[h]
 clear_value a2;have aQ:=hp.len;have a1:T.length<=4:=by have:=ab.gp.nR;simpa using this
 have a0:0<T.length:=by have:=ab.gp.iu;simpa using this
 refine(fG (b:=h.size::v) (bP hS P.size (hl _ aJ)) (hd.le P.le) ht).mono λ_ ax⟨dd,e,aO,x3⟩=>?_;subst e;refine⟨x3.dv hl,_,rfl,?_⟩;intro p aV aH;have u2:=P.trans x3;obtain⟨x5,B0,g0,s3,s5⟩:=ka (b:=p.size::h.size::v) ik.mono (d:=ax) (a:=p) (c:=aV) (h:=aH) rfl rfl rfl;clear_value aH;have ak:∀d∈[h.size,z.size],d<ax.size:=λd g=>x3.lt (hl d g);have aF:∀d∈h.size::v,d<ax.size:=λd g=>x3.lt (bP hS P.size (hl _ aJ) d g);refine jW (R:=λb c F=>∃X W rs,Value.agg #[O.v b,O.v c]=.agg #[O.v X,O.v W]/\eg (bM v F) X W Q rs/\xH Q rs False 95/\N z F) (r:=T.length) (f:=z) (b:=v) ik.mono bh bh hS ⟨V,ak _ aJ⟩ u2 s3 aO aQ V x5 B0 g0 (λ_ q=>q.params.length<=3/\q.cG.length<=3/\WB Q T.length False q.params.length q.body/\q.body.w<=95) (λb u l' m' h1 h2 c f j=>⟨b,u,l',rfl,⟨h1,h2,ht,V⟩,⟨V,λq hq=>by obtain⟨t,s⟩:=List.mem_iff_getElem?.1 hq;rw[c];exact f t q s⟩,j⟩) λac F A l' aM μ aP aY xM aD an aW=>?_
 obtain⟨q,hq⟩:=ag (l:=T) (k:=ac) aP;obtain⟨aT,aZ⟩:=ab.IN q (av hq);have aR:q.1.params.length<=3:=(vZ _ (ab.gp.dz q.1 (List.mem_map.2 ⟨q,av hq,rfl⟩))).1;have Z:=u2.trans xM;obtain⟨cs,⟨ar,aK,rfl,ha,hk⟩,hr⟩:=hp.iv ac q hq;have aG:=ha.len;refine⟨V,V,_,Z.af (hr 0 _ rfl),_,Z.af (hr 1 _ rfl),_,Z.af (hr 2 _ rfl),_,Z.af (hr 3 _ rfl),_,Z.af (hr 4 _ rfl),?_⟩;intro m7 s;have hy:=aD.be;have aX:=an.lt;have zM:=xM.size;obtain⟨x8,-,s8⟩:=jN (M:=F) (d:=m7) (c:=s) rfl rfl rfl;clear_value s;have Y:∀d∈[F.size,h.size,z.size],d<s.size:=λd g=>by
  rcases List.mem_cons.1 g with e|e
  ·omega
  ·have:=ak d e;omega
 have w8:=Z.trans x8;have ae:∀{u:J},s.size<=u.size->∀d∈A.E::p.size::h.size::v,d<u.size:=λaE d g=>by
  simp only[aU]at g;rcases g with e|e|e|e
  ·omega
  ·omega
  ·have:=aF d (by simp[e]);omega
  ·have:=aF d (by simp[e]);omega
 have hm:=u2.size;have aI:∀{u:J},N s u->∀{ap:Value->J->Prop},(∀I H f,aq f I H->H.length=q.1.params.length->(∀y∈H,0<=y/\y<(q.1.params.length:Int))->N u f->ap (O.v I) f)->aL cp 189 [vi 0,vi (ar.len:Int)] u ap:=λ{u} x ap hk'=>by
  rw[aG];exact(lE (S:=[]) (d:=u) aJ 0 q.1.params.length V).mono λaz f⟨I,H,e,gn,qn,xn⟩=>by
   subst e;exact hk' I H f ((GI.done gn aJ V).le (bG _ _)) qn.2 (λy hy=>by have:=qn.1 y hy;omega) xn
 have fW:∀{u:J}{aA:List Nat}{I:O}{H:List Int},(∀d∈aA,d<u.size)->N s u->aq u I H->H.length=q.1.params.length->(∀y∈H,0<=y/\y<(q.1.params.length:Int))->mX 247 [.agg #[O.v X,O.v am],.agg #[vi q.2.op,vi q.2.bL,O.v aK],O.v I,vi (ar.len:Int)] u aA λK=>WB Q T.length False q.1.params.length K/\K.w<=3*q.2.n:=λaN x hs h1 h2=>by
  rw[aG];exact Cq (RW q.2) _ _ q.1.params.length _ _ X am aK aN hs h2 (by rw[h1];exact aT) V V (hd.le (w8.trans x).le) ht (fe.le (w8.trans x).le hk)
 have G:∀{y f:J}{K aa:Nat},s.size<=y.size->N y f->K<s.size->af f K aa=af y K aa:=λaE x hb=>gl x V _;have j:F.size<s.size:=V;have L:z.size<s.size:=Y _ aJ;refine⟨λK u=>∃t E,K.2=0/\s.size<=K.1/\cx u K.1 da [.s t,.i E.aV]/\eD (bM (A.E::p.size::h.size::v) u) t E.ar/\(WB Q T.length False q.1.params.length E/\E.w<=3*q.2.n)/\N s u,⟨?_,?_⟩,?_⟩
 ·refine aI (N.az s) λI H D hs aj al b=>⟨b.dv Y,I,rfl,G (ad _) b j,G (ad _) b j,G (ad _) b j,G (ad _) b L,G (ad _) b L,?_,?_⟩;all_goals have w:=b.size
  ·refine(fW (aA:=A.E::p.size::h.size::v) (ae w) b hs aj al).mono λaz C⟨t,E,e,ay,aS,c⟩=>⟨c.dv λd g=>b.lt (Y d g),t,_,e,?_⟩;have yz:=c.size;intro U;have B:N C U:=N.push _ _;refine⟨G V B j,G V B j,G V B j,G V B L,G V B L,?_⟩;intro aw;obtain⟨ao,au,a3⟩:=jN (M:=C) (d:=U) (c:=aw) rfl rfl rfl;exact⟨t,E,rfl,by show s.size<=C.size;omega,au,eD.le (ao.cW _) ay,aS,(b.trans c).trans ao⟩
  ·intro C;have c:N D C:=N.push _ _;have ao:cx C D.size da [.s .nil,.i 0]:=cx.push _ _ _;have yz:=c.size;clear_value C;refine⟨G w c j,G w c j,G w c j,G w c L,G w c L,?_⟩;refine(fW (aA:=D.size::A.E::p.size::h.size::v) (bP (ae w) yz ao.lt) (b.trans c) (hs.ext c) aj al).mono λaz U⟨t,E,e,au,ay,B⟩=>⟨B.dv λd g=>?_,t,_,e,?_⟩
   ·rcases List.mem_cons.1 g with e|e
    ·rw[e];exact ao.lt
    ·have:=Y d e;omega
   intro aw;exact⟨t,E,rfl,w,cx.ah (m:=U) (o:=0) (r:=[.s t,.i E.aV]) (ao.ext B),eD.le (cv aJ λd g=>ai _ g) au,ay,((b.trans c).trans B).ah w _ _⟩
 ·intro D;have b:N s D:=N.push _ _;have B9:cx D s.size da [.s .nil,.i 0]:=cx.push _ _ _;have w:=b.size;clear_value D;refine⟨G (ad _) b j,G (ad _) b j,G (ad _) b j,G (ad _) b L,G (ad _) b L,?_⟩;have sm:∀{y f:J},D.size<=y.size->N y f->dR [s.size,F.size,h.size,z.size] y f:=λaE x=>x.dv λd g=>by
   rcases List.mem_cons.1 g with e|e
   ·have:=B9.lt;omega
   ·have:=Y d e;omega
  refine aI b λI H C hs aj al c=>⟨sm (ad _) c,I,rfl,G w c j,G w c j,G w c j,G w c L,G w c L,?_⟩;have yz:=c.size;refine(fW (aA:=s.size::A.E::p.size::h.size::v) (bP (ae (u:=C) V) (ad _) (by have:=B9.lt;omega)) (b.trans c) hs aj al).mono λaz U⟨t,E,e,au,ay,B⟩=>⟨sm yz B,t,_,e,?_⟩;intro aw;exact⟨t,E,rfl,ad _,cx.ah (m:=U) (o:=0) (r:=[.s t,.i E.aV]) ((B9.ext c).ext B),eD.le (cv aJ λd g=>ai _ g) au,ay,((b.trans c).trans B).ah (ad _) _ _⟩
 rintro⟨kb,aa⟩ y ⟨t,E,ho,ay,BB,aS,au,x1⟩;simp only at ho ay BB;subst ho;have bl:=BB.lt;have z1:=x1.size;have X1:=x8.trans x1;refine⟨A,(an.ext X1).bV 1,_,BB.bV 0,_,BB.bV 1,?_⟩;have aj:p.size<s.size:=V;have gW:∀{f:J}{U b':O},N y f->aq (bM (A.E::p.size::h.size::v) f) U q.1.params->aq (bM (A.E::p.size::h.size::v) f) b' []->af (f.push (.cells (bC [.s U,.s b',.i q.1.aV,.s t,.i E.aV]) jf)) p.size 1=af f p.size 1/\
  jh (f.push (.cells (bC [.s U,.s b',.i q.1.aV,.s t,.i E.aV]) jf)) jf [.s .nil,.s .nil,.i 0,.s .nil,.i 0] 88 A (O.mk f.size 0 1 1) λW B=>dR [F.size,h.size,z.size] (f.push (.cells (bC [.s U,.s b',.i q.1.aV,.s t,.i E.aV]) jf)) B/\dZ B p.size 1 1/\(dR [F.size,h.size,z.size] B (ah B p.size 1 [.s W])/\(aM (cR ((ac:Int)+1)) (ah B p.size 1 [.s W])/\μ (cR ((ac:Int)+1)) (ah B p.size 1 [.s W])<μ ac F)):=λP h1 h2=>
  Gr.box (g:=[.s .nil,.s .nil,.i 0,.s .nil,.i 0]) (j:=1) (y:=88) (i:=[.s dd,.s A]) (w:=⟨q.1.params,[],q.1.aV,E⟩) ik.mono bh ((aD.ext ik.mono X1).ext ik.mono P) (((xM.trans X1).trans P).fz []) ⟨_,_,t,rfl,h1,h2,eD.le (P.cW _) aS⟩ V ((an.ext X1).ext P) aJ bh ⟨V,aJ⟩ (λd g=>⟨by have:=Y d g;have:=P.size;omega,by
   rcases List.mem_cons.1 g with e|e
   ·omega
   ·have:=ak d e;omega,by
   rcases List.mem_cons.1 g with e|e
   ·omega
   ·have:=ak d e;omega⟩) λW m' g' B' f' z' q'=>aW W m' ⟨q.1.params,[],q.1.aV,E⟩ g' B' f'.ext ⟨aR,aJ,au.1,by have:=au.2;show E.w<=95;omega⟩
 have ao:∀{f:J},N y f->aq f ar q.1.params:=λx=>ha.ext ((Z.trans X1).trans x);have al:∀{f:J},N y f->∀d∈A.E::p.size::h.size::v,d<f.size:=λx=>ae (by have:=x.size;omega);have g1:∀{f B:J}{aa:Nat},N y f->N f B->af B kb aa=af f kb aa:=λx x'=>gl x' (by have:=x.size;omega) _;have aw:∀{f B:J},N y f->N f B->dR [F.size,h.size,z.size] f B:=λx x'=>x'.dv λd g=>by have:=Y d g;have:=x.size;omega
 refine⟨?_,?_⟩
 ·refine(bN (A.E::p.size::h.size::v) (ao (N.az _)) V).mono λ_ D⟨U,la,e,ga,ea,b⟩=>⟨aw (N.az _) b,U,e,g1 (N.az _) b,g1 (N.az _) b,G z1 b j,G z1 b aj,?_⟩;subst ea;have w:=b.size;intro C;have c:N D C:=N.push _ _;refine⟨g1 b c,g1 b c,G V c j,G V c j,G V c aj,?_⟩;exact gW (b.trans c) ((GI.done ga (al (N.az _)) V).le (c.cW _)) (lZ _ _ _ _ _ _)
 ·intro D;have b:N y D:=N.push _ _;have w:=b.size;refine⟨g1 (N.az _) b,g1 (N.az _) b,G z1 b j,G z1 b j,G z1 b aj,?_⟩;refine(bN (A.E::p.size::h.size::v) (ao b) V).mono λ_ C⟨U,la,e,ga,ea,c⟩=>⟨aw b c,U,e,g1 b c,g1 b c,G V c j,G V c aj,?_⟩;subst ea;exact gW (b.trans c) (GI.done ga (al b) V) (lZ _ _ _ _ _ _)
section
variable{L:List Nat}{K:Int->J->Prop}{v:Int}
def CH(P:Nat->Prop)(l b:List Instr)(n:Nat):Prop:=∃a,b=l++a/\(∀(i:Nat)(x:Instr),a[i]? =some x->NA (l.length+i) x\/P (l.length+i)/\x.op=22)/\O3 a/\a.length<=n
section
variable{P c:Nat->Prop}{l a e:List Instr}{n b k:Nat}{x:Instr}
def my.w(h:my l a n):CH P l a n:=let⟨g,b,c,d,e⟩:=h;⟨g,b,λi x f=>Or.inl (c i x f),d,e⟩
def CH.Wr(h:CH P l a n)(f:∀q,¬P q)(m:n<=b):my l a b:=let⟨j,c,d,e,k⟩:=h;⟨j,c,λi x g=>(d i x g).resolve_right λh=>f _ h.1,e,V⟩
def CH.imp(h:CH P l a n)(g:∀q,P q->c q)(o:n<=b):CH c l a b:=let⟨k,d,e,f,m⟩:=h;⟨k,d,λj x i=>(e j x i).imp id λh=>⟨g _ h.1,h.2⟩,f,V⟩
def CH.len(h:CH P l a n):l.length<=a.length/\a.length<=l.length+n:=by obtain⟨b,rfl,-,-,d⟩:=h;simp;omega
def CH.then(o:CH P l a n)(p:my a e b):CH P l e (n+b):=by
 obtain⟨d,rfl,g,j,s⟩:=o;obtain⟨r,rfl,h,k,t⟩:=p;refine⟨d++r,aJ,λi x c=>?_,λx q=>?_,bR⟩
 ·rcases bA i d.length with f|f
  ·rw[aw f]at c;exact g i x c
  ·rw[aF f]at c;have:=h _ x c;have m:(l++d).length+(i -d.length)=l.length+i:=bR;rw[m]at this;exact Or.inl this
 ·exact(List.mem_append.1 q).elim (j x) (k x)
def CH.KQ(h:CH P l a n)(j:P a.length):CH P l (a++[⟨22,0,0,0,[],[]⟩]) (n+1):=by
 obtain⟨c,rfl,e,f,m⟩:=h;refine⟨c++[⟨22,0,0,0,[],[]⟩],aJ,λi x b=>?_,λx k=>?_,bR⟩
 ·rcases bA i c.length with d|d
  ·rw[aw d]at b;exact e i x b
  ·rw[aF d]at b;have:i -c.length=0:=by have:=aD b;simp at this;omega
   rw[this]at b;simp at b;subst b;have g:i=c.length:=V;subst g;exact Or.inr ⟨by simpa using j,rfl⟩
 ·rcases List.mem_append.1 k with h|h
  ·exact f x h
  ·simp at h;subst h;simp
def CH.set(h:CH P l a n)(g:l.length<=k)(m:NA k x)(j:x.args.length<=1000000000000/\x.dX.length<=1000000000000):CH (λq=>P q/\q≠k) l (a.set k x) n:=by
 obtain⟨p,rfl,c,e,d⟩:=h;refine⟨p.set (k -l.length) x,by rw[VW _ _ g],λi y b=>?_,λy o=>?_,bR⟩
 ·rw[iV]at b;split at b
  ·rename_i q;have f:l.length+i=k:=V;split at b
   ·simp at b;subst b;rw[f];exact Or.inl m
   ·simp at b
  ·exact(c i y b).imp id λh=>⟨⟨h.1,V⟩,h.2⟩
 ·rcases dE o with h|h
  ·exact e y h
  ·rw[h];exact j
def CH.Ye(h:CH P l a n)(d:l.length<=k)(c:a[k]? =some x):CH (λq=>P q/\q≠k) l (a.set k ⟨x.op,0,a.length,0,x.args,x.dX⟩) n:=by
 have m:=aD c;have g:=h;obtain⟨i,rfl,e,f,j⟩:=h;rw[aF d]at c;have b:=e _ x c;rw[show l.length+(k -l.length)=k by omega]at b;refine g.set d ⟨λ_=>by show(k:Int)<((l++i).length:Nat);omega,λh=>?_⟩ (f x (av c));simp only at h;rcases b with b|b
 ·exact b.arg h
 ·omega
end
section
variable{S:List Nat}{e m a:J}{b:Nat}{s c:O}{l d:List Instr}
def DT.re{S' Y:List Nat}(h:DT S e m b s l)(i:Fz Y m a)(f:∀c∈Y,c∈S/\c≠b/\c≠s.E)(j:∀c∈S',c∈S\/m.size<=c):DT S' e a b s l:=
 ⟨h.box.congr (i.same _ h.box.lt λg=>(f _ g).2.1 rfl),h.gr.re dG.mono i (λc d=>ai _ (f c d).1) (λg=>(f _ g).2.2 rfl) λc d=>(List.mem_cons.1 d).elim (λg=>Or.inl (by rw[g];exact aX)) λd=>(j c d).imp (ai _) id,h.up⟩
def Gh(k:DT S e m b s l)(z:N e m)(w:∀h∈S,h<m.size)(n:l.length<=1000000000000)(u:∀f∈L,f<m.size/\f≠b/\f≠s.E){o i bL:Int}(y:∀c d a,DT S e a b c d->d=l++[⟨o,i,bL,0,[v],[]⟩]->Fz [b,s.E] m a->(c.E=s.E\/m.size<=c.E)->K (l.length:Nat) a):
 aL cp 191 [vp b 0,.agg #[vi o,vi i,vi bL,vi 0,O.v (.mk m.size 0 1 1),O.v .nil]] (m.push (.cells (bC [.i v]) aI)) λr a=>dR L (m.push (.cells (bC [.i v]) aI)) a/\∃q:Int,r=vi q/\K q a:=by
 have g:=N.push m (.cells (bC [.i v]) aI)
 have D:=k.gr.be;have C:=k.box.lt
 have A:aq (bM (s.E::b::S) (m.push (.cells (bC [.i v]) aI))) (.mk m.size 0 1 1) [v]:=aq.lit aI _ (by
  intro h p;simp only[aU]at p;rcases p with j|j|j
  ·omega
  ·omega
  ·exact w h j) rfl rfl aJ
 refine(pT (x:=⟨o,i,bL,0,[v],[]⟩) (k.ext g) (z.trans g).size A (sI _) n).mono λr a⟨p,c,d,t,j,h,B⟩=>⟨Nx.dv h λf n=>?_,_,p,?_⟩
 ·have:=u f n;exact⟨g.lt this.1,this.2⟩
 exact y c d a t j.symm (((g.fz [b,s.E])).trans h) (by have:=g.size;omega)
def RQ(j:DT S e m b s l)(t:N e m)(p:l.length<=1000000000000)(o:∀f∈L,f<m.size/\f≠b/\f≠s.E)(q:∀c d a,DT S e a b c d->d=l++[⟨22,0,0,0,[],[]⟩]->Fz [b,s.E] m a->(c.E=s.E\/m.size<=c.E)->K (l.length:Nat) a):
 aL cp 191 [vp b 0,.agg #[vi 22,vi 0,vi 0,vi 0,O.v .nil,O.v .nil]] m λr a=>dR L m a/\∃n:Int,r=vi n/\K n a:=
 (pT (x:=⟨22,0,0,0,[],[]⟩) j t.size (sI _) (sI _) p).mono λr a⟨i,c,d,k,h,f,g⟩=>⟨Nx.dv f o,_,i,q c d a k h.symm f g⟩
def Rm{K:J->Prop}{k:Nat}{x:Instr}(i:DT S e m b s l)(q:N e m)(p:l[k]? =some x)(n:∀f∈L,f<m.size/\f≠b/\f≠s.E)(o:∀c d a,DT S e a b c d->d=l.set k ⟨x.op,0,l.length,0,x.args,x.dX⟩->Fz [b,s.E] m a->(c.E=s.E\/m.size<=c.E)->K a):
 aL cp 232 [vp b 0,vi k] m λ_ a=>dR L m a/\K a:=
 (PI i q.size p).mono λr a⟨c,d,j,h,f,g⟩=>⟨Nx.dv f n,o c d a j h.symm f g⟩
end
def Py{l:List Instr}{d:Int}:my l (l++[⟨18,d,0,0,[v],[]⟩]) 1:=my.jZ ⟨λh=>by simp at h,λ_=>aJ⟩ aJ
end
end Go.Proofs.YtgnjacfobdjeeaaGreat
