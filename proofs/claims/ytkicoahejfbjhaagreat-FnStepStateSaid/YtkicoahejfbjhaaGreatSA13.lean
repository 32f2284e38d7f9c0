/- Part of a proof. -/
import Derived.Test.YtkicoahejfbjhaaGreatSA12
set_option linter.all false
set_option maxHeartbeats 8000000
set_option maxRecDepth 100000
namespace Go.Proofs.YtkicoahejfbjhaaGreat
open Go.Vc
section
def WX.O2{b:List bz}{c a:Nat}{n:Int}{bC:List Ex}(h:∀e∈bC,WX b c a e):WX b c a (.mk 6 n bC):=.eZ bh (λh=>V) bh (λh=>V) h
section
variable{c:List Nat}{e P:Nat}{g d p:O}{f:List bz}{h:List dy}{b:E}
def LO(f:List bz)(z:Nat)(hS:∀Z∈c,Z<b.size)(aa:e∈c)(U:Rd e g P b)(hP:P+100<=10^16)(aF:Int):aN cg 316 [vp e 0,vi aF] b (XP c e g b (P+100) (WX f z 0)):=by
 apply ED (e,0);simp -zeta only[aC,aB];intro aA ac;have x2:J b ac:=(J.push b _).trans (J.push aA _);have s2:ac.size=b.size+2:=by simp[ac,aA]
 clear_value ac;have L:=U.lt;have ap:∀{h:E},ac.size<=h.size->∀Z∈b.size::c,Z<h.size:=λv=>bO hS V V;have X:Rs e g b P ac:=⟨x2.fz _,U.ext x2⟩;refine jB (S:=b.size::c) (a:=0) (h:=f) (i:=z) (f:=e) (bC:=[]) (mD _ _ _ _ _ _) (.O2 aL) (lw L bE) λs3 m3 h3 x3=>?_;intro m4 D;let⟨x5,B5,z5⟩:=kE (M:=m3) (d:=m4) (c:=D) rfl rfl rfl;clear_value D;have z3:=x3.size;have r5:=(X.ext x3).ext x5;refine⟨λ_=>?_,λ_=>?_⟩
 .intro m6;have x6:J D m6:=J.push _ _;clear_value m6;have z6:=x6.size;refine jB (S:=b.size::c) (a:=0) (h:=f) (i:=z) (f:=e) (bC:=[]) (mD _ _ _ _ _ _) (.O2 aL) (lw L bE) λQ F h7 x7=>?_;intro m8 y;let⟨x9,B9,z9⟩:=kE (M:=F) (d:=m8) (c:=y) rfl rfl rfl;clear_value y;have z7:=x7.size;have r9:=((r5.ext x6).ext x7).ext x9;have h9:=h7.ext x9;have G:∀{h C:E},y.size<=h.size->Fz [e] h C->∀i,af C F.size i=af h F.size i:=λv ai i=>kg ai L ⟨V,V⟩ i;have LW:∀{h:E},y.size<=h.size->Lw e [F.size,m3.size,b.size] h:=λv=>lw L bE;have LK:∀{h:E}{s:Nat},y.size<=s->s<h.size->Lw e [s,F.size,m3.size,b.size] h:=λv T=>lw L bE;have hw:∀n:Int,WX f z 0 (.mk 6 3 [.mk 6 2 [],.mk 0 n [],.mk 6 2 []]):=λn=>.O2 (by simp;exact⟨.O2 aL,.int n,.O2 aL⟩);refine⟨λlJ h=>∃H l,lJ.2=0/\b.size<=lJ.1/\cE h lJ.1 bF [.i l.op,.i l.bP,.s H]/\HX (b.size::c) f z 0 h H l/\HX (b.size::c) f z 0 h Q (.mk 6 2 [])/\Rs e g b (P+1) h/\y.size<=h.size,?_,?_⟩
  .have iH:∀{s t0:Nat}{h:E}{n:Int},cE h s bF [.i 0,.i 0,.s .nil]->y.size<=s->fF (bG (s::b.size::c) h) (.mk t0 0 3 3) [.mk 6 2 [],.mk 0 n [],.mk 6 2 []]->Rs e g b (P+1) h->HX (s::b.size::c) f z 0 h Q (.mk 6 2 [])->
    aN cg 315 [vi 6,vi 3,O.v (.mk t0 0 3 3)] h λaG C=>eF [s,F.size,m3.size,b.size] h C/\∃r0 r1:Int,∃X:O,aG=.agg #[vi r0,vi r1,O.v X]/\∃H l,((s,0):Nat×Nat).2=0/\b.size<=((s,0):Nat×Nat).1/\cE (ah C s 0 [.i r0,.i r1,.s X]) ((s,0):Nat×Nat).1 bF [.i l.op,.i l.bP,.s H]/\HX (b.size::c) f z 0 (ah C s 0 [.i r0,.i r1,.s X]) H l/\HX (b.size::c) f z 0 (ah C s 0 [.i r0,.i r1,.s X]) Q (.mk 6 2 [])/\Rs e g b (P+1) (ah C s 0 [.i r0,.i r1,.s X])/\y.size<=(ah C s 0 [.i r0,.i r1,.s X]).size:=λB hk W N v=>
    jB W (hw _) (LK hk B.lt) λs' C T au=>⟨s',.mk 6 3 [.mk 6 2 [],.mk 0 _ [],.mk 6 2 []],rfl,by show b.size<=_;omega,cE.ah (m:=C) (o:=0) (r:=[.i 6,.i 3,.s s']) (B.ext au),(T.put aL _ _).fg,((v.ext au).put aL _ _).fg,(N.ext au).put U V _ _,by rw[aw];have:=B.lt;have:=au.size;omega⟩
   have zb:∀h:E,J h (h.push (.cells (bt [.i 0,.i 0,.s .nil]) bF))/\cE (h.push (.cells (bt [.i 0,.i 0,.s .nil]) bF)) h.size bF [.i 0,.i 0,.s .nil]:=λh=>⟨J.push _ _,cE.push _ _ _⟩;have aq:∀{ag:List Nat}{h:E}{n:Int}{si:O},(∀Z∈ag,Z<h.size)->HX ag f z 0 h Q (.mk 6 2 [])->HX ag f z 0 h si (.mk 0 n [])->fF (bG ag (h.push (.cells (bt [.i 6,.i 2,.s Q,.i 0,.i n,.s si,.i 6,.i 2,.s Q]) bF))) (.mk h.size 0 3 3) [.mk 6 2 [],.mk 0 n [],.mk 6 2 []]:=λhS v T=>
    oO [(.mk 6 2 [],Q),(.mk 0 _ [],_),(.mk 6 2 [],Q)] aL hS (by simp;exact⟨v.sl,T.sl,v.sl⟩) rfl rfl
   have ay:∀{h:E}{s:Nat},y.size<=s->s<h.size->∀Z∈s::b.size::c,Z<h.size:=λv T=>bO (ap (h:=y) V) V T;refine⟨(cp r9.r V 9).mono λ_ w⟨n,l,_,_,an,u⟩=>⟨(LW (ad _)).dv u,n,l,G (ad _) u _,G (ad _) u _,G (ad _) u _,G (ad _) u _,G (ad _) u _,G (ad _) u _,?_,?_⟩,?_⟩
   .have I:=r9.to u an;have vu:=u.size;have K:=h9.fz (by simp[aa]) u;refine Jf (b.size::c) f z 0 (LW vu) n λaD p aj q=>?_;have av:=q.size;have d:=λi=>G vu (q.fz _) i;refine⟨d _,d _,d _,d _,d _,d _,?_,?_⟩
    .intro k;have j:J p k:=J.push _ _;have W:fF (bG (b.size::c) k) (.mk p.size 0 3 3) [.mk 6 2 [],.mk 0 n [],.mk 6 2 []]:=aq (ag:=b.size::c) (ap V) (K.ext q) aj;have aH:=j.size;refine⟨?_,?_⟩
     .refine jB (M:=k) (f:=e) W (hw n) (LW V) λaz A ao t=>?_;intro R;have ak:J A R:=J.push _ _;have al:=t.size;have d:=λi=>G (h:=A) (C:=R) V (ak.fz _) i;refine⟨d _,d _,d _,d _,d _,d _,?_⟩;intro ae;let⟨Y,ab,am⟩:=kE (M:=A) (d:=R) (c:=ae) rfl rfl rfl;exact⟨az,.mk 6 3 [.mk 6 2 [],.mk 0 n [],.mk 6 2 []],rfl,by show b.size<=A.size;omega,ab,ao.ext Y,(((K.ext q).ext j).ext t).ext Y,(((I.ext q).ext j).ext t).ext Y,V⟩
     .intro A;obtain⟨t,R⟩:J k A/\cE A k.size bF [.i 0,.i 0,.s .nil]:=zb k;have d:=λi=>G (h:=k) (C:=A) V (t.fz _) i;exact⟨d _,d _,d _,d _,d _,d _,iH R V (fF.le (t.bG λam hb=>(List.mem_cons.1 hb).elim (λv=>Or.inr V) Or.inl) W) (((I.ext q).ext j).ext t) (((K.ext q).ext j).gX t (ad _))⟩
    .intro k;obtain⟨j,ae⟩:J p k/\cE k p.size bF [.i 0,.i 0,.s .nil]:=zb p;have d:=λi=>G (h:=p) (C:=k) V (j.fz _) i;refine⟨d _,d _,d _,d _,d _,d _,?_⟩;intro A;have t:J k A:=J.push _ _;have R:=(K.ext q).gX j (ad _);exact iH (ae.ext t) V (aq (ay V ae.lt) R (aj.gX j (ad _))) (((I.ext q).ext j).ext t) (R.ext t)
   .have I:=r9.to u an;have vu:=u.size;have K:=h9.fz (by simp[aa]) u;intro p;obtain⟨q,Y⟩:J w p/\cE p w.size bF [.i 0,.i 0,.s .nil]:=zb w;have d:=λi=>G (h:=w) (C:=p) V (q.fz _) i;have av:=q.size;refine⟨d _,d _,d _,d _,d _,d _,?_⟩;refine Jf (w.size::b.size::c) f z 0 (LK V Y.lt) n λal k ak j=>?_;have d:=λi=>G (h:=p) (C:=k) V (j.fz _) i;refine⟨d _,d _,d _,d _,d _,d _,?_⟩;intro A;have t:J k A:=J.push _ _;have R:=(K.gX q (ad _)).ext j;exact iH ((Y.ext j).ext t) V (aq (ay V (Y.ext j).lt) R ak) (((I.ext q).ext j).ext t) (R.ext t)
   .intro w;obtain⟨I,ax⟩:J y w/\cE w y.size bF [.i 0,.i 0,.s .nil]:=zb y;have d:=λi=>G (h:=y) (C:=w) V (I.fz _) i;have vu:=I.size;refine⟨d _,d _,d _,d _,d _,d _,?_⟩;refine(cp (r9.ext I).r V 9).mono λ_ p⟨n,l,_,_,aE,ab⟩=>⟨(LK (ad _) ax.lt).dv ab,n,l,?_⟩;have d:=λi=>G (h:=w) (C:=p) V ab i;refine⟨d _,d _,d _,d _,d _,d _,?_⟩;have Y:=ax.congr (ab.same y.size ax.lt bE);have av:=ab.size;refine Jf (y.size::b.size::c) f z 0 (LK (ad _) Y.lt) n λal k ak j=>?_;have d:=λi=>G (h:=p) (C:=k) V (j.fz _) i;refine⟨d _,d _,d _,d _,d _,d _,?_⟩;intro A;have t:J k A:=J.push _ _;have R:=((h9.gX I (ad _)).fz (by simp[aa]) ab).ext j;exact iH ((Y.ext j).ext t) (ad _) (aq (ay (ad _) (Y.ext j).lt) R ak) ((((r9.ext I).to ab aE).ext j).ext t) (R.ext t)
  .rintro⟨s,i⟩ h ⟨H,l,ho,hk,B,v,T,N,Y⟩;simp only at ho hk B;subst ho;have bl:=B.lt;refine⟨_,B.bZ 0,_,B.bZ 1,_,B.bZ 2,?_⟩;have L3:∀{C:E},h.size<=C.size->Lw e [F.size,m3.size,b.size] C:=λv=>LW V;refine(cp N.r V 9).mono λ_ w⟨n,en,_,_,an,u⟩=>⟨(L3 (ad _)).dv u,n,en,?_⟩;have vu:=u.size;have gg:∀{R ab:E},h.size<=R.size->Fz [e] R ab->∀i,af ab s i=af R s i:=λv ai i=>kg ai L ⟨hk,V⟩ i;have ga:=λi=>G (h:=h) (C:=w) Y u i;have gb:=λi=>gg (R:=h) (ab:=w) (ad _) u i;refine⟨?_,?_,?_,?_,?_,?_,?_⟩;iterate 6 first|exact ga _|exact gb _
   refine Jf (b.size::c) f z 0 (L3 vu) n λaD p aj q=>?_;have ga:=λi=>G (h:=w) (C:=p) V (q.fz _) i;have gb:=λi=>gg (R:=w) (ab:=p) vu (q.fz _) i;refine⟨?_,?_,?_,?_,?_,?_,?_⟩;iterate 6 first|exact ga _|exact gb _
   intro k;have j:J p k:=J.push _ _;have av:=q.size;have ag:=(v.fz (by simp[aa]) u).ext q;have am:=(T.fz (by simp[aa]) u).ext q;have W:fF (bG (b.size::c) k) (.mk p.size 0 3 3) [l,.mk 0 n [],.mk 6 2 []]:=oO (S:=b.size::c) (M:=p) [(l,H),(.mk 0 n [],aD),(.mk 6 2 [],Q)] aL (ap V) (by simp;exact⟨ag.sl,aj.sl,am.sl⟩) rfl rfl;refine jB (M:=k) (f:=e) W (.O2 (by simp;exact⟨ag.wx,aj.wx,am.wx⟩)) (L3 (C:=k) (oh j.size)) λaz A ao t=>?_;have aq:=(((N.to u an).ext q).ext j).ext t;exact⟨az,_,rfl,(ao.put aL _ _).fg.sl,ao.wx,((aq.put U (ad _) _ _).r).mono V,(aq.put U (ad _) _ _).f⟩
 .intro m6 F;let⟨x7,B7,z7⟩:=kE (M:=D) (d:=m6) (c:=F) rfl rfl rfl;clear_value F;have r7:=r5.ext x7;have C:∀{h:E},F.size<=h.size->Lw e [m3.size,b.size] h:=λv=>lw L bE;refine(cp r7.r V 3).mono λ_ m8⟨n,en,n0,n3,Q,u⟩=>⟨(lw L bE:Lw e [D.size,m3.size,b.size] F).dv u,n,en,?_⟩;rw[aQ (b:=1+n) V V];have z8:=u.size;have T:b.size<=D.size:=V;refine⟨λs h=>0<=s/\s<=3/\∃H l,cE h D.size bF [.i l.op,.i l.bP,.s H]/\HX (D.size::b.size::c) f z 0 h H l/\Rs e g b (P+1+4*(3 -s).toNat) h/\F.size<=h.size,λs _=>s.toNat,⟨V,V,s3,.mk 6 0 [],B7.congr (u.same _ V bE),((h3.ext x5).gX x7 (ad _)).fz (by simp[aa]) u,⟨(r7.to u Q).f,Q.mono V⟩,z8⟩,?_⟩;rintro s h ⟨i0,i3,H,l,B,v,N,Y⟩;refine⟨λhi=>?_,λ_=>⟨_,B.bZ 0,_,B.bZ 1,_,B.bZ 2,H,l,rfl,(v.fg.put aL _ _).fg.sl,v.wx,(N.put U (ad _) _ _).r.mono V,(N.put U (ad _) _ _).f⟩⟩;simp only[ar]at hi;refine⟨_,B.bZ 0,_,B.bZ 1,_,B.bZ 2,?_⟩;have d:∀{R ab:E},F.size<=R.size->Fz [e] R ab->∀i,af ab D.size i=af R D.size i:=λv ai i=>kg ai L ⟨T,V⟩ i;refine(Bh N.r V).mono λ_ y⟨A,en,d9,t⟩=>⟨(C Y).dv t,A,en,d Y t _,d Y t _,d Y t _,?_⟩;have z9:=t.size;refine Jf (D.size::b.size::c) f z 0 (C V) A λan w K I=>⟨d V (I.fz _) _,d V (I.fz _) _,d V (I.fz _) _,?_⟩;intro p;have q:J w p:=J.push _ _;have vu:=I.size;have av:=q.size;have ag:=(v.fz (by simp[aa]) t).ext I;have W:fF (bG (D.size::b.size::c) p) (.mk w.size 0 2 2) [.mk 0 A [],l]:=oO (S:=D.size::b.size::c) (M:=w) [(.mk 0 A [],an),(l,H)] aL (bO (ap (h:=w) V) (ad _) V) (by simp;exact⟨K.sl,ag.sl⟩) rfl rfl;refine jB (M:=p) (f:=e) W (.O2 (by simp;exact⟨K.wx,ag.wx⟩)) (C (h:=p) V) λal k ak j=>?_;have ae:cE k D.size bF [.i l.op,.i l.bP,.s H]:=(((B.congr (t.same _ B.lt bE)).ext I).ext q).ext j;have aH:=j.size;rw[aQ (b:=s -1) V V];refine⟨ae.fJ aL,λam hb=>bd _ _ _ _ (by simp at hb;omega),⟨V,V,al,.mk 6 1 [.mk 0 A [],l],cE.ah (m:=k) (o:=0) (r:=[.i 6,.i 1,.s al]) ae,ak.put aL _ _,?_,by rw[aw];omega⟩,by show(s -1).toNat<s.toNat;omega⟩;have aj:=((((N.to t d9).ext I).ext q).ext j).put U T 0 [.i 6,.i 1,.s al];exact⟨aj.f,aj.r.mono V⟩
end
end
section
structure BX(S:List Nat)(ds:List bz)(nf a k:Nat)(M:E)(s:O)(e:Ex):Prop where
 b:cE M k bF [.i e.op,.i e.bP,.s s]
 h:HX (k::S) ds nf a M s e
section
variable{S:List Nat}{d Q i j k a c:Nat}{h s:O}{b:List bz}{g M f:E}{e:Ex}
def BX.new{f d:E}(h:HX S b c a M s e)(g:f=M.push (.cells (bt [.i 0,.i 0,.s .nil]) bF))(i:d=ah f M.size 0 [.i e.op,.i e.bP,.s s]):J M d/\BX S b c a M.size d s e/\d.size=M.size+1:=
 let⟨x,B,z⟩:=kE g i rfl;⟨x,⟨B,h.gX x (ad _)⟩,z⟩
def BX.fz(h:BX S b c a k M s e)(j:d∈S)(i:k≠d)(g:Fz [d] M f):BX S b c a k f s e:=⟨h.b.congr (g.same k h.b.lt (by simpa using i)),h.h.fz (by simp[j]) g⟩
def BX.ext(h:BX S b c a k M s e)(x:J M f):BX S b c a k f s e:=⟨h.b.ext x,h.h.ext x⟩
def BX.set(h:BX S b c a k M s e){f:O}{d:Ex}(g:HX (k::S) b c a M f d):BX S b c a k (ah M k 0 [.i d.op,.i d.bP,.s f]) f d:=⟨cE.ah (m:=M) (o:=0) (r:=[.i d.op,.i d.bP,.s f]) h.b,g.put aL _ _⟩
def HX.iH(f:HX (k::S) b c a M s e)(r:Rs d h g Q M)(l:Rd d h j g)(m:g.size<=k)(n:Q<=i):XP S d h g i (WX b c a) (.agg #[vi e.op,vi e.bP,O.v s]) (ah M k 0 [.i e.op,.i e.bP,.s s]):=
 ⟨s,e,rfl,(f.put aL _ _).fg.sl,f.wx,(r.put l m _ _).r.mono n,(r.put l m _ _).f⟩
end
section
variable{b:List Nat}{c P:Nat}{g d p:O}{f:List bz}{e:List dy}{m:E}
def JW(hS:∀l∈b,l<m.size)(z:c∈b)(l:GC c g P d p f e m)(hP:P+200+Cg 18<=10^16):aN cg 283 [vp c 0,.agg #[O.v d,O.v p]] m (XP b c g m (P+200+Cg 18) (WX f e.length 0)):=by
 apply CO (c,0);simp -zeta only[aC,aB];intro h q A;let⟨x2,hl⟩:=dD (a:=h) (c:=q) rfl rfl;have s1:h.size=m.size+1:=by simp[h]
 have s2:q.size=m.size+2:=by simp[q,s1]
 have X:J q A:=J.push _ _;have y:=l.rd.lt;have ac:ap (bG [c] A) (.mk q.size 0 3 3) [1,1,3]:=ap.lit aA _ bE rfl rfl aL;clear_value A;clear_value q;have G:∀{i:E},q.size<=i.size->∀l∈h.size::b,l<i.size:=λF=>bO hS V V;have r3:Rs c g m P A:=⟨(x2.trans X).fz _,(l.rd.ext x2).ext X⟩;have z3:=X.size;refine(kv r3.r V ac aL).mono λ_ m4⟨W,u,ht,d4,H⟩=>⟨(lw y bE:Lw c [h.size,m.size] A).dv H,W,u,?_⟩;have r4:=r3.to H d4;have z4:=H.size;intro Q;have x5:J m4 Q:=J.push _ _;have ae:ap (bG [c] Q) (.mk m4.size 0 1 1) [W]:=ap.lit aA _ (by simp;exact d4.lt) rfl rfl aL;clear_value Q;have R:=r4.ext x5;have z5:=x5.size;refine FC (S:=h.size::b) (G V) (by simp[z]) (l.to R.f R.r) V ae aL (l.gp.ty (t:=0) bh bh) bh (lw y bE) λD s6 v h6 d6 f6=>?_;intro m7 B;let⟨x8,b8,z8⟩:=BX.new (f:=m7) (d:=B) h6 rfl rfl;clear_value B;have z6:=f6.size;have T:=(R.to f6 d6).ext x8;have L:v.size≠c:=V;have Z:∀{i:E},B.size<=i.size->Lw c [v.size,h.size,m.size] i:=λF=>lw y bE;refine⟨λi=>∃U u,BX (h.size::b) f e.length 1 v.size i U u/\Rs c g m (P+2+Cg 18) i/\B.size<=i.size,?_,?_⟩
 .refine(cp T.r V 3).mono λ_ n⟨Y,en,_,_,x,j⟩=>⟨(Z (ad _)).dv j,Y,en,λ_=>?_,λ_=>⟨s6,D,b8.fz (by simp[z]) L j,⟨(T.to j x).f,x.mono V⟩,j.size⟩⟩;have s:=b8.fz (by simp[z]) L j;have z9:=j.size;intro o;have w:J n o:=J.push _ _;have N:fF (bG (v.size::h.size::b) o) (.mk n.size 0 1 1) [D]:=oO (S:=v.size::h.size::b) (M:=n) [(D,s6)] aL (bO (G (i:=n) V) (ad _) s.b.lt) (by simp;exact s.h.sl) rfl rfl;have vu:=w.size;refine jB (M:=o) N (.eZ (a:=1) (b:=f) (c:=e.length) bh (λF=>V) bh (λF=>V) (by simp;exact s.h.wx)) (Z V) λab af K C=>?_;have r:=((T.to j x).ext w).ext C;have I:=((s.ext w).ext C).set K;exact⟨ab,.mk 5 0 [D],I,⟨(r.put l.rd V _ _).f,((r.put l.rd V _ _).r).mono V⟩,by rw[aw];have:=C.size;omega⟩
 rintro i ⟨U,u,r,aa,ah⟩;refine⟨_,r.b.bZ 0,_,r.b.bZ 1,_,r.b.bZ 2,?_⟩;have Y:∀{i:E},B.size<=i.size->Lw c [h.size,m.size] i:=λF=>lw y bE;refine XP.kk (LO (c:=h.size::b) f e.length (G V) (by simp[z]) aa.r V W) (Y ah) λs9 e9 n h9 w9 x j=>?_;have I:=λag=>kg j y (k:=v.size) ⟨V,r.b.lt⟩ ag;refine⟨I _,I _,I _,?_⟩;have z9:=j.size;intro o;have w:J n o:=J.push _ _;have s:=r.fz (by simp[z]) L j;have N:fF (bG (h.size::b) o) (.mk n.size 0 2 2) [e9,u]:=oO (S:=h.size::b) (M:=n) [(e9,s9),(u,U)] aL (G V) (by simp;exact⟨h9,s.h.fg.sl⟩) rfl rfl;refine jB (M:=o) N (.lt w9 r.h.wx) (Y (oh w.size)) λab af K C=>?_;exact K.iH (((aa.to j x).ext w).ext C) l.rd V V
def JJ(hS:∀j∈b,j<m.size)(y:c∈b)(j:GC c g P d p f e m)(hP:P+200+2*Cg 18<=10^16){I:Nat}{q:dy}(hq:e[I]? =some q)(h1:1<=q.params.length):
 aN cg 286 [vp c 0,.agg #[O.v d,O.v p],vi I] m (XP b c g m (P+200+2*Cg 18) (WX f e.length q.params.length)):=by
 apply CA (c,0)
 simp -zeta only[aC,aB]
 intro i C
 let⟨x2,hl⟩:=dD (a:=i) (c:=C) rfl rfl
 have s1:i.size=m.size+1:=by simp[i]
 have s2:C.size=m.size+2:=by simp[C,s1]
 have x:=j.rd.lt
 clear_value C
 have v:∀{h:E},C.size<=h.size->∀j∈i.size::b,j<h.size:=λl=>bO hS V V
 have r2:Rs c g m P C:=⟨x2.fz _,j.rd.ext x2⟩
 have s:∀{h:E},C.size<=h.size->Lw c [i.size,m.size] h:=λl=>lw x bE
 let⟨ps,ap,e0,e1⟩:=j.hp.aF hq
 have aV:=av hq
 have aY:=j.hp.len
 have X:=wG _ (j.gp.dz q (aq hq))
 have h3:q.params.length<=3:=X.1
 have W:∀{h:E},Fz [c] m h->IR c h ps q.params:=λac=>ap.le (fh ac)
 have E1:∀{h:E},Fz [c] m h->af h p.D (p.off+I*5+1)=some (vi q.aS):=λac=>(eP.1 (fh ac _ _ _ e1)).2
 refine⟨V,V,ps,(eP.1 (fh r2.f _ _ _ e0)).2,?_⟩
 refine wE (i.size::b) f e.length (a:=q.params.length) (s (ad _)) V λs3 m3 ao x3=>?_
 have z3:=x3.size
 refine Jf (i.size::b) f e.length q.params.length (s z3) 1 λs4 m4 h4 x4=>?_
 have z4:=x4.size
 intro m5
 have x5:J m4 m5:=J.push _ _
 have aI:fF (bG (i.size::b) m5) (.mk m4.size 0 2 2) [.mk 12 0 [],.mk 0 1 []]:=oO (S:=i.size::b) (M:=m4) [(.mk 12 0 [],s3),(.mk 0 1 [],s4)] aL (v V) (by simp;exact⟨(ao.ext x4).sl,h4.sl⟩) rfl rfl
 have z5:=x5.size
 refine jB (M:=m5) aI (.eZ (a:=q.params.length) (b:=f) (c:=e.length) bh (λl=>V) bh (λl=>V) (by simp;exact⟨ao.wx,h4.wx⟩)) (s V) λs6 K h6 x6=>?_
 have z6:=x6.size
 have r6:=(((r2.ext x3).ext x4).ext x5).ext x6
 intro m7
 have x7:J K m7:=J.push _ _
 have g7:GE (i.size::b) K m7 (.mk K.size 0 1 1) [.mk 2 0 [.mk 12 0 [],.mk 0 1 []]]:=KJ (v V) 0 [(.mk 2 0 [.mk 12 0 [],.mk 0 1 []],s6)] aL (by simpa using h6.sl) rfl rfl
 clear_value m7
 have aZ:=ap.len
 refine QG (a:=q.params.length) V h1 (λY F h=>∃z,GE (i.size::b) K h F z/\z.length=Y/\(∀w∈z,WX f e.length q.params.length w)/\Rd c g (P+22*Y) h/\Fz [c] K h) ⟨_,g7,rfl,by simpa using h6.wx,(r6.r.ext x7).mono V,x7.fz _⟩ ?_
 rintro Y F h aU μ aW hj ⟨z,r,aX,hw,rM,fM⟩ aM
 have U:=r6.f.trans fM
 have zM:=fM.size
 refine⟨λl=>?_,λ_=>?_⟩
 .simp only[ar]at l
  let⟨A,o⟩:=cG q.params Y
  have u:=X.2.1 A (aq o)
  refine⟨V,V,A,(eP.1 ((W U).aF o)).2,?_⟩
  exact XP.kH (rB (f:=F.D::i.size::b) (bO (v (h:=h) V) (ad _) r.bn.2) (by simp[y]) (j.to U rM) V (W U) V (j.gp.ty u.1 u.2)) r fM (s V) r6.r (by simp[y]) V λw ax N G g' L D _ _=>
   aM V _ _ ⟨_,g',bE,λB H=>by rcases List.mem_append.1 H with l|l;exact hw B l;simp at l;subst l;exact G.1,L.mono V,D⟩
 refine jB (r.done BE.mono (v (h:=K) V) bh V) (.eZ (a:=q.params.length) (b:=f) (c:=e.length) bh (λl=>V) bh (λ_=>⟨V,V⟩) hw) (s V) λs8 o h8 x8=>?_
 intro m9 A
 let⟨ay,ab,vu⟩:=BX.new (f:=m9) (d:=A) h8 rfl rfl
 clear_value A
 have z8:=x8.size
 have D:Rs c g m (P+66) A:=⟨(U.then x8).then ay,((rM.ext x8).ext ay).mono V⟩
 have hk:o.size≠c:=V
 refine⟨λh=>∃F w,BX (i.size::b) f e.length q.params.length o.size h F w/\Rs c g m (P+66+Cg 18) h/\A.size<=h.size,⟨V,V,_,E1 D.f,λ_=>?_,λ_=>⟨s8,_,ab,⟨D.f,D.r.mono V⟩,ad _⟩⟩,?_⟩
 .have T:∀{h:E},A.size<=h.size->Lw c [o.size,i.size,m.size] h:=λl=>lw x bE
  have ag:∀{h:E},A.size<=h.size->∀j∈o.size::i.size::b,j<h.size:=λl=>bO (v (h:=A) V) l V
  refine FC (S:=o.size::i.size::b) (ag (ad _)) (by simp[y]) (j.to D.f D.r) V (W D.f) V (j.gp.ty (t:=0) bh bh) bh (T (ad _)) λH ah Z N aj u=>?_
  have r:=λR=>kg u x (k:=o.size) ⟨V,ab.b.lt⟩ R
  refine⟨r _,r _,r _,?_⟩
  have aE:=u.size
  intro B
  have G:J Z B:=J.push _ _
  have ae:=ab.fz (by simp[y]) hk u
  have Q:fF (bG (o.size::i.size::b) B) (.mk Z.size 0 2 2) [H,.mk 9 I z]:=oO (S:=o.size::i.size::b) (M:=Z) [(H,ah),(.mk 9 I z,s8)] aL (ag aE) (by simp;exact⟨N.sl,ae.h.sl⟩) rfl rfl
  have aT:=G.size
  refine jB (M:=B) Q (.O2 (by simp;exact⟨N.wx,h8.wx⟩)) (T V) λai aa ak L=>?_
  have al:=(((D.to u aj).ext G).ext L).put j.rd (k:=o.size) V 0 [.i 6,.i 1,.s ai]
  have hb:=((ae.ext G).ext L).set ak
  exact⟨ai,.mk 6 1 [H,.mk 9 I z],hb,al,by rw[aw];have:=L.size;omega⟩
 rintro M3 ⟨F,w,u,ax,a2⟩
 refine Jf (i.size::b) f e.length q.params.length (s V) 0 λah Z N az=>?_
 have aE:=az.size
 refine wE (i.size::b) f e.length (a:=q.params.length) (s V) V λaO B al G=>?_
 have aT:=G.size
 intro aa
 have L:J B aa:=J.push _ _
 have Q:fF (bG (i.size::b) aa) (.mk B.size 0 2 2) [.mk 0 0 [],.mk 12 0 []]:=oO (S:=i.size::b) (M:=B) [(.mk 0 0 [],ah),(.mk 12 0 [],aO)] aL (v V) (by simp;exact⟨(N.ext G).sl,al.sl⟩) rfl rfl
 have a3:=L.size
 refine jB (M:=aa) Q (.eZ (a:=q.params.length) (b:=f) (c:=e.length) bh (λl=>V) bh (λl=>V) (by simp;exact⟨N.wx,al.wx⟩)) (s V) λaP aJ am aA=>?_
 intro aK au
 let⟨aR,aj,a5⟩:=BX.new (f:=aK) (d:=au) am rfl rfl
 clear_value au
 have a4:=aA.size
 have ai:=(((az.trans G).trans L).trans aA).trans aR
 have T:=ax.ext ai
 have u:=u.ext ai
 refine⟨_,u.b.bZ 0,_,u.b.bZ 1,_,u.b.bZ 2,V,V,_,E1 T.f,?_⟩
 refine FC (S:=i.size::b) (v V) (by simp[y]) (j.to T.f T.r) V (W T.f) V (j.gp.ty X.2.2.1 X.2.2.2) bh (lw x bE) λak aQ ae an aG H=>?_
 have r:=λR=>kg H x (k:=o.size) ⟨V,u.b.lt⟩ R
 have g':=λR=>kg H x (k:=aJ.size) ⟨V,aj.b.lt⟩ R
 refine⟨?_,?_,?_,?_,?_,?_,?_⟩
 iterate 6 first|exact r _|exact g' _
 have a6:=H.size
 intro ag
 have aD:J ae ag:=J.push _ _
 have aF:=u.fz (by simp[y]) hk H
 have Q:fF (bG (i.size::b) ag) (.mk ae.size 0 3 3) [.mk 4 0 [.mk 0 0 [],.mk 12 0 []],w,ak]:=oO (S:=i.size::b) (M:=ae) [(.mk 4 0 [.mk 0 0 [],.mk 12 0 []],aP),(w,F),(ak,aQ)] aL (v V) (by simp;exact⟨(aj.h.fg.fz (by simp[y]) H).sl,aF.h.fg.sl,an.sl⟩) rfl rfl
 refine jB (M:=ag) Q (.eZ (a:=q.params.length) (b:=f) (c:=e.length) bh (λ_=>rfl) bh (λl=>V) (by simp;exact⟨am.wx,u.h.wx,an.wx⟩)) (lw x (by have:=aD.size;simp;omega)) λa1 a0 aH aS=>?_
 exact aH.iH (((T.to H aG).ext aD).ext aS) j.rd V V
end
end
section
section
variable{c:List Nat}{b P:Nat}{h d p:O}{f:List bz}{g:List dy}{m:E}
def WX.m1{d c:Nat}{x y z:Ex}(hd:f∈rI)(j:WX f d c x)(k:WX f d c y)(l:WX f d (c+2) z):WX f d c (.mk 8 1 [x,y,z]):=by
 obtain⟨e,-,g,h,-⟩:=Ni f hd;refine .mt j (by rw[e];rfl) aL λi n m b a=>?_;rw[e]at a;rcases i with _|_|i
 .simp at b a;subst b a;rw[g];exact k
 .simp at b a;subst b a;rw[h];exact l
 .simp at b
def JZ(hS:∀r∈c,r<m.size)(H:b∈c)(r:GC b h P d p f g m)(hP:P+200+2*Cg 18<=10^16){F:Nat}{q:dy}(hq:g[F]? =some q){ai:Int}(ha:0<=ai/\ai<(q.params.length:Int)):
 aN cg 284 [vp b 0,.agg #[O.v d,O.v p],vi F,vi ai] m (XP c b h m (P+200+2*Cg 18) (WX f g.length q.params.length)):=by
 apply CQ (b,0)
 simp -zeta only[aC,aB]
 intro j Z
 let⟨x2,hl⟩:=dD (a:=j) (c:=Z) rfl rfl
 have s1:j.size=m.size+1:=by simp[j]
 have s2:Z.size=m.size+2:=by simp[Z,s1]
 have hr:=r.rd.lt
 clear_value Z
 have an:∀{i:E},Z.size<=i.size->∀r∈j.size::c,r<i.size:=λl=>bO hS V V
 have r2:Rs b h m P Z:=⟨x2.fz _,r.rd.ext x2⟩
 have L1:∀{i:E},Z.size<=i.size->Lw b [j.size,m.size] i:=λl=>lw hr bE
 let⟨ps,aY,e0,e1⟩:=r.hp.aF hq
 have ba:=av hq
 have bf:=r.hp.len
 have aM:=wG _ (r.gp.dz q (aq hq))
 have h3:q.params.length<=3:=aM.1
 have PS:∀{i:E},Fz [b] m i->IR b i ps q.params:=λK=>aY.le (fh K)
 have E1:∀{i:E},Fz [b] m i->af i p.D (p.off+F*5+1)=some (vi q.aS):=λK=>(eP.1 (fh K _ _ _ e1)).2
 have bg:=aY.len
 have a0:=r.gp.ty (t:=0) bh bh
 have be:=Qn 18
 refine⟨V,V,ps,(eP.1 (fh r2.f _ _ _ e0)).2,?_⟩
 intro m3
 have x3:J Z m3:=J.push _ _
 have aO:ap (bG [b] m3) (.mk Z.size 0 2 2) [0,1]:=ap.lit aA _ bE rfl rfl aL
 clear_value m3
 have r3:=r2.ext x3
 have z3:=x3.size
 refine(eN (S:=[b]) bE (PS r3.f) aO bE).mono λ_ m4⟨aS,wl,u,gw,qw,x4⟩=>⟨(L1 z3).dv (x4.fz _),aS,u,?_⟩
 subst qw
 have a6:IR b m4 aS (q.params++[0,1]):=GI.done gw bE bE
 have r4:=r3.ext x4
 have z4:=x4.size
 intro m5
 have x5:J m4 m5:=J.push _ _
 have g5:GE (j.size::c) m4 m5 (.mk m4.size 0 0 0) []:=Gr.new _ (ad _) _ _ _
 clear_value m5
 refine ez (n:=q.params.length) V (λN w i=>∃I,GE (j.size::c) m4 i w I/\I.length=N/\(∀u∈I,WX f g.length (q.params.length+2) u)/\Rd b h (P+N) i/\Fz [b] m4 i) ⟨[],g5,rfl,aL,(r4.r.ext x5).mono V,x5.fz _⟩ ?_
 rintro N w i a4 μ hj ⟨I,aK,bc,hw,rM,fM⟩ a8
 have FM:=r4.f.trans fM
 have zM:=fM.size
 refine⟨λl=>?_,λ_=>?_⟩
 .simp only[ar]at l
  let⟨aU,L⟩:=cG q.params N
  have iH:∀{K:Nat}{T:List Value}{y:E}{R:Nat},aN cg K T y (XP (w.D::j.size::c) b h y R (WX f g.length (q.params.length+2)))->R<=P+(N+1)->Rd b h (P+(N+1)) y->Fz [b] i y->aN cg K T y λab A=>eF [j.size,m.size] y A/\∃G C:Int,∃r2:O,ab=.agg #[vi G,vi C,O.v r2]/\
   jK (A.push (.cells (bt [.i G,.i C,.s r2]) bF)) bF [.i 0,.i 0,.s .nil] 40 w (O.mk A.size 0 1 1) λW z=>eF [j.size,m.size] (A.push (.cells (bt [.i G,.i C,.s r2]) bF)) z/\a4 W (cT ((N:Int)+1)) z/\μ W (cT ((N:Int)+1)) z<μ w N i:=λhc hQ C Y=>
   XP.kH hc (aK.eA BE.mono Y (by simp;exact⟨Or.inr H,V⟩)) (fM.trans Y) (L1 V) r4.r (by simp[H]) V λu W z s g' r' f' _ _=>
    a8 V _ _ ⟨_,g',bE,λo B=>by rcases List.mem_append.1 B with l|l;exact hw o l;simp at l;subst l;exact s,r'.mono hQ,f'⟩
  refine⟨λ_=>?_,λ_=>⟨V,V,aU,(eP.1 ((PS FM).aF L)).2,λ_=>?_,λ_=>iH (((mq _ _ _).x rM).mono λ_ _ l=>l.mono (λu s=>s▸.Ud ⟨V,V⟩) (ad _)) V (rM.mono V) (Fz.az _ _)⟩⟩
  .rw[aQ (b:=(ps.len:Int)+1) V V]
   exact iH (((mq _ _ _).x rM).mono λ_ _ l=>l.mono (λu s=>s▸.Ud ⟨V,V⟩) (ad _)) V (rM.mono V) (Fz.az _ _)
  .refine(cp rM V 2).mono λ_ m6⟨ae,en,_,_,D,B⟩=>⟨(L1 V).dv B,ae,en,λ_=>?_,λ_=>iH (((mq _ _ _).x D).mono λ_ _ l=>l.mono (λu s=>s▸.Ud ⟨V,V⟩) (ad _)) V D B⟩
   have z6:=B.size
   have aa:∀{y:E},m6.size<=y.size->∀r∈w.D::j.size::c,r<y.size:=λl=>bO (an (i:=m6) V) l (oh aK.bn.2)
   refine wE (w.D::j.size::c) f g.length (a:=q.params.length+2) (L1 V) V λs7 m7 h7 Q=>?_
   have z7:=Q.size
   refine wE (w.D::j.size::c) f g.length (a:=q.params.length+2) (L1 V) V λs8 o h8 x8=>?_
   have z8:=x8.size
   intro m9
   have x9:J o m9:=J.push _ _
   have X:fF (bG (w.D::j.size::c) m9) (.mk o.size 0 2 2) [.mk 12 N [],.mk 12 ps.len []]:=oO (S:=w.D::j.size::c) (M:=o) [(.mk 12 N [],s7),(.mk 12 ps.len [],s8)] aL (aa V) (by simp;exact⟨(h7.ext x8).sl,h8.sl⟩) rfl rfl
   have U:=((D.ext Q).ext x8).ext x9
   exact iH ((mW U X 1 0).mono λ_ _ l=>l.mono (λu s=>s▸.eZ bh (λl=>V) bh (λl=>V) (by simp;exact⟨h7.wx,h8.wx⟩)) (ad _)) V U (((B.then Q).then x8).then x9)
 refine jB (aK.done BE.mono (an (i:=m4) V) bh V) (.eZ (a:=q.params.length+2) (b:=f) (c:=g.length) bh (λl=>V) bh (λ_=>⟨V,V⟩) hw) (L1 V) λs6 m6 h6 x6=>?_
 have z6:=x6.size
 intro m7 o
 let⟨x8,B8,z8⟩:=kE (M:=m6) (d:=m7) (c:=o) rfl rfl rfl
 clear_value o
 intro m9 C
 let⟨aT,ax,vu⟩:=BX.new (f:=m9) (d:=C) (h6.ext x8) rfl rfl
 clear_value C
 have aa:Rs b h m (P+3) C:=⟨((FM.then x6).then x8).then aT,(((rM.ext x6).ext x8).ext aT).mono V⟩
 have hk:o.size≠b:=V
 have L2:∀{i:E},C.size<=i.size->Lw b [o.size,m6.size,j.size,m.size] i:=λl=>lw hr bE
 have ao:∀{i:E},C.size<=i.size->∀r∈o.size::j.size::c,r<i.size:=λl=>bO (an (i:=C) V) l V
 have aV:∀{i:E},Fz [b] m4 i->IR b i aS (q.params++[0,1]):=λK=>a6.le (fh K)
 have aX:Fz [b] m4 C:=((fM.then x6).then x8).then aT
 have wl:(q.params++[0,1]).length=q.params.length+2:=aL
 refine⟨λi=>∃w u,BX (j.size::c) f g.length (q.params.length+2) o.size i w u/\Rs b h m (P+10+Cg 18) i/\C.size<=i.size,⟨V,V,_,E1 aa.f,λaZ=>?_,λ_=>⟨V,V,_,E1 aa.f,λ_=>?_,λ_=>⟨s6,_,ax,⟨aa.f,aa.r.mono V⟩,ad _⟩⟩⟩,?_⟩
 .simp only[aG]at aZ
  refine(cp aa.r V 5).mono λ_ ac⟨ae,en,_,_,aJ,z⟩=>⟨(L2 (ad _)).dv z,ae,en,λ_=>?_,λ_=>⟨V,V,_,E1 (aa.f.trans z),λl=>by rw[aZ]at l;exact absurd l bh,λ_=>⟨s6,_,ax.fz (by simp[H]) hk z,⟨(aa.to z aJ).f,aJ.mono V⟩,z.size⟩⟩⟩
  have Q:=aa.to z aJ
  have T:=z.size
  have aW:=ax.fz (by simp[H]) hk z
  refine FC (v:=q.params++[0,1]) (S:=o.size::j.size::c) (ao T) (by simp[H]) (r.to Q.f Q.r) V (aV (aX.trans z)) bE a0 bh (L2 T) λal aD A am ak s=>?_
  rw[wl]at am
  intro Y U
  let⟨ab,aI,a_⟩:=BX.new (f:=Y) (d:=U) am rfl rfl
  clear_value U
  have a2:=s.size
  have az:=(Q.to s ak).ext ab
  have aj:=(aW.fz (by simp[H]) hk s).ext ab
  have bb:A.size≠b:=V
  have aH:HX (A.size::o.size::j.size::c) f g.length (q.params.length+2) U s6 (.mk 9 F I):=(aW.h.fz (by simp[H]) s).gX ab (ad _)
  have L3:∀{i:E},U.size<=i.size->Lw b [A.size,o.size,m6.size,j.size,m.size] i:=λl=>lw hr bE
  refine⟨λi=>∃w u,BX (o.size::j.size::c) f g.length (q.params.length+2) A.size i w u/\HX (o.size::j.size::c) f g.length (q.params.length+2) i s6 (.mk 9 F I)/\Rs b h m (P+4+Cg 18) i/\U.size<=i.size/\cE i o.size bF [.i 9,.i F,.s s6],⟨λ_=>?_,λ_=>⟨aD,al,aI,aH.fg,az,ad _,aj.b⟩⟩,?_⟩
  .let⟨aU,L⟩:=cG q.params 0
   refine⟨bh,V,aU,(eP.1 ((PS az.f).aF L)).2,λ_=>?_,λ_=>⟨aD,al,aI,aH.fg,az,ad _,aj.b⟩⟩
   refine wE (A.size::o.size::j.size::c) f g.length (a:=q.params.length+2) (L3 (ad _)) V λaE au ay R=>?_
   have a3:=R.size
   refine wE (A.size::o.size::j.size::c) f g.length (a:=q.params.length+2) (L3 a3) V λaF G ag B=>?_
   have bi:=B.size
   intro aP
   have a1:J G aP:=J.push _ _
   have X:fF (bG (A.size::o.size::j.size::c) aP) (.mk G.size 0 2 2) [.mk 12 0 [],.mk 12 ps.len []]:=oO (S:=A.size::o.size::j.size::c) (M:=G) [(.mk 12 0 [],aE),(.mk 12 ps.len [],aF)] aL (bO (ao (i:=G) V) (ad _) V) (by simp;exact⟨(ay.ext B).sl,ag.sl⟩) rfl rfl
   have bj:=a1.size
   refine jB (M:=aP) X (.eZ (a:=q.params.length+2) (b:=f) (c:=g.length) bh (λl=>V) bh (λl=>V) (by simp;exact⟨ay.wx,ag.wx⟩)) (L3 V) λaR a7 a5 a9=>?_
   have D:=((R.trans B).trans a1).trans a9
   have hb:=(aI.ext D).set a5
   have ha:=(aH.ext D).put (k:=A.size) aL 0 [.i 11,.i 0,.s aR]
   have hB:cE (ah a7 A.size 0 [.i 11,.i 0,.s aR]) o.size bF [.i 9,.i F,.s s6]:=(aj.b.ext D).congr (bd _ _ _ _ V)
   exact⟨aR,.mk 11 0 [.mk 12 0 [],.mk 12 ps.len []],hb,ha.fg,(az.ext D).put r.rd V _ _,by rw[aw];have:=D.size;omega,hB⟩
  rintro M3 ⟨w,u,L,D,W,aR,aU⟩
  refine⟨_,L.b.bZ 0,_,L.b.bZ 1,_,L.b.bZ 2,?_⟩
  intro au
  have R:J M3 au:=J.push _ _
  have X:fF (bG (o.size::j.size::c) au) (.mk M3.size 0 2 2) [u,.mk 9 F I]:=oO (S:=o.size::j.size::c) (M:=M3) [(u,w),(.mk 9 F I,s6)] aL (ao V) (by simp;exact⟨L.h.fg.sl,D.sl⟩) rfl rfl
  have a3:=R.size
  refine jB (M:=au) X (.O2 (by simp;exact⟨L.h.wx,D.wx⟩)) (L2 V) λaF G ag B=>?_
  have hb:=(BX.mk (e:=.mk 9 F I) ((aU.ext R).ext B) ((D.ext R).ext B)).set ag
  have aP:=((W.ext R).ext B).put r.rd (k:=o.size) V 0 [.i 6,.i 1,.s aF]
  exact⟨aF,.mk 6 1 [u,.mk 9 F I],hb,⟨aP.f,aP.r.mono V⟩,by rw[aw];have:=B.size;omega⟩
 .intro ac
  have D:J C ac:=J.push _ _
  have aO:ap (bG [b] ac) (.mk C.size 0 2 2) [1,2]:=ap.lit aA _ bE rfl rfl aL
  clear_value ac
  have T:=D.size
  have G:∀{y M2:E}{B:Nat},C.size<=y.size->Fz [b] y M2->m.size<=B->B<C.size->∀z,af M2 B z=af y B z:=λl K h1 h2 z=>kg K hr ⟨h1,V⟩ z
  refine⟨G (ad _) (D.fz _) V V _,G (ad _) (D.fz _) V V _,G (ad _) (D.fz _) V V _,G (ad _) (D.fz _) V V _,G (ad _) (D.fz _) V V _,?_⟩
  have Q:=aa.ext D
  refine(kv Q.r V aO aL).mono λ_ A⟨ae,en,hn,ak,s⟩=>⟨(L2 T).dv s,ae,en,G T s V V _,G T s V V _,G T s V V _,G T s V V _,G T s V V _,?_⟩
  have aI:=Q.to s ak
  have a2:=s.size
  refine FC (v:=q.params++[0,1]) (S:=o.size::j.size::c) (ao V) (by simp[H]) (r.to aI.f aI.r) V (aV ((aX.then D).trans s)) bE a0 bh (L2 V) λaF aU Y aH aP ag=>?_
  rw[wl]at aH
  have aW:=ag.size
  refine⟨G V ag V V _,G V ag V V _,G V ag V V _,?_⟩
  intro U
  have ab:J Y U:=J.push _ _
  have az:=((ax.ext D).fz (by simp[H]) hk s).fz (by simp[H]) hk ag
  have X:fF (bG (o.size::j.size::c) U) (.mk Y.size 0 2 2) [aF,.mk 9 F I]:=oO (S:=o.size::j.size::c) (M:=Y) [(aF,aU),(.mk 9 F I,s6)] aL (ao V) (by simp;exact⟨aH.sl,az.h.sl⟩) rfl rfl
  have a_:=ab.size
  simp at hn
  refine jB (M:=U) X (.eZ (a:=q.params.length+2) (b:=f) (c:=g.length) V (λl=>V) V (λl=>V) (by simp;exact⟨aH.wx,az.h.wx⟩)) (L2 V) λaE au ay R=>?_
  have hb:=((az.ext ab).ext R).set ay
  have aJ:=(((aI.to ag aP).ext ab).ext R).put r.rd (k:=o.size) V 0 [.i ae,.i 0,.s aE]
  exact⟨aE,.mk ae 0 [aF,.mk 9 F I],hb,⟨aJ.f,aJ.r.mono V⟩,by rw[aw];have:=R.size;omega⟩
 rintro M3 ⟨w,u,L,W,aR⟩
 have L3:∀{i:E},C.size<=i.size->Lw b [m6.size,j.size,m.size] i:=λl=>lw hr bE
 have R:∀{y M2:E}{B:Nat},M3.size<=y.size->Fz [b] y M2->m.size<=B->B<C.size->∀z,af M2 B z=af y B z:=λl K h1 h2 z=>kg K hr ⟨h1,V⟩ z
 refine⟨V,V,_,E1 W.f,_,L.b.bZ 0,_,L.b.bZ 1,_,L.b.bZ 2,?_⟩
 refine wE (j.size::c) f g.length (a:=q.params.length) (L3 aR) ha λay ac ae D=>?_
 have T:=D.size
 have gx:∀B z,m.size<=B->B<C.size->af ac B z=af M3 B z:=λB z h1 h2=>R (ad _) (D.fz _) h1 h2 z
 refine⟨gx _ _ V V,gx _ _ V V,gx _ _ V V,(E1 (W.f.then D)).trans (E1 W.f).symm,gx _ _ V V,gx _ _ V V,gx _ _ V V,?_⟩
 have Q:=W.ext D
 refine FC (S:=j.size::c) (an V) (by simp[H]) (r.to Q.f Q.r) V (PS Q.f) V (r.gp.ty aM.2.2.1 aM.2.2.2) bh (L3 V) λal aD A am ak s=>?_
 have G:∀z,af A o.size z=af ac o.size z:=R T s V V
 refine⟨G _,G _,G _,?_⟩
 have a2:=s.size
 intro Y
 have ag:J A Y:=J.push _ _
 have aj:=(L.ext D).fz (by simp[H]) hk s
 have X:fF (bG (j.size::c) Y) (.mk A.size 0 3 3) [.mk 12 ai [],al,u]:=oO (S:=j.size::c) (M:=A) [(.mk 12 ai [],ay),(al,aD),(u,w)] aL (an V) (by simp;exact⟨(ae.fz (by simp[H]) s).sl,am.sl,aj.h.fg.sl⟩) rfl rfl
 refine jB (M:=Y) X (.m1 r.gp.ds ae.wx am.wx L.h.wx) (L3 (oh ag.size)) λaz U au ab=>?_
 exact au.iH (((Q.to s ak).ext ag).ext ab) r.rd V V
end
end
section
variable{g:E}{s:O}{l:List Int}{c f:Ex}
abbrev G3(M a:E)(k:Nat)(X:Prop):Prop:=af a k 0=af M k 0/\af a k 1=af M k 1/\af a k 2=af M k 2/\X
abbrev E3(v:Value)(X:Int->Int->O->Prop):Prop:=∃a b:Int,∃c:O,v=.agg #[vi a,vi b,O.v c]/\X a b c
abbrev N1(L:List Nat)(e:Nat)(M:E)(K:Int->Int->O->E->Prop):Prop:=aN cg 315 [vi 1,vi 0,O.v (.mk e 0 2 2)] M λv a=>eF L M a/\E3 v λb c d=>K b c d a
section
variable(L:List Nat)(k:Nat)(b:Int)(h i d p w l:O)(j a e:Nat)(F:Int->Int->O->E->Prop)
abbrev TR5(g:Nat)(M:E):Prop:=N1 L g M λd e f c=>G3 M c a (N1 L c.size (c.push (.cells (bt [.i 9,.i b,.s h,.i d,.i e,.s f]) bF)) F)
abbrev TR4(c d:Int)(e:O)(M:E):Prop:=G3 M (M.push (.cells (bt [.i c,.i d,.s e,.i 9,.i b,.s i]) bF)) a (TR5 L b h a F M.size (M.push (.cells (bt [.i c,.i d,.s e,.i 9,.i b,.s i]) bF)))
abbrev TR3(M:E):Prop:=aN cg 314 [vp k 0,.agg #[O.v d,O.v p],O.v w,vi 0,vi 4] M λv c=>eF L M c/\E3 v λe f g=>G3 M c j (G3 M c a (TR4 L b h i a F e f g c))
abbrev TR2(f:Nat)(M:E):Prop:=aN cg 189 [O.v l,O.v (.mk f 0 3 3)] M λv c=>eF L M c/\∃s:O,v=O.v s/\G3 M c j (af c e 0=af M e 0/\af c e 1=af M e 1/\G3 M c a (TR3 L k b h i d p s j a F c))
end
def _root_.Go.Vc.US{σ τ:Type}{n:Nat}(q:n<=9223372036854775807)(e:1<=n){m:E}{h:σ}{j:τ}{g:(σ->τ->Int->E->Prop)->(σ->τ->Int->E->Nat)->σ->τ->Int->E->Prop}(Q:Nat->σ->τ->E->Prop)(o:Q 1 h j m)
 (l:∀(k:Nat)(s:σ)(t:τ)(a:E)(I:σ->τ->Int->E->Prop)(μ:σ->τ->Int->E->Nat),1<=k->k<=n->Q k s t a->
  (k<n->∀c d b,Q (k+1) c d b->I c d (cT ((k:Int)+1)) b/\μ c d (cT ((k:Int)+1)) b<μ s t k a)->g I μ s t k a):
 ∃(I:σ->τ->Int->E->Prop)(μ:σ->τ->Int->E->Nat),I h j 1 m/\∀s t i a,I s t i a->g I μ s t i a:=by
 refine⟨λs t i b=>∃k:Nat,i=k/\1<=k/\k<=n/\Q k s t b,λ_ _ i _=>(n -i).toNat,⟨1,rfl,ad _,e,o⟩,?_⟩
 rintro s t i a ⟨k,rfl,e,p,r⟩
 refine l k s t a _ _ e p r λf c d b u=>?_
 rw[kA f q]
 exact⟨⟨k+1,rfl,V,f,u⟩,Dr f⟩
def Pg(_:E)(a:List Ce)(n:Int):Prop:=∃s:O,a=[.i 12,.i n,.s s]/\s.len=0
def Pg.mono:om 3 Pg:=⟨λ_ h=>h,λ⟨_,h,_⟩=>by rw[h];rfl⟩
abbrev GV(g m:E)(s:O)(l:List Int):Prop:=Gr [] g m bF 3 Pg s l
def GV.eA{m a:E}(h:GV g m s l)(q:a[s.D]? =m[s.D]?):GV g a s l:=by
 let⟨c,b,d,e⟩:=h;exact⟨c,b,d.congr q,e.mono λ_ _ h=>h⟩
def GV.ex{a:List Nat}{m:E}(h:GV g m s l)(j:s.D∉a)(t:l.length<=1000):fF (bG a m) s (l.map λn=>.mk 12 n []):=by
 let⟨e,d,f,i⟩:=h;have H:=Gr.nF (S:=a) Pg.mono ⟨e,d,f,i.mono λ_ _ h=>h⟩ j bh V;refine⟨by rw[H.len];simp,H.cap,H.gS,λq c b=>?_⟩;simp only[cJ,jF]at b;obtain⟨n,k,rfl⟩:=b;obtain⟨r,⟨u,rfl,p⟩,o⟩:=H.iA q n k;exact⟨_,BE.of ⟨p,V,V,aL⟩,o⟩
structure AS(S:List Nat)(ds:List bz)(nf a n0 k Q rb:Nat)(bs:O)(m M:E)(sl:O)(el:Ex)(sr:O)(er:Ex):Prop where
 b:cE M k bF [.i 0,.i 0,.s .nil]
 hk:n0<=k
 l:HX (k::S) ds nf a M sl el
 r:HX (k::S) ds nf a M sr er
 s:Rs rb bs m Q M
section
variable{S:List Nat}{e:List bz}{h a n k Q r b:Nat}{d o p:O}{m M q:E}{i j:Ex}
def AS.ext(f:AS S e h a n k Q b d m M o i p j)(c:J M q):AS S e h a n k Q b d m q o i p j:=⟨f.b.ext c,f.hk,f.l.ext c,f.r.ext c,f.s.ext c⟩
def AS.fz(c:AS S e h a n k Q b d m M o i p j)(g:b∈S)(l:k≠b)(f:Fz [b] M q)(s:Rd b d r q):AS S e h a n k r b d m q o i p j:=⟨c.b.congr (f.same k c.b.lt (by simpa using l)),c.hk,c.l.fz (by simp[g]) f,c.r.fz (by simp[g]) f,c.s.to f s⟩
def AS.new(f:n<=M.size)(l:HX S e h a M o i)(r:HX S e h a M p j)(s:Rs b d m Q M):J M (M.push (.cells (bt [.i 0,.i 0,.s .nil]) bF))/\AS S e h a n M.size Q b d m (M.push (.cells (bt [.i 0,.i 0,.s .nil]) bF)) o i p j:=
 have c:=J.push M (.cells (bt [.i 0,.i 0,.s .nil]) bF)
 ⟨c,cE.push _ _ _,f,l.gX c (ad _),r.gX c (ad _),s.ext c⟩
end
section
variable{h:List Nat}{b P:Nat}{o d p:O}{i:List bz}{j:List dy}{m:E}
def WX.m3{e d:Nat}{z:Ex}(hd:i∈rI)(l:WX i e d c)(m:WX i e d f)(n:WX i e (d+3) z):WX i e d (.mk 8 3 [c,f,z]):=by
 obtain⟨-,g,-,-,j,k⟩:=Ni i hd;refine .mt l (by rw[g];rfl) aL λh p o b a=>?_;rw[g]at a;rcases h with _|_|h
 .simp at b a;subst b a;rw[j];exact m
 .simp at b a;subst b a;rw[k];exact n
 .simp at b
def WX.add{b a:Nat}(d:WX i b a c)(e:WX i b a f):WX i b a (.mk 1 0 [c,f]):=.eZ bh (λh=>V) bh (λh=>V) (by simp;exact⟨d,e⟩)
def J0(hS:∀F∈h,F<m.size)(aU:b∈h)(F:GC b o P d p i j m)(hP:P+200+3*Cg 18<=10^16){C:Nat}{w:dy}(hq:j[C]? =some w)(bI:1<=w.params.length):
 aN cg 285 [vp b 0,.agg #[O.v d,O.v p],vi C] m (XP h b o m (P+200+3*Cg 18) (WX i j.length w.params.length)):=by
 apply CR (b,0)
 simp -zeta only[aC,aB]
 intro A au
 let⟨x2,hl⟩:=dD (a:=A) (c:=au) rfl rfl
 have s1:A.size=m.size+1:=by simp[A]
 have s2:au.size=m.size+2:=by simp[au,s1]
 have hr:=F.rd.lt
 clear_value au
 have ay:∀{g:E},au.size<=g.size->∀F∈A.size::h,F<g.size:=λz=>bO hS V V
 have r2:Rs b o m P au:=⟨x2.fz _,F.rd.ext x2⟩
 have L1:∀{g:E},au.size<=g.size->Lw b [A.size,m.size] g:=λz=>lw hr bE
 let⟨ps,bl,e0,e1⟩:=F.hp.aF hq
 have bY:=av hq
 have b2:=F.hp.len
 have bc:=wG _ (F.gp.dz w (aq hq))
 have h3:w.params.length<=3:=bc.1
 have PS:∀{g:E},Fz [b] m g->IR b g ps w.params:=λD=>bl.le (fh D)
 have E1:∀{g:E},Fz [b] m g->af g p.D (p.off+C*5+1)=some (vi w.aS):=λD=>(eP.1 (fh D _ _ _ e1)).2
 have b3:=bl.len
 have bs:=F.gp.ty (t:=0) bh bh
 have aD:b∈A.size::h:=by simp[aU]
 refine⟨V,V,ps,(eP.1 (fh r2.f _ _ _ e0)).2,?_⟩
 refine wE (A.size::h) i j.length (a:=w.params.length+3) (L1 (ad _)) V λs3 Z bC x3=>?_
 have z3:=x3.size
 intro m4
 have x4:J Z m4:=J.push _ _
 have g4:GV Z m4 (.mk Z.size 0 1 1) [(ps.len:Int)]:=Gr.lit (f:=[[.i 12,.i ps.len,.s s3]]) Pg.mono (ad _) aL rfl rfl ⟨rfl,aL,λaE F B hj q=>by
  have:aE=0:=by have:=av hj;simp at this;omega
  subst this;simp at hj q;subst hj q;exact⟨s3,rfl,bC.sl.len⟩⟩
 have s4:m4.size=Z.size+1:=by simp[m4]
 clear_value m4
 rw[aQ (b:=(ps.len:Int)+2) V V]
 refine wE (A.size::h) i j.length (a:=w.params.length+3) (L1 V) V λs5 m5 h5 x5=>?_
 have z5:=x5.size
 intro m6
 have x6:J m5 m6:=J.push _ _
 have g6:GV m5 m6 (.mk m5.size 0 1 1) [(ps.len:Int)+2]:=Gr.lit (f:=[[.i 12,.i (ps.len+2),.s s5]]) Pg.mono (ad _) aL rfl rfl ⟨rfl,aL,λaE F B hj q=>by
  have:aE=0:=by have:=av hj;simp at this;omega
  subst this;simp at hj q;subst hj q;exact⟨s5,rfl,h5.sl.len⟩⟩
 clear_value m6
 have r3:=r2.ext x3
 have vq:∀{g u:E}{L:Int}{s:O}{l:List Int}{aX:O->E->Prop}{aT:O},GV Z g s l->J Z g->l.length<=10->aT.len=0->(∀R u,GV Z u R (l++[L])->J Z u->g.size<=u.size->(R.D=s.D\/g.size<=R.D)->(∀H,H<g.size->H≠s.D->u[H]? =g[H]?)->aX R u)->
  jK (g.push (.cells (bt [.i 12,.i L,.s aT]) bF)) bF [.i 0,.i 0,.s .nil] 40 s (.mk g.size 0 1 1) aX:=λaP c hl ht hk=>
  Gr.kH (g:=[.i 0,.i 0,.s .nil]) (X:=[]) Pg.mono bh aP (c.fz []) ⟨_,rfl,ht⟩ V λR u g' f' aJ w=>hk R u g' f'.ext aJ.1 aJ.2 w
 refine US (n:=w.params.length) V bI (λaE s aT g=>∃l l',GV Z g s l/\GV Z g aT l'/\l.length=aE/\l'.length=aE/\(∀L∈l,0<=L/\L<((w.params.length+3:Nat):Int))/\(∀L∈l',0<=L/\L<((w.params.length+3:Nat):Int))/\J Z g/\s.D≠aT.D) ⟨_,_,(g4.eA ((x5.trans x6).same _ (by show Z.size<_;omega))),Gr.cx Pg.mono g6 (λ_ z=>Or.inl z) V,rfl,rfl,bE,bE,(x4.trans x5).trans x6,by show Z.size≠m5.size;omega⟩ ?_
 rintro aE s aT g bW μ bZ hj ⟨l,l',aP,g',b0,b1,hw,bo,xM,bH⟩ bL
 have zM:=xM.size
 have RM:=r3.ext xM
 refine⟨λz=>?_,λ_=>?_⟩
 .simp only[ar]at z
  refine wE (A.size::h) i j.length (a:=w.params.length+3) (L1 V) V λs7 W h7 x7=>?_
  have gy:=aP.bn;have aZ:=g'.bn
  have z7:=x7.size
  intro m8
  refine vq (u:=W) (aP.eA (x7.same _ gy.2)) (xM.trans x7) V h7.sl.len λr9 m9 r x9 z9 Y T=>?_
  refine⟨(L1 (g:=Z) z3).tv ((((xM.trans x7).trans (J.push W _)).fz [b])) (x9.fz _),?_⟩
  refine wE (A.size::h) i j.length (a:=w.params.length+3) (L1 V) V λaa ag a8 ai=>?_
  intro bp
  have N:=((g'.eA (x7.same _ aZ.2)).eA (T _ V (kC bH))).eA (ai.same _ V)
  have vu:=ai.size
  refine vq (u:=W) N (x9.trans ai) V a8.sl.len λbe K I aH bS U Q=>?_
  refine⟨(L1 (g:=Z) z3).tv (((x9.trans ai).trans (J.push ag _)).fz [b]) (aH.fz _),bL V _ _ _ ⟨_,_,(r.eA (ai.same _ r.bn.2)).eA (Q _ (oh r.bn.2) V),I,bE,bE,λL q=>?_,λL q=>?_,aH,oh r.bn.2⟩⟩
  .rcases List.mem_append.1 q with z|z
   .exact hw L z
   .simp at z;omega
  .rcases List.mem_append.1 q with z|z
   .exact bo L z
   .simp at z;omega
 have gy:=aP.bn;have aZ:=g'.bn
 have nS:∀H,Z.size<=H->H∉A.size::h:=λH hb z=>by have:=ay (g:=au) (ad _) H z;omega
 have bf:∀l:List Int,(∀L∈l,0<=L/\L<((w.params.length+3:Nat):Int))->WX i j.length (w.params.length+3) (.mk 9 C (l.map λL=>.mk 12 L [])):=λl hl=>.eZ bh (λz=>V) bh (λ_=>⟨V,V⟩) (by simp;exactλL q=>.Ud (hl L q))
 refine jB (aP.ex (nS _ gy.1) V) (bf l hw) (L1 V) λsl W h7 x7=>?_
 intro m8 m9
 obtain⟨x9,-,z9⟩:=kE (M:=W) (d:=m8) (c:=m9) rfl rfl rfl
 clear_value m9
 have z7:=x7.size
 refine jB ((g'.eA ((x7.trans x9).same _ aZ.2)).ex (nS _ aZ.1) V) (bf l' bo) (lw hr bE) λsr ag a8 ai=>?_
 intro bp K
 obtain⟨aH,-,bS⟩:=kE (M:=ag) (d:=bp) (c:=K) rfl rfl rfl
 clear_value K
 have vu:=ai.size
 have a9:=((h7.ext x9).ext ai).ext aH
 have ba:=a8.ext aH
 generalize bi:Ex.mk 9 C (l.map λL=>.mk 12 L [])=el at a9
 generalize bj:Ex.mk 9 C (l'.map λL=>.mk 12 L [])=er at ba
 have be:=(((RM.ext x7).ext x9).ext ai).ext aH
 have bX:=((x7.trans x9).trans ai).trans aH
 have bk:∀{r:Nat},K.size<=r->r≠b:=λz=>V
 have G:∀{g u:E}{r aS:Nat},K.size<=g.size->Fz [b] g u->m.size<=r->r<K.size->af u r aS=af g r aS:=λz D h1 h2=>kg D hr ⟨h1,V⟩ _
 have L4:∀{g:E},K.size<=g.size->Lw b [ag.size,W.size,A.size,m.size] g:=λz=>lw hr bE
 have L5:∀{g:E}{r:Nat},K.size<=r->r<g.size->Lw b [r,ag.size,W.size,A.size,m.size] g:=λz h'=>lw hr bE
 have a1:∀{g:E}{r:Nat},K.size<=r->r<g.size->∀F∈r::A.size::h,F<g.size:=λz h'=>bO (ay (g:=K) V) V h'
 have a5:=λ(c f:Ex)=>WX.add (i:=i) (b:=j.length) (a:=w.params.length+3) (c:=c) (f:=f)
 let aX:=λ(r:Nat)(g:E)=>∃s B,BX (A.size::h) i j.length (w.params.length+3) r g s B/\HX (r::A.size::h) i j.length (w.params.length+3) g sl el/\Rs b o m (P+Cg 18) g
 have bz:∃k9,el=.mk 9 C k9:=⟨_,bi.symm⟩
 have bA:∃k9,er=.mk 9 C k9:=⟨_,bj.symm⟩
 clear bi bj
 obtain⟨kl,rfl⟩:=bz
 obtain⟨kr,rfl⟩:=bA
 let ax:=λ(r aY:Nat)(g:E)=>AS (A.size::h) i j.length (w.params.length+3) K.size r (P+aY) b o m g sl (.mk 9 C kl) sr (.mk 9 C kr)
 let aO:=λr=>[r,ag.size,W.size,A.size,m.size]
 let K0:=λ(jM:Nat×Nat)(g:E)=>jM.2=0/\K.size<=jM.1/\aX jM.1 g
 let aM:=λ(r:Nat)(q H:Int)(F:O)(u:E)=>K0 (r,0) (ah u r 0 [.i q,.i H,.s F])
 have H3:∀{g u:E}{Q:Prop},K.size<=g.size->Fz [b] g u->Q->G3 g u W.size Q:=λI D c=>⟨G I D V V,G I D V V,G I D V V,c⟩
 have H6:∀{g u:E}{Q:Prop},K.size<=g.size->Fz [b] g u->Q->G3 g u ag.size (G3 g u W.size Q):=λI D c=>⟨G I D V V,G I D V V,G I D V V,H3 I D c⟩
 have H5:∀{g u:E}{Q:Prop},K.size<=g.size->Fz [b] g u->Q->af u m.size 0=af g m.size 0/\af u m.size 1=af g m.size 1/\G3 g u W.size Q:=λI D c=>⟨G I D V V,G I D V V,H3 I D c⟩
 have H8:∀{g u:E}{Q:Prop},K.size<=g.size->Fz [b] g u->Q->G3 g u ag.size (af u m.size 0=af g m.size 0/\af u m.size 1=af g m.size 1/\G3 g u W.size Q):=λI D c=>⟨G I D V V,G I D V V,G I D V V,H5 I D c⟩
 have R7:∀{r t0:Nat}{g:E}{B:Ex},ax r (Cg 18) g->fF (bG (r::A.size::h) g) (.mk t0 0 2 2) [.mk 9 C kl,B]->WX i j.length (w.params.length+3) B->N1 (aO r) t0 g (aM r):=λq hs hw=>
  jB hs (a5 _ _ q.l.wx hw) (L5 q.hk q.b.lt) λs' u h' c=>by
   have hb:=(BX.mk (e:=.mk 0 0 []) (s:=.nil) (q.b.ext c) ⟨⟨rfl,ad _,aL,aL⟩,.int 0⟩).set h';exact⟨rfl,q.hk,s',_,hb,(q.l.ext c).put aL _ _,(q.s.ext c).put F.rd (oh q.hk) _ _⟩
 have R6:∀{r:Nat}{g:E}{s:O}{q H:Int}{kk:List Ex},ax r (Cg 18) g->HX (r::A.size::h) i j.length (w.params.length+3) g s (.mk q H kk)->N1 (aO r) g.size (g.push (.cells (bt [.i 9,.i C,.s sl,.i q,.i H,.s s]) bF)) (aM r):=λq z=>
  R7 (q.ext (J.push _ _)) (oO [(.mk 9 C kl,sl),(.mk _ _ _,_)] aL (a1 q.hk q.b.lt) (by simp;exact⟨q.l.sl,z.sl⟩) rfl rfl) z.wx
 have R5:∀{r t0:Nat}{g:E}{B:Ex},ax r (Cg 18) g->fF (bG (r::A.size::h) g) (.mk t0 0 2 2) [B,.mk 9 C kr]->WX i j.length (w.params.length+3) B->TR5 (aO r) C sl W.size (aM r) t0 g:=λq hs hw=>
  jB hs (a5 _ _ hw q.r.wx) (L5 q.hk q.b.lt) λs' u h' c=>
   have I:=Qj (nC q.hk q.b.lt)
   H3 I (c.fz _) (R6 (q.ext c) h')
 have R4:∀{r:Nat}{g:E}{s:O}{B:Ex},ax r (Cg 18) g->HX (r::A.size::h) i j.length (w.params.length+3) g s B->TR4 (aO r) C sl sr W.size (aM r) B.op B.bP s g:=λ{r g s B} q z=>
  have c:=J.push g (.cells (bt [.i B.op,.i B.bP,.s s,.i 9,.i C,.s sr]) bF)
  have I:=Qj (nC q.hk q.b.lt)
  H3 I (c.fz _) (R5 (q.ext c) (oO [(B,s),(.mk 9 C kr,sr)] aL (a1 q.hk q.b.lt) (by simp;exact⟨z.sl,q.r.sl⟩) rfl rfl) z.wx)
 have bg:∀{a6 L':List Nat}{g:E}{ab:O}{K':Int->Int->O->E->Prop},(∀F∈a6,F<g.size)->b∈a6->Rs b o m P g->IR b g ab (w.params++[3,0,3])->Lw b L' g->(∀B s u,HX a6 i j.length (w.params.length+3) u s B->Rd b o (P+Cg 18) u->Fz [b] g u->K' B.op B.bP s u)->aN cg 314 [vp b 0,.agg #[O.v d,O.v p],O.v ab,vi 0,vi 4] g λbP u=>eF L' g u/\∃r0 r1:Int,∃r2:O,bP=.agg #[vi r0,vi r1,O.v r2]/\K' r0 r1 r2 u:=λbD bJ R hw hL hk=>
  FC (v:=w.params++[3,0,3]) bD bJ (F.to R.f R.r) V hw bE bs bh hL λB s u z d D=>hk B s u (by simpa using z) d D
 have R3:∀{r:Nat}{g:E}{ab:O},ax r 0 g->IR b g ab (w.params++[3,0,3])->TR3 (aO r) b C sl sr d p ab ag.size W.size (aM r) g:=λq hw=>
  bg (a1 q.hk q.b.lt) (by simp[aU]) q.s hw (L5 q.hk q.b.lt) λB s u z d' D=>
   have I:=Qj (nC q.hk q.b.lt)
   H6 I D (R4 (q.fz aD (bk q.hk) D d') z)
 have R2:∀{r t0:Nat}{g:E},ax r 0 g->ap (bG [b] g) (.mk t0 0 3 3) [3,0,3]->TR2 (aO r) b C sl sr d p ps ag.size W.size m.size (aM r) t0 g:=λq hw=>
  (eN (S:=[b]) (by simp;exact q.s.r.lt) (PS q.s.f) hw bE).mono λ_ u⟨ab,wl,B,gw,qw,c⟩=>by
   subst qw;have I:=Qj (nC q.hk q.b.lt);exact⟨(L5 q.hk q.b.lt).dv (c.fz _),ab,B,H8 I (c.fz _) (R3 (q.ext c) (GI.done gw (by simp;exact q.s.r.lt) bE))⟩
 have aG:∀{g:E}{aY:Nat},K.size<=g.size->HX (A.size::h) i j.length (w.params.length+3) g sl (.mk 9 C kl)->HX (A.size::h) i j.length (w.params.length+3) g sr (.mk 9 C kr)->Rs b o m (P+aY) g->J g (g.push (.cells (bt [.i 0,.i 0,.s .nil]) bF))/\ax g.size aY (g.push (.cells (bt [.i 0,.i 0,.s .nil]) bF)):=λh1 h2 h3 h4=>AS.new h1 h2 h3 h4
 have r0:Rs b o m (P+0) K:=be
 have wl:∀g:E,b<g.size->ap (bG [b] (g.push (.cells (bt [.i 3,.i 0,.i 3]) aA))) (.mk g.size 0 3 3) [3,0,3]:=λg z=>ap.lit aA _ (by simp;exact z) rfl rfl aL
 refine⟨K0,⟨?_,?_⟩,?_⟩
 .intro ac
  have N:J K ac:=J.push _ _
  have a3:ap (bG [b] ac) (.mk K.size 0 3 3) [3,0,3]:=wl K be.r.lt
  clear_value ac
  have aK:=N.size
  have a_:=a9.ext N;have bb:=ba.ext N;have Y:=r0.ext N
  refine H8 (ad _) (N.fz _) ⟨?_,?_⟩
  .refine(eN (S:=[b]) (by simp;exact Y.r.lt) (PS Y.f) a3 bE).mono λ_ al⟨ab,bQ,B,gw,qw,T⟩=>⟨(L4 aK).dv (T.fz _),ab,B,H8 aK (T.fz _) ⟨?_,?_⟩⟩
   all_goals have a4:IR b al ab (w.params++[3,0,3]):=qw▸GI.done gw (by simp;exact Y.r.lt) (by rw[<-qw];simp;omega)
   all_goals have bw:=T.size
   .refine bg (a6:=A.size::h) (ay V) aD (Y.ext T) a4 (L4 V) λaj a2 am ak a7 ae=>H6 V ae ⟨?_,?_⟩
    all_goals have az:=(a_.ext T).fz aD ae
    all_goals have aR:=(bb.ext T).fz aD ae
    all_goals have aW:=(Y.ext T).to ae a7
    all_goals have bT:=ae.size
    .intro ao
     have aa:J am ao:=J.push _ _
     have bm:fF (bG (A.size::h) ao) (.mk am.size 0 2 2) [aj,.mk 9 C kr]:=oO [(aj,a2),(.mk 9 C kr,sr)] aL (ay V) (by simp;exact⟨ak.sl,aR.sl⟩) rfl rfl
     have bU:=aa.size
     refine H3 V (aa.fz _) ⟨?_,?_⟩
     .refine jB (M:=ao) bm (a5 _ _ ak.wx aR.wx) (L4 V) λbM aF a0 aI=>H3 V (aI.fz _) ⟨?_,?_⟩
      all_goals have Q:=aa.trans aI
      all_goals have bV:=aI.size
      .intro aV
       have an:J aF aV:=J.push _ _
       have bn:fF (bG (A.size::h) aV) (.mk aF.size 0 2 2) [.mk 9 C kl,.mk 1 0 [aj,.mk 9 C kr]]:=oO [(.mk 9 C kl,sl),(.mk 1 0 [aj,.mk 9 C kr],bM)] aL (ay V) (by simp;exact⟨(az.ext Q).sl,a0.sl⟩) rfl rfl
       have b4:=an.size
       refine⟨?_,?_⟩
       .refine jB (M:=aV) bn (a5 _ _ az.wx a0.wx) (L4 V) λbN bq bB bu=>?_
        have b5:=bu.size
        intro br
        have bR:J bq br:=J.push _ _
        refine H8 V (bR.fz _) ?_
        intro bK
        let⟨bv,bx,b6⟩:=BX.new (f:=br) (d:=bK) bB rfl rfl
        have U:=Q.trans (an.trans bu)
        exact⟨rfl,by show K.size<=bq.size;omega,bN,_,bx,(az.ext U).gX bv (ad _),(aW.ext U).ext bv⟩
       .let⟨U,q⟩:=aG (g:=aV) V ((az.ext Q).ext an) ((aR.ext Q).ext an) ((aW.ext Q).ext an)
        exact H8 V (U.fz _) (R7 q (fF.le (U.bG λH hb=>(List.mem_cons.1 hb).elim (λz=>Or.inr V) Or.inl) bn) a0.wx)
      .let⟨U,q⟩:=aG (g:=aF) V (az.ext Q) (aR.ext Q) (aW.ext Q)
       exact H8 V (U.fz _) (R6 q (a0.gX U (ad _)))
     .let⟨U,q⟩:=aG (g:=ao) V (az.ext aa) (aR.ext aa) (aW.ext aa)
      exact H8 V (U.fz _) (R5 q (fF.le (U.bG λH hb=>(List.mem_cons.1 hb).elim (λz=>Or.inr V) Or.inl) bm) ak.wx)
    .let⟨U,q⟩:=aG (g:=am) V az aR aW
     exact H8 V (U.fz _) (R4 q (ak.gX U (ad _)))
   .let⟨U,q⟩:=aG (g:=al) V (a_.ext T) (bb.ext T) (Y.ext T)
    exact H8 V (U.fz _) (R3 q (a4.le (fh (U.fz _))))
  .let⟨U,q⟩:=aG (g:=ac) aK a_ bb Y
   exact H8 aK (U.fz _) (R2 q (a3.le (fh (U.fz _))))
 .let⟨U,q⟩:=aG (g:=K) (ad _) a9 ba r0
  have za:=U.size
  intro ac
  refine H8 (ad _) (U.fz _) ?_
  intro al
  have T:J ac al:=J.push _ _
  exact H8 za (T.fz _) (R2 (q.ext T) (wl ac q.s.r.lt))
 rintro⟨r,aS⟩ g ⟨ho,hk,s,B,H,hl,R⟩
 simp only at ho hk H hl
 subst ho
 have bv:=H.b.lt
 have a_:=bk hk
 have U:∀{u:E},g.size<=u.size->Lw b [ag.size,W.size,A.size,m.size] u:=λz=>L4 V
 have I:K.size<=g.size:=V
 have a0:∀{u:E},g.size<=u.size->∀F∈r::A.size::h,F<u.size:=λz=>a1 hk V
 refine⟨λu=>∃s B,BX (A.size::h) i j.length (w.params.length+3) r u s B/\Rs b o m (P+2*Cg 18) u/\g.size<=u.size,⟨V,V,_,E1 R.f,λ_=>?_,λ_=>⟨s,B,H,⟨R.f,R.r.mono V⟩,ad _⟩⟩,?_⟩
 .intro ac
  have N:J g ac:=J.push _ _
  have a3:ap (bG [b] ac) (.mk g.size 0 3 3) [3,0,3]:=wl g R.r.lt
  clear_value ac
  have aK:=N.size
  have Y:=R.ext N
  refine H5 I (N.fz _) ?_
  refine(eN (S:=[b]) (by simp;exact Y.r.lt) (PS Y.f) a3 bE).mono λ_ al⟨ab,bQ,e',gw,qw,T⟩=>⟨(U aK).dv (T.fz _),ab,e',H5 V (T.fz _) ?_⟩
  have a4:IR b al ab (w.params++[3,0,3]):=qw▸GI.done gw (by simp;exact Y.r.lt) (by rw[<-qw];simp;omega)
  have bw:=T.size
  have aR:=Y.ext T
  refine FC (v:=w.params++[3,0,3]) (S:=r::A.size::h) (a0 V) (by simp[aU]) (F.to aR.f aR.r) V a4 bE bs bh (U V) λaj a2 am ak a7 ae=>H3 V ae ?_
  have ak:HX (r::A.size::h) i j.length (w.params.length+3) am a2 aj:=by simpa using ak
  have bT:=ae.size
  refine wE (r::A.size::h) i j.length (a:=w.params.length+3) (U V) V λbn ao az aa=>H3 V (aa.fz _) ?_
  intro aF
  have aI:J ao aF:=J.push _ _
  have bU:=aa.size
  have bb:=(((hl.ext N).ext T).fz (by simp[aU]) ae).ext aa
  have hs:fF (bG (r::A.size::h) aF) (.mk ao.size 0 3 3) [.mk 9 C kl,aj,.mk 12 (ps.len+2) []]:=oO [(.mk 9 C kl,sl),(aj,a2),(.mk 12 (ps.len+2) [],bn)] aL (a0 V) (by simp;exact⟨bb.sl,(ak.ext aa).sl,az.sl⟩) rfl rfl
  have bV:=aI.size
  refine jB (M:=aF) hs (.O2 (by simp;exact⟨bb.wx,ak.wx,az.wx⟩)) (U V) λbq aV br an=>?_
  have aW:=((((H.ext N).ext T).fz (by simp[aU]) a_ ae).ext (aa.trans aI)).ext an
  have hb:=aW.set br
  have bm:=(((aR.to ae a7).ext (aa.trans aI)).ext an).put F.rd (k:=r) V 0 [.i 6,.i 3,.s bq]
  exact⟨aW.b.fJ aL,λb' bu=>bd _ _ _ _ (by simp at bu;omega),bq,.mk 6 3 [.mk 9 C kl,aj,.mk 12 (ps.len+2) []],hb,⟨bm.f,bm.r.mono V⟩,by rw[aw];have:=an.size;omega⟩
 rintro M3 ⟨s,B,H,R,aJ⟩
 refine⟨V,V,_,E1 R.f,_,H.b.bZ 0,_,H.b.bZ 1,_,H.b.bZ 2,?_⟩
 refine wE (A.size::h) i j.length (a:=w.params.length) (U aJ) V λaV ac ak N=>?_
 have aK:=N.size
 have ae:∀{M1 M2:E}{aS:Nat},g.size<=M1.size->Fz [b] M1 M2->af M2 r aS=af M1 r aS:=λz D=>kg D hr ⟨V,V⟩ _
 refine⟨ae aJ (N.fz _),ae aJ (N.fz _),ae aJ (N.fz _),(E1 (R.f.then N)).trans (E1 R.f).symm,G V (N.fz _) V V,G V (N.fz _) V V,G V (N.fz _) V V,?_⟩
 have Y:=R.ext N
 refine FC (S:=A.size::h) (ay V) aD (F.to Y.f Y.r) V (PS Y.f) V (F.gp.ty bc.2.2.1 bc.2.2.2) bh (U V) λaj aW al an aR T=>⟨ae V T,ae V T,ae V T,?_⟩
 have bw:=T.size
 intro am
 have aF:J al am:=J.push _ _
 have aI:=(H.ext N).fz aD a_ T
 have hs:fF (bG (A.size::h) am) (.mk al.size 0 3 3) [.mk 12 0 [],aj,B]:=oO [(.mk 12 0 [],aV),(aj,aW),(B,s)] aL (ay V) (by simp;exact⟨(ak.fz aD T).sl,an.sl,aI.h.fg.sl⟩) rfl rfl
 refine jB (M:=am) hs (.m3 F.gp.ds ak.wx an.wx H.h.wx) (U (oh aF.size)) λbn ao az aa=>?_
 exact az.iH (((Y.to T aR).ext aF).ext aa) F.rd V V
end
end
section
variable{a:E}{c:List Ce}{b:Nat}
section
variable{f:List Nat}{e P:Nat}{h d p:O}{i:List bz}{g:List dy}{m:E}
def MK(hS:∀n∈f,n<m.size)(aj:e∈f)(n:GC e h P d p i g m)(hP:P+300+40*Cg 18<=10^16){N:Nat}{q:dy}(z:g[N]? =some q)(ak:N=0->q.params.length=0):
 aN cg 253 [vp e 0,.agg #[O.v d,O.v p],vi N] m (XP f e h m (P+300+40*Cg 18) (XN i g.length q.params.length)):=by
 apply Gi (e,0)
 simp -zeta only[aC,aB]
 intro l w
 let⟨x2,hl⟩:=dD (a:=l) (c:=w) rfl rfl
 have s1:l.size=m.size+1:=by simp[l]
 have s2:w.size=m.size+2:=by simp[w,s1]
 have hr:=n.rd.lt
 clear_value w
 have ae:∀{a:E},w.size<=a.size->∀n∈l.size::f,n<a.size:=λc=>bO hS V V
 have t:Rs e h m P w:=⟨x2.fz _,n.rd.ext x2⟩
 have J:∀{a:E},w.size<=a.size->Lw e [l.size,m.size] a:=λc=>lw hr bE
 let⟨U,ag,e0,e1⟩:=n.hp.aF z
 have an:=av z
 have ao:=n.hp.len
 have ab:=wG _ (n.gp.dz q (aq z))
 have h3:q.params.length<=3:=ab.1
 have Z:∀{a:E},Fz [e] m a->IR e a U q.params:=λx=>ag.le (fh x)
 have au:=ag.len
 have aa:e∈l.size::f:=by simp[aj]
 have am:=n.gp.ty ab.2.2.1 ab.2.2.2
 refine⟨V,V,U,(eP.1 (fh t.f _ _ _ e0)).2,V,V,_,(eP.1 (fh t.f _ _ _ e1)).2,?_⟩
 refine(LR ((Z t.f).le (bA _ _)) 1).mono λ_ m3⟨pl,en,ap,x3⟩=>⟨(J (ad _)).dv (x3.fz _),pl,en,?_⟩
 have z3:=x3.size
 refine Jf (l.size::f) i g.length q.params.length (J z3) 0 λs4 o C x4=>?_
 have z4:=x4.size
 intro m5 H
 let⟨x6,b6,z6⟩:=BX.new (f:=m5) (d:=H) C rfl rfl
 clear_value H
 have r6:=((t.ext x3).ext x4).ext x6
 have hk:o.size≠e:=V
 have L6:∀{a:E},H.size<=a.size->Lw e [o.size,l.size,m.size] a:=λc=>lw hr bE
 refine(cp r6.r V 4).mono λ_ r⟨b,en,_,_,d7,L⟩=>⟨(L6 (ad _)).dv L,b,en,?_⟩
 have I:=r6.to L d7
 have z7:=L.size
 have B:=n.to I.f I.r
 have D:∀j∈o.size::l.size::f,j<r.size:=bO (ae (a:=r) V) (ad _) V
 have F:e∈o.size::l.size::f:=by simp[aj]
 have iH:∀{x:Nat}{ac:List Value}{Q:Nat},aN cg x ac r (XP (o.size::l.size::f) e h r Q (WX i g.length q.params.length))->Q<=P+300+20*Cg 18->aN cg x ac r λv A=>eF [o.size,l.size,m.size] r A/\∃W X:Int,∃t:O,v=.agg #[vi W,vi X,O.v t]/\
  ∃u j,BX (l.size::f) i g.length q.params.length o.size (ah A o.size 0 [.i W,.i X,.s t]) u j/\Rs e h m (P+300+20*Cg 18) (ah A o.size 0 [.i W,.i X,.s t])/\H.size<=(ah A o.size 0 [.i W,.i X,.s t]).size:=λc hQ=>
  XP.kk c (L6 z7) λu j A h1 h2 h3 C=>by
   have hb:=((b6.fz aa hk L).fz aa hk C).set ⟨h1,h2⟩;have ai:=(I.to C h3).put n.rd (k:=o.size) V 0 [.i j.op,.i j.bP,.s u];exact⟨u,j,hb,⟨ai.f,ai.r.mono hQ⟩,by rw[aw];have:=C.size;omega⟩
 have ur:=λ(a:E)(S':List Nat)(h1:∀j∈S',j<a.size)(h2:e∈S')(Q:Nat)(cM:GC e h Q d p i g a)(x:Fz [e] m a)(hQ:Q+20*Cg 18<=10^16)(s:Int)(hb:0<=s/\s<=18)=>LG (S:=S') h1 h2 cM hQ (Z x) V am hb
 have R:=iH ((ur r _ D F _ B I.f V 18 bh).mono λ_ _ c=>c.mono (λj K=>K.1) (ad _)) V
 have first:1<=q.params.length->∃y:Int,q.params[0]? =some y/\af r U.D (U.off+Int.toNat 0*1)=some (vi y):=λc=>by
  let⟨y,T⟩:=cG q.params 0;exact⟨y,T,(eP.1 ((Z I.f).aF T)).2⟩
 refine⟨λa=>∃u j,BX (l.size::f) i g.length q.params.length o.size a u j/\Rs e h m (P+300+20*Cg 18) a/\H.size<=a.size,?_,?_⟩
 .refine⟨λv a=>(v=true->N=0)/\r=a,⟨λ_=>⟨λc=>by simp at c;omega,rfl⟩,λ_=>⟨sx,rfl⟩⟩,?_⟩
  rintro v _ ⟨G,rfl⟩
  refine⟨λc=>?_,λ_=>?_⟩
  .have Y:=ak (G c)
   exact iH ((JW D F B V).mono λ_ _ c=>c.mono (λj K=>by rw[Y];exact K) (ad _)) V
  refine⟨λv a=>(v=true->0<=pl)/\r=a,⟨λ_=>⟨λc=>⟨λ_=>⟨λ_=>by simpa using c,rfl⟩,λ_=>⟨λ_=>by simpa using c,rfl⟩⟩,λ_=>⟨aL,rfl⟩⟩,λ_=>⟨aL,rfl⟩⟩,?_⟩
  rintro v _ ⟨G,rfl⟩
  refine⟨λc=>iH (JZ D F B V z ⟨G c,V⟩) V,λ_=>?_⟩
  refine⟨λv a=>(v=true->1<=q.params.length)/\r=a,⟨λ_=>⟨λc=>?_,λ_=>⟨aL,rfl⟩⟩,λ_=>⟨aL,rfl⟩⟩,?_⟩
  .simp only[ar]at c
   let⟨y,T,K⟩:=first V
   exact⟨bh,V,y,K,λ_=>⟨λ_=>⟨λ_=>V,rfl⟩,λ_=>⟨λ_=>V,rfl⟩⟩,λ_=>⟨aL,rfl⟩⟩
  rintro v _ ⟨G,rfl⟩
  refine⟨λc=>iH (J0 D F B V z (G c)) V,λ_=>⟨λ_=>⟨λc=>?_,λ_=>R⟩,λ_=>R⟩⟩
  simp only[ar]at c
  let⟨y,T,K⟩:=first V
  have Y:=iH (JJ D F B V z V) V
  exact⟨bh,V,y,K,λ_=>⟨λ_=>Y,λ_=>⟨λ_=>Y,λ_=>R⟩⟩,λ_=>R⟩
 rintro a ⟨u,j,s,al,ax⟩
 refine⟨_,s.b.bZ 0,_,s.b.bZ 1,_,s.b.bZ 2,?_⟩
 refine(AY (fF.le (bA _ _) s.h.sl)).mono λ_ m8⟨n8,e8,q8,Y⟩=>⟨(J V).dv (Y.fz _),n8,e8,?_⟩
 have z8:=Y.size
 have G:=al.ext Y
 have K:=s.ext Y
 refine⟨λ_=>XP.ret (ur m8 (l.size::f) (ae V) aa _ (n.to G.f G.r) G.f V 12 bh) (J V) G.f n.rd V (λ_ c=>c) V,λc=>⟨_,K.b.bZ 0,_,K.b.bZ 1,_,K.b.bZ 2,?_⟩⟩
 simp only[bL]at c
 have r9:=G.put n.rd (k:=l.size) V 0 [.i j.op,.i j.bP,.s u]
 exact⟨u,j,rfl,(K.h.fg.put aL _ _).fg.sl,⟨s.h.wx,V⟩,r9.r.mono V,r9.f⟩
end
def BP{α:Type}{R:E->List Ce->α->Prop}{n:Nat}(g:om n R){S:List Nat}(o:∀d∈S,d<a.size)(e:Nat)(l:List (α×List Ce))(h:∀x∈l,R (bG S a) x.2 x.1)(p:c=l.flatMap (·.2))(q:b=l.length):
 Gr S a (a.push (.cells (bt c) e)) e n R (.mk a.size 0 b b) (l.map (·.1)):=by
 refine Gr.lit (f:=l.map (·.2)) g (ad _) o (by rw[p,List.flatMap_def]) (by simp[q]) ⟨aL,λd i=>?_,λr d e k j=>?_⟩
 .simp at i;let⟨m,f⟩:=i;exact g.len (h _ f)
 .simp only[cJ,jF]at k j
  obtain⟨x,m,rfl⟩:=k
  obtain⟨y,f,rfl⟩:=j
  rw[m]at f;simp at f;subst f
  exact h x (aq m)
abbrev Uu(m:E)(s:O)(l:List (List Int)):Prop:=eS m 1 (mM m) s l
def wK{S:List Nat}(d:∀e∈S,e<a.size)(e:Nat)(l:List (List Int×O))(k:l.length<=1000)(h:∀x∈l,ap (bG S a) x.2 x.1)(f:c=l.map λx=>.s x.2)(g:b=l.length):Uu (bG S (a.push (.cells (bt c) e))) (.mk a.size 0 b b) (l.map (·.1)):=by
 have H:=BP (R:=λm c x=>mM m c x) (n:=1) ⟨λh=>mM.le h _ _,λ⟨_,h,_⟩=>by rw[h];rfl⟩ d e (l.map λx=>(x.1,[Ce.s x.2])) (λx i=>by simp at i;obtain⟨m,o,j,rfl⟩:=i;exact⟨_,rfl,h _ j⟩) (c:=c) (b:=b) (by rw[f];clear f g h k;induction l<;>simp_all) (by simp[g]);have i:=Gr.done mM.mono H d bh bE;rwa[show(l.map λx=>(x.1,[Ce.s x.2])).map (·.1)=l.map (·.1)by simp[Xl,Function.comp_def]]at i
abbrev Zf(S:List Nat)(a m:E)(s:O)(l:List bz):Prop:=Gr S a m jV 3 iK s l
end
section
variable{K:O->E->Prop}
section
variable{S L:List Nat}{c P:Nat}{d:O}{m b:E}
def Nq(f:O)(d:∀a∈L,a<b.size)(g:∀a,J b a->K f a):aN cg 217 [O.v f] b λv a=>eF L b a/\∃c:O,v=.agg #[O.v c]/\K c a:=
 (Ly f b).mono λ_ a⟨e,x⟩=>⟨x.dv d,f,e,g a x⟩
def Di(f:O)(d:∀a,J b a->K f a):aN cg 217 [O.v f] b λv a=>∃c:O,v=.agg #[O.v c]/\K c a:=
 (Ly f b).mono λ_ a⟨e,x⟩=>⟨f,e,d a x⟩
def wh(hS:∀s∈S,s<m.size)(T:c∈S)(Q:Rd c d P m)(hP:P+1<=10^16):
 aN cg 216 [vp c 0] m λa6 U=>∃t ds,a6=O.v t/\Zf S m U t ds/\ds∈rI/\Rd c d (P+1) U/\Fz [c] m U:=by
 apply AG (c,0)
 simp -zeta only[aC,aB]
 have hr:=Q.lt
 have i:∀{b:E},m.size<=b.size->∀s∈S,s<b.size:=λh s hc=>by have:=hS s hc;omega
 have I:∀(b:E)(l:List Int)(L:List Ce)(D:Nat),m.size<=b.size->L=l.map Ce.i->D=l.length->l.length<=1000->ap (bG S (b.push (.cells (bt L) aA))) (.mk b.size 0 D D) l:=λb l L D h h1 h2 h3=>ap.lit aA l (i h) h1 h2 V
 have au:∀(b:E)(f:Nat),ap (bG S b) (.mk f 0 0 0) []:=λb f=>mD _ _ _ _ _ _
 intro a3
 have x1:J m a3:=J.push _ _
 refine Di _ λy x2=>?_
 intro m3
 have x3:J y m3:=J.push _ _
 have z2:=(x1.trans x2).size
 have i3:ap (bG S m3) (.mk y.size 0 2 2) [0,1]:=I y [0,1] _ _ z2 rfl rfl bh
 clear_value m3
 refine Di _ λm4 H=>?_
 intro q
 have x5:J m4 q:=J.push _ _
 have z4:=(x3.trans H).size
 have c5:Uu (bG S q) (.mk m4.size 0 2 2) [[],[0,1]]:=wK (i V) _ [([],.mk m.size 0 0 0),([0,1],.mk y.size 0 2 2)] aL (by simp;exact⟨au _ _,i3.le (H.df _)⟩) rfl rfl
 clear_value q
 intro m6 B
 obtain⟨x7,-,z7⟩:=kE (M:=q) (d:=m6) (c:=B) rfl rfl rfl
 clear_value B
 have z5:=x5.size
 intro m8
 have x8:J B m8:=J.push _ _
 clear_value m8
 have z8:=x8.size
 refine Nq _ bE λC x9=>?_
 intro W
 have aE:J C W:=J.push _ _
 have z9:=x9.size
 have aY:ap (bG S W) (.mk C.size 0 3 3) [3,0,3]:=I C [3,0,3] _ _ V rfl rfl bh
 clear_value W
 have vu:=aE.size
 refine Nq _ bE λX ai=>?_
 intro k
 have aF:J X k:=J.push _ _
 have a_:=ai.size
 have aO:Uu (bG S k) (.mk X.size 0 2 2) [[],[3,0,3]]:=wK (i V) _ [([],.mk B.size 0 0 0),([3,0,3],.mk C.size 0 3 3)] aL (by simp;exact⟨au _ _,aY.le (ai.df _)⟩) rfl rfl
 clear_value k
 intro a4 n
 obtain⟨a7,-,bb⟩:=kE (M:=k) (d:=a4) (c:=n) rfl rfl rfl
 clear_value n
 have ba:=aF.size
 have LL:∀{b:E},n.size<=b.size->∀f∈[k.size,q.size],f<b.size:=λh=>bE
 intro Y
 have aG:J n Y:=J.push _ _
 have aZ:ap (bG S Y) (.mk n.size 0 2 2) [1,3]:=I n [1,3] _ _ V rfl rfl bh
 clear_value Y
 have a8:=aG.size
 refine Nq _ (LL a8) λZ aj=>?_
 intro o
 have aH:J Z o:=J.push _ _
 have bc:=aj.size
 have aP:Uu (bG S o) (.mk Z.size 0 1 1) [[1,3]]:=wK (i V) _ [([1,3],.mk n.size 0 2 2)] aL (by simp;exact aZ.le (aj.df _)) rfl rfl
 clear_value o
 have bd:=aH.size
 intro aa
 have aI:J o aa:=J.push _ _
 have a0:ap (bG S aa) (.mk o.size 0 3 3) [1,1,0]:=I o [1,1,0] _ _ V rfl rfl bh
 clear_value aa
 have be:=aI.size
 refine Nq _ (LL V) λx ak=>?_
 intro ab
 have al:J x ab:=J.push _ _
 have bf:=ak.size
 have a1:ap (bG S ab) (.mk x.size 0 1 1) [0]:=I x [0] _ _ V rfl rfl bh
 clear_value ab
 have bg:=al.size
 refine Nq _ (LL V) λz F=>?_
 intro ac
 have G:J z ac:=J.push _ _
 have bi:=F.size
 have a2:ap (bG S ac) (.mk z.size 0 1 1) [3]:=I z [3] _ _ V rfl rfl bh
 clear_value ac
 have bj:=G.size
 refine Nq _ (LL V) λae u=>?_
 intro p
 have aJ:J ae p:=J.push _ _
 have bk:=u.size
 have aQ:Uu (bG S p) (.mk ae.size 0 3 3) [[1,1,0],[0],[3]]:=wK (i V) _ [([1,1,0],.mk o.size 0 3 3),([0],.mk x.size 0 1 1),([3],.mk z.size 0 1 1)] aL (by simp;exact⟨a0.le ((((((ak.trans al).trans F).trans G).trans u)).df _),a1.le (((F.trans G).trans u).df _),a2.le (u.df _)⟩) rfl rfl
 clear_value p
 have bl:=aJ.size
 have ax:=(((((aI.trans ak).trans al).trans F).trans G).trans u).trans aJ
 have aw:=(((a7.trans aG).trans aj).trans aH).trans ax
 have K:=(((((x7.trans x8).trans x9).trans aE).trans ai).trans aF).trans aw
 have w:∀{am an:E}{t:O}{l:List (List Int)},J am an->Uu (bG S am) t l->Uu (bG S an) t l:=λaD h=>eS.le h (aD.df _) (mM.le (aD.df _))
 have ag:Uu (bG S p) .nil []:=⟨rfl,ad _,aL,aL⟩
 intro e
 have r:J p e:=J.push _ _
 have aT:cw (bG S e) (.mk p.size 0 4 4) RE:=(BP (R:=iK) iK.mono (i (b:=p) V) jV [(⟨0,0,[[1,3]]⟩,[.i 0,.i 0,.s (.mk Z.size 0 1 1)]),(⟨1,0,[]⟩,[.i 1,.i 0,.s .nil]),(⟨0,0,[[1,1,0],[0],[3]]⟩,[.i 0,.i 0,.s (.mk ae.size 0 3 3)]),(⟨0,1,[]⟩,[.i 0,.i 1,.s .nil])] (by simp;exact⟨⟨_,rfl,w ax aP⟩,⟨_,rfl,ag⟩,⟨_,rfl,aQ⟩,⟨_,rfl,ag⟩⟩) rfl rfl).done iK.mono (i V) bh bh
 clear_value e
 have bm:=r.size
 intro A
 have v:J e A:=J.push _ _
 have ay:Zf S e A (.mk e.size 0 3 3) Kr:=BP (R:=iK) iK.mono (i (b:=e) V) jV [(⟨0,0,[[],[0,1]]⟩,[.i 0,.i 0,.s (.mk m4.size 0 2 2)]),(⟨0,0,[]⟩,[.i 0,.i 0,.s .nil]),(⟨0,0,[[],[3,0,3]]⟩,[.i 0,.i 0,.s (.mk X.size 0 2 2)])] (by simp;exact⟨⟨_,rfl,w (K.trans r) c5⟩,⟨_,rfl,w r ag⟩,⟨_,rfl,w (aw.trans r) aO⟩⟩) rfl rfl
 clear_value A
 have av:=((((x1.trans x2).trans x3).trans H).trans x5).trans (K.trans (r.trans v))
 have bn:=v.size
 have aM:Lw c [k.size,q.size] A:=λf j=>⟨LL V f j,by simp at j;omega⟩
 refine(cp (Q.ext av) V 5).mono λ_ af⟨az,aR,k0,k1,N,g⟩=>⟨aM.dv g,az,aR,λh=>?_,λ_=>⟨_,Kr,rfl,Gr.cx iK.mono (ay.eA iK.mono g (by simp;exact⟨T,V⟩)) (λ_ h=>Or.inl h) V,by simp[rI],N,(av.fz _).trans g⟩⟩
 simp only[ar]at h
 let⟨ah,hq⟩:=cG RE az.toNat (by simp[RE];omega)
 have aX:Le (bG S e) (bG (e.size::S) af):=(v.bG λf j=>(List.mem_cons.1 j).elim (λh=>Or.inr V) Or.inl).trans (g.df (by simp[T]))
 let⟨aS,hf,e0,e1,e2⟩:=(aT.le aX).aF hq
 refine⟨k0,bE,_,(eP.1 e0).2,_,(eP.1 e1).2,_,(eP.1 e2).2,?_⟩
 intro a9
 have aU:Zf S e af (.mk e.size 0 3 3) Kr:=ay.eA iK.mono g (by simp;exact⟨T,V⟩)
 have hz:=g.size
 have aW:Kr++[ah]∈rI:=by
  have:=aq hq;simp only[rI,aV,Xm];exact Or.inr ⟨ah,this,rfl⟩
 refine Gr.kH (g:=[.i 0,.i 0,.s .nil]) (k:=ah) iK.mono bh aU ((v.fz _).trans g) ⟨aS,rfl,hf⟩ (by simp[Kr]) λa5 M' g' f' z' q'=>?_
 have ao:=((((((x1.trans x2).trans x3).trans H).trans x5).trans (K.trans r)).fz [c]).trans f'
 have aK:Lw c [k.size,q.size] e:=λf j=>⟨LL V f j,by simp at j;omega⟩
 exact⟨aK.tv (((v.fz [c]).trans g).then (J.push af _)) f',a5,_,rfl,Gr.cx iK.mono g' (λ_ h=>Or.inl h) V,aW,Q.MD N ao (q' c N.lt (by show c≠e.size;omega)),ao⟩
end
end
section
variable{a:Nat}{b:List Ce}
def Pd(M:E)(b:List Ce)(x:dy×Option Ex):Prop:=∃c a k z,b=[.s c,.i x.1.aS,.i a,.i k,.s z]/\ap M c x.1.params/\∀e,x.2=some e->a=e.op/\k=e.bP/\fF M z e.bC
def Pd.mono:om 5 Pd:=⟨λh⟨b,a,k,z,e,c,d⟩=>⟨b,a,k,z,e,c.le h,λx j=>let⟨f,g,i⟩:=d x j;⟨f,g,fF.le h i⟩⟩,λ⟨_,_,_,_,e,_⟩=>by rw[e];rfl⟩
def Ze(M:E)(b:List Ce)(x:dy×Ex):Prop:=∃a s,b=[.s a,.i x.1.aS,.i x.2.op,.i x.2.bP,.s s]/\ap M a x.1.params/\fF M s x.2.bC
def Ze.mono:om 5 Ze:=⟨λh⟨a,s,e,b,c⟩=>⟨a,s,e,b.le h,fF.le h c⟩,λ⟨_,_,e,_⟩=>by rw[e];rfl⟩
abbrev WH(m:E)(s:O)(l:List (dy×Ex)):Prop:=eS m 5 (Ze m) s l
structure WJ(ds:List bz)(l:List (dy×Ex)):Prop where
 gp:GP ds (l.map (·.1))
 ur:∀x∈l,XN ds l.length x.1.params.length x.2
def Gr.ZN{α:Type}{S:List Nat}{q p:E}{j g h c k:Nat}{R:E->List Ce->α->Prop}{o:List α}(x:0<g)(m:Gr S q p j g R (.mk h 0 a c) o)(v:k<=a):Gr S q p j g R (.mk h 0 k c) (o.take k):=by
 have w:=m.len x;obtain⟨-,b,r,d⟩:=m;simp only[O.gE]at w;have t:b.length=a:=by rw[d.len];omega
 rcases r.aF with e|⟨B,C,tail,e,h4,h5,h6,h7⟩
 .simp at e
 simp only[O.gE,O.mk.injEq]at e h7;obtain⟨rfl,-,-,rfl⟩:=e;have l:b.flatten=(b.take k).flatten++(b.drop k).flatten:=by rw[<-qH,dm]
 have n:∀c∈b.take k,c.length=g:=λc s=>d.size c (dA s);refine⟨aL,b.take k,⟨by rw[cv n,gH,t,jb v];rfl,Or.inr ⟨h,c,(b.drop k).flatten++tail,aL,h4,by rw[<-fC,<-l];exact h5,by rw[<-fC,<-l];exact h6,bE⟩⟩,?_,n,λy z A f i=>?_⟩
 .rw[gH,gH,d.len]
 .rw[lE]at f i;split at f
  .rename_i u;rw[an u]at i;exact d.dz y z A f i
  .simp at f
section
variable{S L:List Nat}{d P:Nat}{c:O}{m M:E}
def rm{K:O->Int->Int->Int->O->E->Prop}(l:List Int)(r:Int)(n:∀c∈S,c<M.size)(m:∀d∈L,d<M.size)(t:l.length<=1000)(p:b=l.map Ce.i)(s:a=l.length)(q:∀c,J M c->ap (bG S c) (.mk M.size 0 a a) l->K (.mk M.size 0 a a) r 0 0 .nil c):
 aN cg 252 [O.v (.mk M.size 0 a a),vi r] (M.push (.cells (bt b) aA)) λv c=>eF L (M.push (.cells (bt b) aA)) c/\∃e:O,∃f:Int,∃g:Int,∃h:Int,∃i:O,v=.agg #[O.v e,vi f,vi g,vi h,O.v i]/\K e f g h i c:=
 have j:=J.push M (.cells (bt b) aA)
 (Q8 _ r _).mono λ_ c⟨k,x⟩=>⟨x.dv λd o=>j.lt (m d o),_,_,_,_,_,k,q c (j.trans x) ((ap.lit aA l n p s V).le (x.df _))⟩
def xR(a:List Int)(r:Int):dy:=⟨a,[],r,0,[]⟩
def SZ.mono:om 5 SZ:=⟨λh=>SZ.le h,λ⟨_,_,_,_,e,_⟩=>by rw[e];rfl⟩
def Q3(l:List (dy×O))(c:∀d∈S,d<M.size)(h:∀x∈l,ap (bG S M) x.2 x.1.params)(k:l.length<=1000)(f:b=l.flatMap λx=>[.s x.2,.i x.1.aS,.i 0,.i 0,.s .nil])(g:a=l.length):pp (bG S (M.push (.cells (bt b) fm))) (.mk M.size 0 a a) (l.map (·.1)):=by
 have H:=(BP (R:=SZ) SZ.mono c fm (l.map λx=>(x.1,[Ce.s x.2,.i x.1.aS,.i 0,.i 0,.s .nil])) (λx d=>by simp at d;obtain⟨i,j,e,rfl⟩:=d;exact⟨_,_,_,_,rfl,h _ e⟩) (c:=b) (b:=a) (by rw[f,List.flatMap_map]) (by simp[g])).done SZ.mono c bh bE;rwa[show(l.map λx=>(x.1,[Ce.s x.2,.i x.1.aS,.i 0,.i 0,.s .nil])).map (·.1)=l.map (·.1)by simp[Xl,Function.comp_def]]at H
end
end
section
def UY:List dy:=[xR [1] 0,xR [1,1] 1,xR [1] 1,xR [1,0] 1,xR [2,1] 1,xR [1,1] 0]
def Vd:List dy:=[xR [3] 0,xR [0] 1,xR [0,1] 1,xR [3,0] 3,xR [3] 1,xR [1,3,0] 0]
def OV:List dy:=[xR [0] 0,xR [0,0] 0,xR [1,0] 0,xR [0] 1]
def Qt:(∀q∈UY,(q.params,q.aS)∈Pk)/\(∀q∈Vd,(q.params,q.aS)∈Pk)/\∀q∈OV,(q.params,q.aS)∈Pk:=bh
def OJ{α:Type}{l:List α}{k:Nat}{x:α}(h:l[k]? =some x):l.set k x=l:=gU λi=>by
 rw[jD];split
 .rename_i e;subst e;rw[an (av h),h]
 .rfl
section
variable{b:List Nat}{c P:Nat}{d:O}{m:E}
def Ev(hS:∀j∈b,j<m.size)(s:c∈b)(I:Rd c d P m)(hP:P+10+4*(300+40*Cg 18)<=10^16):
 aN cg 239 [vp c 0] m λbz m'=>∃w aW y o,bz=.agg #[O.v w,O.v aW]/\cw (bG b m') w y/\WH (bG b m') aW o/\WJ y o/\Rd c d (P+10+4*(300+40*Cg 18)) m'/\Fz [c] m m':=by
 apply xh (c,0)
 unfold sa
 simp(config:={zeta:=false,maxSteps:=2000000}) only[aC,aB]
 have hr:=I.lt
 intro aa
 have x1:J m aa:=J.push _ _
 have s1:aa.size=m.size+1:=by simp[aa]
 clear_value aa
 have ao:∀j∈m.size::b,j<aa.size:=bO hS x1.size V
 refine(wh ao (by simp[s]) (I.ext x1) V).mono λ_ e⟨w,y,r,gd,aM,d2,f2⟩=>⟨f2.dv bE,w,r,?_⟩
 have z2:=f2.size
 have F2:=(x1.fz [c]).trans f2
 have aK:cw (bG (m.size::b) e) w y:=gd.done iK.mono ao bh (oh (pu y aM))
 intro m3 A
 obtain⟨x4,-,z4⟩:=kE (M:=e) (d:=m3) (c:=A) rfl rfl rfl
 clear_value A
 have h:∀{g:E},A.size<=g.size->∀j∈e.size::m.size::b,j<g.size:=λq=>bO (λj hc=>oh (ao j hc)) q V
 have LL:∀{g:E},A.size<=g.size->∀v∈[e.size,m.size],v<g.size:=λq=>bE
 refine rm (S:=e.size::m.size::b) [1] 0 (h V) (LL V) bh rfl rfl λa9 x5 i1=>?_
 have z5:=x5.size
 refine rm (S:=e.size::m.size::b) [1,1] 1 (h V) (LL V) bh rfl rfl λa2 x6 i2=>?_
 have z6:=x6.size
 refine rm (S:=e.size::m.size::b) [1] 1 (h V) (LL V) bh rfl rfl λa3 x7 i3=>?_
 have z7:=x7.size
 refine rm (S:=e.size::m.size::b) [1,0] 1 (h V) (LL V) bh rfl rfl λa4 x8 i4=>?_
 have z8:=x8.size
 refine rm (S:=e.size::m.size::b) [2,1] 1 (h V) (LL V) bh rfl rfl λa_ x9 i5=>?_
 have z9:=x9.size
 refine rm (S:=e.size::m.size::b) [1,1] 0 (h V) (LL V) bh rfl rfl λa6 aD i6=>?_
 have vu:=aD.size
 intro b1
 have y1:J a6 b1:=J.push _ _
 have X9:=x9.trans aD;have X8:=x8.trans X9;have X7:=x7.trans X8;have X6:=x6.trans X7
 have g1:pp (bG (e.size::m.size::b) b1) (.mk a6.size 0 6 6) UY:=Q3 [(xR [1] 0,.mk A.size 0 1 1),(xR [1,1] 1,.mk a9.size 0 2 2),(xR [1] 1,.mk a2.size 0 1 1),(xR [1,0] 1,.mk a3.size 0 2 2),(xR [2,1] 1,.mk a4.size 0 2 2),(xR [1,1] 0,.mk a_.size 0 2 2)] (h V) (by simp;exact⟨i1.le (X6.df _),i2.le (X7.df _),i3.le (X8.df _),i4.le (X9.df _),i5.le (aD.df _),i6⟩) aL rfl rfl
 have bK:b1.size=a6.size+1:=by simp[b1]
 clear_value b1
 have w1:=y1.size
 refine rm (S:=e.size::m.size::b) [3] 0 (h V) (LL V) bh rfl rfl λc1 u1 j1=>?_
 have v1:=u1.size
 refine rm (S:=e.size::m.size::b) [0] 1 (h V) (LL V) bh rfl rfl λc2 u2 j2=>?_
 have v2:=u2.size
 refine rm (S:=e.size::m.size::b) [0,1] 1 (h V) (LL V) bh rfl rfl λc3 u3 j3=>?_
 have v3:=u3.size
 refine rm (S:=e.size::m.size::b) [3,0] 3 (h V) (LL V) bh rfl rfl λc4 u4 j4=>?_
 have v4:=u4.size
 refine rm (S:=e.size::m.size::b) [3] 1 (h V) (LL V) bh rfl rfl λc5 u5 j5=>?_
 have v5:=u5.size
 refine rm (S:=e.size::m.size::b) [1,3,0] 0 (h V) (LL V) bh rfl rfl λc6 u6 j6=>?_
 have v6:=u6.size
 intro b2
 have y2:J c6 b2:=J.push _ _
 have U5:=u5.trans u6;have U4:=u4.trans U5;have U3:=u3.trans U4;have U2:=u2.trans U3
 have g2:pp (bG (e.size::m.size::b) b2) (.mk c6.size 0 6 6) Vd:=Q3 [(xR [3] 0,.mk b1.size 0 1 1),(xR [0] 1,.mk c1.size 0 1 1),(xR [0,1] 1,.mk c2.size 0 2 2),(xR [3,0] 3,.mk c3.size 0 2 2),(xR [3] 1,.mk c4.size 0 1 1),(xR [1,3,0] 0,.mk c5.size 0 3 3)] (h V) (by simp;exact⟨j1.le (U2.df _),j2.le (U3.df _),j3.le (U4.df _),j4.le (U5.df _),j5.le (u6.df _),j6⟩) aL rfl rfl
 have bL:b2.size=c6.size+1:=by simp[b2]
 clear_value b2
 have w2:=y2.size
 refine rm (S:=e.size::m.size::b) [0] 0 (h V) (LL V) bh rfl rfl λe1 t1 k1=>?_
 have q1:=t1.size
 refine rm (S:=e.size::m.size::b) [0,0] 0 (h V) (LL V) bh rfl rfl λe2 t2 k2=>?_
 have q2:=t2.size
 refine rm (S:=e.size::m.size::b) [1,0] 0 (h V) (LL V) bh rfl rfl λe3 t3 k3=>?_
 have q3:=t3.size
 refine rm (S:=e.size::m.size::b) [0] 1 (h V) (LL V) bh rfl rfl λe4 t4 k4=>?_
 have q4:=t4.size
 intro b3
 have y3:J e4 b3:=J.push _ _
 have T3:=t3.trans t4;have T2:=t2.trans T3
 have g3:pp (bG (e.size::m.size::b) b3) (.mk e4.size 0 4 4) OV:=Q3 [(xR [0] 0,.mk b2.size 0 1 1),(xR [0,0] 0,.mk e1.size 0 2 2),(xR [1,0] 0,.mk e2.size 0 2 2),(xR [0] 1,.mk e3.size 0 1 1)] (h V) (by simp;exact⟨k1.le (T2.df _),k2.le (T3.df _),k3.le (t4.df _),k4⟩) aL rfl rfl
 have bM:b3.size=e4.size+1:=by simp[b3]
 clear_value b3
 have w3:=y3.size
 refine rm (S:=e.size::m.size::b) [] 0 (h V) (LL V) bh rfl rfl λM0 x0 n0=>?_
 have z0:=x0.size
 have aG:=((((u1.trans U2).trans y2)).trans (t1.trans T2)).trans (y3.trans x0)
 have XM:J A M0:=((x5.trans X6).trans y1).trans aG
 have G1:=pp.le (aG.df _) g1
 have G2:=pp.le ((((t1.trans T2)).trans (y3.trans x0)).df _) g2
 have a8:=pp.le (x0.df _) g3
 have dM:Rd c d (P+1) M0:=(d2.ext x4).ext XM
 have L2:∀{g:E},A.size<=g.size->Lw c [e.size,m.size] g:=λq=>lw hr bE
 have bF:c∈e.size::m.size::b:=by simp[s]
 have l:∀{g M':E}{v W:Nat},A.size<=v->v<g.size->Fz [c] g M'->af M' v W=af g v W:=λh1 h2 N=>aJ (N.same _ h2 bE) _
 refine(cp dM V _).mono λ_ m5⟨r1,en,bu,aY,d5,f5⟩=>⟨(L2 V).dv f5,r1,en,bu,by simp at aY⊢;omega,?_⟩
 have ak:Le (bG (e.size::m.size::b) M0) (bG (e.size::m.size::b) m5):=f5.df (by simp[s])
 have bS:=f5.size
 let⟨K,aP⟩:=cG UY r1.toNat (by simp[UY]at aY⊢;omega)
 obtain⟨_,⟨pa,pn,pk,pz,rfl,pi⟩,pr⟩:=(pp.le ak G1).iA _ K aP
 have pg:=λt j q=>(eP.1 (pr t j q)).2
 refine⟨_,pg 0 _ rfl,_,pg 1 _ rfl,_,pg 2 _ rfl,_,pg 3 _ rfl,_,pg 4 _ rfl,?_⟩
 refine(cp d5 V _).mono λ_ m6⟨r2,en,bw,a0,d6,z⟩=>⟨(L2 V).dv z,r2,en,?_⟩
 have bT:=z.size
 have al:Le (bG (e.size::m.size::b) m5) (bG (e.size::m.size::b) m6):=z.df (by simp[s])
 let⟨p2,aR⟩:=cG Vd r2.toNat (by simp[Vd]at a0⊢;omega)
 obtain⟨_,⟨qa,qn,qk,qz,rfl,qi⟩,qr⟩:=(pp.le (ak.trans al) G2).iA _ p2 aR
 have qg:=λt j q=>(eP.1 (qr t j q)).2
 refine⟨l bE bE z,l bE bE z,l bE bE z,l bE bE z,l bE bE z,bw,by simp at a0⊢;omega,_,qg 0 _ rfl,_,qg 1 _ rfl,_,qg 2 _ rfl,_,qg 3 _ rfl,_,qg 4 _ rfl,?_⟩
 refine(cp d6 V _).mono λ_ f⟨r3,en,bx,a1,d7,p⟩=>⟨(L2 V).dv p,r3,en,?_⟩
 have bU:=p.size
 have am:Le (bG (e.size::m.size::b) m6) (bG (e.size::m.size::b) f):=p.df (by simp[s])
 let⟨p3,aS⟩:=cG OV r3.toNat (by simp[OV]at a1⊢;omega)
 obtain⟨_,⟨ra,rn,rk,rz,rfl,ri⟩,rr⟩:=(pp.le ((ak.trans al).trans am) a8).iA _ p3 aS
 have rg:=λt j q=>(eP.1 (rr t j q)).2
 refine⟨l bE bE p,l bE bE p,l bE bE p,l bE bE p,l bE bE p,l bE bE p,l bE bE p,l bE bE p,l bE bE p,l bE bE p,bx,by simp at a1⊢;omega,_,rg 0 _ rfl,_,rg 1 _ rfl,_,rg 2 _ rfl,_,rg 3 _ rfl,_,rg 4 _ rfl,?_⟩
 intro T
 have a5:J f T:=J.push _ _
 have bm:ap (bG (e.size::m.size::b) f) (.mk b3.size 0 0 0) []:=mD _ _ _ _ _ _
 have gf:Gr (e.size::m.size::b) f T fm 5 Pd (.mk f.size 0 4 4) [(xR [] 0,none),(K,none),(p2,none),(p3,none)]:=BP Pd.mono (h V) fm [((xR [] 0,none),[.s (.mk b3.size 0 0 0),.i 0,.i 0,.i 0,.s .nil]),((K,none),[.s pa,.i K.aS,.i pn,.i pk,.s pz]),((p2,none),[.s qa,.i p2.aS,.i qn,.i qk,.s qz]),((p3,none),[.s ra,.i p3.aS,.i rn,.i rk,.s rz])] (by simp;exact⟨⟨_,_,_,_,rfl,bm,aL⟩,⟨_,_,_,_,rfl,pi.le (al.trans am),aL⟩,⟨_,_,_,_,rfl,qi.le am,aL⟩,⟨_,_,_,_,rfl,ri,aL⟩⟩) rfl rfl
 have s8:T.size=f.size+1:=by simp[T]
 clear_value T
 let u:=[xR [] 0,K,p2,p3]
 have bB:f.size≠e.size:=V
 have be:∀ac∈u,(ac.params,ac.aS)∈Pk:=by
  simp only[u,aV,jW,BD];rintro ac (rfl|rfl|rfl|rfl)
  .simp[xR,Pk]
  .exact Qt.1 _ (aq aP)
  .exact Qt.2.1 _ (aq aR)
  .exact Qt.2.2 _ (aq aS)
 have a7:Fz [c] e f:=(((x4.trans XM).fz [c]).trans f5).trans (z.trans p)
 have aX:∀{g:E}{ag:O}{o:List (dy×Option Ex)}(W:Nat)(L:List Ce),Gr (e.size::m.size::b) f g fm 5 Pd ag o->Gr (e.size::m.size::b) f (ah g e.size W L) fm 5 Pd ag o:=λW L G=>G.Nu Pd.mono ((Fz.az [e.size] _).ah (Or.inl aL) W L) aL (by have:=G.bn;simp;omega)
 intro U
 have g9:Gr (e.size::m.size::b) f U fm 5 Pd (.mk f.size 0 4 4) [(xR [] 0,none),(K,none),(p2,none),(p3,none)]:=aX 1 [.s (.mk f.size 0 4 4)] gf
 have r9:Rs c d e (P+4) U:=(Rs.mk (a7.then a5) (d7.ext a5)).put d2 (ad _) 1 [.s (.mk f.size 0 4 4)]
 have s9:U.size=T.size:=aw _ _ _ _
 clear_value U
 intro ay
 have ai:J U ay:=J.push _ _
 have bp:ap (bG [c] ay) (.mk U.size 0 5 5) [4,4,3,2,4]:=ap.lit aA _ bE rfl rfl aL
 clear_value ay
 have bQ:=ai.size
 refine(kv (r9.r.ext ai) V bp aL).mono λ_ bq⟨mn,en,bl,ba,ae⟩=>⟨(L2 V).dv ae,mn,en,?_⟩
 have bR:=ae.size
 have bD:2<=mn/\mn<=4:=by simp at bl;omega
 obtain⟨n,rfl⟩:∃n:Nat,mn=n:=⟨mn.toNat,V⟩
 have bi:O.cut (.mk f.size 0 4 4) (Int.toNat 0) (Int.toNat n) 5=.mk f.size 0 n 4:=by simp[O.cut]
 rw[bi]
 refine⟨bh,V,bE,?_⟩
 intro ab
 have bc:Gr (e.size::m.size::b) f ab fm 5 Pd (.mk f.size 0 n 4) ([(xR [] 0,none),(K,none),(p2,none),(p3,none)].take n):=Gr.ZN bh (aX 1 [.s (.mk f.size 0 n 4)] ((g9.ext Pd.mono ai).eA Pd.mono ae (by simp[s];omega))) V
 have bv:Rs c d e (P+5) ab:=((r9.ext ai).to ae ba).put d2 (ad _) 1 [.s (.mk f.size 0 n 4)]
 have bI:ab.size=bq.size:=aw _ _ _ _
 clear_value ab
 have aT:(u.take n).length=n:=by simp[u];omega
 have gp:GP y (u.take n):=⟨aM,V,V,λac i=>be ac (dA i)⟩
 have ew:cT ((n:Int) -1)=n -1:=aQ V V
 rw[ew]
 refine⟨λN g=>∃(i:Nat)(o:List (dy×Option Ex)),N=(i:Int) -1/\i<=n/\Gr (e.size::m.size::b) f g fm 5 Pd (.mk f.size 0 n 4) o/\o.map (·.1)=u.take n/\(∀(t:Nat)(x:dy×Option Ex),o[t]? =some x->i<=t->∃r,x.2=some r/\XN y n x.1.params.length r)/\Rs c d e (P+5+(n -i)*(300+40*Cg 18)) g/\ab.size<=g.size,λN _=>(N+1).toNat,⟨n,_,rfl,ad _,bc,by rw[NV];rfl,λt x C q=>by have:=av C;simp at this;omega,by rw[Qk,Ql];exact bv,ad _⟩,?_⟩
 rintro N g ⟨i,o,rfl,bC,G,hl,ar,Y,zM⟩
 have bk:o.length=n:=by rw[<-aT,<-hl];simp
 have gy:=G.bn
 simp only[O.jA]at gy
 have aI:f.size∉e.size::m.size::b:=λq=>by have:=h (g:=A) (ad _) _ q;omega
 refine dit (λq=>?_) λq=>?_
 .obtain⟨i,rfl⟩:∃D,i=D+1:=⟨i -1,V⟩
  have ek:((i+1:Nat):Int) -1=(i:Int):=V
  rw[ek]
  let⟨x,Q⟩:=cG o i
  have au:(u.take n)[i]? =some x.1:=by rw[<-hl];simp[Q]
  have bo:pp (bG [c] g) (.mk f.size 0 n 4) (u.take n):=by
   have H:=G.nF Pd.mono aI bh V;rw[<-hl];refine⟨bE,H.cap,H.gS,λD aF hy=>?_⟩;simp only[cJ,jF]at hy;obtain⟨Z,R,rfl⟩:=hy;obtain⟨L,⟨F,i1,i2,i3,rfl,ha,-⟩,ax⟩:=H.iA D Z R;have aU:=iR g (S:=e.size::m.size::b) (c:=[c]) (by simp[s]);exact⟨_,⟨F,_,_,_,rfl,ha.le aU⟩,aU.iA ax⟩
  have bj:cw (bG [c] g) w y:=aK.le ((iR e (c:=[c]) (by simp[s])).trans (fh Y.f))
  have hB:(n -(i+1))*(300+40*Cg 18)+(300+40*Cg 18)=(n -i)*(300+40*Cg 18):=by rw[<-pW];congr 1;omega
  have bf:(n -i)*(300+40*Cg 18)<=4*(300+40*Cg 18):=dh _ V
  have bn:i=0->x.1.params.length=0:=λI=>by subst I;obtain⟨n',rfl⟩:∃n',n=n'+1:=⟨n -1,V⟩;simp[u]at au;rw[<-au];rfl
  have bg:∀j∈f.size::e.size::m.size::b,j<g.size:=bO (h (g:=g) V) (ad _) gy.2
  refine XP.kk (MK (f:=f.size::e.size::m.size::b) bg (by simp[s]) ⟨Y.r,bj,bo,gp⟩ V au bn) (L2 V) λag r M1 hs B bb aj=>?_
  have bN:=aj.size
  intro br az
  obtain⟨aE,-,bP⟩:=kE (M:=M1) (d:=br) (c:=az) rfl rfl rfl
  clear_value az
  have aH:=(G.eA Pd.mono aj (by simp[s];omega)).ext Pd.mono aE
  obtain⟨L,⟨F,i1,i2,i3,rfl,ha,-⟩,jt⟩:=aH.cells Q
  have bs:=jt 0 _ rfl;have bt:=jt 1 _ rfl
  refine⟨V,bE,F,bs,V,bE,_,bt,V,bE,?_⟩
  obtain⟨wr,gs,-,bH⟩:=aH.set Pd.mono (X:=List.range f.size) ⟨V,λv hb hn=>absurd (List.mem_range.2 hb) hn⟩ (k:=i) V (a:=(x.1,some r)) (cs:=[.s F,.i x.1.aS,.i r.op,.i r.bP,.s ag]) ⟨F,_,_,_,rfl,ha,λe' aO=>by simp at aO;subst aO;exact⟨rfl,rfl,fF.le (aE.df _) hs⟩⟩
  refine⟨wr,?_⟩
  intro aO
  have bJ:aO.size=az.size:=aw _ _ _ _
  have aZ:Rs c d e (P+5+(n -(i+1))*(300+40*Cg 18)+300+40*Cg 18) aO:=((Y.to aj bb).ext aE).put d2 (by show e.size<=f.size;omega) _ _
  refine⟨λv hb=>bd _ _ _ _ (by simp at hb;show v≠f.size;omega),⟨i,o.set i (x.1,some r),aQ V V,V,gs,?_,λt aF C bA=>?_,⟨aZ.f,aZ.r.mono V⟩,V⟩,?_⟩
  .rw[tT,OJ (by simp[Q]),hl]
  .rw[jD]at C
   split at C
   .rename_i e';subst e';rw[an V]at C;simp at C;subst C
    have:(u.take n).length=n:=aT
    rw[this]at B;exact⟨r,rfl,B⟩
   .exact ar t aF C V
  .rw[aQ V V];show((i:Int) -1+1).toNat<((i:Int)+1).toNat;omega
 .have I:i=0:=V
  subst I
  have aj:Le (bG (e.size::m.size::b) g) (bG b (ah g m.size 0 [.s w,.s (.mk f.size 0 n 4)])):=cA aL λj hc=>by simp[hc]
  have H:=G.nF Pd.mono aI bh V
  have bf:(n -0)*(300+40*Cg 18)<=4*(300+40*Cg 18):=dh _ V
  have C:Rs c d m (P+5+(n -0)*(300+40*Cg 18)) g:=⟨F2.trans Y.f,Y.r⟩
  have C:=C.put I (ad _) 0 [.s w,.s (.mk f.size 0 n 4)]
  have az:(o.map λx=>(x.1,x.2.getD (.mk 0 0 []))).map (·.1)=u.take n:=by rw[Xl,<-hl];rfl
  refine⟨w,.mk f.size 0 n 4,y,o.map λx=>(x.1,x.2.getD (.mk 0 0 [])),rfl,aK.le ((Y.f.df (by simp[s])).trans ((cA aL λj hc=>by simp[hc]))),⟨bE,H.cap,H.gS,λD aF hy=>?_⟩,⟨by rw[az];exact gp,λx Q=>?_⟩,C.r.mono V,C.f⟩
  .simp only[cJ,jF]at hy
   obtain⟨Z,R,rfl⟩:=hy
   let⟨r,B,hf⟩:=ar D Z R (dL _)
   obtain⟨L,⟨F,i1,i2,i3,rfl,ha,hb⟩,ax⟩:=H.iA D Z R
   obtain⟨rfl,rfl,au⟩:=hb r B
   exact⟨_,⟨F,i3,by simp[B],ha.le aj,by simp only[B,vo];exact fF.le aj au⟩,aj.iA ax⟩
  .simp only[Xm]at Q
   obtain⟨Z,R,rfl⟩:=Q
   let⟨D,F⟩:=List.mem_iff_getElem?.1 R
   let⟨r,B,hf⟩:=ar D Z F (dL _)
   simp only[B,vo,dY,bk];exact hf
end
end
structure O1(S:List Nat)(m0 m:E)(lb:Nat)(s:O)(l:List cV)(sc:Nat):Prop where
 box:cE m lb lD [.s s,.i sc]
 gr:GS (lb::S) m0 m s l
 up:m0.size<=lb
def O1.ext{S:List Nat}{c m b:E}{a d:Nat}{s:O}{l:List cV}(h:O1 S c m a s l d)(x:J m b):O1 S c b a s l d:=⟨h.box.ext x,h.gr.ext gD.mono x,h.up⟩
def O1.ne{S:List Nat}{b m:E}{a c:Nat}{s:O}{l:List cV}(h:O1 S b m a s l c):s.D≠a:=h.gr.ne h.box bh
def LoP(S:List Nat)(f m:E)(c:Nat)(s:O)(P:List cV->Nat->Prop)(d:E):Prop:=∃a b e,O1 S f d c a b e/\P b e/\Fz [c,s.D] m d/\(a.D=s.D\/m.size<=a.D)
def Lr{S:List Nat}{n e:E}{b f:Nat}{s w D:O}{l:List cV}{x:cV}(q:O1 S n e b s l f)(C:n.size<=e.size)(P:ap (bG (s.D::b::S) e) w x.args)(Q:nD (bG (s.D::b::S) e) D x.bC)(t:l.length<=1000000)(hs:f<=1000000):
 aN cg 313 [vp b 0,oW x w D] e λW T=>W=vi (f:Nat)/\LoP S n e b s (λc d=>c=l++[x]/\d=f+1) T:=by
 apply wo (b,0)
 simp -zeta only[aC,aB]
 intro i
 have k:J e i:=J.push _ _
 have s1:i.size=e.size+1:=by simp[i]
 clear_value i
 have g:=q.ext k
 have hy:=g.gr.bn
 have I:=g.box.lt
 have aa:=q.box.lt
 have ab:=q.gr.bn
 refine⟨s,g.box.bZ 0,?_⟩
 intro U
 have K:J i U:=J.push _ _
 refine⟨aJ (K.same _ I) _,?_⟩
 have g1:GS (b::S) (e.extract 0 n.size) i s l:=Gr.cx gD.mono g.gr (λL t=>Or.inl t) (by rw[me C];exact ad _)
 refine Gr.kH (g:=[.i 0,.i 0,.i 0,.s .nil,.s .nil]) (k:=x) gD.mono bh g1 (((J.MI C).trans k).fz []) ⟨w,D,rfl,P.le (k.df _),eS.le Q (k.df _) λ_ _=>rH.le (k.df _)⟩ V λp u G Z X F=>?_
 have A:cE u b lD [.s s,.i f]:=g.box.congr (F b I (kC g.ne))
 have R:=G.ne A bh
 refine⟨λc d=>?_,A.fJ aL,?_⟩
 .simp at d;subst d
  rw[F e.size V V,K.same _ V]
 intro j
 have B:cE j b lD [.s p,.i f]:=cE.ah (m:=u) (o:=0) (r:=[.s p]) A
 have y:∀c,c≠b->j[c]? =u[c]? :=λc d=>bd _ _ _ _ d
 have s4:j.size=u.size:=aw _ _ _ _
 have M:cT ((f:Int)+1)=(f+1:Nat):=by rw[aQ V V];rfl
 refine⟨λc d=>y c (by simp at d;omega),_,B.bZ 1,B.fJ aL,?_⟩
 rw[M]
 intro v
 have H:cE v b lD [.s p,.i (f+1:Nat)]:=cE.ah (m:=j) (o:=1) (r:=[.i (f+1:Nat)]) B
 have z:∀c,c≠b->v[c]? =j[c]? :=λc d=>bd _ _ _ _ d
 have s5:v.size=j.size:=aw _ _ _ _
 refine⟨λc d=>z c (by simp at d;omega),_,H.bZ 1,?_⟩
 have N:GS (b::S) n v p (l++[x]):=by
  refine Gr.cx gD.mono (G.re gD.mono (Y:=[b]) ⟨V,λc d h=>?_⟩ aL (by simp;exact R) λc d=>Or.inl d) (λL t=>Or.inl t) (by rw[me C];exact ad _);have:c≠b:=by simpa using h
  exact(z c this).trans (y c this)
 refine⟨by rw[aQ V V];congr 1;omega,p,_,_,⟨H,N,q.up⟩,⟨rfl,rfl⟩,⟨V,λc d h=>?_⟩,oh X.2⟩
 simp only[aV,jW,BD,vt]at h
 rw[z c h.1,y c h.1,F c V h.2,k.same c d]
section
variable{K D d b:Nat}{a:List cV}
structure LW(ds:List bz)(nf sc:Nat)(a:List cV)(K D sc':Nat):Prop where
 wl:WL ds nf False sc a
 dd:sc'=sc+dc a
 sz:sw a<=K
 oA:sc'<=sc+D
def LW.az(b:List bz)(c a:Nat):LW b c a [] 0 0 a:=⟨.nil _ _ _ _,aL,aL,V⟩
def LW.fg{c:List bz}{e f g:Nat}(h:LW c e f a K D g)(j:K<=d)(i:D<=b):LW c e f a d b g:=⟨h.wl,h.dd,oh h.sz,oh h.oA⟩
def LW.trans{e:List bz}{f i j k:Nat}{g:List cV}(h:LW e f i a K D j)(c:LW e f j g d b k):LW e f i (a++g) (K+d) (D+b) k:=
 ⟨h.wl.append (h.dd▸c.wl),by rw[c.dd,h.dd,cW];omega,by have:=h.sz;have:=c.sz;rw[dC];omega,O6 h.oA c.oA⟩
def LW.lJ{b:List bz}{c a:Nat}{x:cV}(h:WS b c False a x):LW b c a [x] x.w 1 (a+1):=⟨.lJ h,by rw[kK,sY,ZO h],by simp[sw],V⟩
section
variable{S:List Nat}{e m f:E}{c g j:Nat}{s i:O}{l h:List cV}
def O1.gF(h:O1 S e m c s l g)(d:J e m)(b:Fz [c,s.D] m f):J e f:=by
 have k:=h.gr.bn;have j:=h.up;exact Fz.ext (((d.fz [c,s.D]).trans b).DB λi a=>Or.inr (by simp at a;omega))
def O1.re{S' Y:List Nat}(h:O1 S e m c s l g)(j:Fz Y m f)(d:∀b∈Y,b∈S/\b≠c/\b≠s.D)(k:∀b∈S',b∈S\/m.size<=b):O1 S' e f c s l g:=
 ⟨h.box.congr (j.same _ h.box.lt λi=>(d _ i).2.1 rfl),h.gr.re gD.mono j (λb a=>ai _ (d b a).1) (λi=>(d _ i).2.2 rfl) λb a=>(List.mem_cons.1 a).elim (λi=>Or.inl (by rw[i];exact bg)) λa=>(k b a).imp (ai _) id,h.up⟩
end
structure LS(S:List Nat)(m0 m:E)(lb:Nat)(s:O)(l:List cV)(sc:Nat)(Mr:O)(ev:List Int):Prop where
 em:O1 S m0 m lb s l sc
 x:J m0 m
 gF:∀c∈S,c<m.size
 Mr:ap (bG [s.D,lb] m) Mr ev
 sm:∀y∈ev,0<=y/\y<(sc:Int)
def ZU(e:Ex)(t:O):Value:=.agg #[vi e.op,vi e.bP,O.v t]
def Uy(b:List bz)(h:Nat)(e:Ex):Prop:=∀(S:List Nat)(c m:E)(d:Nat)(s:O)(l:List cV)(f:Nat)(Mr:O)(ev:List Int)(g p t:O),LS S c m d s l f Mr ev->WX b h ev.length e->f+4*e.n<=2000->ev.length+4*e.n<=2000->l.length+4*e.n<=2000->cw c g b->dT b->fF c t e.bC->
 aN cg 280 [vp d 0,.agg #[O.v g,O.v p],ZU e t,O.v Mr] m λv k=>∃r:Int,v=vi r/\LoP S c m d s (λj i=>∃a,j=l++a/\LW b h f a (3*e.n -1) e.n i/\0<=r/\r<(i:Int)) k
def ZD(a:List bz)(f:Nat)(e:Ex):Prop:=∀(S:List Nat)(m:E)(b:Nat)(Mr:O)(ev:List Int)(d p t:O),(∀c∈S,c<m.size)->ap m Mr ev->(∀y∈ev,0<=y/\y<(b:Int))->WX a f ev.length e->b+4*e.n<=2000->ev.length+4*e.n<=2000->cw m d a->dT a->fF m t e.bC->
 ns 251 [.agg #[O.v d,O.v p],ZU e t,O.v Mr,vi b] m S λc=>WB a f False b c/\c.w<=3*e.n
def _root_.Go.Vc.Ex.Nv(e:Ex):1<=e.n:=by rw[Ex.Yw];omega
def Dp{s:List bz}{w:Nat}{e:Ex}(k:Uy s w e):ZD s w e:=by
 intro i v n Mr ev C R X t H L N ab Z hd M I;apply yQ;simp -zeta only[aC,aB];intro P f b c d;let⟨g,hl,s1,s2,s3⟩:=p7 (a:=P) (b:=f) (c:=b) rfl rfl rfl;have p:J b c:=J.push _ _;have W:c.size=b.size+1:=by simp[c]
 have F:GS ((b.size+1)::f.size::i) b c (.mk b.size 0 0 0) []:=Gr.new _ (ad _) _ _ _;have h:J c d:=J.push _ _;have z:cE d c.size lD [.s (.mk b.size 0 0 0),.i n]:=cE.push _ _ _;clear_value d c b;have Y:=g;have q:=(g.trans p).trans h;have z5:=h.size;have G:∀r∈f.size::i,r<d.size:=bO t q.size V;have O:O1 (f.size::i) b d c.size (.mk b.size 0 0 0) [] n:=⟨z,W▸F.ext gD.mono h,V⟩;have hp:=e.Nv;refine(k (f.size::i) b d c.size _ [] n Mr ev C R X ⟨O,p.trans h,G,(H.le (((g.trans p).trans h).bG (S:=[]) bE|>λk=>(zW v).trans k)),L⟩ N V V bE (hd.le g.le) M (fF.le g.le I)).mono λae Q⟨x,E,y,m,ac,o6,⟨a,D,o,T,U⟩,j,b6⟩=>?_;subst D;have z6:=j.size;have A:J v Q:=Fz.ext (((q.fz [c.size,b.size]).trans j).DB λB l=>by simp at l;omega);refine⟨j.dv λB l=>by simp at l;simp;omega,x,E,y,o6.box.bZ 0,?_⟩;intro m7;have hz:=o.sz;have aa:=fY m;refine⟨y,.mk m x,rfl,eO.le (cA aL λr u=>by simp[u]) (o6.gr.nF gD.mono (λu=>?_) bh (by show m.length<=_;omega)),⟨WB.of o.wl ⟨T,by rw[<-o.dd];exact U⟩,by rw[Bk.qG];omega⟩,A.ah V _ _⟩;have hy:=o6.gr.bn;have K:=o6.ne;simp only[aV]at u;rcases u with e|e|e
 .exact K e
 .omega
 .have:=t _ e;omega
end
section
variable{M c:E}{a:Nat}
def Px{m:E}{t:O}{l:List Ex}(h:fF m t l){k:Nat}{x:Ex}(f:l[k]? =some x)(a:J m M):∃u,fF m u x.bC/\af M t.D (t.off+k*3)=some (vi x.op)/\af M t.D (t.off+k*3+1)=some (vi x.bP)/\af M t.D (t.off+k*3+2)=some (O.v u):=
 let⟨u,b,c,d,e⟩:=h.aF f;⟨u,b,a.af c,a.af d,a.af e⟩
def gx(x:J M c){o:Nat}{v:Value}(h:af M a o=some v):af c a o=af M a o:=by rw[x.af h,h]
def gl(x:J M c)(h:a<M.size)(o:Nat):af c a o=af M a o:=aJ (x.same a h) o
def TO{q:List bz}{nf:Nat}{p bP:Int}{bC:List Ex}(ih:∀t∈bC,Uy q nf t):Uy q nf (.mk p bP bC):=by
 intro u W D d A aa sc Mr ev al an bu e hw bs bj bp hd ht hk;have N:=hw.aT;simp only[ZU,Ex.VQ,Ex.TS,Ex.RD,Ex.Sn]at*;apply ub (d,0);simp -zeta only[aC,aB];intro am s;let⟨G,hl⟩:=dD (a:=am) (c:=s) rfl rfl;have s1:am.size=D.size+1:=by simp[am]
 have s2:s.size=D.size+2:=by simp[s,s1]
 clear_value s;have aS:=hk.len;have bn:=hk.gS;have bo:=e.em.box.lt;have h:=e.em.gr.bn;have bq:=e.em.ne;have df:∀{M:E}{f:O},Fz [d,A.D] D M->(f.D=A.D\/D.size<=f.D)->Le (bG [A.D,d] D) (bG [f.D,d] M):=λab g=>pA λa aF hn=>by
  simp at hn;exact⟨by simp;rcases g with t|t<;>omega,ab.same a aF bE⟩
 have st:∀{aw:List Nat}{M:E}{f:O}{l':List cV}{F:Nat},O1 aw W M d f l' F->Fz [d,A.D] D M->(f.D=A.D\/D.size<=f.D)->(∀l∈aw,l<M.size)->sc<=F->LS aw W M d f l' F Mr ev:=λah ab g hS hs=>⟨ah,e.em.gF e.x ab,hS,e.Mr.le (df ab g),λy h=>⟨(e.sm y h).1,oh ((e.sm y h).2)⟩⟩;have dv:∀{M c:E}{f:O},s.size<=M.size->(f.D=A.D\/s.size<=f.D)->Fz [d,f.D] M c->eF [am.size,D.size] M c:=λhz g ab=>ab.dv λa aF=>by simp at aF;simp;omega
 have ak:∀{M c:E},s.size<=M.size->J M c->eF [am.size,D.size] M c:=λhz bd=>bd.dv λa g=>by simp at g;omega
 have fr:∀{M c:E}{f:O},Fz [d,A.D] D M->(f.D=A.D\/s.size<=f.D)->Fz [d,f.D] M c->Fz [d,A.D] D c:=λab g L=>ab.rV L λy h=>by simp at h⊢;omega
 refine⟨λao=>?_,λao=>⟨λag=>?_,λag=>⟨λar=>?_,λar=>?_⟩⟩⟩
 .simp only[aG]at ao;let⟨j,o⟩:=N.1.Ud ao;have k:=e.Mr.len;let⟨y,v⟩:=cG ev bP.toNat;have i:=e.sm y (aq v);exact⟨j,V,y,(eP.1 ((e.Mr.le (G.df _)).aF v)).2,y,rfl,A,aa,sc,e.em.ext G,⟨[],aL,(LW.az q nf sc).fg V V,i⟩,G.fz _,Or.inl rfl⟩
 .simp only[aG]at ag;have h2:=N.1.Ka ag;let⟨T,U⟩:=cG bC 0;let⟨j,i⟩:=cG bC 1;have aO:en bC=T.n+j.n:=by
   obtain⟨w,a,rfl⟩:∃w a,bC=[w,a]:=by
    match bC,h2 with
    |[w,a],_=>exact⟨w,a,rfl⟩
   simp at U i;subst U i;simp[en]
  have p0:=T.Nv;have p1:=j.Nv;let⟨u0,aJ,g0,g1,g2⟩:=Px hk U (e.x.trans G);refine⟨bh,V,_,g0,_,g1,_,g2,?_⟩;have S2:=st (e.em.ext G) (G.fz _) (Or.inl rfl) (λl r=>oh (e.gF l r)) (ad _);refine(ih T (aq U) u W s d A aa sc Mr ev al an u0 S2 (by have:=N.2 0 T U;simpa[xb]using this) V V V hd ht aJ).mono λR o⟨P,az,H,l3,Q,o3,⟨af,ay,Z,bb,bc⟩,f3,b3⟩=>⟨dv (ad _) (Or.inl rfl) f3,P,az,?_⟩;subst ay;have F3:=fr (G.fz _) (Or.inl rfl) f3;have z3:=f3.size;have X3:=e.em.gF e.x F3;let⟨u1,aD,k0,k1,k2⟩:=Px hk i X3;have a1:=Z.oA;have a8:=fY af;have ba:=Z.sz;refine⟨bh,V,_,k0,_,k1,_,k2,?_⟩;have S3:=st o3 F3 V (λl r=>oh (e.gF l r)) (oh Z.dd);have z:∀l∈[H.D,d],l<o.size:=λl r=>by have:=o3.gr.bn;have:=o3.box.lt;simp at r;omega
  intro C;have k:J o C:=J.push _ _;have aE:ap (bG [H.D,d] C) (.mk o.size 0 1 1) [P]:=ap.lit aA _ z rfl rfl aL;clear_value C;refine⟨gx k k0,gx k k1,gx k k2,gl k V _,gl k V _,gl k V _,?_⟩;have z4:=k.size;refine(eN (S:=[H.D,d]) (λl r=>k.lt (z l r)) (S3.Mr.le (k.df _)) aE bE).mono λR m5⟨I,l5,e5,g5,q5,B⟩=>⟨ak V B,I,e5,gx B (k.af k0),gx B (k.af k1),gx B (k.af k2),gl B V _,gl B V _,gl B V _,?_⟩;subst q5;have z5:=B.size;have S5:LS u W m5 d H (aa++af) Q I (ev++[P]):=⟨(o3.ext k).ext B,(X3.trans k).trans B,λl r=>oh (e.gF l r),GI.done g5 (λl r=>k.lt (z l r)) bE,λy h=>by
   rcases List.mem_append.1 h with h|h
   .have:=e.sm y h;have:=Z.dd;omega
   .simp at h;omega⟩
  refine(ih j (aq i) u W m5 d H (aa++af) Q I (ev++[P]) al an u1 S5 (by have:=N.2 1 j i;simpa[xb,ag]using this) V bE bE hd ht aD).mono λR m6⟨r1,au,s6,l6,aN,o6,⟨aH,ac,w6,aK,aM⟩,K,b6⟩=>⟨dv V V K,r1,au,r1,rfl,s6,l6,aN,o6,⟨af++aH,by rw[ac,fC],(Z.trans w6).fg V V,aK,aM⟩,fr ((F3.then k).then B) V K,V⟩
 .simp only[bQ,aG]at ar;have h3:p=7->bC.length=3:=N.1.Y9;have aE:p=8->bC.length=1+(cy q bP).length/\0<(cy q bP).length:=N.1.all;have a5:1<=bC.length:=by rcases ar with i|i;have:=h3 i;omega;have:=aE i;omega
  let⟨T,U⟩:=cG bC 0;have bk:en (bC.take 1)=T.n:=by have:=Kc U;simpa using this
  have bl:=Rv bC 1;have p0:=T.Nv;let⟨u0,aJ,g0,g1,g2⟩:=Px hk U (e.x.trans G);refine⟨bh,V,_,g0,_,g1,_,g2,?_⟩;have S2:=st (e.em.ext G) (G.fz _) (Or.inl rfl) (λl r=>oh (e.gF l r)) (ad _);refine(ih T (aq U) u W s d A aa sc Mr ev al an u0 S2 (by have:=N.2 0 T U;simpa[xb]using this) V V V hd ht aJ).mono λR o⟨P,az,H,l3,Q,o3,⟨af,ay,Z,bb,bc⟩,f3,b3⟩=>⟨dv (ad _) (Or.inl rfl) f3,P,az,?_⟩;subst ay;have F3:=fr (G.fz _) (Or.inl rfl) f3;have z3:=f3.size;have X3:=e.em.gF e.x F3;have a1:=Z.oA;have a8:=fY af;have ba:=Z.sz;have S3:=st o3 F3 V (λl r=>oh (e.gF l r)) (oh Z.dd);have aD:∀l∈H.D::d::u,l<o.size:=bO (bO (m:=D) e.gF V o3.box.lt) (ad _) o3.gr.bn.2;intro C;have k:J o C:=J.push _ _;have g4:GB (H.D::d::u) o C (.mk o.size 0 0 0) []:=GB.new _ o;have s4:C.size=o.size+1:=by simp[C]
  clear_value C;refine(il (e:=[o.size]) bE (hd.le (X3.trans k).le) ht bP).mono λR m5⟨cs,cl,ec,r,qc,B⟩=>⟨ak V B,cs,ec,?_⟩;subst qc;have bi:=r.len;have z5:=B.size;refine QG (a:=bC.length) (aS▸hk.gS) a5 (λj ks M=>∃z,GB (H.D::d::u) o M ks z/\z.length+1=j/\(∀(ac:Nat)(a:Bk),z[ac]? =some a->WB q nf False (Q+BG q p bP ac) a)/\bw z+3*T.n<=3*en (bC.take j)/\J o M/\Fz [o.size] m5 M/\(ks.D=o.size\/m5.size<=ks.D)) ⟨[],g4.ext rH.mono B,rfl,aL,bE,k.trans B,Fz.az _ _,Or.inl rfl⟩ ?_;rintro j ks M aX μ bm hj ⟨z,L,a7,aT,a2,xM,fM,aR⟩ aK
  have zM:=xM.size;have aP:=L.bn;have oM:=o3.box.ext xM;refine dit (λi=>?_) λi=>?_
  .have ew:cT ((j:Int) -1)=((j -1:Nat):Int):=by rw[aQ V V];omega
   refine⟨λaU c=>J M c/\aU=(BG q p bP (j -1):Nat),⟨λh8=>?_,λh8=>⟨J.az _,by simp only[aj]at h8;rw[Kv h8];rfl⟩⟩,?_⟩
   .simp only[aG]at h8;have ha:=aE h8;let⟨y,v⟩:=cG (cy q bP) (j -1);rw[ew];refine⟨V,V,y,(eP.1 ((r.le (fM.df aL)).aF v)).2,?_⟩;refine(dI (e:=[]) aL (hd.le ((X3.trans xM).le.trans (zW _))) ht y).mono λR m6⟨K,l6,e6,h6,q6,I⟩=>⟨ak V I,K,e6,I,?_⟩;subst q6;rw[Ku h8 v,h6.len]
   rintro aU m6 ⟨I,rfl⟩;let⟨t,he⟩:=cG bC j;have X6:=(X3.trans xM).trans I;let⟨aN,hu,k0,k1,k2⟩:=Px hk he X6;have B6:=oM.ext I;have z6:=I.size;refine⟨V,V,_,k0,_,k1,_,k2,_,B6.bZ 1,_,B6.bZ 1,?_⟩;have bf:=Qv ht p bP (j -1);have a4:=Kc he;have a3:=Rv bC (j+1);have a9:=t.Nv;refine(lV (S:=[]) (d:=m6) aL Q (BG q p bP (j -1)) V).mono λR m7⟨s7,l7,e7,g7,q7,v⟩=>⟨ak V v,s7,e7,gx v (B6.bZ 1),gx v k0,gx v k1,gx v k2,gl v V _,gl v V _,gl v V _,?_⟩;have z7:=v.size;have a0:ap (bG [] m7) Mr ev:=(S3.Mr.le ((((xM.trans I).trans v).df _).trans (bA _ _))).le (zW _);refine(eN (S:=[]) aL a0 (GI.done g7 aL V) V).mono λR m8⟨s8,l8,e8,g8,q8,K⟩=>⟨ak V K,s8,e8,gx K ((B6.ext v).bZ 1),gx K (v.af k0),gx K (v.af k1),gx K (v.af k2),gl K V _,gl K V _,gl K V _,?_⟩;subst q8;have z8:=K.size;have a6:(ev++l7).length=ev.length+BG q p bP (j -1):=by simp;exact q7.2
   rw[aQ (b:=(Q:Int)+(BG q p bP (j -1):Nat)) V V,show(Q:Int)+(BG q p bP (j -1):Nat)=((Q+BG q p bP (j -1):Nat):Int)by omega];have au:=(I.trans v).trans K;have a_:WX q nf (ev++l7).length t:=by
    have:=N.2 j t he;rw[a6];obtain⟨j',rfl⟩:∃j',j=j'+1:=⟨j -1,V⟩;have aY:xb q p bP (j'+1)=BG q p bP j':=ae (by simpa using ag);rwa[aY]at this
   refine(Dp (ih t (aq he)) (ks.D::H.D::d::u) m8 _ s8 (ev++l7) al an aN (bO (λl r=>oh (aD l r)) (ad _) V) ((GI.done g8 aL V).le (bA _ _)) (λy h=>?_) a_ V V (hd.le ((X6.trans v).trans K).le) ht (fF.le ((X6.trans v).trans K).le hu)).mono λR m9⟨s9,b9,e9,h9,q9,x9⟩=>⟨ak V x9,s9,_,e9,?_⟩
   .rcases List.mem_append.1 h with h|h
    .have:=S3.sm y h;omega
    .have:=q7.1 y h;omega
   intro bt;have z9:=x9.size;have bg:=qb z;refine GB.kH (c:=b9) ((L.ext rH.mono au).ext rH.mono x9) (((xM.trans au).trans x9).fz []) h9 V λaM c g' f' z' q'=>⟨λa g=>by
    have aO:a<o.size:=by simp at g;omega
    rw[f'.ext.same a aO,(((xM.trans au).trans x9).aK _).same a aO],aK V _ _ ⟨_,g',by rw[be,List.length_singleton];omega,λac a hi=>?_,?_,f'.ext,(fM.then (au.trans x9)).rV (Y:=[ks.D]) ⟨z'.1,λa g hn=>q' a g (by simpa using hn)⟩ (λy h=>by simp at h⊢;omega),oh fM.size⟩⟩
   .rcases aW ac z.length with aH|aH
    .rw[ax aH]at hi;exact aT ac a hi
    .rw[aI aH]at hi;have:ac -z.length=0:=by have:=av hi;simp at this;omega
     rw[this]at hi;simp at hi;subst hi;have:ac=j -1:=V;subst this;exact q9.1
   .rw[oN,uo,zy];have:=q9.2;omega
  .have K:j=bC.length:=V;subst K;rw[fu]at a2;intro m6;have I:J M m6:=J.push _ _;have aU:ap (bG (H.D::d::u) m6) (.mk M.size 0 1 1) [P]:=ap.lit aA _ (λl r=>oh (aD l r)) rfl rfl aL;have z6:=I.size;have aR:nD (bG (H.D::d::u) m6) ks z:=nD.le (I.df _) (L.done rH.mono aD bh (oh (qb z)));clear_value m6;have X6:=xM.trans I;refine(Lr (x:=⟨p,bP,0,[P],z⟩) (o3.ext X6) (X3.trans X6).size aU aR bE V).mono λR m7⟨aO,s7,l7,aY,o7,⟨au,aH⟩,v,b7⟩=>⟨dv V V v,Q,aO,Q,rfl,s7,l7,aY,o7,⟨af++[⟨p,bP,0,[P],z⟩],by rw[au,fC],?_,V,V⟩,fr (F3.then X6) V v,V⟩;have ws:WS q nf False Q ⟨p,bP,0,[P],z⟩:=⟨⟨Or.inl (by show 0<=p/\p<=11;omega),bE,λ_=>rfl,⟨by show(0:Int)<=0;omega,by show(0:Int)<=_;omega⟩,λi=>by show z.length=2;have:=h3 i;omega,λi=>by show z.length=(cy q bP).length/\0<z.length;have:=aE i;omega,λi=>by simp only at i;omega⟩,aT⟩;subst aH;exact(Z.trans (LW.lJ ws)).fg (by rw[cV.mr];simp only[aZ,eV];omega) V
 .simp only[br,aj]at ar;simp only[aj]at ao ag;have ho:=N.1.o;intro o;have x3:J s o:=J.push _ _;have g3:GI [] s o (.mk s.size 0 0 0) []:=GI.nil [] s;have aR:o.size=s.size+1:=by simp[o]
  clear_value o;have o3:O1 (s.size::u) W o d A aa sc:=(e.em.ext G).re (x3.fz []) aL λa g=>(List.mem_cons.1 g).elim (λi=>Or.inr V) Or.inl;refine ez (n:=bC.length) (aS▸hk.gS) (λj w M=>∃f F r l,O1 (w.D::u) W M d f (aa++r) F/\LW q nf sc r (3*en (bC.take j) -j) (en (bC.take j)) F/\GI [] s M w l/\l.length=j/\(∀y∈l,0<=y/\y<(F:Int))/\Fz [d,A.D] D M/\(f.D=A.D\/s.size<=f.D)/\s.size<=M.size) ⟨A,sc,[],[],by simpa using o3,(LW.az q nf sc).fg (dL _) (dL _),g3,rfl,aL,(G.trans x3).fz _,Or.inl rfl,V⟩ ?_;rintro j w M aX μ hj ⟨f,F,r,l,ah,v,L,a7,T,fM,g,zM⟩ aK
  have H:=e.em.gF e.x fM;have af:=v.oA;have aH:=v.dd;have aP:=L.bn;have B:w.D≠d:=L.ne ah.box bh;have Lb:w.D≠f.D:=L.Lb ah.gr bh;have aO:=fY r;have ay:=v.sz;have a3:=Rv bC j;refine dit (λi=>?_) λi=>?_
  .let⟨t,he⟩:=cG bC j;let⟨aN,hu,k0,k1,k2⟩:=Px hk he H;have a4:=Kc he;have aJ:=Rv bC (j+1);have a9:=t.Nv;have au:=QC (bC.take j);rw[gH,jb V]at au;refine⟨V,V,_,k0,_,k1,_,k2,?_⟩;have SM:=st ah fM V (bO (m:=D) e.gF V aP.2) V;refine(ih t (aq he) (w.D::u) W M d f (aa++r) F Mr ev al an aN SM (by have:=N.2 j t he;rwa[Zc V V]at this) V V bE hd ht hu).mono λR C⟨aM,er,s4,l4,aE,U,⟨aD,ac,Z,P,r1⟩,z,b4⟩=>⟨dv zM g z,aM,er,?_⟩;subst ac;have z4:=z.size;have F4:=fr fM g z;intro m5;have Q:GI [] s C w l:=GI.any (c:=[d,f.D]) ((GI.any (e:=[d,f.D]) L).Nu tV.mono z (λ_ i=>i) (by simp;exact⟨B,Lb⟩));have az:w.D≠s4.D:=Q.Lb U.gr bh;refine GI.kH Q (X:=List.range s.size) ⟨V,λa g hn=>absurd (List.mem_range.2 g) hn⟩ aL V λa' c g' f' z' q'=>?_;have I:Fz [w.D] C c:=⟨z'.1,λa g hn=>q' a g (by simpa using hn)⟩;refine⟨λa g=>?_,aK V _ _ ⟨s4,aE,r++aD,l++[aM],?_,(v.trans Z).fg V V,g',bE,λy h=>?_,F4.rV I λy h=>by simp at h⊢;omega,V,V⟩⟩
   .simp at g;rw[q' a V V,(J.push C _).same a V]
   .rw[<-fC];exact U.re I (by simp;exact⟨B,az⟩) λa g=>(List.mem_cons.1 g).elim (λt=>by subst t;rcases z'.2 with t|t;exact Or.inl (by simp[t]);exact Or.inr t) λi=>Or.inl (ai _ i)
   .have:=Z.dd;rcases List.mem_append.1 h with h|h
    .have:=T y h;omega
    .simp at h;omega
  .have K:j=bC.length:=V;subst K;rw[fu]at v af ay;have au:=QC bC;intro C;have k:J M C:=J.push _ _;have Q:w.D∉f.D::d::u:=by
    simp only[aV,vt];exact⟨Lb,B,λi=>oh (e.gF _ i)⟩
   have ha:ap (bG (f.D::d::u) M) w l:=(GI.any (e:=f.D::d::u) L).nF tV.mono Q bh V;have U:O1 u W M d f (aa++r) F:=ah.re (Fz.az [] _) aL λa g=>Or.inl (ai _ g);have z4:=k.size;refine(Lr (x:=⟨p,bP,0,l,[]⟩) (U.ext k) (H.trans k).size (ha.le (k.df _)) (mD _ _ _ _ _ _) bE V).mono λR m5⟨P,Z,l5,ac,o5,⟨z,I⟩,t,b5⟩=>⟨dv V g t,F,P,F,rfl,Z,l5,ac,o5,⟨r++[⟨p,bP,0,l,[]⟩],by rw[z,fC],?_,V,V⟩,fr (fM.then k) g t,V⟩;have ws:WS q nf False F ⟨p,bP,0,l,[]⟩:=⟨⟨Or.inl (by show 0<=p/\p<=11;omega),T,λi=>by simp only at i;omega,⟨by show(0:Int)<=0;omega,by show(0:Int)<=_;omega⟩,λi=>by simp only at i;omega,λi=>by simp only at i;omega,N.1.call⟩,aL⟩;subst I;exact(v.trans (LW.lJ ws)).fg (by rw[cV.mr];simp only[zy];omega) V
def TP{a:List bz}{c:Nat}:∀e:Ex,Uy a c e:=Ex.ind λ_ _ _ b=>TO b
end
end Go.Proofs.YtkicoahejfbjhaaGreat
