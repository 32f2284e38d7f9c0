/- Part of a proof, joined by a program. -/
import Derived.Test.YtgnjacfobdjeeaaGreatW12
import Derived.Test.YtgnjacfobdjeeaaGreatW13
import Derived.Test.YtgnjacfobdjeeaaGreatW14
set_option linter.unusedVariables false
set_option linter.unusedSimpArgs false
set_option linter.defProp false
set_option linter.constructorNameAsVariable false
set_option maxHeartbeats 8000000
set_option maxRecDepth 100000
namespace Go.Proofs.YtgnjacfobdjeeaaGreat
open Go.Vc
section
variable{b:List gC}
def KL{F:List bB}{i:cR}(cm:i.op=7\/i.op=8)(ih:∀c∈i.bE,V0 F b c):WW F b i:=by
 intro C H G d s A cons first cl fl a5 bb aJ al j ax cu cE t ha hk
 apply tS (d,0);simp -zeta only[aD,aC];intro az ae;obtain⟨x2,hl⟩:=dG (a:=az) (c:=ae) rfl rfl;have s1:az.size=G.size+1:=by simp[az]
 have s2:ae.size=G.size+2:=by simp[ae,s1]
 clear_value ae;have cx:=j.em.box.lt;have cP:=j.em.gr.bg;have cO:=cR.mf i;have cn:=ha.len;have cC:=hk.len;have cB:=pY i.bE;have cI:=ax.eR.kK V;have cv:=j.cons.len;have cG:=j.x.size;have da:∀{f:I}{g:O},Fz [d,s.F] G f->(g.F=s.F\/G.size<=g.F)->Le (bO [s.F,d] G) (bO [g.F,d] f):=PW;have st:∀{a4:List Nat}{f:I}{g:O}{Q:List Instr},EE a4 H f d g Q->Fz [d,s.F] G f->(g.F=s.F\/G.size<=g.F)->(∀o∈a4,o<f.size)->Q8 a4 H f d g Q cons first cl fl:=λw L e hS=>⟨w,j.em.fX j.x L,hS,j.cons.le (da L e),j.first.le (da L e),j.same,j.lE⟩
 have LL:∀{f:I}{g:O},ae.size<=f.size->(g.F=s.F\/ae.size<=g.F)->∀c∈[az.size,G.size],c<f.size/\c≠d/\c≠g.F:=λhz e c a7=>by simp at a7;omega
 have fr:∀{f r:I}{g:O},Fz [d,s.F] G f->(g.F=s.F\/ae.size<=g.F)->Fz [d,g.F] f r->Fz [d,s.F] G r:=λL e ab=>L.rS ab λB p=>by simp at p⊢;omega
 have fX:∀{f:I},G.size<=f.size->∀o∈C,o<f.size:=λh o hc=>by have:=j.fX o hc;omega
 have aI:∀{y:Nat}{c:Bk}{f:I},i.bE[y]? =some c->J H f->∃N,eI H N c.aA/\af f al.F (al.off+y*2)=some (O.v N)/\af f al.F (al.off+y*2+1)=some (vi c.aV):=λe bf=>let⟨N,h1,h2,h3⟩:=hk.E e;⟨N,h1,bf.af h2,bf.af h3⟩;refine⟨λh7=>?_,λh7=>?_⟩
 ·simp only[aF]at h7;have aP:=ax.eR.JA h7;obtain⟨E,P⟩:=ag (l:=i.bE) (k:=0) V;obtain⟨W,T⟩:=ag (l:=i.bE) (k:=1) V;have bU:bw i.bE=E.w+W.w:=by
   obtain⟨u,z,m⟩:∃u z,i.bE=[u,z]:=by
    match i.bE,aP with
    |[u,z],_=>exact⟨u,z,rfl⟩
   rw[m]at P T⊢;simp at P T;subst P T;simp[bw]
  have w0:=E.Gq;have w1:=W.Gq;have ac:∀y,Be F i.op i.bN y=0:=λy=>JV V;have E2:=j.ext x2;refine(bP (s.F::d::C) (ha.ext E2.x) V).mono λz R⟨a',la,m,ga,ea,x3⟩=>⟨x3.dm hl,a',m,?_⟩;subst ea;have z3:=x3.size;have aR:∀o∈s.F::d::C,o<ae.size:=bR (bR (fX (f:=ae) V) V V) (ad _) V;refine(qv (x:=⟨20,0,0,0,i.args,[]⟩) (E2.em.ext x3) (E2.x.trans x3).size (GI.done ga aR (by show i.args.length<=_;omega)) (sZ _) V).mono λz m4⟨ev,s4,l4,aw,p4,f4,b4⟩=>⟨Ok.dm f4 (LL z3 (Or.inl rfl)),_,ev,?_⟩;subst p4;have z4:=f4.size;have F4:Fz [d,s.F] G m4:=((x2.trans x3).fz _).trans f4;have w4:Dc (λ_=>False) A (A++[⟨20,0,0,0,i.args,[]⟩]) 1:=(mK.kK ⟨λh=>by simp at h,λh=>by simp at h⟩ ⟨by show i.args.length<=_;omega,D⟩).w;obtain⟨t0,aS,g0,g1⟩:=aI P (j.em.fX j.x F4);refine⟨bh,V,_,g0,_,g1,?_⟩;have ah:=ax.bE 0 E P;rw[ac]at ah;have aW:=w4.len;refine(ih E (ar P) C H m4 d s4 _ cons first cl fl a5 bb t0 (st aw F4 V (fX V)) (by simpa using ah) V V t aS).mono λz v⟨s5,l5,a6,p5,f5,b5⟩=>⟨Ok.dm f5 (LL V V),?_⟩;have F5:=fr F4 V f5;have z5:=f5.size;have w5:=w4.then p5;have X5:=j.em.fX j.x F5;obtain⟨_,-,-,g5⟩:=aI P X5;refine⟨bh,V,_,g5,?_⟩;have aX:=w5.len;refine Hh a6 X5 (fX V) V (LL V V) λs6 U m6 ay e6 f6 b6=>?_;have F6:=fr F5 V f6;have z6:=f6.size;have w6:Dc (λ_=>False) A U (1+6*(E.w -1)+1):=e6▸w5.then Qj;have aY:=w6.len;have a8:U.length=l5.length+1:=by rw[e6];simp
  have X6:=j.em.fX j.x F6;refine SH ay X6 V (LL V V) λs7 l7 m7 aA e7 f7 b7=>?_;have F7:=fr F6 V f7;have z7:=f7.size;have w7:Dc (λq=>q=U.length) A l7 (1+6*(E.w -1)+1+1):=e7▸(w6.imp (λ_ h=>h.elim) (ad _)).LO rfl;have a9:l7.length=U.length+1:=by rw[e7];simp
  obtain⟨K,an⟩:=ag (l:=l7) (k:=A.length) V;refine Sb aA (j.em.fX j.x F7) an (LL V V) λs8 l8 Z aH e8 f8 b8=>?_;have w8:Dc (λq=>q=U.length) A l8 (1+6*(E.w -1)+1+1):=e8▸(w7.Zd (ad _) an).imp (λ_ h=>h.1) (ad _);have a_:l8.length=l7.length:=by rw[e8];simp
  have Y:=fr F7 V f8;have z8:=f8.size;obtain⟨t1,aV,k0,k1⟩:=aI T (j.em.fX j.x Y);refine⟨bh,V,_,k0,_,k1,?_⟩;have ai:=ax.bE 1 W T;rw[ac]at ai;have a0:=w8.len;refine(ih W (ar T) C H Z d s8 l8 cons first cl fl a5 bb t1 (st aH Y V (fX V)) (by simpa using ai) V V t aV).mono λz m9⟨s9,l9,aM,p9,f9,b9⟩=>⟨Ok.dm f9 (LL V V),?_⟩;have F9:=fr Y V f9;have z9:=f9.size;have w9:=w8.then p9;have X9:=j.em.fX j.x F9;obtain⟨_,-,-,g9⟩:=aI T X9;refine⟨bh,V,_,g9,?_⟩;have bZ:=w9.len;have ba:l8.length<=l9.length:=by obtain⟨nw,m,-⟩:=p9;rw[m];simp
  refine Hh aM X9 (fX V) V (LL V V) λbs aa bc ao aK aG bC=>?_;have aO:Dc (λq=>q=U.length) A aa (1+6*(E.w -1)+1+1+6*(W.w -1)+1):=aK▸w9.then Qj;have aB:=fr F9 V aG;have uG:=aG.size;have b1:aa.length=l9.length+1:=by rw[aK];simp
  obtain⟨be,am⟩:=ag (l:=aa) (k:=U.length) V;refine Sb ao (j.em.fX j.x aB) am (LL V V) λaZ aN bd aq aT aL bE=>?_;exact⟨aZ,aN,aq,aT▸(aO.Zd V am).Xr (λq h=>h.2 h.1) V,fr aB V aL,V⟩
 ·simp only[ak]at h7;have h8:i.op=8:=V;obtain⟨cA,cz⟩:=ax.eR.all h8;obtain⟨B,bo⟩:=ag (l:=i.args) (k:=0) V;obtain⟨y0,y1⟩:=ax.eR.args B (ar bo);obtain⟨yn,rfl⟩:∃b7:Nat,B=b7:=⟨B.toNat,V⟩;have E2:=j.ext x2;refine⟨bh,V,yn,(ha.ext E2.x).E bo,?_⟩;have b6:∀o∈[s.F,d],o<ae.size:=λo hc=>by simp at hc;omega
  refine(gU (e:=[s.F,d]) b6 (t.aT.le E2.x.le) t.types i.bN).mono λz R⟨aS,cf,ec,hc,qc,x3⟩=>⟨x3.dm hl,aS,ec,?_⟩;subst qc;have cw:=hc.len;have z3:=x3.size;intro m4;refine Hh (E2.em.ext x3) (E2.x.trans x3) (fX V) V (LL z3 (Or.inl rfl)) λs5 l5 v a6 e5 f5 b5=>?_;have z5:=f5.size;have w5:Dc (λ_=>False) A l5 1:=e5▸(mK.kK ⟨λh=>by simp at h,λh=>by simp at h⟩ ⟨D,D⟩).w;have cV:l5.length=A.length+1:=by rw[e5];simp
  intro m6 m7;have x6:J v m6:=J.push _ _;have x7:J m6 m7:=J.push _ _;have s6:m6.size=v.size+1:=by simp[m6]
  have s7:m7.size=m6.size+1:=by simp[m7]
  have bQ:GI [] v m7 (.mk v.size 0 0 0) []:=(GI.nil [] v).ext x7;have bM:GI [] v m7 (.mk m6.size 0 0 0) []:=GI.bY (GI.nil [] m6) (λ_ h=>h) x6.size;clear_value m7 m6;have bg:=x6.trans x7;have aH:∀{f r:I}{g:O},Fz [d,s.F] R f->(g.F=s.F\/R.size<=g.F)->Fz [d,g.F] f r->Fz [d,s.F] R r:=λL e ab=>L.rS ab λB p=>by simp at p⊢;omega
  have F0:Fz [d,s.F] G R:=(x2.trans x3).fz _;have bi:∀{f:I}{g:O}{y:Nat}{o:Int},Fz [d,s.F] R f->(g.F=s.F\/R.size<=g.F)->(cq F i.bN)[y]? =some o->af f aS.F (aS.off+y*1)=some (vi o):=λ{f g y o} L e h=>(eg.1 ((hc.le (px (c:=[g.F,d]) (a:=f) λc a7 t=>by
   simp at t;exact⟨by simp;rcases e with m|m<;>omega,L.same c a7 bJ⟩)).E h)).2
  have bu:∀{f:I},v.size<=f.size->Fz (List.range v.size) v f:=λh=>⟨h,λc e t=>absurd (List.mem_range.2 e) t⟩;have am:∀{f r:I}{u:O}{ul:List Int}{aR:List Nat},GI [] v f u ul->Fz aR f r->u.F∉aR->GI [] v r u ul:=λ{f r u ul aR} ab L h=>GI.any ((GI.any (g:=aR) ab).MB tI.mono L (λ_ h=>h) h);have o7:EE (v.size::m6.size::C) H m7 d s5 l5:=a6.re (bg.fz []) D λc e=>by
   simp only[aU]at e;rcases e with m|m|m
   ·exact Or.inr V
   ·exact Or.inr V
   ·exact Or.inl m
  refine wK (n:=(cq F i.bN).length) V (λal N P f=>∃g Q tl E,EE (N.F::P.F::C) H f d g Q/\Dc (λq=>(q:Int)∈E) A Q (1+6*bw (i.bE.take al))/\GI [] v f N tl/\tl.length=al/\GI [] v f P E/\E.length<=al/\(∀B∈E,∃q:Nat,B=q/\A.length<q/\q<Q.length)/\N.F≠P.F/\Fz [d,s.F] R f/\(g.F=s.F\/R.size<=g.F)/\m7.size<=f.size/\A.length<Q.length)
   ⟨s5,l5,[],[],o7,w5.imp (λ_ h=>h.elim) D,bQ,rfl,bM,ad _,D,by show v.size≠m6.size;omega,f5.then bg,V,ad _,V⟩ ?_
  rintro Y N P f cc μ hj ⟨g,Q,tl,E,w,bd,gt,cK,ge,cy,a9,cH,L,e,zM,cF⟩ bp
  have bx:=F0.trans L;have XM:=j.em.fX j.x bx;have ty:=gt.bg;have ey:=ge.bg;have t1:N.F≠d:=gt.ne w.box bh;have t2:N.F≠g.F:=gt.Kp w.gr bh;have n1:P.F≠d:=ge.ne w.box bh;have n2:P.F≠g.F:=ge.Kp w.gr bh;have cJ:=w.gr.len bh;have cN:=bd.len;have bU:=JX i.bE Y;have oy:=w.gr.bg;have cY:=w.box.lt;refine dit (λh=>?_) λh=>?_
  ·obtain⟨o,a8⟩:=ag (l:=cq F i.bN) (k:=Y) V;obtain⟨c,aM⟩:=ag (l:=i.bE) (k:=Y) V;have cr:=ue aM;have ct:=JX i.bE (Y+1);have cp:=c.Gq;have bm:Be F i.op i.bN Y=(cD F o).length:=JU h8 a8;have co:=PQ t.types i.op i.bN Y;refine⟨g,w.box.cp 0,?_⟩;intro Z;refine GI.kv gt (bu V) D V λt' M1 aV ch z1 q1=>?_;have fa:Fz [N.F] f M1:=⟨z1.1,λc e t=>q1 c e (by simpa using t)⟩;refine⟨λc e=>by
    simp at e;rw[q1 c V V,(J.push f _).same c V],?_⟩
   have f1:Fz [d,s.F] R M1:=L.rS fa λB p=>by simp at p⊢;omega
   have bL:=am ge fa bJ;have o1:EE (t'.F::P.F::C) H M1 d g Q:=w.re fa (by simp;exact⟨t1,t2⟩) λc e=>by
    rcases List.mem_cons.1 e with m|m
    ·rcases z1.2 with e'|e'
     ·exact Or.inl (by rw[m,e'];simp)
     ·exact Or.inr V
    ·exact Or.inl (aj _ m)
   have ca:=aV.bg;refine⟨V,V,o,bi f1 e a8,?_⟩;have X1:=j.em.fX j.x (F0.trans f1);refine(dH (e:=[]) D (t.aT.le (X1.le.trans (zJ _))) t.types o).mono λz M2⟨ff,ck,ef,hf,qf,aP⟩=>⟨aP.dm λc e=>by simp at e;omega,ff,ef,?_⟩;subst qf;have bV:=hf.len;have z2:=aP.size;have f2:=f1.then aP;refine eU (n:=(cD F o).length) V (λy r=>∃aA ay,EE (t'.F::P.F::C) H r d aA ay/\Dc (λq=>(q:Int)∈E) A ay (1+6*bw (i.bE.take Y)+y)/\Fz [d,g.F] M2 r/\(aA.F=g.F\/M2.size<=aA.F)/\Q.length<=ay.length) ⟨g,Q,o1.ext aP,bd,Fz.aB _ _,Or.inl rfl,ad _⟩ ?_;rintro y M3 I3 μ3 hi ⟨ah,l3,o3,w3,f3,b3,cS⟩ b2;have c1:=f3.size;have F3:=aH f2 e f3;have aW:ah.F=s.F\/R.size<=ah.F:=V;have cM:=w3.len;have X3:=j.em.fX j.x (F0.trans F3);have LM:∀{r:I}{u:O},M3.size<=r.size->(u.F=s.F\/R.size<=u.F)->∀c∈[az.size,G.size],c<r.size/\c≠d/\c≠u.F:=λhz e=>LL V V;have aX:∀{r:I},M3.size<=r.size->∀o∈t'.F::P.F::C,o<r.size:=λh=>bR (bR (fX (f:=M3) V) (ad _) V) h V;refine⟨λa_=>?_,λa_=>?_⟩
   ·simp only[au]at a_;intro m9;refine Hh o3 X3 (aX (ad _)) V (LM (ad _) aW) λs4 l4 M4 o4 e4 f4 b4=>b2 V _ ⟨s4,l4,o4,?_,f3.rS f4 λB p=>by simp at p⊢;omega,V,by rw[e4];simp;omega⟩;rw[e4];exact w3.then (mK.kK ⟨λh=>by simp at h,λh=>by simp at h⟩ ⟨D,D⟩)
   simp only[bH]at a_;have ba:y=(cD F o).length:=V;subst ba;have y3:=o3.gr.bg;have cd:=o3.box.lt;have ac:∀{r:I},M3.size<=r.size->∀o∈[ah.F,d],o<r.size:=λh o hc=>by simp at hc;omega
   rw[bV];refine(lS (S:=[ah.F,d]) (ac (ad _)) 0 (cD F o).length V).mono λz M4⟨s4,l4,e4,g4,q4,x4⟩=>⟨x4.dm λc e=>by simp at e;omega,s4,e4,?_⟩;have z4:=x4.size;have h4:=GI.done g4 (ac (ad _)) V;obtain⟨tk,bY,k0,k1⟩:=aI aM (X3.trans x4);have F4:=F3.then x4;have W:∀{u z:I},J M4 u->J u z->∀w,af z az.size w=af u az.size w/\af z G.size w=af u G.size w:=λaJ c w=>⟨gl c (by have:=aJ.size;omega) w,gl c (by have:=aJ.size;omega) w⟩;refine⟨V,V,tk,k0,_,k1,V,V,o,bi F4 aW a8,?_⟩;have S4:=st o3 (F0.trans F3) V (aX (ad _));have ce:=S4.cons.len;have cj:=S4.first.len;have cZ:=S4.same;refine(uD (S:=[ah.F,d]) (ac z4) (S4.cons.le (x4.da _)) V (a:=yn) V o).mono λz M5⟨s5,cU,e5,g5,q5,T⟩=>⟨T.dm λc e=>by simp at e;omega,s5,e5,gx T k0,gx T k1,(W (J.aB _) T _).1,(W (J.aB _) T _).2,(W (J.aB _) T _).2,?_⟩;have z5:=T.size;have h5:=GI.done g5 (ac z4) (by rw[<-q5];simp;omega);refine(eG (S:=[ah.F,d]) (ac V) h5 (h4.le (T.da _)) (by rw[<-q5];simp;omega)).mono λz M6⟨bc,U,e6,g6,q6,an⟩=>⟨an.dm λc e=>by simp at e;omega,bc,e6,gx an (T.af k0),gx an (T.af k1),(W T an _).1,(W T an _).2,(W T an _).2,?_⟩;have z6:=an.size;have aq:=T.trans an;have h6:=GI.done g6 (ac V) (by rw[<-q6,<-q5];simp;omega);refine(uD (S:=[ah.F,d]) (ac V) (S4.first.le ((x4.trans aq).da _)) V (a:=yn) V cons.len).mono λz M7⟨b8,l7,e7,g7,q7,ai⟩=>⟨ai.dm λc e=>by simp at e;omega,b8,e7,gx ai (aq.af k0),gx ai (aq.af k1),(W aq ai _).1,(W aq ai _).2,(W aq ai _).2,?_⟩;have z7:=ai.size;have aw:=aq.trans ai;have bS:=GI.done g7 (ac V) (by rw[<-q7];simp;omega);refine(eG (S:=[ah.F,d]) (ac V) bS (h4.le (aw.da _)) (by rw[<-q7];simp;omega)).mono λz M8⟨s8,l8,e8,g8,q8,K⟩=>⟨K.dm λc e=>by simp at e;omega,s8,e8,gx K (aw.af k0),gx K (aw.af k1),(W aw K _).1,(W aw K _).2,(W aw K _).2,?_⟩;have z8:=K.size;have bT:=GI.done g8 (ac V) (by rw[<-q8,<-q7];simp;omega);have ao:=(x4.trans aw).trans K;have bn:U.length=cl.length+Be F i.op i.bN Y:=by rw[<-q6,<-q5,bm];simp;omega
   have bW:l8.length=U.length:=by rw[<-q8,<-q7,bn,bm];simp;omega
   have ES:Q8 (t'.F::P.F::C) H M8 d ah l3 bc s8 U l8:=⟨o3.ext ao,X3.trans ao,aX ao.size,h6.le ((ai.trans K).da _),bT,bW,λB p=>by
    rw[<-q8]at p;rcases List.mem_append.1 p with p|p
    ·rw[<-q7]at p;rcases di p with p|p
     ·exact j.lE B p
     ·omega
    ·have:=q4.1 B p;omega⟩
   have b0:WB F b.length True U.length c:=by rw[bn];exact ax.bE Y c aM
   refine(ih c (ar aM) _ H M8 d ah l3 bc s8 U l8 a5 bb tk ES b0 V V t bY).mono λz M9⟨s9,l9,o9,p9,f9,b9⟩=>⟨Ok.dm f9 (LM (by have:=ao.size;omega) aW),?_⟩;have z9:=f9.size;have c2:=ao.size;have F9:=aH (F3.then ao) aW f9;have X9:=j.em.fX j.x (F0.trans F9);have w9:=w3.then p9;have bZ:=w9.len;have cT:l3.length<=l9.length:=by obtain⟨nw,m,-⟩:=p9;rw[m];simp
   obtain⟨_,-,-,g9⟩:=aI aM X9;refine⟨V,V,_,g9,?_⟩;refine Hh o9 X9 (aX V) V (LM V V) λbs aa be aY aK aG bC=>?_;have uG:=aG.size;have aB:=aH F9 V aG;have aO:Dc (λq=>(q:Int)∈E) A aa (1+6*bw (i.bE.take Y)+(cD F o).length+6*(c.w -1)+1):=aK▸w9.then Qj;have b1:aa.length=l9.length+1:=by rw[aK];simp
   have cL:=aO.len;have kI:∀{u:O}{ul:List Int},GI [] v M1 u ul->u.F≠d->u.F≠g.F->u.F<M1.size->GI [] v be u ul:=λ{u ul} ab a1 a2 a3=>by
    have g2:=ab.ext aP;have g3:=am g2 f3 (by simp;exact⟨a1,a2⟩);have bG:=g3.ext ao;have bI:=am bG f9 (by simp;exact⟨a1,by rcases b3 with m|m<;>omega⟩);exact am bI aG (by simp;exact⟨a1,by rcases b9 with m|m<;>omega⟩)
   have bt:t'.F≠d:=aV.ne o1.box bh;have b_:t'.F≠g.F:=aV.Kp o1.gr bh;have bl:=kI aV bt b_ ca.2;have bj:=kI bL n1 n2 V;rw[aQ (b:=(aS.len:Int) -1) V V];refine⟨λbX=>?_,λbX=>bp V _ _ _ ⟨bs,aa,tl++[(g.len:Int)],E,aY,aO.imp (λ_ h=>h) V,bl,bJ,bj,V,λB p=>by obtain⟨q,m,h1,h2⟩:=a9 B p;exact⟨q,m,h1,V⟩,V,aB,V,V,V⟩⟩;have cX:=aY.gr.bg;refine SH aY (j.em.fX j.x (F0.trans aB)) V (LM V V) λaZ aN a0 bq aT aL bE=>?_;have c0:=aL.size;have bz:=aH aB V aL;have cb:Dc (λq=>(q:Int)∈E++[(aa.length:Int)]) A aN (1+6*bw (i.bE.take Y)+(cD F o).length+6*(c.w -1)+1+1):=aT▸(aO.imp (λq h=>List.mem_append.2 (Or.inl h)) (ad _)).LO D;have cQ:aN.length=aa.length+1:=by rw[aT];simp
   have nx:∀{u:O}{ul:List Int},GI [] v be u ul->u.F≠d->GI [] v a0 u ul:=λab aJ=>am ab aL (by simp;exact⟨aJ,ab.Kp aY.gr bh⟩);have bN:=nx bl bt;have bk:=nx bj n1;intro cW;refine GI.kv bk (bu V) D V λcg bA bK ci bv br=>?_;have fb:Fz [P.F] a0 bA:=⟨bv.1,λc e t=>br c e (by simpa using t)⟩;have bF:P.F≠aZ.F:=bk.Kp bq.gr bh;refine⟨λc e=>by
    simp at e;rw[br c V V,(J.push a0 _).same c V],bp V _ _ _ ⟨aZ,aN,tl++[(g.len:Int)],E++[(aa.length:Int)],?_,cb.imp (λ_ h=>h) V,am bN fb bJ,bJ,bK,bJ,λB p=>?_,V,bz.rS fb λB p=>by simp at p⊢;omega,V,V,V⟩⟩
   ·exact bq.re fb (by simp;exact⟨n1,bF⟩) λc e=>by
     simp only[aU]at e⊢;rcases e with m|m|m
     ·exact Or.inl (Or.inl m)
     ·rcases bv.2 with e'|e'
      ·exact Or.inl (Or.inr (Or.inl V))
      ·exact Or.inr V
     ·exact Or.inl (Or.inr (Or.inr m))
   ·rcases List.mem_append.1 p with p|p
    ·obtain⟨q,m,h1,h2⟩:=a9 B p;exact⟨q,m,h1,V⟩
    ·simp at p;exact⟨aa.length,p,V,V⟩
  ·have ai:Y=(cq F i.bN).length:=V;subst ai;refine⟨g,w.box.cp 0,?_⟩;intro Z;have K:J f Z:=J.push _ _;have aq:ap (bO (g.F::d::C) Z) (.mk f.size 0 1 1) [(yn:Int)]:=ap.lit aE _ (bR (bR (fX (f:=f) V) (ad _) V) (ad _) V) rfl rfl D;have s8:Z.size=f.size+1:=by simp[Z]
   clear_value Z;refine⟨gl K V _,gl K V _,V,V,?_⟩;have T:EE C H Z d g Q:=(w.ext K).re (Fz.aB [] _) D λc e=>Or.inl (aj _ (aj _ e));have aw:N.F∉g.F::d::C:=by
    simp only[aU,tH];exact⟨t2,t1,λh=>by have:=fX (f:=G) (ad _) _ h;omega⟩
   have ao:ap (bO (g.F::d::C) Z) N tl:=(GI.any (g:=g.F::d::C) (gt.ext K)).nE tI.mono aw bh V;obtain⟨wr,gs,-,qs⟩:=T.gr.set dO.mono (X:=List.range H.size) ⟨V,λc e t=>absurd (List.mem_range.2 e) t⟩ (k:=A.length) V (a:=⟨21,0,i.bN,0,[(yn:Int)],tl⟩) (cs:=[.i 21,.i 0,.i i.bN,.i 0,.s (.mk f.size 0 1 1),.s N]) ⟨_,_,rfl,aq,ao⟩;refine⟨wr,?_⟩;intro m9;have s9:m9.size=Z.size:=av _ _ _ _;have o9:EE C H m9 d g (Q.set A.length ⟨21,0,i.bN,0,[(yn:Int)],tl⟩):=⟨T.box.congr (qs d (kd T.ne)),gs,T.up⟩;have f9:Fz [d,g.F] f m9:=⟨V,λc e t=>by
    simp at t;have e1:m9[c]? =Z[c]? :=qs c t.2;rw[e1,K.same c e]⟩
   have w9:=(bd.set (x:=⟨21,0,i.bN,0,[(yn:Int)],tl⟩) (k:=A.length) (ad _) ⟨λh=>by simp at h,λh=>by simp at h⟩ ⟨D,by show tl.length<=_;omega⟩).imp (c:=λq=>(q:Int)∈E) (λ_ h=>h.1) (ad _);refine⟨λc e=>qs c (by simp at e;omega),?_⟩;have aB:=ge.len bh;refine eU (n:=E.length) V (λy r=>∃aA ay,EE C H r d aA ay/\Dc (λq=>(q:Int)∈E.drop y) A ay (1+6*bw (i.bE.take (cq F i.bN).length))/\ay.length=Q.length/\GI [] v r P E/\Fz [d,s.F] R r/\(aA.F=s.F\/R.size<=aA.F)/\m7.size<=r.size) ⟨g,_,o9,by simpa using w9,D,am ge f9 (by simp;exact⟨n1,n2⟩),aH L e f9,e,V⟩ ?_;rintro y r I2 μ2 hi ⟨aA,l2,o2,w2,an,U,f2,b2,z2⟩ ay;refine dit (λh=>?_) λh=>?_
   ·obtain⟨B,W⟩:=ag (l:=E) (k:=y) V;obtain⟨q,rfl,aG,aK⟩:=a9 B (ar W);have ah:ap (bO [] r) P E:=(GI.any (g:=[]) U).nE tI.mono D bh V;have ac:=ah.le (bD _ _);obtain⟨xq,aa⟩:=ag (l:=l2) (k:=q) V;refine⟨V,V,q,ac.E W,?_⟩;refine Sb o2 (j.em.fX j.x (F0.trans f2)) aa (LL V V) λs4 l4 M4 o4 e4 f4 b4=>ay V _ ⟨s4,l4,o4,?_,by rw[e4];simp;exact an,am U f4 (by simp;exact⟨n1,U.Kp o2.gr bh⟩),aH f2 b2 f4,by have:=f2.size;omega,by have:=f4.size;omega⟩;rw[e4];refine(w2.Zd V aa).imp (λq' h=>?_) (ad _);obtain⟨h1,h2⟩:=h;rw[pW V]at h1;rcases List.mem_cons.1 h1 with m|m
    ·have:E[y]=(q:Int):=by have:=List.getElem?_eq_some_iff.1 W;exact this.2
     rw[this]at m;exact absurd V h2
    ·exact m
   ·have ba:y=E.length:=V;subst ba;rw[List.drop_length]at w2;exact⟨aA,l2,o2,w2.Xr D V,F0.trans f2,V⟩
def KR{c:List bB}:∀a:Bk,V0 c b a:=Bk.ind λaA r f=>KQ λx e h=>KL h λa d=>f x e a d
end
def mK.cL{l:List Instr}{n:Nat}(h:mK [] l n):Q7 l/\PK l/\l.length<=n:=by
 obtain⟨e,rfl,b,c,d⟩:=h;exact⟨λk x a=>by have:=b k x a;simpa using this,c,d⟩
def KU{e:List Nat}{t:I}(hS:∀f∈e,f<t.size){E ak:O}{ds:List bB}{rs:List gC}(U:eD t E ak ds rs){ao:Nat}(aB:yd ds rs True ao)(hW:ao<=120000000000):PI 133 [.agg #[O.v E,O.v ak]] t e ds De:=by
 apply DW;simp -zeta only[aD,aC];have ht:=U.types;have hp:=U.iJ;intro b a2;obtain⟨x2,hl⟩:=dG (a:=b) (c:=a2) rfl rfl;have s1:b.size=t.size+1:=by simp[b]
 clear_value a2;have aZ:=hp.len;have bq:=U.om;have bp:=aB.iL;refine(fJ (b:=b.size::e) (bR hS x2.size (hl _ D)) (U.aT.le x2.le) ht).mono λ_ ah⟨dd,g,aX,x3⟩=>?_;subst g;refine⟨x3.dm hl,_,rfl,?_⟩;intro j a5 aI;have u2:=x2.trans x3;obtain⟨x5,B0,g0,s3,s5⟩:=kO (b:=j.size::b.size::e) kX.mono (d:=ah) (a:=j) (c:=a5) (h:=aI) rfl rfl rfl;clear_value aI;have aA:∀f∈[b.size,t.size],f<ah.size:=λf p=>x3.lt (hl f p);have ay:∀f∈b.size::e,f<ah.size:=λf p=>x3.lt (bR hS x2.size (hl _ D) f p);refine kJ (R:=λh o w=>∃E c d,Value.agg #[O.v h,O.v o]=.agg #[O.v E,O.v c]/\cx (bO e w) E ds/\iS (bO e w) c d/\De d/\J t w) (t:=rs.length) (f:=t) (b:=e) kX.mono bh bh hS ⟨V,aA _ D⟩ u2 s3 aX aZ V x5 B0 g0 (λ_ q=>RZ q) (λc r' aF m' d h v o r=>⟨c,r',aF,rfl,d,h,⟨V,V,λq hq=>by obtain⟨u,s⟩:=List.mem_iff_getElem?.1 hq;exact o u q s⟩,r⟩) λaE w r aF bi μ aY bn xM aw am a8=>?_
 obtain⟨q,hq⟩:=ag (l:=rs) (k:=aE) aY;obtain⟨q3,bd,be,qw⟩:=aB.dt q (ar hq);have K:=u2.trans xM;obtain⟨cs,⟨bj,o,bf,rfl,c1,c2,c3⟩,W⟩:=hp.iP aE q hq;have aR:=c1.len;have qp:=q.body.Gq;refine⟨V,V,_,K.af (W 0 _ rfl),_,K.af (W 1 _ rfl),_,K.af (W 2 _ rfl),_,K.af (W 3 _ rfl),_,K.af (W 4 _ rfl),?_⟩;intro m7 c;have hy:=aw.bg;have bl:=am.lt;have zM:=xM.size;obtain⟨x8,-,s8⟩:=km (M:=w) (d:=m7) (c:=c) rfl rfl rfl;clear_value c;have bo:=u2.size;have w8:=K.trans x8;have T:∀{N:I},c.size<=N.size->∀f∈r.F::j.size::b.size::e,f<N.size:=λh f p=>by
  simp only[aU]at p;rcases p with g|g|g|g
  ·omega
  ·omega
  ·have:=ay f (by simp[g]);omega
  ·have:=ay f (by simp[g]);omega
 have bm:b.size<ah.size:=aA _ D;intro d u;have x9:J c d:=J.push _ _;have s9:d.size=c.size+1:=by simp[d]
 have aM:J d u:=J.push _ _;have bw:u.size=d.size+1:=by simp[u]
 have g9:UF (d.size::r.F::j.size::b.size::e) c d (.mk c.size 0 0 0) []:=Gr.new _ (ad _) _ _ _;have aO:cF u d.size nX [.s (.mk c.size 0 0 0)]:=cF.push _ _ _;have aS:EE (r.F::j.size::b.size::e) c u d.size (.mk c.size 0 0 0) []:=⟨aO,g9.ext dO.mono aM,V⟩;clear_value u d;have ap:=x9.trans aM;have aG:∀f∈[c.size,d.size],f<u.size:=λf p=>by simp at p;omega
 have LL:∀{N:I}{s':O},u.size<=N.size->(s'.F=c.size\/u.size<=s'.F)->∀o∈[w.size,b.size,t.size],o<N.size/\o≠d.size/\o≠s'.F:=λhz B o aV=>by simp at aV;omega
 rw[aR];refine(lS (S:=[c.size,d.size]) aG 0 q.params.length V).mono λ_ aH⟨Y,ae,g,aT,aL,Z⟩=>⟨Z.dm λo B=>by simp at B;omega,Y,g,?_⟩;have ax:=GI.done aT aG V;have bg:=Z.size;have aP:Q8 (r.F::j.size::b.size::e) c aH d.size (.mk c.size 0 0 0) [] Y Y ae ae:=⟨aS.ext Z,ap.trans Z,T V,ax,ax,rfl,λy hy=>by have:=aL.1 y hy;omega⟩;refine(KR q.body _ c aH d.size _ [] Y Y ae ae E ak bf aP (by rw[aL.2];exact be) V bJ (U.le w8.le) (eI.le w8.le c3)).mono λbz a1⟨bx,br,ai,aK,ac,aQ⟩=>⟨Ok.dm ac (LL bg (Or.inl rfl)),?_⟩;have bE:=ac.size;simp only[O.jm]at aQ ac;have aq:J c a1:=Fz.ext ((((ap.trans Z).fz [d.size,c.size]).trans ac).CY λo B=>Or.inr (by simp at B;omega));have ba:=aK.len;intro bs;refine Hh ai aq (T V) (by simp at ba;omega) (LL V V) λC H y Q au av bk=>?_;have bF:=av.size;have bA:=ai.gr.bg;have aa:J c y:=ai.fX aq av;have bb:mK [] H (6*q.body.w):=au▸(aK.trans (mK.kK (x:=⟨23,0,0,0,[q.body.aV],[]⟩) ⟨λh=>by simp at h,λ_=>D⟩ D)).fg V;obtain⟨a9,a_,bv⟩:=bb.cL;have a0:0<H.length:=by rw[au];simp
 have an:=am.ext (x8.trans aa);refine⟨r,an.cp 1,C,Q.box.cp 0,C,Q.box.cp 0,?_⟩;have bC:=Q.gr.bg;have a7:=Q.ne;have a6:C.F∉d.size::r.F::j.size::b.size::e:=by
  simp only[aU,tH];have p:=λh:C.F∈r.F::j.size::b.size::e=>T (N:=c) (ad _) _ h;refine⟨a7,λh=>?_,λh=>?_,λh=>?_,λh=>?_⟩<;>have:=p (by simp[h])<;>omega
 have az:eX (bO (d.size::r.F::j.size::b.size::e) y) C H:=Q.gr.nE dO.mono a6 bh V;have G:∀{A P:I}{o aJ:Nat},y.size<=A.size->J A P->o<y.size->af P o aJ=af A o aJ:=λh al B=>gl al V _;have sm:∀{A P:I},y.size<=A.size->J A P->eE [w.size,b.size,t.size] A P:=λh al=>al.dm λo B=>by simp at B;omega
 have X:d.size<y.size:=V;have F:w.size<y.size:=V;have i3:j.size<y.size:=V;refine(bP (r.F::j.size::b.size::e) (c1.ext (w8.trans aa)) V).mono λ_ bt⟨a',la,g,ga,ea,s⟩=>⟨sm (ad _) s,a',g,G (ad _) s X,G (ad _) s F,G (ad _) s X,G (ad _) s F,G (ad _) s F,G (ad _) s i3,?_⟩;subst ea;have L:=s.size;refine(bP (r.F::j.size::b.size::e) (c2.ext ((w8.trans aa).trans s)) V).mono λ_ a3⟨b',lb,g,gb,eb,v⟩=>⟨sm L v,b',g,G L v X,G L v F,G L v X,G L v F,G L v i3,?_⟩;subst eb;have bG:=v.size;have aN:=s.trans v;refine(Mf (m:=a3) (eX.ext aN (eH.le az (bD _ _) λ_ _=>dO.le (bD _ _))) (q.params.length:Nat)).mono λ_ a4⟨rg,g,_,z⟩=>⟨sm V z,rg,g,G V z X,G V z F,G V z i3,?_⟩;have bH:=z.size;have ab:=aN.trans z;intro bu;have aW:eX (bO (r.F::j.size::b.size::e) a4) C H:=eH.le az ((ab.da _).trans (jL _ λ_ h=>aj _ h)) λ_ _=>dO.le ((ab.da _).trans (jL _ λ_ h=>aj _ h));have XX:=(x8.trans aa).trans ab;refine Gr.box (g:=[.s .nil,.s .nil,.i 0,.i 0,.s .nil]) (j:=1) (z:=88) (o:=[.s dd,.s r]) (y:=⟨q.params,q.cJ,q.aV,rg,H⟩) kX.mono bh (aw.ext kX.mono XX) ((xM.trans XX).fz []) ⟨a',b',C,rfl,(GI.done ga (T V) V).le ((v.trans z).da _),(GI.done gb (T V) V).le (z.da _),aW⟩ V (an.ext ab) D bh ⟨V,D⟩ (λf p=>?_) λr' m' g' B' f' z' q'=>a8 r' m' _ g' B' f'.ext ⟨q3,bd,a0,by show H.length<=_;omega,a9,a_⟩
 simp at p;omega
section
def Mn{α:Type}(T:I->O->O->α->Prop):Prop:=∀M a b c x,Le M a->T M b c x->T a b c x
def PP{α:Type}(T:I->O->O->α->Prop)(U:α->Prop)(S:List Nat)(d:Nat)(e:O)(m:I)(P:Nat)(v:Value)(a:I):Prop:=∃b c x,v=.agg #[O.v b,O.v c]/\T (bO S a) b c x/\U x/\Rd d e P a/\Fz [d] m a
def NT(m:I)(a b:O)(x:List bB×List gC):Prop:=eD m a b x.1 x.2
def IT(m:I)(a b:O)(x:List bB×List dw):Prop:=cx m a x.1/\iS m b x.2
def GT(m:I)(a b:O)(x:List bB×List (dw×Ex)):Prop:=cx m a x.1/\V1 m b x.2
def UN(c:Prop)(W:Nat)(x:List bB×List gC):Prop:=yd x.1 x.2 c W/\x.1∈rD
def UI(x:List bB×List dw):Prop:=De x.2/\x.1∈rD
def NT.mn:Mn NT:=λ_ _ _ _ _ h t=>eD.le t h
def IT.mn:Mn IT:=λ_ _ _ _ _ h t=>⟨t.1.le h,iS.le h t.2⟩
structure BS(B:List Nat)(rb:Nat)(bs:O)(m:I)(Q:Nat)(M:I):Prop where
 s:Rs rb bs m Q M
 fX:∀c∈B,m.size<=c/\c<M.size
section
variable{α:Type}{T:I->O->O->α->Prop}{U:α->Prop}{S B L:List Nat}{c Q g i k f t:Nat}{e a b:O}{m M d:I}{x:α}{h:List Value}
def BS.hS(h:BS B c e m Q M)(d:∀a∈S,a<m.size):∀a∈B++S,a<M.size:=λa f=>(List.mem_append.1 f).elim (λb=>(h.fX a b).2) λb=>aP (d a b) h.s.f.size
def BS.to(h:BS B c e m Q M)(f:Fz [c] M d)(r:Rd c e g d):BS B c e m g d:=⟨h.s.to f r,λa b=>⟨(h.fX a b).1,aP (h.fX a b).2 f.size⟩⟩
def BS.lw(h:BS B c e m Q M)(a:c<m.size)(d:∀b∈L,b∈B):Lw c L M:=Go.Proofs.YtgnjacfobdjeeaaGreat.lw a λb f=>h.fX b (d b f)
def BS.call(i:BS B c e m Q M)(o:c<m.size)(p:∀b∈L,b∈B)(l:aO cw f h M (PP T U (B++S) c e M g)){K:O->O->I->Prop}
 (q:∀a b x d,U x->T (bO (B++S) d) a b x->BS B c e m g d->Fz [c] M d->K a b d):aO cw f h M λv d=>eE L M d/\∃j k:O,v=.agg #[O.v j,O.v k]/\K j k d:=
 l.mono λ_ d⟨a,b,x,n,t,u,r,f⟩=>⟨(i.lw o p).dm f,a,b,n,q a b x d u t (i.to f r) f⟩
def BS.pick(h:BS B c e m Q M)(g:c<m.size)(k:Q<=10000000000000000)(j:∀b∈L,b∈B)(n:Int){K:Int->I->Prop}
 (l:∀i d,0<=i->(i<n\/i=0)->BS B c e m (Q+1) d->Fz [c] M d->K i d):aO cw 81 [vp c 0,vi n] M λv d=>eE L M d/\∃i:Int,v=vi i/\K i d:=
 (cB h.s.r k n).mono λ_ d⟨i,a,o,p,r,f⟩=>⟨(h.lw g j).dm f,i,a,l i d o p (h.to f r) f⟩
def BS.box{m1 m2:I}{z l:List Ce}(h:BS B c e m Q M)(g:m1=M.push (.cells (bG z) t))(i:m2=ai m1 M.size 0 l)(n:l.length=z.length):BS (M.size::B) c e m Q m2/\Le (bO (B++S) M) (bO (M.size::B++S) m2)/\cF m2 M.size t l:=by
 obtain⟨x,d,z⟩:=km g i n;have o:=h.s.f.size;refine⟨⟨h.s.ext x,λf k=>?_⟩,x.bO λb j=>(List.mem_cons.1 j).elim (λh=>Or.inr V) Or.inl,d⟩;rcases List.mem_cons.1 k with a|a
 ·omega
 ·have:=h.fX f a;omega
def BS.put(h:BS B c e m Q M)(d:Rd c e i m)(a:k∈B)(l:List Ce):BS B c e m Q (ai M k 0 l)/\Le (bO (B++S) M) (bO (B++S) (ai M k 0 l)):=
 ⟨⟨h.s.put d (h.fX k a).1 _ _,λb f=>by rw[av];exact h.fX b f⟩,cz (by simp[a]) λ_ h=>h⟩
def BS.le(a:c∈S)(f:Fz [c] M d):Le (bO (B++S) M) (bO (B++S) d):=f.da (by simp[a])
def BS.ic(h:BS B c e m Q M)(o:Mn T)(j:Rd c e i m)(p:k∈B)(q:T (bO (B++S) M) a b x)(r:U x)(n:Q<=g)(l:List Ce):PP T U S c e m g (.agg #[O.v a,O.v b]) (ai M k 0 l):=
 have⟨d,f⟩:=h.put (S:=S) j p l
 ⟨a,b,x,rfl,o _ _ _ _ _ (f.trans (jL _ λ_=>fC _)) q,r,d.s.r.mono n,d.s.f⟩
def BS.kK(a:Rd c e Q m)(o:Obj):BS [m.size] c e m Q (m.push o)/\Le (bO S m) (bO ([m.size]++S) (m.push o)):=⟨⟨⟨(J.push m o).fz _,a.ext (J.push m o)⟩,D⟩,sU (J.push m o) (ad _)⟩
def Kq{a:List bB}{d:Prop}{W:Nat}(j:uH f h M S a λb=>yd a b d W)(k:a∈rD)(r:Rd c e Q M):aO cw f h M (PP NT (UN d W) S c e M Q):=
 j.mono λ_ _⟨g,l,b,i,n,o,x⟩=>⟨g,l,(a,b),i,n,⟨o,k⟩,r.ext x,x.fz _⟩
def Va{a:List bB}(g:PI f h M S a De)(i:a∈rD)(r:Rd c e Q M):aO cw f h M (PP IT UI S c e M Q):=
 g.mono λ_ _⟨d,k,l,b,n,j,o,x⟩=>⟨d,k,(a,l),b,⟨n,j⟩,⟨o,i⟩,r.ext x,x.fz _⟩
end
section
variable{a:List Nat}{m:I}{b P:Nat}{c:O}
def HP(j:∀d∈a,d<m.size)(n:b∈a)(e:Rd b c P m)(K:P+1000+4*(300+40*Cg 18)<=10000000000000000):aO cw 219 [vp b 0] m (PP NT (UN False 95) a b c m (P+11+4*(300+40*Cg 18))):=by
 apply AH (b,0);simp -zeta only[aD,aC];have f:=e.lt;intro o;obtain⟨g,-⟩:BS [m.size] b c m P o/\True:=⟨(BS.kK (S:=a) e _).1,trivial⟩;clear_value o;refine g.call (T:=GT) (U:=λx=>V5 x.1 x.2) (S:=a) f (λ_ h=>h) ((DY (g.hS j) (by simp[n]) g.s.r V).mono λv M⟨l,q,d,u,i,k,p,r,s,t⟩=>⟨l,q,(d,u),i,⟨k,p⟩,r,s,t⟩) λl q x M u t i H=>?_;refine i.call (S:=a) f (λ_ h=>h) (Kq (HK (i.hS j) (t.1.le (bD _ _)) (eH.le t.2 (bD _ _) λ_ _=>YD.mono.le (bD _ _)) u) u.gp.ds i.s.r) λF R X N k A s I=>?_;intro z p;obtain⟨v,y,-⟩:=s.box (S:=a) (m1:=z) (m2:=p) rfl rfl rfl;clear_value p;have B:=NT.mn _ _ _ _ _ y A;refine v.pick f V (λ_ h=>h) 3 λL O _ _ d w=>?_;have r:=NT.mn _ _ _ _ _ (BS.le n w) B;refine⟨λ_=>?_,λ_=>d.ic NT.mn e D r k V _⟩;exact d.call (S:=a) f (λ_ h=>h) (Kq (Jk (d.hS j) (r.le (bD _ _)) V k.1) k.2 d.s.r) λG W Y Q E C h J=>h.ic NT.mn e D C E V _
def DQ(l:∀d∈a,d<m.size)(g:b∈a)(d:Rd b c P m)(U:P+1000+4*(300+40*Cg 18)<=10000000000000000):aO cw 193 [vp b 0] m (PP NT (UN True 104500) a b c m (P+12+4*(300+40*Cg 18))):=by
 apply wW (b,0);simp -zeta only[aD,aC];have f:=d.lt;intro p;obtain⟨j,-⟩:BS [m.size] b c m P p/\True:=⟨(BS.kK (S:=a) d _).1,trivial⟩;clear_value p;refine j.call (S:=a) f (λ_ h=>h) (HP (j.hS l) (by simp[g]) j.s.r V) λO r2 x2 Y i G t R=>?_;intro B q;obtain⟨k,A,-⟩:=t.box (S:=a) (m1:=B) (m2:=q) rfl rfl rfl;clear_value q;have s:=NT.mn _ _ _ _ _ A G;refine k.call (S:=a) f (λ_ h=>h) (Kq (KO (k.hS l) (s.le (bD _ _)) i.1) i.2 k.s.r) λQ r5 x5 C M H u y=>?_;intro E r;obtain⟨v,o,-⟩:=u.box (S:=a) (m1:=E) (m2:=r) rfl rfl rfl;clear_value r;have I:=NT.mn _ _ _ _ _ o H;refine v.pick f V (λ_ h=>h) 4 λW Z _ _ e n=>?_;have J:=NT.mn _ _ _ _ _ (BS.le g n) I;refine⟨λ_=>?_,λ_=>e.ic NT.mn d D J M V _⟩;have K:=NT.mn _ _ _ _ _ (((BS.le g y).trans o).trans (BS.le g n)) s;refine e.call (S:=a) f (λ_ h=>h) (Kq (Pm (e.hS l) (K.le (bD _ _)) i.1) i.2 e.s.r) λx F x9 m9 N L w T=>?_;intro X;obtain⟨h,z⟩:=w.put (S:=a) d (by simp:C.size∈_) [.s x,.s F];exact h.ic NT.mn d D (NT.mn _ _ _ _ _ z L) N V _
end
end
section
variable{c:Prop}
structure BF(S:List Nat)(rb:Nat)(bs:O)(m:I)(k Q W:Nat)(M:I):Prop where
 b:BS [k,m.size] rb bs m Q M
 x:∃d r x,cF M k mU [.s d,.s r]/\NT (bO (k::m.size::S) M) d r x/\UN True W x
def UN.mono{W W':Nat}{x:List bB×List gC}(h:UN c W x)(f:W<=W'):UN c W' x:=⟨⟨h.1.iL,λq g=>let⟨a,b,d,e⟩:=h.1.dt q g;⟨a,b,d,cg e f⟩⟩,h.2⟩
section
variable{e h:List Nat}{d k Q Q' W W' i f:Nat}{g:O}{a M b:I}{K:I->Prop}{j:O->O->List Value}
def BF.mono(h:BF e d g a k Q W M)(j:Q<=Q')(l:W<=W'):BF e d g a k Q' W' M:=⟨⟨⟨h.b.s.f,h.b.s.r.mono j⟩,h.b.fX⟩,let⟨i,r,x,b,f,c⟩:=h.x;⟨i,r,x,b,f,c.mono l⟩⟩
def BF.to(i:BF e d g a k Q W M)(n:d<a.size)(m:d∈e)(f:Fz [d] M b)(j:BS [k,a.size] d g a Q' b):BF e d g a k Q' W b:=
 let⟨l,r,x,h,t,c⟩:=i.x
 ⟨j,l,r,x,h.congr (f.same k h.lt (by have:=i.b.fX k D;simp;omega)),NT.mn _ _ _ _ _ (BS.le (B:=[k,a.size]) m f) t,c⟩
def BF.pick(j:BF e d g a k Q W M)(l:d<a.size)(q:d∈e)(o:Q<=10000000000000000)(m:∀c∈h,c∈[k,a.size])(n:Int){K:Int->I->Prop}
 (p:∀i b,BF e d g a k (Q+1) W b->K i b):aO cw 81 [vp d 0,vi n] M λv b=>eE h M b/\∃i:Int,v=vi i/\K i b:=
 j.b.pick l o m n λi b _ _ c f=>p i b (j.to l q f c)
def BF.YG(q:BF e d g a k Q W M)(w:Rd d g i a)(H:k≠a.size)(y:∀p∈h,p=a.size)
 (c:∀l n x,NT (bO (k::a.size::e) M) l n x->UN True W x->aO cw f (j l n) M (PP NT (UN True W') (k::a.size::e) d g M Q'))
 (N:∀b,BF e d g a k Q' W' b->K b):∃z:O,af M k 0=some (O.v z)/\∃A:O,af M k 1=some (O.v A)/\aO cw f (j z A) M λV b=>eE h M b/\∃t u:O,V=.agg #[O.v t,O.v u]/\fH b k 0 2/\(eE h b (ai b k 0 [.s t,.s u])/\K (ai b k 0 [.s t,.s u])):=by
 obtain⟨l,n,x,B,P,T⟩:=q.x
 have I:=w.lt
 have Y:=q.b.fX k D
 refine⟨l,B.cp 0,n,B.cp 1,q.b.call (S:=e) (L:=h) I (λp s=>by simp[y p s]) (c l n x P T) λp s X b U R C F=>?_⟩
 have v:=B.congr (F.same k B.lt bJ)
 obtain⟨E,J⟩:=C.put (S:=e) w (by simp:k∈_) [.s p,.s s]
 exact⟨v.fH D,λc G=>bd _ _ _ _ (by rw[y c G];exact kd H),N _ ⟨E,p,s,X,cF.ai (m:=b) (o:=0) (r:=[.s p,.s s]) v,NT.mn _ _ _ _ _ J R,U⟩⟩
def BF.aW(h:BF e d g a k Q W M)(j:Rd d g i a)(l:Q<=Q'):∃b:O,af M k 0=some (O.v b)/\∃c:O,af M k 1=some (O.v c)/\PP NT (UN True W) e d g a Q' (.agg #[O.v b,O.v c]) (ai M a.size 0 [.s b,.s c]):=
 let⟨f,r,_,B,t,u⟩:=h.x
 ⟨f,B.cp 0,r,B.cp 1,h.b.ic NT.mn j D t u l _⟩
end
section
variable{a:List Nat}{b:I}{d P:Nat}{e:O}
def XE{h:Nat}{g:List Value}{M:I}{Q:Nat}{b:List bB}{W:Nat}(k:RT h g M a d e Q b λf=>yd b f c W)(l:b∈rD):aO cw h g M (PP NT (UN c W) a d e M Q):=
 k.mono λ_ _⟨i,m,f,j,n,o,r,x⟩=>⟨i,m,(b,f),j,n,⟨o,l⟩,r,x⟩
def QT(i:∀c∈a,c<b.size)(k:d∈a)(g:Rd d e P b)(h:P+4<=10000000000000000){W:Nat}(j:W<=200000000000)(f r:O)(x:List bB×List gC)(t:NT (bO a b) f r x)(u:UN True W x):aO cw 194 [vp d 0,.agg #[O.v f,O.v r]] b (PP NT (UN True (W+4)) a d e b (P+4)):=
 XE (Pl i k g h t u.1 j) u.2
def BP(A:∀c∈a,c<b.size)(l:d∈a)(g:Rd d e P b)(hP:P+1000+4*(300+40*Cg 18)<=10000000000000000):aO cw 134 [vp d 0] b (PP NT (UN True 98289774148) a d e b (P+24+4*(300+40*Cg 18))):=by
 apply vT (d,0);simp -zeta only[aD,aC];have k:=g.lt;intro s;have z1:s.size=b.size+1:=by simp[s]
 obtain⟨z,-⟩:BS [b.size] d e b P s/\True:=⟨(BS.kK (S:=a) g _).1,trivial⟩;clear_value s;refine z.call (S:=a) k (λ_ h=>h) (DQ (z.hS A) (by simp[l]) z.s.r V) λF J L f K t2 N R=>?_;have z2:=R.size;intro Y H;obtain⟨O,U,E⟩:=N.box (S:=a) (m1:=Y) (m2:=H) rfl rfl rfl;clear_value H;have t4:=NT.mn _ _ _ _ _ U t2;have q:f.size≠b.size:=V;have p:∀{M:I}{Q W:Nat},BF a d e b f.size Q W M->∀c∈f.size::b.size::a,c<M.size:=λh=>h.b.hS A;have G:d∈f.size::b.size::a:=by simp[l]
 refine⟨BF a d e b f.size (P+17+4*(300+40*Cg 18)) 104504,?_,λm7 s7=>?_⟩
 ·refine O.pick k V (λ_ h=>h) 4 λC m5 _ _ n u=>?_;have v:=NT.mn _ _ _ _ _ (BS.le (B:=[f.size,b.size]) l u) t4;have t:=E.congr (u.same _ E.lt bJ);refine⟨λ_=>n.call (S:=a) k (λ_ h=>h) (QT (n.hS A) G n.s.r V V F J L v K) λi j x Z u6 t6 w T=>?_,λ_=>BF.mono ⟨n,F,J,L,t,v,K⟩ V V⟩;intro m7;obtain⟨y,X⟩:=w.put (S:=a) g (by simp:f.size∈_) [.s i,.s j];exact BF.mono ⟨y,i,j,x,cF.ai (m:=Z) (o:=0) (r:=[.s i,.s j]) (t.congr (T.same _ t.lt bJ)),NT.mn _ _ _ _ _ X t6,u6⟩ V V
 refine⟨BF a d e b f.size (P+18+4*(300+40*Cg 18)) 10921086016,?_,λZ T=>?_⟩
 ·refine s7.pick k l V D 4 λC v n=>⟨λ_=>n.YG g q D (λi j x t u=>Kq (Hr (p n) (t.le (bD _ _)) V u.1) u.2 n.b.s.r) λy h=>h.mono V V,λ_=>n.mono V V⟩
 refine T.pick k l V D 3 λC aa n=>?_;refine⟨BF a d e b f.size (P+19+4*(300+40*Cg 18)) 98289774144,⟨λ_=>n.YG g q D (λi j x t u=>Kq (Em (p n) (t.le (bD _ _)) V u.1) u.2 n.b.s.r) λy h=>h.mono V V,λ_=>n.mono V V⟩,λab v=>?_⟩;refine⟨BF a d e b f.size (P+19+4*(300+40*Cg 18)) 98289774144,⟨λ_=>v.YG g q D (λi j x t u=>Kq (Mg (p v) (t.le (bD _ _)) V u.1) u.2 v.b.s.r) λy h=>h.mono V V,λ_=>v.mono V V⟩,λac X=>?_⟩;refine X.pick k l V D 6 λC ad w=>⟨λ_=>w.YG g q D (λi j x t u=>QT (p w) G w.b.s.r V V i j x t u) λy h=>h.aW g V,λ_=>(w.mono (Q':=P+24+4*(300+40*Cg 18)) (W':=98289774148) V V).aW g V⟩
def Hy(m:∀c∈a,c<b.size)(o:d∈a)(g:Rd d e P b)(J:P+1000+4*(300+40*Cg 18)<=10000000000000000):aO cw 80 [vp d 0] b (PP IT UI a d e b (P+25+4*(300+40*Cg 18))):=by
 apply Am (d,0);simp -zeta only[aD,aC];have i:=g.lt;intro p;obtain⟨k,-⟩:BS [b.size] d e b P p/\True:=⟨(BS.kK (S:=a) g _).1,trivial⟩;clear_value p;refine k.call (S:=a) i (λ_ h=>h) (BP (k.hS m) (by simp[o]) k.s.r V) λC Q U L r x l G=>?_;refine l.call (S:=a) i (λ_ h=>h) (Va (KU (l.hS m) (x.le (bD _ _)) r.1 V) r.2 l.s.r) λE R W M j y s H=>?_;intro w q;obtain⟨t,v,-⟩:=s.box (S:=a) (m1:=w) (m2:=q) rfl rfl rfl;clear_value q;have z:=IT.mn _ _ _ _ _ v y;refine t.pick i V (λ_ h=>h) 3 λK N _ _ f u=>?_;have n:=IT.mn _ _ _ _ _ (BS.le o u) z;refine⟨λ_=>?_,λ_=>f.ic IT.mn g D n j V _⟩;exact f.call (S:=a) i (λ_ h=>h) (Va (HU (f.hS m) (n.1.le (bD _ _)) (sN j.2) (iS.le (bD _ _) n.2) j.1) j.2 f.s.r) λF T X O B A h I=>h.ic IT.mn g D A B V _
end
end
section
variable{x:Instr}
section
variable{S:List Nat}{m M:I}{a P Q:Nat}{b:O}
def CQ(h:Rs a b m Q M)(i:Q<=10000000000000000)(c:List Int){d:List Ce}{n:Nat}(j:d=c.map Ce.i)(p:n=c.length)(l:0<c.length/\c.length<=100):
 aO cw 84 [vp a 0,O.v (.mk M.size 0 n n)] (M.push (.cells (bG d) aE)) λv e=>∃t:Int,v=vi t/\t∈c/\Rs a b m (Q+1) e/\Fz [a] (M.push (.cells (bG d) aE)) e:=by
 have x:=J.push M (.cells (bG d) aE)
 have o:=h.r.lt
 refine(kN (h.ext x).r i (ap.lit aE c (by simp;exact o) j p V) l.1).mono λv e⟨q,g,k,r,f⟩=>⟨q,g,k,(h.ext x).to f r,f⟩
def _root_.Go.Vc.Gr.Kj{b c:I}{s:O}{l:List Int}(h:GI S b M s l)(f:Fz [a] M c)(d:a<b.size):GI S b c s l:=have:=h.bg;GI.jf h (f.same _ this.2 bJ)
def wq(o:Rd a b P m)(hP:P+10<=10000000000000000){F:O}{l:List Int}(U:ap m F l)(hb:l.length<=1000000000000):aO cw 115 [vp a 0,O.v F] m λaa p=>∃s c,aa=O.v s/\GI [] m p s c/\c.length<=l.length+1/\(∀w∈c,w∈l\/-1<=w/\w<=1001)/\Rd a b (P+3) p/\Fz [a] m p:=by
 apply sJ (a,0);have g:=o.lt;refine(bP [] U V).mono λ_ Y⟨s,c,e,j,L,H⟩=>⟨s,e,?_⟩;subst L;have ab:=j.len bh;have q:Rs a b m P Y:=⟨H.fz _,o.ext H⟩;have ic:∀{M:I}{Q:Nat},Rs a b m Q M->Q<=P+2->GI [] m M s l->aO cw 84 [vp a 0,O.v (.mk M.size 0 5 5)] (M.push (.cells (bG [.i 0,.i 1,.i 2,.i (-1),.i 1000]) aE)) λy u=>∃i:Int,y=vi i/\
  jE (u.push (.cells (bG [.i i]) aE)) aE [.i 0] 8 s (.mk u.size 0 1 1) λt r=>∃s c,O.v t=O.v s/\GI [] m r s c/\c.length<=l.length+1/\(∀w∈c,w∈l\/-1<=w/\w<=1001)/\Rd a b (P+3) r/\Fz [a] m r:=λ{M Q} rM hQ gM=>
  (CQ rM V [0,1,2,-1,1000] rfl rfl D).mono λ_ u⟨t,e,v,f,d⟩=>⟨t,e,by
   have n:=(gM.ext (J.push M _)).Kj d g;refine GI.kv n f.f D V λy p R A z' q'=>⟨y,_,rfl,R,D,λw x=>?_,?_,A⟩
   ·rcases List.mem_append.1 x with h|h
    ·exact Or.inl h
    ·simp at h v;exact Or.inr V
   ·exact(o.NB f.r A (q' a f.r.lt (by have:=n.bg;omega))).mono V⟩
 refine⟨λT=>?_,λ_=>ic q V j⟩;simp only[kU,au]at T;refine(cB q.r V 2).mono λ_ m2⟨W,e,_,_,z,d⟩=>⟨W,e,λ_=>?_,λ_=>ic (q.to d z) V (j.Kj d g)⟩;have f:=q.to d z;have n:=j.Kj d g;refine(cB f.r V (s.len:Int)).mono λ_ Z⟨i,e,X,k1,K,B⟩=>⟨i,e,?_⟩;have r3:=f.to B K;refine(CQ r3 V [0,1,-1,7,1000,1001] rfl rfl D).mono λ_ m5⟨t,e,v,G,N⟩=>⟨t,e,X,V,?_⟩;have E:=((n.Kj B g).ext (J.push Z _)).Kj N g;obtain⟨w,S,C,q6⟩:=E.set G.f (k:=i.toNat) V t;refine⟨w,s,_,rfl,S,D,λw x=>?_,(o.NB G.r C (q6 a (by have:=E.bg;omega))).mono V,C⟩;rcases di x with h|h
 ·exact Or.inl h
 ·simp at v;exact Or.inr V
def IX(Z:List Nat)(a:Nat)(b:O)(m:I)(P:Nat)(U:Instr->Prop)(v:Value)(c:I):Prop:=∃x d j,v=Vb x d j/\ap (bO Z c) d x.args/\ap (bO Z c) j x.ez/\U x/\Rd a b P c/\Fz [a] m c
def vW(S:List Nat){n s:O}(u:ap m n x.args)(v:ap m s x.ez)(r:x.args.length<=1000000000000/\x.ez.length<=1000000000000):
 aO cw 199 [Vb x n s] m λy k=>∃b c,y=Vb x b c/\GI S m k b x.args/\GI S m k c x.ez/\b.F≠c.F/\J m k:=by
 apply rj
 simp -zeta only[aD,aC]
 intro g i
 obtain⟨d,f⟩:=dG (a:=g) (c:=i) rfl rfl
 have F:g.size=m.size+1:=by simp[g]
 clear_value i
 have E:∀{M l:I},J i M->J M l->∀o,af l m.size o=af M m.size o:=λh t o=>aN (t.same _ (h.lt (f _ D))) o
 refine(bP S (u.ext d) r.1).aI (J.aB i) f λb _ A p j a _=>⟨_,rfl,E (J.aB _) a _,E (J.aB _) a _,E (J.aB _) a _,E (J.aB _) a _,E (J.aB _) a _,?_⟩
 subst j
 refine(bP S (v.ext (d.trans a)) r.2).aI a f λc _ B q j e w=>⟨_,rfl,E a e _,E a e _,E a e _,E a e _,?_⟩
 subst j
 intro C
 have G:=p.bg;have H:=q.bg
 have z:=f g.size D
 exact⟨b,c,rfl,((p.ext e).jf (bd _ _ _ _ V)).bY (λ_ h=>h) d.size,(q.jf (bd _ _ _ _ V)).bY (λ_ h=>h) (d.trans a).size,V,(d.trans w).ai V _ _⟩
end
structure BI(a0:I)(k rb:Nat)(bs:O)(m:I)(Q:Nat)(M:I)(a j:O)(l l':List Int):Prop where
 ga:GI [] a0 M a l
 gj:GI [] a0 M j l'
 ne:a.F≠j.F
 s:Rs rb bs m Q M
 lo:m.size+2<=a0.size/\l.length<=1000000000001/\l'.length<=1000000000001
 hi:a.F≠k/\j.F≠k/\m.size<=k/\k<M.size
section
variable{Z L:List Nat}{f m M c:I}{b k P g Q h:Nat}{d a j:O}{l e:List Int}
def BI.to(g:BI f k b d m Q M a j l e)(n:b<m.size)(i:Fz [b] M c)(r:Rd b d h c):BI f k b d m h c a j l e:=
 have:=g.lo
 ⟨g.ga.Kj i V,g.gj.Kj i V,g.ne,g.s.to i r,g.lo,g.hi.1,g.hi.2.1,g.hi.2.2.1,aP g.hi.2.2.2 i.size⟩
def BI.put(h:BI f k b d m Q M a j l e)(g:Rd b d P m)(o:Nat)(c:List Ce):BI f k b d m Q (ai M k o c) a j l e:=
 have:=h.lo;have:=h.hi;have:=h.ga.bg
 ⟨GI.jf h.ga (bd _ _ _ _ V),GI.jf h.gj (bd _ _ _ _ V),h.ne,h.s.put g V _ _,h.lo,by rw[av];exact h.hi⟩
def BI.ic{U:Instr->Prop}(h:BI f k b d m Q M a j l e)(v:Rd b d P m)(t:∀c∈Z,c<m.size){i:Nat}(y:i=m.size+1)(w:Q<=g){r n q p:Int}(x:U ⟨r,n,q,p,l,e⟩)(s:List Ce):IX Z b d m g U (.agg #[vi r,vi n,vi q,vi p,O.v a,O.v j]) (ai M i 0 s):=by
 have:=h.lo;have:=h.hi;have z:=h.ga.bg;have A:=h.gj.bg;have u:=h.s.put v (k:=i) V 0 s;exact⟨⟨r,n,q,p,l,e⟩,a,j,rfl,Gr.done tI.mono (GI.any (GI.jf h.ga (bd _ _ _ _ V))) (λc o=>by have:=t c o;omega) bh (cg h.lo.2.1 bh),Gr.done tI.mono (GI.any (GI.jf h.gj (bd _ _ _ _ V))) (λc o=>by have:=t c o;omega) bh (cg h.lo.2.2 bh),x,u.r.mono w,u.f⟩
def BI.pick(h:BI f k b d m Q M a j l e)(r:b<m.size)(t:Q<=10000000000000000)(s:∀g∈L,m.size<=g/\g<=k)(p:Int){K:Int->I->Prop}
 (v:∀i c,0<=i->(i<p\/i=0)->BI f k b d m (Q+1) c a j l e->(∀o,af c k o=af M k o)->Fz [b] M c->K i c):aO cw 81 [vp b 0,vi p] M λz c=>eE L M c/\∃i:Int,z=vi i/\K i c:=
 have:=h.lo;have:=h.hi;have:=h.ga.bg
 (cB h.s.r t p).mono λ_ c⟨i,q,w,x,y,n⟩=>⟨n.dm λg u=>by have:=s g u;simp;omega,i,q,v i c w x (h.to r n y) (λo=>aN (n.same k h.hi.2.2.2 bJ) o) n⟩
end
def RN(x y:Instr):Prop:=(∀k,On k x->On k y)/\y.args.length<=1000000000000/\y.ez.length<=1000000000000
def Hp{Z:List Nat}{m:I}{i P:Nat}{w H L:O}(f:∀d∈Z,d<m.size)(b:Rd i w P m)(hP:P+10<=10000000000000000)(U:ap (bO [i] m) H x.args)(hj:ap m L x.ez)(c:x.args.length<=1000000000000/\x.ez.length<=1000000000000)(hx:∃N,On N x):
 aO cw 137 [vp i 0,Vb x H L] m (IX Z i w m (P+3) (RN x)):=by
 apply zY (i,0)
 simp(config:={maxSteps:=1000000}) -zeta only[aD,aC]
 have q:=b.lt
 intro s y
 obtain⟨x2,hl⟩:=dG (a:=s) (c:=y) rfl rfl
 have j:s.size=m.size+1:=by simp[s]
 have s2:y.size=m.size+2:=by simp[y,j]
 clear_value y
 clear_value s
 refine(vW [] ((U.le (bD _ _)).ext x2) (hj.ext x2) c).mono λ_ z⟨u,Q,e,ga,gj,X,x3⟩=>⟨x3.dm hl,_,_,_,_,_,_,e,?_⟩
 intro m4 Y
 obtain⟨S,-,z5⟩:=km (M:=z) (d:=m4) (c:=Y) rfl rfl rfl
 clear_value Y
 have ya:=ga.bg;have yj:=gj.bg
 have X5:=(x2.trans x3).trans S
 have b5:BI y z.size i w m P Y u Q x.args x.ez:=⟨ga.ext S,gj.ext S,X,⟨X5.fz _,b.ext X5⟩,⟨V,oT c.1,oT c.2⟩,V,V,V,V⟩
 have p:∀o∈[z.size,s.size,m.size],m.size<=o/\o<=z.size:=bJ
 obtain⟨r,B,F,C,n,E⟩:=x
 have FA:RN ⟨r,B,F,C,n,E⟩ ⟨r,B,F,C,n,E⟩:=⟨λ_ h=>h,c⟩
 refine b5.pick q V p 5 λah g _ _ a _ f6=>?_
 have A:∀{aa:I}{ab:Nat},BI y z.size i w m ab aa u Q n E->ab<=P+3->IX Z i w m (P+3) (RN ⟨r,B,F,C,n,E⟩) (.agg #[vi r,vi B,vi F,vi C,O.v u,O.v Q]) (ai aa s.size 0 [.i r,.i B,.i F,.i C,.s u,.s Q]):=λh hQ=>h.ic b f j hQ FA _
 have ac:r=16\/r=17->(0:Int)<=0/\(0:Int)<(H.len:Int)/\∃v:Int,af g H.F (H.off+Int.toNat 0*1)=some (vi v)/\IX Z i w m (P+3) (RN ⟨r,B,F,C,n,E⟩) (.agg #[vi 15,vi 0,vi 0,vi 0,O.v (.mk g.size 0 1 1),O.v .nil]) (ai (g.push (.cells (bG [.i v]) aE)) s.size 0 [.i 15,.i 0,.i 0,.i 0,.s (.mk g.size 0 1 1),.s .nil]):=λe=>by
  have hn:0<n.length:=let⟨_,h⟩:=hx;h.arg bJ;have W:=U.len;obtain⟨G,hy⟩:=ag (l:=n) (k:=0) hn;have z6:=a.hi;have t:=J.push g (.cells (bG [.i G]) aE);have r7:=(a.s.ext t).put b (k:=s.size) V 0 [.i 15,.i 0,.i 0,.i 0,.s (.mk g.size 0 1 1),.s .nil];have T:GI [] g (g.push (.cells (bG [.i G]) aE)) (.mk g.size 0 1 1) [G]:=Gr.lit (f:=[[.i G]]) tI.mono (ad _) D rfl rfl ⟨rfl,D,λL cs x K R=>by
   cases L with
   |zero=>simp at K R;rw[<-K,<-R];rfl
   |succ L=>simp at K⟩
  exact⟨cE 0,by simp at W;omega,G,(eg.1 ((U.le (a.s.f.da D)).E hy)).2,⟨15,0,0,0,[G],[]⟩,_,.nil,rfl,GI.done (GI.any (GI.jf T (bd _ _ _ _ bJ))) (λd R=>by have:=f d R;omega) D,⟨rfl,eJ _,D,D⟩,⟨λ_ _=>⟨λh=>by simp at h,λh=>by simp at h⟩,D,D⟩,r7.r.mono V,r7.f⟩
 refine⟨λ_=>⟨λe=>?_,λ_=>⟨λe=>?_,λ_=>⟨λe=>?_,λ_=>A a V⟩⟩⟩,λ_=>⟨λ_=>⟨λK=>?_,λ_=>A a V⟩,λ_=>⟨λ_=>?_,λ_=>⟨λ_=>⟨λe=>?_,λ_=>⟨λe=>?_,λ_=>⟨λe=>?_,λ_=>A a V⟩⟩⟩,λ_=>⟨λ_=>⟨λe=>?_,λ_=>⟨λe=>?_,λ_=>A a V⟩⟩,λ_=>A a V⟩⟩⟩⟩⟩
 ·simp only[aF]at e
  exact(a.put b _ _).ic b f j V ⟨λ_ _=>⟨λh=>by simp at h,λh=>by simp at h⟩,c⟩ _
 ·exact(a.put b _ _).ic b f j V ⟨λ_ _=>⟨λh=>by simp at h,λh=>by simp at h⟩,c⟩ _
 ·simp only[aF]at e
  exact(a.put b _ _).ic b f j V ⟨λ_ h=>⟨λh=>by simp at h,λ_=>h.arg (by simp[e])⟩,c⟩ _
 ·simp only[kU,au]at K
  have W:=a.ga.len bh
  refine a.pick q V p (u.len:Int) λN m7 k0 k1 b7 T f7=>⟨T 4,b7.pick q V p 4 λv R _ _ d g8 f8=>⟨g8 4,k0,V,?_⟩⟩
  obtain⟨ae,g9,f9,q9⟩:=GI.set d.ga (((((x3.trans S).fz [i]).trans f6).trans f7).trans f8) (k:=N.toNat) (by show N.toNat<n.length;have:u.len=n.length:=W;omega) v
  have yb:=d.hi
  refine⟨ae,λo c=>q9 o (by have:=p o c;simp at c;omega),BI.ic (k:=z.size) (l:=n.set N.toNat v) (e:=E) ⟨g9,GI.jf d.gj (q9 _ (kd X)),X,⟨d.s.f.ai (Or.inr V) _ _,b.ai d.s.r d.s.f V _ _⟩,⟨V,by simpa using oT c.1,oT c.2⟩,V,V,V,by rw[av];omega⟩ b f j V ⟨λ_ h=>⟨h.LO,λe=>by simpa using h.arg e⟩,by simpa using c⟩ _⟩
 ·refine(xt r g).any.mono λ_ m7⟨o,e,t⟩=>⟨t.dm λo c=>by have:=p o c;have:=a.hi;omega,o,e,λ_=>?_,λ_=>A (a.to q (t.fz _) (a.s.r.ext t)) V⟩
  exact(a.to q (t.fz _) (a.s.r.ext t)).pick q V p 4 λv R _ _ d _ _=>(d.put b _ _).ic b f j V ⟨λ_ h=>⟨h.LO,h.arg⟩,c⟩ _
 ·exact ac (Or.inl (by simpa using e))
 ·exact ac (Or.inr (by simpa using e))
 ·exact a.pick q V p 4 λv R _ _ d _ _=>(d.put b _ _).ic b f j V ⟨λ_ h=>⟨h.LO,h.arg⟩,c⟩ _
 ·simp only[aF]at e
  exact a.pick q V p 9 λv R _ _ d _ _=>(d.put b _ _).ic b f j V ⟨λ_ h=>⟨λh=>by simp[e]at h,h.arg⟩,c⟩ _
 ·simp only[aF]at e
  exact a.pick q V p 3 λv R _ _ d _ _=>(d.put b _ _).ic b f j V ⟨λ_ h=>⟨λh=>by simp[e]at h,h.arg⟩,c⟩ _
end
section
def RA(M:I)(c:List Ce)(x:dw×O):Prop:=∃a b,c=[.s a,.s b,.i x.1.aV,.i x.1.u,.s x.2]/\ap M a x.1.params/\ap M b x.1.cJ
def RA.mono:nZ 5 RA:=⟨λh⟨a,b,e,c,d⟩=>⟨a,b,e,c.le h,d.le h⟩,λ⟨_,_,e,_⟩=>by rw[e];rfl⟩
def hd(x:dw×O):dw×O:=({x.1 with cL:=[]},x.2)
abbrev Ks(l:List (dw×O)):List Nat:=l.map λx=>x.2.F
structure vk(S:List Nat)(m0 M:I)(dd q:O)(ds:List bB)(l:List (dw×O)):Prop where
 d:cx (bO (q.F::(Ks l++S)) M) dd ds
 g:Gr (Ks l++S) m0 M ji 5 RA q (l.map hd)
 c:∀x∈l,Gr (q.F::(Ks l++S)) m0 M dQ 6 dO x.2 x.1.cL
 nd:(Ks l).Nodup
 lt:∀b∈S,b<M.size
 nq:q.F∉S
 nc:∀x∈l,x.2.F∉S
section
variable{S S' Y:List Nat}{b f M e:I}{c q:O}{d:List bB}{l:List (dw×O)}
def vk.kq(h:vk S b M c q d l):∀x∈l,x.2.F≠q.F:=λx a=>(h.c x a).Kp h.g bh
def vk.re(i:vk S b M c q d l)(o:Fz Y M e)(k:∀a∈Y,a∈S)(n:∀a∈S',(a∈S\/M.size<=a)/\a<e.size)(p:f.size<=b.size):vk S' f e c q d l:=by
 have t:=i.g.bg;have r:∀{a:Nat},a∈Ks l++S'->a∈Ks l++S\/M.size<=a:=λg=>by
  rcases List.mem_append.1 g with h|h
  ·exact Or.inl (bL _ h)
  ·exact(n _ h).1.imp (fC _) id
 have s:∀{a:Nat},a∈q.F::(Ks l++S')->a∈q.F::(Ks l++S)\/M.size<=a:=λg=>by
  rcases List.mem_cons.1 g with h|h
  ·exact Or.inl (by simp[h])
  ·exact(r h).imp (aj _) id
 refine⟨i.d.le (o.bO (λa g=>by simp[k a g]) λa g=>s g),Gr.bY RA.mono (i.g.re RA.mono o (λa g=>by simp[k a g]) (λj=>i.nq (k _ j)) λa g=>r g) (λa g=>Or.inl g) p,λx m=>Gr.bY dO.mono ((i.c x m).re dO.mono o (λa g=>by simp[k a g]) (λj=>i.nc x m (k _ j)) λa g=>s g) (λa g=>Or.inl g) p,i.nd,λa g=>(n a g).2,λj=>?_,λx m j=>?_⟩
 ·rcases(n _ j).1 with h|h
  ·exact i.nq h
  ·omega
 ·have:=(i.c x m).bg;rcases(n _ j).1 with h|h
  ·exact i.nc x m h
  ·omega
def vk.cL(h:vk S b M c q d l){y:dw×O}(a:y∈l)(j:y.1.cL.length<=1000000000000):eX (bO (q.F::S) M) y.2 y.1.cL:=
 have g:Gr (q.F::S) b M dQ 6 dO y.2 y.1.cL:=(h.c y a).re dO.mono (Fz.aB [] M) D D λi f=>Or.inl (by rcases List.mem_cons.1 f with e|e<;>simp[e])
 g.nE dO.mono (by simp;exact⟨h.kq y a,h.nc y a⟩) bh V
def vk.gr(h:vk S b M c q d l)(u:∀x∈l,x.1.cL.length<=1000000000000):Gr S b M ji 5 kX q (l.map (·.1)):=by
 obtain⟨v,n,z,r⟩:=h.g;refine⟨v,n,z,by simpa using r.len,r.size,λk m x t a=>?_⟩;rw[cQ]at a;cases f:l[k]? with
 |none=>simp[f]at a
 |some y=>
  simp[f]at a;subst a;obtain⟨j,g,e,o,p⟩:=r.dt k m (hd y) t (by simp[f]);have i:=ar f;have w:Le (bO (q.F::(Ks l++S)) M) (bO (q.F::S) M):=jL M λg s=>by rcases List.mem_cons.1 s with e|e<;>simp[e]
  exact⟨j,g,y.2,e,o.le w,p.le w,h.cL i (u y i)⟩
def vk.yy{L:List Nat}{k K:I}{u e j:O}{p:dw}{h tb i:Nat}{bc:List Ce}{T:I->Prop}(o:vk S b M c q d l)(x:J M k)(U:Gr (q.F::(Ks l++S)) K k dQ 6 dO j p.cL)(h8:M.size<=K.size)
 (ha:ap (bO (j.F::q.F::(Ks l++S)) k) u p.params)(g:ap (bO (j.F::q.F::(Ks l++S)) k) e p.cJ)(ac:cF M h tb bc)(hi:i<bc.length)(ht:tb≠ji)(w:b.size<=h/\h∈S)(W:∀e∈L,e<k.size/\e≠h/\e≠q.F)(hl:l.length<=1000)(X:J b M)
 (hk:∀r n,vk S b n c r d (l++[(p,j)])->cF n h tb (iX bc i [.s r])->J b n->T n):
 af (k.push (.cells (bG [.s u,.s e,.i p.aV,.i p.u,.s j]) ji)) h i=af k h i/\
 jE (k.push (.cells (bG [.s u,.s e,.i p.aV,.i p.u,.s j]) ji)) ji [.s .nil,.s .nil,.i 0,.i 0,.s .nil] 88 q (.mk k.size 0 1 1) λr n=>eE L (k.push (.cells (bG [.s u,.s e,.i p.aV,.i p.u,.s j]) ji)) n/\fH n h i 1/\(eE L n (ai n h i [.s r])/\T (ai n h i [.s r])):=by
 have A:=ac.ext x
 have Y:=J.push k (.cells (bG [.s u,.s e,.i p.aV,.i p.u,.s j]) ji)
 have yk:=U.bg
 have yq:=o.g.bg
 have zx:=x.size
 have hq:q.F≠h:=λf=>o.nq (by rw[f];exact w.2)
 have Z:j.F∉S:=λs=>by have:=o.lt _ s;omega
 have ck:∀y∈l,y.2.F<M.size:=λy t=>(o.c y t).bg.2
 have P:∀e∈Ks (l++[(p,j)])++S,e∈Ks l++S\/e=j.F:=λe g=>by
  simp only[Ks,fD,cG,fq,List.mem_append,nA]at g⊢;rcases g with(f|f)|f<;>simp[f]
 have H:Gr (Ks (l++[(p,j)])++S) b k ji 5 RA q (l.map hd):=o.g.re RA.mono (x.fz []) D D λe g=>(P e g).imp id λf=>V
 have w1:Le (bO (j.F::q.F::(Ks l++S)) k) (bO (q.F::(Ks (l++[(p,j)])++S)) k):=jL k λe g=>by
  rcases List.mem_cons.1 g with f|f
  ·simp[f]
  ·rcases P e f with f|f
   ·exact aj _ (aj _ f)
   ·simp[f]
 refine⟨aN (Y.same h A.lt) i,Gr.kv (g:=[.s .nil,.s .nil,.i 0,.i 0,.s .nil]) (k:=hd (p,j)) RA.mono bh H ((X.trans x).fz []) ⟨u,e,rfl,ha.le w1,g.le w1⟩ bJ λr n ae ad C G=>?_⟩
 have Q:=A.congr (G h A.lt (kd hq))
 have hr:r.F≠h:=by have:=A.lt;omega
 have B:∀e,e≠h->(ai n h i [.s r])[e]? =n[e]? :=λe g=>bd _ _ _ _ g
 have R:Fz [q.F,h] k (ai n h i [.s r]):=⟨by rw[av];exact C.1,λe g z=>(B e (by simp at z;omega)).trans (G e g (by simp at z;omega))⟩
 have E:Fz [q.F,h] M (ai n h i [.s r]):=(x.fz _).trans R
 have F0:J b (ai n h i [.s r]):=(ad.ai (Or.inr w.1) _ _).ext
 have ak:=C.1
 have aa:∀e∈r.F::(Ks (l++[(p,j)])++S),(e∈q.F::(Ks l++S)\/e=j.F)\/k.size<=e:=λe g=>by
  rcases List.mem_cons.1 g with f|f
  ·rcases C.2 with v|v
   ·exact Or.inl (Or.inl (by simp[f,v]))
   ·exact Or.inr V
  ·exact Or.inl ((P e f).imp (aj _) id)
 have ab:∀e∈r.F::(Ks (l++[(p,j)])++S),e∈q.F::(Ks l++S)\/M.size<=e:=λe g=>(aa e g).elim (λf=>f.imp id λf=>V) λf=>Or.inr V
 have N:∀e∈[q.F,h],e∈q.F::(Ks l++S):=λe g=>by simp at g;rcases g with f|f<;>simp[f,w.2]
 refine⟨λe g=>?_,Q.fH V,λe g=>B e (W e g).2.1,hk r _ ⟨o.d.le (E.bO N ab),?_,λy t=>?_,?_,λe g=>?_,λs=>?_,λy t s=>?_⟩ (cF.ai (m:=n) Q) F0⟩
 ·have F:=W e g
  rw[G e V F.2.2,Y.same e V]
 ·rw[fD]
  obtain⟨g0,F,H,g2⟩:=ae
  exact⟨g0,F,H.congr (B _ hr),g2.mono λcs y=>RA.mono.le (px λe g z=>⟨z,B e λf=>z (by rw[f];simp[w.2])⟩)⟩
 ·rcases List.mem_append.1 t with f|f
  ·exact(o.c y f).re dO.mono E N (by simp;exact⟨o.kq y f,λv=>o.nc y f (v▸w.2)⟩) ab
  ·simp at f
   subst f
   obtain⟨ag,F,ah,rr⟩:=U
   have z:Gr (j.F::q.F::(Ks l++S)) K k dQ 6 dO j p.cL:=⟨ag,F,ah,rr.mono λcs y=>dO.mono.le (jL k λe g=>by
    rcases List.mem_cons.1 g with f|f
    ·simp[f]
    ·exact f)⟩
   exact Gr.bY dO.mono (z.re dO.mono R (λe g=>aj _ (N e g)) (by simp;exact⟨V,λv=>Z (v▸w.2)⟩) λe g=>(aa e g).imp (λf=>f.elim (aj _) λf=>by simp[f]) id) (λe g=>Or.inl g) (by have:=X.size;omega)
 ·simp only[Ks,fD,cG,fq]
  refine List.nodup_append.2 ⟨o.nd,D,λe g v s=>?_⟩
  simp at s g
  obtain⟨z,F,t,rfl⟩:=g
  have:=ck _ t
  simp at this;omega
 ·have:=o.lt e g
  have:=E.size
  omega
 ·rcases C.2 with f|f
  ·exact o.nq (f▸s)
  ·have:=o.lt _ s;omega
 ·rcases List.mem_append.1 t with f|f
  ·exact o.nc y f s
  ·simp at f
   subst f
   exact Z s
end
end
def vV{j:List Nat}{o:I}(X:∀c∈j,c<o.size){ai an:O}{P:List bB}{H:List dw}(hd:cx o ai P)(ht:dP P)(hp:iS o an H)(al:De H):
 aO cw 136 [.agg #[O.v ai,O.v an]] o λT m'=>∃v q f,T=.agg #[O.v v,O.v q]/\vk j o m' v q P f/\f.map (·.1)=H/\J o m':=by
 apply Af
 simp -zeta only[aD,aC]
 intro b a2
 obtain⟨x2,hl⟩:=dG (a:=b) (c:=a2) rfl rfl
 have s1:b.size=o.size+1:=by simp[b]
 clear_value a2
 have aK:=hp.len;have aJ:=al.om
 refine(fJ (b:=b.size::j) (bR X x2.size (hl _ D)) (hd.le x2.le) ht).mono λ_ F⟨v,e,ay,x3⟩=>?_
 subst e
 refine⟨x3.dm hl,_,rfl,?_⟩
 intro m aE ah
 have u2:=x2.trans x3
 obtain⟨x5,B0,g0,s3,s5⟩:=kO (b:=m.size::b.size::j) RA.mono (d:=F) (a:=m) (c:=aE) (h:=ah) rfl rfl rfl
 clear_value ah
 have ak:∀c∈[b.size,o.size],c<F.size:=λc d=>x3.lt (hl c d)
 have i1:=ak b.size D
 have z2:=u2.size
 have A0:vk (m.size::b.size::j) F ah v (.mk F.size 0 0 0) P []:=⟨ay.le (x5.bO λg u=>by
  simp only[Ks,fq,dS,aU]at u;rcases u with e|e|e
  ·exact Or.inr (by rw[e];exact ad _)
  ·exact Or.inr V
  ·exact Or.inl (List.mem_cons.2 e)),g0,D,D,λg u=>by
   simp only[aU]at u;rcases u with e|e|e
   ·omega
   ·omega
   ·have:=X g e;omega,λd=>by
   simp only[aU]at d;rcases d with e|e|e
   ·simp at e;omega
   ·simp at e;omega
   ·have:=X _ e;simp at this;omega,D⟩
 refine eU (n:=H.length) V (λab h=>J F h/\∃s f,vk (m.size::b.size::j) F h v s P f/\cF h m.size qP [.s v,.s s]/\f.map (·.1)=H.take ab) ⟨x5,_,[],A0,B0,rfl⟩ ?_
 rintro ab h aH μ hk ⟨xM,s,f,A,B,Y⟩ aG
 have zM:=xM.size
 refine dit (λy=>?_) λy=>?_
 ·obtain⟨q,hq⟩:=ag (l:=H) (k:=ab) V
  have aa:=al.dt q (ar hq)
  have q3:=aa.params;have q4:=aa.cJ;have qf:=aa.om
  have v6:=u2.trans xM
  obtain⟨aI,g,c,c1,c2,c3,e0,e1,e2,e3,e4⟩:=hp.E hq
  have G:∀{T:Value}{g z:Nat},af o g z=some T->af h g z=some T:=λy=>v6.af y
  refine⟨V,V,_,G e0,_,G e1,_,G e2,_,G e3,_,G e4,?_⟩
  intro m7 r
  obtain⟨W,-,s8⟩:=km (M:=h) (d:=m7) (c:=r) rfl rfl rfl
  clear_value r
  have Z:∀c∈[h.size,b.size,o.size],c<r.size:=λc d=>by
   rcases List.mem_cons.1 d with e|e
   ·omega
   ·have:=ak c e;omega
  have w8:=v6.trans W
  have hT:∀{x:I},h.size<=x.size->∀c∈s.F::(Ks f++(m.size::b.size::j)),c<x.size:=λy c d=>by
   rcases List.mem_cons.1 d with e|e
   ·have:=A.g.bg;omega
   ·rcases List.mem_append.1 e with e|e
    ·obtain⟨w,t,rfl⟩:=List.mem_map.1 e;have:=(A.c w t).bg;omega
    ·have:=A.lt c e;omega
  intro m9
  have x9:J r m9:=J.push _ _
  have aw:Gr (s.F::(Ks f++(m.size::b.size::j))) r m9 dQ 6 dO (.mk r.size 0 0 0) []:=Gr.new _ (ad _) _ _ _
  clear_value m9
  have ax:=c3.len
  refine dU (n:=q.cL.length) (ax▸c3.fS) (λae C w=>J r w/\Gr (s.F::(Ks f++(m.size::b.size::j))) r w dQ 6 dO C (q.cL.take ae)) ⟨x9,aw⟩ ?_
  rintro ae C w I2 μ2 hj ⟨t,Q⟩ aF
  have X2:=w8.trans t
  have z2:=t.size
  have aB:∀c∈[h.size,b.size,o.size],c<w.size:=λc d=>t.lt (Z c d)
  refine dit (λh2=>?_) λh2=>?_
  ·obtain⟨R,K⟩:=ag (l:=q.cL) (k:=ae) V
   obtain⟨pa,pj,ha,aA,U,aj,am,aq,au,av⟩:=(eX.ext X2 c3).E K
   have yk:=Q.bg
   refine⟨V,V,_,U,_,aj,_,am,_,aq,_,au,_,av,?_⟩
   refine(vX (S:=C.F::s.F::(Ks f++(m.size::b.size::j))) (λc d=>?_) ha aA (aa.lE R (ar K))).mono λT aL⟨a',j',e,ac,az,E⟩=>⟨λc d=>E.same c (aB c d),_,_,_,_,_,_,e,?_⟩
   ·rcases List.mem_cons.1 d with e|e
    ·omega
    ·exact hT V c e
   intro aM
   refine Gr.kv (g:=[.i 0,.i 0,.i 0,.i 0,.s .nil,.s .nil]) (k:=R) dO.mono bh (Q.ext dO.mono E) ((t.trans E).fz []) ⟨a',j',rfl,ac,az⟩ bJ λao M3 g3 N z3 aQ=>⟨J.oC ((t.trans E).aK _) N.ext Z,aF V _ _ ⟨N.ext,?_⟩⟩
   rw[bn K];exact g3
  ·rw[cN V]at Q
   have E:∀{M1 w:I},J r M1->J M1 w->∀g,g<r.size->∀z,af w g z=af M1 g z:=λy h' g u z=>aN (h'.same g (y.lt u)) z
   have R:h.size<r.size:=V
   have i2:m.size<r.size:=aP B.lt W.size
   refine⟨s,(B.ext (W.trans t)).cp 1,?_⟩
   refine(bP [] (c1.ext X2) V).aI t Z λa' _ av ga e N K=>⟨_,rfl,E t N _ R _,E t N _ R _,E t N _ R _,E t N _ i2 _,?_⟩
   subst e
   refine(bP [] (c2.ext (w8.trans K)) V).aI K Z λb' _ am gb e U aq=>⟨_,rfl,E K U _ R _,E K U _ R _,E K U _ i2 _,?_⟩
   subst e
   intro az
   have aA:=K.size
   have aL:=aq.size
   have yk:=Q.bg
   have aj:∀{x:I},w.size<=x.size->∀c∈C.F::s.F::(Ks f++(m.size::b.size::j)),c<x.size:=λy c d=>by
    rcases List.mem_cons.1 d with e|e
    ·omega
    ·exact hT V c e
   have ac:ap (bO (C.F::s.F::(Ks f++(m.size::b.size::j))) am) a' q.params:=(GI.done (GI.any ga) (aj (ad _)) V).le (U.da _)
   have au:ap (bO (C.F::s.F::(Ks f++(m.size::b.size::j))) am) b' q.cJ:=GI.done (GI.any gb) (aj N.size) V
   have ll:f.length=ab:=by have:=ry List.length Y;simp at this;omega
   have yq:=A.g.bg
   exact A.yy (i:=1) (bc:=[.s v,.s s]) (tb:=qP) (p:=⟨q.params,q.cJ,q.aV,q.u,q.cL⟩) (L:=[h.size,b.size,o.size]) (W.trans aq) (Q.ext dO.mono (N.trans U)) V ac au B D bh ⟨V,D⟩ (λc d=>by
    have hn:=A.nq;simp only[aU,tH]at d hn;have:=W.size;have:=B.lt;rcases d with e|e|e|e
    ·omega
    ·omega
    ·omega
    ·simp at e) V xM λao m' A' B' x'=>aG V m' ⟨x',ao,_,A',B',by rw[bn hq,fD,Y];rfl⟩
 ·refine⟨v,B.cp 0,s,B.cp 1,?_⟩
  intro x
  rw[cN V]at Y
  have r:Fz [b.size] h x:=(Fz.aB _ h).ai (Or.inl D) _ _
  exact⟨v,s,f,rfl,A.re r D (λg u=>⟨Or.inl (by simp[u]),by have:=X g u;have:=r.size;omega⟩) u2.size,Y,(u2.trans xM).ai V _ _⟩
section
variable{cs:List Ce}{p:dw}{y:Instr}
def Ph{α:Type}{l:List α}{f:Nat}{x:α}(h:l[f]? =some x):l.set f x=l:=by
 apply iy;intro i;rw[jt];split
 ·next e=>
  subst e;rw[h];split
  ·rfl
  ·next hi=>exact absurd (ax h) hi
 ·rfl
section
variable{S L B X:List Nat}{c m M:I}{a q d:O}{b:List bB}{l:List (dw×O)}{e Q f k:Nat}{x:dw×O}
def BS.psh(h:BS B e d m Q M)(o:Obj):BS (M.size::B) e d m Q (M.push o):=⟨h.s.ext (J.push M o),λc b=>by
 have z:=h.s.f.size;rw[Array.size_push];rcases List.mem_cons.1 b with a|a
 ·omega
 ·have:=h.fX c a;omega⟩
def vk.om(h:De (l.map (·.1)))(a:x∈l):RZ x.1:=h.dt x.1 (List.mem_map.2 ⟨x,a,rfl⟩)
def vk.len(h:vk S c M a q b l):q.len=l.length:=by have:=h.g.len bh;simpa using this
def vk.iP(n:vk S c M a q b l)(z:l.length<=1000)(k:l[f]? =some x):∃e d:O,af M q.F (q.off+f*5)=some (O.v e)/\af M q.F (q.off+f*5+1)=some (O.v d)/\af M q.F (q.off+f*5+2)=some (vi x.1.aV)/\af M q.F (q.off+f*5+3)=some (vi x.1.u)/\af M q.F (q.off+f*5+4)=some (O.v x.2)/\ap (bO (q.F::S) M) e x.1.params/\ap (bO (q.F::S) M) d x.1.cJ:=by
 obtain⟨A,m,v,r⟩:=n.g;have y:=ax k;have t:f<m.length:=by have:=r.len;simp at this;omega
 obtain⟨cs,j⟩:=ag t;obtain⟨e,d,h,o,p⟩:=r.dt f cs (hd x) j (by simp[k]);have iP:=v.iP;have w:Le (bO (q.F::(Ks l++S)) M) (bO (q.F::S) M):=jL M λd s=>by rcases List.mem_cons.1 s with h|h<;>simp[h]
 have E:∀i g,cs[i]? =some g->af M q.F (q.off+f*5+i)=some g.v:=λi g u=>by
  have:=iP (f*5+i) g (fK r.size j u);rwa[<-df]at this
 subst h;exact⟨e,d,E 0 _ rfl,E 1 _ rfl,E 2 _ rfl,E 3 _ rfl,E 4 _ rfl,o.le w,p.le w⟩
def vk.it(h:vk S c M a q b l)(g:l.length<=1000)(e:∀x∈l,x.1.cL.length<=1000000000000):IT (bO S M) a q (b,l.map (·.1)):=
 ⟨h.d.le (jL M λf d=>by simp[d]),(h.gr e).nE kX.mono h.nq bh (by simp only[dR];omega)⟩
def vk.ZV(h:vk S c M a q b l)(i:Fz X c M)(o:l.length<=1000)(f:∀x∈l,x.1.cL.length<=1000000000000)(j:k<l.length)(m:kX (bO (q.F::S) M) cs p):
 fH M q.F (q.off+k*5) 5/\∃n,IT (bO S (ai M q.F (q.off+k*5) cs)) a q (b,n):=by
 obtain⟨w,g,-,-⟩:=(h.gr f).set kX.mono i (k:=k) (by simpa using j) m
 have F:Fz [q.F] M (ai M q.F (q.off+k*5) cs):=(Fz.aB _ M).ai (Or.inl D) _ _
 exact⟨w,_,h.d.le (F.bO (λe d=>by simp at d;simp[d]) λe d=>Or.inl (by simp[d])),g.nE kX.mono h.nq bh bJ⟩
def vk.wr(h:vk S c M a q b l)(v:Fz X c M)(j:l[f]? =some x)(A:k<x.1.cL.length)(B:dO (bO (q.F::(Ks l++S)) M) cs y):
 fH M x.2.F (x.2.off+k*6) 6/\vk S c (ai M x.2.F (x.2.off+k*6) cs) a q b (l.set f ({x.1 with cL:=x.1.cL.set k y},x.2)):=by
 have n:=ar j
 have t:x.2.F∈Ks l:=List.mem_map.2 ⟨x,n,rfl⟩
 have C:∀d∈x.2.F::q.F::(Ks l++S),d∈q.F::(Ks l++S):=λd g=>by
  rcases List.mem_cons.1 g with e|e
  ·rw[e];exact aj _ (bL _ t)
  ·exact e
 obtain⟨E,u,-,G⟩:=(h.c x n).set dO.mono v A (dO.le (jL M C) B)
 have F:Fz [x.2.F] M (ai M x.2.F (x.2.off+k*6) cs):=(Fz.aB _ M).ai (Or.inl D) _ _
 have p:∀d∈[x.2.F],d∈Ks l++S:=λd g=>by simp at g;rw[g];exact bL _ t
 have o:Ks (l.set f ({x.1 with cL:=x.1.cL.set k y},x.2))=Ks l:=by
  simp only[Ks,tG];exact Ph (by simp[j])
 have w:(l.set f ({x.1 with cL:=x.1.cL.set k y},x.2)).map hd=l.map hd:=by
  rw[tG];exact Ph (by simp[j,hd])
 have r:∀z∈l.set f ({x.1 with cL:=x.1.cL.set k y},x.2),z=({x.1 with cL:=x.1.cL.set k y},x.2)\/z∈l/\z.2.F≠x.2.F:=λz m=>by
  obtain⟨H,i⟩:=List.mem_iff_getElem?.1 m;rw[jt]at i;split at i
  ·split at i
   ·exact Or.inl (by simpa using i.symm)
   ·simp at i
  ·next hne=>
   refine Or.inr ⟨ar i,λe=>hne ?_⟩;have s:f<(Ks l).length:=by simpa[Ks]using ax j
   exact(List.getElem?_inj s h.nd).1 (by simp[Ks,j,i,e])
 refine⟨E,?_,?_,λz m=>?_,by rw[o];exact h.nd,λd g=>by rw[av];exact h.lt d g,h.nq,λz m=>?_⟩
 ·rw[o];exact h.d.le (F.da λd g=>aj _ (p d g))
 ·rw[o,w];exact h.g.MB RA.mono F p (by simp;exactλe=>h.kq x n e.symm)
 ·rw[o]
  rcases r z m with e|⟨e,s⟩
  ·rw[e];exact u
  ·exact(h.c z e).MB dO.mono F (λd g=>aj _ (p d g)) (by simpa using s)
 ·rcases r z m with e|⟨e,s⟩
  ·rw[e];exact h.nc x n
  ·exact h.nc z e
end
def TO{c:List dw}(h:De c){f k:Nat}{x:Instr}(g:c[f]? =some p)(i:p.cL[k]? =some x)(d:RN x y):De (c.set f {p with cL:=p.cL.set k y}):=by
 have b:=h.dt p (ar g);refine⟨by simpa using h.iL,by simpa using h.om,λq j=>?_⟩;rcases di j with e|e
 ·exact h.dt q e
 ·subst e;refine⟨b.params,b.cJ,by simpa using b.iL,by simpa using b.om,λl z a=>?_,λz a=>?_⟩
  ·simp only[jt]at a;split at a
   ·next e=>
    subst e;split at a
    ·simp at a;subst a;exact d.1 _ (b.cL _ _ i)
    ·simp at a
   ·exact b.cL _ _ a
  ·rcases di a with e|e
   ·exact b.lE z e
   ·rw[e];exact d.2
section
variable{a:List Nat}{m:I}{b P:Nat}{c:O}
def Hq(hS:∀o∈a,o<m.size)(ae:b∈a)(Q:Rd b c P m)(hP:P+100<=10000000000000000){ac p:O}{u:List bB×List dw}(ai:IT (bO a m) ac p u)(X:UI u):aO cw 82 [vp b 0,.agg #[O.v ac,O.v p]] m (PP IT UI a b c m (P+11)):=by
 apply zZ (b,0);simp -zeta only[aD,aC];have C:=Q.lt;intro j aa;have K:BS [j.size,m.size] b c m P aa:=BS.psh (BS.kK (S:=a) Q _).1 _;have Y:J m aa:=(J.push m _).trans (J.push j _);clear_value aa;refine(vV (K.hS hS) ((ai.1.le (bD _ _)).ext Y) (sN X.2) (eH.mono (iS.le (bD _ _) ai.2) Y λ_ _=>kX.le Y.le) X.1).mono λ_ n⟨B,q,f,e,A,hl,x3⟩=>⟨(K.lw C λ_ h=>h).dm (x3.fz _),B,q,e,?_⟩;have b3:=K.to (x3.fz _) (K.s.r.ext x3);intro m4 R;obtain⟨b5,-,-⟩:=b3.box (S:=a) (m1:=m4) (m2:=R) rfl rfl rfl;obtain⟨x5,-,-⟩:=km (M:=n) (d:=m4) (c:=R) rfl rfl rfl;clear_value R;have A5:vk ([n.size,j.size,m.size]++a) m R B q u.1 f:=A.re (x5.fz []) D (λd g=>⟨by
  rcases List.mem_cons.1 g with e|e
  ·exact Or.inr V
  ·exact Or.inl e,b5.hS hS d g⟩) Y.size
 refine b5.pick C V (λ_ h=>h) 2 λao m6 i0 i1 b6 f6=>?_;have hB:∀d∈[b],d∈[n.size,j.size,m.size]++a:=by simp[ae]
 have W:∀{w M':I}{f:List (dw×O)},vk ([n.size,j.size,m.size]++a) m w B q u.1 f->Fz [b] w M'->vk ([n.size,j.size,m.size]++a) m M' B q u.1 f:=λh L=>h.re L hB (λd g=>⟨Or.inl g,aP (h.lt d g) L.size⟩) (ad _);refine⟨λU w=>∃r:Nat,U=r/\r<=2/\BS [n.size,j.size,m.size] b c m (P+11 -5*r) w/\∃f,vk ([n.size,j.size,m.size]++a) m w B q u.1 f/\De (f.map (·.1)),λU _=>U.toNat,⟨(ao+1).toNat,by rw[aQ V V];omega,V,⟨⟨b6.s.f,b6.s.r.mono V⟩,b6.fX⟩,f,W A5 f6,hl▸X.1⟩,?_⟩;rintro U w ⟨r,rfl,hk,d,f,A,t⟩;refine⟨λh=>?_,λ_=>d.ic IT.mn Q D (x:=(u.1,f.map (·.1))) (A.it (by have:=t.om;simp at this;omega) λy i=>(vk.om t i).om) ⟨t,X.2⟩ V _⟩;simp only[kU,au]at h;have aB:=A.len;have l4:f.length<=4:=by simpa using t.om
 have l0:0<f.length:=by simpa using t.iL
 refine d.pick C V (λ_ h=>h) (q.len:Int) λL m7 f0 f1 b7 f7=>?_;have Z:=W A f7;obtain⟨y,i⟩:=ag (l:=f) (k:=L.toNat) V;obtain⟨-,-,-,-,-,-,g7,-,-⟩:=Z.iP V i;have F:=vk.om t (ar i);have c7:=Z.cL (ar i) F.om;have az:=c7.len;have ay:=F.iL;refine⟨f0,V,y.2,g7,b7.pick C V (λ_ h=>h) (y.2.len:Int) λap T j0 j1 b8 f8=>?_⟩;have v:=W Z f8;obtain⟨-,-,-,-,-,-,g8,-,-⟩:=v.iP V i;have c8:=v.cL (ar i) F.om;obtain⟨aq,E⟩:=ag (l:=y.1.cL) (k:=ap.toNat) V;obtain⟨aw,jj,ha,hj,e0,e1,e2,e3,e4,e5⟩:=c8.E E;have fX:∀{d s:Nat}{ak:Value},af (bO (q.F::([n.size,j.size,m.size]++a)) T) d s=some ak->af T d s=some ak:=λh=>(eg.1 h).2;refine⟨f0,V,y.2,g8,f0,V,y.2,g8,j0,V,_,fX e0,_,fX e1,_,fX e2,_,fX e3,_,fX e4,_,fX e5,?_⟩;have hZ:∀o∈q.F::(Ks f++([n.size,j.size,m.size]++a)),o<T.size:=λo hc=>by
  rcases List.mem_cons.1 hc with e|e
  ·rw[e];exact v.g.bg.2
  ·rcases List.mem_append.1 e with e|e
   ·obtain⟨ab,z,rfl⟩:=List.mem_map.1 e;exact(v.c ab z).bg.2
   ·exact v.lt o e
 refine(Hp hZ b8.s.r V (ha.le (jL _ (by simp[ae]))) (hj.le (bD _ _)) (F.lE aq (ar E)) ⟨_,F.cL _ _ E⟩).mono λ_ m9⟨G,a',j',e,am,an,g,r9,N⟩=>⟨(b8.lw C λ_ h=>h).dm N,_,_,_,_,_,_,e,?_⟩;have H:=W v N;have z:=b8.to N r9;obtain⟨ab,al⟩:=H.wr z.s.f i (ax E) (cs:=[.i G.op,.i G.dst,.i G.bN,.i G.bW,.s a',.s j']) (y:=G) ⟨a',j',rfl,am,an⟩;have yc:=(H.c y (ar i)).bg;have ny:=H.nc y (ar i);have ah:∀s d,d∈q.F::([n.size,j.size,m.size]++a)->d≠b->af m9 d s=af T d s:=λs d g hn=>aN (N.same d (hZ d ((List.mem_cons.1 g).elim (λe=>by simp[e]) λe=>aj _ (fC _ e))) (by simpa using hn)) s;have yq:=H.g.bg;have aA:=z.fX n.size D;refine⟨ah _ _ D V,ah _ _ D V,j0,V,ab,λd g=>bd _ _ _ _ λe=>ny (by rw[<-e];exact bL _ g),⟨r -1,?_,V,⟨⟨z.s.f.ai (Or.inr V) _ _,(Q.ai z.s.r z.s.f V _ _).mono V⟩,λo hc=>by rw[av];exact z.fX o hc⟩,_,al,?_⟩,?_⟩
 ·rw[aQ V V];omega
 ·rw[tG];exact TO t (by simp[i]) E g
 ·rw[aQ V V];show((r:Int) -1).toNat<(r:Int).toNat;omega
end
end
section
variable{m:I}{b:Nat}{a j:O}
def BI.kK{L:List Nat}{g M:I}{k Q:Nat}{i:O}{p q:List Int}(h:BI g k b i m Q M a j p q)(o:b<m.size)(u:Q<=10000000000000000)(s:∀e∈L,m.size<=e/\e<=k)(d:List Int){f:List Ce}{n:Nat}(w:f=d.map Ce.i)(A:n=d.length)(z:0<d.length/\d.length<=100){K:Int->I->Prop}
 (y:∀t c,BI g k b i m (Q+1) c a j p q->K t c):aO cw 84 [vp b 0,O.v (.mk M.size 0 n n)] (M.push (.cells (bG f) aE)) λC c=>eE L (M.push (.cells (bG f) aE)) c/\∃t:Int,C=vi t/\K t c:=
 have:=h.hi
 have x:=J.push M (.cells (bG f) aE)
 have D:=x.size
 (CQ h.s u d w A z).mono λ_ c⟨t,r,_,B,l⟩=>⟨l.dm λe v=>by have:=s e v;simp only[nA];omega,t,r,y t c ((h.to o (x.fz _) (h.s.r.ext x)).to o l B.r)⟩
def Gb{Z:List Nat}{P:Nat}{t:O}{x:Instr}(p:∀c∈Z,c<m.size)(d:Rd b t P m)(hP:P+20<=10000000000000000)(Y:ap m a x.args)(hj:ap m j x.ez)(q:x.args.length<=1000000000000/\x.ez.length<=1000000000000):
 aO cw 139 [vp b 0,Vb x a j] m (IX Z b t m (P+4) λ_=>True):=by
 apply yP (b,0)
 simp(config:={maxSteps:=1000000}) -zeta only[aD,aC]
 have r:=d.lt
 intro w i
 obtain⟨J,E⟩:=dG (a:=w) (c:=i) rfl rfl
 have k:w.size=m.size+1:=by simp[w]
 have s2:i.size=m.size+2:=by simp[i,k]
 clear_value i
 clear_value w
 refine(vW [] (Y.ext J) (hj.ext J) q).mono λ_ s⟨N,R,n,Q,G,aa,U⟩=>⟨U.dm E,_,_,_,_,_,_,n,?_⟩
 intro m4 H
 obtain⟨K,-,z5⟩:=km (M:=s) (d:=m4) (c:=H) rfl rfl rfl
 clear_value H
 have ya:=Q.bg;have yj:=G.bg
 have L:=(J.trans U).trans K
 have W:BI i s.size b t m P H N R x.args x.ez:=⟨Q.ext K,G.ext K,aa,⟨L.fz _,d.ext L⟩,⟨V,oT q.1,oT q.2⟩,V,V,V,V⟩
 have v:∀C∈[s.size,w.size,m.size],m.size<=C/\C<=s.size:=bJ
 refine W.pick r V v 6 λad z _ _ c _ f6=>?_
 have y6:=c.hi
 have T:∀{y:O}{S:List Int},GI [] i z y S->S.length<=1000000000000->aO cw 115 [vp b 0,O.v y] z λB g=>eE [s.size,w.size,m.size] z g/\∃f,B=O.v f/\∃h,GI [] z g f h/\h.length<=1000000000001/\Rd b t (P+4) g/\Fz [b] z g:=λo E=>
  (wq c.s.r V (ap.le (bD _ _) (o.done D E)) E).mono λ_ g⟨f,h,n,X,F,_,A,u⟩=>⟨u.dm λC q=>by have:=v C q;simp only[nA];omega,f,n,h,X,V,A,u⟩
 refine⟨λ_=>c.pick r V v 26 λB I _ _ e _ _=>(e.put d _ _).ic d p k V trivial _,λ_=>⟨λ_=>c.kK r V v [0,1,-1,99] rfl rfl D λB I e=>(e.put d _ _).ic d p k V trivial _,λ_=>⟨λ_=>c.kK r V v [0,1,5,-1,1000,2000] rfl rfl D λB I e=>(e.put d _ _).ic d p k V trivial _,λ_=>⟨λ_=>c.kK r V v [0,1,-1,99] rfl rfl D λB I e=>(e.put d _ _).ic d p k V trivial _,λ_=>⟨λ_=>?_,λ_=>⟨λ_=>?_,λ_=>c.ic d p k V trivial _⟩⟩⟩⟩⟩⟩
 ·refine(T c.ga q.1).mono λ_ g⟨y,f,n,h,o,F,A,u⟩=>⟨y,f,n,?_⟩
  have ab:=o.bg
  have ac:=c.s.f.size
  have l:=c.to r u A
  have e:BI i s.size b t m (P+4) g f R h x.ez:=⟨o.bY D V,l.gj,by have:=G.bg;omega,l.s,⟨V,F,c.lo.2.2⟩,V,V,l.hi.2.2⟩
  exact(e.put d _ _).ic d p k V trivial _
 ·refine(T c.gj q.2).mono λ_ g⟨y,f,n,h,o,F,A,u⟩=>⟨y,f,n,?_⟩
  have ab:=o.bg
  have ac:=c.s.f.size
  have l:=c.to r u A
  have e:BI i s.size b t m (P+4) g N f x.args h:=⟨l.ga,o.bY D V,V,l.s,⟨V,c.lo.2.1,F⟩,V,V,l.hi.2.2⟩
  exact(e.put d _ _).ic d p k V trivial _
end
section
def AD(S:List Nat)(b:Nat)(c:O)(m:I)(P:Nat)(v:Value)(a:I):Prop:=∃s d,v=O.v s/\cx (bO S a) s d/\Rd b c P a/\Fz [b] m a
structure DD(S:List Nat)(rb:Nat)(bs:O)(m:I)(Q:Nat)(M:I)(s:O)(ds:List bB):Prop where
 g:YE S m M s ds
 r:Rs rb bs m Q M
 l:0<ds.length/\ds.length<=100
section
variable{a:List Nat}{b P Q h g:Nat}{c s:O}{m M f:I}{e:List bB}
def DD.to(d:DD a b c m Q M s e)(i:b∈a/\b<m.size)(g:Fz [b] M f)(r:Rs b c m h f):DD a b c m h f s e:=⟨d.g.dW il.mono g (by simp;exact i),r,d.l⟩
def DD.ext(h:DD a b c m Q M s e)(x:J M f):DD a b c m Q f s e:=⟨h.g.ext il.mono x,h.r.ext x,h.l⟩
def DD.fX(h:DD a b c m Q M s e)(g:∀d∈a,d<m.size):∀d∈s.F::a,d<M.size:=λd i=>(List.mem_cons.1 i).elim (λf=>f▸h.g.bg.2) λf=>aP (g d f) h.r.f.size
def DD.lit(h:DD a b c m Q M s e)(f:∀d∈a,d<m.size)(l:List Int){cs:List Ce}{n:Nat}(d:cs=l.map Ce.i)(g:n=l.length)(i:l.length<=100):ap (bO (s.F::a) (M.push (.cells (bG cs) aE))) (.mk M.size 0 n n) l:=ap.lit aE l (h.fX f) d g V
def DD.ic(h:DD a b c m Q M s e)(f:∀d∈a,d<m.size)(d:Q<=g):AD a b c m g (O.v s) M:=⟨s,e,rfl,h.g.done il.mono f bh (by have:=h.l;omega),h.r.r.mono d,h.r.f⟩
def DD.set(h:DD a b c m Q M s e)(o:∀f∈a,f<m.size)(i:Rd b c P m)(n:Q<=g){k:Int}(q:0<=k/\k<(e.length:Int)){cs:List Ce}{d:bB}(p:il (bO (s.F::a) M) cs d):
 0<=k/\k<(s.len:Int)/\fH M s.F (s.off+k.toNat*3) 3/\AD a b c m g (O.v s) (ai M s.F (s.off+k.toNat*3) cs):=by
 have r:=h.g.len bh
 have y:=h.g.bg
 obtain⟨w,l,f,j⟩:=h.g.set il.mono h.r.f (k:=k.toNat) V p
 exact⟨q.1,V,w,s,_,rfl,l.done il.mono o bh (by have:=h.l;simp;omega),(i.NB h.r.r f (j b (by have:=i.lt;omega))).mono n,f⟩
def DD.iV(h:DD a b c m Q M s e)(i:∀d∈a,d<m.size)(k:Rd b c P m)(q:Q<=g){d:List Ce}{n:Nat}(l:List (bB×List Ce))(u:∀x∈l,il (bO (s.F::a) M) x.2 x.1)(t:d=l.flatMap (·.2))(v:n=l.length)(w:l.length<=100):
 jE (M.push (.cells (bG d) jR)) jR [.i 0,.i 0,.s .nil] 40 s (.mk M.size 0 n n) λr f=>AD a b c m g (O.v r) f:=by
 have x:=J.push M (.cells (bG d) jR)
 have A:=h.g.bg
 have H:=(Bl il.mono (h.fX i) jR l u t v).done il.mono (h.fX i) bh bJ
 have y:=h.l
 refine Gr.all (g:=[.i 0,.i 0,.s .nil]) il.mono bh (h.ext x).g (h.ext x).r.f H bJ λr z p j B o=>⟨r,_,rfl,p.done il.mono i bh bJ,(k.NB (h.ext x).r.r j (o b (h.ext x).r.r.lt (by have:=k.lt;omega))).mono q,j⟩
def IW(g:∀z∈a,z<m.size)(Q:b∈a)(v:Rd b c P m)(hP:P+100<=10000000000000000):aO cw 138 [vp b 0] m (AD a b c m (P+6)):=by
 apply BL (b,0);have hr:=v.lt;have w:b∈a/\b<m.size:=⟨Q,hr⟩;refine(vZ g Q v V).mono λ_ m1⟨s,e,h,g1,af,d1,f1⟩=>⟨s,h,?_⟩;have T:DD a b c m (P+1) m1 s e:=⟨g1,⟨f1,d1⟩,by have:=pt e af;omega⟩;have sl:s.len=e.length:=g1.len bh;have dl:=T.l;refine(cB d1 V (s.len:Int)).mono λ_ m2⟨E,h,k0,k1,d2,f2⟩=>⟨E,h,?_⟩;have D2:=T.to w f2 (T.r.to f2 d2);have O:0<=E/\E<(e.length:Int):=V;refine(cB d2 V 14).mono λ_ F⟨ag,h,_,_,d3,f3⟩=>⟨ag,h,?_⟩;have k:=D2.to w f3 (D2.r.to f3 d3);have R:∀{M:I},TD M .nil []:=⟨rfl,eJ _,D,D⟩;have x:∀{M f:I},J M f->Le (bO (s.F::a) M) (bO (s.F::a) f):=λaa=>aa.da _;refine⟨λ_=>?_,λ_=>⟨λ_=>?_,λ_=>⟨λ_=>?_,λ_=>⟨λ_=>?_,λ_=>⟨λ_=>?_,λ_=>⟨λ_=>?_,λ_=>k.ic g V⟩⟩⟩⟩⟩⟩
 ·refine(CQ k.r V [-1,5,0,2] rfl rfl D).mono λ_ o⟨t,h,_,G,u⟩=>⟨t,h,?_⟩;have r:=(k.ext (J.push F _)).to w u G;refine(CQ G V [0,1,5] rfl rfl D).mono λ_ l⟨q,h,_,A,y⟩=>⟨q,h,?_⟩;have p:=(r.ext (J.push o _)).to w y A;exact p.set g v V O (d:=⟨t,q,[]⟩) ⟨.nil,rfl,R⟩
 ·refine(CQ k.r V [-1,0,4,5] rfl rfl D).mono λ_ o⟨t,h,_,G,u⟩=>⟨t,h,?_⟩;have r:=(k.ext (J.push F _)).to w u G;have N:=r.lit g [t] (cs:=[.i t]) (n:=1) rfl rfl D;refine CI _ λl y=>?_;have p:=(r.ext (J.push o _)).ext y;have Y:=p.lit g [0,0,0,0] (cs:=[.i 0,.i 0,.i 0,.i 0]) (n:=4) rfl rfl D;refine CI _ λq B=>?_;have H:=(p.ext (J.push l _)).ext B;have Z:=H.lit g [] (cs:=[]) (n:=0) rfl rfl D;refine CI _ λA C=>?_;have K:=(H.ext (J.push q _)).ext C;have L:=(J.push q (.cells (bG []) aE)).trans C;have W:=((J.push l (.cells (bG [.i 0,.i 0,.i 0,.i 0]) aE)).trans B);have z:=wI (K.fX g) oR [([t],.mk o.size 0 1 1),([0,0,0,0],.mk l.size 0 4 4),([],.mk q.size 0 0 0)] D (by
   simp only[aU,jS,Bc,forall_eq_or_imp,forall_eq];exact⟨N.le (x ((y.trans W).trans L)),Y.le (x (B.trans L)),Z.le (x C)⟩) (c:=[.s (.mk o.size 0 1 1),.s (.mk l.size 0 4 4),.s (.mk q.size 0 0 0)]) (b:=3) rfl rfl
  exact(K.ext (J.push A _)).set g v V O (d:=⟨0,0,_⟩) ⟨_,rfl,z⟩
 ·have N:=k.lit g [cW (E+1)] (cs:=[.i (cW (E+1))]) (n:=1) rfl rfl D;refine CI _ λl y=>?_;have p:=(k.ext (J.push F _)).ext y;have z:=wI (p.fX g) oR [([cW (E+1)],.mk F.size 0 1 1)] D (by
   simp only[aU,jS,Bc,forall_eq];exact N.le (x y)) (c:=[.s (.mk F.size 0 1 1)]) (b:=1) rfl rfl
  exact(p.ext (J.push l _)).set g v V O (d:=⟨0,0,_⟩) ⟨_,rfl,z⟩
 ·refine(CQ k.r V [0,2,1] rfl rfl D).mono λ_ o⟨t,h,_,G,u⟩=>⟨t,h,?_⟩;have r:=(k.ext (J.push F _)).to w u G;exact r.iV g v V [(⟨2,t,[]⟩,[.i 2,.i t,.s .nil])] (by simp;exact⟨.nil,rfl,R⟩) rfl rfl D
 ·refine(cB k.r.r V 2).mono λ_ o⟨t,h,_,_,d4,u⟩=>⟨t,h,?_⟩;have r:=k.to w u (k.r.to u d4);have N:=r.lit g [] (cs:=[]) (n:=0) rfl rfl D;refine CI _ λl y=>?_;have p:=(r.ext (J.push o _)).ext y;have Y:=p.lit g [2] (cs:=[.i 2]) (n:=1) rfl rfl D;refine CI _ λq B=>?_;have H:=(p.ext (J.push l _)).ext B;have Z:=H.lit g [] (cs:=[]) (n:=0) rfl rfl D;refine CI _ λA C=>?_;have K:=(H.ext (J.push q _)).ext C;have a4:=K.lit g [] (cs:=[]) (n:=0) rfl rfl D;refine CI _ λm8 x8=>?_;have D8:=(K.ext (J.push A _)).ext x8;have X:=(J.push A (.cells (bG []) aE)).trans x8;have L:=(J.push q (.cells (bG []) aE)).trans C;have W:=((J.push l (.cells (bG [.i 2]) aE)).trans B);have z:=wI (D8.fX g) oR [([],.mk o.size 0 0 0),([2],.mk l.size 0 1 1),([],.mk q.size 0 0 0),([],.mk A.size 0 0 0)] D (by
   simp only[aU,jS,Bc,forall_eq_or_imp,forall_eq];exact⟨N.le (x (((y.trans W).trans L).trans X)),Y.le (x ((B.trans L).trans X)),Z.le (x (C.trans X)),a4.le (x x8)⟩) (c:=[.s (.mk o.size 0 0 0),.s (.mk l.size 0 1 1),.s (.mk q.size 0 0 0),.s (.mk A.size 0 0 0)]) (b:=4) rfl rfl
  have U:=D8.ext (J.push m8 (.cells (bG [.s (.mk o.size 0 0 0),.s (.mk l.size 0 1 1),.s (.mk q.size 0 0 0),.s (.mk A.size 0 0 0)]) oR));refine(cB U.r.r V 3).mono λ_ ah⟨ab,h,j0,j1,ae,G⟩=>⟨ab,h,j0,bJ,D,?_⟩;have ac:=U.to w G (U.r.to G ae);have c':=(eH.le z (G.da (S:=s.F::a) (by simp[Q])) λad aa=>mJ.le (G.da (by simp[Q])) ad aa).J2 (i:=ab.toNat) (j:=4) V D;exact ac.set g v V O (d:=⟨t,0,_⟩) ⟨_,rfl,c'⟩
 ·exact k.iV g v V [(⟨0,0,[]⟩,[.i 0,.i 0,.s .nil]),(⟨3,0,[]⟩,[.i 3,.i 0,.s .nil])] (by simp;exact⟨⟨.nil,rfl,R⟩,⟨.nil,rfl,R⟩⟩) rfl rfl D
end
end
section
def Tr{α:Type}(_:α):Prop:=True
section
variable{a:List Nat}{m:I}{b P:Nat}{c:O}
def uz(hS:∀A∈a,A<m.size)(aa:b∈a)(h0:Rd b c P m)(hP:P+200<=10000000000000000){ao ap:O}{x:List bB×List dw}(v:IT (bO a m) ao ap x)(aq:UI x)(aB:Int):aO cw 83 [vp b 0,.agg #[O.v ao,O.v ap],vi aB] m (PP IT Tr a b c m (P+10)):=by
 apply yO (b,0);simp(config:={maxSteps:=1000000}) -zeta only[aD,aC];have G:=h0.lt;intro d ae;have b2:BS [d.size,m.size] b c m P ae:=BS.psh (BS.kK (S:=a) h0 _).1 _;have x2:J m ae:=(J.push m _).trans (J.push d _);have s1:d.size=m.size+1:=by simp[d]
 have t2:IT (bO ([d.size,m.size]++a) ae) ao ap x:=IT.mn _ _ _ _ _ (x2.bO λh s=>by
  simp at s;rcases s with e|e|e
  ·exact Or.inr V
  ·exact Or.inr V
  ·exact Or.inl e) v
 clear_value ae;refine b2.pick G V (λ_ p=>p) aB λaR m3 _ _ b3 f3=>?_;have t3:=IT.mn _ _ _ _ _ (BS.le (B:=[d.size,m.size]) aa f3) t2;refine⟨λ_=>b3.ic IT.mn h0 D t3 trivial V _,λ_=>?_⟩;refine(vV (b3.hS hS) (t3.1.le (bD _ _)) (sN aq.2) (iS.le (bD _ _) t3.2) aq.1).mono λ_ f⟨T,q,E,e,A4,hl,x4⟩=>⟨(b3.lw G λ_ p=>p).dm (x4.fz _),T,q,e,?_⟩;have b4:=b3.to (x4.fz _) (b3.s.r.ext x4);intro m5 m6;obtain⟨b6,-,-⟩:=b4.box (S:=a) (m1:=m5) (m2:=m6) rfl rfl rfl;obtain⟨x6,-,-⟩:=km (M:=f) (d:=m5) (c:=m6) rfl rfl rfl;clear_value m6;have A6:vk ([f.size,d.size,m.size]++a) m m6 T q x.1 E:=A4.re (x6.fz []) D (λh s=>⟨by
  rcases List.mem_cons.1 s with e|e
  ·exact Or.inr V
  ·exact Or.inl e,b6.hS hS h s⟩) b3.s.f.size
 have ok:De (E.map (·.1)):=hl▸aq.1;have aY:=A6.len;have l4:E.length<=4:=by simpa using ok.om
 have l0:0<E.length:=by simpa using ok.iL
 have cl:∀g∈E,g.1.cL.length<=1000000000000:=λg C=>(vk.om ok C).om;refine b6.pick G V (λ_ p=>p) (q.len:Int) λr i f0 f1 b7 f7=>?_;have A7:=A6.re f7 (S':=[f.size,d.size,m.size]++a) (by simp[aa]) (λh s=>⟨Or.inl s,b7.hS hS h s⟩) (ad _);obtain⟨g,C⟩:=ag (l:=E) (k:=r.toNat) V;obtain⟨ac,h,g0,g1,g2,g3,g4,aL,aM⟩:=A7.iP V C;refine⟨f0,V,ac,g0,h,g1,_,g2,_,g3,g.2,g4,?_⟩;intro m8 m9;obtain⟨b9,-,-⟩:=b7.box (S:=a) (m1:=m8) (m2:=m9) rfl rfl rfl;obtain⟨x9,-,-⟩:=km (M:=i) (d:=m8) (c:=m9) rfl rfl rfl;clear_value m9;have A9:vk ([i.size,f.size,d.size,m.size]++a) m m9 T q x.1 E:=A7.re (x9.fz []) D (λh s=>⟨by
  rcases List.mem_cons.1 s with e|e
  ·exact Or.inr V
  ·exact Or.inl e,b9.hS hS h s⟩) (ad _)
 have ic:∀{n:I}{W:O}{au:List bB×List dw}{Q:Nat},BS [i.size,f.size,d.size,m.size] b c m Q n->IT (bO ([i.size,f.size,d.size,m.size]++a) n) W q au->Q<=P+10->PP IT Tr a b c m (P+10) (.agg #[O.v W,O.v q]) (ai n d.size 0 [.s W,.s q]):=λh v p=>h.ic IT.mn h0 D v trivial p _;refine⟨λ_=>ic b9 (A9.it V cl) V,λhn=>?_⟩;have hB:∀h∈[b],h∈[i.size,f.size,d.size,m.size]++a:=by simp[aa]
 have Y:∀{n o:I}{E:List (dw×O)},vk ([i.size,f.size,d.size,m.size]++a) m n T q x.1 E->Fz [b] n o->vk ([i.size,f.size,d.size,m.size]++a) m o T q x.1 E:=λp r=>p.re r hB (λh s=>⟨Or.inl s,aP (p.lt h s) r.size⟩) (ad _);refine b9.pick G V (λ_ p=>p) 8 λaR K _ _ j aw=>?_;have X:=Y A9 aw;have az:Le (bO (q.F::([f.size,d.size,m.size]++a)) i) (bO (q.F::([i.size,f.size,d.size,m.size]++a)) K):=(x9.bO λh s=>by
  simp only[cU,dS,aU]at s⊢;rcases s with e|e|e
  ·exact Or.inl (Or.inl e)
  ·exact Or.inr V
  ·exact Or.inl (Or.inr e)).trans (aw.da (by simp[aa]))
 have ha:=aL.le az;have s:=aM.le az;have aA:∀{n o:I},Fz [b] n o->Le (bO (q.F::([i.size,f.size,d.size,m.size]++a)) n) (bO (q.F::([i.size,f.size,d.size,m.size]++a)) o):=λr=>r.da (by simp[aa]);have H:=vk.om ok (ar C);have done:∀{n:I}{Q:Nat}{F:List Ce}{aF:dw},BS [i.size,f.size,d.size,m.size] b c m Q n->vk ([i.size,f.size,d.size,m.size]++a) m n T q x.1 E->kX (bO (q.F::([i.size,f.size,d.size,m.size]++a)) n) F aF->Q<=P+10->
  0<=r/\r<(q.len:Int)/\fH n q.F (q.off+r.toNat*5) 5/\(eE [i.size,f.size,d.size,m.size] n (ai n q.F (q.off+r.toNat*5) F)/\PP IT Tr a b c m (P+10) (.agg #[O.v T,O.v q]) (ai (ai n q.F (q.off+r.toNat*5) F) d.size 0 [.s T,.s q])):=λ{n Q F aF} h N hp hQ=>by
  obtain⟨Z,ps,tt⟩:=N.ZV h.s.f V cl (k:=r.toNat) V hp
  have yq:=N.g.bg
  exact⟨f0,V,Z,λA U=>bd _ _ _ _ λe=>N.nq (by rw[<-e];exact bL _ U),ic ⟨h.s.put h0 yq.1 _ _,λA U=>by rw[av];exact h.fX A U⟩ tt hQ⟩
 have w:∀{n o:I}{Q:Nat},BS [i.size,f.size,d.size,m.size] b c m Q n->Fz [b] n o->∀t,af o i.size t=af n i.size t:=λh r t=>kg r G (h.fX _ D) t;have G4:∀{n o:I}{Q:Nat},BS [i.size,f.size,d.size,m.size] b c m Q n->Fz [b] n o->∀t,af o f.size t=af n f.size t:=λh r t=>kg r G (h.fX _ D) t;have an:=X.cL (ar C) H.om;have ay:=j.hS hS;have lq:∀A∈q.F::([i.size,f.size,d.size,m.size]++a),A<K.size:=λA U=>(List.mem_cons.1 U).elim (λe=>e▸X.g.bg.2) (ay A);have kK:∀(ls:List Int){F:List Ce}{ah:Nat},F=ls.map Ce.i->ah=ls.length->0<ls.length/\ls.length<=100->∀{al:Int->I->Prop},(∀v o,BS [i.size,f.size,d.size,m.size] b c m (P+4) o->vk ([i.size,f.size,d.size,m.size]++a) m o T q x.1 E->Le (bO (q.F::([i.size,f.size,d.size,m.size]++a)) K) (bO (q.F::([i.size,f.size,d.size,m.size]++a)) o)->(∀t,af o i.size t=af (K.push (.cells (bG F) aE)) i.size t)->(∀t,af o f.size t=af (K.push (.cells (bG F) aE)) f.size t)->al v o)->
  aO cw 84 [vp b 0,O.v (.mk K.size 0 ah ah)] (K.push (.cells (bG F) aE)) λaj o=>eE [i.size,f.size,d.size,m.size] (K.push (.cells (bG F) aE)) o/\∃v:Int,aj=vi v/\al v o:=λls{F ah} h1 h2 h3{al} hk=>by
  have x:=J.push K (.cells (bG F) aE)
  have R:=j.to (x.fz _) (j.s.r.ext x)
  exact(CQ j.s V ls h1 h2 h3).mono λ_ o⟨v,e,_,aT,r⟩=>⟨(R.lw G λ_ p=>p).dm r,v,e,hk v o (R.to r aT.r) (Y X ((x.fz _).trans r)) (aA ((x.fz _).trans r)) (w R r) (G4 R r)⟩
 refine⟨λ_=>?_,λ_=>⟨λ_=>?_,λ_=>⟨λ_=>?_,λ_=>⟨λ_=>?_,λ_=>?_⟩⟩⟩⟩
 ·refine(wq j.s.r V (s.le (bD _ _)) (by have:=H.cJ;omega)).mono λ_ ab⟨W,L,e,am,aG,_,ak,u⟩=>⟨(j.lw G λ_ p=>p).dm u,W,e,w j u _,w j u _,w j u _,w j u _,G4 j u _,?_⟩;exact done (aF:=⟨g.1.params,L,g.1.aV,g.1.u,g.1.cL⟩) (j.to u ak) (Y X u) ⟨ac,W,g.2,rfl,ha.le (aA u),GI.done (GI.any am) lq (by have:=H.cJ;show L.length<=_;omega),(Y X u).cL (ar C) H.om⟩ V
 ·have x:=(J.push K (.cells (bG [.i 0,.i 1,.i (cW (g.1.u+1)),.i 2001,.i (-1)]) aE)).fz [b];exact⟨w j x _,w j x _,w j x _,w j x _,G4 j x _,kK [0,1,cW (g.1.u+1),2001,-1] rfl rfl D λv o b' N le L e4=>⟨L _,L _,L _,L _,e4 _,done (aF:=⟨g.1.params,g.1.cJ,g.1.aV,v,g.1.cL⟩) b' N ⟨ac,h,g.2,rfl,ha.le le,s.le le,N.cL (ar C) H.om⟩ V⟩⟩
 ·have x:=(J.push K (.cells (bG [.i 0,.i 1,.i 9]) aE)).fz [b];have cl:=an.len;have cc:=an.cap;have c0:=H.iL;have cf:=H.om;have ew:cW ((g.2.len:Int) -1)=((g.2.len -1:Nat):Int):=by rw[aQ V V];omega
  rw[ew];refine⟨cE 0,V,V,w j x _,w j x _,w j x _,w j x _,w j x _,G4 j x _,kK [0,1,9] rfl rfl D λv o b' N le L e4=>⟨L _,L _,L _,L _,L _,e4 _,done (aF:=⟨g.1.params,g.1.cJ,v,g.1.u,g.1.cL.take (g.2.len -1)⟩) b' N ⟨ac,h,g.2.cut 0 (g.2.len -1) 6,rfl,ha.le le,s.le le,eH.Rl (N.cL (ar C) H.om) V⟩ V⟩⟩
 ·refine(IW ay (by simp[aa]) j.s.r V).mono λ_ ab⟨W,L,e,N,ak,u⟩=>⟨(j.lw G λ_ p=>p).dm u,W,e,G4 j u _,?_⟩;exact ic (au:=(L,_)) (j.to u ak) ⟨N,((Y X u).it V cl).2⟩ V
 ·have aX:=an.len;have aW:=H.iL;refine j.pick G V (λ_ p=>p) (g.2.len:Int) λaS ab j0 j1 R u=>?_;have L:=Y X u;obtain⟨-,-,-,-,-,-,aI,-,-⟩:=L.iP V C;have aH:=L.cL (ar C) H.om;obtain⟨au,hz⟩:=ag (l:=g.1.cL) (k:=aS.toNat) V;obtain⟨a',jj,aJ,hj,e0,e1,e2,e3,e4,e5⟩:=aH.E hz;have fX:∀{h t:Nat}{aj:Value},af (bO (q.F::([i.size,f.size,d.size,m.size]++a)) ab) h t=some aj->af ab h t=some aj:=λp=>(eg.1 p).2;refine⟨f0,V,g.2,aI,j0,V,_,fX e0,_,fX e1,_,fX e2,_,fX e3,_,fX e4,_,fX e5,?_⟩;have hZ:∀A∈q.F::(Ks E++([i.size,f.size,d.size,m.size]++a)),A<ab.size:=λA U=>by
   rcases List.mem_cons.1 U with e|e
   ·rw[e];exact L.g.bg.2
   ·rcases List.mem_append.1 e with e|e
    ·obtain⟨Z,hw,rfl⟩:=List.mem_map.1 e;exact(L.c Z hw).bg.2
    ·exact L.lt A e
  refine(Gb hZ R.s.r V (aJ.le (bD _ _)) (hj.le (bD _ _)) (H.lE au (ar hz))).mono λ_ aZ⟨z',a2,j2,e,aK,aN,_,aV,N⟩=>⟨(R.lw G λ_ p=>p).dm N,_,_,_,_,_,_,e,?_⟩;have ak:=Y L N;have am:=R.to N aV;obtain⟨Z,aG⟩:=ak.wr am.s.f C (ax hz) (cs:=[.i z'.op,.i z'.dst,.i z'.bN,.i z'.bW,.s a2,.s j2]) (y:=z') ⟨a2,j2,rfl,aK,aN⟩;have yc:=(ak.c g (ar C)).bg;have ny:=ak.nc g (ar C);have yq:=L.g.bg;refine⟨kg N G yq _,G4 R N _,j0,V,Z,λh s=>bd _ _ _ _ λe=>ny (by rw[<-e];exact bL _ s),ic ⟨am.s.put h0 yc.1 _ _,λA U=>by rw[av];exact am.fX A U⟩ (aG.it bJ λZ hw=>?_) V⟩;rcases di hw with e|e
  ·exact cl Z e
  ·rw[e];simpa using H.om
def IY(g:∀d∈a,d<m.size)(o:b∈a)(e:Rd b c P m)(T:P+2000+4*(300+40*Cg 18)<=10000000000000000):aO cw 47 [vp b 0] m (PP IT Tr a b c m (P+50+4*(300+40*Cg 18))):=by
 apply BN (b,0);simp -zeta only[aD,aC];have f:=e.lt;intro i;have z1:i.size=m.size+1:=by simp[i]
 obtain⟨j,-⟩:BS [m.size] b c m P i/\True:=⟨(BS.kK (S:=a) e _).1,trivial⟩;clear_value i;refine j.call (S:=a) f (λ_ h=>h) (Hy (j.hS g) (by simp[o]) j.s.r V) λO Z x2 q t I u Q=>?_;intro E r;obtain⟨v,B,-⟩:=u.box (S:=a) (m1:=E) (m2:=r) rfl rfl rfl;clear_value r;have J:=IT.mn _ _ _ _ _ B I;have n:b∈[q.size,m.size]++a:=by simp[o]
 refine v.pick f V (λ_ h=>h) 4 λU W _ _ d z=>?_;have s:=IT.mn _ _ _ _ _ (BS.le o z) J;refine⟨λ_=>?_,λ_=>?_⟩
 ·refine d.call (S:=a) f (λ_ h=>h) (Hq (d.hS g) n d.s.r V s t) λx G x6 X L K w R=>?_;intro Y;obtain⟨k,C⟩:=w.put (S:=a) e (by simp:q.size∈_) [.s x,.s G];exact k.call (S:=a) f (λ_ h=>h) (uz (k.hS g) n k.s.r V (IT.mn _ _ _ _ _ C K) L 14) λy H N F M p l A=>l.ic IT.mn e D p trivial V _
 ·exact d.call (S:=a) f (λ_ h=>h) (uz (d.hS g) n d.s.r V s t 14) λy H N F M p l A=>l.ic IT.mn e D p trivial V _
end
end
end Go.Proofs.YtgnjacfobdjeeaaGreat
