/- Part of a proof, joined by a program. -/
import Derived.Test.YtakpkjhmbbfniaaGreatU10
import Derived.Test.YtakpkjhmbbfniaaGreatU11
import Derived.Test.YtakpkjhmbbfniaaGreatU12
import Derived.Test.YtakpkjhmbbfniaaGreatU13
set_option linter.unusedVariables false
set_option linter.unusedSimpArgs false
set_option linter.defProp false
set_option linter.constructorNameAsVariable false
set_option maxHeartbeats 8000000
set_option maxRecDepth 100000
namespace Go.Proofs.YtakpkjhmbbfniaaGreat
open Go.Vc
section
variable{b:List bO}{c:List fF}
def Jc{j:cg}(cn:j.op=7\/j.op=8)(ih:∀d∈j.bt,TM b c d):UL b c j:=by
 intro F K H e t B cons first cl fl a4 ba aH aj m av cu cE v ha hk
 apply sg (e,0);simp -zeta only[aE,aD];intro ax ae;obtain⟨x2,hl⟩:=dj (a:=ax) (b:=ae) rfl rfl;have s1:ax.size=H.size+1:=by simp[ax]
 have s2:ae.size=H.size+2:=by simp[ae,s1]
 clear_value ae;have cy:=m.em.box.lt;have cQ:=m.em.gr.aZ;have cP:=cg.kT j;have co:=ha.len;have cD:=hk.len;have cC:=oF j.bt;have cI:=av.dX.kv V;have cv:=m.cons.len;have cG:=m.x.size;have cK:∀{g:I}{i:O},Fz [e,t.F] H g->(i.F=t.F\/H.size<=i.F)->Le (bz [t.F,e] H) (bz [i.F,e] g):=NP;have st:∀{a0:List Nat}{g:I}{i:O}{R:List Instr},CF a0 K g e i R->Fz [e,t.F] H g->(i.F=t.F\/H.size<=i.F)->(∀p∈a0,p<g.size)->Pp a0 K g e i R cons first cl fl:=λy N f hS=>⟨y,m.em.ft m.x N,hS,m.cons.le (cK N f),m.first.le (cK N f),m.same,m.iN⟩
 have LL:∀{g:I}{i:O},ae.size<=g.size->(i.F=t.F\/ae.size<=i.F)->∀d∈[ax.size,H.size],d<g.size/\d≠e/\d≠i.F:=λhz f d a6=>by simp at a6;omega
 have fr:∀{g s:I}{i:O},Fz [e,t.F] H g->(i.F=t.F\/ae.size<=i.F)->Fz [e,i.F] g s->Fz [e,t.F] H s:=λN f ab=>N.pX ab λC r=>by simp at r⊢;omega
 have ft:∀{g:I},H.size<=g.size->∀p∈F,p<g.size:=λh p hc=>by have:=m.ft p hc;omega
 have aG:∀{z:Nat}{d:Bk}{g:I},j.bt[z]? =some d->J K g->∃P,dL K P d.aA/\D g aj.F (aj.off+z*2)=some (O.v P)/\D g aj.F (aj.off+z*2+1)=some (vi d.aR):=λf bf=>let⟨P,h1,h2,h3⟩:=hk.u f;⟨P,h1,bf.D h2,bf.D h3⟩;refine⟨λh7=>?_,λh7=>?_⟩
 ·simp only[aL]at h7;have aO:=av.dX.HB h7;obtain⟨G,Q⟩:=ag (l:=j.bt) (k:=0) V;obtain⟨Y,U⟩:=ag (l:=j.bt) (k:=1) V;have bS:bw j.bt=G.w+Y.w:=by
   obtain⟨u,A,o⟩:∃u A,j.bt=[u,A]:=by
    match j.bt,aO with
    |[u,A],_=>exact⟨u,A,rfl⟩
   rw[o]at Q U⊢;simp at Q U;subst Q U;simp[bw]
  have w0:=G.Eo;have w1:=Y.Eo;have ac:∀z,y9 b j.op j.bJ z=0:=λz=>HZ V;have E2:=m.ext x2;refine(bB (t.F::e::F) (ha.ext E2.x) V).mono λA T⟨a',la,o,ga,ea,x3⟩=>⟨x3.de hl,a',o,?_⟩;subst ea;have z3:=x3.size;have aQ:∀p∈t.F::e::F,p<ae.size:=bD (bD (ft (g:=ae) V) V V) (ad _) V;refine(oP (x:=⟨20,0,0,0,j.args,[]⟩) (E2.em.ext x3) (E2.x.trans x3).size (GI.done ga aQ (by show j.args.length<=_;omega)) (rf _) V).mono λA m4⟨ev,s4,l4,aq,p4,f4,b4⟩=>⟨Mq.de f4 (LL z3 (Or.inl rfl)),_,ev,?_⟩;subst p4;have z4:=f4.size;have F4:Fz [e,t.F] H m4:=((x2.trans x3).fz _).trans f4;have w4:Bc (λ_=>False) B (B++[⟨20,0,0,0,j.args,[]⟩]) 1:=(lC.kv ⟨λh=>by simp at h,λh=>by simp at h⟩ ⟨by show j.args.length<=_;omega,E⟩).w;obtain⟨t0,aR,g0,g1⟩:=aG Q (m.em.ft m.x F4);refine⟨bd,V,_,g0,_,g1,?_⟩;have af:=av.bt 0 G Q;rw[ac]at af;have aV:=w4.len;refine(ih G (ar Q) F K m4 e s4 _ cons first cl fl a4 ba t0 (st aq F4 V (ft V)) (by simpa using af) V V v aR).mono λA w⟨s5,l5,a5,p5,f5,b5⟩=>⟨Mq.de f5 (LL V V),?_⟩;have F5:=fr F4 V f5;have z5:=f5.size;have w5:=w4.then p5;have X5:=m.em.ft m.x F5;obtain⟨_,-,-,g5⟩:=aG Q X5;refine⟨bd,V,_,g5,?_⟩;have aW:=w5.len;refine EX a5 X5 (ft V) V (LL V V) λs6 W m6 aw e6 f6 b6=>?_;have F6:=fr F5 V f6;have z6:=f6.size;have w6:Bc (λ_=>False) B W (1+6*(G.w -1)+1):=e6▸w5.then Of;have aX:=w6.len;have a7:W.length=l5.length+1:=by rw[e6];simp
  have X6:=m.em.ft m.x F6;refine QJ aw X6 V (LL V V) λs7 l7 m7 ay e7 f7 b7=>?_;have F7:=fr F6 V f7;have z7:=f7.size;have w7:Bc (λq=>q=W.length) B l7 (1+6*(G.w -1)+1+1):=e7▸(w6.imp (λ_ h=>h.elim) (ad _)).JU rfl;have a8:l7.length=W.length+1:=by rw[e7];simp
  obtain⟨L,al⟩:=ag (l:=l7) (k:=B.length) V;refine Qg ay (m.em.ft m.x F7) al (LL V V) λs8 l8 m8 aF e8 f8 b8=>?_;have w8:Bc (λq=>q=W.length) B l8 (1+6*(G.w -1)+1+1):=e8▸(w7.Wx (ad _) al).imp (λ_ h=>h.1) (ad _);have a9:l8.length=l7.length:=by rw[e8];simp
  have Z:=fr F7 V f8;have z8:=f8.size;obtain⟨t1,aU,k0,k1⟩:=aG U (m.em.ft m.x Z);refine⟨bd,V,_,k0,_,k1,?_⟩;have ai:=av.bt 1 Y U;rw[ac]at ai;have aZ:=w8.len;refine(ih Y (ar U) F K m8 e s8 l8 cons first cl fl a4 ba t1 (st aF Z V (ft V)) (by simpa using ai) V V v aU).mono λA m9⟨s9,l9,aK,p9,f9,b9⟩=>⟨Mq.de f9 (LL V V),?_⟩;have F9:=fr Z V f9;have z9:=f9.size;have w9:=w8.then p9;have X9:=m.em.ft m.x F9;obtain⟨_,-,-,g9⟩:=aG U X9;refine⟨bd,V,_,g9,?_⟩;have bZ:=w9.len;have a_:l8.length<=l9.length:=by obtain⟨nw,o,-⟩:=p9;rw[o];simp
  refine EX aK X9 (ft V) V (LL V V) λbs aa bb am aI aC bE=>?_;have aN:Bc (λq=>q=W.length) B aa (1+6*(G.w -1)+1+1+6*(Y.w -1)+1):=aI▸w9.then Of;have aA:=fr F9 V aC;have vP:=aC.size;have b1:aa.length=l9.length+1:=by rw[aI];simp
  obtain⟨be,ak⟩:=ag (l:=aa) (k:=W.length) V;refine Qg am (m.em.ft m.x aA) ak (LL V V) λaY aM bc ap aS aJ bG=>?_;exact⟨aY,aM,ap,aS▸(aN.Wx V ak).Vd (λq h=>h.2 h.1) V,fr aA V aJ,V⟩
 ·simp only[an]at h7;have h8:j.op=8:=V;obtain⟨cB,cA⟩:=av.dX.all h8;obtain⟨C,bn⟩:=ag (l:=j.args) (k:=0) V;obtain⟨y0,y1⟩:=av.dX.args C (ar bn);obtain⟨yn,rfl⟩:∃b7:Nat,C=b7:=⟨C.toNat,V⟩;have E2:=m.ext x2;refine⟨bd,V,yn,(ha.ext E2.x).u bn,?_⟩;have b6:∀p∈[t.F,e],p<ae.size:=λp hc=>by simp at hc;omega
  refine(fV (S:=[t.F,e]) b6 (v.aY.le E2.x.le) v.types j.bJ).mono λA T⟨aR,cf,ec,hc,qc,x3⟩=>⟨x3.de hl,aR,ec,?_⟩;subst qc;have cw:=hc.len;have z3:=x3.size;intro m4;refine EX (E2.em.ext x3) (E2.x.trans x3) (ft V) V (LL z3 (Or.inl rfl)) λs5 l5 w a5 e5 f5 b5=>?_;have z5:=f5.size;have w5:Bc (λ_=>False) B l5 1:=e5▸(lC.kv ⟨λh=>by simp at h,λh=>by simp at h⟩ ⟨E,E⟩).w;have cV:l5.length=B.length+1:=by rw[e5];simp
  intro m6 m7;have x6:J w m6:=J.push _ _;have x7:J m6 m7:=J.push _ _;have s6:m6.size=w.size+1:=by simp[m6]
  have s7:m7.size=m6.size+1:=by simp[m7]
  have bP:GI [] w m7 (.mk w.size 0 0 0) []:=(GI.nil [] w).ext x7;have bM:GI [] w m7 (.mk m6.size 0 0 0) []:=GI.cF (GI.nil [] m6) (λ_ h=>h) x6.size;clear_value m7 m6;have bg:=x6.trans x7;have aF:∀{g s:I}{i:O},Fz [e,t.F] T g->(i.F=t.F\/T.size<=i.F)->Fz [e,i.F] g s->Fz [e,t.F] T s:=λN f ab=>N.pX ab λC r=>by simp at r⊢;omega
  have F0:Fz [e,t.F] H T:=(x2.trans x3).fz _;have bh:∀{g:I}{i:O}{z:Nat}{p:Int},Fz [e,t.F] T g->(i.F=t.F\/T.size<=i.F)->(bU b j.bJ)[z]? =some p->D g aR.F (aR.off+z*1)=some (vi p):=λ{g i z p} N f h=>(dN.1 ((hc.le (nH (c:=[i.F,e]) (a:=g) λd a6 v=>by
   simp at v;exact⟨by simp;rcases f with o|o<;>omega,N.same d a6 bF⟩)).u h)).2
  have bu:∀{g:I},w.size<=g.size->Fz (List.range w.size) w g:=λh=>⟨h,λd f v=>absurd (List.mem_range.2 f) v⟩;have ak:∀{g s:I}{u:O}{ul:List Int}{aQ:List Nat},GI [] w g u ul->Fz aQ g s->u.F∉aQ->GI [] w s u ul:=λ{g s u ul aQ} ab N h=>GI.any ((GI.any (h:=aQ) ab).KC rW.mono N (λ_ h=>h) h);have o7:CF (w.size::m6.size::F) K m7 e s5 l5:=a5.re (bg.fz []) E λd f=>by
   simp only[aT]at f;rcases f with o|o|o
   ·exact Or.inr V
   ·exact Or.inr V
   ·exact Or.inl o
  refine tc (n:=(bU b j.bJ).length) V (λaj P Q g=>∃i R tl G,CF (P.F::Q.F::F) K g e i R/\Bc (λq=>(q:Int)∈G) B R (1+6*bw (j.bt.take aj))/\GI [] w g P tl/\tl.length=aj/\GI [] w g Q G/\G.length<=aj/\(∀C∈G,∃q:Nat,C=q/\B.length<q/\q<R.length)/\P.F≠Q.F/\Fz [e,t.F] T g/\(i.F=t.F\/T.size<=i.F)/\m7.size<=g.size/\B.length<R.length)
   ⟨s5,l5,[],[],o7,w5.imp (λ_ h=>h.elim) E,bP,rfl,bM,ad _,E,by show w.size≠m6.size;omega,f5.then bg,V,ad _,V⟩ ?_
  rintro Z P Q g cc μ hj ⟨i,R,tl,G,y,bc,gt,cL,ge,cz,a8,cH,N,f,zM,cF⟩ bp
  have bx:=F0.trans N;have XM:=m.em.ft m.x bx;have ty:=gt.aZ;have ey:=ge.aZ;have t1:P.F≠e:=gt.ne y.box bd;have t2:P.F≠i.F:=gt.IH y.gr bd;have n1:Q.F≠e:=ge.ne y.box bd;have n2:Q.F≠i.F:=ge.IH y.gr bd;have cJ:=y.gr.len bd;have cO:=bc.len;have bS:=H9 j.bt Z;have oy:=y.gr.aZ;have cY:=y.box.lt;refine dit (λh=>?_) λh=>?_
  ·obtain⟨p,a7⟩:=ag (l:=bU b j.bJ) (k:=Z) V;obtain⟨d,aK⟩:=ag (l:=j.bt) (k:=Z) V;have cr:=sI aK;have ct:=H9 j.bt (Z+1);have cq:=d.Eo;have bl:y9 b j.op j.bJ Z=(bT b p).length:=HY h8 a7;have cp:=NJ v.types j.op j.bJ Z;refine⟨i,y.box.cy 0,?_⟩;intro m8;refine GI.jN gt (bu V) E V λt' M1 aU ci z1 q1=>?_;have fa:Fz [P.F] g M1:=⟨z1.1,λd f v=>q1 d f (by simpa using v)⟩;refine⟨λd f=>by
    simp at f;rw[q1 d V V,(J.push g _).same d V],?_⟩
   have f1:Fz [e,t.F] T M1:=N.pX fa λC r=>by simp at r⊢;omega
   have bL:=ak ge fa bF;have o1:CF (t'.F::Q.F::F) K M1 e i R:=y.re fa (by simp;exact⟨t1,t2⟩) λd f=>by
    rcases List.mem_cons.1 f with o|o
    ·rcases z1.2 with e'|e'
     ·exact Or.inl (by rw[o,e'];simp)
     ·exact Or.inr V
    ·exact Or.inl (ah _ o)
   have ca:=aU.aZ;refine⟨V,V,p,bh f1 f a7,?_⟩;have X1:=m.em.ft m.x (F0.trans f1);refine(dm (S:=[]) E (v.aY.le (X1.le.trans (xy _))) v.types p).mono λA M2⟨ff,cm,ef,hf,qf,aO⟩=>⟨aO.de λd f=>by simp at f;omega,ff,ef,?_⟩;subst qf;have bV:=hf.len;have z2:=aO.size;have f2:=f1.then aO;refine eg (n:=(bT b p).length) V (λz s=>∃ay aw,CF (t'.F::Q.F::F) K s e ay aw/\Bc (λq=>(q:Int)∈G) B aw (1+6*bw (j.bt.take Z)+z)/\Fz [e,i.F] M2 s/\(ay.F=i.F\/M2.size<=ay.F)/\R.length<=aw.length) ⟨i,R,o1.ext aO,bc,Fz.aC _ _,Or.inl rfl,ad _⟩ ?_;rintro z M3 I3 μ3 hi ⟨af,l3,o3,w3,f3,b3,cS⟩ b2;have c1:=f3.size;have F3:=aF f2 f f3;have aV:af.F=t.F\/T.size<=af.F:=V;have cN:=w3.len;have X3:=m.em.ft m.x (F0.trans F3);have LM:∀{s:I}{u:O},M3.size<=s.size->(u.F=t.F\/T.size<=u.F)->∀d∈[ax.size,H.size],d<s.size/\d≠e/\d≠u.F:=λhz f=>LL V V;have aW:∀{s:I},M3.size<=s.size->∀p∈t'.F::Q.F::F,p<s.size:=λh=>bD (bD (ft (g:=M3) V) (ad _) V) h V;refine⟨λa9=>?_,λa9=>?_⟩
   ·simp only[ao]at a9;intro m9;refine EX o3 X3 (aW (ad _)) V (LM (ad _) aV) λs4 l4 M4 o4 e4 f4 b4=>b2 V _ ⟨s4,l4,o4,?_,f3.pX f4 λC r=>by simp at r⊢;omega,V,by rw[e4];simp;omega⟩;rw[e4];exact w3.then (lC.kv ⟨λh=>by simp at h,λh=>by simp at h⟩ ⟨E,E⟩)
   simp only[bN]at a9;have a_:z=(bT b p).length:=V;subst a_;have y3:=o3.gr.aZ;have cd:=o3.box.lt;have ac:∀{s:I},M3.size<=s.size->∀p∈[af.F,e],p<s.size:=λh p hc=>by simp at hc;omega
   rw[bV];refine(kG (S:=[af.F,e]) (ac (ad _)) 0 (bT b p).length V).mono λA M4⟨s4,l4,e4,g4,q4,x4⟩=>⟨x4.de λd f=>by simp at f;omega,s4,e4,?_⟩;have z4:=x4.size;have h4:=GI.done g4 (ac (ad _)) V;obtain⟨tk,bY,k0,k1⟩:=aG aK (X3.trans x4);have F4:=F3.then x4;have Y:∀{u A:I},J M4 u->J u A->∀y,D A ax.size y=D u ax.size y/\D A H.size y=D u H.size y:=λaH d y=>⟨gl d (by have:=aH.size;omega) y,gl d (by have:=aH.size;omega) y⟩;refine⟨V,V,tk,k0,_,k1,V,V,p,bh F4 aV a7,?_⟩;have S4:=st o3 (F0.trans F3) V (aW (ad _));have ce:=S4.cons.len;have ck:=S4.first.len;have cZ:=S4.same;refine(sV (S:=[af.F,e]) (ac z4) (S4.cons.le (x4.cK _)) V (a:=yn) V p).mono λA M5⟨s5,cU,e5,g5,q5,U⟩=>⟨U.de λd f=>by simp at f;omega,s5,e5,gx U k0,gx U k1,(Y (J.aC _) U _).1,(Y (J.aC _) U _).2,(Y (J.aC _) U _).2,?_⟩;have z5:=U.size;have h5:=GI.done g5 (ac z4) (by rw[<-q5];simp;omega);refine(dK (S:=[af.F,e]) (ac V) h5 (h4.le (U.cK _)) (by rw[<-q5];simp;omega)).mono λA M6⟨bb,W,e6,g6,q6,al⟩=>⟨al.de λd f=>by simp at f;omega,bb,e6,gx al (U.D k0),gx al (U.D k1),(Y U al _).1,(Y U al _).2,(Y U al _).2,?_⟩;have z6:=al.size;have ap:=U.trans al;have h6:=GI.done g6 (ac V) (by rw[<-q6,<-q5];simp;omega);refine(sV (S:=[af.F,e]) (ac V) (S4.first.le ((x4.trans ap).cK _)) V (a:=yn) V cons.len).mono λA M7⟨b8,l7,e7,g7,q7,ai⟩=>⟨ai.de λd f=>by simp at f;omega,b8,e7,gx ai (ap.D k0),gx ai (ap.D k1),(Y ap ai _).1,(Y ap ai _).2,(Y ap ai _).2,?_⟩;have z7:=ai.size;have aq:=ap.trans ai;have bQ:=GI.done g7 (ac V) (by rw[<-q7];simp;omega);refine(dK (S:=[af.F,e]) (ac V) bQ (h4.le (aq.cK _)) (by rw[<-q7];simp;omega)).mono λA M8⟨s8,l8,e8,g8,q8,L⟩=>⟨L.de λd f=>by simp at f;omega,s8,e8,gx L (aq.D k0),gx L (aq.D k1),(Y aq L _).1,(Y aq L _).2,(Y aq L _).2,?_⟩;have z8:=L.size;have bR:=GI.done g8 (ac V) (by rw[<-q8,<-q7];simp;omega);have am:=(x4.trans aq).trans L;have bm:W.length=cl.length+y9 b j.op j.bJ Z:=by rw[<-q6,<-q5,bl];simp;omega
   have bW:l8.length=W.length:=by rw[<-q8,<-q7,bm,bl];simp;omega
   have ES:Pp (t'.F::Q.F::F) K M8 e af l3 bb s8 W l8:=⟨o3.ext am,X3.trans am,aW am.size,h6.le ((ai.trans L).cK _),bR,bW,λC r=>by
    rw[<-q8]at r;rcases List.mem_append.1 r with r|r
    ·rw[<-q7]at r;rcases cx r with r|r
     ·exact m.iN C r
     ·omega
    ·have:=q4.1 C r;omega⟩
   have b0:WB b c.length True W.length d:=by rw[bm];exact av.bt Z d aK
   refine(ih d (ar aK) _ K M8 e af l3 bb s8 W l8 a4 ba tk ES b0 V V v bY).mono λA M9⟨s9,l9,o9,p9,f9,b9⟩=>⟨Mq.de f9 (LM (by have:=am.size;omega) aV),?_⟩;have z9:=f9.size;have c2:=am.size;have F9:=aF (F3.then am) aV f9;have X9:=m.em.ft m.x (F0.trans F9);have w9:=w3.then p9;have bZ:=w9.len;have cT:l3.length<=l9.length:=by obtain⟨nw,o,-⟩:=p9;rw[o];simp
   obtain⟨_,-,-,g9⟩:=aG aK X9;refine⟨V,V,_,g9,?_⟩;refine EX o9 X9 (aW V) V (LM V V) λbs aa be aX aI aC bE=>?_;have vP:=aC.size;have aA:=aF F9 V aC;have aN:Bc (λq=>(q:Int)∈G) B aa (1+6*bw (j.bt.take Z)+(bT b p).length+6*(d.w -1)+1):=aI▸w9.then Of;have b1:aa.length=l9.length+1:=by rw[aI];simp
   have cM:=aN.len;have kI:∀{u:O}{ul:List Int},GI [] w M1 u ul->u.F≠e->u.F≠i.F->u.F<M1.size->GI [] w be u ul:=λ{u ul} ab a1 a2 a3=>by
    have g2:=ab.ext aO;have g3:=ak g2 f3 (by simp;exact⟨a1,a2⟩);have bI:=g3.ext am;have bJ:=ak bI f9 (by simp;exact⟨a1,by rcases b3 with o|o<;>omega⟩);exact ak bJ aC (by simp;exact⟨a1,by rcases b9 with o|o<;>omega⟩)
   have bt:t'.F≠e:=aU.ne o1.box bd;have b_:t'.F≠i.F:=aU.IH o1.gr bd;have bk:=kI aU bt b_ ca.2;have bi:=kI bL n1 n2 V;rw[aP (x:=(aR.len:Int) -1) V V];refine⟨λbX=>?_,λbX=>bp V _ _ _ ⟨bs,aa,tl++[(i.len:Int)],G,aX,aN.imp (λ_ h=>h) V,bk,bF,bi,V,λC r=>by obtain⟨q,o,h1,h2⟩:=a8 C r;exact⟨q,o,h1,V⟩,V,aA,V,V,V⟩⟩;have cX:=aX.gr.aZ;refine QJ aX (m.em.ft m.x (F0.trans aA)) V (LM V V) λaY aM aZ bq aS aJ bG=>?_;have c0:=aJ.size;have bA:=aF aA V aJ;have cb:Bc (λq=>(q:Int)∈G++[(aa.length:Int)]) B aM (1+6*bw (j.bt.take Z)+(bT b p).length+6*(d.w -1)+1+1):=aS▸(aN.imp (λq h=>List.mem_append.2 (Or.inl h)) (ad _)).JU E;have cR:aM.length=aa.length+1:=by rw[aS];simp
   have nx:∀{u:O}{ul:List Int},GI [] w be u ul->u.F≠e->GI [] w aZ u ul:=λab aH=>ak ab aJ (by simp;exact⟨aH,ab.IH aX.gr bd⟩);have bO:=nx bk bt;have bj:=nx bi n1;intro cW;refine GI.jN bj (bu V) E V λch bC bK cj bv br=>?_;have fb:Fz [Q.F] aZ bC:=⟨bv.1,λd f v=>br d f (by simpa using v)⟩;have bH:Q.F≠aY.F:=bj.IH bq.gr bd;refine⟨λd f=>by
    simp at f;rw[br d V V,(J.push aZ _).same d V],bp V _ _ _ ⟨aY,aM,tl++[(i.len:Int)],G++[(aa.length:Int)],?_,cb.imp (λ_ h=>h) V,ak bO fb bF,bF,bK,bF,λC r=>?_,V,bA.pX fb λC r=>by simp at r⊢;omega,V,V,V⟩⟩
   ·exact bq.re fb (by simp;exact⟨n1,bH⟩) λd f=>by
     simp only[aT]at f⊢;rcases f with o|o|o
     ·exact Or.inl (Or.inl o)
     ·rcases bv.2 with e'|e'
      ·exact Or.inl (Or.inr (Or.inl V))
      ·exact Or.inr V
     ·exact Or.inl (Or.inr (Or.inr o))
   ·rcases List.mem_append.1 r with r|r
    ·obtain⟨q,o,h1,h2⟩:=a8 C r;exact⟨q,o,h1,V⟩
    ·simp at r;exact⟨aa.length,r,V,V⟩
  ·have ai:Z=(bU b j.bJ).length:=V;subst ai;refine⟨i,y.box.cy 0,?_⟩;intro m8;have L:J g m8:=J.push _ _;have ap:au (bz (i.F::e::F) m8) (.mk g.size 0 1 1) [(yn:Int)]:=au.lit aB _ (bD (bD (ft (g:=g) V) (ad _) V) (ad _) V) rfl rfl E;have s8:m8.size=g.size+1:=by simp[m8]
   clear_value m8;refine⟨gl L V _,gl L V _,V,V,?_⟩;have U:CF F K m8 e i R:=(y.ext L).re (Fz.aC [] _) E λd f=>Or.inl (ah _ (ah _ f));have aq:P.F∉i.F::e::F:=by
    simp only[aT,tD];exact⟨t2,t1,λh=>by have:=ft (g:=H) (ad _) _ h;omega⟩
   have am:au (bz (i.F::e::F) m8) P tl:=(GI.any (h:=i.F::e::F) (gt.ext L)).mg rW.mono aq bd V;obtain⟨wr,gs,-,qs⟩:=U.gr.set dv.mono (X:=List.range K.size) ⟨V,λd f v=>absurd (List.mem_range.2 f) v⟩ (k:=B.length) V (a:=⟨21,0,j.bJ,0,[(yn:Int)],tl⟩) (cs:=[.i 21,.i 0,.i j.bJ,.i 0,.s (.mk g.size 0 1 1),.s P]) ⟨_,_,rfl,ap,am⟩;refine⟨wr,?_⟩;intro m9;have s9:m9.size=m8.size:=az _ _ _ _;have o9:CF F K m9 e i (R.set B.length ⟨21,0,j.bJ,0,[(yn:Int)],tl⟩):=⟨U.box.congr (qs e (km U.ne)),gs,U.up⟩;have f9:Fz [e,i.F] g m9:=⟨V,λd f v=>by
    simp at v;have e1:m9[d]? =m8[d]? :=qs d v.2;rw[e1,L.same d f]⟩
   have w9:=(bc.set (x:=⟨21,0,j.bJ,0,[(yn:Int)],tl⟩) (k:=B.length) (ad _) ⟨λh=>by simp at h,λh=>by simp at h⟩ ⟨E,by show tl.length<=_;omega⟩).imp (c:=λq=>(q:Int)∈G) (λ_ h=>h.1) (ad _);refine⟨λd f=>qs d (by simp at f;omega),?_⟩;have aA:=ge.len bd;refine eg (n:=G.length) V (λz s=>∃ay aw,CF F K s e ay aw/\Bc (λq=>(q:Int)∈G.drop z) B aw (1+6*bw (j.bt.take (bU b j.bJ).length))/\aw.length=R.length/\GI [] w s Q G/\Fz [e,t.F] T s/\(ay.F=t.F\/T.size<=ay.F)/\m7.size<=s.size) ⟨i,_,o9,by simpa using w9,E,ak ge f9 (by simp;exact⟨n1,n2⟩),aF N f f9,f,V⟩ ?_;rintro z s I2 μ2 hi ⟨ay,l2,o2,w2,al,W,f2,b2,z2⟩ aw;refine dit (λh=>?_) λh=>?_
   ·obtain⟨C,Y⟩:=ag (l:=G) (k:=z) V;obtain⟨q,rfl,aC,aI⟩:=a8 C (ar Y);have af:au (bz [] s) Q G:=(GI.any (h:=[]) W).mg rW.mono E bd V;have ac:=af.le (bo _ _);obtain⟨xq,aa⟩:=ag (l:=l2) (k:=q) V;refine⟨V,V,q,ac.u Y,?_⟩;refine Qg o2 (m.em.ft m.x (F0.trans f2)) aa (LL V V) λs4 l4 M4 o4 e4 f4 b4=>aw V _ ⟨s4,l4,o4,?_,by rw[e4];simp;exact al,ak W f4 (by simp;exact⟨n1,W.IH o2.gr bd⟩),aF f2 b2 f4,by have:=f2.size;omega,by have:=f4.size;omega⟩;rw[e4];refine(w2.Wx V aa).imp (λq' h=>?_) (ad _);obtain⟨h1,h2⟩:=h;rw[oC V]at h1;rcases List.mem_cons.1 h1 with o|o
    ·have:G[z]=(q:Int):=by have:=List.getElem?_eq_some_iff.1 Y;exact this.2
     rw[this]at o;exact absurd V h2
    ·exact o
   ·have a_:z=G.length:=V;subst a_;rw[List.drop_length]at w2;exact⟨ay,l2,o2,w2.Vd E V,F0.trans f2,V⟩
def Ji:∀a:Bk,TM b c a:=Bk.ind λaA r f=>Jh λx e h=>Jc h λa d=>f x e a d
end
def lC.cG{l:List Instr}{n:Nat}(h:lC [] l n):Po l/\NE l/\l.length<=n:=by
 obtain⟨e,rfl,b,c,d⟩:=h;exact⟨λk x a=>by have:=b k x a;simpa using this,c,d⟩
def Jl{e:List Nat}{t:I}(hS:∀f∈e,f<t.size){F ak:O}{ds:List bO}{rs:List fF}(W:dI t F ak ds rs){ao:Nat}(aB:vS ds rs True ao)(hW:ao<=120000000000):ND 61 [.agg #[O.v F,O.v ak]] t e ds Bf:=by
 apply BQ;simp -zeta only[aE,aD];have ht:=W.types;have hp:=W.gQ;intro b a2;obtain⟨x2,hl⟩:=dj (a:=b) (b:=a2) rfl rfl;have s1:b.size=t.size+1:=by simp[b]
 clear_value a2;have aZ:=hp.len;have br:=W.mG;have bq:=aB.gR;refine(eV (S:=b.size::e) (bD hS x2.size (hl _ E)) (W.aY.le x2.le) ht).mono λ_ ai⟨dd,g,aX,x3⟩=>?_;subst g;refine⟨x3.de hl,_,rfl,?_⟩;intro j a5 aI;have u2:=x2.trans x3;obtain⟨x5,B0,g0,s3,s5⟩:=jQ (S:=j.size::b.size::e) jV.mono (b:=ai) (a:=j) (c:=a5) (f:=aI) rfl rfl rfl;clear_value aI;have aA:∀f∈[b.size,t.size],f<ai.size:=λf p=>x3.lt (hl f p);have ay:∀f∈b.size::e,f<ai.size:=λf p=>x3.lt (bD hS x2.size (hl _ E) f p);refine jL (R:=λh o w=>∃F c d,Value.agg #[O.v h,O.v o]=.agg #[O.v F,O.v c]/\bR (bz e w) F ds/\fW (bz e w) c d/\Bf d/\J t w) (t:=rs.length) (m:=t) (S:=e) jV.mono bd bd hS ⟨V,aA _ E⟩ u2 s3 aX aZ V x5 B0 g0 (λ_ q=>Qb q) (λc r' aF m' d h v o r=>⟨c,r',aF,rfl,d,h,⟨V,V,λq hq=>by obtain⟨u,s⟩:=List.mem_iff_getElem?.1 hq;exact o u q s⟩,r⟩) λaC w r aF bi μ aY bn xM aw am a8=>?_
 obtain⟨q,hq⟩:=ag (l:=rs) (k:=aC) aY;obtain⟨q3,be,bf,qw⟩:=aB.dh q (ar hq);have L:=u2.trans xM;obtain⟨cs,⟨bj,o,bg,rfl,c1,c2,c3⟩,X⟩:=hp.jA aC q hq;have aR:=c1.len;have qp:=q.body.Eo;refine⟨V,V,_,L.D (X 0 _ rfl),_,L.D (X 1 _ rfl),_,L.D (X 2 _ rfl),_,L.D (X 3 _ rfl),_,L.D (X 4 _ rfl),?_⟩;intro m7 c;have hy:=aw.aZ;have bl:=am.lt;have zM:=xM.size;obtain⟨x8,-,s8⟩:=jC (M:=w) (d:=m7) (c:=c) rfl rfl rfl;clear_value c;have bp:=u2.size;have w8:=L.trans x8;have U:∀{P:I},c.size<=P.size->∀f∈r.F::j.size::b.size::e,f<P.size:=λh f p=>by
  simp only[aT]at p;rcases p with g|g|g|g
  ·omega
  ·omega
  ·have:=ay f (by simp[g]);omega
  ·have:=ay f (by simp[g]);omega
 have bm:b.size<ai.size:=aA _ E;intro d u;have x9:J c d:=J.push _ _;have s9:d.size=c.size+1:=by simp[d]
 have aM:J d u:=J.push _ _;have bx:u.size=d.size+1:=by simp[u]
 have g9:Ss (d.size::r.F::j.size::b.size::e) c d (.mk c.size 0 0 0) []:=Gr.new _ (ad _) _ _ _;have aO:cD u d.size my [.s (.mk c.size 0 0 0)]:=cD.push _ _ _;have aS:CF (r.F::j.size::b.size::e) c u d.size (.mk c.size 0 0 0) []:=⟨aO,g9.ext dv.mono aM,V⟩;clear_value u d;have ap:=x9.trans aM;have aG:∀f∈[c.size,d.size],f<u.size:=λf p=>by simp at p;omega
 have LL:∀{P:I}{s':O},u.size<=P.size->(s'.F=c.size\/u.size<=s'.F)->∀o∈[w.size,b.size,t.size],o<P.size/\o≠d.size/\o≠s'.F:=λhz B o aV=>by simp at aV;omega
 rw[aR];refine(kG (S:=[c.size,d.size]) aG 0 q.params.length V).mono λ_ aH⟨Z,af,g,aU,aL,aa⟩=>⟨aa.de λo B=>by simp at B;omega,Z,g,?_⟩;have ax:=GI.done aU aG V;have bh:=aa.size;have aP:Pp (r.F::j.size::b.size::e) c aH d.size (.mk c.size 0 0 0) [] Z Z af af:=⟨aS.ext aa,ap.trans aa,U V,ax,ax,rfl,λy hy=>by have:=aL.1 y hy;omega⟩;refine(Ji q.body _ c aH d.size _ [] Z Z af af F ak bg aP (by rw[aL.2];exact bf) V bF (W.le w8.le) (dL.le w8.le c3)).mono λbC a1⟨bA,bs,aj,aK,ae,aQ⟩=>⟨Mq.de ae (LL bh (Or.inl rfl)),?_⟩;have bH:=ae.size;simp only[O.jb]at aQ ae;have aq:J c a1:=Fz.ext ((((ap.trans aa).fz [d.size,c.size]).trans ae).AY λo B=>Or.inr (by simp at B;omega));have ba:=aK.len;intro bt;refine EX aj aq (U V) (by simp at ba;omega) (LL V V) λC K y T au av bk=>?_;have bI:=av.size;have bE:=aj.gr.aZ;have ab:J c y:=aj.ft aq av;have bb:lC [] K (6*q.body.w):=au▸(aK.trans (lC.kv (x:=⟨23,0,0,0,[q.body.aR],[]⟩) ⟨λh=>by simp at h,λ_=>E⟩ E)).fI V;obtain⟨a9,a_,bw⟩:=bb.cG;have a0:0<K.length:=by rw[au];simp
 have an:=am.ext (x8.trans ab);refine⟨r,an.cy 1,C,T.box.cy 0,C,T.box.cy 0,?_⟩;have bG:=T.gr.aZ;have a7:=T.ne;have a6:C.F∉d.size::r.F::j.size::b.size::e:=by
  simp only[aT,tD];have p:=λh:C.F∈r.F::j.size::b.size::e=>U (P:=c) (ad _) _ h;refine⟨a7,λh=>?_,λh=>?_,λh=>?_,λh=>?_⟩<;>have:=p (by simp[h])<;>omega
 have az:eC (bz (d.size::r.F::j.size::b.size::e) y) C K:=T.gr.mg dv.mono a6 bd V;have G:∀{A Q:I}{o aJ:Nat},y.size<=A.size->J A Q->o<y.size->D Q o aJ=D A o aJ:=λh al B=>gl al V _;have sm:∀{A Q:I},y.size<=A.size->J A Q->dV [w.size,b.size,t.size] A Q:=λh al=>al.de λo B=>by simp at B;omega
 have Y:d.size<y.size:=V;have H:w.size<y.size:=V;have i3:j.size<y.size:=V;refine(bB (r.F::j.size::b.size::e) (c1.ext (w8.trans ab)) V).mono λ_ bu⟨a',la,g,ga,ea,s⟩=>⟨sm (ad _) s,a',g,G (ad _) s Y,G (ad _) s H,G (ad _) s Y,G (ad _) s H,G (ad _) s H,G (ad _) s i3,?_⟩;subst ea;have N:=s.size;refine(bB (r.F::j.size::b.size::e) (c2.ext ((w8.trans ab).trans s)) V).mono λ_ a3⟨b',lb,g,gb,eb,v⟩=>⟨sm N v,b',g,G N v Y,G N v H,G N v Y,G N v H,G N v i3,?_⟩;subst eb;have bJ:=v.size;have aN:=s.trans v;refine(Ka (m:=a3) (eC.ext aN (dT.le az (bo _ _) λ_ _=>dv.le (bo _ _))) (q.params.length:Nat)).mono λ_ a4⟨rg,g,_,z⟩=>⟨sm V z,rg,g,G V z Y,G V z H,G V z i3,?_⟩;have bK:=z.size;have ac:=aN.trans z;intro bv;have aW:eC (bz (r.F::j.size::b.size::e) a4) C K:=dT.le az ((ac.cK _).trans (gL _ λ_ h=>ah _ h)) λ_ _=>dv.le ((ac.cK _).trans (gL _ λ_ h=>ah _ h));have XX:=(x8.trans ab).trans ac;refine Gr.box (f:=[.s .nil,.s .nil,.i 0,.i 0,.s .nil]) (j:=1) (h:=88) (o:=[.s dd,.s r]) (y:=⟨q.params,q.cV,q.aR,rg,K⟩) jV.mono bd (aw.ext jV.mono XX) ((xM.trans XX).fz []) ⟨a',b',C,rfl,(GI.done ga (U V) V).le ((v.trans z).cK _),(GI.done gb (U V) V).le (z.cK _),aW⟩ V (an.ext ac) E bd ⟨V,E⟩ (λf p=>?_) λr' m' g' B' f' z' q'=>a8 r' m' _ g' B' f'.ext ⟨q3,be,a0,by show K.length<=_;omega,a9,a_⟩
 simp at p;omega
section
variable{d:List bO}
def Mn{α:Type}(T:I->O->O->α->Prop):Prop:=∀M a b c x,Le M a->T M b c x->T a b c x
def PP{α:Type}(T:I->O->O->α->Prop)(U:α->Prop)(S:List Nat)(d:Nat)(e:O)(m:I)(P:Nat)(v:Value)(a:I):Prop:=∃b c x,v=.agg #[O.v b,O.v c]/\T (bz S a) b c x/\U x/\Rd d e P a/\Fz [d] m a
def NT(m:I)(a b:O)(x:List bO×List fF):Prop:=dI m a b x.1 x.2
def IT(m:I)(a b:O)(x:List bO×List cY):Prop:=bR m a x.1/\fW m b x.2
def GT(m:I)(a b:O)(x:List bO×List (cY×Ex)):Prop:=bR m a x.1/\TN m b x.2
def UN(c:Prop)(W:Nat)(x:List bO×List fF):Prop:=vS x.1 x.2 c W/\x.1∈pM
def UI(x:List bO×List cY):Prop:=Bf x.2/\x.1∈pM
def NT.mn:Mn NT:=λ_ _ _ _ _ h t=>dI.le t h
def IT.mn:Mn IT:=λ_ _ _ _ _ h t=>⟨t.1.le h,fW.le h t.2⟩
structure BS(B:List Nat)(rb:Nat)(bs:O)(m:I)(Q:Nat)(M:I):Prop where
 s:Rs rb bs m Q M
 ft:∀c∈B,m.size<=c/\c<M.size
section
variable{α:Type}{T:I->O->O->α->Prop}{U:α->Prop}{S B L:List Nat}{e Q i l k f t:Nat}{h a b:O}{m M g:I}{x:α}{j:List Value}
def BS.hS(b:BS B e h m Q M)(d:∀c∈S,c<m.size):∀c∈B++S,c<M.size:=λc f=>(List.mem_append.1 f).elim (λa=>(b.ft c a).2) λa=>aK (d c a) b.s.f.size
def BS.to(a:BS B e h m Q M)(f:Fz [e] M g)(r:Rd e h i g):BS B e h m i g:=⟨a.s.to f r,λc b=>⟨(a.ft c b).1,aK (a.ft c b).2 f.size⟩⟩
def BS.lw(a:BS B e h m Q M)(c:e<m.size)(d:∀b∈L,b∈B):Lw e L M:=Go.Proofs.YtakpkjhmbbfniaaGreat.lw c λb f=>a.ft b (d b f)
def BS.call(c:BS B e h m Q M)(o:e<m.size)(p:∀b∈L,b∈B)(l:aN bY f j M (PP T U (B++S) e h M i)){K:O->O->I->Prop}
 (q:∀a b x g,U x->T (bz (B++S) g) a b x->BS B e h m i g->Fz [e] M g->K a b g):aN bY f j M λv g=>dV L M g/\∃d k:O,v=.agg #[O.v d,O.v k]/\K d k g:=
 l.mono λ_ g⟨a,b,x,n,t,u,r,f⟩=>⟨(c.lw o p).de f,a,b,n,q a b x g u t (c.to f r) f⟩
def BS.pick(a:BS B e h m Q M)(d:e<m.size)(k:Q<=10000000000000000)(j:∀b∈L,b∈B)(n:Int){K:Int->I->Prop}
 (l:∀i g,0<=i->(i<n\/i=0)->BS B e h m (Q+1) g->Fz [e] M g->K i g):aN bY 34 [vp e 0,vi n] M λv g=>dV L M g/\∃i:Int,v=vi i/\K i g:=
 (bM a.s.r k n).mono λ_ g⟨i,c,o,p,r,f⟩=>⟨(a.lw d j).de f,i,c,l i g o p (a.to f r) f⟩
def BS.box{m1 m2:I}{z l:List Ce}(a:BS B e h m Q M)(g:m1=M.push (.cells (br z) t))(i:m2=aj m1 M.size 0 l)(n:l.length=z.length):BS (M.size::B) e h m Q m2/\Le (bz (B++S) M) (bz (M.size::B++S) m2)/\cD m2 M.size t l:=by
 obtain⟨x,d,z⟩:=jC g i n;have o:=a.s.f.size;refine⟨⟨a.s.ext x,λf k=>?_⟩,x.bz λb j=>(List.mem_cons.1 j).elim (λa=>Or.inr V) Or.inl,d⟩;rcases List.mem_cons.1 k with c|c
 ·omega
 ·have:=a.ft f c;omega
def BS.put(a:BS B e h m Q M)(f:Rd e h l m)(b:k∈B)(d:List Ce):BS B e h m Q (aj M k 0 d)/\Le (bz (B++S) M) (bz (B++S) (aj M k 0 d)):=
 ⟨⟨a.s.put f (a.ft k b).1 _ _,λc g=>by rw[az];exact a.ft c g⟩,bS (by simp[b]) λ_ a=>a⟩
def BS.le(a:e∈S)(f:Fz [e] M g):Le (bz (B++S) M) (bz (B++S) g):=f.cK (by simp[a])
def BS.ij(g:BS B e h m Q M)(o:Mn T)(j:Rd e h l m)(p:k∈B)(q:T (bz (B++S) M) a b x)(r:U x)(n:Q<=i)(d:List Ce):PP T U S e h m i (.agg #[O.v a,O.v b]) (aj M k 0 d):=
 have⟨c,f⟩:=g.put (S:=S) j p d
 ⟨a,b,x,rfl,o _ _ _ _ _ (f.trans (gL _ λ_=>eO _)) q,r,c.s.r.mono n,c.s.f⟩
def BS.kv(a:Rd e h Q m)(o:Obj):BS [m.size] e h m Q (m.push o)/\Le (bz S m) (bz ([m.size]++S) (m.push o)):=⟨⟨⟨(J.push m o).fz _,a.ext (J.push m o)⟩,E⟩,qX (J.push m o) (ad _)⟩
def II{c:Prop}{W:Nat}(i:sY f j M S d λa=>vS d a c W)(k:d∈pM)(r:Rd e h Q M):aN bY f j M (PP NT (UN c W) S e h M Q):=
 i.mono λ_ _⟨b,l,a,g,n,o,x⟩=>⟨b,l,(d,a),g,n,⟨o,k⟩,r.ext x,x.fz _⟩
def SU(c:ND f j M S d Bf)(g:d∈pM)(r:Rd e h Q M):aN bY f j M (PP IT UI S e h M Q):=
 c.mono λ_ _⟨a,k,l,b,n,i,o,x⟩=>⟨a,k,(d,l),b,⟨n,i⟩,⟨o,g⟩,r.ext x,x.fz _⟩
end
section
variable{a:List Nat}{m:I}{b P:Nat}{c:O}
def FI(k:∀e∈a,e<m.size)(o:b∈a)(f:Rd b c P m)(L:P+1000+4*(300+40*Cg 18)<=10000000000000000):aN bY 119 [vp b 0] m (PP NT (UN False 95) a b c m (P+11+4*(300+40*Cg 18))):=by
 apply yC (b,0);simp -zeta only[aE,aD];have g:=f.lt;intro p;obtain⟨i,-⟩:BS [m.size] b c m P p/\True:=⟨(BS.kv (S:=a) f _).1,trivial⟩;clear_value p;refine i.call (T:=GT) (U:=λx=>TP x.1 x.2) (S:=a) g (λ_ h=>h) ((BT (i.hS k) (by simp[o]) i.s.r V).mono λv M⟨n,r,d,u,e,j,l,q,s,t⟩=>⟨n,r,(d,u),e,⟨j,l⟩,q,s,t⟩) λn r x N u t j I=>?_;refine j.call (S:=a) g (λ_ h=>h) (II (FC (j.hS k) (t.1.le (bo _ _)) (dT.le t.2 (bo _ _) λ_ _=>V3.mono.le (bo _ _)) u) u.gp.ds j.s.r) λG W Y O l B v J=>?_;intro A q;obtain⟨w,z,-⟩:=v.box (S:=a) (m1:=A) (m2:=q) rfl rfl rfl;clear_value q;have C:=NT.mn _ _ _ _ _ z B;refine w.pick g V (λ_ h=>h) 3 λM Q _ _ e y=>?_;have s:=NT.mn _ _ _ _ _ (BS.le o y) C;refine⟨λ_=>?_,λ_=>e.ij NT.mn f E s l V _⟩;exact e.call (S:=a) g (λ_ h=>h) (II (Hl (e.hS k) (s.le (bo _ _)) V l.1) l.2 e.s.r) λH X Z R F D h K=>h.ij NT.mn f E D F V _
def BM(l:∀d∈a,d<m.size)(g:b∈a)(d:Rd b c P m)(U:P+1000+4*(300+40*Cg 18)<=10000000000000000):aN bY 92 [vp b 0] m (PP NT (UN True 104500) a b c m (P+12+4*(300+40*Cg 18))):=by
 apply uU (b,0);simp -zeta only[aE,aD];have f:=d.lt;intro p;obtain⟨j,-⟩:BS [m.size] b c m P p/\True:=⟨(BS.kv (S:=a) d _).1,trivial⟩;clear_value p;refine j.call (S:=a) f (λ_ h=>h) (FI (j.hS l) (by simp[g]) j.s.r V) λO r2 x2 Y i G t R=>?_;intro B q;obtain⟨k,A,-⟩:=t.box (S:=a) (m1:=B) (m2:=q) rfl rfl rfl;clear_value q;have s:=NT.mn _ _ _ _ _ A G;refine k.call (S:=a) f (λ_ h=>h) (II (Jf (k.hS l) (s.le (bo _ _)) i.1) i.2 k.s.r) λQ r5 x5 C M H u y=>?_;intro D r;obtain⟨v,o,-⟩:=u.box (S:=a) (m1:=D) (m2:=r) rfl rfl rfl;clear_value r;have I:=NT.mn _ _ _ _ _ o H;refine v.pick f V (λ_ h=>h) 4 λW Z _ _ e n=>?_;have J:=NT.mn _ _ _ _ _ (BS.le g n) I;refine⟨λ_=>?_,λ_=>e.ij NT.mn d E J M V _⟩;have K:=NT.mn _ _ _ _ _ (((BS.le g y).trans o).trans (BS.le g n)) s;refine e.call (S:=a) f (λ_ h=>h) (II (Nh (e.hS l) (K.le (bo _ _)) i.1) i.2 e.s.r) λx F x9 m9 N L w T=>?_;intro X;obtain⟨h,z⟩:=w.put (S:=a) d (by simp:C.size∈_) [.s x,.s F];exact h.ij NT.mn d E (NT.mn _ _ _ _ _ z L) N V _
end
end
section
variable{c:Prop}
structure BF(S:List Nat)(rb:Nat)(bs:O)(m:I)(k Q W:Nat)(M:I):Prop where
 b:BS [k,m.size] rb bs m Q M
 x:∃d r x,cD M k lL [.s d,.s r]/\NT (bz (k::m.size::S) M) d r x/\UN True W x
def UN.mono{W W':Nat}{x:List bO×List fF}(h:UN c W x)(f:W<=W'):UN c W' x:=⟨⟨h.1.gR,λq g=>let⟨a,b,d,e⟩:=h.1.dh q g;⟨a,b,d,bI e f⟩⟩,h.2⟩
section
variable{e h:List Nat}{d k Q Q' W W' i f:Nat}{g:O}{a M b:I}{K:I->Prop}{j:O->O->List Value}
def BF.mono(h:BF e d g a k Q W M)(j:Q<=Q')(l:W<=W'):BF e d g a k Q' W' M:=⟨⟨⟨h.b.s.f,h.b.s.r.mono j⟩,h.b.ft⟩,let⟨i,r,x,b,f,c⟩:=h.x;⟨i,r,x,b,f,c.mono l⟩⟩
def BF.to(i:BF e d g a k Q W M)(n:d<a.size)(m:d∈e)(f:Fz [d] M b)(j:BS [k,a.size] d g a Q' b):BF e d g a k Q' W b:=
 let⟨l,r,x,h,t,c⟩:=i.x
 ⟨j,l,r,x,h.congr (f.same k h.lt (by have:=i.b.ft k E;simp;omega)),NT.mn _ _ _ _ _ (BS.le (B:=[k,a.size]) m f) t,c⟩
def BF.pick(j:BF e d g a k Q W M)(l:d<a.size)(q:d∈e)(o:Q<=10000000000000000)(m:∀c∈h,c∈[k,a.size])(n:Int){K:Int->I->Prop}
 (p:∀i b,BF e d g a k (Q+1) W b->K i b):aN bY 34 [vp d 0,vi n] M λv b=>dV h M b/\∃i:Int,v=vi i/\K i b:=
 j.b.pick l o m n λi b _ _ c f=>p i b (j.to l q f c)
def BF.V7(q:BF e d g a k Q W M)(w:Rd d g i a)(I:k≠a.size)(y:∀p∈h,p=a.size)
 (c:∀l n x,NT (bz (k::a.size::e) M) l n x->UN True W x->aN bY f (j l n) M (PP NT (UN True W') (k::a.size::e) d g M Q'))
 (P:∀b,BF e d g a k Q' W' b->K b):∃z:O,D M k 0=some (O.v z)/\∃A:O,D M k 1=some (O.v A)/\aN bY f (j z A) M λX b=>dV h M b/\∃t u:O,X=.agg #[O.v t,O.v u]/\fu b k 0 2/\(dV h b (aj b k 0 [.s t,.s u])/\K (aj b k 0 [.s t,.s u])):=by
 obtain⟨l,n,x,B,R,U⟩:=q.x
 have J:=w.lt
 have Z:=q.b.ft k E
 refine⟨l,B.cy 0,n,B.cy 1,q.b.call (S:=e) (L:=h) J (λp s=>by simp[y p s]) (c l n x R U) λp s Y b V T C G=>?_⟩
 have v:=B.congr (G.same k B.lt bF)
 obtain⟨F,N⟩:=C.put (S:=e) w (by simp:k∈_) [.s p,.s s]
 exact⟨v.fu E,λc H=>bn _ _ _ _ (by rw[y c H];exact km I),P _ ⟨F,p,s,Y,cD.aj (m:=b) (o:=0) (r:=[.s p,.s s]) v,NT.mn _ _ _ _ _ N T,V⟩⟩
def BF.bq(h:BF e d g a k Q W M)(j:Rd d g i a)(l:Q<=Q'):∃b:O,D M k 0=some (O.v b)/\∃c:O,D M k 1=some (O.v c)/\PP NT (UN True W) e d g a Q' (.agg #[O.v b,O.v c]) (aj M a.size 0 [.s b,.s c]):=
 let⟨f,r,_,B,t,u⟩:=h.x
 ⟨f,B.cy 0,r,B.cy 1,h.b.ij NT.mn j E t u l _⟩
end
section
variable{a:List Nat}{b:I}{d P:Nat}{e:O}
def Vo{h:Nat}{g:List Value}{M:I}{Q:Nat}{b:List bO}{W:Nat}(k:P8 h g M a d e Q b λf=>vS b f c W)(l:b∈pM):aN bY h g M (PP NT (UN c W) a d e M Q):=
 k.mono λ_ _⟨i,m,f,j,n,o,r,x⟩=>⟨i,m,(b,f),j,n,⟨o,l⟩,r,x⟩
def OW(i:∀c∈a,c<b.size)(k:d∈a)(g:Rd d e P b)(h:P+4<=10000000000000000){W:Nat}(j:W<=200000000000)(f r:O)(x:List bO×List fF)(t:NT (bz a b) f r x)(u:UN True W x):aN bY 93 [vp d 0,.agg #[O.v f,O.v r]] b (PP NT (UN True (W+4)) a d e b (P+4)):=
 Vo (Ng i k g h t u.1 j) u.2
def zI(A:∀c∈a,c<b.size)(l:d∈a)(g:Rd d e P b)(hP:P+1000+4*(300+40*Cg 18)<=10000000000000000):aN bY 62 [vp d 0] b (PP NT (UN True 98289774148) a d e b (P+24+4*(300+40*Cg 18))):=by
 apply tZ (d,0);simp -zeta only[aE,aD];have k:=g.lt;intro s;have z1:s.size=b.size+1:=by simp[s]
 obtain⟨z,-⟩:BS [b.size] d e b P s/\True:=⟨(BS.kv (S:=a) g _).1,trivial⟩;clear_value s;refine z.call (S:=a) k (λ_ h=>h) (BM (z.hS A) (by simp[l]) z.s.r V) λF J L f K t2 N R=>?_;have z2:=R.size;intro Y H;obtain⟨O,U,D⟩:=N.box (S:=a) (m1:=Y) (m2:=H) rfl rfl rfl;clear_value H;have t4:=NT.mn _ _ _ _ _ U t2;have q:f.size≠b.size:=V;have p:∀{M:I}{Q W:Nat},BF a d e b f.size Q W M->∀c∈f.size::b.size::a,c<M.size:=λh=>h.b.hS A;have G:d∈f.size::b.size::a:=by simp[l]
 refine⟨BF a d e b f.size (P+17+4*(300+40*Cg 18)) 104504,?_,λm7 s7=>?_⟩
 ·refine O.pick k V (λ_ h=>h) 4 λC m5 _ _ n u=>?_;have v:=NT.mn _ _ _ _ _ (BS.le (B:=[f.size,b.size]) l u) t4;have t:=D.congr (u.same _ D.lt bF);refine⟨λ_=>n.call (S:=a) k (λ_ h=>h) (OW (n.hS A) G n.s.r V V F J L v K) λi j x Z u6 t6 w T=>?_,λ_=>BF.mono ⟨n,F,J,L,t,v,K⟩ V V⟩;intro m7;obtain⟨y,X⟩:=w.put (S:=a) g (by simp:f.size∈_) [.s i,.s j];exact BF.mono ⟨y,i,j,x,cD.aj (m:=Z) (o:=0) (r:=[.s i,.s j]) (t.congr (T.same _ t.lt bF)),NT.mn _ _ _ _ _ X t6,u6⟩ V V
 refine⟨BF a d e b f.size (P+18+4*(300+40*Cg 18)) 10921086016,?_,λZ T=>?_⟩
 ·refine s7.pick k l V E 4 λC v n=>⟨λ_=>n.V7 g q E (λi j x t u=>II (Fe (p n) (t.le (bo _ _)) V u.1) u.2 n.b.s.r) λy h=>h.mono V V,λ_=>n.mono V V⟩
 refine T.pick k l V E 3 λC aa n=>?_;refine⟨BF a d e b f.size (P+19+4*(300+40*Cg 18)) 98289774144,⟨λ_=>n.V7 g q E (λi j x t u=>II (Cl (p n) (t.le (bo _ _)) V u.1) u.2 n.b.s.r) λy h=>h.mono V V,λ_=>n.mono V V⟩,λab v=>?_⟩;refine⟨BF a d e b f.size (P+19+4*(300+40*Cg 18)) 98289774144,⟨λ_=>v.V7 g q E (λi j x t u=>II (Kb (p v) (t.le (bo _ _)) V u.1) u.2 v.b.s.r) λy h=>h.mono V V,λ_=>v.mono V V⟩,λac X=>?_⟩;refine X.pick k l V E 6 λC ad w=>⟨λ_=>w.V7 g q E (λi j x t u=>OW (p w) G w.b.s.r V V i j x t u) λy h=>h.bq g V,λ_=>(w.mono (Q':=P+24+4*(300+40*Cg 18)) (W':=98289774148) V V).bq g V⟩
def Fm(m:∀c∈a,c<b.size)(o:d∈a)(g:Rd d e P b)(J:P+1000+4*(300+40*Cg 18)<=10000000000000000):aN bY 33 [vp d 0] b (PP IT UI a d e b (P+25+4*(300+40*Cg 18))):=by
 apply ye (d,0);simp -zeta only[aE,aD];have i:=g.lt;intro p;obtain⟨k,-⟩:BS [b.size] d e b P p/\True:=⟨(BS.kv (S:=a) g _).1,trivial⟩;clear_value p;refine k.call (S:=a) i (λ_ h=>h) (zI (k.hS m) (by simp[o]) k.s.r V) λC Q U L r x l G=>?_;refine l.call (S:=a) i (λ_ h=>h) (SU (Jl (l.hS m) (x.le (bo _ _)) r.1 V) r.2 l.s.r) λD R W M j y s H=>?_;intro w q;obtain⟨t,v,-⟩:=s.box (S:=a) (m1:=w) (m2:=q) rfl rfl rfl;clear_value q;have z:=IT.mn _ _ _ _ _ v y;refine t.pick i V (λ_ h=>h) 3 λK N _ _ f u=>?_;have n:=IT.mn _ _ _ _ _ (BS.le o u) z;refine⟨λ_=>?_,λ_=>f.ij IT.mn g E n j V _⟩;exact f.call (S:=a) i (λ_ h=>h) (SU (FO (f.hS m) (n.1.le (bo _ _)) (qP j.2) (fW.le (bo _ _) n.2) j.1) j.2 f.s.r) λF T X O B A h I=>h.ij IT.mn g E A B V _
end
end
section
variable{x:Instr}
section
variable{S:List Nat}{m M:I}{a P Q:Nat}{b:O}
def xA(h:Rs a b m Q M)(i:Q<=10000000000000000)(c:List Int){d:List Ce}{n:Nat}(j:d=c.map Ce.i)(p:n=c.length)(l:0<c.length/\c.length<=100):
 aN bY 40 [vp a 0,O.v (.mk M.size 0 n n)] (M.push (.cells (br d) aB)) λv e=>∃t:Int,v=vi t/\t∈c/\Rs a b m (Q+1) e/\Fz [a] (M.push (.cells (br d) aB)) e:=by
 have x:=J.push M (.cells (br d) aB)
 have o:=h.r.lt
 refine(jw (h.ext x).r i (au.lit aB c (by simp;exact o) j p V) l.1).mono λv e⟨q,g,k,r,f⟩=>⟨q,g,k,(h.ext x).to f r,f⟩
def _root_.Go.Vc.Gr.ID{b c:I}{s:O}{l:List Int}(h:GI S b M s l)(f:Fz [a] M c)(d:a<b.size):GI S b c s l:=have:=h.aZ;GI.iv h (f.same _ this.2 bF)
def oR(o:Rd a b P m)(hP:P+10<=10000000000000000){F:O}{l:List Int}(U:au m F l)(hb:l.length<=1000000000000):aN bY 41 [vp a 0,O.v F] m λaa p=>∃s c,aa=O.v s/\GI [] m p s c/\c.length<=l.length+1/\(∀w∈c,w∈l\/-1<=w/\w<=1001)/\Rd a b (P+3) p/\Fz [a] m p:=by
 apply qG (a,0);have g:=o.lt;refine(bB [] U V).mono λ_ Y⟨s,c,e,j,L,H⟩=>⟨s,e,?_⟩;subst L;have ab:=j.len bd;have q:Rs a b m P Y:=⟨H.fz _,o.ext H⟩;have ij:∀{M:I}{Q:Nat},Rs a b m Q M->Q<=P+2->GI [] m M s l->aN bY 40 [vp a 0,O.v (.mk M.size 0 5 5)] (M.push (.cells (br [.i 0,.i 1,.i 2,.i (-1),.i 1000]) aB)) λy u=>∃i:Int,y=vi i/\
  iP (u.push (.cells (br [.i i]) aB)) aB [.i 0] 8 s (.mk u.size 0 1 1) λt r=>∃s c,O.v t=O.v s/\GI [] m r s c/\c.length<=l.length+1/\(∀w∈c,w∈l\/-1<=w/\w<=1001)/\Rd a b (P+3) r/\Fz [a] m r:=λ{M Q} rM hQ gM=>
  (xA rM V [0,1,2,-1,1000] rfl rfl E).mono λ_ u⟨t,e,v,f,d⟩=>⟨t,e,by
   have n:=(gM.ext (J.push M _)).ID d g;refine GI.jN n f.f E V λy p R A z' q'=>⟨y,_,rfl,R,E,λw x=>?_,?_,A⟩
   ·rcases List.mem_append.1 x with h|h
    ·exact Or.inl h
    ·simp at h v;exact Or.inr V
   ·exact(o.JT f.r A (q' a f.r.lt (by have:=n.aZ;omega))).mono V⟩
 refine⟨λT=>?_,λ_=>ij q V j⟩;simp only[mz,ao]at T;refine(bM q.r V 2).mono λ_ m2⟨W,e,_,_,z,d⟩=>⟨W,e,λ_=>?_,λ_=>ij (q.to d z) V (j.ID d g)⟩;have f:=q.to d z;have n:=j.ID d g;refine(bM f.r V (s.len:Int)).mono λ_ Z⟨i,e,X,k1,K,B⟩=>⟨i,e,?_⟩;have r3:=f.to B K;refine(xA r3 V [0,1,-1,7,1000,1001] rfl rfl E).mono λ_ m5⟨t,e,v,G,N⟩=>⟨t,e,X,V,?_⟩;have D:=((n.ID B g).ext (J.push Z _)).ID N g;obtain⟨w,S,C,q6⟩:=D.set G.f (k:=i.toNat) V t;refine⟨w,s,_,rfl,S,E,λw x=>?_,(o.JT G.r C (q6 a (by have:=D.aZ;omega))).mono V,C⟩;rcases cx x with h|h
 ·exact Or.inl h
 ·simp at v;exact Or.inr V
def IX(Z:List Nat)(a:Nat)(b:O)(m:I)(P:Nat)(U:Instr->Prop)(v:Value)(c:I):Prop:=∃x d j,v=SW x d j/\au (bz Z c) d x.args/\au (bz Z c) j x.dR/\U x/\Rd a b P c/\Fz [a] m c
def uc(S:List Nat){p t:O}(v:au m p x.args)(w:au m t x.dR)(s:x.args.length<=1000000000000/\x.dR.length<=1000000000000):
 aN bY 98 [SW x p t] m λz l=>∃c d,z=SW x c d/\GI S m l c x.args/\GI S m l d x.dR/\c.F≠d.F/\J m l:=by
 apply pF
 simp -zeta only[aE,aD]
 intro i j
 obtain⟨e,g⟩:=dj (a:=i) (b:=j) rfl rfl
 have G:i.size=m.size+1:=by simp[i]
 clear_value j
 have b:∀{M n:I},J j M->J M n->∀o,D n m.size o=D M m.size o:=λh u o=>aJ (u.same _ (h.lt (g _ E))) o
 refine(bB S (v.ext e) s.1).aG (J.aC j) g λc _ B q k a _=>⟨_,rfl,b (J.aC _) a _,b (J.aC _) a _,b (J.aC _) a _,b (J.aC _) a _,b (J.aC _) a _,?_⟩
 subst k
 refine(bB S (w.ext (e.trans a)) s.2).aG a g λd _ C r k f y=>⟨_,rfl,b a f _,b a f _,b a f _,b a f _,?_⟩
 subst k
 intro F
 have H:=q.aZ;have K:=r.aZ
 have A:=g i.size E
 exact⟨c,d,rfl,((q.ext f).iv (bn _ _ _ _ V)).cF (λ_ h=>h) e.size,(r.iv (bn _ _ _ _ V)).cF (λ_ h=>h) (e.trans a).size,V,(e.trans y).aj V _ _⟩
end
structure BI(a0:I)(k rb:Nat)(bs:O)(m:I)(Q:Nat)(M:I)(a j:O)(l l':List Int):Prop where
 ga:GI [] a0 M a l
 gj:GI [] a0 M j l'
 ne:a.F≠j.F
 s:Rs rb bs m Q M
 lo:m.size+2<=a0.size/\l.length<=1000000000001/\l'.length<=1000000000001
 hi:a.F≠k/\j.F≠k/\m.size<=k/\k<M.size
section
variable{Z L:List Nat}{f m M c:I}{b k P g Q h:Nat}{d a j:O}{l e:List Int}
def BI.to(g:BI f k b d m Q M a j l e)(n:b<m.size)(i:Fz [b] M c)(r:Rd b d h c):BI f k b d m h c a j l e:=
 have:=g.lo
 ⟨g.ga.ID i V,g.gj.ID i V,g.ne,g.s.to i r,g.lo,g.hi.1,g.hi.2.1,g.hi.2.2.1,aK g.hi.2.2.2 i.size⟩
def BI.put(h:BI f k b d m Q M a j l e)(g:Rd b d P m)(o:Nat)(c:List Ce):BI f k b d m Q (aj M k o c) a j l e:=
 have:=h.lo;have:=h.hi;have:=h.ga.aZ
 ⟨GI.iv h.ga (bn _ _ _ _ V),GI.iv h.gj (bn _ _ _ _ V),h.ne,h.s.put g V _ _,h.lo,by rw[az];exact h.hi⟩
def BI.ij{U:Instr->Prop}(h:BI f k b d m Q M a j l e)(v:Rd b d P m)(t:∀c∈Z,c<m.size){i:Nat}(y:i=m.size+1)(w:Q<=g){r n q p:Int}(x:U ⟨r,n,q,p,l,e⟩)(s:List Ce):IX Z b d m g U (.agg #[vi r,vi n,vi q,vi p,O.v a,O.v j]) (aj M i 0 s):=by
 have:=h.lo;have:=h.hi;have z:=h.ga.aZ;have A:=h.gj.aZ;have u:=h.s.put v (k:=i) V 0 s;exact⟨⟨r,n,q,p,l,e⟩,a,j,rfl,Gr.done rW.mono (GI.any (GI.iv h.ga (bn _ _ _ _ V))) (λc o=>by have:=t c o;omega) bd (bI h.lo.2.1 bd),Gr.done rW.mono (GI.any (GI.iv h.gj (bn _ _ _ _ V))) (λc o=>by have:=t c o;omega) bd (bI h.lo.2.2 bd),x,u.r.mono w,u.f⟩
def BI.pick(h:BI f k b d m Q M a j l e)(r:b<m.size)(t:Q<=10000000000000000)(s:∀g∈L,m.size<=g/\g<=k)(p:Int){K:Int->I->Prop}
 (v:∀i c,0<=i->(i<p\/i=0)->BI f k b d m (Q+1) c a j l e->(∀o,D c k o=D M k o)->Fz [b] M c->K i c):aN bY 34 [vp b 0,vi p] M λz c=>dV L M c/\∃i:Int,z=vi i/\K i c:=
 have:=h.lo;have:=h.hi;have:=h.ga.aZ
 (bM h.s.r t p).mono λ_ c⟨i,q,w,x,y,n⟩=>⟨n.de λg u=>by have:=s g u;simp;omega,i,q,v i c w x (h.to r n y) (λo=>aJ (n.same k h.hi.2.2.2 bF) o) n⟩
end
def P4(x y:Instr):Prop:=(∀k,Ms k x->Ms k y)/\y.args.length<=1000000000000/\y.dR.length<=1000000000000
def Fb{Z:List Nat}{m:I}{i P:Nat}{w K N:O}(f:∀d∈Z,d<m.size)(b:Rd i w P m)(hP:P+10<=10000000000000000)(W:au (bz [i] m) K x.args)(hj:au m N x.dR)(c:x.args.length<=1000000000000/\x.dR.length<=1000000000000)(hx:∃Q,Ms Q x):
 aN bY 65 [vp i 0,SW x K N] m (IX Z i w m (P+3) (P4 x)):=by
 apply xL (i,0)
 simp(config:={maxSteps:=1000000}) -zeta only[aE,aD]
 have q:=b.lt
 intro s y
 obtain⟨x2,hl⟩:=dj (a:=s) (b:=y) rfl rfl
 have j:s.size=m.size+1:=by simp[s]
 have s2:y.size=m.size+2:=by simp[y,j]
 clear_value y
 clear_value s
 refine(uc [] ((W.le (bo _ _)).ext x2) (hj.ext x2) c).mono λ_ z⟨u,R,e,ga,gj,Y,x3⟩=>⟨x3.de hl,_,_,_,_,_,_,e,?_⟩
 intro m4 m5
 obtain⟨T,-,z5⟩:=jC (M:=z) (d:=m4) (c:=m5) rfl rfl rfl
 clear_value m5
 have ya:=ga.aZ;have yj:=gj.aZ
 have X5:=(x2.trans x3).trans T
 have b5:BI y z.size i w m P m5 u R x.args x.dR:=⟨ga.ext T,gj.ext T,Y,⟨X5.fz _,b.ext X5⟩,⟨V,nk c.1,nk c.2⟩,V,V,V,V⟩
 have p:∀o∈[z.size,s.size,m.size],m.size<=o/\o<=z.size:=bF
 obtain⟨r,B,G,C,n,F⟩:=x
 have Dt:P4 ⟨r,B,G,C,n,F⟩ ⟨r,B,G,C,n,F⟩:=⟨λ_ h=>h,c⟩
 refine b5.pick q V p 5 λaf g _ _ a _ f6=>?_
 have A:∀{aa:I}{ab:Nat},BI y z.size i w m ab aa u R n F->ab<=P+3->IX Z i w m (P+3) (P4 ⟨r,B,G,C,n,F⟩) (.agg #[vi r,vi B,vi G,vi C,O.v u,O.v R]) (aj aa s.size 0 [.i r,.i B,.i G,.i C,.s u,.s R]):=λh hQ=>h.ij b f j hQ Dt _
 have ac:r=16\/r=17->(0:Int)<=0/\(0:Int)<(K.len:Int)/\∃v:Int,D g K.F (K.off+Int.toNat 0*1)=some (vi v)/\IX Z i w m (P+3) (P4 ⟨r,B,G,C,n,F⟩) (.agg #[vi 15,vi 0,vi 0,vi 0,O.v (.mk g.size 0 1 1),O.v .nil]) (aj (g.push (.cells (br [.i v]) aB)) s.size 0 [.i 15,.i 0,.i 0,.i 0,.s (.mk g.size 0 1 1),.s .nil]):=λe=>by
  have hn:0<n.length:=let⟨_,h⟩:=hx;h.arg bF;have X:=W.len;obtain⟨H,hy⟩:=ag (l:=n) (k:=0) hn;have z6:=a.hi;have t:=J.push g (.cells (br [.i H]) aB);have r7:=(a.s.ext t).put b (k:=s.size) V 0 [.i 15,.i 0,.i 0,.i 0,.s (.mk g.size 0 1 1),.s .nil];have U:GI [] g (g.push (.cells (br [.i H]) aB)) (.mk g.size 0 1 1) [H]:=Gr.lit (d:=[[.i H]]) rW.mono (ad _) E rfl rfl ⟨rfl,E,λN cs x L S=>by
   cases N with
   |zero=>simp at L S;rw[<-L,<-S];rfl
   |succ N=>simp at L⟩
  exact⟨dY 0,by simp at X;omega,H,(dN.1 ((W.le (a.s.f.cK E)).u hy)).2,⟨15,0,0,0,[H],[]⟩,_,.nil,rfl,GI.done (GI.any (GI.iv U (bn _ _ _ _ bF))) (λd S=>by have:=f d S;omega) E,⟨rfl,dZ _,E,E⟩,⟨λ_ _=>⟨λh=>by simp at h,λh=>by simp at h⟩,E,E⟩,r7.r.mono V,r7.f⟩
 refine⟨λ_=>⟨λe=>?_,λ_=>⟨λe=>?_,λ_=>⟨λe=>?_,λ_=>A a V⟩⟩⟩,λ_=>⟨λ_=>⟨λL=>?_,λ_=>A a V⟩,λ_=>⟨λ_=>?_,λ_=>⟨λ_=>⟨λe=>?_,λ_=>⟨λe=>?_,λ_=>⟨λe=>?_,λ_=>A a V⟩⟩⟩,λ_=>⟨λ_=>⟨λe=>?_,λ_=>⟨λe=>?_,λ_=>A a V⟩⟩,λ_=>A a V⟩⟩⟩⟩⟩
 ·simp only[aL]at e
  exact(a.put b _ _).ij b f j V ⟨λ_ _=>⟨λh=>by simp at h,λh=>by simp at h⟩,c⟩ _
 ·exact(a.put b _ _).ij b f j V ⟨λ_ _=>⟨λh=>by simp at h,λh=>by simp at h⟩,c⟩ _
 ·simp only[aL]at e
  exact(a.put b _ _).ij b f j V ⟨λ_ h=>⟨λh=>by simp at h,λ_=>h.arg (by simp[e])⟩,c⟩ _
 ·simp only[mz,ao]at L
  have X:=a.ga.len bd
  refine a.pick q V p (u.len:Int) λQ m7 k0 k1 b7 U f7=>⟨U 4,b7.pick q V p 4 λv S _ _ d g8 f8=>⟨g8 4,k0,V,?_⟩⟩
  obtain⟨ae,g9,f9,q9⟩:=GI.set d.ga (((((x3.trans T).fz [i]).trans f6).trans f7).trans f8) (k:=Q.toNat) (by show Q.toNat<n.length;have:u.len=n.length:=X;omega) v
  have yb:=d.hi
  refine⟨ae,λo c=>q9 o (by have:=p o c;simp at c;omega),BI.ij (k:=z.size) (l:=n.set Q.toNat v) (e:=F) ⟨g9,GI.iv d.gj (q9 _ (km Y)),Y,⟨d.s.f.aj (Or.inr V) _ _,b.aj d.s.r d.s.f V _ _⟩,⟨V,by simpa using nk c.1,nk c.2⟩,V,V,V,by rw[az];omega⟩ b f j V ⟨λ_ h=>⟨h.JU,λe=>by simpa using h.arg e⟩,by simpa using c⟩ _⟩
 ·refine(vm r g).any.mono λ_ m7⟨o,e,t⟩=>⟨t.de λo c=>by have:=p o c;have:=a.hi;omega,o,e,λ_=>?_,λ_=>A (a.to q (t.fz _) (a.s.r.ext t)) V⟩
  exact(a.to q (t.fz _) (a.s.r.ext t)).pick q V p 4 λv S _ _ d _ _=>(d.put b _ _).ij b f j V ⟨λ_ h=>⟨h.JU,h.arg⟩,c⟩ _
 ·exact ac (Or.inl (by simpa using e))
 ·exact ac (Or.inr (by simpa using e))
 ·exact a.pick q V p 4 λv S _ _ d _ _=>(d.put b _ _).ij b f j V ⟨λ_ h=>⟨h.JU,h.arg⟩,c⟩ _
 ·simp only[aL]at e
  exact a.pick q V p 9 λv S _ _ d _ _=>(d.put b _ _).ij b f j V ⟨λ_ h=>⟨λh=>by simp[e]at h,h.arg⟩,c⟩ _
 ·simp only[aL]at e
  exact a.pick q V p 3 λv S _ _ d _ _=>(d.put b _ _).ij b f j V ⟨λ_ h=>⟨λh=>by simp[e]at h,h.arg⟩,c⟩ _
end
section
def RA(M:I)(c:List Ce)(x:cY×O):Prop:=∃a b,c=[.s a,.s b,.i x.1.aR,.i x.1.av,.s x.2]/\au M a x.1.params/\au M b x.1.cV
def RA.mono:mD 5 RA:=⟨λh⟨a,b,e,c,d⟩=>⟨a,b,e,c.le h,d.le h⟩,λ⟨_,_,e,_⟩=>by rw[e];rfl⟩
def hd(x:cY×O):cY×O:=({x.1 with cG:=[]},x.2)
abbrev Ks(l:List (cY×O)):List Nat:=l.map λx=>x.2.F
structure tE(S:List Nat)(m0 M:I)(dd q:O)(ds:List bO)(l:List (cY×O)):Prop where
 d:bR (bz (q.F::(Ks l++S)) M) dd ds
 g:Gr (Ks l++S) m0 M iz 5 RA q (l.map hd)
 c:∀x∈l,Gr (q.F::(Ks l++S)) m0 M dB 6 dv x.2 x.1.cG
 nd:(Ks l).Nodup
 lt:∀b∈S,b<M.size
 nq:q.F∉S
 nc:∀x∈l,x.2.F∉S
section
variable{S S' Y:List Nat}{b f M e:I}{c q:O}{d:List bO}{l:List (cY×O)}
def tE.kq(h:tE S b M c q d l):∀x∈l,x.2.F≠q.F:=λx a=>(h.c x a).IH h.g bd
def tE.re(i:tE S b M c q d l)(o:Fz Y M e)(k:∀a∈Y,a∈S)(n:∀a∈S',(a∈S\/M.size<=a)/\a<e.size)(p:f.size<=b.size):tE S' f e c q d l:=by
 have t:=i.g.aZ;have r:∀{a:Nat},a∈Ks l++S'->a∈Ks l++S\/M.size<=a:=λg=>by
  rcases List.mem_append.1 g with h|h
  ·exact Or.inl (bH _ h)
  ·exact(n _ h).1.imp (eO _) id
 have s:∀{a:Nat},a∈q.F::(Ks l++S')->a∈q.F::(Ks l++S)\/M.size<=a:=λg=>by
  rcases List.mem_cons.1 g with h|h
  ·exact Or.inl (by simp[h])
  ·exact(r h).imp (ah _) id
 refine⟨i.d.le (o.bz (λa g=>by simp[k a g]) λa g=>s g),Gr.cF RA.mono (i.g.re RA.mono o (λa g=>by simp[k a g]) (λj=>i.nq (k _ j)) λa g=>r g) (λa g=>Or.inl g) p,λx m=>Gr.cF dv.mono ((i.c x m).re dv.mono o (λa g=>by simp[k a g]) (λj=>i.nc x m (k _ j)) λa g=>s g) (λa g=>Or.inl g) p,i.nd,λa g=>(n a g).2,λj=>?_,λx m j=>?_⟩
 ·rcases(n _ j).1 with h|h
  ·exact i.nq h
  ·omega
 ·have:=(i.c x m).aZ;rcases(n _ j).1 with h|h
  ·exact i.nc x m h
  ·omega
def tE.cG(h:tE S b M c q d l){y:cY×O}(a:y∈l)(j:y.1.cG.length<=1000000000000):eC (bz (q.F::S) M) y.2 y.1.cG:=
 have g:Gr (q.F::S) b M dB 6 dv y.2 y.1.cG:=(h.c y a).re dv.mono (Fz.aC [] M) E E λi f=>Or.inl (by rcases List.mem_cons.1 f with e|e<;>simp[e])
 g.mg dv.mono (by simp;exact⟨h.kq y a,h.nc y a⟩) bd V
def tE.gr(h:tE S b M c q d l)(u:∀x∈l,x.1.cG.length<=1000000000000):Gr S b M iz 5 jV q (l.map (·.1)):=by
 obtain⟨v,n,z,r⟩:=h.g;refine⟨v,n,z,by simpa using r.len,r.size,λk m x t a=>?_⟩;rw[bW]at a;cases f:l[k]? with
 |none=>simp[f]at a
 |some y=>
  simp[f]at a;subst a;obtain⟨j,g,e,o,p⟩:=r.dh k m (hd y) t (by simp[f]);have i:=ar f;have w:Le (bz (q.F::(Ks l++S)) M) (bz (q.F::S) M):=gL M λg s=>by rcases List.mem_cons.1 s with e|e<;>simp[e]
  exact⟨j,g,y.2,e,o.le w,p.le w,h.cG i (u y i)⟩
def tE.xH{L:List Nat}{k N:I}{u e j:O}{p:cY}{h tb i:Nat}{bc:List Ce}{U:I->Prop}(o:tE S b M c q d l)(x:J M k)(W:Gr (q.F::(Ks l++S)) N k dB 6 dv j p.cG)(h8:M.size<=N.size)
 (ha:au (bz (j.F::q.F::(Ks l++S)) k) u p.params)(g:au (bz (j.F::q.F::(Ks l++S)) k) e p.cV)(ac:cD M h tb bc)(hi:i<bc.length)(ht:tb≠iz)(w:b.size<=h/\h∈S)(X:∀e∈L,e<k.size/\e≠h/\e≠q.F)(hl:l.length<=1000)(Y:J b M)
 (hk:∀r n,tE S b n c r d (l++[(p,j)])->cD n h tb (iD bc i [.s r])->J b n->U n):
 D (k.push (.cells (br [.s u,.s e,.i p.aR,.i p.av,.s j]) iz)) h i=D k h i/\
 iP (k.push (.cells (br [.s u,.s e,.i p.aR,.i p.av,.s j]) iz)) iz [.s .nil,.s .nil,.i 0,.i 0,.s .nil] 88 q (.mk k.size 0 1 1) λr n=>dV L (k.push (.cells (br [.s u,.s e,.i p.aR,.i p.av,.s j]) iz)) n/\fu n h i 1/\(dV L n (aj n h i [.s r])/\U (aj n h i [.s r])):=by
 have A:=ac.ext x
 have Z:=J.push k (.cells (br [.s u,.s e,.i p.aR,.i p.av,.s j]) iz)
 have yk:=W.aZ
 have yq:=o.g.aZ
 have zx:=x.size
 have hq:q.F≠h:=λf=>o.nq (by rw[f];exact w.2)
 have kx:j.F∉S:=λs=>by have:=o.lt _ s;omega
 have ck:∀y∈l,y.2.F<M.size:=λy t=>(o.c y t).aZ.2
 have Q:∀e∈Ks (l++[(p,j)])++S,e∈Ks l++S\/e=j.F:=λe g=>by
  simp only[Ks,eQ,cb,eJ,YK,ka]at g⊢;rcases g with(f|f)|f<;>simp[f]
 have K:Gr (Ks (l++[(p,j)])++S) b k iz 5 RA q (l.map hd):=o.g.re RA.mono (x.fz []) E E λe g=>(Q e g).imp id λf=>V
 have w1:Le (bz (j.F::q.F::(Ks l++S)) k) (bz (q.F::(Ks (l++[(p,j)])++S)) k):=gL k λe g=>by
  rcases List.mem_cons.1 g with f|f
  ·simp[f]
  ·rcases Q e f with f|f
   ·exact ah _ (ah _ f)
   ·simp[f]
 refine⟨aJ (Z.same h A.lt) i,Gr.jN (f:=[.s .nil,.s .nil,.i 0,.i 0,.s .nil]) (j:=hd (p,j)) RA.mono bd K ((Y.trans x).fz []) ⟨u,e,rfl,ha.le w1,g.le w1⟩ bF λr n ae ad C H=>?_⟩
 have R:=A.congr (H h A.lt (km hq))
 have hr:r.F≠h:=by have:=A.lt;omega
 have B:∀e,e≠h->(aj n h i [.s r])[e]? =n[e]? :=λe g=>bn _ _ _ _ g
 have T:Fz [q.F,h] k (aj n h i [.s r]):=⟨by rw[az];exact C.1,λe g z=>(B e (by simp at z;omega)).trans (H e g (by simp at z;omega))⟩
 have F:Fz [q.F,h] M (aj n h i [.s r]):=(x.fz _).trans T
 have F0:J b (aj n h i [.s r]):=(ad.aj (Or.inr w.1) _ _).ext
 have ai:=C.1
 have aa:∀e∈r.F::(Ks (l++[(p,j)])++S),(e∈q.F::(Ks l++S)\/e=j.F)\/k.size<=e:=λe g=>by
  rcases List.mem_cons.1 g with f|f
  ·rcases C.2 with v|v
   ·exact Or.inl (Or.inl (by simp[f,v]))
   ·exact Or.inr V
  ·exact Or.inl ((Q e f).imp (ah _) id)
 have ab:∀e∈r.F::(Ks (l++[(p,j)])++S),e∈q.F::(Ks l++S)\/M.size<=e:=λe g=>(aa e g).elim (λf=>f.imp id λf=>V) λf=>Or.inr V
 have P:∀e∈[q.F,h],e∈q.F::(Ks l++S):=λe g=>by simp at g;rcases g with f|f<;>simp[f,w.2]
 refine⟨λe g=>?_,R.fu V,λe g=>B e (X e g).2.1,hk r _ ⟨o.d.le (F.bz P ab),?_,λy t=>?_,?_,λe g=>?_,λs=>?_,λy t s=>?_⟩ (cD.aj (m:=n) R) F0⟩
 ·have G:=X e g
  rw[H e V G.2.2,Z.same e V]
 ·rw[eQ]
  obtain⟨g0,G,K,g2⟩:=ae
  exact⟨g0,G,K.congr (B _ hr),g2.mono λcs y=>RA.mono.le (nH λe g z=>⟨z,B e λf=>z (by rw[f];simp[w.2])⟩)⟩
 ·rcases List.mem_append.1 t with f|f
  ·exact(o.c y f).re dv.mono F P (by simp;exact⟨o.kq y f,λv=>o.nc y f (v▸w.2)⟩) ab
  ·simp at f
   subst f
   obtain⟨af,G,ag,rr⟩:=W
   have z:Gr (j.F::q.F::(Ks l++S)) N k dB 6 dv j p.cG:=⟨af,G,ag,rr.mono λcs y=>dv.mono.le (gL k λe g=>by
    rcases List.mem_cons.1 g with f|f
    ·simp[f]
    ·exact f)⟩
   exact Gr.cF dv.mono (z.re dv.mono T (λe g=>ah _ (P e g)) (by simp;exact⟨V,λv=>kx (v▸w.2)⟩) λe g=>(aa e g).imp (λf=>f.elim (ah _) λf=>by simp[f]) id) (λe g=>Or.inl g) (by have:=Y.size;omega)
 ·simp only[Ks,eQ,cb,eJ]
  refine List.nodup_append.2 ⟨o.nd,E,λe g v s=>?_⟩
  simp at s g
  obtain⟨z,G,t,rfl⟩:=g
  have:=ck _ t
  simp at this;omega
 ·have:=o.lt e g
  have:=F.size
  omega
 ·rcases C.2 with f|f
  ·exact o.nq (f▸s)
  ·have:=o.lt _ s;omega
 ·rcases List.mem_append.1 t with f|f
  ·exact o.nc y f s
  ·simp at f
   subst f
   exact kx s
end
end
def ub{j:List Nat}{o:I}(Y:∀c∈j,c<o.size){ai an:O}{Q:List bO}{K:List cY}(hd:bR o ai Q)(ht:dx Q)(hp:fW o an K)(al:Bf K):
 aN bY 64 [.agg #[O.v ai,O.v an]] o λU m'=>∃v q f,U=.agg #[O.v v,O.v q]/\tE j o m' v q Q f/\f.map (·.1)=K/\J o m':=by
 apply xT
 simp -zeta only[aE,aD]
 intro b a2
 obtain⟨x2,hl⟩:=dj (a:=b) (b:=a2) rfl rfl
 have s1:b.size=o.size+1:=by simp[b]
 clear_value a2
 have aM:=hp.len;have aL:=al.mG
 refine(eV (S:=b.size::j) (bD Y x2.size (hl _ E)) (hd.le x2.le) ht).mono λ_ H⟨v,e,ay,x3⟩=>?_
 subst e
 refine⟨x3.de hl,_,rfl,?_⟩
 intro m aC ah
 have u2:=x2.trans x3
 obtain⟨x5,B0,g0,s3,s5⟩:=jQ (S:=m.size::b.size::j) RA.mono (b:=H) (a:=m) (c:=aC) (f:=ah) rfl rfl rfl
 clear_value ah
 have ak:∀c∈[b.size,o.size],c<H.size:=λc d=>x3.lt (hl c d)
 have i1:=ak b.size E
 have z2:=u2.size
 have A0:tE (m.size::b.size::j) H ah v (.mk H.size 0 0 0) Q []:=⟨ay.le (x5.bz λg u=>by
  simp only[Ks,eJ,dS,aT]at u;rcases u with e|e|e
  ·exact Or.inr (by rw[e];exact ad _)
  ·exact Or.inr V
  ·exact Or.inl (List.mem_cons.2 e)),g0,E,E,λg u=>by
   simp only[aT]at u;rcases u with e|e|e
   ·omega
   ·omega
   ·have:=Y g e;omega,λd=>by
   simp only[aT]at d;rcases d with e|e|e
   ·simp at e;omega
   ·simp at e;omega
   ·have:=Y _ e;simp at this;omega,E⟩
 refine eg (n:=K.length) V (λac h=>J H h/\∃s f,tE (m.size::b.size::j) H h v s Q f/\cD h m.size tz [.s v,.s s]/\f.map (·.1)=K.take ac) ⟨x5,_,[],A0,B0,rfl⟩ ?_
 rintro ac h aH μ hk ⟨xM,s,f,A,C,Z⟩ aG
 have zM:=xM.size
 refine dit (λz=>?_) λz=>?_
 ·obtain⟨q,hq⟩:=ag (l:=K) (k:=ac) V
  have ab:=al.dh q (ar hq)
  have q3:=ab.params;have q4:=ab.cV;have qf:=ab.mG
  have v6:=u2.trans xM
  obtain⟨aI,g,c,c1,c2,c3,e0,e1,e2,e3,e4⟩:=hp.u hq
  have G:∀{U:Value}{g B:Nat},D o g B=some U->D h g B=some U:=λz=>v6.D z
  refine⟨V,V,_,G e0,_,G e1,_,G e2,_,G e3,_,G e4,?_⟩
  intro m7 r
  obtain⟨X,-,s8⟩:=jC (M:=h) (d:=m7) (c:=r) rfl rfl rfl
  clear_value r
  have aa:∀c∈[h.size,b.size,o.size],c<r.size:=λc d=>by
   rcases List.mem_cons.1 d with e|e
   ·omega
   ·have:=ak c e;omega
  have w8:=v6.trans X
  have hT:∀{y:I},h.size<=y.size->∀c∈s.F::(Ks f++(m.size::b.size::j)),c<y.size:=λz c d=>by
   rcases List.mem_cons.1 d with e|e
   ·have:=A.g.aZ;omega
   ·rcases List.mem_append.1 e with e|e
    ·obtain⟨w,t,rfl⟩:=List.mem_map.1 e;have:=(A.c w t).aZ;omega
    ·have:=A.lt c e;omega
  intro m9
  have x9:J r m9:=J.push _ _
  have aw:Gr (s.F::(Ks f++(m.size::b.size::j))) r m9 dB 6 dv (.mk r.size 0 0 0) []:=Gr.new _ (ad _) _ _ _
  clear_value m9
  have ax:=c3.len
  refine dt (n:=q.cG.length) (ax▸c3.gA) (λaf F w=>J r w/\Gr (s.F::(Ks f++(m.size::b.size::j))) r w dB 6 dv F (q.cG.take af)) ⟨x9,aw⟩ ?_
  rintro af F w I2 μ2 hj ⟨t,R⟩ aF
  have X2:=w8.trans t
  have z2:=t.size
  have aB:∀c∈[h.size,b.size,o.size],c<w.size:=λc d=>t.lt (aa c d)
  refine dit (λh2=>?_) λh2=>?_
  ·obtain⟨T,N⟩:=ag (l:=q.cG) (k:=af) V
   obtain⟨pa,pj,ha,aA,W,aj,am,ap,aq,av⟩:=(eC.ext X2 c3).u N
   have yk:=R.aZ
   refine⟨V,V,_,W,_,aj,_,am,_,ap,_,aq,_,av,?_⟩
   refine(ud (S:=F.F::s.F::(Ks f++(m.size::b.size::j))) (λc d=>?_) ha aA (ab.iN T (ar N))).mono λU aO⟨a',j',e,ae,az,x⟩=>⟨λc d=>x.same c (aB c d),_,_,_,_,_,_,e,?_⟩
   ·rcases List.mem_cons.1 d with e|e
    ·omega
    ·exact hT V c e
   intro aP
   refine Gr.jN (f:=[.i 0,.i 0,.i 0,.i 0,.s .nil,.s .nil]) (j:=T) dv.mono bd (R.ext dv.mono x) ((t.trans x).fz []) ⟨a',j',rfl,ae,az⟩ bF λao M3 g3 P z3 aQ=>⟨J.mO ((t.trans x).aM _) P.ext aa,aF V _ _ ⟨P.ext,?_⟩⟩
   rw[bK N];exact g3
  ·rw[cE V]at R
   have x:∀{M1 w:I},J r M1->J M1 w->∀g,g<r.size->∀B,D w g B=D M1 g B:=λz h' g u B=>aJ (h'.same g (z.lt u)) B
   have T:h.size<r.size:=V
   have i2:m.size<r.size:=aK C.lt X.size
   refine⟨s,(C.ext (X.trans t)).cy 1,?_⟩
   refine(bB [] (c1.ext X2) V).aG t aa λa' _ av ga e P N=>⟨_,rfl,x t P _ T _,x t P _ T _,x t P _ T _,x t P _ i2 _,?_⟩
   subst e
   refine(bB [] (c2.ext (w8.trans N)) V).aG N aa λb' _ am gb e W ap=>⟨_,rfl,x N W _ T _,x N W _ T _,x N W _ i2 _,?_⟩
   subst e
   intro az
   have aA:=N.size
   have aO:=ap.size
   have yk:=R.aZ
   have aj:∀{y:I},w.size<=y.size->∀c∈F.F::s.F::(Ks f++(m.size::b.size::j)),c<y.size:=λz c d=>by
    rcases List.mem_cons.1 d with e|e
    ·omega
    ·exact hT V c e
   have ae:au (bz (F.F::s.F::(Ks f++(m.size::b.size::j))) am) a' q.params:=(GI.done (GI.any ga) (aj (ad _)) V).le (W.cK _)
   have aq:au (bz (F.F::s.F::(Ks f++(m.size::b.size::j))) am) b' q.cV:=GI.done (GI.any gb) (aj P.size) V
   have ll:f.length=ac:=by have:=rT List.length Z;simp at this;omega
   have yq:=A.g.aZ
   exact A.xH (i:=1) (bc:=[.s v,.s s]) (tb:=tz) (p:=⟨q.params,q.cV,q.aR,q.av,q.cG⟩) (L:=[h.size,b.size,o.size]) (X.trans ap) (R.ext dv.mono (P.trans W)) V ae aq C E bd ⟨V,E⟩ (λc d=>by
    have hn:=A.nq;simp only[aT,tD]at d hn;have:=X.size;have:=C.lt;rcases d with e|e|e|e
    ·omega
    ·omega
    ·omega
    ·simp at e) V xM λao m' A' B' x'=>aG V m' ⟨x',ao,_,A',B',by rw[bK hq,eQ,Z];rfl⟩
 ·refine⟨v,C.cy 0,s,C.cy 1,?_⟩
  intro y
  rw[cE V]at Z
  have r:Fz [b.size] h y:=(Fz.aC _ h).aj (Or.inl E) _ _
  exact⟨v,s,f,rfl,A.re r E (λg u=>⟨Or.inl (by simp[u]),by have:=Y g u;have:=r.size;omega⟩) u2.size,Z,(u2.trans xM).aj V _ _⟩
section
variable{cs:List Ce}{p:cY}{y:Instr}
def Nc{α:Type}{l:List α}{f:Nat}{x:α}(h:l[f]? =some x):l.set f x=l:=by
 apply fK;intro i;rw[iI];split
 ·next e=>
  subst e;rw[h];split
  ·rfl
  ·next hi=>exact absurd (ax h) hi
 ·rfl
section
variable{S L B X:List Nat}{c m M:I}{a q d:O}{b:List bO}{l:List (cY×O)}{e Q f k:Nat}{x:cY×O}
def BS.Xi(h:BS B e d m Q M)(o:Obj):BS (M.size::B) e d m Q (M.push o):=⟨h.s.ext (J.push M o),λc b=>by
 have z:=h.s.f.size;rw[YI];rcases List.mem_cons.1 b with a|a
 ·omega
 ·have:=h.ft c a;omega⟩
def tE.mG(h:Bf (l.map (·.1)))(a:x∈l):Qb x.1:=h.dh x.1 (List.mem_map.2 ⟨x,a,rfl⟩)
def tE.len(h:tE S c M a q b l):q.len=l.length:=by have:=h.g.len bd;simpa using this
def tE.jA(n:tE S c M a q b l)(A:l.length<=1000)(k:l[f]? =some x):∃e d:O,D M q.F (q.off+f*5)=some (O.v e)/\D M q.F (q.off+f*5+1)=some (O.v d)/\D M q.F (q.off+f*5+2)=some (vi x.1.aR)/\D M q.F (q.off+f*5+3)=some (vi x.1.av)/\D M q.F (q.off+f*5+4)=some (O.v x.2)/\au (bz (q.F::S) M) e x.1.params/\au (bz (q.F::S) M) d x.1.cV:=by
 obtain⟨B,m,y,r⟩:=n.g;have z:=ax k;have t:f<m.length:=by have:=r.len;simp at this;omega
 obtain⟨cs,j⟩:=ag t;obtain⟨e,d,h,o,p⟩:=r.dh f cs (hd x) j (by simp[k]);have jA:=y.jA;have w:Le (bz (q.F::(Ks l++S)) M) (bz (q.F::S) M):=gL M λd s=>by rcases List.mem_cons.1 s with h|h<;>simp[h]
 have u:∀i g,cs[i]? =some g->D M q.F (q.off+f*5+i)=some g.v:=λi g v=>by
  have:=jA (f*5+i) g (gZ r.size j v);rwa[<-dE]at this
 subst h;exact⟨e,d,u 0 _ rfl,u 1 _ rfl,u 2 _ rfl,u 3 _ rfl,u 4 _ rfl,o.le w,p.le w⟩
def tE.it(h:tE S c M a q b l)(g:l.length<=1000)(e:∀x∈l,x.1.cG.length<=1000000000000):IT (bz S M) a q (b,l.map (·.1)):=
 ⟨h.d.le (gL M λf d=>by simp[d]),(h.gr e).mg jV.mono h.nq bd (by simp only[eP];omega)⟩
def tE.Xh(h:tE S c M a q b l)(i:Fz X c M)(o:l.length<=1000)(f:∀x∈l,x.1.cG.length<=1000000000000)(j:k<l.length)(m:jV (bz (q.F::S) M) cs p):
 fu M q.F (q.off+k*5) 5/\∃n,IT (bz S (aj M q.F (q.off+k*5) cs)) a q (b,n):=by
 obtain⟨w,g,-,-⟩:=(h.gr f).set jV.mono i (k:=k) (by simpa using j) m
 have F:Fz [q.F] M (aj M q.F (q.off+k*5) cs):=(Fz.aC _ M).aj (Or.inl E) _ _
 exact⟨w,_,h.d.le (F.bz (λe d=>by simp at d;simp[d]) λe d=>Or.inl (by simp[d])),g.mg jV.mono h.nq bd bF⟩
def tE.wr(h:tE S c M a q b l)(v:Fz X c M)(j:l[f]? =some x)(A:k<x.1.cG.length)(B:dv (bz (q.F::(Ks l++S)) M) cs y):
 fu M x.2.F (x.2.off+k*6) 6/\tE S c (aj M x.2.F (x.2.off+k*6) cs) a q b (l.set f ({x.1 with cG:=x.1.cG.set k y},x.2)):=by
 have n:=ar j
 have t:x.2.F∈Ks l:=List.mem_map.2 ⟨x,n,rfl⟩
 have C:∀d∈x.2.F::q.F::(Ks l++S),d∈q.F::(Ks l++S):=λd g=>by
  rcases List.mem_cons.1 g with e|e
  ·rw[e];exact ah _ (bH _ t)
  ·exact e
 obtain⟨D,u,-,G⟩:=(h.c x n).set dv.mono v A (dv.le (gL M C) B)
 have F:Fz [x.2.F] M (aj M x.2.F (x.2.off+k*6) cs):=(Fz.aC _ M).aj (Or.inl E) _ _
 have p:∀d∈[x.2.F],d∈Ks l++S:=λd g=>by simp at g;rw[g];exact bH _ t
 have o:Ks (l.set f ({x.1 with cG:=x.1.cG.set k y},x.2))=Ks l:=by
  simp only[Ks,wQ];exact Nc (by simp[j])
 have w:(l.set f ({x.1 with cG:=x.1.cG.set k y},x.2)).map hd=l.map hd:=by
  rw[wQ];exact Nc (by simp[j,hd])
 have r:∀z∈l.set f ({x.1 with cG:=x.1.cG.set k y},x.2),z=({x.1 with cG:=x.1.cG.set k y},x.2)\/z∈l/\z.2.F≠x.2.F:=λz m=>by
  obtain⟨H,i⟩:=List.mem_iff_getElem?.1 m;rw[iI]at i;split at i
  ·split at i
   ·exact Or.inl (by simpa using i.symm)
   ·simp at i
  ·next hne=>
   refine Or.inr ⟨ar i,λe=>hne ?_⟩;have s:f<(Ks l).length:=by simpa[Ks]using ax j
   exact(List.getElem?_inj s h.nd).1 (by simp[Ks,j,i,e])
 refine⟨D,?_,?_,λz m=>?_,by rw[o];exact h.nd,λd g=>by rw[az];exact h.lt d g,h.nq,λz m=>?_⟩
 ·rw[o];exact h.d.le (F.cK λd g=>ah _ (p d g))
 ·rw[o,w];exact h.g.KC RA.mono F p (by simp;exactλe=>h.kq x n e.symm)
 ·rw[o]
  rcases r z m with e|⟨e,s⟩
  ·rw[e];exact u
  ·exact(h.c z e).KC dv.mono F (λd g=>ah _ (p d g)) (by simpa using s)
 ·rcases r z m with e|⟨e,s⟩
  ·rw[e];exact h.nc x n
  ·exact h.nc z e
end
def Ry{c:List cY}(h:Bf c){f k:Nat}{x:Instr}(g:c[f]? =some p)(i:p.cG[k]? =some x)(d:P4 x y):Bf (c.set f {p with cG:=p.cG.set k y}):=by
 have b:=h.dh p (ar g);refine⟨by simpa using h.gR,by simpa using h.mG,λq j=>?_⟩;rcases cx j with e|e
 ·exact h.dh q e
 ·subst e;refine⟨b.params,b.cV,by simpa using b.gR,by simpa using b.mG,λl z a=>?_,λz a=>?_⟩
  ·simp only[iI]at a;split at a
   ·next e=>
    subst e;split at a
    ·simp at a;subst a;exact d.1 _ (b.cG _ _ i)
    ·simp at a
   ·exact b.cG _ _ a
  ·rcases cx a with e|e
   ·exact b.iN z e
   ·rw[e];exact d.2
section
variable{a:List Nat}{m:I}{b P:Nat}{c:O}
def Fc(hS:∀o∈a,o<m.size)(ae:b∈a)(R:Rd b c P m)(hP:P+100<=10000000000000000){ac p:O}{u:List bO×List cY}(ai:IT (bz a m) ac p u)(Y:UI u):aN bY 35 [vp b 0,.agg #[O.v ac,O.v p]] m (PP IT UI a b c m (P+11)):=by
 apply xN (b,0);simp -zeta only[aE,aD];have C:=R.lt;intro j aa;have L:BS [j.size,m.size] b c m P aa:=BS.Xi (BS.kv (S:=a) R _).1 _;have Z:J m aa:=(J.push m _).trans (J.push j _);clear_value aa;refine(ub (L.hS hS) ((ai.1.le (bo _ _)).ext Z) (qP Y.2) (dT.mono (fW.le (bo _ _) ai.2) Z λ_ _=>jV.le Z.le) Y.1).mono λ_ n⟨B,q,f,e,A,hl,x3⟩=>⟨(L.lw C λ_ h=>h).de (x3.fz _),B,q,e,?_⟩;have b3:=L.to (x3.fz _) (L.s.r.ext x3);intro m4 T;obtain⟨b5,-,-⟩:=b3.box (S:=a) (m1:=m4) (m2:=T) rfl rfl rfl;obtain⟨x5,-,-⟩:=jC (M:=n) (d:=m4) (c:=T) rfl rfl rfl;clear_value T;have A5:tE ([n.size,j.size,m.size]++a) m T B q u.1 f:=A.re (x5.fz []) E (λd g=>⟨by
  rcases List.mem_cons.1 g with e|e
  ·exact Or.inr V
  ·exact Or.inl e,b5.hS hS d g⟩) Z.size
 refine b5.pick C V (λ_ h=>h) 2 λan m6 i0 i1 b6 f6=>?_;have hB:∀d∈[b],d∈[n.size,j.size,m.size]++a:=by simp[ae]
 have X:∀{w M':I}{f:List (cY×O)},tE ([n.size,j.size,m.size]++a) m w B q u.1 f->Fz [b] w M'->tE ([n.size,j.size,m.size]++a) m M' B q u.1 f:=λh N=>h.re N hB (λd g=>⟨Or.inl g,aK (h.lt d g) N.size⟩) (ad _);refine⟨λW w=>∃r:Nat,W=r/\r<=2/\BS [n.size,j.size,m.size] b c m (P+11 -5*r) w/\∃f,tE ([n.size,j.size,m.size]++a) m w B q u.1 f/\Bf (f.map (·.1)),λW _=>W.toNat,⟨(an+1).toNat,by rw[aP V V];omega,V,⟨⟨b6.s.f,b6.s.r.mono V⟩,b6.ft⟩,f,X A5 f6,hl▸Y.1⟩,?_⟩;rintro W w ⟨r,rfl,hk,d,f,A,t⟩;refine⟨λh=>?_,λ_=>d.ij IT.mn R E (x:=(u.1,f.map (·.1))) (A.it (by have:=t.mG;simp at this;omega) λy i=>(tE.mG t i).mG) ⟨t,Y.2⟩ V _⟩;simp only[mz,ao]at h;have aA:=A.len;have l4:f.length<=4:=by simpa using t.mG
 have l0:0<f.length:=by simpa using t.gR
 refine d.pick C V (λ_ h=>h) (q.len:Int) λN m7 f0 f1 b7 f7=>?_;have A7:=X A f7;obtain⟨y,i⟩:=ag (l:=f) (k:=N.toNat) V;obtain⟨-,-,-,-,-,-,g7,-,-⟩:=A7.jA V i;have G:=tE.mG t (ar i);have c7:=A7.cG (ar i) G.mG;have aw:=c7.len;have av:=G.gR;refine⟨f0,V,y.2,g7,b7.pick C V (λ_ h=>h) (y.2.len:Int) λap U j0 j1 b8 f8=>?_⟩;have v:=X A7 f8;obtain⟨-,-,-,-,-,-,g8,-,-⟩:=v.jA V i;have c8:=v.cG (ar i) G.mG;obtain⟨aq,F⟩:=ag (l:=y.1.cG) (k:=ap.toNat) V;obtain⟨au,jj,ha,hj,e0,e1,e2,e3,e4,e5⟩:=c8.u F;have ft:∀{d s:Nat}{aj:Value},D (bz (q.F::([n.size,j.size,m.size]++a)) U) d s=some aj->D U d s=some aj:=λh=>(dN.1 h).2;refine⟨f0,V,y.2,g8,f0,V,y.2,g8,j0,V,_,ft e0,_,ft e1,_,ft e2,_,ft e3,_,ft e4,_,ft e5,?_⟩;have hZ:∀o∈q.F::(Ks f++([n.size,j.size,m.size]++a)),o<U.size:=λo hc=>by
  rcases List.mem_cons.1 hc with e|e
  ·rw[e];exact v.g.aZ.2
  ·rcases List.mem_append.1 e with e|e
   ·obtain⟨ab,z,rfl⟩:=List.mem_map.1 e;exact(v.c ab z).aZ.2
   ·exact v.lt o e
 refine(Fb hZ b8.s.r V (ha.le (gL _ (by simp[ae]))) (hj.le (bo _ _)) (G.iN aq (ar F)) ⟨_,G.cG _ _ F⟩).mono λ_ m9⟨H,a',j',e,al,am,g,r9,Q⟩=>⟨(b8.lw C λ_ h=>h).de Q,_,_,_,_,_,_,e,?_⟩;have K:=X v Q;have z:=b8.to Q r9;obtain⟨ab,ak⟩:=K.wr z.s.f i (ax F) (cs:=[.i H.op,.i H.dst,.i H.bJ,.i H.bV,.s a',.s j']) (y:=H) ⟨a',j',rfl,al,am⟩;have yc:=(K.c y (ar i)).aZ;have ny:=K.nc y (ar i);have af:∀s d,d∈q.F::([n.size,j.size,m.size]++a)->d≠b->D m9 d s=D U d s:=λs d g hn=>aJ (Q.same d (hZ d ((List.mem_cons.1 g).elim (λe=>by simp[e]) λe=>ah _ (eO _ e))) (by simpa using hn)) s;have yq:=K.g.aZ;have ay:=z.ft n.size E;refine⟨af _ _ E V,af _ _ E V,j0,V,ab,λd g=>bn _ _ _ _ λe=>ny (by rw[<-e];exact bH _ g),⟨r -1,?_,V,⟨⟨z.s.f.aj (Or.inr V) _ _,(R.aj z.s.r z.s.f V _ _).mono V⟩,λo hc=>by rw[az];exact z.ft o hc⟩,_,ak,?_⟩,?_⟩
 ·rw[aP V V];omega
 ·rw[wQ];exact Ry t (by simp[i]) F g
 ·rw[aP V V];show((r:Int) -1).toNat<(r:Int).toNat;omega
end
end
section
variable{m:I}{b:Nat}{c a j:O}
def BI.kv{L:List Nat}{i M:I}{k Q:Nat}{p q:List Int}(h:BI i k b c m Q M a j p q)(o:b<m.size)(u:Q<=10000000000000000)(s:∀f∈L,m.size<=f/\f<=k)(e:List Int){g:List Ce}{n:Nat}(w:g=e.map Ce.i)(A:n=e.length)(z:0<e.length/\e.length<=100){K:Int->I->Prop}
 (y:∀t d,BI i k b c m (Q+1) d a j p q->K t d):aN bY 40 [vp b 0,O.v (.mk M.size 0 n n)] (M.push (.cells (br g) aB)) λC d=>dV L (M.push (.cells (br g) aB)) d/\∃t:Int,C=vi t/\K t d:=
 have:=h.hi
 have x:=J.push M (.cells (br g) aB)
 have D:=x.size
 (xA h.s u e w A z).mono λ_ d⟨t,r,_,B,l⟩=>⟨l.de λf v=>by have:=s f v;simp only[ka];omega,t,r,y t d ((h.to o (x.fz _) (h.s.r.ext x)).to o l B.r)⟩
def DY{Z:List Nat}{P:Nat}{x:Instr}(q:∀d∈Z,d<m.size)(e:Rd b c P m)(hP:P+20<=10000000000000000)(Y:au m a x.args)(hj:au m j x.dR)(r:x.args.length<=1000000000000/\x.dR.length<=1000000000000):
 aN bY 67 [vp b 0,SW x a j] m (IX Z b c m (P+4) λ_=>True):=by
 apply wD (b,0)
 simp(config:={maxSteps:=1000000}) -zeta only[aE,aD]
 have s:=e.lt
 intro w k
 obtain⟨J,D⟩:=dj (a:=w) (b:=k) rfl rfl
 have l:w.size=m.size+1:=by simp[w]
 have s2:k.size=m.size+2:=by simp[k,l]
 clear_value k
 clear_value w
 refine(uc [] (Y.ext J) (hj.ext J) r).mono λ_ t⟨N,R,o,Q,G,aa,U⟩=>⟨U.de D,_,_,_,_,_,_,o,?_⟩
 intro m4 H
 obtain⟨K,-,z5⟩:=jC (M:=t) (d:=m4) (c:=H) rfl rfl rfl
 clear_value H
 have ya:=Q.aZ;have yj:=G.aZ
 have L:=(J.trans U).trans K
 have W:BI k t.size b c m P H N R x.args x.dR:=⟨Q.ext K,G.ext K,aa,⟨L.fz _,e.ext L⟩,⟨V,nk r.1,nk r.2⟩,V,V,V,V⟩
 have v:∀C∈[t.size,w.size,m.size],m.size<=C/\C<=t.size:=bF
 refine W.pick s V v 6 λad z _ _ d _ f6=>?_
 have y6:=d.hi
 have T:∀{y:O}{S:List Int},GI [] k z y S->S.length<=1000000000000->aN bY 41 [vp b 0,O.v y] z λB h=>dV [t.size,w.size,m.size] z h/\∃g,B=O.v g/\∃i,GI [] z h g i/\i.length<=1000000000001/\Rd b c (P+4) h/\Fz [b] z h:=λp D=>
  (oR d.s.r V (au.le (bo _ _) (p.done E D)) D).mono λ_ h⟨g,i,o,X,F,_,A,u⟩=>⟨u.de λC r=>by have:=v C r;simp only[ka];omega,g,o,i,X,V,A,u⟩
 refine⟨λ_=>d.pick s V v 26 λB I _ _ f _ _=>(f.put e _ _).ij e q l V trivial _,λ_=>⟨λ_=>d.kv s V v [0,1,-1,99] rfl rfl E λB I f=>(f.put e _ _).ij e q l V trivial _,λ_=>⟨λ_=>d.kv s V v [0,1,5,-1,1000,2000] rfl rfl E λB I f=>(f.put e _ _).ij e q l V trivial _,λ_=>⟨λ_=>d.kv s V v [0,1,-1,99] rfl rfl E λB I f=>(f.put e _ _).ij e q l V trivial _,λ_=>⟨λ_=>?_,λ_=>⟨λ_=>?_,λ_=>d.ij e q l V trivial _⟩⟩⟩⟩⟩⟩
 ·refine(T d.ga r.1).mono λ_ h⟨y,g,o,i,p,F,A,u⟩=>⟨y,g,o,?_⟩
  have ab:=p.aZ
  have ac:=d.s.f.size
  have n:=d.to s u A
  have f:BI k t.size b c m (P+4) h g R i x.dR:=⟨p.cF E V,n.gj,by have:=G.aZ;omega,n.s,⟨V,F,d.lo.2.2⟩,V,V,n.hi.2.2⟩
  exact(f.put e _ _).ij e q l V trivial _
 ·refine(T d.gj r.2).mono λ_ h⟨y,g,o,i,p,F,A,u⟩=>⟨y,g,o,?_⟩
  have ab:=p.aZ
  have ac:=d.s.f.size
  have n:=d.to s u A
  have f:BI k t.size b c m (P+4) h N g x.args i:=⟨n.ga,p.cF E V,V,n.s,⟨V,d.lo.2.1,F⟩,V,V,n.hi.2.2⟩
  exact(f.put e _ _).ij e q l V trivial _
end
section
def AD(S:List Nat)(b:Nat)(c:O)(m:I)(P:Nat)(v:Value)(a:I):Prop:=∃s d,v=O.v s/\bR (bz S a) s d/\Rd b c P a/\Fz [b] m a
structure DD(S:List Nat)(rb:Nat)(bs:O)(m:I)(Q:Nat)(M:I)(s:O)(ds:List bO):Prop where
 g:V5 S m M s ds
 r:Rs rb bs m Q M
 l:0<ds.length/\ds.length<=100
section
variable{a:List Nat}{b P Q h g:Nat}{c s:O}{m M f:I}{e:List bO}
def DD.to(d:DD a b c m Q M s e)(i:b∈a/\b<m.size)(g:Fz [b] M f)(r:Rs b c m h f):DD a b c m h f s e:=⟨d.g.fw gH.mono g (by simp;exact i),r,d.l⟩
def DD.ext(h:DD a b c m Q M s e)(x:J M f):DD a b c m Q f s e:=⟨h.g.ext gH.mono x,h.r.ext x,h.l⟩
def DD.ft(h:DD a b c m Q M s e)(g:∀d∈a,d<m.size):∀d∈s.F::a,d<M.size:=λd i=>(List.mem_cons.1 i).elim (λf=>f▸h.g.aZ.2) λf=>aK (g d f) h.r.f.size
def DD.lit(h:DD a b c m Q M s e)(f:∀d∈a,d<m.size)(l:List Int){cs:List Ce}{n:Nat}(d:cs=l.map Ce.i)(g:n=l.length)(i:l.length<=100):au (bz (s.F::a) (M.push (.cells (br cs) aB))) (.mk M.size 0 n n) l:=au.lit aB l (h.ft f) d g V
def DD.ij(h:DD a b c m Q M s e)(f:∀d∈a,d<m.size)(d:Q<=g):AD a b c m g (O.v s) M:=⟨s,e,rfl,h.g.done gH.mono f bd (by have:=h.l;omega),h.r.r.mono d,h.r.f⟩
def DD.set(h:DD a b c m Q M s e)(o:∀f∈a,f<m.size)(i:Rd b c P m)(n:Q<=g){k:Int}(q:0<=k/\k<(e.length:Int)){cs:List Ce}{d:bO}(p:gH (bz (s.F::a) M) cs d):
 0<=k/\k<(s.len:Int)/\fu M s.F (s.off+k.toNat*3) 3/\AD a b c m g (O.v s) (aj M s.F (s.off+k.toNat*3) cs):=by
 have r:=h.g.len bd
 have y:=h.g.aZ
 obtain⟨w,l,f,j⟩:=h.g.set gH.mono h.r.f (k:=k.toNat) V p
 exact⟨q.1,V,w,s,_,rfl,l.done gH.mono o bd (by have:=h.l;simp;omega),(i.JT h.r.r f (j b (by have:=i.lt;omega))).mono n,f⟩
def DD.fx(h:DD a b c m Q M s e)(i:∀d∈a,d<m.size)(k:Rd b c P m)(q:Q<=g){d:List Ce}{n:Nat}(l:List (bO×List Ce))(u:∀x∈l,gH (bz (s.F::a) M) x.2 x.1)(t:d=l.flatMap (·.2))(v:n=l.length)(w:l.length<=100):
 iP (M.push (.cells (br d) jh)) jh [.i 0,.i 0,.s .nil] 40 s (.mk M.size 0 n n) λr f=>AD a b c m g (O.v r) f:=by
 have x:=J.push M (.cells (br d) jh)
 have A:=h.g.aZ
 have H:=(zl gH.mono (h.ft i) jh l u t v).done gH.mono (h.ft i) bd bF
 have y:=h.l
 refine Gr.all (f:=[.i 0,.i 0,.s .nil]) gH.mono bd (h.ext x).g (h.ext x).r.f H bF λr z p j B o=>⟨r,_,rfl,p.done gH.mono i bd bF,(k.JT (h.ext x).r.r j (o b (h.ext x).r.r.lt (by have:=k.lt;omega))).mono q,j⟩
def GX(g:∀z∈a,z<m.size)(Q:b∈a)(v:Rd b c P m)(hP:P+100<=10000000000000000):aN bY 66 [vp b 0] m (AD a b c m (P+6)):=by
 apply zE (b,0);have hr:=v.lt;have w:b∈a/\b<m.size:=⟨Q,hr⟩;refine(uf g Q v V).mono λ_ m1⟨s,e,h,g1,af,d1,f1⟩=>⟨s,h,?_⟩;have T:DD a b c m (P+1) m1 s e:=⟨g1,⟨f1,d1⟩,by have:=nD e af;omega⟩;have sl:s.len=e.length:=g1.len bd;have dl:=T.l;refine(bM d1 V (s.len:Int)).mono λ_ m2⟨D,h,k0,k1,d2,f2⟩=>⟨D,h,?_⟩;have D2:=T.to w f2 (T.r.to f2 d2);have O:0<=D/\D<(e.length:Int):=V;refine(bM d2 V 14).mono λ_ F⟨ag,h,_,_,d3,f3⟩=>⟨ag,h,?_⟩;have k:=D2.to w f3 (D2.r.to f3 d3);have R:∀{M:I},Rp M .nil []:=⟨rfl,dZ _,E,E⟩;have x:∀{M f:I},J M f->Le (bz (s.F::a) M) (bz (s.F::a) f):=λaa=>aa.cK _;refine⟨λ_=>?_,λ_=>⟨λ_=>?_,λ_=>⟨λ_=>?_,λ_=>⟨λ_=>?_,λ_=>⟨λ_=>?_,λ_=>⟨λ_=>?_,λ_=>k.ij g V⟩⟩⟩⟩⟩⟩
 ·refine(xA k.r V [-1,5,0,2] rfl rfl E).mono λ_ o⟨t,h,_,G,u⟩=>⟨t,h,?_⟩;have r:=(k.ext (J.push F _)).to w u G;refine(xA G V [0,1,5] rfl rfl E).mono λ_ l⟨q,h,_,A,y⟩=>⟨q,h,?_⟩;have p:=(r.ext (J.push o _)).to w y A;exact p.set g v V O (d:=⟨t,q,[]⟩) ⟨.nil,rfl,R⟩
 ·refine(xA k.r V [-1,0,4,5] rfl rfl E).mono λ_ o⟨t,h,_,G,u⟩=>⟨t,h,?_⟩;have r:=(k.ext (J.push F _)).to w u G;have N:=r.lit g [t] (cs:=[.i t]) (n:=1) rfl rfl E;refine AG _ λl y=>?_;have p:=(r.ext (J.push o _)).ext y;have Y:=p.lit g [0,0,0,0] (cs:=[.i 0,.i 0,.i 0,.i 0]) (n:=4) rfl rfl E;refine AG _ λq B=>?_;have H:=(p.ext (J.push l _)).ext B;have Z:=H.lit g [] (cs:=[]) (n:=0) rfl rfl E;refine AG _ λA C=>?_;have K:=(H.ext (J.push q _)).ext C;have L:=(J.push q (.cells (br []) aB)).trans C;have W:=((J.push l (.cells (br [.i 0,.i 0,.i 0,.i 0]) aB)).trans B);have z:=uF (K.ft g) nj [([t],.mk o.size 0 1 1),([0,0,0,0],.mk l.size 0 4 4),([],.mk q.size 0 0 0)] E (by
   simp only[aT,jk,yZ,YE,YD];exact⟨N.le (x ((y.trans W).trans L)),Y.le (x (B.trans L)),Z.le (x C)⟩) (c:=[.s (.mk o.size 0 1 1),.s (.mk l.size 0 4 4),.s (.mk q.size 0 0 0)]) (b:=3) rfl rfl
  exact(K.ext (J.push A _)).set g v V O (d:=⟨0,0,_⟩) ⟨_,rfl,z⟩
 ·have N:=k.lit g [cO (D+1)] (cs:=[.i (cO (D+1))]) (n:=1) rfl rfl E;refine AG _ λl y=>?_;have p:=(k.ext (J.push F _)).ext y;have z:=uF (p.ft g) nj [([cO (D+1)],.mk F.size 0 1 1)] E (by
   simp only[aT,jk,yZ,YD];exact N.le (x y)) (c:=[.s (.mk F.size 0 1 1)]) (b:=1) rfl rfl
  exact(p.ext (J.push l _)).set g v V O (d:=⟨0,0,_⟩) ⟨_,rfl,z⟩
 ·refine(xA k.r V [0,2,1] rfl rfl E).mono λ_ o⟨t,h,_,G,u⟩=>⟨t,h,?_⟩;have r:=(k.ext (J.push F _)).to w u G;exact r.fx g v V [(⟨2,t,[]⟩,[.i 2,.i t,.s .nil])] (by simp;exact⟨.nil,rfl,R⟩) rfl rfl E
 ·refine(bM k.r.r V 2).mono λ_ o⟨t,h,_,_,d4,u⟩=>⟨t,h,?_⟩;have r:=k.to w u (k.r.to u d4);have N:=r.lit g [] (cs:=[]) (n:=0) rfl rfl E;refine AG _ λl y=>?_;have p:=(r.ext (J.push o _)).ext y;have Y:=p.lit g [2] (cs:=[.i 2]) (n:=1) rfl rfl E;refine AG _ λq B=>?_;have H:=(p.ext (J.push l _)).ext B;have Z:=H.lit g [] (cs:=[]) (n:=0) rfl rfl E;refine AG _ λA C=>?_;have K:=(H.ext (J.push q _)).ext C;have a4:=K.lit g [] (cs:=[]) (n:=0) rfl rfl E;refine AG _ λm8 x8=>?_;have D8:=(K.ext (J.push A _)).ext x8;have X:=(J.push A (.cells (br []) aB)).trans x8;have L:=(J.push q (.cells (br []) aB)).trans C;have W:=((J.push l (.cells (br [.i 2]) aB)).trans B);have z:=uF (D8.ft g) nj [([],.mk o.size 0 0 0),([2],.mk l.size 0 1 1),([],.mk q.size 0 0 0),([],.mk A.size 0 0 0)] E (by
   simp only[aT,jk,yZ,YE,YD];exact⟨N.le (x (((y.trans W).trans L).trans X)),Y.le (x ((B.trans L).trans X)),Z.le (x (C.trans X)),a4.le (x x8)⟩) (c:=[.s (.mk o.size 0 0 0),.s (.mk l.size 0 1 1),.s (.mk q.size 0 0 0),.s (.mk A.size 0 0 0)]) (b:=4) rfl rfl
  have U:=D8.ext (J.push m8 (.cells (br [.s (.mk o.size 0 0 0),.s (.mk l.size 0 1 1),.s (.mk q.size 0 0 0),.s (.mk A.size 0 0 0)]) nj));refine(bM U.r.r V 3).mono λ_ ah⟨ab,h,j0,j1,ae,G⟩=>⟨ab,h,j0,bF,E,?_⟩;have ac:=U.to w G (U.r.to G ae);have c':=(dT.le z (G.cK (S:=s.F::a) (by simp[Q])) λad aa=>lB.le (G.cK (by simp[Q])) ad aa).Ih (i:=ab.toNat) (j:=4) V E;exact ac.set g v V O (d:=⟨t,0,_⟩) ⟨_,rfl,c'⟩
 ·exact k.fx g v V [(⟨0,0,[]⟩,[.i 0,.i 0,.s .nil]),(⟨3,0,[]⟩,[.i 3,.i 0,.s .nil])] (by simp;exact⟨⟨.nil,rfl,R⟩,⟨.nil,rfl,R⟩⟩) rfl rfl E
end
end
section
def Tr{α:Type}(_:α):Prop:=True
section
variable{a:List Nat}{m:I}{b P:Nat}{c:O}
def sR(hS:∀A∈a,A<m.size)(ab:b∈a)(h0:Rd b c P m)(hP:P+200<=10000000000000000){ao ap:O}{x:List bO×List cY}(v:IT (bz a m) ao ap x)(aq:UI x)(aC:Int):aN bY 36 [vp b 0,.agg #[O.v ao,O.v ap],vi aC] m (PP IT Tr a b c m (P+10)):=by
 apply wC (b,0);simp(config:={maxSteps:=1000000}) -zeta only[aE,aD];have H:=h0.lt;intro d af;have b2:BS [d.size,m.size] b c m P af:=BS.Xi (BS.kv (S:=a) h0 _).1 _;have x2:J m af:=(J.push m _).trans (J.push d _);have s1:d.size=m.size+1:=by simp[d]
 have t2:IT (bz ([d.size,m.size]++a) af) ao ap x:=IT.mn _ _ _ _ _ (x2.bz λh s=>by
  simp at s;rcases s with e|e|e
  ·exact Or.inr V
  ·exact Or.inr V
  ·exact Or.inl e) v
 clear_value af;refine b2.pick H V (λ_ p=>p) aC λaR m3 _ _ b3 f3=>?_;have t3:=IT.mn _ _ _ _ _ (BS.le (B:=[d.size,m.size]) ab f3) t2;refine⟨λ_=>b3.ij IT.mn h0 E t3 trivial V _,λ_=>?_⟩;refine(ub (b3.hS hS) (t3.1.le (bo _ _)) (qP aq.2) (fW.le (bo _ _) t3.2) aq.1).mono λ_ f⟨U,q,F,e,A4,hl,x4⟩=>⟨(b3.lw H λ_ p=>p).de (x4.fz _),U,q,e,?_⟩;have b4:=b3.to (x4.fz _) (b3.s.r.ext x4);intro m5 m6;obtain⟨b6,-,-⟩:=b4.box (S:=a) (m1:=m5) (m2:=m6) rfl rfl rfl;obtain⟨x6,-,-⟩:=jC (M:=f) (d:=m5) (c:=m6) rfl rfl rfl;clear_value m6;have A6:tE ([f.size,d.size,m.size]++a) m m6 U q x.1 F:=A4.re (x6.fz []) E (λh s=>⟨by
  rcases List.mem_cons.1 s with e|e
  ·exact Or.inr V
  ·exact Or.inl e,b6.hS hS h s⟩) b3.s.f.size
 have ok:Bf (F.map (·.1)):=hl▸aq.1;have aY:=A6.len;have l4:F.length<=4:=by simpa using ok.mG
 have l0:0<F.length:=by simpa using ok.gR
 have cl:∀g∈F,g.1.cG.length<=1000000000000:=λg C=>(tE.mG ok C).mG;refine b6.pick H V (λ_ p=>p) (q.len:Int) λr i f0 f1 b7 f7=>?_;have A7:=A6.re f7 (S':=[f.size,d.size,m.size]++a) (by simp[ab]) (λh s=>⟨Or.inl s,b7.hS hS h s⟩) (ad _);obtain⟨g,C⟩:=ag (l:=F) (k:=r.toNat) V;obtain⟨ae,h,g0,g1,g2,g3,g4,aM,aO⟩:=A7.jA V C;refine⟨f0,V,ae,g0,h,g1,_,g2,_,g3,g.2,g4,?_⟩;intro m8 m9;obtain⟨b9,-,-⟩:=b7.box (S:=a) (m1:=m8) (m2:=m9) rfl rfl rfl;obtain⟨x9,-,-⟩:=jC (M:=i) (d:=m8) (c:=m9) rfl rfl rfl;clear_value m9;have A9:tE ([i.size,f.size,d.size,m.size]++a) m m9 U q x.1 F:=A7.re (x9.fz []) E (λh s=>⟨by
  rcases List.mem_cons.1 s with e|e
  ·exact Or.inr V
  ·exact Or.inl e,b9.hS hS h s⟩) (ad _)
 have ij:∀{n:I}{X:O}{au:List bO×List cY}{Q:Nat},BS [i.size,f.size,d.size,m.size] b c m Q n->IT (bz ([i.size,f.size,d.size,m.size]++a) n) X q au->Q<=P+10->PP IT Tr a b c m (P+10) (.agg #[O.v X,O.v q]) (aj n d.size 0 [.s X,.s q]):=λh v p=>h.ij IT.mn h0 E v trivial p _;refine⟨λ_=>ij b9 (A9.it V cl) V,λhn=>?_⟩;have hB:∀h∈[b],h∈[i.size,f.size,d.size,m.size]++a:=by simp[ab]
 have Z:∀{n o:I}{F:List (cY×O)},tE ([i.size,f.size,d.size,m.size]++a) m n U q x.1 F->Fz [b] n o->tE ([i.size,f.size,d.size,m.size]++a) m o U q x.1 F:=λp r=>p.re r hB (λh s=>⟨Or.inl s,aK (p.lt h s) r.size⟩) (ad _);refine b9.pick H V (λ_ p=>p) 8 λaR L _ _ j av=>?_;have Y:=Z A9 av;have ay:Le (bz (q.F::([f.size,d.size,m.size]++a)) i) (bz (q.F::([i.size,f.size,d.size,m.size]++a)) L):=(x9.bz λh s=>by
  simp only[cN,dS,aT]at s⊢;rcases s with e|e|e
  ·exact Or.inl (Or.inl e)
  ·exact Or.inr V
  ·exact Or.inl (Or.inr e)).trans (av.cK (by simp[ab]))
 have ha:=aM.le ay;have s:=aO.le ay;have aA:∀{n o:I},Fz [b] n o->Le (bz (q.F::([i.size,f.size,d.size,m.size]++a)) n) (bz (q.F::([i.size,f.size,d.size,m.size]++a)) o):=λr=>r.cK (by simp[ab]);have K:=tE.mG ok (ar C);have done:∀{n:I}{Q:Nat}{G:List Ce}{aF:cY},BS [i.size,f.size,d.size,m.size] b c m Q n->tE ([i.size,f.size,d.size,m.size]++a) m n U q x.1 F->jV (bz (q.F::([i.size,f.size,d.size,m.size]++a)) n) G aF->Q<=P+10->
  0<=r/\r<(q.len:Int)/\fu n q.F (q.off+r.toNat*5) 5/\(dV [i.size,f.size,d.size,m.size] n (aj n q.F (q.off+r.toNat*5) G)/\PP IT Tr a b c m (P+10) (.agg #[O.v U,O.v q]) (aj (aj n q.F (q.off+r.toNat*5) G) d.size 0 [.s U,.s q])):=λ{n Q G aF} h R hp hQ=>by
  obtain⟨aa,ps,tt⟩:=R.Xh h.s.f V cl (k:=r.toNat) V hp
  have yq:=R.g.aZ
  exact⟨f0,V,aa,λA W=>bn _ _ _ _ λe=>R.nq (by rw[<-e];exact bH _ W),ij ⟨h.s.put h0 yq.1 _ _,λA W=>by rw[az];exact h.ft A W⟩ tt hQ⟩
 have w:∀{n o:I}{Q:Nat},BS [i.size,f.size,d.size,m.size] b c m Q n->Fz [b] n o->∀t,D o i.size t=D n i.size t:=λh r t=>kg r H (h.ft _ E) t;have G4:∀{n o:I}{Q:Nat},BS [i.size,f.size,d.size,m.size] b c m Q n->Fz [b] n o->∀t,D o f.size t=D n f.size t:=λh r t=>kg r H (h.ft _ E) t;have an:=Y.cG (ar C) K.mG;have aw:=j.hS hS;have lq:∀A∈q.F::([i.size,f.size,d.size,m.size]++a),A<L.size:=λA W=>(List.mem_cons.1 W).elim (λe=>e▸Y.g.aZ.2) (aw A);have kv:∀(ls:List Int){G:List Ce}{ah:Nat},G=ls.map Ce.i->ah=ls.length->0<ls.length/\ls.length<=100->∀{al:Int->I->Prop},(∀v o,BS [i.size,f.size,d.size,m.size] b c m (P+4) o->tE ([i.size,f.size,d.size,m.size]++a) m o U q x.1 F->Le (bz (q.F::([i.size,f.size,d.size,m.size]++a)) L) (bz (q.F::([i.size,f.size,d.size,m.size]++a)) o)->(∀t,D o i.size t=D (L.push (.cells (br G) aB)) i.size t)->(∀t,D o f.size t=D (L.push (.cells (br G) aB)) f.size t)->al v o)->
  aN bY 40 [vp b 0,O.v (.mk L.size 0 ah ah)] (L.push (.cells (br G) aB)) λai o=>dV [i.size,f.size,d.size,m.size] (L.push (.cells (br G) aB)) o/\∃v:Int,ai=vi v/\al v o:=λls{G ah} h1 h2 h3{al} hk=>by
  have x:=J.push L (.cells (br G) aB)
  have T:=j.to (x.fz _) (j.s.r.ext x)
  exact(xA j.s V ls h1 h2 h3).mono λ_ o⟨v,e,_,aU,r⟩=>⟨(T.lw H λ_ p=>p).de r,v,e,hk v o (T.to r aU.r) (Z Y ((x.fz _).trans r)) (aA ((x.fz _).trans r)) (w T r) (G4 T r)⟩
 refine⟨λ_=>?_,λ_=>⟨λ_=>?_,λ_=>⟨λ_=>?_,λ_=>⟨λ_=>?_,λ_=>?_⟩⟩⟩⟩
 ·refine(oR j.s.r V (s.le (bo _ _)) (by have:=K.cV;omega)).mono λ_ ac⟨X,N,e,am,aG,_,ak,u⟩=>⟨(j.lw H λ_ p=>p).de u,X,e,w j u _,w j u _,w j u _,w j u _,G4 j u _,?_⟩;exact done (aF:=⟨g.1.params,N,g.1.aR,g.1.av,g.1.cG⟩) (j.to u ak) (Z Y u) ⟨ae,X,g.2,rfl,ha.le (aA u),GI.done (GI.any am) lq (by have:=K.cV;show N.length<=_;omega),(Z Y u).cG (ar C) K.mG⟩ V
 ·have x:=(J.push L (.cells (br [.i 0,.i 1,.i (cO (g.1.av+1)),.i 2001,.i (-1)]) aB)).fz [b];exact⟨w j x _,w j x _,w j x _,w j x _,G4 j x _,kv [0,1,cO (g.1.av+1),2001,-1] rfl rfl E λv o b' R le N e4=>⟨N _,N _,N _,N _,e4 _,done (aF:=⟨g.1.params,g.1.cV,g.1.aR,v,g.1.cG⟩) b' R ⟨ae,h,g.2,rfl,ha.le le,s.le le,R.cG (ar C) K.mG⟩ V⟩⟩
 ·have x:=(J.push L (.cells (br [.i 0,.i 1,.i 9]) aB)).fz [b];have cl:=an.len;have cc:=an.cap;have c0:=K.gR;have cf:=K.mG;have ew:cO ((g.2.len:Int) -1)=((g.2.len -1:Nat):Int):=by rw[aP V V];omega
  rw[ew];refine⟨dY 0,V,V,w j x _,w j x _,w j x _,w j x _,w j x _,G4 j x _,kv [0,1,9] rfl rfl E λv o b' R le N e4=>⟨N _,N _,N _,N _,N _,e4 _,done (aF:=⟨g.1.params,g.1.cV,v,g.1.av,g.1.cG.take (g.2.len -1)⟩) b' R ⟨ae,h,g.2.cut 0 (g.2.len -1) 6,rfl,ha.le le,s.le le,dT.RJ (R.cG (ar C) K.mG) V⟩ V⟩⟩
 ·refine(GX aw (by simp[ab]) j.s.r V).mono λ_ ac⟨X,N,e,R,ak,u⟩=>⟨(j.lw H λ_ p=>p).de u,X,e,G4 j u _,?_⟩;exact ij (au:=(N,_)) (j.to u ak) ⟨R,((Z Y u).it V cl).2⟩ V
 ·have aX:=an.len;have aW:=K.gR;refine j.pick H V (λ_ p=>p) (g.2.len:Int) λaS ac j0 j1 T u=>?_;have N:=Z Y u;obtain⟨-,-,-,-,-,-,aI,-,-⟩:=N.jA V C;have aH:=N.cG (ar C) K.mG;obtain⟨au,hz⟩:=ag (l:=g.1.cG) (k:=aS.toNat) V;obtain⟨a',jj,aJ,hj,e0,e1,e2,e3,e4,e5⟩:=aH.u hz;have ft:∀{h t:Nat}{ai:Value},D (bz (q.F::([i.size,f.size,d.size,m.size]++a)) ac) h t=some ai->D ac h t=some ai:=λp=>(dN.1 p).2;refine⟨f0,V,g.2,aI,j0,V,_,ft e0,_,ft e1,_,ft e2,_,ft e3,_,ft e4,_,ft e5,?_⟩;have hZ:∀A∈q.F::(Ks F++([i.size,f.size,d.size,m.size]++a)),A<ac.size:=λA W=>by
   rcases List.mem_cons.1 W with e|e
   ·rw[e];exact N.g.aZ.2
   ·rcases List.mem_append.1 e with e|e
    ·obtain⟨aa,hw,rfl⟩:=List.mem_map.1 e;exact(N.c aa hw).aZ.2
    ·exact N.lt A e
  refine(DY hZ T.s.r V (aJ.le (bo _ _)) (hj.le (bo _ _)) (K.iN au (ar hz))).mono λ_ aZ⟨z',a2,j2,e,aL,aQ,_,aV,R⟩=>⟨(T.lw H λ_ p=>p).de R,_,_,_,_,_,_,e,?_⟩;have ak:=Z N R;have am:=T.to R aV;obtain⟨aa,aG⟩:=ak.wr am.s.f C (ax hz) (cs:=[.i z'.op,.i z'.dst,.i z'.bJ,.i z'.bV,.s a2,.s j2]) (y:=z') ⟨a2,j2,rfl,aL,aQ⟩;have yc:=(ak.c g (ar C)).aZ;have ny:=ak.nc g (ar C);have yq:=N.g.aZ;refine⟨kg R H yq _,G4 T R _,j0,V,aa,λh s=>bn _ _ _ _ λe=>ny (by rw[<-e];exact bH _ s),ij ⟨am.s.put h0 yc.1 _ _,λA W=>by rw[az];exact am.ft A W⟩ (aG.it bF λaa hw=>?_) V⟩;rcases cx hw with e|e
  ·exact cl aa e
  ·rw[e];simpa using K.mG
def GY(g:∀d∈a,d<m.size)(o:b∈a)(e:Rd b c P m)(T:P+2000+4*(300+40*Cg 18)<=10000000000000000):aN bY 15 [vp b 0] m (PP IT Tr a b c m (P+50+4*(300+40*Cg 18))):=by
 apply zG (b,0);simp -zeta only[aE,aD];have f:=e.lt;intro i;have z1:i.size=m.size+1:=by simp[i]
 obtain⟨j,-⟩:BS [m.size] b c m P i/\True:=⟨(BS.kv (S:=a) e _).1,trivial⟩;clear_value i;refine j.call (S:=a) f (λ_ h=>h) (Fm (j.hS g) (by simp[o]) j.s.r V) λO Z x2 q t I u Q=>?_;intro D r;obtain⟨v,B,-⟩:=u.box (S:=a) (m1:=D) (m2:=r) rfl rfl rfl;clear_value r;have J:=IT.mn _ _ _ _ _ B I;have n:b∈[q.size,m.size]++a:=by simp[o]
 refine v.pick f V (λ_ h=>h) 4 λU W _ _ d z=>?_;have s:=IT.mn _ _ _ _ _ (BS.le o z) J;refine⟨λ_=>?_,λ_=>?_⟩
 ·refine d.call (S:=a) f (λ_ h=>h) (Fc (d.hS g) n d.s.r V s t) λx G x6 X L K w R=>?_;intro Y;obtain⟨k,C⟩:=w.put (S:=a) e (by simp:q.size∈_) [.s x,.s G];exact k.call (S:=a) f (λ_ h=>h) (sR (k.hS g) n k.s.r V (IT.mn _ _ _ _ _ C K) L 14) λy H N F M p l A=>l.ij IT.mn e E p trivial V _
 ·exact d.call (S:=a) f (λ_ h=>h) (sR (d.hS g) n d.s.r V s t 14) λy H N F M p l A=>l.ij IT.mn e E p trivial V _
end
end
section
variable{n b:Nat}{f:Nat->Int}{d:List a9}{e:cL}{s:St}
def qI(n:Nat)(f:Nat->Int):List Int:=(List.range n).map f
def mw(n:Nat)(f:Nat->Int):(qI n f).length=n:=by simp[qI]
def sW(h:b<n):(qI n f)[b]? =some (f b):=by
 unfold qI;rw[bW,Ke h];rfl
def eH{g:Nat->Int}(h:∀b,b<n->f b=g b):qI n f=qI n g:=by
 unfold qI;exact List.map_congr_left λb a=>h b (List.mem_range.1 a)
def Pj(v:Int):(qI n f).set b v=qI n (λa=>if a=b then v else f a):=by
 apply fK;intro i;by_cases a:i<n
 ·rw[sW a];by_cases e:b=i
  ·subst e;rw[dC (by rw[mw];exact a),aq rfl]
  ·rw[dO e,sW a,ae (λh=>e h.symm)]
 ·rw[bZ (by rw[gX,mw];omega),bZ (by rw[mw];omega)]
def PQ(n:Nat):qI n (λ_=>0)=fJ n:=by
 unfold qI fJ;rw[YJ];simp
structure Lb(h:List bL):Prop where
 iy:mr h
 cells:∀c∈h,mB h c
 dw:∀(b:Nat)(c:bL),h[b]? =some c->0<c.aQ->dw h b<=c.aQ
 JK:P3 h
structure EB(h:List bL)(f:a9):Prop where
 dh:∀(k:Nat)(w o:Int),f.av[k]? =some w->f.aV[k]? =some o->(gF w\/1000<=w)/\(0<=o/\o<=999999)/\(0<o->iX h w)
structure HM(e:cL)(h:List bL)(prev:Option a9)(f:a9):Prop where
 eU:0<=f.eU/\f.eU<e.cB.length
 pc:0<=f.pc/\f.pc<(dF e f.eU).cG.length
 lr:(f.av.length:Int)=(dF e f.eU).av
 lo:(f.aV.length:Int)=(dF e f.eU).av
 lh:(f.be.length:Int)=(dF e f.eU).av
 av:EB h f
 first:prev=none->f.dst=0
 next:∀p,prev=some p->0<=f.dst/\f.dst<p.aV.length/\u p.aV f.dst=0
def lW(d:List a9):Nat->Option a9
 |0=>none
 |k+1=>d[k]?
structure Lc(h:List bL)(d:List a9):Prop where
 dg:∀f∈d,∀w∈f.be,w=0\/(1000<=w/\ix w<h.length)
 ju:∀(i:Nat)(c:bL),h[i]? =some c->c.aQ<0->holds d i=1
 kJ:∀(i:Nat)(c:bL),h[i]? =some c->0<=c.aQ->holds d i=0
structure Kl(e:cL)(s:St):Prop where
 fP:lO e
 cR:0<=s.cR/\s.cR<=3
 done:s.cR=0<->s.ak=[]
 value:gF s.value
 rR:s.value≠0->s.cR=0
 dQ:0<=s.dQ/\s.dQ<=40
 bG:0<=s.bG/\s.bG<=s.dQ
 ln:(s.ak.length:Int)<=s.bG+1
 bq:∀n∈s.bq,gF n
 heap:Lb s.heap
 ak:∀(k:Nat)(f:a9),s.ak[k]? =some f->HM e s.heap (lW s.ak k) f
 be:Lc s.heap s.ak
 NS:∀(b:Nat)(c:bL),s.heap[b]? =some c->0<c.aQ->c.aQ=dw s.heap b+eu s.ak b
def MU:∀{d:List a9}{b:Nat},0<eu d b->∃f∈d,0<cz f.av f.aV b
 |[],b,h=>by simp[eu]at h
 |f::d,b,h=>by
  simp only[eu]at h;by_cases c:0<cz f.av f.aV b
  ·exact⟨f,E,c⟩
  ·obtain⟨g,e,i⟩:=MU (d:=d) (b:=b) V;exact⟨g,by simp[e],i⟩
def KI:∀{av aV:List Int}{b:Nat},0<cz av aV b->∃(k:Nat)(o:Int),av[k]? =some (1000+(b:Int))/\aV[k]? =some o/\0<o
 |[],aV,b,h=>by simp[cz]at h
 |_::_,[],b,h=>by simp[cz]at h
 |r::i,o::g,b,h=>by
  simp only[cz]at h;by_cases a:r=1000+(b:Int)/\0<o
  ·exact⟨0,o,by simp[a.1],rfl,a.2⟩
  ·have:0<cz i g b:=by
    split at h
    ·rename_i e;have:¬0<o:=λc=>a ⟨e,c⟩;omega
    ·omega
   obtain⟨k,f,c,d,e⟩:=KI this;exact⟨k+1,f,by simpa using c,by simpa using d,e⟩
def Sa{f:a9}(a:f∈d)(c:∀g∈d,0<=cz g.av g.aV b):cz f.av f.aV b<=eu d b:=by
 induction d with
 |nil=>simp at a
 |cons g d i=>
  have m:0<=eu d b:=by
   clear i a;induction d with
   |nil=>simp[eu]
   |cons q d j=>
    have k:=c q E;have l:=j (λx e=>c x (by simp at e⊢;rcases e with h|h;exact Or.inl h;exact Or.inr (Or.inr h)));simp only[eu];omega
  simp only[eu];rcases List.mem_cons.1 a with rfl|a
  ·omega
  ·have:=i a λx e=>c x (by simp[e]);have:=c g E;omega
def QZ(a:∀g∈d,0<=cz g.av g.aV b):0<=eu d b:=by
 induction d with
 |nil=>simp[eu]
 |cons q d e=>
  have f:=a q E;have g:=e λx c=>a x (by simp[c]);simp only[eu];omega
def MP{f:a9}(a:f∈d):dJ f.be b<=holds d b:=by
 induction d with
 |nil=>simp at a
 |cons g d c=>
  simp only[holds];rcases List.mem_cons.1 a with rfl|a
  ·have:=tK d b;omega
  ·have:=c a;have:=gB g.be b;omega
def Iy(h:∀f∈d,∀w∈f.be,w≠1000+(b:Int)):holds d b=0:=by
 induction d with
 |nil=>rfl
 |cons g d e=>
  simp only[holds];rw[e λf a=>h f (by simp[a]),mh λc=>h g E _ c rfl];rfl
def tR{f:a9}(h:f∈d):∃k:Nat,d[k]? =some f:=List.mem_iff_getElem?.1 h
def Jw(h:Kl e s):cA e s:=by
 have u:∀f∈s.ak,∃r,HM e s.heap r f:=λf d=>let⟨c,i⟩:=tR d;⟨_,h.ak c f i⟩;have B:∀b,∀m∈s.ak,0<=cz m.av m.aV b:=λb m v=>by
  obtain⟨r,a⟩:=u m v;refine nO (λo n=>?_) b;obtain⟨c,i⟩:=List.mem_iff_getElem?.1 n;have x:=ax i;have g:=a.lr;have t:=a.lo;obtain⟨w,j⟩:=ag (l:=m.av) (k:=c) V;exact(a.av.dh c w o j i).2.1.1
 refine⟨h.fP,h.cR,h.done,h.value,h.rR,h.dQ,h.bG,h.ln,h.bq,⟨h.heap.cells,h.heap.JK,h.NS,λb=>QZ (B b),λb A=>?_⟩,h.heap.iy,λf d=>?_,λf d=>(h.ak 0 f d).first rfl,λc f m d v=>(h.ak (c+1) m v).next f d,λb⟨p,q,y⟩=>h.be.ju b p q y,λb i=>?_⟩
 ·obtain⟨f,d,a⟩:=MU A;obtain⟨c,o,g,t,z⟩:=KI a;obtain⟨r,a⟩:=u f d;have:=((a.av.dh c _ o g t).2.2 z).2;rwa[jZ]at this
 ·obtain⟨r,a⟩:=u f d;refine⟨a.eU,a.pc,a.lr,a.lo,a.lh,λw j=>?_,λc o w n j=>?_,λw j=>?_⟩
  ·obtain⟨c,i⟩:=List.mem_iff_getElem?.1 j;have x:=ax i;have g:=a.lr;have t:=a.lo;obtain⟨o,n⟩:=ag (l:=f.aV) (k:=c) V;exact(a.av.dh c w o i n).1
  ·have:=a.av.dh c w o j n;exact⟨this.2.1.1,λz=>(this.2.2 z).1⟩
  ·rcases h.be.dg f d w j with g|g
   ·exact Or.inl g
   ·exact Or.inr g.1
 ·rcases aX b s.heap.length with x|C
  ·obtain⟨p,q⟩:=ag x;refine h.be.kJ b p q (Int.not_lt.1 λy=>i ⟨p,q,y⟩)
  ·refine Iy λf d w j z=>?_;rcases h.be.dg f d w j with g|g
   ·omega
   ·have:=g.2;rw[z,jZ]at this;omega
def Lp(h:cA e s):Kl e s:=by
 have E:∀b,∀p∈s.ak,0<=cz p.av p.aV b:=λb p D=>nO (h.ak p D).IN b;have y:∀f∈s.ak,∀(k:Nat)(w o:Int),f.av[k]? =some w->f.aV[k]? =some o->0<o->iX s.heap w/\o<=999999:=λf g k w o i n q=>by
  have m:=((h.ak f g).aV k o w n i).2 q;have A:=gC m;have B:=IP (h.ak f g).IN i n (c:=ix w) A.symm;have C:=Sa g (E (ix w));have x:=h.heap.lv (ix w) V;obtain⟨j,d,c⟩:=x;have I:=h.heap.ex _ j d c;have J:=nQ s.heap (ix w);have K:=(h.heap.cell j (ar d)).hi;exact⟨⟨m,j,d,c⟩,V⟩
 refine⟨h.fP,h.cR,h.done,h.value,h.rR,h.dQ,h.bG,h.ln,h.bq,⟨h.iy,h.heap.cell,λb j d c=>?_,h.heap.JK⟩,λk f g=>?_,⟨λf g w i=>?_,λu j d z=>h.ju u ⟨j,d,z⟩,λu j d z=>h.kJ u λ⟨H,r,L⟩=>?_⟩,h.heap.ex⟩
 ·have:=h.heap.ex b j d c;have:=h.heap.nn b;omega
 ·have t:=ar g;have F:=h.ak f t;refine⟨F.eU,F.pc,F.lr,F.lo,F.lh,⟨λv w o i n=>⟨F.Oj w (ar i),⟨(F.aV v o w n i).1,?_⟩,λc=>(y f t v w o i n c).1⟩⟩,λc=>?_,λG c=>?_⟩
  ·rcases wP 0 o with q|q
   ·exact(y f t v w o i n q).2
   ·omega
  ·cases k with
   |zero=>exact h.first f g
   |succ k=>
    simp only[lW]at c;have:=ax g;rw[List.getElem?_eq_none_iff]at c;omega
  ·cases k with
   |zero=>simp[lW]at c
   |succ k=>exact h.chain k G f c g
 ·rcases(h.ak f g).be w i with m|m
  ·exact Or.inl m
  ·refine Or.inr ⟨m,Nat.lt_of_not_le λt=>?_⟩;have B:=h.kJ (ix w) λ⟨j,d,_⟩=>by have:=ax d;omega
   have C:=MP g (b:=ix w);have x:=qA (l:=f.be) (a:=ix w) (by rw[gC m];exact i);omega
 ·rw[d]at r;simp at r;subst r;omega
end
end Go.Proofs.YtakpkjhmbbfniaaGreat
