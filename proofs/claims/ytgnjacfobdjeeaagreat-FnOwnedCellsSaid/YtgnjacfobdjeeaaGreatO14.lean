/- Part of a proof, joined by a program. -/
import Derived.Test.YtgnjacfobdjeeaaGreatO11
import Derived.Test.YtgnjacfobdjeeaaGreatO12
import Derived.Test.YtgnjacfobdjeeaaGreatO13
set_option linter.unusedVariables false
set_option linter.unusedSimpArgs false
set_option linter.defProp false
set_option linter.constructorNameAsVariable false
set_option maxHeartbeats 8000000
set_option maxRecDepth 100000
namespace Go.Proofs.YtgnjacfobdjeeaaGreat
open Go.Vc
section
variable{b:List fD}
def Jp{G:List bq}{i:cq}(cn:i.op=7\/i.op=8)(ih:∀c∈i.bu,T9 G b c):U6 G b i:=by
 intro C K H d s A cons first cl fl a4 ba aH aj j av cv cF t ha hk
 apply rY (d,0);simp -zeta only[aE,aD];intro ax ae;obtain⟨x2,hl⟩:=di (a:=ax) (c:=ae) rfl rfl;have s1:ax.size=H.size+1:=by simp[ax]
 have s2:ae.size=H.size+2:=by simp[ae,s1]
 clear_value ae;have cz:=j.em.box.lt;have cR:=j.em.gr.aY;have cQ:=cq.kN i;have co:=ha.len;have cE:=hk.len;have cD:=oG i.bu;have cK:=av.dY.kj V;have cw:=j.cons.len;have cH:=j.x.size;have cJ:∀{f:I}{g:O},Fz [d,s.F] H f->(g.F=s.F\/H.size<=g.F)->Le (bA [s.F,d] H) (bA [g.F,d] f):=N9;have st:∀{a0:List Nat}{f:I}{g:O}{R:List Instr},CG a0 K f d g R->Fz [d,s.F] H f->(g.F=s.F\/H.size<=g.F)->(∀o∈a0,o<f.size)->PB a0 K f d g R cons first cl fl:=λw N e hS=>⟨w,j.em.fq j.x N,hS,j.cons.le (cJ N e),j.first.le (cJ N e),j.same,j.iQ⟩
 have LL:∀{f:I}{g:O},ae.size<=f.size->(g.F=s.F\/ae.size<=g.F)->∀c∈[ax.size,H.size],c<f.size/\c≠d/\c≠g.F:=λhz e c a6=>by simp at a6;omega
 have fr:∀{f r:I}{g:O},Fz [d,s.F] H f->(g.F=s.F\/ae.size<=g.F)->Fz [d,g.F] f r->Fz [d,s.F] H r:=λN e ab=>N.pZ ab λB p=>by simp at p⊢;omega
 have fq:∀{f:I},H.size<=f.size->∀o∈C,o<f.size:=λh o hc=>by have:=j.fq o hc;omega
 have aG:∀{y:Nat}{c:Bk}{f:I},i.bu[y]? =some c->J K f->∃P,dN K P c.aA/\D f aj.F (aj.off+y*2)=some (O.v P)/\D f aj.F (aj.off+y*2+1)=some (vi c.aR):=λe bf=>let⟨P,h1,h2,h3⟩:=hk.u e;⟨P,h1,bf.D h2,bf.D h3⟩;refine⟨λh7=>?_,λh7=>?_⟩
 ·simp only[aL]at h7;have aO:=av.dY.HO h7;obtain⟨F,Q⟩:=ag (l:=i.bu) (k:=0) V;obtain⟨Y,U⟩:=ag (l:=i.bu) (k:=1) V;have bV:bw i.bu=F.w+Y.w:=by
   obtain⟨u,z,m⟩:∃u z,i.bu=[u,z]:=by
    match i.bu,aO with
    |[u,z],_=>exact⟨u,z,rfl⟩
   rw[m]at Q U⊢;simp at Q U;subst Q U;simp[bw]
  have w0:=F.Eo;have w1:=Y.Eo;have ac:∀y,ze G i.op i.bL y=0:=λy=>Ii V;have E2:=j.ext x2;refine(bE (s.F::d::C) (ha.ext E2.x) V).mono λz T⟨a',la,m,ga,ea,x3⟩=>⟨x3.da hl,a',m,?_⟩;subst ea;have z3:=x3.size;have aQ:∀o∈s.F::d::C,o<ae.size:=bG (bG (fq (f:=ae) V) V V) (ad _) V;refine(oR (x:=⟨20,0,0,0,i.args,[]⟩) (E2.em.ext x3) (E2.x.trans x3).size (GI.done ga aQ (by show i.args.length<=_;omega)) (rc _) V).mono λz m4⟨ev,s4,l4,aq,p4,f4,b4⟩=>⟨MD.da f4 (LL z3 (Or.inl rfl)),_,ev,?_⟩;subst p4;have z4:=f4.size;have F4:Fz [d,s.F] H m4:=((x2.trans x3).fz _).trans f4;have w4:Be (λ_=>False) A (A++[⟨20,0,0,0,i.args,[]⟩]) 1:=(lz.kj ⟨λh=>by simp at h,λh=>by simp at h⟩ ⟨by show i.args.length<=_;omega,E⟩).w;obtain⟨t0,aR,g0,g1⟩:=aG Q (j.em.fq j.x F4);refine⟨bd,V,_,g0,_,g1,?_⟩;have af:=av.bu 0 F Q;rw[ac]at af;have aV:=w4.len;refine(ih F (au Q) C K m4 d s4 _ cons first cl fl a4 ba t0 (st aq F4 V (fq V)) (by simpa using af) V V t aR).mono λz v⟨s5,l5,a5,p5,f5,b5⟩=>⟨MD.da f5 (LL V V),?_⟩;have F5:=fr F4 V f5;have z5:=f5.size;have w5:=w4.then p5;have X5:=j.em.fq j.x F5;obtain⟨_,-,-,g5⟩:=aG Q X5;refine⟨bd,V,_,g5,?_⟩;have aW:=w5.len;refine E8 a5 X5 (fq V) V (LL V V) λs6 W m6 aw e6 f6 b6=>?_;have F6:=fr F5 V f6;have z6:=f6.size;have w6:Be (λ_=>False) A W (1+6*(F.w -1)+1):=e6▸w5.then Ow;have aX:=w6.len;have a7:W.length=l5.length+1:=by rw[e6];simp
  have X6:=j.em.fq j.x F6;refine QR aw X6 V (LL V V) λs7 l7 m7 ay e7 f7 b7=>?_;have F7:=fr F6 V f7;have z7:=f7.size;have w7:Be (λq=>q=W.length) A l7 (1+6*(F.w -1)+1+1):=e7▸(w6.imp (λ_ h=>h.elim) (ad _)).J7 rfl;have a8:l7.length=W.length+1:=by rw[e7];simp
  obtain⟨L,al⟩:=ag (l:=l7) (k:=A.length) V;refine Qn ay (j.em.fq j.x F7) al (LL V V) λs8 l8 m8 aF e8 f8 b8=>?_;have w8:Be (λq=>q=W.length) A l8 (1+6*(F.w -1)+1+1):=e8▸(w7.WW (ad _) al).imp (λ_ h=>h.1) (ad _);have a9:l8.length=l7.length:=by rw[e8];simp
  have Z:=fr F7 V f8;have z8:=f8.size;obtain⟨t1,aU,k0,k1⟩:=aG U (j.em.fq j.x Z);refine⟨bd,V,_,k0,_,k1,?_⟩;have ah:=av.bu 1 Y U;rw[ac]at ah;have aZ:=w8.len;refine(ih Y (au U) C K m8 d s8 l8 cons first cl fl a4 ba t1 (st aF Z V (fq V)) (by simpa using ah) V V t aU).mono λz m9⟨s9,l9,aK,p9,f9,b9⟩=>⟨MD.da f9 (LL V V),?_⟩;have F9:=fr Z V f9;have z9:=f9.size;have w9:=w8.then p9;have X9:=j.em.fq j.x F9;obtain⟨_,-,-,g9⟩:=aG U X9;refine⟨bd,V,_,g9,?_⟩;have b0:=w9.len;have a_:l8.length<=l9.length:=by obtain⟨nw,m,-⟩:=p9;rw[m];simp
  refine E8 aK X9 (fq V) V (LL V V) λbs aa bb am aI aC bD=>?_;have aN:Be (λq=>q=W.length) A aa (1+6*(F.w -1)+1+1+6*(Y.w -1)+1):=aI▸w9.then Ow;have aA:=fr F9 V aC;have vP:=aC.size;have b2:aa.length=l9.length+1:=by rw[aI];simp
  obtain⟨be,ak⟩:=ag (l:=aa) (k:=W.length) V;refine Qn am (j.em.fq j.x aA) ak (LL V V) λaY aM bc ap aT aJ bF=>?_;exact⟨aY,aM,ap,aT▸(aN.WW V ak).Vs (λq h=>h.2 h.1) V,fr aA V aJ,V⟩
 ·simp only[an]at h7;have h8:i.op=8:=V;obtain⟨cC,cB⟩:=av.dY.all h8;obtain⟨B,bn⟩:=ag (l:=i.args) (k:=0) V;obtain⟨y0,y1⟩:=av.dY.args B (au bn);obtain⟨yn,rfl⟩:∃b7:Nat,B=b7:=⟨B.toNat,V⟩;have E2:=j.ext x2;refine⟨bd,V,yn,(ha.ext E2.x).u bn,?_⟩;have b6:∀o∈[s.F,d],o<ae.size:=λo hc=>by simp at hc;omega
  refine(fR (e:=[s.F,d]) b6 (t.aT.le E2.x.le) t.types i.bL).mono λz T⟨aR,cg,ec,hc,qc,x3⟩=>⟨x3.da hl,aR,ec,?_⟩;subst qc;have cy:=hc.len;have z3:=x3.size;intro m4;refine E8 (E2.em.ext x3) (E2.x.trans x3) (fq V) V (LL z3 (Or.inl rfl)) λs5 l5 v a5 e5 f5 b5=>?_;have z5:=f5.size;have w5:Be (λ_=>False) A l5 1:=e5▸(lz.kj ⟨λh=>by simp at h,λh=>by simp at h⟩ ⟨E,E⟩).w;have cW:l5.length=A.length+1:=by rw[e5];simp
  intro m6 m7;have x6:J v m6:=J.push _ _;have x7:J m6 m7:=J.push _ _;have s6:m6.size=v.size+1:=by simp[m6]
  have s7:m7.size=m6.size+1:=by simp[m7]
  have bQ:GI [] v m7 (.mk v.size 0 0 0) []:=(GI.nil [] v).ext x7;have bN:GI [] v m7 (.mk m6.size 0 0 0) []:=GI.cG (GI.nil [] m6) (λ_ h=>h) x6.size;clear_value m7 m6;have bg:=x6.trans x7;have aF:∀{f r:I}{g:O},Fz [d,s.F] T f->(g.F=s.F\/T.size<=g.F)->Fz [d,g.F] f r->Fz [d,s.F] T r:=λN e ab=>N.pZ ab λB p=>by simp at p⊢;omega
  have F0:Fz [d,s.F] H T:=(x2.trans x3).fz _;have bh:∀{f:I}{g:O}{y:Nat}{o:Int},Fz [d,s.F] T f->(g.F=s.F\/T.size<=g.F)->(bU G i.bL)[y]? =some o->D f aR.F (aR.off+y*1)=some (vi o):=λ{f g y o} N e h=>(dP.1 ((hc.le (nM (c:=[g.F,d]) (a:=f) λc a6 t=>by
   simp at t;exact⟨by simp;rcases e with m|m<;>omega,N.same c a6 bK⟩)).u h)).2
  have bv:∀{f:I},v.size<=f.size->Fz (List.range v.size) v f:=λh=>⟨h,λc e t=>absurd (List.mem_range.2 e) t⟩;have ak:∀{f r:I}{u:O}{ul:List Int}{aQ:List Nat},GI [] v f u ul->Fz aQ f r->u.F∉aQ->GI [] v r u ul:=λ{f r u ul aQ} ab N h=>GI.any ((GI.any (g:=aQ) ab).KP rS.mono N (λ_ h=>h) h);have o7:CG (v.size::m6.size::C) K m7 d s5 l5:=a5.re (bg.fz []) E λc e=>by
   simp only[aS]at e;rcases e with m|m|m
   ·exact Or.inr V
   ·exact Or.inr V
   ·exact Or.inl m
  refine uL (n:=(bU G i.bL).length) V (λaj P Q f=>∃g R tl F,CG (P.F::Q.F::C) K f d g R/\Be (λq=>(q:Int)∈F) A R (1+6*bw (i.bu.take aj))/\GI [] v f P tl/\tl.length=aj/\GI [] v f Q F/\F.length<=aj/\(∀B∈F,∃q:Nat,B=q/\A.length<q/\q<R.length)/\P.F≠Q.F/\Fz [d,s.F] T f/\(g.F=s.F\/T.size<=g.F)/\m7.size<=f.size/\A.length<R.length)
   ⟨s5,l5,[],[],o7,w5.imp (λ_ h=>h.elim) E,bQ,rfl,bN,ad _,E,by show v.size≠m6.size;omega,f5.then bg,V,ad _,V⟩ ?_
  rintro Z P Q f cd μ hj ⟨g,R,tl,F,w,bc,gt,cM,ge,cA,a8,cI,N,e,zM,cG⟩ bo
  have bz:=F0.trans N;have XM:=j.em.fq j.x bz;have ty:=gt.aY;have ey:=ge.aY;have t1:P.F≠d:=gt.ne w.box bd;have t2:P.F≠g.F:=gt.IW w.gr bd;have n1:Q.F≠d:=ge.ne w.box bd;have n2:Q.F≠g.F:=ge.IW w.gr bd;have cL:=w.gr.len bd;have cP:=bc.len;have bV:=Ik i.bu Z;have oy:=w.gr.aY;have cZ:=w.box.lt;refine dit (λh=>?_) λh=>?_
  ·obtain⟨o,a7⟩:=ag (l:=bU G i.bL) (k:=Z) V;obtain⟨c,aK⟩:=ag (l:=i.bu) (k:=Z) V;have ct:=sF aK;have cu:=Ik i.bu (Z+1);have cr:=c.Eo;have bl:ze G i.op i.bL Z=(bT G o).length:=Ih h8 a7;have cp:=NY t.types i.op i.bL Z;refine⟨g,w.box.cy 0,?_⟩;intro m8;refine GI.jK gt (bv V) E V λt' M1 aU ci z1 q1=>?_;have fa:Fz [P.F] f M1:=⟨z1.1,λc e t=>q1 c e (by simpa using t)⟩;refine⟨λc e=>by
    simp at e;rw[q1 c V V,(J.push f _).same c V],?_⟩
   have f1:Fz [d,s.F] T M1:=N.pZ fa λB p=>by simp at p⊢;omega
   have bM:=ak ge fa bK;have o1:CG (t'.F::Q.F::C) K M1 d g R:=w.re fa (by simp;exact⟨t1,t2⟩) λc e=>by
    rcases List.mem_cons.1 e with m|m
    ·rcases z1.2 with e'|e'
     ·exact Or.inl (by rw[m,e'];simp)
     ·exact Or.inr V
    ·exact Or.inl (ai _ m)
   have cb:=aU.aY;refine⟨V,V,o,bh f1 e a7,?_⟩;have X1:=j.em.fq j.x (F0.trans f1);refine(dk (e:=[]) E (t.aT.le (X1.le.trans (xB _))) t.types o).mono λz M2⟨ff,cm,ef,hf,qf,aO⟩=>⟨aO.da λc e=>by simp at e;omega,ff,ef,?_⟩;subst qf;have bW:=hf.len;have z2:=aO.size;have f2:=f1.then aO;refine dO (n:=(bT G o).length) V (λy r=>∃ay aw,CG (t'.F::Q.F::C) K r d ay aw/\Be (λq=>(q:Int)∈F) A aw (1+6*bw (i.bu.take Z)+y)/\Fz [d,g.F] M2 r/\(ay.F=g.F\/M2.size<=ay.F)/\R.length<=aw.length) ⟨g,R,o1.ext aO,bc,Fz.aC _ _,Or.inl rfl,ad _⟩ ?_;rintro y M3 I3 μ3 hi ⟨af,l3,o3,w3,f3,b3,cT⟩ b8;have c2:=f3.size;have F3:=aF f2 e f3;have aV:af.F=s.F\/T.size<=af.F:=V;have cO:=w3.len;have X3:=j.em.fq j.x (F0.trans F3);have LM:∀{r:I}{u:O},M3.size<=r.size->(u.F=s.F\/T.size<=u.F)->∀c∈[ax.size,H.size],c<r.size/\c≠d/\c≠u.F:=λhz e=>LL V V;have aW:∀{r:I},M3.size<=r.size->∀o∈t'.F::Q.F::C,o<r.size:=λh=>bG (bG (fq (f:=M3) V) (ad _) V) h V;refine⟨λa9=>?_,λa9=>?_⟩
   ·simp only[ao]at a9;intro m9;refine E8 o3 X3 (aW (ad _)) V (LM (ad _) aV) λs4 l4 M4 o4 e4 f4 b4=>b8 V _ ⟨s4,l4,o4,?_,f3.pZ f4 λB p=>by simp at p⊢;omega,V,by rw[e4];simp;omega⟩;rw[e4];exact w3.then (lz.kj ⟨λh=>by simp at h,λh=>by simp at h⟩ ⟨E,E⟩)
   simp only[bP]at a9;have a_:y=(bT G o).length:=V;subst a_;have y3:=o3.gr.aY;have ce:=o3.box.lt;have ac:∀{r:I},M3.size<=r.size->∀o∈[af.F,d],o<r.size:=λh o hc=>by simp at hc;omega
   rw[bW];refine(kC (S:=[af.F,d]) (ac (ad _)) 0 (bT G o).length V).mono λz M4⟨s4,l4,e4,g4,q4,x4⟩=>⟨x4.da λc e=>by simp at e;omega,s4,e4,?_⟩;have z4:=x4.size;have h4:=GI.done g4 (ac (ad _)) V;obtain⟨tk,bZ,k0,k1⟩:=aG aK (X3.trans x4);have F4:=F3.then x4;have Y:∀{u z:I},J M4 u->J u z->∀w,D z ax.size w=D u ax.size w/\D z H.size w=D u H.size w:=λaH c w=>⟨gl c (by have:=aH.size;omega) w,gl c (by have:=aH.size;omega) w⟩;refine⟨V,V,tk,k0,_,k1,V,V,o,bh F4 aV a7,?_⟩;have S4:=st o3 (F0.trans F3) V (aW (ad _));have cf:=S4.cons.len;have ck:=S4.first.len;have c0:=S4.same;refine(sU (S:=[af.F,d]) (ac z4) (S4.cons.le (x4.cJ _)) V (a:=yn) V o).mono λz M5⟨s5,cV,e5,g5,q5,U⟩=>⟨U.da λc e=>by simp at e;omega,s5,e5,gx U k0,gx U k1,(Y (J.aC _) U _).1,(Y (J.aC _) U _).2,(Y (J.aC _) U _).2,?_⟩;have z5:=U.size;have h5:=GI.done g5 (ac z4) (by rw[<-q5];simp;omega);refine(dL (S:=[af.F,d]) (ac V) h5 (h4.le (U.cJ _)) (by rw[<-q5];simp;omega)).mono λz M6⟨bb,W,e6,g6,q6,al⟩=>⟨al.da λc e=>by simp at e;omega,bb,e6,gx al (U.D k0),gx al (U.D k1),(Y U al _).1,(Y U al _).2,(Y U al _).2,?_⟩;have z6:=al.size;have ap:=U.trans al;have h6:=GI.done g6 (ac V) (by rw[<-q6,<-q5];simp;omega);refine(sU (S:=[af.F,d]) (ac V) (S4.first.le ((x4.trans ap).cJ _)) V (a:=yn) V cons.len).mono λz M7⟨b_,l7,e7,g7,q7,ah⟩=>⟨ah.da λc e=>by simp at e;omega,b_,e7,gx ah (ap.D k0),gx ah (ap.D k1),(Y ap ah _).1,(Y ap ah _).2,(Y ap ah _).2,?_⟩;have z7:=ah.size;have aq:=ap.trans ah;have bR:=GI.done g7 (ac V) (by rw[<-q7];simp;omega);refine(dL (S:=[af.F,d]) (ac V) bR (h4.le (aq.cJ _)) (by rw[<-q7];simp;omega)).mono λz M8⟨s8,l8,e8,g8,q8,L⟩=>⟨L.da λc e=>by simp at e;omega,s8,e8,gx L (aq.D k0),gx L (aq.D k1),(Y aq L _).1,(Y aq L _).2,(Y aq L _).2,?_⟩;have z8:=L.size;have bS:=GI.done g8 (ac V) (by rw[<-q8,<-q7];simp;omega);have am:=(x4.trans aq).trans L;have bm:W.length=cl.length+ze G i.op i.bL Z:=by rw[<-q6,<-q5,bl];simp;omega
   have bX:l8.length=W.length:=by rw[<-q8,<-q7,bm,bl];simp;omega
   have ES:PB (t'.F::Q.F::C) K M8 d af l3 bb s8 W l8:=⟨o3.ext am,X3.trans am,aW am.size,h6.le ((ah.trans L).cJ _),bS,bX,λB p=>by
    rw[<-q8]at p;rcases List.mem_append.1 p with p|p
    ·rw[<-q7]at p;rcases cx p with p|p
     ·exact j.iQ B p
     ·omega
    ·have:=q4.1 B p;omega⟩
   have b1:WB G b.length True W.length c:=by rw[bm];exact av.bu Z c aK
   refine(ih c (au aK) _ K M8 d af l3 bb s8 W l8 a4 ba tk ES b1 V V t bZ).mono λz M9⟨s9,l9,o9,p9,f9,b9⟩=>⟨MD.da f9 (LM (by have:=am.size;omega) aV),?_⟩;have z9:=f9.size;have c3:=am.size;have F9:=aF (F3.then am) aV f9;have X9:=j.em.fq j.x (F0.trans F9);have w9:=w3.then p9;have b0:=w9.len;have cU:l3.length<=l9.length:=by obtain⟨nw,m,-⟩:=p9;rw[m];simp
   obtain⟨_,-,-,g9⟩:=aG aK X9;refine⟨V,V,_,g9,?_⟩;refine E8 o9 X9 (aW V) V (LM V V) λbs aa be aX aI aC bD=>?_;have vP:=aC.size;have aA:=aF F9 V aC;have aN:Be (λq=>(q:Int)∈F) A aa (1+6*bw (i.bu.take Z)+(bT G o).length+6*(c.w -1)+1):=aI▸w9.then Ow;have b2:aa.length=l9.length+1:=by rw[aI];simp
   have cN:=aN.len;have kI:∀{u:O}{ul:List Int},GI [] v M1 u ul->u.F≠d->u.F≠g.F->u.F<M1.size->GI [] v be u ul:=λ{u ul} ab a1 a2 a3=>by
    have g2:=ab.ext aO;have g3:=ak g2 f3 (by simp;exact⟨a1,a2⟩);have bI:=g3.ext am;have bJ:=ak bI f9 (by simp;exact⟨a1,by rcases b3 with m|m<;>omega⟩);exact ak bJ aC (by simp;exact⟨a1,by rcases b9 with m|m<;>omega⟩)
   have bu:t'.F≠d:=aU.ne o1.box bd;have ca:t'.F≠g.F:=aU.IW o1.gr bd;have bk:=kI aU bu ca cb.2;have bi:=kI bM n1 n2 V;rw[aP (b:=(aR.len:Int) -1) V V];refine⟨λbY=>?_,λbY=>bo V _ _ _ ⟨bs,aa,tl++[(g.len:Int)],F,aX,aN.imp (λ_ h=>h) V,bk,bK,bi,V,λB p=>by obtain⟨q,m,h1,h2⟩:=a8 B p;exact⟨q,m,h1,V⟩,V,aA,V,V,V⟩⟩;have cY:=aX.gr.aY;refine QR aX (j.em.fq j.x (F0.trans aA)) V (LM V V) λaY aM aZ bp aT aJ bF=>?_;have c1:=aJ.size;have bB:=aF aA V aJ;have cc:Be (λq=>(q:Int)∈F++[(aa.length:Int)]) A aM (1+6*bw (i.bu.take Z)+(bT G o).length+6*(c.w -1)+1+1):=aT▸(aN.imp (λq h=>List.mem_append.2 (Or.inl h)) (ad _)).J7 E;have cS:aM.length=aa.length+1:=by rw[aT];simp
   have nx:∀{u:O}{ul:List Int},GI [] v be u ul->u.F≠d->GI [] v aZ u ul:=λab aH=>ak ab aJ (by simp;exact⟨aH,ab.IW aX.gr bd⟩);have bO:=nx bk bu;have bj:=nx bi n1;intro cX;refine GI.jK bj (bv V) E V λch bC bL cj bx br=>?_;have fb:Fz [Q.F] aZ bC:=⟨bx.1,λc e t=>br c e (by simpa using t)⟩;have bH:Q.F≠aY.F:=bj.IW bp.gr bd;refine⟨λc e=>by
    simp at e;rw[br c V V,(J.push aZ _).same c V],bo V _ _ _ ⟨aY,aM,tl++[(g.len:Int)],F++[(aa.length:Int)],?_,cc.imp (λ_ h=>h) V,ak bO fb bK,bK,bL,bK,λB p=>?_,V,bB.pZ fb λB p=>by simp at p⊢;omega,V,V,V⟩⟩
   ·exact bp.re fb (by simp;exact⟨n1,bH⟩) λc e=>by
     simp only[aS]at e⊢;rcases e with m|m|m
     ·exact Or.inl (Or.inl m)
     ·rcases bx.2 with e'|e'
      ·exact Or.inl (Or.inr (Or.inl V))
      ·exact Or.inr V
     ·exact Or.inl (Or.inr (Or.inr m))
   ·rcases List.mem_append.1 p with p|p
    ·obtain⟨q,m,h1,h2⟩:=a8 B p;exact⟨q,m,h1,V⟩
    ·simp at p;exact⟨aa.length,p,V,V⟩
  ·have ah:Z=(bU G i.bL).length:=V;subst ah;refine⟨g,w.box.cy 0,?_⟩;intro m8;have L:J f m8:=J.push _ _;have ap:ar (bA (g.F::d::C) m8) (.mk f.size 0 1 1) [(yn:Int)]:=ar.lit aB _ (bG (bG (fq (f:=f) V) (ad _) V) (ad _) V) rfl rfl E;have s8:m8.size=f.size+1:=by simp[m8]
   clear_value m8;refine⟨gl L V _,gl L V _,V,V,?_⟩;have U:CG C K m8 d g R:=(w.ext L).re (Fz.aC [] _) E λc e=>Or.inl (ai _ (ai _ e));have aq:P.F∉g.F::d::C:=by
    simp only[aS,tA];exact⟨t2,t1,λh=>by have:=fq (f:=H) (ad _) _ h;omega⟩
   have am:ar (bA (g.F::d::C) m8) P tl:=(GI.any (g:=g.F::d::C) (gt.ext L)).mq rS.mono aq bd V;obtain⟨wr,gs,-,qs⟩:=U.gr.set dt.mono (X:=List.range K.size) ⟨V,λc e t=>absurd (List.mem_range.2 e) t⟩ (k:=A.length) V (a:=⟨21,0,i.bL,0,[(yn:Int)],tl⟩) (cs:=[.i 21,.i 0,.i i.bL,.i 0,.s (.mk f.size 0 1 1),.s P]) ⟨_,_,rfl,ap,am⟩;refine⟨wr,?_⟩;intro m9;have s9:m9.size=m8.size:=az _ _ _ _;have o9:CG C K m9 d g (R.set A.length ⟨21,0,i.bL,0,[(yn:Int)],tl⟩):=⟨U.box.congr (qs d (jQ U.ne)),gs,U.up⟩;have f9:Fz [d,g.F] f m9:=⟨V,λc e t=>by
    simp at t;have e1:m9[c]? =m8[c]? :=qs c t.2;rw[e1,L.same c e]⟩
   have w9:=(bc.set (x:=⟨21,0,i.bL,0,[(yn:Int)],tl⟩) (k:=A.length) (ad _) ⟨λh=>by simp at h,λh=>by simp at h⟩ ⟨E,by show tl.length<=_;omega⟩).imp (c:=λq=>(q:Int)∈F) (λ_ h=>h.1) (ad _);refine⟨λc e=>qs c (by simp at e;omega),?_⟩;have aA:=ge.len bd;refine dO (n:=F.length) V (λy r=>∃ay aw,CG C K r d ay aw/\Be (λq=>(q:Int)∈F.drop y) A aw (1+6*bw (i.bu.take (bU G i.bL).length))/\aw.length=R.length/\GI [] v r Q F/\Fz [d,s.F] T r/\(ay.F=s.F\/T.size<=ay.F)/\m7.size<=r.size) ⟨g,_,o9,by simpa using w9,E,ak ge f9 (by simp;exact⟨n1,n2⟩),aF N e f9,e,V⟩ ?_;rintro y r I2 μ2 hi ⟨ay,l2,o2,w2,al,W,f2,b2,z2⟩ aw;refine dit (λh=>?_) λh=>?_
   ·obtain⟨B,Y⟩:=ag (l:=F) (k:=y) V;obtain⟨q,rfl,aC,aI⟩:=a8 B (au Y);have af:ar (bA [] r) Q F:=(GI.any (g:=[]) W).mq rS.mono E bd V;have ac:=af.le (bt _ _);obtain⟨xq,aa⟩:=ag (l:=l2) (k:=q) V;refine⟨V,V,q,ac.u Y,?_⟩;refine Qn o2 (j.em.fq j.x (F0.trans f2)) aa (LL V V) λs4 l4 M4 o4 e4 f4 b4=>aw V _ ⟨s4,l4,o4,?_,by rw[e4];simp;exact al,ak W f4 (by simp;exact⟨n1,W.IW o2.gr bd⟩),aF f2 b2 f4,by have:=f2.size;omega,by have:=f4.size;omega⟩;rw[e4];refine(w2.WW V aa).imp (λq' h=>?_) (ad _);obtain⟨h1,h2⟩:=h;rw[oD V]at h1;rcases List.mem_cons.1 h1 with m|m
    ·have:F[y]=(q:Int):=by have:=List.getElem?_eq_some_iff.1 Y;exact this.2
     rw[this]at m;exact absurd V h2
    ·exact m
   ·have a_:y=F.length:=V;subst a_;rw[List.drop_length]at w2;exact⟨ay,l2,o2,w2.Vs E V,F0.trans f2,V⟩
def Jv{c:List bq}:∀a:Bk,T9 c b a:=Bk.ind λaA r f=>Ju λx e h=>Jp h λa d=>f x e a d
end
def lz.cE{l:List Instr}{n:Nat}(h:lz [] l n):PA l/\NS l/\l.length<=n:=by
 obtain⟨e,rfl,b,c,d⟩:=h;exact⟨λk x a=>by have:=b k x a;simpa using this,c,d⟩
def Jy{e:List Nat}{t:I}(hS:∀f∈e,f<t.size){F ak:O}{ds:List bq}{rs:List fD}(W:dJ t F ak ds rs){ao:Nat}(aB:vS ds rs True ao)(hW:ao<=120000000000):NR 133 [.agg #[O.v F,O.v ak]] t e ds Bg:=by
 apply BR;simp -zeta only[aE,aD];have ht:=W.types;have hp:=W.gQ;intro b a2;obtain⟨x2,hl⟩:=di (a:=b) (c:=a2) rfl rfl;have s1:b.size=t.size+1:=by simp[b]
 clear_value a2;have aZ:=hp.len;have br:=W.mN;have bp:=aB.gR;refine(eT (b:=b.size::e) (bG hS x2.size (hl _ E)) (W.aT.le x2.le) ht).mono λ_ ah⟨dd,g,aX,x3⟩=>?_;subst g;refine⟨x3.da hl,_,rfl,?_⟩;intro j a5 aI;have u2:=x2.trans x3;obtain⟨x5,B0,g0,s3,s5⟩:=jO (b:=j.size::b.size::e) jU.mono (d:=ah) (a:=j) (c:=a5) (h:=aI) rfl rfl rfl;clear_value aI;have aA:∀f∈[b.size,t.size],f<ah.size:=λf p=>x3.lt (hl f p);have ay:∀f∈b.size::e,f<ah.size:=λf p=>x3.lt (bG hS x2.size (hl _ E) f p);refine jI (R:=λh o w=>∃F c d,Value.agg #[O.v h,O.v o]=.agg #[O.v F,O.v c]/\bR (bA e w) F ds/\gB (bA e w) c d/\Bg d/\J t w) (t:=rs.length) (f:=t) (b:=e) jU.mono bd bd hS ⟨V,aA _ E⟩ u2 s3 aX aZ V x5 B0 g0 (λ_ q=>Qj q) (λc r' aF m' d h v o r=>⟨c,r',aF,rfl,d,h,⟨V,V,λq hq=>by obtain⟨u,s⟩:=List.mem_iff_getElem?.1 hq;exact o u q s⟩,r⟩) λaC w r aF bi μ aY bn xM aw am a8=>?_
 obtain⟨q,hq⟩:=ag (l:=rs) (k:=aC) aY;obtain⟨q3,be,bf,qw⟩:=aB.df q (au hq);have L:=u2.trans xM;obtain⟨cs,⟨bj,o,bg,rfl,c1,c2,c3⟩,X⟩:=hp.je aC q hq;have aR:=c1.len;have qp:=q.body.Eo;refine⟨V,V,_,L.D (X 0 _ rfl),_,L.D (X 1 _ rfl),_,L.D (X 2 _ rfl),_,L.D (X 3 _ rfl),_,L.D (X 4 _ rfl),?_⟩;intro m7 c;have hy:=aw.aY;have bl:=am.lt;have zM:=xM.size;obtain⟨x8,-,s8⟩:=jz (M:=w) (d:=m7) (c:=c) rfl rfl rfl;clear_value c;have bo:=u2.size;have w8:=L.trans x8;have U:∀{P:I},c.size<=P.size->∀f∈r.F::j.size::b.size::e,f<P.size:=λh f p=>by
  simp only[aS]at p;rcases p with g|g|g|g
  ·omega
  ·omega
  ·have:=ay f (by simp[g]);omega
  ·have:=ay f (by simp[g]);omega
 have bm:b.size<ah.size:=aA _ E;intro d u;have x9:J c d:=J.push _ _;have s9:d.size=c.size+1:=by simp[d]
 have aM:J d u:=J.push _ _;have bz:u.size=d.size+1:=by simp[u]
 have g9:Sv (d.size::r.F::j.size::b.size::e) c d (.mk c.size 0 0 0) []:=Gr.new _ (ad _) _ _ _;have aO:cB u d.size mG [.s (.mk c.size 0 0 0)]:=cB.push _ _ _;have aT:CG (r.F::j.size::b.size::e) c u d.size (.mk c.size 0 0 0) []:=⟨aO,g9.ext dt.mono aM,V⟩;clear_value u d;have ap:=x9.trans aM;have aG:∀f∈[c.size,d.size],f<u.size:=λf p=>by simp at p;omega
 have LL:∀{P:I}{s':O},u.size<=P.size->(s'.F=c.size\/u.size<=s'.F)->∀o∈[w.size,b.size,t.size],o<P.size/\o≠d.size/\o≠s'.F:=λhz B o aV=>by simp at aV;omega
 rw[aR];refine(kC (S:=[c.size,d.size]) aG 0 q.params.length V).mono λ_ aH⟨Z,af,g,aU,aL,aa⟩=>⟨aa.da λo B=>by simp at B;omega,Z,g,?_⟩;have ax:=GI.done aU aG V;have bh:=aa.size;have aP:PB (r.F::j.size::b.size::e) c aH d.size (.mk c.size 0 0 0) [] Z Z af af:=⟨aT.ext aa,ap.trans aa,U V,ax,ax,rfl,λy hy=>by have:=aL.1 y hy;omega⟩;refine(Jv q.body _ c aH d.size _ [] Z Z af af F ak bg aP (by rw[aL.2];exact bf) V bK (W.le w8.le) (dN.le w8.le c3)).mono λbC a1⟨bB,bs,aj,aK,ae,aQ⟩=>⟨MD.da ae (LL bh (Or.inl rfl)),?_⟩;have bH:=ae.size;simp only[O.iT]at aQ ae;have aq:J c a1:=Fz.ext ((((ap.trans aa).fz [d.size,c.size]).trans ae).AZ λo B=>Or.inr (by simp at B;omega));have ba:=aK.len;intro bu;refine E8 aj aq (U V) (by simp at ba;omega) (LL V V) λC K y T ar av bk=>?_;have bI:=av.size;have bD:=aj.gr.aY;have ab:J c y:=aj.fq aq av;have bb:lz [] K (6*q.body.w):=ar▸(aK.trans (lz.kj (x:=⟨23,0,0,0,[q.body.aR],[]⟩) ⟨λh=>by simp at h,λ_=>E⟩ E)).fG V;obtain⟨a9,a_,bx⟩:=bb.cE;have a0:0<K.length:=by rw[ar];simp
 have an:=am.ext (x8.trans ab);refine⟨r,an.cy 1,C,T.box.cy 0,C,T.box.cy 0,?_⟩;have bF:=T.gr.aY;have a7:=T.ne;have a6:C.F∉d.size::r.F::j.size::b.size::e:=by
  simp only[aS,tA];have p:=λh:C.F∈r.F::j.size::b.size::e=>U (P:=c) (ad _) _ h;refine⟨a7,λh=>?_,λh=>?_,λh=>?_,λh=>?_⟩<;>have:=p (by simp[h])<;>omega
 have az:eB (bA (d.size::r.F::j.size::b.size::e) y) C K:=T.gr.mq dt.mono a6 bd V;have G:∀{A Q:I}{o aJ:Nat},y.size<=A.size->J A Q->o<y.size->D Q o aJ=D A o aJ:=λh al B=>gl al V _;have sm:∀{A Q:I},y.size<=A.size->J A Q->dV [w.size,b.size,t.size] A Q:=λh al=>al.da λo B=>by simp at B;omega
 have Y:d.size<y.size:=V;have H:w.size<y.size:=V;have i3:j.size<y.size:=V;refine(bE (r.F::j.size::b.size::e) (c1.ext (w8.trans ab)) V).mono λ_ bv⟨a',la,g,ga,ea,s⟩=>⟨sm (ad _) s,a',g,G (ad _) s Y,G (ad _) s H,G (ad _) s Y,G (ad _) s H,G (ad _) s H,G (ad _) s i3,?_⟩;subst ea;have N:=s.size;refine(bE (r.F::j.size::b.size::e) (c2.ext ((w8.trans ab).trans s)) V).mono λ_ a3⟨b',lb,g,gb,eb,v⟩=>⟨sm N v,b',g,G N v Y,G N v H,G N v Y,G N v H,G N v i3,?_⟩;subst eb;have bJ:=v.size;have aN:=s.trans v;refine(Ko (m:=a3) (eB.ext aN (dW.le az (bt _ _) λ_ _=>dt.le (bt _ _))) (q.params.length:Nat)).mono λ_ a4⟨rg,g,_,z⟩=>⟨sm V z,rg,g,G V z Y,G V z H,G V z i3,?_⟩;have bL:=z.size;have ac:=aN.trans z;intro bw;have aW:eB (bA (r.F::j.size::b.size::e) a4) C K:=dW.le az ((ac.cJ _).trans (gJ _ λ_ h=>ai _ h)) λ_ _=>dt.le ((ac.cJ _).trans (gJ _ λ_ h=>ai _ h));have XX:=(x8.trans ab).trans ac;refine Gr.box (g:=[.s .nil,.s .nil,.i 0,.i 0,.s .nil]) (j:=1) (z:=88) (o:=[.s dd,.s r]) (y:=⟨q.params,q.cW,q.aR,rg,K⟩) jU.mono bd (aw.ext jU.mono XX) ((xM.trans XX).fz []) ⟨a',b',C,rfl,(GI.done ga (U V) V).le ((v.trans z).cJ _),(GI.done gb (U V) V).le (z.cJ _),aW⟩ V (an.ext ac) E bd ⟨V,E⟩ (λf p=>?_) λr' m' g' B' f' z' q'=>a8 r' m' _ g' B' f'.ext ⟨q3,be,a0,by show K.length<=_;omega,a9,a_⟩
 simp at p;omega
section
def Mn{α:Type}(T:I->O->O->α->Prop):Prop:=∀M a b c x,Le M a->T M b c x->T a b c x
def PP{α:Type}(T:I->O->O->α->Prop)(U:α->Prop)(S:List Nat)(d:Nat)(e:O)(m:I)(P:Nat)(v:Value)(a:I):Prop:=∃b c x,v=.agg #[O.v b,O.v c]/\T (bA S a) b c x/\U x/\Rd d e P a/\Fz [d] m a
def NT(m:I)(a b:O)(x:List bq×List fD):Prop:=dJ m a b x.1 x.2
def IT(m:I)(a b:O)(x:List bq×List cY):Prop:=bR m a x.1/\gB m b x.2
def GT(m:I)(a b:O)(x:List bq×List (cY×Ex)):Prop:=bR m a x.1/\Ua m b x.2
def UN(c:Prop)(W:Nat)(x:List bq×List fD):Prop:=vS x.1 x.2 c W/\x.1∈pN
def UI(x:List bq×List cY):Prop:=Bg x.2/\x.1∈pN
def NT.mn:Mn NT:=λ_ _ _ _ _ h t=>dJ.le t h
def IT.mn:Mn IT:=λ_ _ _ _ _ h t=>⟨t.1.le h,gB.le h t.2⟩
structure BS(B:List Nat)(rb:Nat)(bs:O)(m:I)(Q:Nat)(M:I):Prop where
 s:Rs rb bs m Q M
 fq:∀c∈B,m.size<=c/\c<M.size
section
variable{α:Type}{T:I->O->O->α->Prop}{U:α->Prop}{S B L:List Nat}{d Q h j k f t:Nat}{g a b:O}{m M e:I}{x:α}{i:List Value}
def BS.hS(h:BS B d g m Q M)(a:∀c∈S,c<m.size):∀c∈B++S,c<M.size:=λc b=>(List.mem_append.1 b).elim (λe=>(h.fq c e).2) λe=>aJ (a c e) h.s.f.size
def BS.to(a:BS B d g m Q M)(f:Fz [d] M e)(r:Rd d g h e):BS B d g m h e:=⟨a.s.to f r,λc b=>⟨(a.fq c b).1,aJ (a.fq c b).2 f.size⟩⟩
def BS.lw(h:BS B d g m Q M)(a:d<m.size)(c:∀b∈L,b∈B):Lw d L M:=Go.Proofs.YtgnjacfobdjeeaaGreat.lw a λb e=>h.fq b (c b e)
def BS.call(c:BS B d g m Q M)(o:d<m.size)(p:∀b∈L,b∈B)(l:aN bY f i M (PP T U (B++S) d g M h)){K:O->O->I->Prop}
 (q:∀a b x e,U x->T (bA (B++S) e) a b x->BS B d g m h e->Fz [d] M e->K a b e):aN bY f i M λv e=>dV L M e/\∃j k:O,v=.agg #[O.v j,O.v k]/\K j k e:=
 l.mono λ_ e⟨a,b,x,n,t,u,r,f⟩=>⟨(c.lw o p).da f,a,b,n,q a b x e u t (c.to f r) f⟩
def BS.pick(h:BS B d g m Q M)(c:d<m.size)(k:Q<=10000000000000000)(j:∀b∈L,b∈B)(n:Int){K:Int->I->Prop}
 (l:∀i e,0<=i->(i<n\/i=0)->BS B d g m (Q+1) e->Fz [d] M e->K i e):aN bY 81 [vp d 0,vi n] M λv e=>dV L M e/\∃i:Int,v=vi i/\K i e:=
 (bO h.s.r k n).mono λ_ e⟨i,a,o,p,r,f⟩=>⟨(h.lw c j).da f,i,a,l i e o p (h.to f r) f⟩
def BS.box{m1 m2:I}{z l:List Ce}(h:BS B d g m Q M)(f:m1=M.push (.cells (br z) t))(i:m2=aj m1 M.size 0 l)(n:l.length=z.length):BS (M.size::B) d g m Q m2/\Le (bA (B++S) M) (bA (M.size::B++S) m2)/\cB m2 M.size t l:=by
 obtain⟨x,a,z⟩:=jz f i n;have o:=h.s.f.size;refine⟨⟨h.s.ext x,λc k=>?_⟩,x.bA λb j=>(List.mem_cons.1 j).elim (λh=>Or.inr V) Or.inl,a⟩;rcases List.mem_cons.1 k with e|e
 ·omega
 ·have:=h.fq c e;omega
def BS.put(h:BS B d g m Q M)(b:Rd d g j m)(a:k∈B)(l:List Ce):BS B d g m Q (aj M k 0 l)/\Le (bA (B++S) M) (bA (B++S) (aj M k 0 l)):=
 ⟨⟨h.s.put b (h.fq k a).1 _ _,λc e=>by rw[az];exact h.fq c e⟩,bS (by simp[a]) λ_ h=>h⟩
def BS.le(a:d∈S)(f:Fz [d] M e):Le (bA (B++S) M) (bA (B++S) e):=f.cJ (by simp[a])
def BS.il(f:BS B d g m Q M)(o:Mn T)(i:Rd d g j m)(p:k∈B)(q:T (bA (B++S) M) a b x)(r:U x)(n:Q<=h)(l:List Ce):PP T U S d g m h (.agg #[O.v a,O.v b]) (aj M k 0 l):=
 have⟨c,e⟩:=f.put (S:=S) i p l
 ⟨a,b,x,rfl,o _ _ _ _ _ (e.trans (gJ _ λ_=>dE _)) q,r,c.s.r.mono n,c.s.f⟩
def BS.kj(a:Rd d g Q m)(o:Obj):BS [m.size] d g m Q (m.push o)/\Le (bA S m) (bA ([m.size]++S) (m.push o)):=⟨⟨⟨(J.push m o).fz _,a.ext (J.push m o)⟩,E⟩,qX (J.push m o) (ad _)⟩
def IY{a:List bq}{c:Prop}{W:Nat}(j:sW f i M S a λb=>vS a b c W)(k:a∈pN)(r:Rd d g Q M):aN bY f i M (PP NT (UN c W) S d g M Q):=
 j.mono λ_ _⟨e,l,b,h,n,o,x⟩=>⟨e,l,(a,b),h,n,⟨o,k⟩,r.ext x,x.fz _⟩
def SX{a:List bq}(h:NR f i M S a Bg)(c:a∈pN)(r:Rd d g Q M):aN bY f i M (PP IT UI S d g M Q):=
 h.mono λ_ _⟨b,k,l,e,n,j,o,x⟩=>⟨b,k,(a,l),e,⟨n,j⟩,⟨o,c⟩,r.ext x,x.fz _⟩
end
section
variable{a:List Nat}{m:I}{b P:Nat}{c:O}
def FL(j:∀d∈a,d<m.size)(n:b∈a)(e:Rd b c P m)(K:P+1000+4*(300+40*Cg 18)<=10000000000000000):aN bY 219 [vp b 0] m (PP NT (UN False 95) a b c m (P+11+4*(300+40*Cg 18))):=by
 apply yF (b,0);simp -zeta only[aE,aD];have f:=e.lt;intro o;obtain⟨g,-⟩:BS [m.size] b c m P o/\True:=⟨(BS.kj (S:=a) e _).1,trivial⟩;clear_value o;refine g.call (T:=GT) (U:=λx=>Ud x.1 x.2) (S:=a) f (λ_ h=>h) ((BU (g.hS j) (by simp[n]) g.s.r V).mono λv M⟨l,q,d,u,i,k,p,r,s,t⟩=>⟨l,q,(d,u),i,⟨k,p⟩,r,s,t⟩) λl q x M u t i H=>?_;refine i.call (S:=a) f (λ_ h=>h) (IY (FG (i.hS j) (t.1.le (bt _ _)) (dW.le t.2 (bt _ _) λ_ _=>Wp.mono.le (bt _ _)) u) u.gp.ds i.s.r) λF R X N k A s I=>?_;intro z p;obtain⟨v,y,-⟩:=s.box (S:=a) (m1:=z) (m2:=p) rfl rfl rfl;clear_value p;have B:=NT.mn _ _ _ _ _ y A;refine v.pick f V (λ_ h=>h) 3 λL O _ _ d w=>?_;have r:=NT.mn _ _ _ _ _ (BS.le n w) B;refine⟨λ_=>?_,λ_=>d.il NT.mn e E r k V _⟩;exact d.call (S:=a) f (λ_ h=>h) (IY (Hw (d.hS j) (r.le (bt _ _)) V k.1) k.2 d.s.r) λG W Y Q D C h J=>h.il NT.mn e E C D V _
def BN(l:∀d∈a,d<m.size)(g:b∈a)(d:Rd b c P m)(U:P+1000+4*(300+40*Cg 18)<=10000000000000000):aN bY 193 [vp b 0] m (PP NT (UN True 104500) a b c m (P+12+4*(300+40*Cg 18))):=by
 apply uV (b,0);simp -zeta only[aE,aD];have f:=d.lt;intro p;obtain⟨j,-⟩:BS [m.size] b c m P p/\True:=⟨(BS.kj (S:=a) d _).1,trivial⟩;clear_value p;refine j.call (S:=a) f (λ_ h=>h) (FL (j.hS l) (by simp[g]) j.s.r V) λO r2 x2 Y i G t R=>?_;intro B q;obtain⟨k,A,-⟩:=t.box (S:=a) (m1:=B) (m2:=q) rfl rfl rfl;clear_value q;have s:=NT.mn _ _ _ _ _ A G;refine k.call (S:=a) f (λ_ h=>h) (IY (Js (k.hS l) (s.le (bt _ _)) i.1) i.2 k.s.r) λQ r5 x5 C M H u y=>?_;intro D r;obtain⟨v,o,-⟩:=u.box (S:=a) (m1:=D) (m2:=r) rfl rfl rfl;clear_value r;have I:=NT.mn _ _ _ _ _ o H;refine v.pick f V (λ_ h=>h) 4 λW Z _ _ e n=>?_;have J:=NT.mn _ _ _ _ _ (BS.le g n) I;refine⟨λ_=>?_,λ_=>e.il NT.mn d E J M V _⟩;have K:=NT.mn _ _ _ _ _ (((BS.le g y).trans o).trans (BS.le g n)) s;refine e.call (S:=a) f (λ_ h=>h) (IY (Nx (e.hS l) (K.le (bt _ _)) i.1) i.2 e.s.r) λx F x9 m9 N L w T=>?_;intro X;obtain⟨h,z⟩:=w.put (S:=a) d (by simp:C.size∈_) [.s x,.s F];exact h.il NT.mn d E (NT.mn _ _ _ _ _ z L) N V _
end
end
section
variable{c:Prop}
structure BF(S:List Nat)(rb:Nat)(bs:O)(m:I)(k Q W:Nat)(M:I):Prop where
 b:BS [k,m.size] rb bs m Q M
 x:∃d r x,cB M k lK [.s d,.s r]/\NT (bA (k::m.size::S) M) d r x/\UN True W x
def UN.mono{W W':Nat}{x:List bq×List fD}(h:UN c W x)(f:W<=W'):UN c W' x:=⟨⟨h.1.gR,λq g=>let⟨a,b,d,e⟩:=h.1.df q g;⟨a,b,d,bJ e f⟩⟩,h.2⟩
section
variable{e h:List Nat}{d k Q Q' W W' i f:Nat}{g:O}{a M b:I}{K:I->Prop}{j:O->O->List Value}
def BF.mono(h:BF e d g a k Q W M)(j:Q<=Q')(l:W<=W'):BF e d g a k Q' W' M:=⟨⟨⟨h.b.s.f,h.b.s.r.mono j⟩,h.b.fq⟩,let⟨i,r,x,b,f,c⟩:=h.x;⟨i,r,x,b,f,c.mono l⟩⟩
def BF.to(i:BF e d g a k Q W M)(n:d<a.size)(m:d∈e)(f:Fz [d] M b)(j:BS [k,a.size] d g a Q' b):BF e d g a k Q' W b:=
 let⟨l,r,x,h,t,c⟩:=i.x
 ⟨j,l,r,x,h.congr (f.same k h.lt (by have:=i.b.fq k E;simp;omega)),NT.mn _ _ _ _ _ (BS.le (B:=[k,a.size]) m f) t,c⟩
def BF.pick(j:BF e d g a k Q W M)(l:d<a.size)(q:d∈e)(o:Q<=10000000000000000)(m:∀c∈h,c∈[k,a.size])(n:Int){K:Int->I->Prop}
 (p:∀i b,BF e d g a k (Q+1) W b->K i b):aN bY 81 [vp d 0,vi n] M λv b=>dV h M b/\∃i:Int,v=vi i/\K i b:=
 j.b.pick l o m n λi b _ _ c f=>p i b (j.to l q f c)
def BF.Ws(q:BF e d g a k Q W M)(w:Rd d g i a)(I:k≠a.size)(y:∀p∈h,p=a.size)
 (c:∀l n x,NT (bA (k::a.size::e) M) l n x->UN True W x->aN bY f (j l n) M (PP NT (UN True W') (k::a.size::e) d g M Q'))
 (P:∀b,BF e d g a k Q' W' b->K b):∃z:O,D M k 0=some (O.v z)/\∃A:O,D M k 1=some (O.v A)/\aN bY f (j z A) M λX b=>dV h M b/\∃t u:O,X=.agg #[O.v t,O.v u]/\fm b k 0 2/\(dV h b (aj b k 0 [.s t,.s u])/\K (aj b k 0 [.s t,.s u])):=by
 obtain⟨l,n,x,B,R,U⟩:=q.x
 have J:=w.lt
 have Z:=q.b.fq k E
 refine⟨l,B.cy 0,n,B.cy 1,q.b.call (S:=e) (L:=h) J (λp s=>by simp[y p s]) (c l n x R U) λp s Y b V T C G=>?_⟩
 have v:=B.congr (G.same k B.lt bK)
 obtain⟨F,N⟩:=C.put (S:=e) w (by simp:k∈_) [.s p,.s s]
 exact⟨v.fm E,λc H=>bh _ _ _ _ (by rw[y c H];exact jQ I),P _ ⟨F,p,s,Y,cB.aj (m:=b) (o:=0) (r:=[.s p,.s s]) v,NT.mn _ _ _ _ _ N T,V⟩⟩
def BF.bo(h:BF e d g a k Q W M)(j:Rd d g i a)(l:Q<=Q'):∃b:O,D M k 0=some (O.v b)/\∃c:O,D M k 1=some (O.v c)/\PP NT (UN True W) e d g a Q' (.agg #[O.v b,O.v c]) (aj M a.size 0 [.s b,.s c]):=
 let⟨f,r,_,B,t,u⟩:=h.x
 ⟨f,B.cy 0,r,B.cy 1,h.b.il NT.mn j E t u l _⟩
end
section
variable{a:List Nat}{b:I}{d P:Nat}{e:O}
def VF{h:Nat}{g:List Value}{M:I}{Q:Nat}{b:List bq}{W:Nat}(k:Qf h g M a d e Q b λf=>vS b f c W)(l:b∈pN):aN bY h g M (PP NT (UN c W) a d e M Q):=
 k.mono λ_ _⟨i,m,f,j,n,o,r,x⟩=>⟨i,m,(b,f),j,n,⟨o,l⟩,r,x⟩
def Pf(i:∀c∈a,c<b.size)(k:d∈a)(g:Rd d e P b)(h:P+4<=10000000000000000){W:Nat}(j:W<=200000000000)(f r:O)(x:List bq×List fD)(t:NT (bA a b) f r x)(u:UN True W x):aN bY 194 [vp d 0,.agg #[O.v f,O.v r]] b (PP NT (UN True (W+4)) a d e b (P+4)):=
 VF (Nw i k g h t u.1 j) u.2
def zL(A:∀c∈a,c<b.size)(l:d∈a)(g:Rd d e P b)(hP:P+1000+4*(300+40*Cg 18)<=10000000000000000):aN bY 134 [vp d 0] b (PP NT (UN True 98289774148) a d e b (P+24+4*(300+40*Cg 18))):=by
 apply tZ (d,0);simp -zeta only[aE,aD];have k:=g.lt;intro s;have z1:s.size=b.size+1:=by simp[s]
 obtain⟨z,-⟩:BS [b.size] d e b P s/\True:=⟨(BS.kj (S:=a) g _).1,trivial⟩;clear_value s;refine z.call (S:=a) k (λ_ h=>h) (BN (z.hS A) (by simp[l]) z.s.r V) λF J L f K t2 N R=>?_;have z2:=R.size;intro Y H;obtain⟨O,U,D⟩:=N.box (S:=a) (m1:=Y) (m2:=H) rfl rfl rfl;clear_value H;have t4:=NT.mn _ _ _ _ _ U t2;have q:f.size≠b.size:=V;have p:∀{M:I}{Q W:Nat},BF a d e b f.size Q W M->∀c∈f.size::b.size::a,c<M.size:=λh=>h.b.hS A;have G:d∈f.size::b.size::a:=by simp[l]
 refine⟨BF a d e b f.size (P+17+4*(300+40*Cg 18)) 104504,?_,λm7 s7=>?_⟩
 ·refine O.pick k V (λ_ h=>h) 4 λC m5 _ _ n u=>?_;have v:=NT.mn _ _ _ _ _ (BS.le (B:=[f.size,b.size]) l u) t4;have t:=D.congr (u.same _ D.lt bK);refine⟨λ_=>n.call (S:=a) k (λ_ h=>h) (Pf (n.hS A) G n.s.r V V F J L v K) λi j x Z u6 t6 w T=>?_,λ_=>BF.mono ⟨n,F,J,L,t,v,K⟩ V V⟩;intro m7;obtain⟨y,X⟩:=w.put (S:=a) g (by simp:f.size∈_) [.s i,.s j];exact BF.mono ⟨y,i,j,x,cB.aj (m:=Z) (o:=0) (r:=[.s i,.s j]) (t.congr (T.same _ t.lt bK)),NT.mn _ _ _ _ _ X t6,u6⟩ V V
 refine⟨BF a d e b f.size (P+18+4*(300+40*Cg 18)) 10921086016,?_,λZ T=>?_⟩
 ·refine s7.pick k l V E 4 λC v n=>⟨λ_=>n.Ws g q E (λi j x t u=>IY (Fi (p n) (t.le (bt _ _)) V u.1) u.2 n.b.s.r) λy h=>h.mono V V,λ_=>n.mono V V⟩
 refine T.pick k l V E 3 λC aa n=>?_;refine⟨BF a d e b f.size (P+19+4*(300+40*Cg 18)) 98289774144,⟨λ_=>n.Ws g q E (λi j x t u=>IY (Cm (p n) (t.le (bt _ _)) V u.1) u.2 n.b.s.r) λy h=>h.mono V V,λ_=>n.mono V V⟩,λab v=>?_⟩;refine⟨BF a d e b f.size (P+19+4*(300+40*Cg 18)) 98289774144,⟨λ_=>v.Ws g q E (λi j x t u=>IY (Kp (p v) (t.le (bt _ _)) V u.1) u.2 v.b.s.r) λy h=>h.mono V V,λ_=>v.mono V V⟩,λac X=>?_⟩;refine X.pick k l V E 6 λC ad w=>⟨λ_=>w.Ws g q E (λi j x t u=>Pf (p w) G w.b.s.r V V i j x t u) λy h=>h.bo g V,λ_=>(w.mono (Q':=P+24+4*(300+40*Cg 18)) (W':=98289774148) V V).bo g V⟩
def Fs(m:∀c∈a,c<b.size)(o:d∈a)(g:Rd d e P b)(J:P+1000+4*(300+40*Cg 18)<=10000000000000000):aN bY 80 [vp d 0] b (PP IT UI a d e b (P+25+4*(300+40*Cg 18))):=by
 apply yh (d,0);simp -zeta only[aE,aD];have i:=g.lt;intro p;obtain⟨k,-⟩:BS [b.size] d e b P p/\True:=⟨(BS.kj (S:=a) g _).1,trivial⟩;clear_value p;refine k.call (S:=a) i (λ_ h=>h) (zL (k.hS m) (by simp[o]) k.s.r V) λC Q U L r x l G=>?_;refine l.call (S:=a) i (λ_ h=>h) (SX (Jy (l.hS m) (x.le (bt _ _)) r.1 V) r.2 l.s.r) λD R W M j y s H=>?_;intro w q;obtain⟨t,v,-⟩:=s.box (S:=a) (m1:=w) (m2:=q) rfl rfl rfl;clear_value q;have z:=IT.mn _ _ _ _ _ v y;refine t.pick i V (λ_ h=>h) 3 λK N _ _ f u=>?_;have n:=IT.mn _ _ _ _ _ (BS.le o u) z;refine⟨λ_=>?_,λ_=>f.il IT.mn g E n j V _⟩;exact f.call (S:=a) i (λ_ h=>h) (SX (FT (f.hS m) (n.1.le (bt _ _)) (qP j.2) (gB.le (bt _ _) n.2) j.1) j.2 f.s.r) λF T X O B A h I=>h.il IT.mn g E A B V _
end
end
section
variable{x:Instr}
section
variable{S:List Nat}{m M:I}{a P Q:Nat}{b:O}
def xD(h:Rs a b m Q M)(i:Q<=10000000000000000)(c:List Int){d:List Ce}{n:Nat}(j:d=c.map Ce.i)(p:n=c.length)(l:0<c.length/\c.length<=100):
 aN bY 84 [vp a 0,O.v (.mk M.size 0 n n)] (M.push (.cells (br d) aB)) λv e=>∃t:Int,v=vi t/\t∈c/\Rs a b m (Q+1) e/\Fz [a] (M.push (.cells (br d) aB)) e:=by
 have x:=J.push M (.cells (br d) aB)
 have o:=h.r.lt
 refine(jw (h.ext x).r i (ar.lit aB c (by simp;exact o) j p V) l.1).mono λv e⟨q,g,k,r,f⟩=>⟨q,g,k,(h.ext x).to f r,f⟩
def _root_.Go.Vc.Gr.IS{b c:I}{s:O}{l:List Int}(h:GI S b M s l)(f:Fz [a] M c)(d:a<b.size):GI S b c s l:=have:=h.aY;GI.iz h (f.same _ this.2 bK)
def oU(o:Rd a b P m)(hP:P+10<=10000000000000000){F:O}{l:List Int}(U:ar m F l)(hb:l.length<=1000000000000):aN bY 115 [vp a 0,O.v F] m λaa p=>∃s c,aa=O.v s/\GI [] m p s c/\c.length<=l.length+1/\(∀w∈c,w∈l\/-1<=w/\w<=1001)/\Rd a b (P+3) p/\Fz [a] m p:=by
 apply qH (a,0);have g:=o.lt;refine(bE [] U V).mono λ_ Y⟨s,c,e,j,L,H⟩=>⟨s,e,?_⟩;subst L;have ab:=j.len bd;have q:Rs a b m P Y:=⟨H.fz _,o.ext H⟩;have il:∀{M:I}{Q:Nat},Rs a b m Q M->Q<=P+2->GI [] m M s l->aN bY 84 [vp a 0,O.v (.mk M.size 0 5 5)] (M.push (.cells (br [.i 0,.i 1,.i 2,.i (-1),.i 1000]) aB)) λy u=>∃i:Int,y=vi i/\
  iS (u.push (.cells (br [.i i]) aB)) aB [.i 0] 8 s (.mk u.size 0 1 1) λt r=>∃s c,O.v t=O.v s/\GI [] m r s c/\c.length<=l.length+1/\(∀w∈c,w∈l\/-1<=w/\w<=1001)/\Rd a b (P+3) r/\Fz [a] m r:=λ{M Q} rM hQ gM=>
  (xD rM V [0,1,2,-1,1000] rfl rfl E).mono λ_ u⟨t,e,v,f,d⟩=>⟨t,e,by
   have n:=(gM.ext (J.push M _)).IS d g;refine GI.jK n f.f E V λy p R A z' q'=>⟨y,_,rfl,R,E,λw x=>?_,?_,A⟩
   ·rcases List.mem_append.1 x with h|h
    ·exact Or.inl h
    ·simp at h v;exact Or.inr V
   ·exact(o.J6 f.r A (q' a f.r.lt (by have:=n.aY;omega))).mono V⟩
 refine⟨λT=>?_,λ_=>il q V j⟩;simp only[mH,ao]at T;refine(bO q.r V 2).mono λ_ m2⟨W,e,_,_,z,d⟩=>⟨W,e,λ_=>?_,λ_=>il (q.to d z) V (j.IS d g)⟩;have f:=q.to d z;have n:=j.IS d g;refine(bO f.r V (s.len:Int)).mono λ_ Z⟨i,e,X,k1,K,B⟩=>⟨i,e,?_⟩;have r3:=f.to B K;refine(xD r3 V [0,1,-1,7,1000,1001] rfl rfl E).mono λ_ m5⟨t,e,v,G,N⟩=>⟨t,e,X,V,?_⟩;have D:=((n.IS B g).ext (J.push Z _)).IS N g;obtain⟨w,S,C,q6⟩:=D.set G.f (k:=i.toNat) V t;refine⟨w,s,_,rfl,S,E,λw x=>?_,(o.J6 G.r C (q6 a (by have:=D.aY;omega))).mono V,C⟩;rcases cx x with h|h
 ·exact Or.inl h
 ·simp at v;exact Or.inr V
def IX(Z:List Nat)(a:Nat)(b:O)(m:I)(P:Nat)(U:Instr->Prop)(v:Value)(c:I):Prop:=∃x d j,v=SY x d j/\ar (bA Z c) d x.args/\ar (bA Z c) j x.dR/\U x/\Rd a b P c/\Fz [a] m c
def uc(S:List Nat){p t:O}(v:ar m p x.args)(w:ar m t x.dR)(s:x.args.length<=1000000000000/\x.dR.length<=1000000000000):
 aN bY 199 [SY x p t] m λz l=>∃c d,z=SY x c d/\GI S m l c x.args/\GI S m l d x.dR/\c.F≠d.F/\J m l:=by
 apply pF
 simp -zeta only[aE,aD]
 intro i j
 obtain⟨e,g⟩:=di (a:=i) (c:=j) rfl rfl
 have G:i.size=m.size+1:=by simp[i]
 clear_value j
 have b:∀{M n:I},J j M->J M n->∀o,D n m.size o=D M m.size o:=λh u o=>aI (u.same _ (h.lt (g _ E))) o
 refine(bE S (v.ext e) s.1).aG (J.aC j) g λc _ B q k a _=>⟨_,rfl,b (J.aC _) a _,b (J.aC _) a _,b (J.aC _) a _,b (J.aC _) a _,b (J.aC _) a _,?_⟩
 subst k
 refine(bE S (w.ext (e.trans a)) s.2).aG a g λd _ C r k f y=>⟨_,rfl,b a f _,b a f _,b a f _,b a f _,?_⟩
 subst k
 intro F
 have H:=q.aY;have K:=r.aY
 have A:=g i.size E
 exact⟨c,d,rfl,((q.ext f).iz (bh _ _ _ _ V)).cG (λ_ h=>h) e.size,(r.iz (bh _ _ _ _ V)).cG (λ_ h=>h) (e.trans a).size,V,(e.trans y).aj V _ _⟩
end
structure BI(a0:I)(k rb:Nat)(bs:O)(m:I)(Q:Nat)(M:I)(a j:O)(l l':List Int):Prop where
 ga:GI [] a0 M a l
 gj:GI [] a0 M j l'
 ne:a.F≠j.F
 s:Rs rb bs m Q M
 lo:m.size+2<=a0.size/\l.length<=1000000000001/\l'.length<=1000000000001
 hi:a.F≠k/\j.F≠k/\m.size<=k/\k<M.size
section
variable{Z L:List Nat}{f m M c:I}{b k P g Q h:Nat}{d a j:O}{l e:List Int}
def BI.to(g:BI f k b d m Q M a j l e)(n:b<m.size)(i:Fz [b] M c)(r:Rd b d h c):BI f k b d m h c a j l e:=
 have:=g.lo
 ⟨g.ga.IS i V,g.gj.IS i V,g.ne,g.s.to i r,g.lo,g.hi.1,g.hi.2.1,g.hi.2.2.1,aJ g.hi.2.2.2 i.size⟩
def BI.put(h:BI f k b d m Q M a j l e)(g:Rd b d P m)(o:Nat)(c:List Ce):BI f k b d m Q (aj M k o c) a j l e:=
 have:=h.lo;have:=h.hi;have:=h.ga.aY
 ⟨GI.iz h.ga (bh _ _ _ _ V),GI.iz h.gj (bh _ _ _ _ V),h.ne,h.s.put g V _ _,h.lo,by rw[az];exact h.hi⟩
def BI.il{U:Instr->Prop}(h:BI f k b d m Q M a j l e)(v:Rd b d P m)(t:∀c∈Z,c<m.size){i:Nat}(y:i=m.size+1)(w:Q<=g){r n q p:Int}(x:U ⟨r,n,q,p,l,e⟩)(s:List Ce):IX Z b d m g U (.agg #[vi r,vi n,vi q,vi p,O.v a,O.v j]) (aj M i 0 s):=by
 have:=h.lo;have:=h.hi;have z:=h.ga.aY;have A:=h.gj.aY;have u:=h.s.put v (k:=i) V 0 s;exact⟨⟨r,n,q,p,l,e⟩,a,j,rfl,Gr.done rS.mono (GI.any (GI.iz h.ga (bh _ _ _ _ V))) (λc o=>by have:=t c o;omega) bd (bJ h.lo.2.1 bd),Gr.done rS.mono (GI.any (GI.iz h.gj (bh _ _ _ _ V))) (λc o=>by have:=t c o;omega) bd (bJ h.lo.2.2 bd),x,u.r.mono w,u.f⟩
def BI.pick(h:BI f k b d m Q M a j l e)(r:b<m.size)(t:Q<=10000000000000000)(s:∀g∈L,m.size<=g/\g<=k)(p:Int){K:Int->I->Prop}
 (v:∀i c,0<=i->(i<p\/i=0)->BI f k b d m (Q+1) c a j l e->(∀o,D c k o=D M k o)->Fz [b] M c->K i c):aN bY 81 [vp b 0,vi p] M λz c=>dV L M c/\∃i:Int,z=vi i/\K i c:=
 have:=h.lo;have:=h.hi;have:=h.ga.aY
 (bO h.s.r t p).mono λ_ c⟨i,q,w,x,y,n⟩=>⟨n.da λg u=>by have:=s g u;simp;omega,i,q,v i c w x (h.to r n y) (λo=>aI (n.same k h.hi.2.2.2 bK) o) n⟩
end
def Qc(x y:Instr):Prop:=(∀k,MG k x->MG k y)/\y.args.length<=1000000000000/\y.dR.length<=1000000000000
def Fg{Z:List Nat}{m:I}{i P:Nat}{w K N:O}(f:∀d∈Z,d<m.size)(b:Rd i w P m)(hP:P+10<=10000000000000000)(W:ar (bA [i] m) K x.args)(hj:ar m N x.dR)(c:x.args.length<=1000000000000/\x.dR.length<=1000000000000)(hx:∃Q,MG Q x):
 aN bY 137 [vp i 0,SY x K N] m (IX Z i w m (P+3) (Qc x)):=by
 apply xP (i,0)
 simp(config:={maxSteps:=1000000}) -zeta only[aE,aD]
 have q:=b.lt
 intro s y
 obtain⟨x2,hl⟩:=di (a:=s) (c:=y) rfl rfl
 have j:s.size=m.size+1:=by simp[s]
 have s2:y.size=m.size+2:=by simp[y,j]
 clear_value y
 clear_value s
 refine(uc [] ((W.le (bt _ _)).ext x2) (hj.ext x2) c).mono λ_ z⟨u,R,e,ga,gj,Y,x3⟩=>⟨x3.da hl,_,_,_,_,_,_,e,?_⟩
 intro m4 m5
 obtain⟨T,-,z5⟩:=jz (M:=z) (d:=m4) (c:=m5) rfl rfl rfl
 clear_value m5
 have ya:=ga.aY;have yj:=gj.aY
 have X5:=(x2.trans x3).trans T
 have b5:BI y z.size i w m P m5 u R x.args x.dR:=⟨ga.ext T,gj.ext T,Y,⟨X5.fz _,b.ext X5⟩,⟨V,nt c.1,nt c.2⟩,V,V,V,V⟩
 have p:∀o∈[z.size,s.size,m.size],m.size<=o/\o<=z.size:=bK
 obtain⟨r,B,G,C,n,F⟩:=x
 have Du:Qc ⟨r,B,G,C,n,F⟩ ⟨r,B,G,C,n,F⟩:=⟨λ_ h=>h,c⟩
 refine b5.pick q V p 5 λaf g _ _ a _ f6=>?_
 have A:∀{aa:I}{ab:Nat},BI y z.size i w m ab aa u R n F->ab<=P+3->IX Z i w m (P+3) (Qc ⟨r,B,G,C,n,F⟩) (.agg #[vi r,vi B,vi G,vi C,O.v u,O.v R]) (aj aa s.size 0 [.i r,.i B,.i G,.i C,.s u,.s R]):=λh hQ=>h.il b f j hQ Du _
 have ac:r=16\/r=17->(0:Int)<=0/\(0:Int)<(K.len:Int)/\∃v:Int,D g K.F (K.off+Int.toNat 0*1)=some (vi v)/\IX Z i w m (P+3) (Qc ⟨r,B,G,C,n,F⟩) (.agg #[vi 15,vi 0,vi 0,vi 0,O.v (.mk g.size 0 1 1),O.v .nil]) (aj (g.push (.cells (br [.i v]) aB)) s.size 0 [.i 15,.i 0,.i 0,.i 0,.s (.mk g.size 0 1 1),.s .nil]):=λe=>by
  have hn:0<n.length:=let⟨_,h⟩:=hx;h.arg bK;have X:=W.len;obtain⟨H,hy⟩:=ag (l:=n) (k:=0) hn;have z6:=a.hi;have t:=J.push g (.cells (br [.i H]) aB);have r7:=(a.s.ext t).put b (k:=s.size) V 0 [.i 15,.i 0,.i 0,.i 0,.s (.mk g.size 0 1 1),.s .nil];have U:GI [] g (g.push (.cells (br [.i H]) aB)) (.mk g.size 0 1 1) [H]:=Gr.lit (f:=[[.i H]]) rS.mono (ad _) E rfl rfl ⟨rfl,E,λN cs x L S=>by
   cases N with
   |zero=>simp at L S;rw[<-L,<-S];rfl
   |succ N=>simp at L⟩
  exact⟨dZ 0,by simp at X;omega,H,(dP.1 ((W.le (a.s.f.cJ E)).u hy)).2,⟨15,0,0,0,[H],[]⟩,_,.nil,rfl,GI.done (GI.any (GI.iz U (bh _ _ _ _ bK))) (λd S=>by have:=f d S;omega) E,⟨rfl,dH _,E,E⟩,⟨λ_ _=>⟨λh=>by simp at h,λh=>by simp at h⟩,E,E⟩,r7.r.mono V,r7.f⟩
 refine⟨λ_=>⟨λe=>?_,λ_=>⟨λe=>?_,λ_=>⟨λe=>?_,λ_=>A a V⟩⟩⟩,λ_=>⟨λ_=>⟨λL=>?_,λ_=>A a V⟩,λ_=>⟨λ_=>?_,λ_=>⟨λ_=>⟨λe=>?_,λ_=>⟨λe=>?_,λ_=>⟨λe=>?_,λ_=>A a V⟩⟩⟩,λ_=>⟨λ_=>⟨λe=>?_,λ_=>⟨λe=>?_,λ_=>A a V⟩⟩,λ_=>A a V⟩⟩⟩⟩⟩
 ·simp only[aL]at e
  exact(a.put b _ _).il b f j V ⟨λ_ _=>⟨λh=>by simp at h,λh=>by simp at h⟩,c⟩ _
 ·exact(a.put b _ _).il b f j V ⟨λ_ _=>⟨λh=>by simp at h,λh=>by simp at h⟩,c⟩ _
 ·simp only[aL]at e
  exact(a.put b _ _).il b f j V ⟨λ_ h=>⟨λh=>by simp at h,λ_=>h.arg (by simp[e])⟩,c⟩ _
 ·simp only[mH,ao]at L
  have X:=a.ga.len bd
  refine a.pick q V p (u.len:Int) λQ m7 k0 k1 b7 U f7=>⟨U 4,b7.pick q V p 4 λv S _ _ d g8 f8=>⟨g8 4,k0,V,?_⟩⟩
  obtain⟨ae,g9,f9,q9⟩:=GI.set d.ga (((((x3.trans T).fz [i]).trans f6).trans f7).trans f8) (k:=Q.toNat) (by show Q.toNat<n.length;have:u.len=n.length:=X;omega) v
  have yb:=d.hi
  refine⟨ae,λo c=>q9 o (by have:=p o c;simp at c;omega),BI.il (k:=z.size) (l:=n.set Q.toNat v) (e:=F) ⟨g9,GI.iz d.gj (q9 _ (jQ Y)),Y,⟨d.s.f.aj (Or.inr V) _ _,b.aj d.s.r d.s.f V _ _⟩,⟨V,by simpa using nt c.1,nt c.2⟩,V,V,V,by rw[az];omega⟩ b f j V ⟨λ_ h=>⟨h.J7,λe=>by simpa using h.arg e⟩,by simpa using c⟩ _⟩
 ·refine(vn r g).any.mono λ_ m7⟨o,e,t⟩=>⟨t.da λo c=>by have:=p o c;have:=a.hi;omega,o,e,λ_=>?_,λ_=>A (a.to q (t.fz _) (a.s.r.ext t)) V⟩
  exact(a.to q (t.fz _) (a.s.r.ext t)).pick q V p 4 λv S _ _ d _ _=>(d.put b _ _).il b f j V ⟨λ_ h=>⟨h.J7,h.arg⟩,c⟩ _
 ·exact ac (Or.inl (by simpa using e))
 ·exact ac (Or.inr (by simpa using e))
 ·exact a.pick q V p 4 λv S _ _ d _ _=>(d.put b _ _).il b f j V ⟨λ_ h=>⟨h.J7,h.arg⟩,c⟩ _
 ·simp only[aL]at e
  exact a.pick q V p 9 λv S _ _ d _ _=>(d.put b _ _).il b f j V ⟨λ_ h=>⟨λh=>by simp[e]at h,h.arg⟩,c⟩ _
 ·simp only[aL]at e
  exact a.pick q V p 3 λv S _ _ d _ _=>(d.put b _ _).il b f j V ⟨λ_ h=>⟨λh=>by simp[e]at h,h.arg⟩,c⟩ _
end
section
def RA(M:I)(c:List Ce)(x:cY×O):Prop:=∃a b,c=[.s a,.s b,.i x.1.aR,.i x.1.av,.s x.2]/\ar M a x.1.params/\ar M b x.1.cW
def RA.mono:mK 5 RA:=⟨λh⟨a,b,e,c,d⟩=>⟨a,b,e,c.le h,d.le h⟩,λ⟨_,_,e,_⟩=>by rw[e];rfl⟩
def hd(x:cY×O):cY×O:=({x.1 with cE:=[]},x.2)
abbrev Ks(l:List (cY×O)):List Nat:=l.map λx=>x.2.F
structure tB(S:List Nat)(m0 M:I)(dd q:O)(ds:List bq)(l:List (cY×O)):Prop where
 d:bR (bA (q.F::(Ks l++S)) M) dd ds
 g:Gr (Ks l++S) m0 M iB 5 RA q (l.map hd)
 c:∀x∈l,Gr (q.F::(Ks l++S)) m0 M dz 6 dt x.2 x.1.cE
 nd:(Ks l).Nodup
 lt:∀b∈S,b<M.size
 nq:q.F∉S
 nc:∀x∈l,x.2.F∉S
section
variable{S S' Y:List Nat}{b f M e:I}{c q:O}{d:List bq}{l:List (cY×O)}
def tB.kq(h:tB S b M c q d l):∀x∈l,x.2.F≠q.F:=λx a=>(h.c x a).IW h.g bd
def tB.re(i:tB S b M c q d l)(o:Fz Y M e)(k:∀a∈Y,a∈S)(n:∀a∈S',(a∈S\/M.size<=a)/\a<e.size)(p:f.size<=b.size):tB S' f e c q d l:=by
 have t:=i.g.aY;have r:∀{a:Nat},a∈Ks l++S'->a∈Ks l++S\/M.size<=a:=λg=>by
  rcases List.mem_append.1 g with h|h
  ·exact Or.inl (bB _ h)
  ·exact(n _ h).1.imp (dE _) id
 have s:∀{a:Nat},a∈q.F::(Ks l++S')->a∈q.F::(Ks l++S)\/M.size<=a:=λg=>by
  rcases List.mem_cons.1 g with h|h
  ·exact Or.inl (by simp[h])
  ·exact(r h).imp (ai _) id
 refine⟨i.d.le (o.bA (λa g=>by simp[k a g]) λa g=>s g),Gr.cG RA.mono (i.g.re RA.mono o (λa g=>by simp[k a g]) (λj=>i.nq (k _ j)) λa g=>r g) (λa g=>Or.inl g) p,λx m=>Gr.cG dt.mono ((i.c x m).re dt.mono o (λa g=>by simp[k a g]) (λj=>i.nc x m (k _ j)) λa g=>s g) (λa g=>Or.inl g) p,i.nd,λa g=>(n a g).2,λj=>?_,λx m j=>?_⟩
 ·rcases(n _ j).1 with h|h
  ·exact i.nq h
  ·omega
 ·have:=(i.c x m).aY;rcases(n _ j).1 with h|h
  ·exact i.nc x m h
  ·omega
def tB.cE(h:tB S b M c q d l){y:cY×O}(a:y∈l)(j:y.1.cE.length<=1000000000000):eB (bA (q.F::S) M) y.2 y.1.cE:=
 have g:Gr (q.F::S) b M dz 6 dt y.2 y.1.cE:=(h.c y a).re dt.mono (Fz.aC [] M) E E λi f=>Or.inl (by rcases List.mem_cons.1 f with e|e<;>simp[e])
 g.mq dt.mono (by simp;exact⟨h.kq y a,h.nc y a⟩) bd V
def tB.gr(h:tB S b M c q d l)(u:∀x∈l,x.1.cE.length<=1000000000000):Gr S b M iB 5 jU q (l.map (·.1)):=by
 obtain⟨v,n,z,r⟩:=h.g;refine⟨v,n,z,by simpa using r.len,r.size,λk m x t a=>?_⟩;rw[bW]at a;cases f:l[k]? with
 |none=>simp[f]at a
 |some y=>
  simp[f]at a;subst a;obtain⟨j,g,e,o,p⟩:=r.df k m (hd y) t (by simp[f]);have i:=au f;have w:Le (bA (q.F::(Ks l++S)) M) (bA (q.F::S) M):=gJ M λg s=>by rcases List.mem_cons.1 s with e|e<;>simp[e]
  exact⟨j,g,y.2,e,o.le w,p.le w,h.cE i (u y i)⟩
def tB.xK{L:List Nat}{k N:I}{u e j:O}{p:cY}{h tb i:Nat}{bc:List Ce}{U:I->Prop}(o:tB S b M c q d l)(x:J M k)(W:Gr (q.F::(Ks l++S)) N k dz 6 dt j p.cE)(h8:M.size<=N.size)
 (ha:ar (bA (j.F::q.F::(Ks l++S)) k) u p.params)(g:ar (bA (j.F::q.F::(Ks l++S)) k) e p.cW)(ac:cB M h tb bc)(hi:i<bc.length)(ht:tb≠iB)(w:b.size<=h/\h∈S)(X:∀e∈L,e<k.size/\e≠h/\e≠q.F)(hl:l.length<=1000)(Y:J b M)
 (hk:∀r n,tB S b n c r d (l++[(p,j)])->cB n h tb (iE bc i [.s r])->J b n->U n):
 D (k.push (.cells (br [.s u,.s e,.i p.aR,.i p.av,.s j]) iB)) h i=D k h i/\
 iS (k.push (.cells (br [.s u,.s e,.i p.aR,.i p.av,.s j]) iB)) iB [.s .nil,.s .nil,.i 0,.i 0,.s .nil] 88 q (.mk k.size 0 1 1) λr n=>dV L (k.push (.cells (br [.s u,.s e,.i p.aR,.i p.av,.s j]) iB)) n/\fm n h i 1/\(dV L n (aj n h i [.s r])/\U (aj n h i [.s r])):=by
 have A:=ac.ext x
 have Z:=J.push k (.cells (br [.s u,.s e,.i p.aR,.i p.av,.s j]) iB)
 have yk:=W.aY
 have yq:=o.g.aY
 have zx:=x.size
 have hq:q.F≠h:=λf=>o.nq (by rw[f];exact w.2)
 have kx:j.F∉S:=λs=>by have:=o.lt _ s;omega
 have ck:∀y∈l,y.2.F<M.size:=λy t=>(o.c y t).aY.2
 have Q:∀e∈Ks (l++[(p,j)])++S,e∈Ks l++S\/e=j.F:=λe g=>by
  simp only[Ks,eP,cg,eI,GO,jm]at g⊢;rcases g with(f|f)|f<;>simp[f]
 have K:Gr (Ks (l++[(p,j)])++S) b k iB 5 RA q (l.map hd):=o.g.re RA.mono (x.fz []) E E λe g=>(Q e g).imp id λf=>V
 have w1:Le (bA (j.F::q.F::(Ks l++S)) k) (bA (q.F::(Ks (l++[(p,j)])++S)) k):=gJ k λe g=>by
  rcases List.mem_cons.1 g with f|f
  ·simp[f]
  ·rcases Q e f with f|f
   ·exact ai _ (ai _ f)
   ·simp[f]
 refine⟨aI (Z.same h A.lt) i,Gr.jK (g:=[.s .nil,.s .nil,.i 0,.i 0,.s .nil]) (k:=hd (p,j)) RA.mono bd K ((Y.trans x).fz []) ⟨u,e,rfl,ha.le w1,g.le w1⟩ bK λr n ae ad C H=>?_⟩
 have R:=A.congr (H h A.lt (jQ hq))
 have hr:r.F≠h:=by have:=A.lt;omega
 have B:∀e,e≠h->(aj n h i [.s r])[e]? =n[e]? :=λe g=>bh _ _ _ _ g
 have T:Fz [q.F,h] k (aj n h i [.s r]):=⟨by rw[az];exact C.1,λe g z=>(B e (by simp at z;omega)).trans (H e g (by simp at z;omega))⟩
 have F:Fz [q.F,h] M (aj n h i [.s r]):=(x.fz _).trans T
 have F0:J b (aj n h i [.s r]):=(ad.aj (Or.inr w.1) _ _).ext
 have ah:=C.1
 have aa:∀e∈r.F::(Ks (l++[(p,j)])++S),(e∈q.F::(Ks l++S)\/e=j.F)\/k.size<=e:=λe g=>by
  rcases List.mem_cons.1 g with f|f
  ·rcases C.2 with v|v
   ·exact Or.inl (Or.inl (by simp[f,v]))
   ·exact Or.inr V
  ·exact Or.inl ((Q e f).imp (ai _) id)
 have ab:∀e∈r.F::(Ks (l++[(p,j)])++S),e∈q.F::(Ks l++S)\/M.size<=e:=λe g=>(aa e g).elim (λf=>f.imp id λf=>V) λf=>Or.inr V
 have P:∀e∈[q.F,h],e∈q.F::(Ks l++S):=λe g=>by simp at g;rcases g with f|f<;>simp[f,w.2]
 refine⟨λe g=>?_,R.fm V,λe g=>B e (X e g).2.1,hk r _ ⟨o.d.le (F.bA P ab),?_,λy t=>?_,?_,λe g=>?_,λs=>?_,λy t s=>?_⟩ (cB.aj (m:=n) R) F0⟩
 ·have G:=X e g
  rw[H e V G.2.2,Z.same e V]
 ·rw[eP]
  obtain⟨g0,G,K,g2⟩:=ae
  exact⟨g0,G,K.congr (B _ hr),g2.mono λcs y=>RA.mono.le (nM λe g z=>⟨z,B e λf=>z (by rw[f];simp[w.2])⟩)⟩
 ·rcases List.mem_append.1 t with f|f
  ·exact(o.c y f).re dt.mono F P (by simp;exact⟨o.kq y f,λv=>o.nc y f (v▸w.2)⟩) ab
  ·simp at f
   subst f
   obtain⟨af,G,ag,rr⟩:=W
   have z:Gr (j.F::q.F::(Ks l++S)) N k dz 6 dt j p.cE:=⟨af,G,ag,rr.mono λcs y=>dt.mono.le (gJ k λe g=>by
    rcases List.mem_cons.1 g with f|f
    ·simp[f]
    ·exact f)⟩
   exact Gr.cG dt.mono (z.re dt.mono T (λe g=>ai _ (P e g)) (by simp;exact⟨V,λv=>kx (v▸w.2)⟩) λe g=>(aa e g).imp (λf=>f.elim (ai _) λf=>by simp[f]) id) (λe g=>Or.inl g) (by have:=Y.size;omega)
 ·simp only[Ks,eP,cg,eI]
  refine List.nodup_append.2 ⟨o.nd,E,λe g v s=>?_⟩
  simp at s g
  obtain⟨z,G,t,rfl⟩:=g
  have:=ck _ t
  simp at this;omega
 ·have:=o.lt e g
  have:=F.size
  omega
 ·rcases C.2 with f|f
  ·exact o.nq (f▸s)
  ·have:=o.lt _ s;omega
 ·rcases List.mem_append.1 t with f|f
  ·exact o.nc y f s
  ·simp at f
   subst f
   exact kx s
end
end
def ub{j:List Nat}{o:I}(Y:∀c∈j,c<o.size){ai an:O}{Q:List bq}{K:List cY}(hd:bR o ai Q)(ht:dv Q)(hp:gB o an K)(al:Bg K):
 aN bY 136 [.agg #[O.v ai,O.v an]] o λU m'=>∃v q f,U=.agg #[O.v v,O.v q]/\tB j o m' v q Q f/\f.map (·.1)=K/\J o m':=by
 apply xW
 simp -zeta only[aE,aD]
 intro b a2
 obtain⟨x2,hl⟩:=di (a:=b) (c:=a2) rfl rfl
 have s1:b.size=o.size+1:=by simp[b]
 clear_value a2
 have aM:=hp.len;have aL:=al.mN
 refine(eT (b:=b.size::j) (bG Y x2.size (hl _ E)) (hd.le x2.le) ht).mono λ_ H⟨v,e,ay,x3⟩=>?_
 subst e
 refine⟨x3.da hl,_,rfl,?_⟩
 intro m aC ah
 have u2:=x2.trans x3
 obtain⟨x5,B0,g0,s3,s5⟩:=jO (b:=m.size::b.size::j) RA.mono (d:=H) (a:=m) (c:=aC) (h:=ah) rfl rfl rfl
 clear_value ah
 have ak:∀c∈[b.size,o.size],c<H.size:=λc d=>x3.lt (hl c d)
 have i1:=ak b.size E
 have z2:=u2.size
 have A0:tB (m.size::b.size::j) H ah v (.mk H.size 0 0 0) Q []:=⟨ay.le (x5.bA λg u=>by
  simp only[Ks,eI,dT,aS]at u;rcases u with e|e|e
  ·exact Or.inr (by rw[e];exact ad _)
  ·exact Or.inr V
  ·exact Or.inl (List.mem_cons.2 e)),g0,E,E,λg u=>by
   simp only[aS]at u;rcases u with e|e|e
   ·omega
   ·omega
   ·have:=Y g e;omega,λd=>by
   simp only[aS]at d;rcases d with e|e|e
   ·simp at e;omega
   ·simp at e;omega
   ·have:=Y _ e;simp at this;omega,E⟩
 refine dO (n:=K.length) V (λac h=>J H h/\∃s f,tB (m.size::b.size::j) H h v s Q f/\cB h m.size tv [.s v,.s s]/\f.map (·.1)=K.take ac) ⟨x5,_,[],A0,B0,rfl⟩ ?_
 rintro ac h aH μ hk ⟨xM,s,f,A,C,Z⟩ aG
 have zM:=xM.size
 refine dit (λz=>?_) λz=>?_
 ·obtain⟨q,hq⟩:=ag (l:=K) (k:=ac) V
  have ab:=al.df q (au hq)
  have q3:=ab.params;have q4:=ab.cW;have qf:=ab.mN
  have v6:=u2.trans xM
  obtain⟨aK,g,c,c1,c2,c3,e0,e1,e2,e3,e4⟩:=hp.u hq
  have G:∀{U:Value}{g B:Nat},D o g B=some U->D h g B=some U:=λz=>v6.D z
  refine⟨V,V,_,G e0,_,G e1,_,G e2,_,G e3,_,G e4,?_⟩
  intro m7 r
  obtain⟨X,-,s8⟩:=jz (M:=h) (d:=m7) (c:=r) rfl rfl rfl
  clear_value r
  have aa:∀c∈[h.size,b.size,o.size],c<r.size:=λc d=>by
   rcases List.mem_cons.1 d with e|e
   ·omega
   ·have:=ak c e;omega
  have w8:=v6.trans X
  have hT:∀{y:I},h.size<=y.size->∀c∈s.F::(Ks f++(m.size::b.size::j)),c<y.size:=λz c d=>by
   rcases List.mem_cons.1 d with e|e
   ·have:=A.g.aY;omega
   ·rcases List.mem_append.1 e with e|e
    ·obtain⟨w,t,rfl⟩:=List.mem_map.1 e;have:=(A.c w t).aY;omega
    ·have:=A.lt c e;omega
  intro m9
  have x9:J r m9:=J.push _ _
  have aw:Gr (s.F::(Ks f++(m.size::b.size::j))) r m9 dz 6 dt (.mk r.size 0 0 0) []:=Gr.new _ (ad _) _ _ _
  clear_value m9
  have ax:=c3.len
  refine dC (n:=q.cE.length) (ax▸c3.fL) (λaf F w=>J r w/\Gr (s.F::(Ks f++(m.size::b.size::j))) r w dz 6 dt F (q.cE.take af)) ⟨x9,aw⟩ ?_
  rintro af F w I2 μ2 hj ⟨t,R⟩ aF
  have X2:=w8.trans t
  have z2:=t.size
  have aB:∀c∈[h.size,b.size,o.size],c<w.size:=λc d=>t.lt (aa c d)
  refine dit (λh2=>?_) λh2=>?_
  ·obtain⟨T,N⟩:=ag (l:=q.cE) (k:=af) V
   obtain⟨pa,pj,ha,aA,W,aj,am,ap,aq,av⟩:=(eB.ext X2 c3).u N
   have yk:=R.aY
   refine⟨V,V,_,W,_,aj,_,am,_,ap,_,aq,_,av,?_⟩
   refine(ud (S:=F.F::s.F::(Ks f++(m.size::b.size::j))) (λc d=>?_) ha aA (ab.iQ T (au N))).mono λU aO⟨a',j',e,ae,az,x⟩=>⟨λc d=>x.same c (aB c d),_,_,_,_,_,_,e,?_⟩
   ·rcases List.mem_cons.1 d with e|e
    ·omega
    ·exact hT V c e
   intro aP
   refine Gr.jK (g:=[.i 0,.i 0,.i 0,.i 0,.s .nil,.s .nil]) (k:=T) dt.mono bd (R.ext dt.mono x) ((t.trans x).fz []) ⟨a',j',rfl,ae,az⟩ bK λao M3 g3 P z3 aQ=>⟨J.mU ((t.trans x).aM _) P.ext aa,aF V _ _ ⟨P.ext,?_⟩⟩
   rw[bH N];exact g3
  ·rw[bZ V]at R
   have x:∀{M1 w:I},J r M1->J M1 w->∀g,g<r.size->∀B,D w g B=D M1 g B:=λz h' g u B=>aI (h'.same g (z.lt u)) B
   have T:h.size<r.size:=V
   have i2:m.size<r.size:=aJ C.lt X.size
   refine⟨s,(C.ext (X.trans t)).cy 1,?_⟩
   refine(bE [] (c1.ext X2) V).aG t aa λa' _ av ga e P N=>⟨_,rfl,x t P _ T _,x t P _ T _,x t P _ T _,x t P _ i2 _,?_⟩
   subst e
   refine(bE [] (c2.ext (w8.trans N)) V).aG N aa λb' _ am gb e W ap=>⟨_,rfl,x N W _ T _,x N W _ T _,x N W _ i2 _,?_⟩
   subst e
   intro az
   have aA:=N.size
   have aO:=ap.size
   have yk:=R.aY
   have aj:∀{y:I},w.size<=y.size->∀c∈F.F::s.F::(Ks f++(m.size::b.size::j)),c<y.size:=λz c d=>by
    rcases List.mem_cons.1 d with e|e
    ·omega
    ·exact hT V c e
   have ae:ar (bA (F.F::s.F::(Ks f++(m.size::b.size::j))) am) a' q.params:=(GI.done (GI.any ga) (aj (ad _)) V).le (W.cJ _)
   have aq:ar (bA (F.F::s.F::(Ks f++(m.size::b.size::j))) am) b' q.cW:=GI.done (GI.any gb) (aj P.size) V
   have ll:f.length=ac:=by have:=rQ List.length Z;simp at this;omega
   have yq:=A.g.aY
   exact A.xK (i:=1) (bc:=[.s v,.s s]) (tb:=tv) (p:=⟨q.params,q.cW,q.aR,q.av,q.cE⟩) (L:=[h.size,b.size,o.size]) (X.trans ap) (R.ext dt.mono (P.trans W)) V ae aq C E bd ⟨V,E⟩ (λc d=>by
    have hn:=A.nq;simp only[aS,tA]at d hn;have:=X.size;have:=C.lt;rcases d with e|e|e|e
    ·omega
    ·omega
    ·omega
    ·simp at e) V xM λao m' A' B' x'=>aG V m' ⟨x',ao,_,A',B',by rw[bH hq,eP,Z];rfl⟩
 ·refine⟨v,C.cy 0,s,C.cy 1,?_⟩
  intro y
  rw[bZ V]at Z
  have r:Fz [b.size] h y:=(Fz.aC _ h).aj (Or.inl E) _ _
  exact⟨v,s,f,rfl,A.re r E (λg u=>⟨Or.inl (by simp[u]),by have:=Y g u;have:=r.size;omega⟩) u2.size,Z,(u2.trans xM).aj V _ _⟩
section
variable{cs:List Ce}{p:cY}{y:Instr}
def Nt{α:Type}{l:List α}{f:Nat}{x:α}(h:l[f]? =some x):l.set f x=l:=by
 apply fI;intro i;rw[iI];split
 ·next e=>
  subst e;rw[h];split
  ·rfl
  ·next hi=>exact absurd (ax h) hi
 ·rfl
section
variable{S L B X:List Nat}{c m M:I}{a q d:O}{b:List bq}{l:List (cY×O)}{e Q f k:Nat}{x:cY×O}
def BS.XI(h:BS B e d m Q M)(o:Obj):BS (M.size::B) e d m Q (M.push o):=⟨h.s.ext (J.push M o),λc b=>by
 have z:=h.s.f.size;rw[Za];rcases List.mem_cons.1 b with a|a
 ·omega
 ·have:=h.fq c a;omega⟩
def tB.mN(h:Bg (l.map (·.1)))(a:x∈l):Qj x.1:=h.df x.1 (List.mem_map.2 ⟨x,a,rfl⟩)
def tB.len(h:tB S c M a q b l):q.len=l.length:=by have:=h.g.len bd;simpa using this
def tB.je(n:tB S c M a q b l)(A:l.length<=1000)(k:l[f]? =some x):∃e d:O,D M q.F (q.off+f*5)=some (O.v e)/\D M q.F (q.off+f*5+1)=some (O.v d)/\D M q.F (q.off+f*5+2)=some (vi x.1.aR)/\D M q.F (q.off+f*5+3)=some (vi x.1.av)/\D M q.F (q.off+f*5+4)=some (O.v x.2)/\ar (bA (q.F::S) M) e x.1.params/\ar (bA (q.F::S) M) d x.1.cW:=by
 obtain⟨B,m,y,r⟩:=n.g;have z:=ax k;have t:f<m.length:=by have:=r.len;simp at this;omega
 obtain⟨cs,j⟩:=ag t;obtain⟨e,d,h,o,p⟩:=r.df f cs (hd x) j (by simp[k]);have je:=y.je;have w:Le (bA (q.F::(Ks l++S)) M) (bA (q.F::S) M):=gJ M λd s=>by rcases List.mem_cons.1 s with h|h<;>simp[h]
 have u:∀i g,cs[i]? =some g->D M q.F (q.off+f*5+i)=some g.v:=λi g v=>by
  have:=je (f*5+i) g (gY r.size j v);rwa[<-dB]at this
 subst h;exact⟨e,d,u 0 _ rfl,u 1 _ rfl,u 2 _ rfl,u 3 _ rfl,u 4 _ rfl,o.le w,p.le w⟩
def tB.it(h:tB S c M a q b l)(g:l.length<=1000)(e:∀x∈l,x.1.cE.length<=1000000000000):IT (bA S M) a q (b,l.map (·.1)):=
 ⟨h.d.le (gJ M λf d=>by simp[d]),(h.gr e).mq jU.mono h.nq bd (by simp only[eO];omega)⟩
def tB.XH(h:tB S c M a q b l)(i:Fz X c M)(o:l.length<=1000)(f:∀x∈l,x.1.cE.length<=1000000000000)(j:k<l.length)(m:jU (bA (q.F::S) M) cs p):
 fm M q.F (q.off+k*5) 5/\∃n,IT (bA S (aj M q.F (q.off+k*5) cs)) a q (b,n):=by
 obtain⟨w,g,-,-⟩:=(h.gr f).set jU.mono i (k:=k) (by simpa using j) m
 have F:Fz [q.F] M (aj M q.F (q.off+k*5) cs):=(Fz.aC _ M).aj (Or.inl E) _ _
 exact⟨w,_,h.d.le (F.bA (λe d=>by simp at d;simp[d]) λe d=>Or.inl (by simp[d])),g.mq jU.mono h.nq bd bK⟩
def tB.wr(h:tB S c M a q b l)(v:Fz X c M)(j:l[f]? =some x)(A:k<x.1.cE.length)(B:dt (bA (q.F::(Ks l++S)) M) cs y):
 fm M x.2.F (x.2.off+k*6) 6/\tB S c (aj M x.2.F (x.2.off+k*6) cs) a q b (l.set f ({x.1 with cE:=x.1.cE.set k y},x.2)):=by
 have n:=au j
 have t:x.2.F∈Ks l:=List.mem_map.2 ⟨x,n,rfl⟩
 have C:∀d∈x.2.F::q.F::(Ks l++S),d∈q.F::(Ks l++S):=λd g=>by
  rcases List.mem_cons.1 g with e|e
  ·rw[e];exact ai _ (bB _ t)
  ·exact e
 obtain⟨D,u,-,G⟩:=(h.c x n).set dt.mono v A (dt.le (gJ M C) B)
 have F:Fz [x.2.F] M (aj M x.2.F (x.2.off+k*6) cs):=(Fz.aC _ M).aj (Or.inl E) _ _
 have p:∀d∈[x.2.F],d∈Ks l++S:=λd g=>by simp at g;rw[g];exact bB _ t
 have o:Ks (l.set f ({x.1 with cE:=x.1.cE.set k y},x.2))=Ks l:=by
  simp only[Ks,wR];exact Nt (by simp[j])
 have w:(l.set f ({x.1 with cE:=x.1.cE.set k y},x.2)).map hd=l.map hd:=by
  rw[wR];exact Nt (by simp[j,hd])
 have r:∀z∈l.set f ({x.1 with cE:=x.1.cE.set k y},x.2),z=({x.1 with cE:=x.1.cE.set k y},x.2)\/z∈l/\z.2.F≠x.2.F:=λz m=>by
  obtain⟨H,i⟩:=List.mem_iff_getElem?.1 m;rw[iI]at i;split at i
  ·split at i
   ·exact Or.inl (by simpa using i.symm)
   ·simp at i
  ·next hne=>
   refine Or.inr ⟨au i,λe=>hne ?_⟩;have s:f<(Ks l).length:=by simpa[Ks]using ax j
   exact(List.getElem?_inj s h.nd).1 (by simp[Ks,j,i,e])
 refine⟨D,?_,?_,λz m=>?_,by rw[o];exact h.nd,λd g=>by rw[az];exact h.lt d g,h.nq,λz m=>?_⟩
 ·rw[o];exact h.d.le (F.cJ λd g=>ai _ (p d g))
 ·rw[o,w];exact h.g.KP RA.mono F p (by simp;exactλe=>h.kq x n e.symm)
 ·rw[o]
  rcases r z m with e|⟨e,s⟩
  ·rw[e];exact u
  ·exact(h.c z e).KP dt.mono F (λd g=>ai _ (p d g)) (by simpa using s)
 ·rcases r z m with e|⟨e,s⟩
  ·rw[e];exact h.nc x n
  ·exact h.nc z e
end
def RH{c:List cY}(h:Bg c){f k:Nat}{x:Instr}(g:c[f]? =some p)(i:p.cE[k]? =some x)(d:Qc x y):Bg (c.set f {p with cE:=p.cE.set k y}):=by
 have b:=h.df p (au g);refine⟨by simpa using h.gR,by simpa using h.mN,λq j=>?_⟩;rcases cx j with e|e
 ·exact h.df q e
 ·subst e;refine⟨b.params,b.cW,by simpa using b.gR,by simpa using b.mN,λl z a=>?_,λz a=>?_⟩
  ·simp only[iI]at a;split at a
   ·next e=>
    subst e;split at a
    ·simp at a;subst a;exact d.1 _ (b.cE _ _ i)
    ·simp at a
   ·exact b.cE _ _ a
  ·rcases cx a with e|e
   ·exact b.iQ z e
   ·rw[e];exact d.2
section
variable{a:List Nat}{m:I}{b P:Nat}{c:O}
def Fh(hS:∀o∈a,o<m.size)(ae:b∈a)(R:Rd b c P m)(hP:P+100<=10000000000000000){ac p:O}{u:List bq×List cY}(ah:IT (bA a m) ac p u)(Y:UI u):aN bY 82 [vp b 0,.agg #[O.v ac,O.v p]] m (PP IT UI a b c m (P+11)):=by
 apply xQ (b,0);simp -zeta only[aE,aD];have C:=R.lt;intro j aa;have L:BS [j.size,m.size] b c m P aa:=BS.XI (BS.kj (S:=a) R _).1 _;have Z:J m aa:=(J.push m _).trans (J.push j _);clear_value aa;refine(ub (L.hS hS) ((ah.1.le (bt _ _)).ext Z) (qP Y.2) (dW.mono (gB.le (bt _ _) ah.2) Z λ_ _=>jU.le Z.le) Y.1).mono λ_ n⟨B,q,f,e,A,hl,x3⟩=>⟨(L.lw C λ_ h=>h).da (x3.fz _),B,q,e,?_⟩;have b3:=L.to (x3.fz _) (L.s.r.ext x3);intro m4 T;obtain⟨b5,-,-⟩:=b3.box (S:=a) (m1:=m4) (m2:=T) rfl rfl rfl;obtain⟨x5,-,-⟩:=jz (M:=n) (d:=m4) (c:=T) rfl rfl rfl;clear_value T;have A5:tB ([n.size,j.size,m.size]++a) m T B q u.1 f:=A.re (x5.fz []) E (λd g=>⟨by
  rcases List.mem_cons.1 g with e|e
  ·exact Or.inr V
  ·exact Or.inl e,b5.hS hS d g⟩) Z.size
 refine b5.pick C V (λ_ h=>h) 2 λan m6 i0 i1 b6 f6=>?_;have hB:∀d∈[b],d∈[n.size,j.size,m.size]++a:=by simp[ae]
 have X:∀{w M':I}{f:List (cY×O)},tB ([n.size,j.size,m.size]++a) m w B q u.1 f->Fz [b] w M'->tB ([n.size,j.size,m.size]++a) m M' B q u.1 f:=λh N=>h.re N hB (λd g=>⟨Or.inl g,aJ (h.lt d g) N.size⟩) (ad _);refine⟨λW w=>∃r:Nat,W=r/\r<=2/\BS [n.size,j.size,m.size] b c m (P+11 -5*r) w/\∃f,tB ([n.size,j.size,m.size]++a) m w B q u.1 f/\Bg (f.map (·.1)),λW _=>W.toNat,⟨(an+1).toNat,by rw[aP V V];omega,V,⟨⟨b6.s.f,b6.s.r.mono V⟩,b6.fq⟩,f,X A5 f6,hl▸Y.1⟩,?_⟩;rintro W w ⟨r,rfl,hk,d,f,A,t⟩;refine⟨λh=>?_,λ_=>d.il IT.mn R E (x:=(u.1,f.map (·.1))) (A.it (by have:=t.mN;simp at this;omega) λy i=>(tB.mN t i).mN) ⟨t,Y.2⟩ V _⟩;simp only[mH,ao]at h;have aA:=A.len;have l4:f.length<=4:=by simpa using t.mN
 have l0:0<f.length:=by simpa using t.gR
 refine d.pick C V (λ_ h=>h) (q.len:Int) λN m7 f0 f1 b7 f7=>?_;have A7:=X A f7;obtain⟨y,i⟩:=ag (l:=f) (k:=N.toNat) V;obtain⟨-,-,-,-,-,-,g7,-,-⟩:=A7.je V i;have G:=tB.mN t (au i);have c7:=A7.cE (au i) G.mN;have aw:=c7.len;have av:=G.gR;refine⟨f0,V,y.2,g7,b7.pick C V (λ_ h=>h) (y.2.len:Int) λap U j0 j1 b8 f8=>?_⟩;have v:=X A7 f8;obtain⟨-,-,-,-,-,-,g8,-,-⟩:=v.je V i;have c8:=v.cE (au i) G.mN;obtain⟨aq,F⟩:=ag (l:=y.1.cE) (k:=ap.toNat) V;obtain⟨ar,jj,ha,hj,e0,e1,e2,e3,e4,e5⟩:=c8.u F;have fq:∀{d s:Nat}{aj:Value},D (bA (q.F::([n.size,j.size,m.size]++a)) U) d s=some aj->D U d s=some aj:=λh=>(dP.1 h).2;refine⟨f0,V,y.2,g8,f0,V,y.2,g8,j0,V,_,fq e0,_,fq e1,_,fq e2,_,fq e3,_,fq e4,_,fq e5,?_⟩;have hZ:∀o∈q.F::(Ks f++([n.size,j.size,m.size]++a)),o<U.size:=λo hc=>by
  rcases List.mem_cons.1 hc with e|e
  ·rw[e];exact v.g.aY.2
  ·rcases List.mem_append.1 e with e|e
   ·obtain⟨ab,z,rfl⟩:=List.mem_map.1 e;exact(v.c ab z).aY.2
   ·exact v.lt o e
 refine(Fg hZ b8.s.r V (ha.le (gJ _ (by simp[ae]))) (hj.le (bt _ _)) (G.iQ aq (au F)) ⟨_,G.cE _ _ F⟩).mono λ_ m9⟨H,a',j',e,al,am,g,r9,Q⟩=>⟨(b8.lw C λ_ h=>h).da Q,_,_,_,_,_,_,e,?_⟩;have K:=X v Q;have z:=b8.to Q r9;obtain⟨ab,ak⟩:=K.wr z.s.f i (ax F) (cs:=[.i H.op,.i H.dst,.i H.bL,.i H.bV,.s a',.s j']) (y:=H) ⟨a',j',rfl,al,am⟩;have yc:=(K.c y (au i)).aY;have ny:=K.nc y (au i);have af:∀s d,d∈q.F::([n.size,j.size,m.size]++a)->d≠b->D m9 d s=D U d s:=λs d g hn=>aI (Q.same d (hZ d ((List.mem_cons.1 g).elim (λe=>by simp[e]) λe=>ai _ (dE _ e))) (by simpa using hn)) s;have yq:=K.g.aY;have ay:=z.fq n.size E;refine⟨af _ _ E V,af _ _ E V,j0,V,ab,λd g=>bh _ _ _ _ λe=>ny (by rw[<-e];exact bB _ g),⟨r -1,?_,V,⟨⟨z.s.f.aj (Or.inr V) _ _,(R.aj z.s.r z.s.f V _ _).mono V⟩,λo hc=>by rw[az];exact z.fq o hc⟩,_,ak,?_⟩,?_⟩
 ·rw[aP V V];omega
 ·rw[wR];exact RH t (by simp[i]) F g
 ·rw[aP V V];show((r:Int) -1).toNat<(r:Int).toNat;omega
end
end
section
variable{m:I}{b:Nat}{a j:O}
def BI.kj{L:List Nat}{g M:I}{k Q:Nat}{i:O}{p q:List Int}(h:BI g k b i m Q M a j p q)(o:b<m.size)(u:Q<=10000000000000000)(s:∀e∈L,m.size<=e/\e<=k)(d:List Int){f:List Ce}{n:Nat}(w:f=d.map Ce.i)(A:n=d.length)(z:0<d.length/\d.length<=100){K:Int->I->Prop}
 (y:∀t c,BI g k b i m (Q+1) c a j p q->K t c):aN bY 84 [vp b 0,O.v (.mk M.size 0 n n)] (M.push (.cells (br f) aB)) λC c=>dV L (M.push (.cells (br f) aB)) c/\∃t:Int,C=vi t/\K t c:=
 have:=h.hi
 have x:=J.push M (.cells (br f) aB)
 have D:=x.size
 (xD h.s u d w A z).mono λ_ c⟨t,r,_,B,l⟩=>⟨l.da λe v=>by have:=s e v;simp only[jm];omega,t,r,y t c ((h.to o (x.fz _) (h.s.r.ext x)).to o l B.r)⟩
def DZ{Z:List Nat}{P:Nat}{t:O}{x:Instr}(p:∀c∈Z,c<m.size)(d:Rd b t P m)(hP:P+20<=10000000000000000)(Y:ar m a x.args)(hj:ar m j x.dR)(q:x.args.length<=1000000000000/\x.dR.length<=1000000000000):
 aN bY 139 [vp b 0,SY x a j] m (IX Z b t m (P+4) λ_=>True):=by
 apply wF (b,0)
 simp(config:={maxSteps:=1000000}) -zeta only[aE,aD]
 have r:=d.lt
 intro w i
 obtain⟨J,D⟩:=di (a:=w) (c:=i) rfl rfl
 have k:w.size=m.size+1:=by simp[w]
 have s2:i.size=m.size+2:=by simp[i,k]
 clear_value i
 clear_value w
 refine(uc [] (Y.ext J) (hj.ext J) q).mono λ_ s⟨N,R,n,Q,G,aa,U⟩=>⟨U.da D,_,_,_,_,_,_,n,?_⟩
 intro m4 H
 obtain⟨K,-,z5⟩:=jz (M:=s) (d:=m4) (c:=H) rfl rfl rfl
 clear_value H
 have ya:=Q.aY;have yj:=G.aY
 have L:=(J.trans U).trans K
 have W:BI i s.size b t m P H N R x.args x.dR:=⟨Q.ext K,G.ext K,aa,⟨L.fz _,d.ext L⟩,⟨V,nt q.1,nt q.2⟩,V,V,V,V⟩
 have v:∀C∈[s.size,w.size,m.size],m.size<=C/\C<=s.size:=bK
 refine W.pick r V v 6 λad z _ _ c _ f6=>?_
 have y6:=c.hi
 have T:∀{y:O}{S:List Int},GI [] i z y S->S.length<=1000000000000->aN bY 115 [vp b 0,O.v y] z λB g=>dV [s.size,w.size,m.size] z g/\∃f,B=O.v f/\∃h,GI [] z g f h/\h.length<=1000000000001/\Rd b t (P+4) g/\Fz [b] z g:=λo D=>
  (oU c.s.r V (ar.le (bt _ _) (o.done E D)) D).mono λ_ g⟨f,h,n,X,F,_,A,u⟩=>⟨u.da λC q=>by have:=v C q;simp only[jm];omega,f,n,h,X,V,A,u⟩
 refine⟨λ_=>c.pick r V v 26 λB I _ _ e _ _=>(e.put d _ _).il d p k V trivial _,λ_=>⟨λ_=>c.kj r V v [0,1,-1,99] rfl rfl E λB I e=>(e.put d _ _).il d p k V trivial _,λ_=>⟨λ_=>c.kj r V v [0,1,5,-1,1000,2000] rfl rfl E λB I e=>(e.put d _ _).il d p k V trivial _,λ_=>⟨λ_=>c.kj r V v [0,1,-1,99] rfl rfl E λB I e=>(e.put d _ _).il d p k V trivial _,λ_=>⟨λ_=>?_,λ_=>⟨λ_=>?_,λ_=>c.il d p k V trivial _⟩⟩⟩⟩⟩⟩
 ·refine(T c.ga q.1).mono λ_ g⟨y,f,n,h,o,F,A,u⟩=>⟨y,f,n,?_⟩
  have ab:=o.aY
  have ac:=c.s.f.size
  have l:=c.to r u A
  have e:BI i s.size b t m (P+4) g f R h x.dR:=⟨o.cG E V,l.gj,by have:=G.aY;omega,l.s,⟨V,F,c.lo.2.2⟩,V,V,l.hi.2.2⟩
  exact(e.put d _ _).il d p k V trivial _
 ·refine(T c.gj q.2).mono λ_ g⟨y,f,n,h,o,F,A,u⟩=>⟨y,f,n,?_⟩
  have ab:=o.aY
  have ac:=c.s.f.size
  have l:=c.to r u A
  have e:BI i s.size b t m (P+4) g N f x.args h:=⟨l.ga,o.cG E V,V,l.s,⟨V,c.lo.2.1,F⟩,V,V,l.hi.2.2⟩
  exact(e.put d _ _).il d p k V trivial _
end
section
def AD(S:List Nat)(b:Nat)(c:O)(m:I)(P:Nat)(v:Value)(a:I):Prop:=∃s d,v=O.v s/\bR (bA S a) s d/\Rd b c P a/\Fz [b] m a
structure DD(S:List Nat)(rb:Nat)(bs:O)(m:I)(Q:Nat)(M:I)(s:O)(ds:List bq):Prop where
 g:Wq S m M s ds
 r:Rs rb bs m Q M
 l:0<ds.length/\ds.length<=100
section
variable{a:List Nat}{b P Q h g:Nat}{c s:O}{m M f:I}{e:List bq}
def DD.to(d:DD a b c m Q M s e)(i:b∈a/\b<m.size)(g:Fz [b] M f)(r:Rs b c m h f):DD a b c m h f s e:=⟨d.g.fu gE.mono g (by simp;exact i),r,d.l⟩
def DD.ext(h:DD a b c m Q M s e)(x:J M f):DD a b c m Q f s e:=⟨h.g.ext gE.mono x,h.r.ext x,h.l⟩
def DD.fq(h:DD a b c m Q M s e)(g:∀d∈a,d<m.size):∀d∈s.F::a,d<M.size:=λd i=>(List.mem_cons.1 i).elim (λf=>f▸h.g.aY.2) λf=>aJ (g d f) h.r.f.size
def DD.lit(h:DD a b c m Q M s e)(f:∀d∈a,d<m.size)(l:List Int){cs:List Ce}{n:Nat}(d:cs=l.map Ce.i)(g:n=l.length)(i:l.length<=100):ar (bA (s.F::a) (M.push (.cells (br cs) aB))) (.mk M.size 0 n n) l:=ar.lit aB l (h.fq f) d g V
def DD.il(h:DD a b c m Q M s e)(f:∀d∈a,d<m.size)(d:Q<=g):AD a b c m g (O.v s) M:=⟨s,e,rfl,h.g.done gE.mono f bd (by have:=h.l;omega),h.r.r.mono d,h.r.f⟩
def DD.set(h:DD a b c m Q M s e)(o:∀f∈a,f<m.size)(i:Rd b c P m)(n:Q<=g){k:Int}(q:0<=k/\k<(e.length:Int)){cs:List Ce}{d:bq}(p:gE (bA (s.F::a) M) cs d):
 0<=k/\k<(s.len:Int)/\fm M s.F (s.off+k.toNat*3) 3/\AD a b c m g (O.v s) (aj M s.F (s.off+k.toNat*3) cs):=by
 have r:=h.g.len bd
 have y:=h.g.aY
 obtain⟨w,l,f,j⟩:=h.g.set gE.mono h.r.f (k:=k.toNat) V p
 exact⟨q.1,V,w,s,_,rfl,l.done gE.mono o bd (by have:=h.l;simp;omega),(i.J6 h.r.r f (j b (by have:=i.lt;omega))).mono n,f⟩
def DD.fw(h:DD a b c m Q M s e)(i:∀d∈a,d<m.size)(k:Rd b c P m)(q:Q<=g){d:List Ce}{n:Nat}(l:List (bq×List Ce))(u:∀x∈l,gE (bA (s.F::a) M) x.2 x.1)(t:d=l.flatMap (·.2))(v:n=l.length)(w:l.length<=100):
 iS (M.push (.cells (br d) jk)) jk [.i 0,.i 0,.s .nil] 40 s (.mk M.size 0 n n) λr f=>AD a b c m g (O.v r) f:=by
 have x:=J.push M (.cells (br d) jk)
 have A:=h.g.aY
 have H:=(zo gE.mono (h.fq i) jk l u t v).done gE.mono (h.fq i) bd bK
 have y:=h.l
 refine Gr.all (g:=[.i 0,.i 0,.s .nil]) gE.mono bd (h.ext x).g (h.ext x).r.f H bK λr z p j B o=>⟨r,_,rfl,p.done gE.mono i bd bK,(k.J6 (h.ext x).r.r j (o b (h.ext x).r.r.lt (by have:=k.lt;omega))).mono q,j⟩
def He(g:∀z∈a,z<m.size)(Q:b∈a)(v:Rd b c P m)(hP:P+100<=10000000000000000):aN bY 138 [vp b 0] m (AD a b c m (P+6)):=by
 apply zI (b,0);have hr:=v.lt;have w:b∈a/\b<m.size:=⟨Q,hr⟩;refine(uf g Q v V).mono λ_ m1⟨s,e,h,g1,af,d1,f1⟩=>⟨s,h,?_⟩;have T:DD a b c m (P+1) m1 s e:=⟨g1,⟨f1,d1⟩,by have:=nI e af;omega⟩;have sl:s.len=e.length:=g1.len bd;have dl:=T.l;refine(bO d1 V (s.len:Int)).mono λ_ m2⟨D,h,k0,k1,d2,f2⟩=>⟨D,h,?_⟩;have D2:=T.to w f2 (T.r.to f2 d2);have O:0<=D/\D<(e.length:Int):=V;refine(bO d2 V 14).mono λ_ F⟨ag,h,_,_,d3,f3⟩=>⟨ag,h,?_⟩;have k:=D2.to w f3 (D2.r.to f3 d3);have R:∀{M:I},Ry M .nil []:=⟨rfl,dH _,E,E⟩;have x:∀{M f:I},J M f->Le (bA (s.F::a) M) (bA (s.F::a) f):=λaa=>aa.cJ _;refine⟨λ_=>?_,λ_=>⟨λ_=>?_,λ_=>⟨λ_=>?_,λ_=>⟨λ_=>?_,λ_=>⟨λ_=>?_,λ_=>⟨λ_=>?_,λ_=>k.il g V⟩⟩⟩⟩⟩⟩
 ·refine(xD k.r V [-1,5,0,2] rfl rfl E).mono λ_ o⟨t,h,_,G,u⟩=>⟨t,h,?_⟩;have r:=(k.ext (J.push F _)).to w u G;refine(xD G V [0,1,5] rfl rfl E).mono λ_ l⟨q,h,_,A,y⟩=>⟨q,h,?_⟩;have p:=(r.ext (J.push o _)).to w y A;exact p.set g v V O (d:=⟨t,q,[]⟩) ⟨.nil,rfl,R⟩
 ·refine(xD k.r V [-1,0,4,5] rfl rfl E).mono λ_ o⟨t,h,_,G,u⟩=>⟨t,h,?_⟩;have r:=(k.ext (J.push F _)).to w u G;have N:=r.lit g [t] (cs:=[.i t]) (n:=1) rfl rfl E;refine AI _ λl y=>?_;have p:=(r.ext (J.push o _)).ext y;have Y:=p.lit g [0,0,0,0] (cs:=[.i 0,.i 0,.i 0,.i 0]) (n:=4) rfl rfl E;refine AI _ λq B=>?_;have H:=(p.ext (J.push l _)).ext B;have Z:=H.lit g [] (cs:=[]) (n:=0) rfl rfl E;refine AI _ λA C=>?_;have K:=(H.ext (J.push q _)).ext C;have L:=(J.push q (.cells (br []) aB)).trans C;have W:=((J.push l (.cells (br [.i 0,.i 0,.i 0,.i 0]) aB)).trans B);have z:=uF (K.fq g) ns [([t],.mk o.size 0 1 1),([0,0,0,0],.mk l.size 0 4 4),([],.mk q.size 0 0 0)] E (by
   simp only[aS,jo,zc,Y6,Y5];exact⟨N.le (x ((y.trans W).trans L)),Y.le (x (B.trans L)),Z.le (x C)⟩) (c:=[.s (.mk o.size 0 1 1),.s (.mk l.size 0 4 4),.s (.mk q.size 0 0 0)]) (b:=3) rfl rfl
  exact(K.ext (J.push A _)).set g v V O (d:=⟨0,0,_⟩) ⟨_,rfl,z⟩
 ·have N:=k.lit g [cK (D+1)] (cs:=[.i (cK (D+1))]) (n:=1) rfl rfl E;refine AI _ λl y=>?_;have p:=(k.ext (J.push F _)).ext y;have z:=uF (p.fq g) ns [([cK (D+1)],.mk F.size 0 1 1)] E (by
   simp only[aS,jo,zc,Y5];exact N.le (x y)) (c:=[.s (.mk F.size 0 1 1)]) (b:=1) rfl rfl
  exact(p.ext (J.push l _)).set g v V O (d:=⟨0,0,_⟩) ⟨_,rfl,z⟩
 ·refine(xD k.r V [0,2,1] rfl rfl E).mono λ_ o⟨t,h,_,G,u⟩=>⟨t,h,?_⟩;have r:=(k.ext (J.push F _)).to w u G;exact r.fw g v V [(⟨2,t,[]⟩,[.i 2,.i t,.s .nil])] (by simp;exact⟨.nil,rfl,R⟩) rfl rfl E
 ·refine(bO k.r.r V 2).mono λ_ o⟨t,h,_,_,d4,u⟩=>⟨t,h,?_⟩;have r:=k.to w u (k.r.to u d4);have N:=r.lit g [] (cs:=[]) (n:=0) rfl rfl E;refine AI _ λl y=>?_;have p:=(r.ext (J.push o _)).ext y;have Y:=p.lit g [2] (cs:=[.i 2]) (n:=1) rfl rfl E;refine AI _ λq B=>?_;have H:=(p.ext (J.push l _)).ext B;have Z:=H.lit g [] (cs:=[]) (n:=0) rfl rfl E;refine AI _ λA C=>?_;have K:=(H.ext (J.push q _)).ext C;have a4:=K.lit g [] (cs:=[]) (n:=0) rfl rfl E;refine AI _ λm8 x8=>?_;have D8:=(K.ext (J.push A _)).ext x8;have X:=(J.push A (.cells (br []) aB)).trans x8;have L:=(J.push q (.cells (br []) aB)).trans C;have W:=((J.push l (.cells (br [.i 2]) aB)).trans B);have z:=uF (D8.fq g) ns [([],.mk o.size 0 0 0),([2],.mk l.size 0 1 1),([],.mk q.size 0 0 0),([],.mk A.size 0 0 0)] E (by
   simp only[aS,jo,zc,Y6,Y5];exact⟨N.le (x (((y.trans W).trans L).trans X)),Y.le (x ((B.trans L).trans X)),Z.le (x (C.trans X)),a4.le (x x8)⟩) (c:=[.s (.mk o.size 0 0 0),.s (.mk l.size 0 1 1),.s (.mk q.size 0 0 0),.s (.mk A.size 0 0 0)]) (b:=4) rfl rfl
  have U:=D8.ext (J.push m8 (.cells (br [.s (.mk o.size 0 0 0),.s (.mk l.size 0 1 1),.s (.mk q.size 0 0 0),.s (.mk A.size 0 0 0)]) ns));refine(bO U.r.r V 3).mono λ_ ah⟨ab,h,j0,j1,ae,G⟩=>⟨ab,h,j0,bK,E,?_⟩;have ac:=U.to w G (U.r.to G ae);have c':=(dW.le z (G.cJ (S:=s.F::a) (by simp[Q])) λad aa=>ly.le (G.cJ (by simp[Q])) ad aa).It (i:=ab.toNat) (j:=4) V E;exact ac.set g v V O (d:=⟨t,0,_⟩) ⟨_,rfl,c'⟩
 ·exact k.fw g v V [(⟨0,0,[]⟩,[.i 0,.i 0,.s .nil]),(⟨3,0,[]⟩,[.i 3,.i 0,.s .nil])] (by simp;exact⟨⟨.nil,rfl,R⟩,⟨.nil,rfl,R⟩⟩) rfl rfl E
end
end
section
def Tr{α:Type}(_:α):Prop:=True
section
variable{a:List Nat}{m:I}{b P:Nat}{c:O}
def sQ(hS:∀A∈a,A<m.size)(ab:b∈a)(h0:Rd b c P m)(hP:P+200<=10000000000000000){ao ap:O}{x:List bq×List cY}(v:IT (bA a m) ao ap x)(aq:UI x)(aC:Int):aN bY 83 [vp b 0,.agg #[O.v ao,O.v ap],vi aC] m (PP IT Tr a b c m (P+10)):=by
 apply wE (b,0);simp(config:={maxSteps:=1000000}) -zeta only[aE,aD];have H:=h0.lt;intro d af;have b2:BS [d.size,m.size] b c m P af:=BS.XI (BS.kj (S:=a) h0 _).1 _;have x2:J m af:=(J.push m _).trans (J.push d _);have s1:d.size=m.size+1:=by simp[d]
 have t2:IT (bA ([d.size,m.size]++a) af) ao ap x:=IT.mn _ _ _ _ _ (x2.bA λh s=>by
  simp at s;rcases s with e|e|e
  ·exact Or.inr V
  ·exact Or.inr V
  ·exact Or.inl e) v
 clear_value af;refine b2.pick H V (λ_ p=>p) aC λaR m3 _ _ b3 f3=>?_;have t3:=IT.mn _ _ _ _ _ (BS.le (B:=[d.size,m.size]) ab f3) t2;refine⟨λ_=>b3.il IT.mn h0 E t3 trivial V _,λ_=>?_⟩;refine(ub (b3.hS hS) (t3.1.le (bt _ _)) (qP aq.2) (gB.le (bt _ _) t3.2) aq.1).mono λ_ f⟨U,q,F,e,A4,hl,x4⟩=>⟨(b3.lw H λ_ p=>p).da (x4.fz _),U,q,e,?_⟩;have b4:=b3.to (x4.fz _) (b3.s.r.ext x4);intro m5 m6;obtain⟨b6,-,-⟩:=b4.box (S:=a) (m1:=m5) (m2:=m6) rfl rfl rfl;obtain⟨x6,-,-⟩:=jz (M:=f) (d:=m5) (c:=m6) rfl rfl rfl;clear_value m6;have A6:tB ([f.size,d.size,m.size]++a) m m6 U q x.1 F:=A4.re (x6.fz []) E (λh s=>⟨by
  rcases List.mem_cons.1 s with e|e
  ·exact Or.inr V
  ·exact Or.inl e,b6.hS hS h s⟩) b3.s.f.size
 have ok:Bg (F.map (·.1)):=hl▸aq.1;have aY:=A6.len;have l4:F.length<=4:=by simpa using ok.mN
 have l0:0<F.length:=by simpa using ok.gR
 have cl:∀g∈F,g.1.cE.length<=1000000000000:=λg C=>(tB.mN ok C).mN;refine b6.pick H V (λ_ p=>p) (q.len:Int) λr i f0 f1 b7 f7=>?_;have A7:=A6.re f7 (S':=[f.size,d.size,m.size]++a) (by simp[ab]) (λh s=>⟨Or.inl s,b7.hS hS h s⟩) (ad _);obtain⟨g,C⟩:=ag (l:=F) (k:=r.toNat) V;obtain⟨ae,h,g0,g1,g2,g3,g4,aM,aO⟩:=A7.je V C;refine⟨f0,V,ae,g0,h,g1,_,g2,_,g3,g.2,g4,?_⟩;intro m8 m9;obtain⟨b9,-,-⟩:=b7.box (S:=a) (m1:=m8) (m2:=m9) rfl rfl rfl;obtain⟨x9,-,-⟩:=jz (M:=i) (d:=m8) (c:=m9) rfl rfl rfl;clear_value m9;have A9:tB ([i.size,f.size,d.size,m.size]++a) m m9 U q x.1 F:=A7.re (x9.fz []) E (λh s=>⟨by
  rcases List.mem_cons.1 s with e|e
  ·exact Or.inr V
  ·exact Or.inl e,b9.hS hS h s⟩) (ad _)
 have il:∀{n:I}{X:O}{ar:List bq×List cY}{Q:Nat},BS [i.size,f.size,d.size,m.size] b c m Q n->IT (bA ([i.size,f.size,d.size,m.size]++a) n) X q ar->Q<=P+10->PP IT Tr a b c m (P+10) (.agg #[O.v X,O.v q]) (aj n d.size 0 [.s X,.s q]):=λh v p=>h.il IT.mn h0 E v trivial p _;refine⟨λ_=>il b9 (A9.it V cl) V,λhn=>?_⟩;have hB:∀h∈[b],h∈[i.size,f.size,d.size,m.size]++a:=by simp[ab]
 have Z:∀{n o:I}{F:List (cY×O)},tB ([i.size,f.size,d.size,m.size]++a) m n U q x.1 F->Fz [b] n o->tB ([i.size,f.size,d.size,m.size]++a) m o U q x.1 F:=λp r=>p.re r hB (λh s=>⟨Or.inl s,aJ (p.lt h s) r.size⟩) (ad _);refine b9.pick H V (λ_ p=>p) 8 λaR L _ _ j av=>?_;have Y:=Z A9 av;have ay:Le (bA (q.F::([f.size,d.size,m.size]++a)) i) (bA (q.F::([i.size,f.size,d.size,m.size]++a)) L):=(x9.bA λh s=>by
  simp only[cR,dT,aS]at s⊢;rcases s with e|e|e
  ·exact Or.inl (Or.inl e)
  ·exact Or.inr V
  ·exact Or.inl (Or.inr e)).trans (av.cJ (by simp[ab]))
 have ha:=aM.le ay;have s:=aO.le ay;have aA:∀{n o:I},Fz [b] n o->Le (bA (q.F::([i.size,f.size,d.size,m.size]++a)) n) (bA (q.F::([i.size,f.size,d.size,m.size]++a)) o):=λr=>r.cJ (by simp[ab]);have K:=tB.mN ok (au C);have done:∀{n:I}{Q:Nat}{G:List Ce}{aF:cY},BS [i.size,f.size,d.size,m.size] b c m Q n->tB ([i.size,f.size,d.size,m.size]++a) m n U q x.1 F->jU (bA (q.F::([i.size,f.size,d.size,m.size]++a)) n) G aF->Q<=P+10->
  0<=r/\r<(q.len:Int)/\fm n q.F (q.off+r.toNat*5) 5/\(dV [i.size,f.size,d.size,m.size] n (aj n q.F (q.off+r.toNat*5) G)/\PP IT Tr a b c m (P+10) (.agg #[O.v U,O.v q]) (aj (aj n q.F (q.off+r.toNat*5) G) d.size 0 [.s U,.s q])):=λ{n Q G aF} h R hp hQ=>by
  obtain⟨aa,ps,tt⟩:=R.XH h.s.f V cl (k:=r.toNat) V hp
  have yq:=R.g.aY
  exact⟨f0,V,aa,λA W=>bh _ _ _ _ λe=>R.nq (by rw[<-e];exact bB _ W),il ⟨h.s.put h0 yq.1 _ _,λA W=>by rw[az];exact h.fq A W⟩ tt hQ⟩
 have w:∀{n o:I}{Q:Nat},BS [i.size,f.size,d.size,m.size] b c m Q n->Fz [b] n o->∀t,D o i.size t=D n i.size t:=λh r t=>kg r H (h.fq _ E) t;have G4:∀{n o:I}{Q:Nat},BS [i.size,f.size,d.size,m.size] b c m Q n->Fz [b] n o->∀t,D o f.size t=D n f.size t:=λh r t=>kg r H (h.fq _ E) t;have an:=Y.cE (au C) K.mN;have aw:=j.hS hS;have lq:∀A∈q.F::([i.size,f.size,d.size,m.size]++a),A<L.size:=λA W=>(List.mem_cons.1 W).elim (λe=>e▸Y.g.aY.2) (aw A);have kj:∀(ls:List Int){G:List Ce}{ah:Nat},G=ls.map Ce.i->ah=ls.length->0<ls.length/\ls.length<=100->∀{al:Int->I->Prop},(∀v o,BS [i.size,f.size,d.size,m.size] b c m (P+4) o->tB ([i.size,f.size,d.size,m.size]++a) m o U q x.1 F->Le (bA (q.F::([i.size,f.size,d.size,m.size]++a)) L) (bA (q.F::([i.size,f.size,d.size,m.size]++a)) o)->(∀t,D o i.size t=D (L.push (.cells (br G) aB)) i.size t)->(∀t,D o f.size t=D (L.push (.cells (br G) aB)) f.size t)->al v o)->
  aN bY 84 [vp b 0,O.v (.mk L.size 0 ah ah)] (L.push (.cells (br G) aB)) λai o=>dV [i.size,f.size,d.size,m.size] (L.push (.cells (br G) aB)) o/\∃v:Int,ai=vi v/\al v o:=λls{G ah} h1 h2 h3{al} hk=>by
  have x:=J.push L (.cells (br G) aB)
  have T:=j.to (x.fz _) (j.s.r.ext x)
  exact(xD j.s V ls h1 h2 h3).mono λ_ o⟨v,e,_,aU,r⟩=>⟨(T.lw H λ_ p=>p).da r,v,e,hk v o (T.to r aU.r) (Z Y ((x.fz _).trans r)) (aA ((x.fz _).trans r)) (w T r) (G4 T r)⟩
 refine⟨λ_=>?_,λ_=>⟨λ_=>?_,λ_=>⟨λ_=>?_,λ_=>⟨λ_=>?_,λ_=>?_⟩⟩⟩⟩
 ·refine(oU j.s.r V (s.le (bt _ _)) (by have:=K.cW;omega)).mono λ_ ac⟨X,N,e,am,aG,_,ak,u⟩=>⟨(j.lw H λ_ p=>p).da u,X,e,w j u _,w j u _,w j u _,w j u _,G4 j u _,?_⟩;exact done (aF:=⟨g.1.params,N,g.1.aR,g.1.av,g.1.cE⟩) (j.to u ak) (Z Y u) ⟨ae,X,g.2,rfl,ha.le (aA u),GI.done (GI.any am) lq (by have:=K.cW;show N.length<=_;omega),(Z Y u).cE (au C) K.mN⟩ V
 ·have x:=(J.push L (.cells (br [.i 0,.i 1,.i (cK (g.1.av+1)),.i 2001,.i (-1)]) aB)).fz [b];exact⟨w j x _,w j x _,w j x _,w j x _,G4 j x _,kj [0,1,cK (g.1.av+1),2001,-1] rfl rfl E λv o b' R le N e4=>⟨N _,N _,N _,N _,e4 _,done (aF:=⟨g.1.params,g.1.cW,g.1.aR,v,g.1.cE⟩) b' R ⟨ae,h,g.2,rfl,ha.le le,s.le le,R.cE (au C) K.mN⟩ V⟩⟩
 ·have x:=(J.push L (.cells (br [.i 0,.i 1,.i 9]) aB)).fz [b];have cl:=an.len;have cc:=an.cap;have c0:=K.gR;have cf:=K.mN;have ew:cK ((g.2.len:Int) -1)=((g.2.len -1:Nat):Int):=by rw[aP V V];omega
  rw[ew];refine⟨dZ 0,V,V,w j x _,w j x _,w j x _,w j x _,w j x _,G4 j x _,kj [0,1,9] rfl rfl E λv o b' R le N e4=>⟨N _,N _,N _,N _,N _,e4 _,done (aF:=⟨g.1.params,g.1.cW,v,g.1.av,g.1.cE.take (g.2.len -1)⟩) b' R ⟨ae,h,g.2.cut 0 (g.2.len -1) 6,rfl,ha.le le,s.le le,dW.RT (R.cE (au C) K.mN) V⟩ V⟩⟩
 ·refine(He aw (by simp[ab]) j.s.r V).mono λ_ ac⟨X,N,e,R,ak,u⟩=>⟨(j.lw H λ_ p=>p).da u,X,e,G4 j u _,?_⟩;exact il (ar:=(N,_)) (j.to u ak) ⟨R,((Z Y u).it V cl).2⟩ V
 ·have aX:=an.len;have aW:=K.gR;refine j.pick H V (λ_ p=>p) (g.2.len:Int) λaT ac j0 j1 T u=>?_;have N:=Z Y u;obtain⟨-,-,-,-,-,-,aI,-,-⟩:=N.je V C;have aH:=N.cE (au C) K.mN;obtain⟨ar,hz⟩:=ag (l:=g.1.cE) (k:=aT.toNat) V;obtain⟨a',jj,aK,hj,e0,e1,e2,e3,e4,e5⟩:=aH.u hz;have fq:∀{h t:Nat}{ai:Value},D (bA (q.F::([i.size,f.size,d.size,m.size]++a)) ac) h t=some ai->D ac h t=some ai:=λp=>(dP.1 p).2;refine⟨f0,V,g.2,aI,j0,V,_,fq e0,_,fq e1,_,fq e2,_,fq e3,_,fq e4,_,fq e5,?_⟩;have hZ:∀A∈q.F::(Ks F++([i.size,f.size,d.size,m.size]++a)),A<ac.size:=λA W=>by
   rcases List.mem_cons.1 W with e|e
   ·rw[e];exact N.g.aY.2
   ·rcases List.mem_append.1 e with e|e
    ·obtain⟨aa,hw,rfl⟩:=List.mem_map.1 e;exact(N.c aa hw).aY.2
    ·exact N.lt A e
  refine(DZ hZ T.s.r V (aK.le (bt _ _)) (hj.le (bt _ _)) (K.iQ ar (au hz))).mono λ_ aZ⟨z',a2,j2,e,aL,aQ,_,aV,R⟩=>⟨(T.lw H λ_ p=>p).da R,_,_,_,_,_,_,e,?_⟩;have ak:=Z N R;have am:=T.to R aV;obtain⟨aa,aG⟩:=ak.wr am.s.f C (ax hz) (cs:=[.i z'.op,.i z'.dst,.i z'.bL,.i z'.bV,.s a2,.s j2]) (y:=z') ⟨a2,j2,rfl,aL,aQ⟩;have yc:=(ak.c g (au C)).aY;have ny:=ak.nc g (au C);have yq:=N.g.aY;refine⟨kg R H yq _,G4 T R _,j0,V,aa,λh s=>bh _ _ _ _ λe=>ny (by rw[<-e];exact bB _ s),il ⟨am.s.put h0 yc.1 _ _,λA W=>by rw[az];exact am.fq A W⟩ (aG.it bK λaa hw=>?_) V⟩;rcases cx hw with e|e
  ·exact cl aa e
  ·rw[e];simpa using K.mN
def Hf(g:∀d∈a,d<m.size)(o:b∈a)(e:Rd b c P m)(T:P+2000+4*(300+40*Cg 18)<=10000000000000000):aN bY 47 [vp b 0] m (PP IT Tr a b c m (P+50+4*(300+40*Cg 18))):=by
 apply zJ (b,0);simp -zeta only[aE,aD];have f:=e.lt;intro i;have z1:i.size=m.size+1:=by simp[i]
 obtain⟨j,-⟩:BS [m.size] b c m P i/\True:=⟨(BS.kj (S:=a) e _).1,trivial⟩;clear_value i;refine j.call (S:=a) f (λ_ h=>h) (Fs (j.hS g) (by simp[o]) j.s.r V) λO Z x2 q t I u Q=>?_;intro D r;obtain⟨v,B,-⟩:=u.box (S:=a) (m1:=D) (m2:=r) rfl rfl rfl;clear_value r;have J:=IT.mn _ _ _ _ _ B I;have n:b∈[q.size,m.size]++a:=by simp[o]
 refine v.pick f V (λ_ h=>h) 4 λU W _ _ d z=>?_;have s:=IT.mn _ _ _ _ _ (BS.le o z) J;refine⟨λ_=>?_,λ_=>?_⟩
 ·refine d.call (S:=a) f (λ_ h=>h) (Fh (d.hS g) n d.s.r V s t) λx G x6 X L K w R=>?_;intro Y;obtain⟨k,C⟩:=w.put (S:=a) e (by simp:q.size∈_) [.s x,.s G];exact k.call (S:=a) f (λ_ h=>h) (sQ (k.hS g) n k.s.r V (IT.mn _ _ _ _ _ C K) L 14) λy H N F M p l A=>l.il IT.mn e E p trivial V _
 ·exact d.call (S:=a) f (λ_ h=>h) (sQ (d.hS g) n d.s.r V s t 14) λy H N F M p l A=>l.il IT.mn e E p trivial V _
end
end
end Go.Proofs.YtgnjacfobdjeeaaGreat
