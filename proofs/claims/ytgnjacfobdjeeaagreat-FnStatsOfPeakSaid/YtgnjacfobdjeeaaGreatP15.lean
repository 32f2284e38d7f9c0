/- Part of a proof, joined by a program. -/
import Derived.Test.YtgnjacfobdjeeaaGreatP12
import Derived.Test.YtgnjacfobdjeeaaGreatP13
import Derived.Test.YtgnjacfobdjeeaaGreatP14
set_option linter.unusedVariables false
set_option linter.unusedSimpArgs false
set_option linter.defProp false
set_option linter.constructorNameAsVariable false
set_option maxHeartbeats 8000000
set_option maxRecDepth 100000
namespace Go.Proofs.YtgnjacfobdjeeaaGreat
open Go.Vc
section
variable{b:List gB}
def J3{E:List bu}{i:cK}(cq:i.op=7\/i.op=8)(ih:∀c∈i.bD,U9 E b c):V3 E b i:=by
 intro C G F d s A cons first cl fl a5 bb aH aj j ar cx cH t ha hk
 apply tA (d,0);simp -zeta only[aC,aB];intro ax ac;obtain⟨x2,hl⟩:=dF (a:=ax) (c:=ac) rfl rfl;have s1:ax.size=F.size+1:=by simp[ax]
 have s2:ac.size=F.size+2:=by simp[ac,s1]
 clear_value ac;have cB:=j.em.box.lt;have cT:=j.em.gr.be;have cS:=cK.lO i;have cr:=ha.len;have cG:=hk.len;have cF:=pI i.bD;have cM:=ar.eO.jZ V;have cy:=j.cons.len;have cJ:=j.x.size;have cW:∀{f:J}{g:O},Fz [d,s.E] F f->(g.E=s.E\/F.size<=g.E)->Le (bM [s.E,d] F) (bM [g.E,d] f):=Pd;have st:∀{a4:List Nat}{f:J}{g:O}{L:List Instr},DT a4 G f d g L->Fz [d,s.E] F f->(g.E=s.E\/F.size<=g.E)->(∀o∈a4,o<f.size)->Qw a4 G f d g L cons first cl fl:=λw I e hS=>⟨w,j.em.fW j.x I,hS,j.cons.le (cW I e),j.first.le (cW I e),j.same,j.lI⟩
 have LL:∀{f:J}{g:O},ac.size<=f.size->(g.E=s.E\/ac.size<=g.E)->∀c∈[ax.size,F.size],c<f.size/\c≠d/\c≠g.E:=λhz e c a7=>by simp at a7;omega
 have fr:∀{f r:J}{g:O},Fz [d,s.E] F f->(g.E=s.E\/ac.size<=g.E)->Fz [d,g.E] f r->Fz [d,s.E] F r:=λI e aa=>I.rf aa λB p=>by simp at p⊢;omega
 have fW:∀{f:J},F.size<=f.size->∀o∈C,o<f.size:=λh o hc=>by have:=j.fW o hc;omega
 have aG:∀{y:Nat}{c:Bk}{f:J},i.bD[y]? =some c->N G f->∃K,eD G K c.ar/\af f aj.E (aj.off+y*2)=some (O.v K)/\af f aj.E (aj.off+y*2+1)=some (vi c.aV):=λe bf=>let⟨K,h1,h2,h3⟩:=hk.D e;⟨K,h1,bf.af h2,bf.af h3⟩;refine⟨λh7=>?_,λh7=>?_⟩
 ·simp only[aE]at h7;have aQ:=ar.eO.IK h7;obtain⟨D,Q⟩:=ag (l:=i.bD) (k:=0) V;obtain⟨b1,T⟩:=ag (l:=i.bD) (k:=1) V;have bT:bw i.bD=D.w+b1.w:=by
   obtain⟨u,z,m⟩:∃u z,i.bD=[u,z]:=by
    match i.bD,aQ with
    |[u,z],_=>exact⟨u,z,rfl⟩
   rw[m]at Q T⊢;simp at Q T;subst Q T;simp[bw]
  have w0:=D.Fu;have w1:=b1.Fu;have ab:∀y,AG E i.op i.bL y=0:=λy=>Jc V;have E2:=j.ext x2;refine(bN (s.E::d::C) (ha.ext E2.x) V).mono λz P⟨a',la,m,ga,ea,x3⟩=>⟨x3.dv hl,a',m,?_⟩;subst ea;have z3:=x3.size;have aR:∀o∈s.E::d::C,o<ac.size:=bP (bP (fW (f:=ac) V) V V) (ad _) V;refine(pT (x:=⟨20,0,0,0,i.args,[]⟩) (E2.em.ext x3) (E2.x.trans x3).size (GI.done ga aR (by show i.args.length<=_;omega)) (sI _) V).mono λz m4⟨ev,s4,l4,ap,p4,f4,b4⟩=>⟨Nx.dv f4 (LL z3 (Or.inl rfl)),_,ev,?_⟩;subst p4;have z4:=f4.size;have F4:Fz [d,s.E] F m4:=((x2.trans x3).fz _).trans f4;have w4:CH (λ_=>False) A (A++[⟨20,0,0,0,i.args,[]⟩]) 1:=(my.jZ ⟨λh=>by simp at h,λh=>by simp at h⟩ ⟨by show i.args.length<=_;omega,aJ⟩).w;obtain⟨t0,aS,g0,g1⟩:=aG Q (j.em.fW j.x F4);refine⟨bh,V,_,g0,_,g1,?_⟩;have ae:=ar.bD 0 D Q;rw[ab]at ae;have aX:=w4.len;refine(ih D (av Q) C G m4 d s4 _ cons first cl fl a5 bb t0 (st ap F4 V (fW V)) (by simpa using ae) V V t aS).mono λz v⟨s5,l5,a6,p5,f5,b5⟩=>⟨Nx.dv f5 (LL V V),?_⟩;have F5:=fr F4 V f5;have z5:=f5.size;have w5:=w4.then p5;have X5:=j.em.fW j.x F5;obtain⟨_,-,-,g5⟩:=aG Q X5;refine⟨bh,V,_,g5,?_⟩;have aY:=w5.len;refine Gh a6 X5 (fW V) V (LL V V) λs6 R m6 aw e6 f6 b6=>?_;have F6:=fr F5 V f6;have z6:=f6.size;have w6:CH (λ_=>False) A R (1+6*(D.w -1)+1):=e6▸w5.then Py;have a0:=w6.len;have a9:R.length=l5.length+1:=by rw[e6];simp
  have X6:=j.em.fW j.x F6;refine RQ aw X6 V (LL V V) λs7 l7 m7 az e7 f7 aW=>?_;have F7:=fr F6 V f7;have z7:=f7.size;have w7:CH (λq=>q=R.length) A l7 (1+6*(D.w -1)+1+1):=e7▸(w6.imp (λ_ h=>h.elim) (ad _)).KQ rfl;have a_:l7.length=R.length+1:=by rw[e7];simp
  obtain⟨H,am⟩:=ag (l:=l7) (k:=A.length) V;refine Rm az (j.em.fW j.x F7) am (LL V V) λs8 l8 W aF e8 f8 b8=>?_;have w8:CH (λq=>q=R.length) A l8 (1+6*(D.w -1)+1+1):=e8▸(w7.Ye (ad _) am).imp (λ_ h=>h.1) (ad _);have ba:l8.length=l7.length:=by rw[e8];simp
  have U:=fr F7 V f8;have z8:=f8.size;obtain⟨t1,aV,k0,k1⟩:=aG T (j.em.fW j.x U);refine⟨bh,V,_,k0,_,k1,?_⟩;have ah:=ar.bD 1 b1 T;rw[ab]at ah;have a8:=w8.len;refine(ih b1 (av T) C G W d s8 l8 cons first cl fl a5 bb t1 (st aF U V (fW V)) (by simpa using ah) V V t aV).mono λz m9⟨s9,l9,aM,p9,Y,b9⟩=>⟨Nx.dv Y (LL V V),?_⟩;have F9:=fr U V Y;have z9:=Y.size;have w9:=w8.then p9;have X9:=j.em.fW j.x F9;obtain⟨_,-,-,g9⟩:=aG T X9;refine⟨bh,V,_,g9,?_⟩;have bZ:=w9.len;have bc:l8.length<=l9.length:=by obtain⟨nw,m,-⟩:=p9;rw[m];simp
  refine Gh aM X9 (fW V) V (LL V V) λbs Z bd an aK aD bC=>?_;have aO:CH (λq=>q=R.length) A Z (1+6*(D.w -1)+1+1+6*(b1.w -1)+1):=aK▸w9.then Py;have aA:=fr F9 V aD;have yz:=aD.size;have b7:Z.length=l9.length+1:=by rw[aK];simp
  obtain⟨bg,al⟩:=ag (l:=Z) (k:=R.length) V;refine Rm an (j.em.fW j.x aA) al (LL V V) λaZ aN be ao aT aL bD=>?_;exact⟨aZ,aN,ao,aT▸(aO.Ye V al).Wr (λq h=>h.2 h.1) V,fr aA V aL,V⟩
 ·simp only[ak]at h7;have h8:i.op=8:=V;obtain⟨cE,cD⟩:=ar.eO.all h8;obtain⟨B,bo⟩:=ag (l:=i.args) (k:=0) V;obtain⟨y0,y1⟩:=ar.eO.args B (av bo);obtain⟨yn,rfl⟩:∃b_:Nat,B=b_:=⟨B.toNat,V⟩;have E2:=j.ext x2;refine⟨bh,V,yn,(ha.ext E2.x).D bo,?_⟩;have b8:∀o∈[s.E,d],o<ac.size:=λo hc=>by simp at hc;omega
  refine(gN (e:=[s.E,d]) b8 (t.aT.le E2.x.le) t.types i.bL).mono λz P⟨aS,cj,ec,hc,qc,x3⟩=>⟨x3.dv hl,aS,ec,?_⟩;subst qc;have cA:=hc.len;have z3:=x3.size;intro m4;refine Gh (E2.em.ext x3) (E2.x.trans x3) (fW V) V (LL z3 (Or.inl rfl)) λs5 l5 v a6 e5 f5 b5=>?_;have z5:=f5.size;have w5:CH (λ_=>False) A l5 1:=e5▸(my.jZ ⟨λh=>by simp at h,λh=>by simp at h⟩ ⟨aJ,aJ⟩).w;have cZ:l5.length=A.length+1:=by rw[e5];simp
  intro m6 m7;have x6:N v m6:=N.push _ _;have x7:N m6 m7:=N.push _ _;have s6:m6.size=v.size+1:=by simp[m6]
  have s7:m7.size=m6.size+1:=by simp[m7]
  have bO:GI [] v m7 (.mk v.size 0 0 0) []:=(GI.nil [] v).ext x7;have bK:GI [] v m7 (.mk m6.size 0 0 0) []:=GI.ct (GI.nil [] m6) (λ_ h=>h) x6.size;clear_value m7 m6;have bg:=x6.trans x7;have aF:∀{f r:J}{g:O},Fz [d,s.E] P f->(g.E=s.E\/P.size<=g.E)->Fz [d,g.E] f r->Fz [d,s.E] P r:=λI e aa=>I.rf aa λB p=>by simp at p⊢;omega
  have F0:Fz [d,s.E] F P:=(x2.trans x3).fz _;have bi:∀{f:J}{g:O}{y:Nat}{o:Int},Fz [d,s.E] P f->(g.E=s.E\/P.size<=g.E)->(cg E i.bL)[y]? =some o->af f aS.E (aS.off+y*1)=some (vi o):=λ{f g y o} I e h=>(dV.1 ((hc.le (oT (c:=[g.E,d]) (a:=f) λc a7 t=>by
   simp at t;exact⟨by simp;rcases e with m|m<;>omega,I.same c a7 bR⟩)).D h)).2
  have bv:∀{f:J},v.size<=f.size->Fz (List.range v.size) v f:=λh=>⟨h,λc e t=>absurd (List.mem_range.2 e) t⟩;have al:∀{f r:J}{u:O}{ul:List Int}{aR:List Nat},GI [] v f u ul->Fz aR f r->u.E∉aR->GI [] v r u ul:=λ{f r u ul aR} aa I h=>GI.any ((GI.any (g:=aR) aa).Ly tq.mono I (λ_ h=>h) h);have o7:DT (v.size::m6.size::C) G m7 d s5 l5:=a6.re (bg.fz []) aJ λc e=>by
   simp only[aU]at e;rcases e with m|m|m
   ·exact Or.inr V
   ·exact Or.inr V
   ·exact Or.inl m
  refine wi (n:=(cg E i.bL).length) V (λaj K en f=>∃g L tl D,DT (K.E::en.E::C) G f d g L/\CH (λq=>(q:Int)∈D) A L (1+6*bw (i.bD.take aj))/\GI [] v f K tl/\tl.length=aj/\GI [] v f en D/\D.length<=aj/\(∀B∈D,∃q:Nat,B=q/\A.length<q/\q<L.length)/\K.E≠en.E/\Fz [d,s.E] P f/\(g.E=s.E\/P.size<=g.E)/\m7.size<=f.size/\A.length<L.length)
   ⟨s5,l5,[],[],o7,w5.imp (λ_ h=>h.elim) aJ,bO,rfl,bK,ad _,aJ,by show v.size≠m6.size;omega,f5.then bg,V,ad _,V⟩ ?_
  rintro U K en f cf μ hj ⟨g,L,tl,D,w,bd,gt,cO,ge,cC,a9,cL,I,e,zM,cI⟩ bp
  have bz:=F0.trans I;have XM:=j.em.fW j.x bz;have ty:=gt.be;have ey:=ge.be;have t1:K.E≠d:=gt.ne w.box bh;have t2:K.E≠g.E:=gt.JJ w.gr bh;have n1:en.E≠d:=ge.ne w.box bh;have n2:en.E≠g.E:=ge.JJ w.gr bh;have cN:=w.gr.len bh;have cR:=bd.len;have bT:=Je i.bD U;have oy:=w.gr.be;have c2:=w.box.lt;refine dit (λh=>?_) λh=>?_
  ·obtain⟨o,a8⟩:=ag (l:=cg E i.bL) (k:=U) V;obtain⟨c,aM⟩:=ag (l:=i.bD) (k:=U) V;have cv:=tL aM;have cw:=Je i.bD (U+1);have cu:=c.Fu;have bm:AG E i.op i.bL U=(cz E o).length:=Jb h8 a8;have ct:=O8 t.types i.op i.bL U;refine⟨g,w.box.bV 0,?_⟩;intro W;refine GI.jY gt (bv V) aJ V λt' M1 aV cm z1 q1=>?_;have fa:Fz [K.E] f M1:=⟨z1.1,λc e t=>q1 c e (by simpa using t)⟩;refine⟨λc e=>by
    simp at e;rw[q1 c V V,(N.push f _).same c V],?_⟩
   have f1:Fz [d,s.E] P M1:=I.rf fa λB p=>by simp at p⊢;omega
   have bJ:=al ge fa bR;have o1:DT (t'.E::en.E::C) G M1 d g L:=w.re fa (by simp;exact⟨t1,t2⟩) λc e=>by
    rcases List.mem_cons.1 e with m|m
    ·rcases z1.2 with e'|e'
     ·exact Or.inl (by rw[m,e'];simp)
     ·exact Or.inr V
    ·exact Or.inl (ai _ m)
   have cd:=aV.be;refine⟨V,V,o,bi f1 e a8,?_⟩;have X1:=j.em.fW j.x (F0.trans f1);refine(dC (e:=[]) aJ (t.aT.le (X1.le.trans (zc _))) t.types o).mono λz M2⟨ff,cp,ef,hf,qf,aQ⟩=>⟨aQ.dv λc e=>by simp at e;omega,ff,ef,?_⟩;subst qf;have bV:=hf.len;have z2:=aQ.size;have f2:=f1.then aQ;refine fB (n:=(cz E o).length) V (λy r=>∃az aw,DT (t'.E::en.E::C) G r d az aw/\CH (λq=>(q:Int)∈D) A aw (1+6*bw (i.bD.take U)+y)/\Fz [d,g.E] M2 r/\(az.E=g.E\/M2.size<=az.E)/\L.length<=aw.length) ⟨g,L,o1.ext aQ,bd,Fz.az _ _,Or.inl rfl,ad _⟩ ?_;rintro y M3 I3 μ3 hi ⟨ae,l3,o3,w3,f3,b3,cV⟩ ca;have c5:=f3.size;have F3:=aF f2 e f3;have aW:ae.E=s.E\/P.size<=ae.E:=V;have cQ:=w3.len;have X3:=j.em.fW j.x (F0.trans F3);have LM:∀{r:J}{u:O},M3.size<=r.size->(u.E=s.E\/P.size<=u.E)->∀c∈[ax.size,F.size],c<r.size/\c≠d/\c≠u.E:=λhz e=>LL V V;have aX:∀{r:J},M3.size<=r.size->∀o∈t'.E::en.E::C,o<r.size:=λh=>bP (bP (fW (f:=M3) V) (ad _) V) h V;refine⟨λa_=>?_,λa_=>?_⟩
   ·simp only[au]at a_;intro m9;refine Gh o3 X3 (aX (ad _)) V (LM (ad _) aW) λs4 l4 M4 o4 e4 f4 b4=>ca V _ ⟨s4,l4,o4,?_,f3.rf f4 λB p=>by simp at p⊢;omega,V,by rw[e4];simp;omega⟩;rw[e4];exact w3.then (my.jZ ⟨λh=>by simp at h,λh=>by simp at h⟩ ⟨aJ,aJ⟩)
   simp only[bU]at a_;have ba:y=(cz E o).length:=V;subst ba;have y3:=o3.gr.be;have ch:=o3.box.lt;have ab:∀{r:J},M3.size<=r.size->∀o∈[ae.E,d],o<r.size:=λh o hc=>by simp at hc;omega
   rw[bV];refine(lE (S:=[ae.E,d]) (ab (ad _)) 0 (cz E o).length V).mono λz M4⟨s4,l4,e4,g4,q4,x4⟩=>⟨x4.dv λc e=>by simp at e;omega,s4,e4,?_⟩;have z4:=x4.size;have h4:=GI.done g4 (ab (ad _)) V;obtain⟨tk,bY,k0,k1⟩:=aG aM (X3.trans x4);have F4:=F3.then x4;have T:∀{u z:J},N M4 u->N u z->∀w,af z ax.size w=af u ax.size w/\af z F.size w=af u F.size w:=λaH c w=>⟨gl c (by have:=aH.size;omega) w,gl c (by have:=aH.size;omega) w⟩;refine⟨V,V,tk,k0,_,k1,V,V,o,bi F4 aW a8,?_⟩;have S4:=st o3 (F0.trans F3) V (aX (ad _));have ci:=S4.cons.len;have co:=S4.first.len;have c3:=S4.same;refine(ub (S:=[ae.E,d]) (ab z4) (S4.cons.le (x4.cW _)) V (a:=yn) V o).mono λz M5⟨s5,cY,e5,g5,q5,Q⟩=>⟨Q.dv λc e=>by simp at e;omega,s5,e5,gx Q k0,gx Q k1,(T (N.az _) Q _).1,(T (N.az _) Q _).2,(T (N.az _) Q _).2,?_⟩;have z5:=Q.size;have h5:=GI.done g5 (ab z4) (by rw[<-q5];simp;omega);refine(eB (S:=[ae.E,d]) (ab V) h5 (h4.le (Q.cW _)) (by rw[<-q5];simp;omega)).mono λz M6⟨bc,R,e6,g6,q6,am⟩=>⟨am.dv λc e=>by simp at e;omega,bc,e6,gx am (Q.af k0),gx am (Q.af k1),(T Q am _).1,(T Q am _).2,(T Q am _).2,?_⟩;have z6:=am.size;have ao:=Q.trans am;have h6:=GI.done g6 (ab V) (by rw[<-q6,<-q5];simp;omega);refine(ub (S:=[ae.E,d]) (ab V) (S4.first.le ((x4.trans ao).cW _)) V (a:=yn) V cons.len).mono λz M7⟨cb,l7,e7,g7,q7,ah⟩=>⟨ah.dv λc e=>by simp at e;omega,cb,e7,gx ah (ao.af k0),gx ah (ao.af k1),(T ao ah _).1,(T ao ah _).2,(T ao ah _).2,?_⟩;have z7:=ah.size;have ap:=ao.trans ah;have bQ:=GI.done g7 (ab V) (by rw[<-q7];simp;omega);refine(eB (S:=[ae.E,d]) (ab V) bQ (h4.le (ap.cW _)) (by rw[<-q7];simp;omega)).mono λz M8⟨s8,l8,e8,g8,q8,H⟩=>⟨H.dv λc e=>by simp at e;omega,s8,e8,gx H (ap.af k0),gx H (ap.af k1),(T ap H _).1,(T ap H _).2,(T ap H _).2,?_⟩;have z8:=H.size;have bS:=GI.done g8 (ab V) (by rw[<-q8,<-q7];simp;omega);have an:=(x4.trans ap).trans H;have bn:R.length=cl.length+AG E i.op i.bL U:=by rw[<-q6,<-q5,bm];simp;omega
   have bW:l8.length=R.length:=by rw[<-q8,<-q7,bn,bm];simp;omega
   have ES:Qw (t'.E::en.E::C) G M8 d ae l3 bc s8 R l8:=⟨o3.ext an,X3.trans an,aX an.size,h6.le ((ah.trans H).cW _),bS,bW,λB p=>by
    rw[<-q8]at p;rcases List.mem_append.1 p with p|p
    ·rw[<-q7]at p;rcases dE p with p|p
     ·exact j.lI B p
     ·omega
    ·have:=q4.1 B p;omega⟩
   have b0:WB E b.length True R.length c:=by rw[bn];exact ar.bD U c aM
   refine(ih c (av aM) _ G M8 d ae l3 bc s8 R l8 a5 bb tk ES b0 V V t bY).mono λz M9⟨s9,l9,o9,p9,Y,b9⟩=>⟨Nx.dv Y (LM (by have:=an.size;omega) aW),?_⟩;have z9:=Y.size;have c6:=an.size;have F9:=aF (F3.then an) aW Y;have X9:=j.em.fW j.x (F0.trans F9);have w9:=w3.then p9;have bZ:=w9.len;have cX:l3.length<=l9.length:=by obtain⟨nw,m,-⟩:=p9;rw[m];simp
   obtain⟨_,-,-,g9⟩:=aG aM X9;refine⟨V,V,_,g9,?_⟩;refine Gh o9 X9 (aX V) V (LM V V) λbs Z be aY aK aD bC=>?_;have yz:=aD.size;have aA:=aF F9 V aD;have aO:CH (λq=>(q:Int)∈D) A Z (1+6*bw (i.bD.take U)+(cz E o).length+6*(c.w -1)+1):=aK▸w9.then Py;have b7:Z.length=l9.length+1:=by rw[aK];simp
   have cP:=aO.len;have kI:∀{u:O}{ul:List Int},GI [] v M1 u ul->u.E≠d->u.E≠g.E->u.E<M1.size->GI [] v be u ul:=λ{u ul} aa a1 a2 a3=>by
    have g2:=aa.ext aQ;have g3:=al g2 f3 (by simp;exact⟨a1,a2⟩);have bF:=g3.ext an;have bH:=al bF Y (by simp;exact⟨a1,by rcases b3 with m|m<;>omega⟩);exact al bH aD (by simp;exact⟨a1,by rcases b9 with m|m<;>omega⟩)
   have bt:t'.E≠d:=aV.ne o1.box bh;have cc:t'.E≠g.E:=aV.JJ o1.gr bh;have bl:=kI aV bt cc cd.2;have bj:=kI bJ n1 n2 V;rw[aP (b:=(aS.len:Int) -1) V V];refine⟨λbX=>?_,λbX=>bp V _ _ _ ⟨bs,Z,tl++[(g.len:Int)],D,aY,aO.imp (λ_ h=>h) V,bl,bR,bj,V,λB p=>by obtain⟨q,m,h1,h2⟩:=a9 B p;exact⟨q,m,h1,V⟩,V,aA,V,V,V⟩⟩;have c1:=aY.gr.be;refine RQ aY (j.em.fW j.x (F0.trans aA)) V (LM V V) λaZ aN a0 bq aT aL bD=>?_;have c4:=aL.size;have bA:=aF aA V aL;have ce:CH (λq=>(q:Int)∈D++[(Z.length:Int)]) A aN (1+6*bw (i.bD.take U)+(cz E o).length+6*(c.w -1)+1+1):=aT▸(aO.imp (λq h=>List.mem_append.2 (Or.inl h)) (ad _)).KQ aJ;have cU:aN.length=Z.length+1:=by rw[aT];simp
   have nx:∀{u:O}{ul:List Int},GI [] v be u ul->u.E≠d->GI [] v a0 u ul:=λaa aH=>al aa aL (by simp;exact⟨aH,aa.JJ aY.gr bh⟩);have bL:=nx bl bt;have bk:=nx bj n1;intro c0;refine GI.jY bk (bv V) aJ V λck bB bI cn bx br=>?_;have fb:Fz [en.E] a0 bB:=⟨bx.1,λc e t=>br c e (by simpa using t)⟩;have bE:en.E≠aZ.E:=bk.JJ bq.gr bh;refine⟨λc e=>by
    simp at e;rw[br c V V,(N.push a0 _).same c V],bp V _ _ _ ⟨aZ,aN,tl++[(g.len:Int)],D++[(Z.length:Int)],?_,ce.imp (λ_ h=>h) V,al bL fb bR,bR,bI,bR,λB p=>?_,V,bA.rf fb λB p=>by simp at p⊢;omega,V,V,V⟩⟩
   ·exact bq.re fb (by simp;exact⟨n1,bE⟩) λc e=>by
     simp only[aU]at e⊢;rcases e with m|m|m
     ·exact Or.inl (Or.inl m)
     ·rcases bx.2 with e'|e'
      ·exact Or.inl (Or.inr (Or.inl V))
      ·exact Or.inr V
     ·exact Or.inl (Or.inr (Or.inr m))
   ·rcases List.mem_append.1 p with p|p
    ·obtain⟨q,m,h1,h2⟩:=a9 B p;exact⟨q,m,h1,V⟩
    ·simp at p;exact⟨Z.length,p,V,V⟩
  ·have am:U=(cg E i.bL).length:=V;subst am;refine⟨g,w.box.bV 0,?_⟩;intro W;have H:N f W:=N.push _ _;have ap:aq (bM (g.E::d::C) W) (.mk f.size 0 1 1) [(yn:Int)]:=aq.lit aI _ (bP (bP (fW (f:=f) V) (ad _) V) (ad _) V) rfl rfl aJ;have s8:W.size=f.size+1:=by simp[W]
   clear_value W;refine⟨gl H V _,gl H V _,V,V,?_⟩;have Q:DT C G W d g L:=(w.ext H).re (Fz.az [] _) aJ λc e=>Or.inl (ai _ (ai _ e));have aA:K.E∉g.E::d::C:=by
    simp only[aU,tn];exact⟨t2,t1,λh=>by have:=fW (f:=F) (ad _) _ h;omega⟩
   have ao:aq (bM (g.E::d::C) W) K tl:=(GI.any (g:=g.E::d::C) (gt.ext H)).ns tq.mono aA bh V;obtain⟨wr,gs,-,Z⟩:=Q.gr.set dG.mono (X:=List.range G.size) ⟨V,λc e t=>absurd (List.mem_range.2 e) t⟩ (k:=A.length) V (a:=⟨21,0,i.bL,0,[(yn:Int)],tl⟩) (cs:=[.i 21,.i 0,.i i.bL,.i 0,.s (.mk f.size 0 1 1),.s K]) ⟨_,_,rfl,ap,ao⟩;refine⟨wr,?_⟩;intro m9;have s9:m9.size=W.size:=ay _ _ _ _;have o9:DT C G m9 d g (L.set A.length ⟨21,0,i.bL,0,[(yn:Int)],tl⟩):=⟨Q.box.congr (Z d (km Q.ne)),gs,Q.up⟩;have Y:Fz [d,g.E] f m9:=⟨V,λc e t=>by
    simp at t;have e1:m9[c]? =W[c]? :=Z c t.2;rw[e1,H.same c e]⟩
   have w9:=(bd.set (x:=⟨21,0,i.bL,0,[(yn:Int)],tl⟩) (k:=A.length) (ad _) ⟨λh=>by simp at h,λh=>by simp at h⟩ ⟨aJ,by show tl.length<=_;omega⟩).imp (c:=λq=>(q:Int)∈D) (λ_ h=>h.1) (ad _);refine⟨λc e=>Z c (by simp at e;omega),?_⟩;have aD:=ge.len bh;refine fB (n:=D.length) V (λy r=>∃az aw,DT C G r d az aw/\CH (λq=>(q:Int)∈D.drop y) A aw (1+6*bw (i.bD.take (cg E i.bL).length))/\aw.length=L.length/\GI [] v r en D/\Fz [d,s.E] P r/\(az.E=s.E\/P.size<=az.E)/\m7.size<=r.size) ⟨g,_,o9,by simpa using w9,aJ,al ge Y (by simp;exact⟨n1,n2⟩),aF I e Y,e,V⟩ ?_;rintro y r I2 μ2 hi ⟨az,l2,o2,w2,an,R,f2,b2,z2⟩ aw;refine dit (λh=>?_) λh=>?_
   ·obtain⟨B,T⟩:=ag (l:=D) (k:=y) V;obtain⟨q,rfl,aK,aL⟩:=a9 B (av T);have ah:aq (bM [] r) en D:=(GI.any (g:=[]) R).ns tq.mono aJ bh V;have ae:=ah.le (bG _ _);obtain⟨xq,ab⟩:=ag (l:=l2) (k:=q) V;refine⟨V,V,q,ae.D T,?_⟩;refine Rm o2 (j.em.fW j.x (F0.trans f2)) ab (LL V V) λs4 l4 M4 o4 e4 f4 b4=>aw V _ ⟨s4,l4,o4,?_,by rw[e4];simp;exact an,al R f4 (by simp;exact⟨n1,R.JJ o2.gr bh⟩),aF f2 b2 f4,by have:=f2.size;omega,by have:=f4.size;omega⟩;rw[e4];refine(w2.Ye V ab).imp (λq' h=>?_) (ad _);obtain⟨h1,h2⟩:=h;rw[Ci V]at h1;rcases List.mem_cons.1 h1 with m|m
    ·have:D[y]=(q:Int):=by have:=List.getElem?_eq_some_iff.1 T;exact this.2
     rw[this]at m;exact absurd V h2
    ·exact m
   ·have ba:y=D.length:=V;subst ba;rw[List.drop_length]at w2;exact⟨az,l2,o2,w2.Wr aJ V,F0.trans f2,V⟩
def J9{c:List bu}:∀a:Bk,U9 c b a:=Bk.ind λar r f=>J8 λx e h=>J3 h λa d=>f x e a d
end
def my.cJ{l:List Instr}{n:Nat}(h:my [] l n):Qv l/\O3 l/\l.length<=n:=by
 obtain⟨e,rfl,b,c,d⟩:=h;exact⟨λk x a=>by have:=b k x a;simpa using this,c,d⟩
def Kc{e:List Nat}{t:J}(hS:∀f∈e,f<t.size){D aj:O}{ds:List bu}{rs:List gB}(T:eg t D aj ds rs){an:Nat}(aA:xH ds rs True an)(hW:an<=120000000000):O1 133 [.agg #[O.v D,O.v aj]] t e ds CJ:=by
 apply Di;simp -zeta only[aC,aB];have ht:=T.types;have hp:=T.ir;intro b a2;obtain⟨x2,hl⟩:=dF (a:=b) (c:=a2) rfl rfl;have s1:b.size=t.size+1:=by simp[b]
 clear_value a2;have aZ:=hp.len;have bq:=T.nR;have bp:=aA.iu;refine(fG (b:=b.size::e) (bP hS x2.size (hl _ aJ)) (T.aT.le x2.le) ht).mono λ_ ae⟨dd,g,aX,x3⟩=>?_;subst g;refine⟨x3.dv hl,_,rfl,?_⟩;intro j a5 aH;have u2:=x2.trans x3;obtain⟨x5,B0,g0,s3,s5⟩:=ka (b:=j.size::b.size::e) kJ.mono (d:=ae) (a:=j) (c:=a5) (h:=aH) rfl rfl rfl;clear_value aH;have az:∀f∈[b.size,t.size],f<ae.size:=λf p=>x3.lt (hl f p);have ax:∀f∈b.size::e,f<ae.size:=λf p=>x3.lt (bP hS x2.size (hl _ aJ) f p);refine jW (R:=λh o w=>∃D c d,Value.agg #[O.v h,O.v o]=.agg #[O.v D,O.v c]/\cr (bM e w) D ds/\iP (bM e w) c d/\CJ d/\N t w) (r:=rs.length) (f:=t) (b:=e) kJ.mono bh bh hS ⟨V,az _ aJ⟩ u2 s3 aX aZ V x5 B0 g0 (λ_ q=>Rg q) (λc r' aE m' d h v o r=>⟨c,r',aE,rfl,d,h,⟨V,V,λq hq=>by obtain⟨u,s⟩:=List.mem_iff_getElem?.1 hq;exact o u q s⟩,r⟩) λaD w r aE bi μ aY bn xM au al a8=>?_
 obtain⟨q,hq⟩:=ag (l:=rs) (k:=aD) aY;obtain⟨q3,bd,be,qw⟩:=aA.dz q (av hq);have H:=u2.trans xM;obtain⟨cs,⟨bj,o,bf,rfl,c1,c2,c3⟩,U⟩:=hp.iv aD q hq;have aR:=c1.len;have qp:=q.body.Fu;refine⟨V,V,_,H.af (U 0 _ rfl),_,H.af (U 1 _ rfl),_,H.af (U 2 _ rfl),_,H.af (U 3 _ rfl),_,H.af (U 4 _ rfl),?_⟩;intro m7 c;have hy:=au.be;have bl:=al.lt;have zM:=xM.size;obtain⟨x8,-,s8⟩:=jN (M:=w) (d:=m7) (c:=c) rfl rfl rfl;clear_value c;have bo:=u2.size;have w8:=H.trans x8;have Q:∀{K:J},c.size<=K.size->∀f∈r.E::j.size::b.size::e,f<K.size:=λh f p=>by
  simp only[aU]at p;rcases p with g|g|g|g
  ·omega
  ·omega
  ·have:=ax f (by simp[g]);omega
  ·have:=ax f (by simp[g]);omega
 have bm:b.size<ae.size:=az _ aJ;intro d u;have x9:N c d:=N.push _ _;have s9:d.size=c.size+1:=by simp[d]
 have aM:N d u:=N.push _ _;have bx:u.size=d.size+1:=by simp[u]
 have g9:TL (d.size::r.E::j.size::b.size::e) c d (.mk c.size 0 0 0) []:=Gr.new _ (ad _) _ _ _;have aO:cx u d.size nK [.s (.mk c.size 0 0 0)]:=cx.push _ _ _;have aS:DT (r.E::j.size::b.size::e) c u d.size (.mk c.size 0 0 0) []:=⟨aO,g9.ext dG.mono aM,V⟩;clear_value u d;have ao:=x9.trans aM;have aF:∀f∈[c.size,d.size],f<u.size:=λf p=>by simp at p;omega
 have LL:∀{K:J}{s':O},u.size<=K.size->(s'.E=c.size\/u.size<=s'.E)->∀o∈[w.size,b.size,t.size],o<K.size/\o≠d.size/\o≠s'.E:=λhz B o aV=>by simp at aV;omega
 rw[aR];refine(lE (S:=[c.size,d.size]) aF 0 q.params.length V).mono λ_ aG⟨X,ac,g,aT,aL,Y⟩=>⟨Y.dv λo B=>by simp at B;omega,X,g,?_⟩;have aw:=GI.done aT aF V;have bg:=Y.size;have aP:Qw (r.E::j.size::b.size::e) c aG d.size (.mk c.size 0 0 0) [] X X ac ac:=⟨aS.ext Y,ao.trans Y,Q V,aw,aw,rfl,λy hy=>by have:=aL.1 y hy;omega⟩;refine(J9 q.body _ c aG d.size _ [] X X ac ac D aj bf aP (by rw[aL.2];exact be) V bR (T.le w8.le) (eD.le w8.le c3)).mono λbA a1⟨bz,br,ah,aK,ab,aQ⟩=>⟨Nx.dv ab (LL bg (Or.inl rfl)),?_⟩;have bD:=ab.size;simp only[O.jH]at aQ ab;have ap:N c a1:=Fz.ext ((((ao.trans Y).fz [d.size,c.size]).trans ab).CD λo B=>Or.inr (by simp at B;omega));have ba:=aK.len;intro bs;refine Gh ah ap (Q V) (by simp at ba;omega) (LL V V) λC F y P aq ar bk=>?_;have bE:=ar.size;have bB:=ah.gr.be;have Z:N c y:=ah.fW ap ar;have bb:my [] F (6*q.body.w):=aq▸(aK.trans (my.jZ (x:=⟨23,0,0,0,[q.body.aV],[]⟩) ⟨λh=>by simp at h,λ_=>aJ⟩ aJ)).eQ V;obtain⟨a9,a_,bw⟩:=bb.cJ;have a0:0<F.length:=by rw[aq];simp
 have am:=al.ext (x8.trans Z);refine⟨r,am.bV 1,C,P.box.bV 0,C,P.box.bV 0,?_⟩;have bC:=P.gr.be;have a7:=P.ne;have a6:C.E∉d.size::r.E::j.size::b.size::e:=by
  simp only[aU,tn];have p:=λh:C.E∈r.E::j.size::b.size::e=>Q (K:=c) (ad _) _ h;refine⟨a7,λh=>?_,λh=>?_,λh=>?_,λh=>?_⟩<;>have:=p (by simp[h])<;>omega
 have ay:eS (bM (d.size::r.E::j.size::b.size::e) y) C F:=P.gr.ns dG.mono a6 bh V;have G:∀{A L:J}{o aI:Nat},y.size<=A.size->N A L->o<y.size->af L o aI=af A o aI:=λh ak B=>gl ak V _;have sm:∀{A L:J},y.size<=A.size->N A L->dR [w.size,b.size,t.size] A L:=λh ak=>ak.dv λo B=>by simp at B;omega
 have W:d.size<y.size:=V;have E:w.size<y.size:=V;have i3:j.size<y.size:=V;refine(bN (r.E::j.size::b.size::e) (c1.ext (w8.trans Z)) V).mono λ_ bt⟨a',la,g,ga,ea,s⟩=>⟨sm (ad _) s,a',g,G (ad _) s W,G (ad _) s E,G (ad _) s W,G (ad _) s E,G (ad _) s E,G (ad _) s i3,?_⟩;subst ea;have I:=s.size;refine(bN (r.E::j.size::b.size::e) (c2.ext ((w8.trans Z).trans s)) V).mono λ_ a3⟨b',lb,g,gb,eb,v⟩=>⟨sm I v,b',g,G I v W,G I v E,G I v W,G I v E,G I v i3,?_⟩;subst eb;have bF:=v.size;have aN:=s.trans v;refine(K8 (m:=a3) (eS.ext aN (eK.le ay (bG _ _) λ_ _=>dG.le (bG _ _))) (q.params.length:Nat)).mono λ_ a4⟨rg,g,_,z⟩=>⟨sm V z,rg,g,G V z W,G V z E,G V z i3,?_⟩;have bH:=z.size;have aa:=aN.trans z;intro bv;have aW:eS (bM (r.E::j.size::b.size::e) a4) C F:=eK.le ay ((aa.cW _).trans (ji _ λ_ h=>ai _ h)) λ_ _=>dG.le ((aa.cW _).trans (ji _ λ_ h=>ai _ h));have XX:=(x8.trans Z).trans aa;refine Gr.box (g:=[.s .nil,.s .nil,.i 0,.i 0,.s .nil]) (j:=1) (y:=88) (i:=[.s dd,.s r]) (w:=⟨q.params,q.cG,q.aV,rg,F⟩) kJ.mono bh (au.ext kJ.mono XX) ((xM.trans XX).fz []) ⟨a',b',C,rfl,(GI.done ga (Q V) V).le ((v.trans z).cW _),(GI.done gb (Q V) V).le (z.cW _),aW⟩ V (am.ext aa) aJ bh ⟨V,aJ⟩ (λf p=>?_) λr' m' g' B' f' z' q'=>a8 r' m' _ g' B' f'.ext ⟨q3,bd,a0,by show F.length<=_;omega,a9,a_⟩
 simp at p;omega
section
def Mn{α:Type}(T:J->O->O->α->Prop):Prop:=∀M a b c x,Le M a->T M b c x->T a b c x
def PP{α:Type}(T:J->O->O->α->Prop)(U:α->Prop)(S:List Nat)(d:Nat)(e:O)(m:J)(P:Nat)(v:Value)(a:J):Prop:=∃b c x,v=.agg #[O.v b,O.v c]/\T (bM S a) b c x/\U x/\Rd d e P a/\Fz [d] m a
def NT(m:J)(a b:O)(x:List bu×List gB):Prop:=eg m a b x.1 x.2
def IT(m:J)(a b:O)(x:List bu×List dk):Prop:=cr m a x.1/\iP m b x.2
def GT(m:J)(a b:O)(x:List bu×List (dk×Ex)):Prop:=cr m a x.1/\Ve m b x.2
def UN(c:Prop)(W:Nat)(x:List bu×List gB):Prop:=xH x.1 x.2 c W/\x.1∈qQ
def UI(x:List bu×List dk):Prop:=CJ x.2/\x.1∈qQ
def NT.mn:Mn NT:=λ_ _ _ _ _ h t=>eg.le t h
def IT.mn:Mn IT:=λ_ _ _ _ _ h t=>⟨t.1.le h,iP.le h t.2⟩
structure BS(B:List Nat)(rb:Nat)(bs:O)(m:J)(Q:Nat)(M:J):Prop where
 s:Rs rb bs m Q M
 fW:∀c∈B,m.size<=c/\c<M.size
section
variable{α:Type}{T:J->O->O->α->Prop}{U:α->Prop}{S B L:List Nat}{c Q g i k f t:Nat}{e a b:O}{m M d:J}{x:α}{h:List Value}
def BS.hS(h:BS B c e m Q M)(d:∀a∈S,a<m.size):∀a∈B++S,a<M.size:=λa f=>(List.mem_append.1 f).elim (λb=>(h.fW a b).2) λb=>aO (d a b) h.s.f.size
def BS.to(h:BS B c e m Q M)(f:Fz [c] M d)(r:Rd c e g d):BS B c e m g d:=⟨h.s.to f r,λa b=>⟨(h.fW a b).1,aO (h.fW a b).2 f.size⟩⟩
def BS.lw(h:BS B c e m Q M)(a:c<m.size)(d:∀b∈L,b∈B):Lw c L M:=Go.Proofs.YtgnjacfobdjeeaaGreat.lw a λb f=>h.fW b (d b f)
def BS.call(i:BS B c e m Q M)(o:c<m.size)(p:∀b∈L,b∈B)(l:aL cp f h M (PP T U (B++S) c e M g)){K:O->O->J->Prop}
 (q:∀a b x d,U x->T (bM (B++S) d) a b x->BS B c e m g d->Fz [c] M d->K a b d):aL cp f h M λv d=>dR L M d/\∃j k:O,v=.agg #[O.v j,O.v k]/\K j k d:=
 l.mono λ_ d⟨a,b,x,n,t,u,r,f⟩=>⟨(i.lw o p).dv f,a,b,n,q a b x d u t (i.to f r) f⟩
def BS.pick(h:BS B c e m Q M)(g:c<m.size)(k:Q<=10000000000000000)(j:∀b∈L,b∈B)(n:Int){K:Int->J->Prop}
 (l:∀i d,0<=i->(i<n\/i=0)->BS B c e m (Q+1) d->Fz [c] M d->K i d):aL cp 81 [vp c 0,vi n] M λv d=>dR L M d/\∃i:Int,v=vi i/\K i d:=
 (cw h.s.r k n).mono λ_ d⟨i,a,o,p,r,f⟩=>⟨(h.lw g j).dv f,i,a,l i d o p (h.to f r) f⟩
def BS.box{m1 m2:J}{z l:List Ce}(h:BS B c e m Q M)(g:m1=M.push (.cells (bC z) t))(i:m2=ah m1 M.size 0 l)(n:l.length=z.length):BS (M.size::B) c e m Q m2/\Le (bM (B++S) M) (bM (M.size::B++S) m2)/\cx m2 M.size t l:=by
 obtain⟨x,d,z⟩:=jN g i n;have o:=h.s.f.size;refine⟨⟨h.s.ext x,λf k=>?_⟩,x.bM λb j=>(List.mem_cons.1 j).elim (λh=>Or.inr V) Or.inl,d⟩;rcases List.mem_cons.1 k with a|a
 ·omega
 ·have:=h.fW f a;omega
def BS.put(h:BS B c e m Q M)(d:Rd c e i m)(a:k∈B)(l:List Ce):BS B c e m Q (ah M k 0 l)/\Le (bM (B++S) M) (bM (B++S) (ah M k 0 l)):=
 ⟨⟨h.s.put d (h.fW k a).1 _ _,λb f=>by rw[ay];exact h.fW b f⟩,cv (by simp[a]) λ_ h=>h⟩
def BS.le(a:c∈S)(f:Fz [c] M d):Le (bM (B++S) M) (bM (B++S) d):=f.cW (by simp[a])
def BS.gW(h:BS B c e m Q M)(o:Mn T)(j:Rd c e i m)(p:k∈B)(q:T (bM (B++S) M) a b x)(r:U x)(n:Q<=g)(l:List Ce):PP T U S c e m g (.agg #[O.v a,O.v b]) (ah M k 0 l):=
 have⟨d,f⟩:=h.put (S:=S) j p l
 ⟨a,b,x,rfl,o _ _ _ _ _ (f.trans (ji _ λ_=>fw _)) q,r,d.s.r.mono n,d.s.f⟩
def BS.jZ(a:Rd c e Q m)(o:Obj):BS [m.size] c e m Q (m.push o)/\Le (bM S m) (bM ([m.size]++S) (m.push o)):=⟨⟨⟨(N.push m o).fz _,a.ext (N.push m o)⟩,aJ⟩,sC (N.push m o) (ad _)⟩
def JK{a:List bu}{d:Prop}{W:Nat}(j:ue f h M S a λb=>xH a b d W)(hd:a∈qQ)(r:Rd c e Q M):aL cp f h M (PP NT (UN d W) S c e M Q):=
 j.mono λ_ _⟨g,k,b,i,n,o,x⟩=>⟨g,k,(a,b),i,n,⟨o,hd⟩,r.ext x,x.fz _⟩
def Uf{a:List bu}(g:O1 f h M S a CJ)(hd:a∈qQ)(r:Rd c e Q M):aL cp f h M (PP IT UI S c e M Q):=
 g.mono λ_ _⟨d,j,k,b,n,i,o,x⟩=>⟨d,j,(a,k),b,⟨n,i⟩,⟨o,hd⟩,r.ext x,x.fz _⟩
end
section
variable{a:List Nat}{m:J}{b P:Nat}{c:O}
def GY(f:∀d∈a,d<m.size)(j:b∈a)(d:Rd b c P m)(D:P+1000+4*(300+40*Cg 18)<=10000000000000000):aL cp 219 [vp b 0] m (PP NT (UN False 95) a b c m (P+11+4*(300+40*Cg 18))):=by
 apply Ae (b,0);simp -zeta only[aC,aB];have e:=d.lt;intro k;obtain⟨b1,-⟩:BS [m.size] b c m P k/\True:=⟨(BS.jZ (S:=a) d _).1,trivial⟩;clear_value k;refine b1.call (T:=GT) (U:=λx=>Vj x.1 x.2) (S:=a) e (λ_ h=>h) ((Dk (b1.hS f) (by simp[j]) b1.s.r V).mono λv M⟨i,p,g,t,l,n,o,q,r,s⟩=>⟨i,p,(g,t),l,⟨n,o⟩,q,r,s⟩) λi p x F u t b2 A=>?_;refine b2.call (S:=a) e (λ_ h=>h) (JK (GO (b2.hS f) (t.1.le (bG _ _)) (eK.le t.2 (bG _ _) λ_ _=>Xt.mono.le (bG _ _)) u) u.gp.ds b2.s.r) λy J L G g t3 b3 B=>?_;intro r l;obtain⟨b5,q,-⟩:=b3.box (S:=a) (m1:=r) (m2:=l) rfl rfl rfl;clear_value l;have s:=NT.mn _ _ _ _ _ q t3;refine b5.pick e V (λ_ h=>h) 3 λE H _ _ b6 o=>?_;have n:=NT.mn _ _ _ _ _ (BS.le j o) s;refine⟨λ_=>?_,λ_=>b6.gW NT.mn d aJ n g V _⟩;exact b6.call (S:=a) e (λ_ h=>h) (JK (Ir (b6.hS f) (n.le (bG _ _)) V g.1) g.2 b6.s.r) λz K M I w v h C=>h.gW NT.mn d aJ v w V _
def De(j:∀d∈a,d<m.size)(g:b∈a)(d:Rd b c P m)(M:P+1000+4*(300+40*Cg 18)<=10000000000000000):aL cp 193 [vp b 0] m (PP NT (UN True 104500) a b c m (P+12+4*(300+40*Cg 18))):=by
 apply wF (b,0);simp -zeta only[aC,aB];have f:=d.lt;intro n;obtain⟨b1,-⟩:BS [m.size] b c m P n/\True:=⟨(BS.jZ (S:=a) d _).1,trivial⟩;clear_value n;refine b1.call (S:=a) f (λ_ h=>h) (GY (b1.hS j) (by simp[g]) b1.s.r V) λI U X Q i t2 b2 K=>?_;intro x o;obtain⟨b4,w,-⟩:=b2.box (S:=a) (m1:=x) (m2:=o) rfl rfl rfl;clear_value o;have q:=NT.mn _ _ _ _ _ w t2;refine b4.call (S:=a) f (λ_ h=>h) (JK (J6 (b4.hS j) (q.le (bG _ _)) i.1) i.2 b4.s.r) λJ W Y y G B b5 u=>?_;intro z p;obtain⟨r,l,-⟩:=b5.box (S:=a) (m1:=z) (m2:=p) rfl rfl rfl;clear_value p;have C:=NT.mn _ _ _ _ _ l B;refine r.pick f V (λ_ h=>h) 4 λN R _ _ e k=>?_;have D:=NT.mn _ _ _ _ _ (BS.le g k) C;refine⟨λ_=>?_,λ_=>e.gW NT.mn d aJ D G V _⟩;have E:=NT.mn _ _ _ _ _ (((BS.le g u).trans l).trans (BS.le g k)) q;refine e.call (S:=a) f (λ_ h=>h) (JK (OE (e.hS j) (E.le (bG _ _)) i.1) i.2 e.s.r) λt A Z T H F s L=>?_;intro O;obtain⟨h,v⟩:=s.put (S:=a) d (by simp:y.size∈_) [.s t,.s A];exact h.gW NT.mn d aJ (NT.mn _ _ _ _ _ v F) H V _
end
end
section
variable{c:Prop}
structure BF(S:List Nat)(rb:Nat)(bs:O)(m:J)(k Q W:Nat)(M:J):Prop where
 b:BS [k,m.size] rb bs m Q M
 x:∃d r x,cx M k mN [.s d,.s r]/\NT (bM (k::m.size::S) M) d r x/\UN True W x
def UN.mono{W W':Nat}{x:List bu×List gB}(h:UN c W x)(f:W<=W'):UN c W' x:=⟨⟨h.1.iu,λq g=>let⟨a,b,d,e⟩:=h.1.dz q g;⟨a,b,d,bX e f⟩⟩,h.2⟩
section
variable{e h:List Nat}{d k Q Q' W W' i f:Nat}{g:O}{a M b:J}{K:J->Prop}{j:O->O->List Value}
def BF.mono(h:BF e d g a k Q W M)(j:Q<=Q')(l:W<=W'):BF e d g a k Q' W' M:=⟨⟨⟨h.b.s.f,h.b.s.r.mono j⟩,h.b.fW⟩,let⟨i,r,x,b,f,c⟩:=h.x;⟨i,r,x,b,f,c.mono l⟩⟩
def BF.to(i:BF e d g a k Q W M)(n:d<a.size)(m:d∈e)(f:Fz [d] M b)(j:BS [k,a.size] d g a Q' b):BF e d g a k Q' W b:=
 let⟨l,r,x,h,t,c⟩:=i.x
 ⟨j,l,r,x,h.congr (f.same k h.lt (by have:=i.b.fW k aJ;simp;omega)),NT.mn _ _ _ _ _ (BS.le (B:=[k,a.size]) m f) t,c⟩
def BF.pick(j:BF e d g a k Q W M)(l:d<a.size)(q:d∈e)(o:Q<=10000000000000000)(m:∀c∈h,c∈[k,a.size])(n:Int){K:Int->J->Prop}
 (p:∀i b,BF e d g a k (Q+1) W b->K i b):aL cp 81 [vp d 0,vi n] M λv b=>dR h M b/\∃i:Int,v=vi i/\K i b:=
 j.b.pick l o m n λi b _ _ c f=>p i b (j.to l q f c)
def BF.Xw(q:BF e d g a k Q W M)(w:Rd d g i a)(F:k≠a.size)(y:∀p∈h,p=a.size)
 (c:∀l n x,NT (bM (k::a.size::e) M) l n x->UN True W x->aL cp f (j l n) M (PP NT (UN True W') (k::a.size::e) d g M Q'))
 (I:∀b,BF e d g a k Q' W' b->K b):∃z:O,af M k 0=some (O.v z)/\∃A:O,af M k 1=some (O.v A)/\aL cp f (j z A) M λT b=>dR h M b/\∃t u:O,T=.agg #[O.v t,O.v u]/\dZ b k 0 2/\(dR h b (ah b k 0 [.s t,.s u])/\K (ah b k 0 [.s t,.s u])):=by
 obtain⟨l,n,x,B,J,P⟩:=q.x
 have G:=w.lt
 have V:=q.b.fW k aJ
 refine⟨l,B.bV 0,n,B.bV 1,q.b.call (S:=e) (L:=h) G (λp s=>by simp[y p s]) (c l n x J P) λp s U b R N C D=>?_⟩
 have v:=B.congr (D.same k B.lt bR)
 obtain⟨b2,H⟩:=C.put (S:=e) w (by simp:k∈_) [.s p,.s s]
 exact⟨v.dZ aJ,λc E=>bt _ _ _ _ (by rw[y c E];exact km F),I _ ⟨b2,p,s,U,cx.ah (m:=b) (o:=0) (r:=[.s p,.s s]) v,NT.mn _ _ _ _ _ H N,R⟩⟩
def BF.bd(h:BF e d g a k Q W M)(j:Rd d g i a)(l:Q<=Q'):∃b:O,af M k 0=some (O.v b)/\∃c:O,af M k 1=some (O.v c)/\PP NT (UN True W) e d g a Q' (.agg #[O.v b,O.v c]) (ah M a.size 0 [.s b,.s c]):=
 let⟨f,r,_,B,t,u⟩:=h.x
 ⟨f,B.bV 0,r,B.bV 1,h.b.gW NT.mn j aJ t u l _⟩
end
section
variable{a:List Nat}{b:J}{d P:Nat}{e:O}
def WE{h:Nat}{g:List Value}{M:J}{Q:Nat}{b:List bu}{W:Nat}(k:Rb h g M a d e Q b λf=>xH b f c W)(hd:b∈qQ):aL cp h g M (PP NT (UN c W) a d e M Q):=
 k.mono λ_ _⟨i,l,f,j,n,o,r,x⟩=>⟨i,l,(b,f),j,n,⟨o,hd⟩,r,x⟩
def Qd(i:∀c∈a,c<b.size)(k:d∈a)(g:Rd d e P b)(h:P+4<=10000000000000000){W:Nat}(j:W<=200000000000)(f r:O)(x:List bu×List gB)(t:NT (bM a b) f r x)(u:UN True W x):aL cp 194 [vp d 0,.agg #[O.v f,O.v r]] b (PP NT (UN True (W+4)) a d e b (P+4)):=
 WE (OD i k g h t u.1 j) u.2
def Bm(z:∀c∈a,c<b.size)(l:d∈a)(g:Rd d e P b)(Z:P+1000+4*(300+40*Cg 18)<=10000000000000000):aL cp 134 [vp d 0] b (PP NT (UN True 98289774148) a d e b (P+24+4*(300+40*Cg 18))):=by
 apply vz (d,0);simp -zeta only[aC,aB];have k:=g.lt;intro q;have z1:q.size=b.size+1:=by simp[q]
 obtain⟨b1,-⟩:BS [b.size] d e b P q/\True:=⟨(BS.jZ (S:=a) g _).1,trivial⟩;clear_value q;refine b1.call (S:=a) k (λ_ h=>h) (De (b1.hS z) (by simp[l]) b1.s.r V) λD G I f H t2 b2 K=>?_;have z2:=K.size;intro N F;obtain⟨b4,L,C⟩:=b2.box (S:=a) (m1:=N) (m2:=F) rfl rfl rfl;clear_value F;have X:=NT.mn _ _ _ _ _ L t2;have p:f.size≠b.size:=V;have n:∀{M:J}{Q W:Nat},BF a d e b f.size Q W M->∀c∈f.size::b.size::a,c<M.size:=λh=>h.b.hS z;have E:d∈f.size::b.size::a:=by simp[l]
 refine⟨BF a d e b f.size (P+17+4*(300+40*Cg 18)) 104504,?_,λR U=>?_⟩
 ·refine b4.pick k V (λ_ h=>h) 4 λA m5 _ _ b5 t=>?_;have u:=NT.mn _ _ _ _ _ (BS.le (B:=[f.size,b.size]) l t) X;have s:=C.congr (t.same _ C.lt bR);refine⟨λ_=>b5.call (S:=a) k (λ_ h=>h) (Qd (b5.hS z) E b5.s.r V V D G I u H) λi j x O Y T b6 w=>?_,λ_=>BF.mono ⟨b5,D,G,I,s,u,H⟩ V V⟩;intro R;obtain⟨v,y⟩:=b6.put (S:=a) g (by simp:f.size∈_) [.s i,.s j];exact BF.mono ⟨v,i,j,x,cx.ah (m:=O) (o:=0) (r:=[.s i,.s j]) (s.congr (w.same _ s.lt bR)),NT.mn _ _ _ _ _ y T,Y⟩ V V
 refine⟨BF a d e b f.size (P+18+4*(300+40*Cg 18)) 10921086016,?_,λY O=>?_⟩
 ·refine U.pick k l V aJ 4 λA v s=>⟨λ_=>s.Xw g p aJ (λi j x t u=>JK (Gq (n s) (t.le (bG _ _)) V u.1) u.2 s.b.s.r) λy h=>h.mono V V,λ_=>s.mono V V⟩
 refine O.pick k l V aJ 3 λA aa s=>?_;refine⟨BF a d e b f.size (P+19+4*(300+40*Cg 18)) 98289774144,⟨λ_=>s.Xw g p aJ (λi j x t u=>JK (DA (n s) (t.le (bG _ _)) V u.1) u.2 s.b.s.r) λy h=>h.mono V V,λ_=>s.mono V V⟩,λab v=>?_⟩;refine⟨BF a d e b f.size (P+19+4*(300+40*Cg 18)) 98289774144,⟨λ_=>v.Xw g p aJ (λi j x t u=>JK (K9 (n v) (t.le (bG _ _)) V u.1) u.2 v.b.s.r) λy h=>h.mono V V,λ_=>v.mono V V⟩,λac T=>?_⟩;refine T.pick k l V aJ 6 λA ad w=>⟨λ_=>w.Xw g p aJ (λi j x t u=>Qd (n w) E w.b.s.r V V i j x t u) λy h=>h.bd g V,λ_=>(w.mono (Q':=P+24+4*(300+40*Cg 18)) (W':=98289774148) V V).bd g V⟩
def Gy(j:∀c∈a,c<b.size)(l:d∈a)(f:Rd d e P b)(B:P+1000+4*(300+40*Cg 18)<=10000000000000000):aL cp 80 [vp d 0] b (PP IT UI a d e b (P+25+4*(300+40*Cg 18))):=by
 apply zN (d,0);simp -zeta only[aC,aB];have g:=f.lt;intro m;obtain⟨b1,-⟩:BS [b.size] d e b P m/\True:=⟨(BS.jZ (S:=a) f _).1,trivial⟩;clear_value m;refine b1.call (S:=a) g (λ_ h=>h) (Bm (b1.hS j) (by simp[l]) b1.s.r V) λv H K D o t2 b2 y=>?_;refine b2.call (S:=a) g (λ_ h=>h) (Uf (Kc (b2.hS j) (t2.le (bG _ _)) o.1 V) o.2 b2.s.r) λw I L E i t3 b3 z=>?_;intro r n;obtain⟨b5,q,-⟩:=b3.box (S:=a) (m1:=r) (m2:=n) rfl rfl rfl;clear_value n;have s:=IT.mn _ _ _ _ _ q t3;refine b5.pick g V (λ_ h=>h) 3 λC F _ _ b6 p=>?_;have k:=IT.mn _ _ _ _ _ (BS.le l p) s;refine⟨λ_=>?_,λ_=>b6.gW IT.mn f aJ k i V _⟩;exact b6.call (S:=a) g (λ_ h=>h) (Uf (G8 (b6.hS j) (k.1.le (bG _ _)) (sj i.2) (iP.le (bG _ _) k.2) i.1) i.2 b6.s.r) λx J M G u t h A=>h.gW IT.mn f aJ t u V _
end
end
section
variable{x:Instr}
section
variable{S:List Nat}{m M:J}{a P Q:Nat}{b:O}
def Cs(h:Rs a b m Q M)(i:Q<=10000000000000000)(c:List Int){d:List Ce}{n:Nat}(j:d=c.map Ce.i)(p:n=c.length)(l:0<c.length/\c.length<=100):
 aL cp 84 [vp a 0,O.v (.mk M.size 0 n n)] (M.push (.cells (bC d) aI)) λv e=>∃t:Int,v=vi t/\t∈c/\Rs a b m (Q+1) e/\Fz [a] (M.push (.cells (bC d) aI)) e:=by
 have x:=N.push M (.cells (bC d) aI)
 have o:=h.r.lt
 refine(j9 (h.ext x).r i (aq.lit aI c (by simp;exact o) j p V) l.1).mono λv e⟨q,g,k,r,f⟩=>⟨q,g,k,(h.ext x).to f r,f⟩
def _root_.Go.Vc.Gr.JB{b c:J}{s:O}{l:List Int}(h:GI S b M s l)(f:Fz [a] M c)(d:a<b.size):GI S b c s l:=have:=h.be;GI.iL h (f.same _ this.2 bR)
def vQ(n:Rd a b P m)(hP:P+10<=10000000000000000){D:O}{l:List Int}(S:aq m D l)(hb:l.length<=1000000000000):aL cp 115 [vp a 0,O.v D] m λaa o=>∃s c,aa=O.v s/\GI [] m o s c/\c.length<=l.length+1/\(∀w∈c,w∈l\/-1<=w/\w<=1001)/\Rd a b (P+3) o/\Fz [a] m o:=by
 apply rW (a,0);have g:=n.lt;refine(bN [] S V).mono λ_ W⟨s,c,e,j,H,F⟩=>⟨s,e,?_⟩;subst H;have ab:=j.len bh;have p:Rs a b m P W:=⟨F.fz _,n.ext F⟩;have gW:∀{M:J}{Q:Nat},Rs a b m Q M->Q<=P+2->GI [] m M s l->aL cp 84 [vp a 0,O.v (.mk M.size 0 5 5)] (M.push (.cells (bC [.i 0,.i 1,.i 2,.i (-1),.i 1000]) aI)) λx r=>∃i:Int,x=vi i/\
  jh (r.push (.cells (bC [.i i]) aI)) aI [.i 0] 8 s (.mk r.size 0 1 1) λt q=>∃s c,O.v t=O.v s/\GI [] m q s c/\c.length<=l.length+1/\(∀w∈c,w∈l\/-1<=w/\w<=1001)/\Rd a b (P+3) q/\Fz [a] m q:=λ{M Q} rM hQ gM=>
  (Cs rM V [0,1,2,-1,1000] rfl rfl aJ).mono λ_ r⟨t,e,u,f,d⟩=>⟨t,e,by
   have g2:=(gM.ext (N.push M _)).JB d g;refine GI.jY g2 f.f aJ V λx o K z z' Y=>⟨x,_,rfl,K,aJ,λw v=>?_,?_,z⟩
   ·rcases List.mem_append.1 v with h|h
    ·exact Or.inl h
    ·simp at h u;exact Or.inr V
   ·exact(n.MC f.r z (Y a f.r.lt (by have:=g2.be;omega))).mono V⟩
 refine⟨λR=>?_,λ_=>gW p V j⟩;simp only[mP,au]at R;refine(cw p.r V 2).mono λ_ m2⟨T,e,_,_,y,d⟩=>⟨T,e,λ_=>?_,λ_=>gW (p.to d y) V (j.JB d g)⟩;have f:=p.to d y;have g2:=j.JB d g;refine(cw f.r V (s.len:Int)).mono λ_ X⟨i,e,U,k1,G,A⟩=>⟨i,e,?_⟩;have r3:=f.to A G;refine(Cs r3 V [0,1,-1,7,1000,1001] rfl rfl aJ).mono λ_ m5⟨t,e,u,E,I⟩=>⟨t,e,U,V,?_⟩;have C:=((g2.JB A g).ext (N.push X _)).JB I g;obtain⟨w,L,B,Z⟩:=C.set E.f (k:=i.toNat) V t;refine⟨w,s,_,rfl,L,aJ,λw v=>?_,(n.MC E.r B (Z a (by have:=C.be;omega))).mono V,B⟩;rcases dE v with h|h
 ·exact Or.inl h
 ·simp at u;exact Or.inr V
def IX(Z:List Nat)(a:Nat)(b:O)(m:J)(P:Nat)(U:Instr->Prop)(v:Value)(c:J):Prop:=∃x d j,v=Ug x d j/\aq (bM Z c) d x.args/\aq (bM Z c) j x.dX/\U x/\Rd a b P c/\Fz [a] m c
def vC(S:List Nat){n s:O}(u:aq m n x.args)(v:aq m s x.dX)(r:x.args.length<=1000000000000/\x.dX.length<=1000000000000):
 aL cp 199 [Ug x n s] m λy k=>∃b c,y=Ug x b c/\GI S m k b x.args/\GI S m k c x.dX/\b.E≠c.E/\N m k:=by
 apply qJ
 simp -zeta only[aC,aB]
 intro g i
 obtain⟨d,f⟩:=dF (a:=g) (c:=i) rfl rfl
 have D:g.size=m.size+1:=by simp[g]
 clear_value i
 have E:∀{M l:J},N i M->N M l->∀o,af l m.size o=af M m.size o:=λh t o=>aM (t.same _ (h.lt (f _ aJ))) o
 refine(bN S (u.ext d) r.1).aK (N.az i) f λb _ A p j a _=>⟨_,rfl,E (N.az _) a _,E (N.az _) a _,E (N.az _) a _,E (N.az _) a _,E (N.az _) a _,?_⟩
 subst j
 refine(bN S (v.ext (d.trans a)) r.2).aK a f λc _ B q j e w=>⟨_,rfl,E a e _,E a e _,E a e _,E a e _,?_⟩
 subst j
 intro C
 have F:=p.be;have G:=q.be
 have z:=f g.size aJ
 exact⟨b,c,rfl,((p.ext e).iL (bt _ _ _ _ V)).ct (λ_ h=>h) d.size,(q.iL (bt _ _ _ _ V)).ct (λ_ h=>h) (d.trans a).size,V,(d.trans w).ah V _ _⟩
end
structure BI(a0:J)(k rb:Nat)(bs:O)(m:J)(Q:Nat)(M:J)(a j:O)(l l':List Int):Prop where
 ga:GI [] a0 M a l
 gj:GI [] a0 M j l'
 ne:a.E≠j.E
 s:Rs rb bs m Q M
 lo:m.size+2<=a0.size/\l.length<=1000000000001/\l'.length<=1000000000001
 hi:a.E≠k/\j.E≠k/\m.size<=k/\k<M.size
section
variable{Z L:List Nat}{f m M c:J}{b k P g Q h:Nat}{d a j:O}{l e:List Int}
def BI.to(g:BI f k b d m Q M a j l e)(n:b<m.size)(i:Fz [b] M c)(r:Rd b d h c):BI f k b d m h c a j l e:=
 have:=g.lo
 ⟨g.ga.JB i V,g.gj.JB i V,g.ne,g.s.to i r,g.lo,g.hi.1,g.hi.2.1,g.hi.2.2.1,aO g.hi.2.2.2 i.size⟩
def BI.put(h:BI f k b d m Q M a j l e)(g:Rd b d P m)(o:Nat)(c:List Ce):BI f k b d m Q (ah M k o c) a j l e:=
 have:=h.lo;have:=h.hi;have:=h.ga.be
 ⟨GI.iL h.ga (bt _ _ _ _ V),GI.iL h.gj (bt _ _ _ _ V),h.ne,h.s.put g V _ _,h.lo,by rw[ay];exact h.hi⟩
def BI.gW{U:Instr->Prop}(h:BI f k b d m Q M a j l e)(v:Rd b d P m)(t:∀c∈Z,c<m.size){i:Nat}(y:i=m.size+1)(w:Q<=g){r n q p:Int}(x:U ⟨r,n,q,p,l,e⟩)(s:List Ce):IX Z b d m g U (.agg #[vi r,vi n,vi q,vi p,O.v a,O.v j]) (ah M i 0 s):=by
 have:=h.lo;have:=h.hi;have z:=h.ga.be;have A:=h.gj.be;have u:=h.s.put v (k:=i) V 0 s;exact⟨⟨r,n,q,p,l,e⟩,a,j,rfl,Gr.done tq.mono (GI.any (GI.iL h.ga (bt _ _ _ _ V))) (λc o=>by have:=t c o;omega) bh (bX h.lo.2.1 bh),Gr.done tq.mono (GI.any (GI.iL h.gj (bt _ _ _ _ V))) (λc o=>by have:=t c o;omega) bh (bX h.lo.2.2 bh),x,u.r.mono w,u.f⟩
def BI.pick(h:BI f k b d m Q M a j l e)(r:b<m.size)(t:Q<=10000000000000000)(s:∀g∈L,m.size<=g/\g<=k)(p:Int){K:Int->J->Prop}
 (v:∀i c,0<=i->(i<p\/i=0)->BI f k b d m (Q+1) c a j l e->(∀o,af c k o=af M k o)->Fz [b] M c->K i c):aL cp 81 [vp b 0,vi p] M λz c=>dR L M c/\∃i:Int,z=vi i/\K i c:=
 have:=h.lo;have:=h.hi;have:=h.ga.be
 (cw h.s.r t p).mono λ_ c⟨i,q,w,x,y,n⟩=>⟨n.dv λg u=>by have:=s g u;simp;omega,i,q,v i c w x (h.to r n y) (λo=>aM (n.same k h.hi.2.2.2 bR) o) n⟩
end
def Q7(x y:Instr):Prop:=(∀k,NA k x->NA k y)/\y.args.length<=1000000000000/\y.dX.length<=1000000000000
def Gn{Z:List Nat}{m:J}{g P:Nat}{u F H:O}(d:∀c∈Z,c<m.size)(a:Rd g u P m)(hP:P+10<=10000000000000000)(S:aq (bM [g] m) F x.args)(hj:aq m H x.dX)(b:x.args.length<=1000000000000/\x.dX.length<=1000000000000)(hx:∃I,NA I x):
 aL cp 137 [vp g 0,Ug x F H] m (IX Z g u m (P+3) (Q7 x)):=by
 apply zt (g,0)
 simp(config:={maxSteps:=1000000}) -zeta only[aC,aB]
 have p:=a.lt
 intro r w
 obtain⟨X,hl⟩:=dF (a:=r) (c:=w) rfl rfl
 have i:r.size=m.size+1:=by simp[r]
 have s2:w.size=m.size+2:=by simp[w,i]
 clear_value w
 clear_value r
 refine(vC [] ((S.le (bG _ _)).ext X) (hj.ext X) b).mono λ_ y⟨t,K,e,ga,gj,U,Y⟩=>⟨Y.dv hl,_,_,_,_,_,_,e,?_⟩
 intro m4 W
 obtain⟨Q,-,z5⟩:=jN (M:=y) (d:=m4) (c:=W) rfl rfl rfl
 clear_value W
 have ya:=ga.be;have yj:=gj.be
 have X5:=(X.trans Y).trans Q
 have b5:BI w y.size g u m P W t K x.args x.dX:=⟨ga.ext Q,gj.ext Q,U,⟨X5.fz _,a.ext X5⟩,⟨V,oD b.1,oD b.2⟩,V,V,V,V⟩
 have o:∀n∈[y.size,r.size,m.size],m.size<=n/\n<=y.size:=bR
 obtain⟨q,A,D,B,j,C⟩:=x
 have Bf:Q7 ⟨q,A,D,B,j,C⟩ ⟨q,A,D,B,j,C⟩:=⟨λ_ h=>h,b⟩
 refine b5.pick p V o 5 λai f _ _ b6 _ f6=>?_
 have z:∀{aa:J}{ab:Nat},BI w y.size g u m ab aa t K j C->ab<=P+3->IX Z g u m (P+3) (Q7 ⟨q,A,D,B,j,C⟩) (.agg #[vi q,vi A,vi D,vi B,O.v t,O.v K]) (ah aa r.size 0 [.i q,.i A,.i D,.i B,.s t,.s K]):=λh hQ=>h.gW a d i hQ Bf _
 have ac:q=16\/q=17->(0:Int)<=0/\(0:Int)<(F.len:Int)/\∃v:Int,af f F.E (F.off+Int.toNat 0*1)=some (vi v)/\IX Z g u m (P+3) (Q7 ⟨q,A,D,B,j,C⟩) (.agg #[vi 15,vi 0,vi 0,vi 0,O.v (.mk f.size 0 1 1),O.v .nil]) (ah (f.push (.cells (bC [.i v]) aI)) r.size 0 [.i 15,.i 0,.i 0,.i 0,.s (.mk f.size 0 1 1),.s .nil]):=λe=>by
  have hn:0<j.length:=let⟨_,h⟩:=hx;h.arg bR;have T:=S.len;obtain⟨E,hy⟩:=ag (l:=j) (k:=0) hn;have z6:=b6.hi;have s:=N.push f (.cells (bC [.i E]) aI);have r7:=(b6.s.ext s).put a (k:=r.size) V 0 [.i 15,.i 0,.i 0,.i 0,.s (.mk f.size 0 1 1),.s .nil];have R:GI [] f (f.push (.cells (bC [.i E]) aI)) (.mk f.size 0 1 1) [E]:=Gr.lit (f:=[[.i E]]) tq.mono (ad _) aJ rfl rfl ⟨rfl,aJ,λH cs x G L=>by
   cases H with
   |zero=>simp at G L;rw[<-G,<-L];rfl
   |succ H=>simp at G⟩
  exact⟨cC 0,by simp at T;omega,E,(dV.1 ((S.le (b6.s.f.cW aJ)).D hy)).2,⟨15,0,0,0,[E],[]⟩,_,.nil,rfl,GI.done (GI.any (GI.iL R (bt _ _ _ _ bR))) (λc L=>by have:=d c L;omega) aJ,⟨rfl,eY _,aJ,aJ⟩,⟨λ_ _=>⟨λh=>by simp at h,λh=>by simp at h⟩,aJ,aJ⟩,r7.r.mono V,r7.f⟩
 refine⟨λ_=>⟨λe=>?_,λ_=>⟨λe=>?_,λ_=>⟨λe=>?_,λ_=>z b6 V⟩⟩⟩,λ_=>⟨λ_=>⟨λG=>?_,λ_=>z b6 V⟩,λ_=>⟨λ_=>?_,λ_=>⟨λ_=>⟨λe=>?_,λ_=>⟨λe=>?_,λ_=>⟨λe=>?_,λ_=>z b6 V⟩⟩⟩,λ_=>⟨λ_=>⟨λe=>?_,λ_=>⟨λe=>?_,λ_=>z b6 V⟩⟩,λ_=>z b6 V⟩⟩⟩⟩⟩
 ·simp only[aE]at e
  exact(b6.put a _ _).gW a d i V ⟨λ_ _=>⟨λh=>by simp at h,λh=>by simp at h⟩,b⟩ _
 ·exact(b6.put a _ _).gW a d i V ⟨λ_ _=>⟨λh=>by simp at h,λh=>by simp at h⟩,b⟩ _
 ·simp only[aE]at e
  exact(b6.put a _ _).gW a d i V ⟨λ_ h=>⟨λh=>by simp at h,λ_=>h.arg (by simp[e])⟩,b⟩ _
 ·simp only[mP,au]at G
  have T:=b6.ga.len bh
  refine b6.pick p V o (t.len:Int) λI m7 k0 k1 b7 R f7=>⟨R 4,b7.pick p V o 4 λv L _ _ c g8 f8=>⟨g8 4,k0,V,?_⟩⟩
  obtain⟨ae,g9,f9,q9⟩:=GI.set c.ga (((((Y.trans Q).fz [g]).trans f6).trans f7).trans f8) (k:=I.toNat) (by show I.toNat<j.length;have:t.len=j.length:=T;omega) v
  have yb:=c.hi
  refine⟨ae,λn b=>q9 n (by have:=o n b;simp at b;omega),BI.gW (k:=y.size) (l:=j.set I.toNat v) (e:=C) ⟨g9,GI.iL c.gj (q9 _ (km U)),U,⟨c.s.f.ah (Or.inr V) _ _,a.ah c.s.r c.s.f V _ _⟩,⟨V,by simpa using oD b.1,oD b.2⟩,V,V,V,by rw[ay];omega⟩ a d i V ⟨λ_ h=>⟨h.KQ,λe=>by simpa using h.arg e⟩,by simpa using b⟩ _⟩
 ·refine(wR q f).any.mono λ_ m7⟨n,e,s⟩=>⟨s.dv λn b=>by have:=o n b;have:=b6.hi;omega,n,e,λ_=>?_,λ_=>z (b6.to p (s.fz _) (b6.s.r.ext s)) V⟩
  exact(b6.to p (s.fz _) (b6.s.r.ext s)).pick p V o 4 λv L _ _ c _ _=>(c.put a _ _).gW a d i V ⟨λ_ h=>⟨h.KQ,h.arg⟩,b⟩ _
 ·exact ac (Or.inl (by simpa using e))
 ·exact ac (Or.inr (by simpa using e))
 ·exact b6.pick p V o 4 λv L _ _ c _ _=>(c.put a _ _).gW a d i V ⟨λ_ h=>⟨h.KQ,h.arg⟩,b⟩ _
 ·simp only[aE]at e
  exact b6.pick p V o 9 λv L _ _ c _ _=>(c.put a _ _).gW a d i V ⟨λ_ h=>⟨λh=>by simp[e]at h,h.arg⟩,b⟩ _
 ·simp only[aE]at e
  exact b6.pick p V o 3 λv L _ _ c _ _=>(c.put a _ _).gW a d i V ⟨λ_ h=>⟨λh=>by simp[e]at h,h.arg⟩,b⟩ _
end
section
def RA(M:J)(c:List Ce)(x:dk×O):Prop:=∃a b,c=[.s a,.s b,.i x.1.aV,.i x.1.ao,.s x.2]/\aq M a x.1.params/\aq M b x.1.cG
def RA.mono:nM 5 RA:=⟨λh⟨a,b,e,c,d⟩=>⟨a,b,e,c.le h,d.le h⟩,λ⟨_,_,e,_⟩=>by rw[e];rfl⟩
def hd(x:dk×O):dk×O:=({x.1 with cJ:=[]},x.2)
abbrev Ks(l:List (dk×O)):List Nat:=l.map λx=>x.2.E
structure uQ(S:List Nat)(m0 M:J)(dd q:O)(ds:List bu)(l:List (dk×O)):Prop where
 d:cr (bM (q.E::(Ks l++S)) M) dd ds
 g:Gr (Ks l++S) m0 M iO 5 RA q (l.map hd)
 c:∀x∈l,Gr (q.E::(Ks l++S)) m0 M cV 6 dG x.2 x.1.cJ
 nd:(Ks l).Nodup
 lt:∀b∈S,b<M.size
 nq:q.E∉S
 nc:∀x∈l,x.2.E∉S
section
variable{S S' Y:List Nat}{b f M e:J}{c q:O}{d:List bu}{l:List (dk×O)}
def uQ.kq(h:uQ S b M c q d l):∀x∈l,x.2.E≠q.E:=λx a=>(h.c x a).JJ h.g bh
def uQ.re(i:uQ S b M c q d l)(o:Fz Y M e)(k:∀a∈Y,a∈S)(n:∀a∈S',(a∈S\/M.size<=a)/\a<e.size)(p:f.size<=b.size):uQ S' f e c q d l:=by
 have t:=i.g.be;have r:∀{a:Nat},a∈Ks l++S'->a∈Ks l++S\/M.size<=a:=λg=>by
  rcases List.mem_append.1 g with h|h
  ·exact Or.inl (bJ _ h)
  ·exact(n _ h).1.imp (fw _) id
 have s:∀{a:Nat},a∈q.E::(Ks l++S')->a∈q.E::(Ks l++S)\/M.size<=a:=λg=>by
  rcases List.mem_cons.1 g with h|h
  ·exact Or.inl (by simp[h])
  ·exact(r h).imp (ai _) id
 refine⟨i.d.le (o.bM (λa g=>by simp[k a g]) λa g=>s g),Gr.ct RA.mono (i.g.re RA.mono o (λa g=>by simp[k a g]) (λj=>i.nq (k _ j)) λa g=>r g) (λa g=>Or.inl g) p,λx m=>Gr.ct dG.mono ((i.c x m).re dG.mono o (λa g=>by simp[k a g]) (λj=>i.nc x m (k _ j)) λa g=>s g) (λa g=>Or.inl g) p,i.nd,λa g=>(n a g).2,λj=>?_,λx m j=>?_⟩
 ·rcases(n _ j).1 with h|h
  ·exact i.nq h
  ·omega
 ·have:=(i.c x m).be;rcases(n _ j).1 with h|h
  ·exact i.nc x m h
  ·omega
def uQ.cJ(h:uQ S b M c q d l){y:dk×O}(a:y∈l)(j:y.1.cJ.length<=1000000000000):eS (bM (q.E::S) M) y.2 y.1.cJ:=
 have g:Gr (q.E::S) b M cV 6 dG y.2 y.1.cJ:=(h.c y a).re dG.mono (Fz.az [] M) aJ aJ λi f=>Or.inl (by rcases List.mem_cons.1 f with e|e<;>simp[e])
 g.ns dG.mono (by simp;exact⟨h.kq y a,h.nc y a⟩) bh V
def uQ.gr(h:uQ S b M c q d l)(u:∀x∈l,x.1.cJ.length<=1000000000000):Gr S b M iO 5 kJ q (l.map (·.1)):=by
 obtain⟨v,n,z,r⟩:=h.g;refine⟨v,n,z,by simpa using r.len,r.size,λk m x t a=>?_⟩;rw[cU]at a;cases f:l[k]? with
 |none=>simp[f]at a
 |some y=>
  simp[f]at a;subst a;obtain⟨j,g,e,o,p⟩:=r.dz k m (hd y) t (by simp[f]);have i:=av f;have w:Le (bM (q.E::(Ks l++S)) M) (bM (q.E::S) M):=ji M λg s=>by rcases List.mem_cons.1 s with e|e<;>simp[e]
  exact⟨j,g,y.2,e,o.le w,p.le w,h.cJ i (u y i)⟩
def uQ.zp{L:List Nat}{j F:J}{t e ks:O}{p:dk}{h tb i:Nat}{bc:List Ce}{P:J->Prop}(n:uQ S b M c q d l)(x:N M j)(Q:Gr (q.E::(Ks l++S)) F j cV 6 dG ks p.cJ)(h8:M.size<=F.size)
 (ha:aq (bM (ks.E::q.E::(Ks l++S)) j) t p.params)(g:aq (bM (ks.E::q.E::(Ks l++S)) j) e p.cG)(Z:cx M h tb bc)(hi:i<bc.length)(ht:tb≠iO)(v:b.size<=h/\h∈S)(R:∀e∈L,e<j.size/\e≠h/\e≠q.E)(hl:l.length<=1000)(T:N b M)
 (hk:∀r k,uQ S b k c r d (l++[(p,ks)])->cx k h tb (iK bc i [.s r])->N b k->P k):
 af (j.push (.cells (bC [.s t,.s e,.i p.aV,.i p.ao,.s ks]) iO)) h i=af j h i/\
 jh (j.push (.cells (bC [.s t,.s e,.i p.aV,.i p.ao,.s ks]) iO)) iO [.s .nil,.s .nil,.i 0,.i 0,.s .nil] 88 q (.mk j.size 0 1 1) λr k=>dR L (j.push (.cells (bC [.s t,.s e,.i p.aV,.i p.ao,.s ks]) iO)) k/\dZ k h i 1/\(dR L k (ah k h i [.s r])/\P (ah k h i [.s r])):=by
 have z:=Z.ext x
 have U:=N.push j (.cells (bC [.s t,.s e,.i p.aV,.i p.ao,.s ks]) iO)
 have yk:=Q.be
 have yq:=n.g.be
 have zx:=x.size
 have hq:q.E≠h:=λf=>n.nq (by rw[f];exact v.2)
 have kx:ks.E∉S:=λo=>by have:=n.lt _ o;omega
 have ck:∀y∈l,y.2.E<M.size:=λy s=>(n.c y s).be.2
 have H:∀e∈Ks (l++[(p,ks)])++S,e∈Ks l++S\/e=ks.E:=λe g=>by
  simp only[Ks,fx,cE,eX,Z6,nk]at g⊢;rcases g with(f|f)|f<;>simp[f]
 have g1:Gr (Ks (l++[(p,ks)])++S) b j iO 5 RA q (l.map hd):=n.g.re RA.mono (x.fz []) aJ aJ λe g=>(H e g).imp id λf=>V
 have Y:Le (bM (ks.E::q.E::(Ks l++S)) j) (bM (q.E::(Ks (l++[(p,ks)])++S)) j):=ji j λe g=>by
  rcases List.mem_cons.1 g with f|f
  ·simp[f]
  ·rcases H e f with f|f
   ·exact ai _ (ai _ f)
   ·simp[f]
 refine⟨aM (U.same h z.lt) i,Gr.jY (g:=[.s .nil,.s .nil,.i 0,.i 0,.s .nil]) (k:=hd (p,ks)) RA.mono bh g1 ((T.trans x).fz []) ⟨t,e,rfl,ha.le Y,g.le Y⟩ bR λr k ab aa B E=>?_⟩
 have I:=z.congr (E h z.lt (km hq))
 have hr:r.E≠h:=by have:=z.lt;omega
 have A:∀e,e≠h->(ah k h i [.s r])[e]? =k[e]? :=λe g=>bt _ _ _ _ g
 have K:Fz [q.E,h] j (ah k h i [.s r]):=⟨by rw[ay];exact B.1,λe g w=>(A e (by simp at w;omega)).trans (E e g (by simp at w;omega))⟩
 have C:Fz [q.E,h] M (ah k h i [.s r]):=(x.fz _).trans K
 have F0:N b (ah k h i [.s r]):=(aa.ah (Or.inr v.1) _ _).ext
 have ae:=B.1
 have W:∀e∈r.E::(Ks (l++[(p,ks)])++S),(e∈q.E::(Ks l++S)\/e=ks.E)\/j.size<=e:=λe g=>by
  rcases List.mem_cons.1 g with f|f
  ·rcases B.2 with u|u
   ·exact Or.inl (Or.inl (by simp[f,u]))
   ·exact Or.inr V
  ·exact Or.inl ((H e f).imp (ai _) id)
 have X:∀e∈r.E::(Ks (l++[(p,ks)])++S),e∈q.E::(Ks l++S)\/M.size<=e:=λe g=>(W e g).elim (λf=>f.imp id λf=>V) λf=>Or.inr V
 have G:∀e∈[q.E,h],e∈q.E::(Ks l++S):=λe g=>by simp at g;rcases g with f|f<;>simp[f,v.2]
 refine⟨λe g=>?_,I.dZ V,λe g=>A e (R e g).2.1,hk r _ ⟨n.d.le (C.bM G X),?_,λy s=>?_,?_,λe g=>?_,λo=>?_,λy s o=>?_⟩ (cx.ah (m:=k) I) F0⟩
 ·have D:=R e g
  rw[E e V D.2.2,U.same e V]
 ·rw[fx]
  obtain⟨g0,D,g1,g2⟩:=ab
  exact⟨g0,D,g1.congr (A _ hr),g2.mono λcs y=>RA.mono.le (oT λe g w=>⟨w,A e λf=>w (by rw[f];simp[v.2])⟩)⟩
 ·rcases List.mem_append.1 s with f|f
  ·exact(n.c y f).re dG.mono C G (by simp;exact⟨n.kq y f,λu=>n.nc y f (u▸v.2)⟩) X
  ·simp at f
   subst f
   obtain⟨ac,D,ad,rr⟩:=Q
   have w:Gr (ks.E::q.E::(Ks l++S)) F j cV 6 dG ks p.cJ:=⟨ac,D,ad,rr.mono λcs y=>dG.mono.le (ji j λe g=>by
    rcases List.mem_cons.1 g with f|f
    ·simp[f]
    ·exact f)⟩
   exact Gr.ct dG.mono (w.re dG.mono K (λe g=>ai _ (G e g)) (by simp;exact⟨V,λu=>kx (u▸v.2)⟩) λe g=>(W e g).imp (λf=>f.elim (ai _) λf=>by simp[f]) id) (λe g=>Or.inl g) (by have:=T.size;omega)
 ·simp only[Ks,fx,cE,eX]
  refine List.nodup_append.2 ⟨n.nd,aJ,λe g u o=>?_⟩
  simp at o g
  obtain⟨w,D,s,rfl⟩:=g
  have:=ck _ s
  simp at this;omega
 ·have:=n.lt e g
  have:=C.size
  omega
 ·rcases B.2 with f|f
  ·exact n.nq (f▸o)
  ·have:=n.lt _ o;omega
 ·rcases List.mem_append.1 s with f|f
  ·exact n.nc y f o
  ·simp at f
   subst f
   exact kx o
end
end
def vB{j:List Nat}{o:J}(U:∀c∈j,c<o.size){ae al:O}{I:List bu}{D:List dk}(hd:cr o ae I)(ht:dI I)(hp:iP o al D)(aj:CJ D):
 aL cp 136 [.agg #[O.v ae,O.v al]] o λQ m'=>∃v q f,Q=.agg #[O.v v,O.v q]/\uQ j o m' v q I f/\f.map (·.1)=D/\N o m':=by
 apply zE
 simp -zeta only[aC,aB]
 intro b a2
 obtain⟨x2,hl⟩:=dF (a:=b) (c:=a2) rfl rfl
 have s1:b.size=o.size+1:=by simp[b]
 clear_value a2
 have aI:=hp.len;have aH:=aj.nR
 refine(fG (b:=b.size::j) (bP U x2.size (hl _ aJ)) (hd.le x2.le) ht).mono λ_ C⟨v,e,aw,x3⟩=>?_
 subst e
 refine⟨x3.dv hl,_,rfl,?_⟩
 intro m aA ac
 have u2:=x2.trans x3
 obtain⟨x5,B0,g0,s3,s5⟩:=ka (b:=m.size::b.size::j) RA.mono (d:=C) (a:=m) (c:=aA) (h:=ac) rfl rfl rfl
 clear_value ac
 have ai:∀c∈[b.size,o.size],c<C.size:=λc d=>x3.lt (hl c d)
 have i1:=ai b.size aJ
 have z2:=u2.size
 have A0:uQ (m.size::b.size::j) C ac v (.mk C.size 0 0 0) I []:=⟨aw.le (x5.bM λg u=>by
  simp only[Ks,eX,dN,aU]at u;rcases u with e|e|e
  ·exact Or.inr (by rw[e];exact ad _)
  ·exact Or.inr V
  ·exact Or.inl (List.mem_cons.2 e)),g0,aJ,aJ,λg u=>by
   simp only[aU]at u;rcases u with e|e|e
   ·omega
   ·omega
   ·have:=U g e;omega,λd=>by
   simp only[aU]at d;rcases d with e|e|e
   ·simp at e;omega
   ·simp at e;omega
   ·have:=U _ e;simp at this;omega,aJ⟩
 refine fB (n:=D.length) V (λZ h=>N C h/\∃s f,uQ (m.size::b.size::j) C h v s I f/\cx h m.size dK [.s v,.s s]/\f.map (·.1)=D.take Z) ⟨x5,_,[],A0,B0,rfl⟩ ?_
 rintro Z h aF μ hk ⟨xM,s,f,A,B,W⟩ aE
 have zM:=xM.size
 refine dit (λy=>?_) λy=>?_
 ·obtain⟨q,hq⟩:=ag (l:=D) (k:=Z) V
  have Y:=aj.dz q (av hq)
  have q3:=Y.params;have q4:=Y.cG;have qf:=Y.nR
  have v6:=u2.trans xM
  obtain⟨aG,g,c,c1,c2,c3,e0,e1,e2,e3,e4⟩:=hp.D hq
  have G:∀{Q:Value}{g z:Nat},af o g z=some Q->af h g z=some Q:=λy=>v6.af y
  refine⟨V,V,_,G e0,_,G e1,_,G e2,_,G e3,_,G e4,?_⟩
  intro m7 r
  obtain⟨T,-,s8⟩:=jN (M:=h) (d:=m7) (c:=r) rfl rfl rfl
  clear_value r
  have X:∀c∈[h.size,b.size,o.size],c<r.size:=λc d=>by
   rcases List.mem_cons.1 d with e|e
   ·omega
   ·have:=ai c e;omega
  have w8:=v6.trans T
  have hT:∀{x:J},h.size<=x.size->∀c∈s.E::(Ks f++(m.size::b.size::j)),c<x.size:=λy c d=>by
   rcases List.mem_cons.1 d with e|e
   ·have:=A.g.be;omega
   ·rcases List.mem_append.1 e with e|e
    ·obtain⟨w,t,rfl⟩:=List.mem_map.1 e;have:=(A.c w t).be;omega
    ·have:=A.lt c e;omega
  intro m9
  have x9:N r m9:=N.push _ _
  have ar:Gr (s.E::(Ks f++(m.size::b.size::j))) r m9 cV 6 dG (.mk r.size 0 0 0) []:=Gr.new _ (ad _) _ _ _
  clear_value m9
  have au:=c3.len
  refine dS (n:=q.cJ.length) (au▸c3.gV) (λab ks w=>N r w/\Gr (s.E::(Ks f++(m.size::b.size::j))) r w cV 6 dG ks (q.cJ.take ab)) ⟨x9,ar⟩ ?_
  rintro ab ks w I2 μ2 hj ⟨t,K⟩ aD
  have X2:=w8.trans t
  have z2:=t.size
  have az:∀c∈[h.size,b.size,o.size],c<w.size:=λc d=>t.lt (X c d)
  refine dit (λh2=>?_) λh2=>?_
  ·obtain⟨P,F⟩:=ag (l:=q.cJ) (k:=ab) V
   obtain⟨pa,pj,ha,ay,R,ah,ak,an,ao,ap⟩:=(eS.ext X2 c3).D F
   have yk:=K.be
   refine⟨V,V,_,R,_,ah,_,ak,_,an,_,ao,_,ap,?_⟩
   refine(vD (S:=ks.E::s.E::(Ks f++(m.size::b.size::j))) (λc d=>?_) ha ay (Y.lI P (av F))).mono λQ aK⟨a',j',e,aa,ax,E⟩=>⟨λc d=>E.same c (az c d),_,_,_,_,_,_,e,?_⟩
   ·rcases List.mem_cons.1 d with e|e
    ·omega
    ·exact hT V c e
   intro aN
   refine Gr.jY (g:=[.i 0,.i 0,.i 0,.i 0,.s .nil,.s .nil]) (k:=P) dG.mono bh (K.ext dG.mono E) ((t.trans E).fz []) ⟨a',j',rfl,aa,ax⟩ bR λam M3 g3 H z3 aP=>⟨N.nW ((t.trans E).aN _) H.ext X,aD V _ _ ⟨H.ext,?_⟩⟩
   rw[bn F];exact g3
  ·rw[cN V]at K
   have E:∀{M1 w:J},N r M1->N M1 w->∀g,g<r.size->∀z,af w g z=af M1 g z:=λy h' g u z=>aM (h'.same g (y.lt u)) z
   have P:h.size<r.size:=V
   have i2:m.size<r.size:=aO B.lt T.size
   refine⟨s,(B.ext (T.trans t)).bV 1,?_⟩
   refine(bN [] (c1.ext X2) V).aK t X λa' _ ap ga e H F=>⟨_,rfl,E t H _ P _,E t H _ P _,E t H _ P _,E t H _ i2 _,?_⟩
   subst e
   refine(bN [] (c2.ext (w8.trans F)) V).aK F X λb' _ ak gb e R an=>⟨_,rfl,E F R _ P _,E F R _ P _,E F R _ i2 _,?_⟩
   subst e
   intro ax
   have ay:=F.size
   have aK:=an.size
   have yk:=K.be
   have ah:∀{x:J},w.size<=x.size->∀c∈ks.E::s.E::(Ks f++(m.size::b.size::j)),c<x.size:=λy c d=>by
    rcases List.mem_cons.1 d with e|e
    ·omega
    ·exact hT V c e
   have aa:aq (bM (ks.E::s.E::(Ks f++(m.size::b.size::j))) ak) a' q.params:=(GI.done (GI.any ga) (ah (ad _)) V).le (R.cW _)
   have ao:aq (bM (ks.E::s.E::(Ks f++(m.size::b.size::j))) ak) b' q.cG:=GI.done (GI.any gb) (ah H.size) V
   have ll:f.length=Z:=by have:=pB List.length W;simp at this;omega
   have yq:=A.g.be
   exact A.zp (i:=1) (bc:=[.s v,.s s]) (tb:=dK) (p:=⟨q.params,q.cG,q.aV,q.ao,q.cJ⟩) (L:=[h.size,b.size,o.size]) (T.trans an) (K.ext dG.mono (H.trans R)) V aa ao B aJ bh ⟨V,aJ⟩ (λc d=>by
    have hn:=A.nq;simp only[aU,tn]at d hn;have:=T.size;have:=B.lt;rcases d with e|e|e|e
    ·omega
    ·omega
    ·omega
    ·simp at e) V xM λam m' A' B' x'=>aE V m' ⟨x',am,_,A',B',by rw[bn hq,fx,W];rfl⟩
 ·refine⟨v,B.bV 0,s,B.bV 1,?_⟩
  intro x
  rw[cN V]at W
  have r:Fz [b.size] h x:=(Fz.az _ h).ah (Or.inl aJ) _ _
  exact⟨v,s,f,rfl,A.re r aJ (λg u=>⟨Or.inl (by simp[u]),by have:=U g u;have:=r.size;omega⟩) u2.size,W,(u2.trans xM).ah V _ _⟩
section
variable{cs:List Ce}{p:dk}{y:Instr}
def OA{α:Type}{l:List α}{f:Nat}{x:α}(h:l[f]? =some x):l.set f x=l:=by
 apply iT;intro i;rw[iV];split
 ·next e=>
  subst e;rw[h];split
  ·rfl
  ·next hi=>exact absurd (aD h) hi
 ·rfl
section
variable{S L B X:List Nat}{c m M:J}{a q d:O}{b:List bu}{l:List (dk×O)}{e Q f k:Nat}{x:dk×O}
def BS.Zp(h:BS B e d m Q M)(o:Obj):BS (M.size::B) e d m Q (M.push o):=⟨h.s.ext (N.push M o),λc b=>by
 have z:=h.s.f.size;rw[Array.size_push];rcases List.mem_cons.1 b with a|a
 ·omega
 ·have:=h.fW c a;omega⟩
def uQ.nR(h:CJ (l.map (·.1)))(a:x∈l):Rg x.1:=h.dz x.1 (List.mem_map.2 ⟨x,a,rfl⟩)
def uQ.len(h:uQ S c M a q b l):q.len=l.length:=by have:=h.g.len bh;simpa using this
def uQ.iv(n:uQ S c M a q b l)(z:l.length<=1000)(k:l[f]? =some x):∃e d:O,af M q.E (q.off+f*5)=some (O.v e)/\af M q.E (q.off+f*5+1)=some (O.v d)/\af M q.E (q.off+f*5+2)=some (vi x.1.aV)/\af M q.E (q.off+f*5+3)=some (vi x.1.ao)/\af M q.E (q.off+f*5+4)=some (O.v x.2)/\aq (bM (q.E::S) M) e x.1.params/\aq (bM (q.E::S) M) d x.1.cG:=by
 obtain⟨A,m,v,r⟩:=n.g;have y:=aD k;have t:f<m.length:=by have:=r.len;simp at this;omega
 obtain⟨cs,j⟩:=ag t;obtain⟨e,d,h,o,p⟩:=r.dz f cs (hd x) j (by simp[k]);have iv:=v.iv;have w:Le (bM (q.E::(Ks l++S)) M) (bM (q.E::S) M):=ji M λd s=>by rcases List.mem_cons.1 s with h|h<;>simp[h]
 have D:∀i g,cs[i]? =some g->af M q.E (q.off+f*5+i)=some g.v:=λi g u=>by
  have:=iv (f*5+i) g (iy r.size j u);rwa[<-dQ]at this
 subst h;exact⟨e,d,D 0 _ rfl,D 1 _ rfl,D 2 _ rfl,D 3 _ rfl,D 4 _ rfl,o.le w,p.le w⟩
def uQ.it(h:uQ S c M a q b l)(g:l.length<=1000)(e:∀x∈l,x.1.cJ.length<=1000000000000):IT (bM S M) a q (b,l.map (·.1)):=
 ⟨h.d.le (ji M λf d=>by simp[d]),(h.gr e).ns kJ.mono h.nq bh (by simp only[dL];omega)⟩
def uQ.YP(h:uQ S c M a q b l)(i:Fz X c M)(o:l.length<=1000)(f:∀x∈l,x.1.cJ.length<=1000000000000)(j:k<l.length)(m:kJ (bM (q.E::S) M) cs p):
 dZ M q.E (q.off+k*5) 5/\∃n,IT (bM S (ah M q.E (q.off+k*5) cs)) a q (b,n):=by
 obtain⟨w,g,-,-⟩:=(h.gr f).set kJ.mono i (k:=k) (by simpa using j) m
 have F:Fz [q.E] M (ah M q.E (q.off+k*5) cs):=(Fz.az _ M).ah (Or.inl aJ) _ _
 exact⟨w,_,h.d.le (F.bM (λe d=>by simp at d;simp[d]) λe d=>Or.inl (by simp[d])),g.ns kJ.mono h.nq bh bR⟩
def uQ.wr(h:uQ S c M a q b l)(v:Fz X c M)(j:l[f]? =some x)(A:k<x.1.cJ.length)(B:dG (bM (q.E::(Ks l++S)) M) cs y):
 dZ M x.2.E (x.2.off+k*6) 6/\uQ S c (ah M x.2.E (x.2.off+k*6) cs) a q b (l.set f ({x.1 with cJ:=x.1.cJ.set k y},x.2)):=by
 have n:=av j
 have t:x.2.E∈Ks l:=List.mem_map.2 ⟨x,n,rfl⟩
 have C:∀d∈x.2.E::q.E::(Ks l++S),d∈q.E::(Ks l++S):=λd g=>by
  rcases List.mem_cons.1 g with e|e
  ·rw[e];exact ai _ (bJ _ t)
  ·exact e
 obtain⟨D,u,-,E⟩:=(h.c x n).set dG.mono v A (dG.le (ji M C) B)
 have F:Fz [x.2.E] M (ah M x.2.E (x.2.off+k*6) cs):=(Fz.az _ M).ah (Or.inl aJ) _ _
 have p:∀d∈[x.2.E],d∈Ks l++S:=λd g=>by simp at g;rw[g];exact bJ _ t
 have o:Ks (l.set f ({x.1 with cJ:=x.1.cJ.set k y},x.2))=Ks l:=by
  simp only[Ks,th];exact OA (by simp[j])
 have w:(l.set f ({x.1 with cJ:=x.1.cJ.set k y},x.2)).map hd=l.map hd:=by
  rw[th];exact OA (by simp[j,hd])
 have r:∀z∈l.set f ({x.1 with cJ:=x.1.cJ.set k y},x.2),z=({x.1 with cJ:=x.1.cJ.set k y},x.2)\/z∈l/\z.2.E≠x.2.E:=λz m=>by
  obtain⟨G,i⟩:=List.mem_iff_getElem?.1 m;rw[iV]at i;split at i
  ·split at i
   ·exact Or.inl (by simpa using i.symm)
   ·simp at i
  ·next hne=>
   refine Or.inr ⟨av i,λe=>hne ?_⟩;have s:f<(Ks l).length:=by simpa[Ks]using aD j
   exact(List.getElem?_inj s h.nd).1 (by simp[Ks,j,i,e])
 refine⟨D,?_,?_,λz m=>?_,by rw[o];exact h.nd,λd g=>by rw[ay];exact h.lt d g,h.nq,λz m=>?_⟩
 ·rw[o];exact h.d.le (F.cW λd g=>ai _ (p d g))
 ·rw[o,w];exact h.g.Ly RA.mono F p (by simp;exactλe=>h.kq x n e.symm)
 ·rw[o]
  rcases r z m with e|⟨e,s⟩
  ·rw[e];exact u
  ·exact(h.c z e).Ly dG.mono F (λd g=>ai _ (p d g)) (by simpa using s)
 ·rcases r z m with e|⟨e,s⟩
  ·rw[e];exact h.nc x n
  ·exact h.nc z e
end
def SW{c:List dk}(h:CJ c){f k:Nat}{x:Instr}(g:c[f]? =some p)(i:p.cJ[k]? =some x)(d:Q7 x y):CJ (c.set f {p with cJ:=p.cJ.set k y}):=by
 have b:=h.dz p (av g);refine⟨by simpa using h.iu,by simpa using h.nR,λq j=>?_⟩;rcases dE j with e|e
 ·exact h.dz q e
 ·subst e;refine⟨b.params,b.cG,by simpa using b.iu,by simpa using b.nR,λl z a=>?_,λz a=>?_⟩
  ·simp only[iV]at a;split at a
   ·next e=>
    subst e;split at a
    ·simp at a;subst a;exact d.1 _ (b.cJ _ _ i)
    ·simp at a
   ·exact b.cJ _ _ a
  ·rcases dE a with e|e
   ·exact b.lI z e
   ·rw[e];exact d.2
section
variable{a:List Nat}{m:J}{b P:Nat}{c:O}
def Gp(hS:∀o∈a,o<m.size)(ae:b∈a)(K:Rd b c P m)(hP:P+100<=10000000000000000){ac p:O}{u:List bu×List dk}(aj:IT (bM a m) ac p u)(U:UI u):aL cp 82 [vp b 0,.agg #[O.v ac,O.v p]] m (PP IT UI a b c m (P+11)):=by
 apply zw (b,0);simp -zeta only[aC,aB];have C:=K.lt;intro j aa;have b2:BS [j.size,m.size] b c m P aa:=BS.Zp (BS.jZ (S:=a) K _).1 _;have W:N m aa:=(N.push m _).trans (N.push j _);clear_value aa;refine(vB (b2.hS hS) ((aj.1.le (bG _ _)).ext W) (sj U.2) (eK.mono (iP.le (bG _ _) aj.2) W λ_ _=>kJ.le W.le) U.1).mono λ_ n⟨B,q,f,e,A,hl,x3⟩=>⟨(b2.lw C λ_ h=>h).dv (x3.fz _),B,q,e,?_⟩;have b3:=b2.to (x3.fz _) (b2.s.r.ext x3);intro m4 L;obtain⟨b5,-,-⟩:=b3.box (S:=a) (m1:=m4) (m2:=L) rfl rfl rfl;obtain⟨x5,-,-⟩:=jN (M:=n) (d:=m4) (c:=L) rfl rfl rfl;clear_value L;have A5:uQ ([n.size,j.size,m.size]++a) m L B q u.1 f:=A.re (x5.fz []) aJ (λd g=>⟨by
  rcases List.mem_cons.1 g with e|e
  ·exact Or.inr V
  ·exact Or.inl e,b5.hS hS d g⟩) W.size
 refine b5.pick C V (λ_ h=>h) 2 λao m6 i0 i1 b6 f6=>?_;have hB:∀d∈[b],d∈[n.size,j.size,m.size]++a:=by simp[ae]
 have T:∀{w M':J}{f:List (dk×O)},uQ ([n.size,j.size,m.size]++a) m w B q u.1 f->Fz [b] w M'->uQ ([n.size,j.size,m.size]++a) m M' B q u.1 f:=λh H=>h.re H hB (λd g=>⟨Or.inl g,aO (h.lt d g) H.size⟩) (ad _);refine⟨λR w=>∃r:Nat,R=r/\r<=2/\BS [n.size,j.size,m.size] b c m (P+11 -5*r) w/\∃f,uQ ([n.size,j.size,m.size]++a) m w B q u.1 f/\CJ (f.map (·.1)),λR _=>R.toNat,⟨(ao+1).toNat,by rw[aP V V];omega,V,⟨⟨b6.s.f,b6.s.r.mono V⟩,b6.fW⟩,f,T A5 f6,hl▸U.1⟩,?_⟩;rintro R w ⟨r,rfl,hk,d,f,A,t⟩;refine⟨λh=>?_,λ_=>d.gW IT.mn K aJ (x:=(u.1,f.map (·.1))) (A.it (by have:=t.nR;simp at this;omega) λy i=>(uQ.nR t i).nR) ⟨t,U.2⟩ V _⟩;simp only[mP,au]at h;have aA:=A.len;have l4:f.length<=4:=by simpa using t.nR
 have l0:0<f.length:=by simpa using t.iu
 refine d.pick C V (λ_ h=>h) (q.len:Int) λH m7 Z f1 b7 f7=>?_;have X:=T A f7;obtain⟨y,i⟩:=ag (l:=f) (k:=H.toNat) V;obtain⟨-,-,-,-,-,-,g7,-,-⟩:=X.iv V i;have E:=uQ.nR t (av i);have c7:=X.cJ (av i) E.nR;have ax:=c7.len;have aw:=E.iu;refine⟨Z,V,y.2,g7,b7.pick C V (λ_ h=>h) (y.2.len:Int) λap Q j0 j1 Y f8=>?_⟩;have v:=T X f8;obtain⟨-,-,-,-,-,-,g8,-,-⟩:=v.iv V i;have c8:=v.cJ (av i) E.nR;obtain⟨aq,D⟩:=ag (l:=y.1.cJ) (k:=ap.toNat) V;obtain⟨ar,jj,ha,hj,e0,e1,e2,e3,e4,e5⟩:=c8.D D;have fW:∀{d s:Nat}{ak:Value},af (bM (q.E::([n.size,j.size,m.size]++a)) Q) d s=some ak->af Q d s=some ak:=λh=>(dV.1 h).2;refine⟨Z,V,y.2,g8,Z,V,y.2,g8,j0,V,_,fW e0,_,fW e1,_,fW e2,_,fW e3,_,fW e4,_,fW e5,?_⟩;have hZ:∀o∈q.E::(Ks f++([n.size,j.size,m.size]++a)),o<Q.size:=λo hc=>by
  rcases List.mem_cons.1 hc with e|e
  ·rw[e];exact v.g.be.2
  ·rcases List.mem_append.1 e with e|e
   ·obtain⟨ab,z,rfl⟩:=List.mem_map.1 e;exact(v.c ab z).be.2
   ·exact v.lt o e
 refine(Gn hZ Y.s.r V (ha.le (ji _ (by simp[ae]))) (hj.le (bG _ _)) (E.lI aq (av D)) ⟨_,E.cJ _ _ D⟩).mono λ_ m9⟨F,a',j',e,am,an,g,r9,I⟩=>⟨(Y.lw C λ_ h=>h).dv I,_,_,_,_,_,_,e,?_⟩;have G:=T v I;have z:=Y.to I r9;obtain⟨ab,al⟩:=G.wr z.s.f i (aD D) (cs:=[.i F.op,.i F.dst,.i F.bL,.i F.bH,.s a',.s j']) (y:=F) ⟨a',j',rfl,am,an⟩;have yc:=(G.c y (av i)).be;have ny:=G.nc y (av i);have ah:∀s d,d∈q.E::([n.size,j.size,m.size]++a)->d≠b->af m9 d s=af Q d s:=λs d g hn=>aM (I.same d (hZ d ((List.mem_cons.1 g).elim (λe=>by simp[e]) λe=>ai _ (fw _ e))) (by simpa using hn)) s;have yq:=G.g.be;have az:=z.fW n.size aJ;refine⟨ah _ _ aJ V,ah _ _ aJ V,j0,V,ab,λd g=>bt _ _ _ _ λe=>ny (by rw[<-e];exact bJ _ g),⟨r -1,?_,V,⟨⟨z.s.f.ah (Or.inr V) _ _,(K.ah z.s.r z.s.f V _ _).mono V⟩,λo hc=>by rw[ay];exact z.fW o hc⟩,_,al,?_⟩,?_⟩
 ·rw[aP V V];omega
 ·rw[th];exact SW t (by simp[i]) D g
 ·rw[aP V V];show((r:Int) -1).toNat<(r:Int).toNat;omega
end
end
section
variable{m:J}{b:Nat}{c a j:O}
def BI.jZ{L:List Nat}{i M:J}{k Q:Nat}{p q:List Int}(h:BI i k b c m Q M a j p q)(o:b<m.size)(u:Q<=10000000000000000)(s:∀f∈L,m.size<=f/\f<=k)(e:List Int){g:List Ce}{n:Nat}(w:g=e.map Ce.i)(A:n=e.length)(z:0<e.length/\e.length<=100){K:Int->J->Prop}
 (y:∀t d,BI i k b c m (Q+1) d a j p q->K t d):aL cp 84 [vp b 0,O.v (.mk M.size 0 n n)] (M.push (.cells (bC g) aI)) λC d=>dR L (M.push (.cells (bC g) aI)) d/\∃t:Int,C=vi t/\K t d:=
 have:=h.hi
 have x:=N.push M (.cells (bC g) aI)
 have D:=x.size
 (Cs h.s u e w A z).mono λ_ d⟨t,r,_,B,l⟩=>⟨l.dv λf v=>by have:=s f v;simp only[nk];omega,t,r,y t d ((h.to o (x.fz _) (h.s.r.ext x)).to o l B.r)⟩
def Ff{Z:List Nat}{P:Nat}{x:Instr}(p:∀d∈Z,d<m.size)(d:Rd b c P m)(hP:P+20<=10000000000000000)(U:aq m a x.args)(W:aq m j x.dX)(q:x.args.length<=1000000000000/\x.dX.length<=1000000000000):
 aL cp 139 [vp b 0,Ug x a j] m (IX Z b c m (P+4) λ_=>True):=by
 apply yo (b,0)
 simp(config:={maxSteps:=1000000}) -zeta only[aC,aB]
 have r:=d.lt
 intro v i
 obtain⟨H,C⟩:=dF (a:=v) (c:=i) rfl rfl
 have k:v.size=m.size+1:=by simp[v]
 have s2:i.size=m.size+2:=by simp[i,k]
 clear_value i
 clear_value v
 refine(vC [] (U.ext H) (W.ext H) q).mono λ_ s⟨K,N,n,L,E,X,S⟩=>⟨S.dv C,_,_,_,_,_,_,n,?_⟩
 intro Y F
 obtain⟨I,-,z5⟩:=jN (M:=s) (d:=Y) (c:=F) rfl rfl rfl
 clear_value F
 have ya:=L.be;have yj:=E.be
 have J:=(H.trans S).trans I
 have b5:BI i s.size b c m P F K N x.args x.dX:=⟨L.ext I,E.ext I,X,⟨J.fz _,d.ext J⟩,⟨V,oD q.1,oD q.2⟩,V,V,V,V⟩
 have u:∀B∈[s.size,v.size,m.size],m.size<=B/\B<=s.size:=bR
 refine b5.pick r V u 6 λac y _ _ b6 _ f6=>?_
 have y6:=b6.hi
 have R:∀{w:O}{Q:List Int},GI [] i y w Q->Q.length<=1000000000000->aL cp 115 [vp b 0,O.v w] y λA g=>dR [s.size,v.size,m.size] y g/\∃f,A=O.v f/\∃h,GI [] y g f h/\h.length<=1000000000001/\Rd b c (P+4) g/\Fz [b] y g:=λo C=>
  (vQ b6.s.r V (aq.le (bG _ _) (o.done aJ C)) C).mono λ_ g⟨f,h,n,T,D,_,z,t⟩=>⟨t.dv λB q=>by have:=u B q;simp only[nk];omega,f,n,h,T,V,z,t⟩
 refine⟨λ_=>b6.pick r V u 26 λA G _ _ e _ _=>(e.put d _ _).gW d p k V trivial _,λ_=>⟨λ_=>b6.jZ r V u [0,1,-1,99] rfl rfl aJ λA G e=>(e.put d _ _).gW d p k V trivial _,λ_=>⟨λ_=>b6.jZ r V u [0,1,5,-1,1000,2000] rfl rfl aJ λA G e=>(e.put d _ _).gW d p k V trivial _,λ_=>⟨λ_=>b6.jZ r V u [0,1,-1,99] rfl rfl aJ λA G e=>(e.put d _ _).gW d p k V trivial _,λ_=>⟨λ_=>?_,λ_=>⟨λ_=>?_,λ_=>b6.gW d p k V trivial _⟩⟩⟩⟩⟩⟩
 ·refine(R b6.ga q.1).mono λ_ g⟨w,f,n,h,o,D,z,t⟩=>⟨w,f,n,?_⟩
  have aa:=o.be
  have ab:=b6.s.f.size
  have l:=b6.to r t z
  have e:BI i s.size b c m (P+4) g f N h x.dX:=⟨o.ct aJ V,l.gj,by have:=E.be;omega,l.s,⟨V,D,b6.lo.2.2⟩,V,V,l.hi.2.2⟩
  exact(e.put d _ _).gW d p k V trivial _
 ·refine(R b6.gj q.2).mono λ_ g⟨w,f,n,h,o,D,z,t⟩=>⟨w,f,n,?_⟩
  have aa:=o.be
  have ab:=b6.s.f.size
  have l:=b6.to r t z
  have e:BI i s.size b c m (P+4) g K f x.args h:=⟨l.ga,o.ct aJ V,V,l.s,⟨V,b6.lo.2.1,D⟩,V,V,l.hi.2.2⟩
  exact(e.put d _ _).gW d p k V trivial _
end
section
def AD(S:List Nat)(b:Nat)(c:O)(m:J)(P:Nat)(v:Value)(a:J):Prop:=∃s d,v=O.v s/\cr (bM S a) s d/\Rd b c P a/\Fz [b] m a
structure DD(S:List Nat)(rb:Nat)(bs:O)(m:J)(Q:Nat)(M:J)(s:O)(ds:List bu):Prop where
 g:Xu S m M s ds
 r:Rs rb bs m Q M
 l:0<ds.length/\ds.length<=100
section
variable{a:List Nat}{b P Q h g:Nat}{c s:O}{m M f:J}{e:List bu}
def DD.to(d:DD a b c m Q M s e)(i:b∈a/\b<m.size)(g:Fz [b] M f)(r:Rs b c m h f):DD a b c m h f s e:=⟨d.g.dO hO.mono g (by simp;exact i),r,d.l⟩
def DD.ext(h:DD a b c m Q M s e)(x:N M f):DD a b c m Q f s e:=⟨h.g.ext hO.mono x,h.r.ext x,h.l⟩
def DD.fW(h:DD a b c m Q M s e)(g:∀d∈a,d<m.size):∀d∈s.E::a,d<M.size:=λd i=>(List.mem_cons.1 i).elim (λf=>f▸h.g.be.2) λf=>aO (g d f) h.r.f.size
def DD.lit(h:DD a b c m Q M s e)(f:∀d∈a,d<m.size)(l:List Int){cs:List Ce}{n:Nat}(d:cs=l.map Ce.i)(g:n=l.length)(i:l.length<=100):aq (bM (s.E::a) (M.push (.cells (bC cs) aI))) (.mk M.size 0 n n) l:=aq.lit aI l (h.fW f) d g V
def DD.gW(h:DD a b c m Q M s e)(f:∀d∈a,d<m.size)(d:Q<=g):AD a b c m g (O.v s) M:=⟨s,e,rfl,h.g.done hO.mono f bh (by have:=h.l;omega),h.r.r.mono d,h.r.f⟩
def DD.set(h:DD a b c m Q M s e)(o:∀f∈a,f<m.size)(i:Rd b c P m)(n:Q<=g){k:Int}(p:0<=k/\k<(e.length:Int)){cs:List Ce}{d:bu}(hd:hO (bM (s.E::a) M) cs d):
 0<=k/\k<(s.len:Int)/\dZ M s.E (s.off+k.toNat*3) 3/\AD a b c m g (O.v s) (ah M s.E (s.off+k.toNat*3) cs):=by
 have q:=h.g.len bh
 have y:=h.g.be
 obtain⟨w,l,f,j⟩:=h.g.set hO.mono h.r.f (k:=k.toNat) V hd
 exact⟨p.1,V,w,s,_,rfl,l.done hO.mono o bh (by have:=h.l;simp;omega),(i.MC h.r.r f (j b (by have:=i.lt;omega))).mono n,f⟩
def DD.jB(h:DD a b c m Q M s e)(i:∀d∈a,d<m.size)(k:Rd b c P m)(q:Q<=g){d:List Ce}{n:Nat}(l:List (bu×List Ce))(hd:∀x∈l,hO (bM (s.E::a) M) x.2 x.1)(t:d=l.flatMap (·.2))(u:n=l.length)(v:l.length<=100):
 jh (M.push (.cells (bC d) jw)) jw [.i 0,.i 0,.s .nil] 40 s (.mk M.size 0 n n) λr f=>AD a b c m g (O.v r) f:=by
 have x:=N.push M (.cells (bC d) jw)
 have z:=h.g.be
 have H:=(AM hO.mono (h.fW i) jw l hd t u).done hO.mono (h.fW i) bh bR
 have w:=h.l
 refine Gr.all (g:=[.i 0,.i 0,.s .nil]) hO.mono bh (h.ext x).g (h.ext x).r.f H bR λr y p j A o=>⟨r,_,rfl,p.done hO.mono i bh bR,(k.MC (h.ext x).r.r j (o b (h.ext x).r.r.lt (by have:=k.lt;omega))).mono q,j⟩
def HZ(g:∀z∈a,z<m.size)(O:b∈a)(v:Rd b c P m)(hP:P+100<=10000000000000000):aL cp 138 [vp b 0] m (AD a b c m (P+6)):=by
 apply Bi (b,0);have hr:=v.lt;have w:b∈a/\b<m.size:=⟨O,hr⟩;refine(vF g O v V).mono λ_ m1⟨s,e,h,g1,ae,d1,f1⟩=>⟨s,h,?_⟩;have R:DD a b c m (P+1) m1 s e:=⟨g1,⟨f1,d1⟩,by have:=oP e ae;omega⟩;have sl:s.len=e.length:=g1.len bh;have dl:=R.l;refine(cw d1 V (s.len:Int)).mono λ_ m2⟨D,h,k0,k1,d2,f2⟩=>⟨D,h,?_⟩;have Z:=R.to w f2 (R.r.to f2 d2);have L:0<=D/\D<(e.length:Int):=V;refine(cw d2 V 14).mono λ_ E⟨af,h,_,_,d3,f3⟩=>⟨af,h,?_⟩;have k:=Z.to w f3 (Z.r.to f3 d3);have Q:∀{M:J},SH M .nil []:=⟨rfl,eY _,aJ,aJ⟩;have x:∀{M f:J},N M f->Le (bM (s.E::a) M) (bM (s.E::a) f):=λX=>X.cW _;refine⟨λ_=>?_,λ_=>⟨λ_=>?_,λ_=>⟨λ_=>?_,λ_=>⟨λ_=>?_,λ_=>⟨λ_=>?_,λ_=>⟨λ_=>?_,λ_=>k.gW g V⟩⟩⟩⟩⟩⟩
 ·refine(Cs k.r V [-1,5,0,2] rfl rfl aJ).mono λ_ o⟨t,h,_,F,u⟩=>⟨t,h,?_⟩;have r:=(k.ext (N.push E _)).to w u F;refine(Cs F V [0,1,5] rfl rfl aJ).mono λ_ l⟨q,h,_,A,y⟩=>⟨q,h,?_⟩;have p:=(r.ext (N.push o _)).to w y A;exact p.set g v V L (d:=⟨t,q,[]⟩) ⟨.nil,rfl,Q⟩
 ·refine(Cs k.r V [-1,0,4,5] rfl rfl aJ).mono λ_ o⟨t,h,_,F,u⟩=>⟨t,h,?_⟩;have r:=(k.ext (N.push E _)).to w u F;have K:=r.lit g [t] (cs:=[.i t]) (n:=1) rfl rfl aJ;refine Cl _ λl y=>?_;have p:=(r.ext (N.push o _)).ext y;have a2:=p.lit g [0,0,0,0] (cs:=[.i 0,.i 0,.i 0,.i 0]) (n:=4) rfl rfl aJ;refine Cl _ λq B=>?_;have G:=(p.ext (N.push l _)).ext B;have a3:=G.lit g [] (cs:=[]) (n:=0) rfl rfl aJ;refine Cl _ λA C=>?_;have H:=(G.ext (N.push q _)).ext C;have I:=(N.push q (.cells (bC []) aI)).trans C;have U:=((N.push l (.cells (bC [.i 0,.i 0,.i 0,.i 0]) aI)).trans B);have z:=wg (H.fW g) oC [([t],.mk o.size 0 1 1),([0,0,0,0],.mk l.size 0 4 4),([],.mk q.size 0 0 0)] aJ (by
   simp only[aU,jy,AE,Z2,Z1];exact⟨K.le (x ((y.trans U).trans I)),a2.le (x (B.trans I)),a3.le (x C)⟩) (c:=[.s (.mk o.size 0 1 1),.s (.mk l.size 0 4 4),.s (.mk q.size 0 0 0)]) (b:=3) rfl rfl
  exact(H.ext (N.push A _)).set g v V L (d:=⟨0,0,_⟩) ⟨_,rfl,z⟩
 ·have K:=k.lit g [cR (D+1)] (cs:=[.i (cR (D+1))]) (n:=1) rfl rfl aJ;refine Cl _ λl y=>?_;have p:=(k.ext (N.push E _)).ext y;have z:=wg (p.fW g) oC [([cR (D+1)],.mk E.size 0 1 1)] aJ (by
   simp only[aU,jy,AE,Z1];exact K.le (x y)) (c:=[.s (.mk E.size 0 1 1)]) (b:=1) rfl rfl
  exact(p.ext (N.push l _)).set g v V L (d:=⟨0,0,_⟩) ⟨_,rfl,z⟩
 ·refine(Cs k.r V [0,2,1] rfl rfl aJ).mono λ_ o⟨t,h,_,F,u⟩=>⟨t,h,?_⟩;have r:=(k.ext (N.push E _)).to w u F;exact r.jB g v V [(⟨2,t,[]⟩,[.i 2,.i t,.s .nil])] (by simp;exact⟨.nil,rfl,Q⟩) rfl rfl aJ
 ·refine(cw k.r.r V 2).mono λ_ o⟨t,h,_,_,d4,u⟩=>⟨t,h,?_⟩;have r:=k.to w u (k.r.to u d4);have K:=r.lit g [] (cs:=[]) (n:=0) rfl rfl aJ;refine Cl _ λl y=>?_;have p:=(r.ext (N.push o _)).ext y;have a2:=p.lit g [2] (cs:=[.i 2]) (n:=1) rfl rfl aJ;refine Cl _ λq B=>?_;have G:=(p.ext (N.push l _)).ext B;have a3:=G.lit g [] (cs:=[]) (n:=0) rfl rfl aJ;refine Cl _ λA C=>?_;have H:=(G.ext (N.push q _)).ext C;have a4:=H.lit g [] (cs:=[]) (n:=0) rfl rfl aJ;refine Cl _ λm8 Y=>?_;have D8:=(H.ext (N.push A _)).ext Y;have W:=(N.push A (.cells (bC []) aI)).trans Y;have I:=(N.push q (.cells (bC []) aI)).trans C;have U:=((N.push l (.cells (bC [.i 2]) aI)).trans B);have z:=wg (D8.fW g) oC [([],.mk o.size 0 0 0),([2],.mk l.size 0 1 1),([],.mk q.size 0 0 0),([],.mk A.size 0 0 0)] aJ (by
   simp only[aU,jy,AE,Z2,Z1];exact⟨K.le (x (((y.trans U).trans I).trans W)),a2.le (x ((B.trans I).trans W)),a3.le (x (C.trans W)),a4.le (x Y)⟩) (c:=[.s (.mk o.size 0 0 0),.s (.mk l.size 0 1 1),.s (.mk q.size 0 0 0),.s (.mk A.size 0 0 0)]) (b:=4) rfl rfl
  have T:=D8.ext (N.push m8 (.cells (bC [.s (.mk o.size 0 0 0),.s (.mk l.size 0 1 1),.s (.mk q.size 0 0 0),.s (.mk A.size 0 0 0)]) oC));refine(cw T.r.r V 3).mono λ_ ag⟨aa,h,j0,j1,ad,F⟩=>⟨aa,h,j0,bR,aJ,?_⟩;have ab:=T.to w F (T.r.to F ad);have c':=(eK.le z (F.cW (S:=s.E::a) (by simp[O])) λac X=>mw.le (F.cW (by simp[O])) ac X).Jk (i:=aa.toNat) (j:=4) V aJ;exact ab.set g v V L (d:=⟨t,0,_⟩) ⟨_,rfl,c'⟩
 ·exact k.jB g v V [(⟨0,0,[]⟩,[.i 0,.i 0,.s .nil]),(⟨3,0,[]⟩,[.i 3,.i 0,.s .nil])] (by simp;exact⟨⟨.nil,rfl,Q⟩,⟨.nil,rfl,Q⟩⟩) rfl rfl aJ
end
end
section
def Tr{α:Type}(_:α):Prop:=True
section
variable{a:List Nat}{m:J}{b P:Nat}{c:O}
def tX(hS:∀A∈a,A<m.size)(aa:b∈a)(h0:Rd b c P m)(hP:P+200<=10000000000000000){ao ap:O}{x:List bu×List dk}(v:IT (bM a m) ao ap x)(aq:UI x)(aA:Int):aL cp 83 [vp b 0,.agg #[O.v ao,O.v ap],vi aA] m (PP IT Tr a b c m (P+10)):=by
 apply ym (b,0);simp(config:={maxSteps:=1000000}) -zeta only[aC,aB];have F:=h0.lt;intro d ae;have b2:BS [d.size,m.size] b c m P ae:=BS.Zp (BS.jZ (S:=a) h0 _).1 _;have x2:N m ae:=(N.push m _).trans (N.push d _);have s1:d.size=m.size+1:=by simp[d]
 have t2:IT (bM ([d.size,m.size]++a) ae) ao ap x:=IT.mn _ _ _ _ _ (x2.bM λh s=>by
  simp at s;rcases s with e|e|e
  ·exact Or.inr V
  ·exact Or.inr V
  ·exact Or.inl e) v
 clear_value ae;refine b2.pick F V (λ_ p=>p) aA λaS m3 _ _ b3 f3=>?_;have t3:=IT.mn _ _ _ _ _ (BS.le (B:=[d.size,m.size]) aa f3) t2;refine⟨λ_=>b3.gW IT.mn h0 aJ t3 trivial V _,λ_=>?_⟩;refine(vB (b3.hS hS) (t3.1.le (bG _ _)) (sj aq.2) (iP.le (bG _ _) t3.2) aq.1).mono λ_ f⟨R,q,D,e,A4,hl,x4⟩=>⟨(b3.lw F λ_ p=>p).dv (x4.fz _),R,q,e,?_⟩;have b4:=b3.to (x4.fz _) (b3.s.r.ext x4);intro m5 m6;obtain⟨b6,-,-⟩:=b4.box (S:=a) (m1:=m5) (m2:=m6) rfl rfl rfl;obtain⟨x6,-,-⟩:=jN (M:=f) (d:=m5) (c:=m6) rfl rfl rfl;clear_value m6;have A6:uQ ([f.size,d.size,m.size]++a) m m6 R q x.1 D:=A4.re (x6.fz []) aJ (λh s=>⟨by
  rcases List.mem_cons.1 s with e|e
  ·exact Or.inr V
  ·exact Or.inl e,b6.hS hS h s⟩) b3.s.f.size
 have ok:CJ (D.map (·.1)):=hl▸aq.1;have aZ:=A6.len;have l4:D.length<=4:=by simpa using ok.nR
 have l0:0<D.length:=by simpa using ok.iu
 have cl:∀g∈D,g.1.cJ.length<=1000000000000:=λg C=>(uQ.nR ok C).nR;refine b6.pick F V (λ_ p=>p) (q.len:Int) λr i f0 f1 b7 f7=>?_;have A7:=A6.re f7 (S':=[f.size,d.size,m.size]++a) (by simp[aa]) (λh s=>⟨Or.inl s,b7.hS hS h s⟩) (ad _);obtain⟨g,C⟩:=ag (l:=D) (k:=r.toNat) V;obtain⟨ac,h,g0,g1,g2,g3,g4,aN,aQ⟩:=A7.iv V C;refine⟨f0,V,ac,g0,h,g1,_,g2,_,g3,g.2,g4,?_⟩;intro m8 m9;obtain⟨b9,-,-⟩:=b7.box (S:=a) (m1:=m8) (m2:=m9) rfl rfl rfl;obtain⟨x9,-,-⟩:=jN (M:=i) (d:=m8) (c:=m9) rfl rfl rfl;clear_value m9;have A9:uQ ([i.size,f.size,d.size,m.size]++a) m m9 R q x.1 D:=A7.re (x9.fz []) aJ (λh s=>⟨by
  rcases List.mem_cons.1 s with e|e
  ·exact Or.inr V
  ·exact Or.inl e,b9.hS hS h s⟩) (ad _)
 have gW:∀{n:J}{U:O}{ar:List bu×List dk}{Q:Nat},BS [i.size,f.size,d.size,m.size] b c m Q n->IT (bM ([i.size,f.size,d.size,m.size]++a) n) U q ar->Q<=P+10->PP IT Tr a b c m (P+10) (.agg #[O.v U,O.v q]) (ah n d.size 0 [.s U,.s q]):=λh v p=>h.gW IT.mn h0 aJ v trivial p _;refine⟨λ_=>gW b9 (A9.it V cl) V,λhn=>?_⟩;have hB:∀h∈[b],h∈[i.size,f.size,d.size,m.size]++a:=by simp[aa]
 have X:∀{n o:J}{D:List (dk×O)},uQ ([i.size,f.size,d.size,m.size]++a) m n R q x.1 D->Fz [b] n o->uQ ([i.size,f.size,d.size,m.size]++a) m o R q x.1 D:=λp r=>p.re r hB (λh s=>⟨Or.inl s,aO (p.lt h s) r.size⟩) (ad _);refine b9.pick F V (λ_ p=>p) 8 λaS H _ _ j au=>?_;have W:=X A9 au;have ax:Le (bM (q.E::([f.size,d.size,m.size]++a)) i) (bM (q.E::([i.size,f.size,d.size,m.size]++a)) H):=(x9.bM λh s=>by
  simp only[cA,dN,aU]at s⊢;rcases s with e|e|e
  ·exact Or.inl (Or.inl e)
  ·exact Or.inr V
  ·exact Or.inl (Or.inr e)).trans (au.cW (by simp[aa]))
 have ha:=aN.le ax;have s:=aQ.le ax;have az:∀{n o:J},Fz [b] n o->Le (bM (q.E::([i.size,f.size,d.size,m.size]++a)) n) (bM (q.E::([i.size,f.size,d.size,m.size]++a)) o):=λr=>r.cW (by simp[aa]);have G:=uQ.nR ok (av C);have done:∀{n:J}{Q:Nat}{E:List Ce}{aE:dk},BS [i.size,f.size,d.size,m.size] b c m Q n->uQ ([i.size,f.size,d.size,m.size]++a) m n R q x.1 D->kJ (bM (q.E::([i.size,f.size,d.size,m.size]++a)) n) E aE->Q<=P+10->
  0<=r/\r<(q.len:Int)/\dZ n q.E (q.off+r.toNat*5) 5/\(dR [i.size,f.size,d.size,m.size] n (ah n q.E (q.off+r.toNat*5) E)/\PP IT Tr a b c m (P+10) (.agg #[O.v R,O.v q]) (ah (ah n q.E (q.off+r.toNat*5) E) d.size 0 [.s R,.s q])):=λ{n Q E aE} h K hp hQ=>by
  obtain⟨Y,ps,tt⟩:=K.YP h.s.f V cl (k:=r.toNat) V hp
  have yq:=K.g.be
  exact⟨f0,V,Y,λA T=>bt _ _ _ _ λe=>K.nq (by rw[<-e];exact bJ _ T),gW ⟨h.s.put h0 yq.1 _ _,λA T=>by rw[ay];exact h.fW A T⟩ tt hQ⟩
 have w:∀{n o:J}{Q:Nat},BS [i.size,f.size,d.size,m.size] b c m Q n->Fz [b] n o->∀t,af o i.size t=af n i.size t:=λh r t=>kg r F (h.fW _ aJ) t;have Z:∀{n o:J}{Q:Nat},BS [i.size,f.size,d.size,m.size] b c m Q n->Fz [b] n o->∀t,af o f.size t=af n f.size t:=λh r t=>kg r F (h.fW _ aJ) t;have an:=W.cJ (av C) G.nR;have aw:=j.hS hS;have lq:∀A∈q.E::([i.size,f.size,d.size,m.size]++a),A<H.size:=λA T=>(List.mem_cons.1 T).elim (λe=>e▸W.g.be.2) (aw A);have jZ:∀(ls:List Int){E:List Ce}{ai:Nat},E=ls.map Ce.i->ai=ls.length->0<ls.length/\ls.length<=100->∀{al:Int->J->Prop},(∀v o,BS [i.size,f.size,d.size,m.size] b c m (P+4) o->uQ ([i.size,f.size,d.size,m.size]++a) m o R q x.1 D->Le (bM (q.E::([i.size,f.size,d.size,m.size]++a)) H) (bM (q.E::([i.size,f.size,d.size,m.size]++a)) o)->(∀t,af o i.size t=af (H.push (.cells (bC E) aI)) i.size t)->(∀t,af o f.size t=af (H.push (.cells (bC E) aI)) f.size t)->al v o)->
  aL cp 84 [vp b 0,O.v (.mk H.size 0 ai ai)] (H.push (.cells (bC E) aI)) λaj o=>dR [i.size,f.size,d.size,m.size] (H.push (.cells (bC E) aI)) o/\∃v:Int,aj=vi v/\al v o:=λls{E ai} h1 h2 h3{al} hk=>by
  have x:=N.push H (.cells (bC E) aI)
  have L:=j.to (x.fz _) (j.s.r.ext x)
  exact(Cs j.s V ls h1 h2 h3).mono λ_ o⟨v,e,_,aV,r⟩=>⟨(L.lw F λ_ p=>p).dv r,v,e,hk v o (L.to r aV.r) (X W ((x.fz _).trans r)) (az ((x.fz _).trans r)) (w L r) (Z L r)⟩
 refine⟨λ_=>?_,λ_=>⟨λ_=>?_,λ_=>⟨λ_=>?_,λ_=>⟨λ_=>?_,λ_=>?_⟩⟩⟩⟩
 ·refine(vQ j.s.r V (s.le (bG _ _)) (by have:=G.cG;omega)).mono λ_ ab⟨U,I,e,am,aF,_,ak,u⟩=>⟨(j.lw F λ_ p=>p).dv u,U,e,w j u _,w j u _,w j u _,w j u _,Z j u _,?_⟩;exact done (aE:=⟨g.1.params,I,g.1.aV,g.1.ao,g.1.cJ⟩) (j.to u ak) (X W u) ⟨ac,U,g.2,rfl,ha.le (az u),GI.done (GI.any am) lq (by have:=G.cG;show I.length<=_;omega),(X W u).cJ (av C) G.nR⟩ V
 ·have x:=(N.push H (.cells (bC [.i 0,.i 1,.i (cR (g.1.ao+1)),.i 2001,.i (-1)]) aI)).fz [b];exact⟨w j x _,w j x _,w j x _,w j x _,Z j x _,jZ [0,1,cR (g.1.ao+1),2001,-1] rfl rfl aJ λv o b' K le I e4=>⟨I _,I _,I _,I _,e4 _,done (aE:=⟨g.1.params,g.1.cG,g.1.aV,v,g.1.cJ⟩) b' K ⟨ac,h,g.2,rfl,ha.le le,s.le le,K.cJ (av C) G.nR⟩ V⟩⟩
 ·have x:=(N.push H (.cells (bC [.i 0,.i 1,.i 9]) aI)).fz [b];have cl:=an.len;have cc:=an.cap;have c0:=G.iu;have cf:=G.nR;have ew:cR ((g.2.len:Int) -1)=((g.2.len -1:Nat):Int):=by rw[aP V V];omega
  rw[ew];refine⟨cC 0,V,V,w j x _,w j x _,w j x _,w j x _,w j x _,Z j x _,jZ [0,1,9] rfl rfl aJ λv o b' K le I e4=>⟨I _,I _,I _,I _,I _,e4 _,done (aE:=⟨g.1.params,g.1.cG,v,g.1.ao,g.1.cJ.take (g.2.len -1)⟩) b' K ⟨ac,h,g.2.cut 0 (g.2.len -1) 6,rfl,ha.le le,s.le le,eK.Rw (K.cJ (av C) G.nR) V⟩ V⟩⟩
 ·refine(HZ aw (by simp[aa]) j.s.r V).mono λ_ ab⟨U,I,e,hd,ak,u⟩=>⟨(j.lw F λ_ p=>p).dv u,U,e,Z j u _,?_⟩;exact gW (ar:=(I,_)) (j.to u ak) ⟨hd,((X W u).it V cl).2⟩ V
 ·have aY:=an.len;have aX:=G.iu;refine j.pick F V (λ_ p=>p) (g.2.len:Int) λaT ab j0 j1 L u=>?_;have I:=X W u;obtain⟨-,-,-,-,-,-,aH,-,-⟩:=I.iv V C;have aG:=I.cJ (av C) G.nR;obtain⟨ar,hz⟩:=ag (l:=g.1.cJ) (k:=aT.toNat) V;obtain⟨a',jj,aK,hj,e0,e1,e2,e3,e4,e5⟩:=aG.D hz;have fW:∀{h t:Nat}{aj:Value},af (bM (q.E::([i.size,f.size,d.size,m.size]++a)) ab) h t=some aj->af ab h t=some aj:=λp=>(dV.1 p).2;refine⟨f0,V,g.2,aH,j0,V,_,fW e0,_,fW e1,_,fW e2,_,fW e3,_,fW e4,_,fW e5,?_⟩;have hZ:∀A∈q.E::(Ks D++([i.size,f.size,d.size,m.size]++a)),A<ab.size:=λA T=>by
   rcases List.mem_cons.1 T with e|e
   ·rw[e];exact I.g.be.2
   ·rcases List.mem_append.1 e with e|e
    ·obtain⟨Y,hw,rfl⟩:=List.mem_map.1 e;exact(I.c Y hw).be.2
    ·exact I.lt A e
  refine(Ff hZ L.s.r V (aK.le (bG _ _)) (hj.le (bG _ _)) (G.lI ar (av hz))).mono λ_ a0⟨z',a2,j2,e,aM,aR,_,aW,K⟩=>⟨(L.lw F λ_ p=>p).dv K,_,_,_,_,_,_,e,?_⟩;have ak:=X I K;have am:=L.to K aW;obtain⟨Y,aF⟩:=ak.wr am.s.f C (aD hz) (cs:=[.i z'.op,.i z'.dst,.i z'.bL,.i z'.bH,.s a2,.s j2]) (y:=z') ⟨a2,j2,rfl,aM,aR⟩;have yc:=(ak.c g (av C)).be;have ny:=ak.nc g (av C);have yq:=I.g.be;refine⟨kg K F yq _,Z L K _,j0,V,Y,λh s=>bt _ _ _ _ λe=>ny (by rw[<-e];exact bJ _ s),gW ⟨am.s.put h0 yc.1 _ _,λA T=>by rw[ay];exact am.fW A T⟩ (aF.it bR λY hw=>?_) V⟩;rcases dE hw with e|e
  ·exact cl Y e
  ·rw[e];simpa using G.nR
def H9(f:∀d∈a,d<m.size)(l:b∈a)(d:Rd b c P m)(K:P+2000+4*(300+40*Cg 18)<=10000000000000000):aL cp 47 [vp b 0] m (PP IT Tr a b c m (P+50+4*(300+40*Cg 18))):=by
 apply Bj (b,0);simp -zeta only[aC,aB];have e:=d.lt;intro g;have z1:g.size=m.size+1:=by simp[g]
 obtain⟨b1,-⟩:BS [m.size] b c m P g/\True:=⟨(BS.jZ (S:=a) d _).1,trivial⟩;clear_value g;refine b1.call (S:=a) e (λ_ h=>h) (Gy (b1.hS f) (by simp[l]) b1.s.r V) λH Q R o r t2 b2 I=>?_;intro y p;obtain⟨b4,w,-⟩:=b2.box (S:=a) (m1:=y) (m2:=p) rfl rfl rfl;clear_value p;have C:=IT.mn _ _ _ _ _ w t2;have k:b∈[o.size,m.size]++a:=by simp[l]
 refine b4.pick e V (λ_ h=>h) 4 λL M _ _ b5 u=>?_;have q:=IT.mn _ _ _ _ _ (BS.le l u) C;refine⟨λ_=>?_,λ_=>?_⟩
 ·refine b5.call (S:=a) e (λ_ h=>h) (Gp (b5.hS f) k b5.s.r V q r) λs A T N E D b6 J=>?_;intro O;obtain⟨i,x⟩:=b6.put (S:=a) d (by simp:o.size∈_) [.s s,.s A];exact i.call (S:=a) e (λ_ h=>h) (tX (i.hS f) k i.s.r V (IT.mn _ _ _ _ _ x D) E 14) λt B G z F n j v=>j.gW IT.mn d aJ n trivial V _
 ·exact b5.call (S:=a) e (λ_ h=>h) (tX (b5.hS f) k b5.s.r V q r 14) λt B G z F n j v=>j.gW IT.mn d aJ n trivial V _
end
end
end Go.Proofs.YtgnjacfobdjeeaaGreat
