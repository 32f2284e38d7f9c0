/- Part of a proof. -/
import Derived.Test.YtbbbdejieenniaaGreatRB02
set_option linter.all false
set_option maxHeartbeats 8000000
set_option maxRecDepth 100000
namespace Go.Proofs.YtbbbdejieenniaaGreat
open Go.Vc
section
variable{X:ad}{b k c:Nat}{s:E}
@[grind cases] structure GC (rb:Nat) (bs:E) (P:Nat) (d p:E) (ds:af) (fs:av) (m:D):Prop where
 rd:Rd rb bs P m
 hd:dw (di [rb] m) d ds
 hp:tU (di [rb] m) p fs
 gp:GP ds fs
def Lw(a:Nat)(L:ad)(m:D):Prop:=∀b∈L,b<m.size/\b≠a
def XP(S:ad)(b:Nat)(c:E)(m:D)(P:Nat)(Q:Ex->Prop)(v:Value)(a:D):Prop:=∃s e,v=.agg #[vi e.op,vi e.cG,s.v]/\jr (di S a) s e.dA/\Q e/\Rd b c P a/\Fz [b] m a
abbrev IR(a:Nat)(m:D)(s:E)(l:ab):Prop:=bg (di [a] m) s l
section
variable{e P i:Nat}{h d p:E}{l:af}{n:av}{m M g:D}{S L:ad}{f:Nat}{j:ap}{Q Q':Ex->Prop}
def fh(f:Fz [e] m M):Le (di [e] m) (di [e] M):=f.eX λ_ h=>h
def GC.to(a:GC e h P d p l n m)(f:Fz [e] m M)(r:Rd e h i M):GC e h i d p l n M:=⟨r,a.hd.le (fh f),tU.le (fh f) a.hp,a.gp⟩
def GC.ext(a:GC e h P d p l n m)(x:J m M):GC e h P d p l n M:=a.to (x.fz _) (a.rd.ext x)
def GC.dj(a:GC e h P d p l n m):eT l:=xE a.gp.ds
def Lw.fz(h:Lw e L m)(f:Fz X m M):Lw e L M:=λb a=>⟨cr (h b a).1 f.aQ,(h b a).2⟩
def Lw.lt(h:Lw e L m)(f:Fz X m M):∀b∈L,b<M.size:=λb a=>(h.fz f b a).1
def Lw.fg(h:Lw e L m)(f:Fz [e] m M):gT L m M:=f.fg λb a=>⟨(h b a).1,by have:=(h b a).2;simpa using this⟩
theorem Lw.dg(h:Lw e L m)(f:Fz [e] m M)(c:Fz [e] M g)(a:b∈L){o:Nat}:aS g b o=aS M b o:=bD (c.bB b (h.fz f b a).1 (by have:=(h b a).2;simpa using this)) o
def XP.aP{P i:Nat}(k:∀a,Q a->Q' a)(j:P<=i){v:Value}:XP S e h m P Q v M->XP S e h m i Q' v M:=λ⟨s,a,b,c,d,f,g⟩=>⟨s,a,b,c,k a d,f.aP j,g⟩
def XP.cg{K:ak}(c:bJ dP f j M (XP S e h M P Q))(m:Lw e L M)(n:∀s a g,jr (di S g) s a.dA->Q a->Rd e h P g->Fz [e] M g->K (.agg #[vi a.op,vi a.cG,s.v]) g):bJ dP f j M λv g=>gT L M g/\K v g:=
 c.aP λv g⟨s,a,d,i,k,l,b⟩=>⟨m.fg b,d▸n s a g i k l b⟩
def Lw.xh(h:Lw e L m)(f:Fz [e] m M)(c:Fz [e] m g):gT L M g:=λb a=>by
 have:=h b a;grind [Fz.bB]
def XP.qv{p:Nat}(q:bJ dP f j M (XP (b::S) e h M P Q))(t:Lw e L M)(o:Fz [e] m M)(r:Rd e h p m)(n:m.size<=b)(v:∀a,Q a->Q' a)(u:P<=i):
 bJ dP f j M λA g=>gT L M g/\∃c d:Int,∃k:E,A=.agg #[vi c,vi d,k.v]/\XP S e h m i Q' (.agg #[vi c,vi d,k.v]) (aW g b 0 [.i c,.i d,.s k]):=
 XP.cg q t λs a g z y w l=>⟨_,_,_,O,s,a,O,jr.le (dU bO λB x=>aX _ x) z,v a y,r.aW (w.aP u) (o.N l) n 0 _,(o.N l).aW (bH n) _ _⟩
abbrev GE(S:ad)(a m:D)(s:E)(l:ax):Prop:=Gr S a m dB 3 Ef s l
def XP.nI{B:Nat}{i:D}{s:E}{n:ax}{K:E->D->Prop}(F:bJ dP f j M (XP (s.bt::S) e h M P Q))(t:GE S i M s n)(z:Fz [e] i M)(w:Lw e L i)(u:Rd e h B i)(I:e∈S)(l:n.length<=1000)
 (G:∀c r g,Q c->GE S i g r (n++[c])->Rd e h P g->Fz [e] i g->Fz [e,s.bt] M g->(r.bt=s.bt\/M.size<=r.bt)->K r g):
 bJ dP f j M λR k=>gT L M k/\∃o p:Int,∃q:E,R=.agg #[vi o,vi p,q.v]/\
  mf (k.push (.cells (dh [.i o,.i p,.s q]) dB)) dB [.i 0,.i 0,.s .nil] 40 s (E.mk k.size 0 1 1) λr g=>gT L (k.push (.cells (dh [.i o,.i p,.s q]) dB)) g/\K r g:=
 XP.cg F (w.fz z) λW c k N H x d=>⟨_,_,_,O,by
  have U:=t.cF;have J:=u.lt;have v:=z.N d;refine Gr.nI (h:=[.i 0,.i 0,.s .nil]) (m:=c) Ef.aP cH (t.fH Ef.aP d (by simp;exact⟨I,J⟩)) v (by cases c;exact Ef.of N) V λr g C m T A=>⟨w.xh (v.push _) m,G c r g H C (u.BP x m (A e x.lt V)) m ⟨fC d.aQ T.1,λb y l=>?_⟩ (oh d.aQ)⟩;simp only[aZ,nm,GH,CL]at l;rw[A b (cr y d.aQ) l.2,d.bB b y (sp l.1)]⟩
def aew{b:D}(h:Fz [e,k] b M)(c:s.bt=k\/b.size<=s.bt)(a:Fz [e,s.bt] M g):Fz [e,k] b g:=
 by grind [Fz.wE]
end
def qS{S:ad}{d P:Nat}{b:E}{m:D}{dA:ax}(j:Rd d b P m)(h:jr (di S m) s dA)(a cG:Int):bJ dP 320 [vi a,vi cG,s.v] m (XP S d b m P (.mk a cG dA=·)):=
 (Oc h a cG).aP λv l⟨k,e,f,g,i,c⟩=>⟨k,e,f,g,i,j.ext c,c.fz _⟩
def SmQ(b:af)(d:av)(c:Nat)(e:Ex):Prop:=(∀a,WX b d.length a e)/\e.n<=c
def ady(c k:Nat)(e:af)(f:av)(t:Int):Prop:=∀(S:ad)(a P:Nat)(b d p:E)(m:D),(∀g∈S,g<m.size)->a∈S->GC a b P d p e f m->P+k<=10^16->
 bJ dP 342 [vp a 0,.agg #[d.v,p.v],vi t] m (XP S a b m (P+k) (SmQ e f c))
def YC{a:af}{b:av}{l:ax}{f i:Int}(m:f=6\/f=10)(h:∀e∈l,SmQ a b 1 e)(k:l.length+1<=c):SmQ a b c (.mk f i l):=
 ⟨λg=>.iU V (λh=>V) V (λh=>V) λe d=>(h e d).1 g,by
  rw[Ex.Zc];have:∀l:ax,(∀e∈l,SmQ a b 1 e)->en l<=l.length:=λl=>by
   induction l with
   |nil=>simp
   |cons x l j=>intro h;rw[Tu,dD];have:=(h x bO).2;have:=j λe d=>h e (by simp[d]);omega
  have:=this l h;omega⟩
theorem VD{d:af}{Y:av}{t:Int}(ht:Ty d t)(hB:(Lo t/\c=1/\k=5)\/((∀a,Lo a->ady 1 5 d Y a)/\c=4/\k=20)):ady c k d Y t:=by
 intro p f A G al aq ap hS aa a hP;apply H9 (f,0);simp -zeta only[dT];intro m aj;let⟨x2,hl⟩:=fV (a:=m) (c:=aj) O O;have s1:=pz m;have hr:=a.rd.lt;have L2:Lw f [m.size,ap.size] aj:=λb I=>⟨hl b I,by simp at I;omega⟩;have W:=a.dj;have h5:=Ty.aet a.gp.ds ht;have ad:∀e∈m.size::p,e<aj.size:=by grind [dH,J.aQ]
 have c2:=a.ext x2;refine(kA (e:=[f]) cC (c2.hd.le fJ) W t).aP λz m3⟨cs,l,e,hc,q,F⟩=>⟨L2.fg (F.fz _),cs,e,?_⟩;subst q;have B:=c2.ext F;have K:=L2.fz (F.fz []);have u3:=x2.N F;have aG:=hc.aT;refine dit (λh0=>?_) λh0=>?_
 .let⟨U,ai⟩:=dY (cY d t) 0;have hh:(cY d t).head?=some U:=by rw[List.head?_eq_getElem?];exact ai
  have T:U∈(cY d t).take 2:=Ii.2 ⟨0,V,by have:=pF.1 ai;exact this.2⟩;have A0:∀{M:D},Fz [f] m3 M->aS M cs.bt (cs.off+Int.toNat 0*1)=some (vi U):=λQ=>(gY.1 ((hc.le (fh Q)).br ai)).2;refine⟨cH,V,U,A0 nR,λa M=>a∈(cY d t).take 2/\Rd f G (A+1) M/\Fz [f] m3 M,⟨λH=>?_,λH=>⟨T,B.rd.aP V,nR⟩⟩,?_⟩
  .simp only[bh]at H;let⟨o,i⟩:=dY (cY d t) 1;have t1:o∈(cY d t).take 2:=Ii.2 ⟨1,V,by have:=pF.1 i;exact this.2⟩;refine(dW B.rd V 4).aP λz m4⟨E,e,_,_,j,g⟩=>⟨K.fg g,E,e,λh=>⟨cH,V,o,(gY.1 ((hc.le (fh g)).br i)).2,t1,j,g⟩,λh=>⟨T,j,g⟩⟩
  rintro c' x ⟨aw,u,i⟩;have L:=K.fz i;refine⟨λa M=>a∈(cY d t).take 2/\((cY d t).head?=some a\/t∉da d a)/\Rd f G (A+1) M/\Fz [f] m3 M,?_,?_⟩
  .refine(fX (e:=[]) ((B.to i u).hd.le (fJ.N ER)) W c').aP λz m6⟨Q,l,e,Z,q,v⟩=>⟨L.fg (v.fz _),Q,e,?_⟩;subst q;refine(fI (Z.le fJ) t).aP λz o⟨b,e,I,g⟩=>⟨(L.fz (v.fz [])).fg (g.fz _),b,e,λan=>?_,λae=>⟨aw,bH λj=>by rw[I.2 j]at ae;exact absurd ae cH,(u.ext v).ext g,(i.cg v).cg g⟩⟩;have j:=(i.cg v).cg g;exact⟨cH,V,U,A0 j,T,bz hh,(u.ext v).ext g,j⟩
  rintro N r ⟨H,h2,r8,X⟩;let⟨z3,ay,zz⟩:=WC d a.gp.ds t h5 N H h2;have c8:=B.to X r8;have L8:=K.fz X;have F8:Fz [f] ap r:=(u3.fz _).N X;have z8:=X.aQ;have aA:=F.aQ;have z2:=x2.aQ;intro m9;obtain⟨x9,s9⟩:=pu m9;have g9:GE (m.size::p) r m9 (.mk r.size 0 0 0) []:=by grind [Gr.bI]
  refine(fX (e:=[f,r.size]) (c8.hd.le (x9.di bO)) W N).aP λz ao⟨Q,l,e,Z,q,ab⟩=>⟨(L8.fz (x9.fz [])).fg (ab.fz _),Q,e,?_⟩;subst q;have ax:=Z.aT;refine gN (n:=(da d N).length) V (λj s M=>∃l,GE (m.size::p) r M s l/\l.length=j/\(∀e∈l,SmQ d Y 1 e)/\Rd f G (A+1+5*j) M/\Fz [f] r M/\Fz [f,r.size] ao M/\(s.bt=r.size\/ao.size<=s.bt)) ⟨[],g9.ext Ef.aP ab,O,bO,(r8.ext x9).ext ab,((x9.N ab).fz _),nR,bz O⟩ ?_;rintro j s M ar μ hj ⟨l,C,az,hq,R,o,ac,hs⟩ ak
  have LM:=L8.fz o;refine dit (λh=>?_) λh=>?_
  .rcases hB with⟨ah,_,_⟩|⟨ih,e1,e2⟩
   .have:=zz ah;omega
   let⟨y,w⟩:=dY (da d N) j;refine⟨V,V,y,(gY.1 ((Z.le (ac.eX λ_ h=>h)).br w)).2,?_⟩;exact XP.nI (ih y (ay y (ba w)) (s.bt::m.size::p) f (A+1+5*j) G al aq M (dH (λe g=>by have:=ad e g;have:=o.aQ;have:=F.aQ;omega) bY C.cF.2) (by simp[aa]) (c8.to o R) V) C o L8 r8 (by simp[aa]) V λe aF M' g g' r' f' am aC=>
    ak V _ _ ⟨_,g',fu,λe' ag=>by rcases bT.1 ag with h|h;exact hq e' h;simp at h;subst h;exact g,r'.aP V,f',aew ac hs am,oh ac.aQ⟩
  .have au:∀e∈m.size::p,e<r.size:=λe g=>by have:=ad e g;omega
   exact XP.qv (qS R (C.cB Ef.aP au cH V) 6 N) LM (F8.N o) a.rd V (λe g=>g▸YC (bz O) hq cC) cC
 .refine(CY (b:=[f]) cC (B.hd.le fJ) W (tU.le fJ B.hp) (oh a.gp.pP) t).aP λz m4⟨Q,l,e,gl,hq,r⟩=>⟨K.fg (r.fz _),Q,e,?_⟩;have ac:IR f m4 Q l:=by grind [GI.cB,GC.rd,Rd.lt,GC.gp,GP.pP]
  have aI:=ac.aT;have X:=B.ext r;have N:=K.fz (r.fz []);have u4:=u3.N r;have z4:=r.aQ;have z3:=F.aQ;refine⟨λb M=>(b=true->0<t/\0<Q.len)/\M=m4,⟨λh=>⟨λU=>by simp only[bh]at h U;omega,O⟩,λh=>⟨bO,O⟩⟩,?_⟩;rintro b _ ⟨I,rfl⟩;refine⟨λan=>?_,λae=>?_⟩
  .let⟨T,aH⟩:=I an;refine(dW X.rd V Q.len).aP λz x⟨E,e,k0,k2,u,i⟩=>⟨N.fg i,E,e,k0,V,?_⟩;let⟨y,w⟩:=dY l E.toNat;obtain⟨fi,q,rfl,U,aL,aB⟩:=hq.1 y (ba w);let⟨dd,aw,au,ay,aD⟩:=aB T;have ah:=Wz d a.gp.ds dd aw au _ (a.gp.eR q (ba U)) ay aD;have aM:q.aY.length<=3:=(Bu _ (a.gp.eR q (ba U))).1;have Z:=X.to i u;have L:=N.fz i;let⟨ps,ai,e0,e1⟩:=Z.hp.br U;have aJ:=ai.aT;have ax:=bC U;have aK:=Z.hp.aT;refine⟨_,(gY.1 ((ac.le (fh i)).br w)).2,V,V,ps,(gY.1 e0).2,?_⟩;intro m6;have v:=px m6;have g6:GE (m.size::p) x m6 (.mk x.size 0 0 0) []:=by grind [Gr.bI]
   have z5:=i.aQ;have ab:∀e∈m.size::p,e<x.size:=λe g=>by have:=ad e g;omega
   have aN:¬Lo t\/(Lo t/\0<t):=by grind [Lo]
   have hd:=XU d a.gp.ds;rcases hB with⟨aA,_,_⟩|⟨ih,e2,e3⟩
   .exfalso;rcases aA with h|h|h
    .omega
    .subst h;omega
    .subst h;omega
   refine gN (n:=q.aY.length -1) V (λj s M=>∃l,GE (m.size::p) x M s l/\l.length=j/\(∀e∈l,SmQ d Y 1 e)/\Rd f G (A+1+5*j) M/\Fz [f] x M) ⟨[],g6,O,bO,u.ext v,v.fz _⟩ ?_;rintro j s M ar μ hj ⟨l',C,az,ao,R,o⟩ ak
   have ew:eV ((j:Int)+1)=j+1:=by grind [dk]
   refine⟨λh=>?_,λh=>?_⟩
   .simp only[ew,bh]at h;let⟨y,w⟩:=dY q.aY j;have aE:y∈q.aY.dropLast:=db.2 ⟨j,by rw[List.getElem?_dropLast,a8 V];exact w⟩;refine⟨V,V,y,(gY.1 ((ai.le (fh o)).br w)).2,?_⟩;exact XP.nI (ih y (ah y aE) (s.bt::m.size::p) f (A+1+5*j) G al aq M (dH (λe g=>Yx (ab e g) o.aQ) bY C.cF.2) (by simp[aa]) (Z.to o R) V) C o L u (by simp[aa]) V λe aF M' g g' r' f' am aC=>
     ak V _ _ ⟨_,g',fu,λe' ag=>by rcases bT.1 ag with h|h;exact ao e' h;simp at h;subst h;exact g,r'.aP V,f'⟩
   .simp only[ew,dK]at h;exact XP.qv (qS R (C.cB Ef.aP ab cH V) 10 _) (L.fz o) (((u4.fz _).N i).N o) a.rd V (λe g=>g▸YC (bH O) ao V) V
  .refine(Gg X.rd cC).aP λz x⟨E,e,u,i⟩=>⟨N.fg i,E,e,?_⟩;exact XP.qv (P:=A+4) ((FH (m.size::p) E x).aP λz v⟨o,e,H,h2,j,h⟩=>⟨o,e,H,h2,j,u.ext h,h.fz _⟩) (N.fz i) ((u4.fz _).N i) a.rd V (λe g=>g▸⟨λh=>.qt _,by rw[Ex.Zc];rcases hB with⟨_,e,_⟩|⟨_,e,_⟩<;>simp[e]⟩) cC
end
section
variable{g:Nat}{t:Int}
def _root_.Go.Vc.WW{σ:Type}(m:g<=9223372036854775807)(j:1<=g){a:D}{f:σ}{e:(σ->Int->D->Prop)->(σ->Int->D->Nat)->σ->Int->D->Prop}(Q:Nat->σ->D->Prop)(h:Q 1 f a)
 (l:∀(k:Nat)(s:σ)(b:D)(I:σ->Int->D->Prop)(μ:σ->Int->D->Nat),1<=k->k<=g->Q k s b->
  (k<g->∀d c,Q (k+1) d c->I d (eV ((k:Int)+1)) c/\μ d (eV ((k:Int)+1)) c<μ s k b)->e I μ s k b):
 ∃(I:σ->Int->D->Prop)(μ:σ->Int->D->Nat),I f 1 a/\∀s i b,I s i b->e I μ s i b:=by
 refine⟨λs i c=>∃k:Nat,i=k/\1<=k/\k<=g/\Q k s c,λ_ i _=>(g -i).toNat,⟨1,O,bY,j,h⟩,?_⟩
 grind [oU,Ql]
def _root_.Go.Vc.aeu(j:g<=9223372036854775807)(f:1<=g){a:D}{d:(Int->D->Prop)->(Int->D->Nat)->Int->D->Prop}(Q:Nat->D->Prop)(e:Q 1 a)
 (h:∀(k:Nat)(b:D)(I:Int->D->Prop)(μ:Int->D->Nat),1<=k->k<=g->Q k b->
  (k<g->∀c,Q (k+1) c->I (eV ((k:Int)+1)) c/\μ (eV ((k:Int)+1)) c<μ k b)->d I μ k b):
 ∃(I:Int->D->Prop)(μ:Int->D->Nat),I 1 a/\∀i b,I i b->d I μ i b:=by
 refine⟨λi c=>∃k:Nat,i=k/\1<=k/\k<=g/\Q k c,λi _=>(g -i).toNat,⟨1,O,bY,f,e⟩,?_⟩
 grind [oU,Ql]
def O4{f:af}{e:av}(hd:f∈wc)(a:Ty f t):ady 4 20 f e t:=by grind [VD,Lo.ty]
def Po.x{f:Nat}{d:ap}{c:ad}{b P:Nat}{h:E}{a:D}{Q:Ex->Prop}(j:Po f d a c Q)(n:Rd b h P a):bJ dP f d a (XP c b h a P Q):=
 j.aP λi p⟨o,g,k,l,m,e⟩=>⟨o,g,k,l,m,n.ext e,e.fz _⟩
variable{c:ad}{b P:Nat}{h d p j:E}{f:af}{e:av}{a:D}{i:ab}
def vQ(hS:∀o∈c,o<a.size)(ag:b∈c)(o:GC b h P d p f e a)(hP:P+22<=10^16)(hv:IR b a j i)(aj:i.length<=1000)(ht:Ty f t):
 bJ dP 323 [vp b 0,.agg #[d.v,p.v],j.v,vi t] a (XP c b h a (P+22) λg=>WX f e.length i.length g/\g.n<=4):=by
 apply OS (b,0)
 simp -zeta only[dT]
 intro k z
 let⟨A,hl⟩:=fV (a:=k) (c:=z) O O
 have s1:=pz k
 have hr:=o.rd.lt
 have Y:Lw b [k.size,a.size] z:=λN hb=>⟨hl N hb,by simp at hb;omega⟩
 have af:∀g∈k.size::c,g<z.size:=dH hS A.aQ (hl _ bO)
 have z2:=A.aQ
 refine(LJ (b:=[b]) (m:=z) fu ((hv.le fJ).ext A) V t).aP λ_ U⟨r,ac,g,gl,ah,B⟩=>⟨Y.fg (B.fz _),r,g,?_⟩
 have aa:IR b U r ac:=GI.cB gl fu V
 have G:=(o.ext A).ext B
 have F:=Y.fz (B.fz [])
 have C:Fz [b] a U:=(A.N B).fz _
 have ak:=aa.aT
 have z3:=B.aQ
 have pJ:∀{Q:Nat}{M:D},GC b h Q d p f e M->Fz [b] a M->z.size<=M.size->Lw b [k.size,a.size] M->Q<=P+2->bJ dP 342 [vp b 0,.agg #[d.v,p.v],vi t] M λW n=>gT [k.size,a.size] M n/\∃s u:Int,∃w:E,W=.agg #[vi s,vi u,w.v]/\XP c b h a (P+22) (λg=>WX f e.length i.length g/\g.n<=4) (.agg #[vi s,vi u,w.v]) (aW n k.size 0 [.i s,.i u,.s w]):=λR T h1 J hq=>
  XP.qv (O4 o.gp.ds ht (k.size::c) b _ h d p _ (λg l=>oh (af g l)) (by simp[ag]) R V) J T o.rd V (λg l=>⟨l.1 _,l.2⟩) V
 have ae:∀{Q:Nat}{M:D},GC b h Q d p f e M->Fz [b] a M->Fz [b] U M->Lw b [k.size,a.size] M->Q<=P+2->0<r.len->bJ dP 74 [vp b 0,vi (r.len:Int)] M λai n=>gT [k.size,a.size] M n/\∃K:Int,ai=vi K/\(0:Int)<=K/\K<(r.len:Int)/\∃ad:Int,aS n r.bt (r.off+K.toNat*1)=some (vi ad)/\
  bJ dP 322 [vi ad] n λW Z=>gT [k.size,a.size] n Z/\∃s u:Int,∃w:E,W=.agg #[vi s,vi u,w.v]/\XP c b h a (P+22) (λg=>WX f e.length i.length g/\g.n<=4) (.agg #[vi s,vi u,w.v]) (aW Z k.size 0 [.i s,.i u,.s w]):=λR T f3 J hq h0=>
  (dW R.rd V r.len).aP λ_ n⟨ab,g,k0,k1,r',I⟩=>by
   let⟨X,hy⟩:=dY ac ab.toNat;exact⟨J.fg I,ab,g,k0,V,X,(gY.1 ((aa.le (fh (f3.N I))).br hy)).2,XP.qv ((pM (k.size::c) X n).x r') (J.fz I) (T.N I) o.rd V (λg l=>l▸⟨.var (ah.1 X (ba hy)),by rw[Ex.Zc];simp⟩) V⟩
 refine⟨λx=>?_,λx=>pJ G C z3 F V⟩
 simp only[bh]at x
 refine(dW G.rd V 6).aP λ_ m4⟨k1,g,_,_,r4,l⟩=>⟨F.fg l,k1,g,λx=>ae (G.to l r4) (C.N l) l (F.fz l) V V,λx=>?_⟩
 intro m5
 have y:=px m5
 have H:=(G.to l r4).ext y
 have L:=(F.fz l).fz (y.fz [])
 exact(uv (v:=[]) (H.hd.le fJ) o.dj (tU.le fJ H.hp) (oh o.gp.pP) pZ t).aP λ_ m6⟨N,g,q⟩=>⟨L.fg (q.fz _),N,g,λx=>ae (H.ext q) ((C.N l).cg (y.N q)) (l.cg (y.N q)) (L.fz (q.fz [])) V V,λx=>pJ (H.ext q) ((C.N l).cg (y.N q)) (by have:=l.aQ;have:=y.aQ;have:=q.aQ;omega) (L.fz (q.fz [])) V⟩
def OD(hS:∀u∈c,u<a.size)(hd:dw a d f)(ht:eT f)(C:tU a p e)(Z:e.length<=1000)(X:1<=e.length)(t:Int):oC 337 [.agg #[d.v,p.v],vi t] a c λg=>(∀y∈g,∃(m:Nat)(q:dS),y=m/\e[m]? =some q)/\g.length<=e.length:=by
 apply Hs;simp -zeta only[dT];intro i Q;have T:=px i;have A:∀u∈[a.size],u<i.size:=by simp[i]
 have W:GI c i Q (.mk i.size 0 0 0) []:=GI.gF c i;have x2:=px Q;have ag:=C.aT;refine WW (g:=e.length) V X (λr H M=>J i M/\∃g,GI c i M H g/\(∀y∈g,∃(m:Nat)(q:dS),y=m/\e[m]? =some q)/\g.length<=r) ⟨x2,[],W,bO,bO⟩ ?_;rintro r H M ac μ ae hk ⟨l,g,x,D,af⟩ S
 have I:=T.N l;refine⟨λN=>?_,λN=>⟨H,g,O,x.de (λ_ h=>h) T.aQ,⟨D,V⟩,I⟩⟩;simp only[bh]at N;let⟨q,P⟩:=dY e r;let⟨ad,z,w,U⟩:=C.br P;have Y:=z.aT;refine⟨V,V,_,I.aS U,?_⟩;refine gN (n:=q.aY.length) (Y▸z.kM) (λ_ _ K=>J M K) dt ?_;rintro aa ok s I2 μ2 hj b R;have k:=I.N b;refine⟨V,V,_,k.aS w,λh=>⟨λ_=>?_,λ_=>R (by simp only[bh]at h;omega) _ _ b⟩,λh=>⟨λ_=>?_,λ_=>S V _ _ ⟨l.N b,g,x.ext b,D,V⟩⟩⟩
 .simp only[bh]at h;let⟨y,hy⟩:=dY q.aY aa;have L:=(z.ext k).br hy;refine⟨V,V,_,k.aS w,V,V,y,L,?_⟩;intro E;have j:=px E;have G:∀{o F:Nat}{ab:Value},aS s o F=some ab->aS E o F=aS s o F:=λh=>by rw[j.aS h,h]
  have B:a.size<s.size:=cr (A _ bO) (l.N b).aQ;refine⟨G L,G (k.aS w),bD (j.bB _ B) _,bD (j.bB _ B) _,bD (j.bB _ B) _,?_⟩;exact(uv (v:=[]) (hd.le (k.N j).le) ht (tU.le (k.N j).le C) Z pZ y).bL ((l.N b).N j) A λo m5 x5 _=>⟨_,O,R V _ _ ((b.N j).N x5)⟩
 .intro E;refine GI.nI (x.ext b) ((l.N b).fz []) V λL K B o _ _=>⟨J.sY ((l.N b).cz _) o.ext A,S V _ _ ⟨o.ext,_,B,λF j=>?_,fu⟩⟩;rcases bT.1 j with j|j
  .exact D F j
  .simp at j;exact⟨r,q,j,P⟩
end
section
variable{l c:Int}{o:E}{j:ab}
def Cg(c:Int):Nat:=30*4^c.toNat
def yW(h:l<=c):Cg l<=Cg c:=Nat.mul_le_mul_left _ (Nat.pow_le_pow_right cH V)
def Wt(c:Int):30<=Cg c:=Nat.le_mul_of_pos_right _ (Nat.pow_pos cH)
def XN(a:0<=l)(h:l+1<=c):4*Cg l<=Cg c:=by
 refine fC (D0 ?_) (yW h);unfold Cg;rw[show(l+1).toNat=l.toNat+1 by omega,Nat.pow_succ];omega
def Pn(g:af)(i:av)(c:Int):Prop:=∀(f:ad)(e P:Nat)(h d p k:E)(m:D)(v:ab)(t:Int),(∀a∈f,a<m.size)->e∈f->GC e h P d p g i m->P+Cg c<=10^16->IR e m k v->v.length+3*c.toNat<=1000->Ty g t->
 bJ dP 319 [vp e 0,.agg #[d.v,p.v],k.v,vi t,vi c] m (XP f e h m (P+Cg c) λa=>WX g i.length v.length a/\(c<=2->a.n<=4))
def XL(f:ad)(e:Nat)(h:E)(m:D)(P:Nat)(Q:ax->Prop)(v:Value)(a:D):Prop:=∃s l,v=s.v/\jr (di f a) s l/\Q l/\Rd e h P a/\Fz [e] m a
def PR{f:ad}{M:D}(o:∀c∈f,c<M.size):∀(l:List (Ex×E))(_:l.length<=1000)(_:∀x∈l,jr (di f M) x.2 x.1.dA){a:ae}{n:Nat},a=l.flatMap (λx=>[.i x.1.op,.i x.1.cG,.s x.2])->n=l.length->
 GE f M (M.push (.cells (dh a) dB)) (.mk M.size 0 n n) (l.map (·.1)):=by
 intro l m h a n q i
 refine Gr.jY (g:=l.map λx=>[.i x.1.op,.i x.1.cG,.s x.2]) Ef.aP bY cC (by simp[i]) ⟨bO,λc p=>?_,λr c k e d=>?_⟩
 .grind
 .simp only[eB,jL]at e d
  obtain⟨x,g,rfl⟩:=e
  obtain⟨y,b,rfl⟩:=d
  rw[g]at b;simp at b;subst b
  have:=h x (ba g)
  cases j:x.1 with
  |mk t n s=>rw[j]at this;exact Ef.of this
variable{f L:ad}{e P:Nat}{h d p k:E}{g:af}{i:av}{m:D}{v:ab}
def RZ(z:0<=c)(ih:∀a,0<=a->a<=c->Pn g i a)(F:∀s∈f,s<m.size)(H:e∈f)(s:GC e h P d p g i m)(hP:P+3*Cg c<=10^16)(hv:IR e m k v)(af:v.length+3*c.toNat<=1000)(ac:c<=1000)(I:IR e m o j)(h3:j.length<=3)(Z:∀u∈j,Ty g u):
 bJ dP 335 [vp e 0,.agg #[d.v,p.v],k.v,o.v,vi c] m (XL f e h m (P+3*Cg c) λl=>l.length=j.length/\∀b∈l,WX g i.length v.length b):=by
 apply Ll (e,0)
 simp -zeta only[dT]
 intro a K
 have B:=px a
 have hr:=s.rd.lt
 have Q:Lw e [m.size] a:=by intro c z;simp[a]at z⊢;omega
 have W:GE f a K (.mk a.size 0 0 0) []:=by grind [Gr.bI]
 have N:=px K
 have C:=s.ext B
 have ae:=I.aT
 refine gN (n:=j.length) V (λr w M=>∃l,GE f a M w l/\l.length=r/\(∀b∈l,WX g i.length v.length b)/\Rd e h (P+r*Cg c) M/\Fz [e] a M) ⟨[],W,O,bO,by simpa using C.rd.ext N,N.fz _⟩ ?_
 rintro r w M ab μ hk ⟨l,y,ad,G,L,E⟩ aa
 have t:=(B.fz [e]).N E
 refine dit (λq=>?_) λq=>?_
 .let⟨u,J⟩:=dY j r
  let⟨R,D⟩:=SX (d:=(o.len:Int)) z V
  rw[dk (b:=Int.tdiv c _) V V]
  have hm:=yW D
  have Y:r*Cg c+Cg c<=3*Cg c:=by rw[<-Ea];exact fq _ V
  refine⟨V,V,u,(gY.1 ((I.le (fh t)).br J)).2,V,?_⟩
  exact XP.nI (ih _ R D (w.bt::f) e _ h d p k M v u (dH F t.aQ y.cF.2) (by simp[H]) (s.to t L) V (hv.le (fh t)) V (Z u (ba J))) y E Q C.rd H V λb ag M' A U r' T _ _=>
   aa V _ _ ⟨_,U,fu,λS X=>by rcases bT.1 X with q|q;exact G S q;simp at q;subst q;exact A.1,r'.aP cC,T⟩
 .have Y:r*Cg c<=3*Cg c:=fq _ V
  exact⟨w,l,O,y.cB Ef.aP (λb A=>B.lt (F b A)) cH V,⟨V,G⟩,L.aP V,t⟩
def Eo{n G B:Nat}{q:D}{Q:Ex->Prop}{u cG:Int}(T:0<=c)(ih:∀a,0<=a->a<=c->Pn g i a)(R:∀r∈n::f,r<m.size)(Y:e∈f)(r:GC e h P d p g i m)(M:P+3*Cg c<=10^16)(hv:IR e m k v)(ab:v.length+3*c.toNat<=1000)(U:c<=1000)(Z:IR e m o j)(J:j.length<=3)(aa:∀t∈j,Ty g t)
 (F:Lw e L m)(W:Fz [e] q m)(H:Rd e h G q)(X:q.size<=n)(O:∀l,l.length=j.length->(∀b∈l,WX g i.length v.length b)->Q (.mk u cG l))(N:P+3*Cg c<=B):
 bJ dP 335 [vp e 0,.agg #[d.v,p.v],k.v,o.v,vi c] m λw a=>gT L m a/\∃s:E,w=s.v/\
  bJ dP 320 [vi u,vi cG,s.v] a λw A=>gT L a A/\∃x y:Int,∃z:E,w=.agg #[vi x,vi y,z.v]/\XP f e h q B Q (.agg #[vi x,vi y,z.v]) (aW A n 0 [.i x,.i y,.s z]):=
 (RZ (f:=n::f) T ih R (by simp[Y]) r M hv ab U Z J aa).aP λ_ a⟨s,l,b,I,C,K,t⟩=>⟨F.fg t,s,b,XP.qv (qS K I u cG) (F.fz t) (W.N t) H X (λb V=>V▸O l C.1 C.2) N⟩
def OH(G:3<=c/\c<=100)(ih:∀j,0<=j->j<=c -1->Pn g i j)(hS:∀q∈f,q<m.size)(X:e∈f)(q:GC e h P d p g i m)(hP:P+23+3*Cg (c -1)<=10^16)(hv:IR e m k v)(aB:v.length+3*c.toNat<=1000){ac:Int}(ht:Ty g ac):
 bJ dP 336 [vp e 0,.agg #[d.v,p.v],k.v,vi ac,vi c] m (XP f e h m (P+23+3*Cg (c -1)) (WX g i.length v.length)):=by
 apply HD (e,0)
 simp -zeta only[dT]
 intro r I m3
 let⟨x2,hl⟩:=fV (a:=r) (c:=I) O O
 have s1:=pz r
 have K:=px m3
 have hr:=q.rd.lt
 have z2:=x2.aQ
 have am:bg (di [e] m3) (.mk I.size 0 4 4) [1,1,3,4]:=by grind [bg.jY]
 have L2:Lw e [r.size,m.size] I:=λc G=>⟨hl c G,by simp at G;omega⟩
 have aj:∀j∈r.size::f,j<I.size:=by grind [dH,J.aQ]
 have c3:=(q.ext x2).ext K
 have L3:=L2.fz (K.fz [])
 have T:=q.dj
 refine(om c3.rd V am bO).aP λ_ m4⟨H,j,hk,r4,C⟩=>⟨L3.fg C,H,j,?_⟩
 have L:=c3.to C r4
 have L4:=L3.fz C
 have au:=L.hd.aT
 have dl:=tV g q.gp.ds
 have ae:H∈[(1:Int),3,4]:=cC
 have mE:0<(cY g 1).length:=(XU g q.gp.ds).1
 refine⟨λl M=>l∈[(1:Int),3,4]/\l<=g.length/\0<(cY g l).length/\J m4 M,⟨λ_=>⟨cH,V,mE,dt⟩,λU=>?_⟩,?_⟩
 .simp only[dK]at U
  refine(qR (L.hd.le fJ) T H).aP λ_ m5⟨c,j,G,t⟩=>⟨L4.fg (t.fz _),c,j,λ_=>⟨cH,V,mE,t⟩,λo=>⟨ae,V,WA g q.gp.ds H ae V λag hq s=>?_,t⟩⟩
  grind
 rintro l m5 ⟨ak,al,ap,t⟩
 have c5:=L.ext t
 have L5:=L4.fz (t.fz [])
 have F5:Fz [e] m m5:=(((x2.N K).fz _).N C).cg t
 have k5:l∈[(0:Int),1,2,3,4]:=cC
 have hf:=En g q.gp.ds
 have aq:=hf.2.1 l k5
 refine(kA (e:=[e]) cC (c5.hd.le fJ) T l).aP λ_ m6⟨N,B,j,hc,ag,F⟩=>⟨L5.fg (F.fz _),N,j,?_⟩
 subst ag
 have c6:=c5.ext F
 have L6:=L5.fz (F.fz [])
 have F6:=F5.cg F
 have ar:=hc.aT
 have z3:=K.aQ;have z4:=C.aQ;have z5:=t.aQ;have z6:=F.aQ
 have ad:∀j∈r.size::f,j<m6.size:=λj s=>by have:=aj j s;omega
 refine XP.cg (vQ (c:=r.size::f) ad (by simp[X]) c6 V (hv.le (fh F6)) V ⟨by simp at ak;omega,al⟩) L6 λs0 Q E h7 q7 r7 D=>⟨_,_,_,O,?_⟩
 intro m8
 have x8:=px m8
 have z7:=D.aQ
 have W:∀j∈r.size::f,j<E.size:=λj s=>by have:=ad j s;omega
 have g8:GE (r.size::f) E m8 (.mk E.size 0 1 1) [Q]:=PR W [(Q,s0)] bO cC O O
 have L7:=L6.fz D
 have F7:=F6.N D
 refine gN (n:=(cY g l).length) V (λA aa M=>∃B,GE (r.size::f) E M aa (Q::B)/\B.length=A/\(∀(Y:Nat)(j:Ex)(y:Int),B[Y]? =some j->(cY g l)[Y]? =some y->WX g i.length (v.length+(da g y).length) j)/\Rd e h (P+23+A*Cg (c -1)) M/\Fz [e] E M) ⟨[],g8,O,bO,by simpa using(r7.ext x8).aP V,x8.fz _⟩ ?_
 rintro A aa M ao μ hj ⟨B,R,aA,hq,rM,z⟩ an
 have u:=L7.fz z
 have ax:A*Cg (c -1)<=3*Cg (c -1):=fq _ V
 refine dit (λU=>?_) λU=>?_
 .let⟨y,hy⟩:=dY (cY g l) A
  let⟨av,aw⟩:=hf.1 l k5 y (ba hy)
  have aD:=R.cF
  have cM:=(c6.to D r7).to z rM
  refine⟨V,V,y,(gY.1 ((hc.le (fh (D.N z))).br hy)).2,V,?_⟩
  refine(fX (e:=[e]) cM.hd T y).aP λ_ m9⟨f9,l9,j,h9,q9,o⟩=>⟨u.fg (o.fz _),f9,j,u.dg nR (o.fz _) bO,u.dg nR (o.fz _) bO,?_⟩
  subst q9
  refine(iH (S:=[e]) cC (hv.le (fh ((F7.N z).cg o))) h9 V).aP λ_ af⟨ab,Z,j,ah,aE,w⟩=>⟨(u.fz (o.fz [])).fg (w.fz _),ab,j,u.dg (o.fz _) (w.fz _) bO,u.dg (o.fz _) (w.fz _) bO,?_⟩
  have ai:IR e af ab Z:=GI.cB ah cC cC
  let⟨d0,d1⟩:=SX (e:=c -2) (d:=(N.len:Int)) V V
  rw[dk (b:=c -2) V V,dk (b:=Int.tdiv _ _) V V]
  have hm:=yW (l:=Int.tdiv (c -2) N.len) (c:=c -1) V
  have ay:A*Cg (c -1)+Cg (c -1)<=3*Cg (c -1):=by rw[<-Ea];exact fq _ V
  have fT:=(z.cg o).cg w
  have az:Z.length=v.length+(da g y).length:=cC
  refine XP.nI (ih _ d0 V (aa.bt::r.size::f) e _ h d p ab af Z ac (dH (λj s=>Yx (W j s) fT.aQ) bY (Yx o.aQ w.aQ)) (by simp[X]) ((cM.ext o).ext w) V ai V ht) ((R.ext Ef.aP o).ext Ef.aP w) fT L7 r7 (by simp[X]) cC λj aF M' s g' r' f' _ _=>
   an V _ _ ⟨B++[j],g',fu,λY e' y' hi aC=>?_,r'.aP cC,f'⟩
  grind [Nat.lt_or_ge,List.length,List.getElem?_append_left,List.getElem?_append_right,bC]
 .exact XP.qv (qS rM (R.cB Ef.aP W cH cC) 8 l) u (F7.N z) q.rd V (λj s=>s▸.mt q7.1 V V hq) V
end
section
variable{e L:ad}{c P:Nat}{g d p i:E}{f:af}{h:av}{m:D}{v:ab}
def OI{o:Int}(hb:3<=o/\o<=100)(ih:∀j,0<=j->j<=o -1->Pn f h j)(hS:∀q∈e,q<m.size)(Q:c∈e)(q:GC c g P d p f h m)(hP:P+24+3*Cg (o -1)<=10^16)(R:IR c m i v)(ax:v.length+3*o.toNat<=1000){ab:Int}(ht:Ty f ab):
 bJ dP 338 [vp c 0,.agg #[d.v,p.v],i.v,vi ab,vi o] m (XP e c g m (P+24+3*Cg (o -1)) (WX f h.length v.length)):=by
 apply HF (c,0)
 simp -zeta only[dT]
 intro x aa
 let⟨Z,L⟩:=fV (a:=x) (c:=aa) O O
 have s1:=pz x
 have hr:=q.rd.lt
 have L2:Lw c [x.size,m.size] aa:=λo hb=>⟨L o hb,by simp at hb;omega⟩
 have am:∀j∈x.size::e,j<aa.size:=dH hS Z.aQ (L _ bO)
 have c2:=q.ext Z
 have ac:=q.dj
 have aw:=q.hd.aT
 have dl:=tV f q.gp.ds
 have ao:eV (o -2)=o -2:=gJ
 have ai:eV (o -1)=o -1:=gJ
 have pP:=q.gp.pP
 have aq:v.length+3*(o -2).toNat<=1000:=V
 have hm:=yW (l:=o -2) (c:=o -1) V
 have au:P+24+Cg (o -2)<=10^16:=V
 refine⟨λM=>Rd c g (P+1) M/\Fz [c] aa M,?_,?_⟩
 .refine(dW c2.rd V 4).aP λ_ m3⟨w,j,_,_,r3,W⟩=>⟨L2.fg W,w,j,λ_=>?_,λ_=>⟨r3,W⟩⟩
  refine aeu (g:=f.length+1) V V (λ_ M=>Rd c g (P+1) M/\Fz [c] aa M) ⟨r3,W⟩ ?_
  rintro U M al μ an ha ⟨N,H⟩ Y
  have K:=c2.to H N
  have LM:=L2.fz H
  refine⟨λs=>?_,λs=>⟨N,H⟩⟩
  simp only[bh]at s
  have ea:eV ((U:Int) -1)=U -1:=gJ
  rw[ea]
  refine(qR (K.hd.le fJ) ac U).aP λ_ X⟨b4,j,ak,J⟩=>⟨LM.fg (J.fz _),b4,j,λh1=>?_,λ_=>Y V _ ⟨N.ext J,H.cg J⟩⟩
  obtain⟨ah,_,hq,ap⟩:=ak.1 h1
  have T:f[((U:Int) -1).toNat]? =some ah:=by rw[<-hq];congr 1;omega
  obtain⟨_,_,g0,g1,_⟩:=K.hd.br T
  have B:=K.ext J
  have t:=LM.fz (J.fz [])
  have l:=H.cg J
  refine⟨V,V,_,J.aS (gY.1 g1).2,λ_=>?_,λ_=>Y V _ ⟨N.ext J,l⟩⟩
  refine(uv (B.hd.le fJ) ac (tU.le fJ B.hp) V ((R.le (fh ((Z.fz _).N l))).le fJ) U).aP λ_ A⟨b5,j,k⟩=>⟨t.fg (k.fz _),b5,j,λ_=>?_,λ_=>Y V _ ⟨(N.ext J).ext k,l.cg k⟩⟩
  have C:=B.ext k
  have u:=t.fz (k.fz [])
  have f5:=l.cg k
  have z5:=f5.aQ
  have ae:∀j∈x.size::e,j<A.size:=λj F=>by have:=am j F;omega
  obtain⟨_,_,ad,_,_⟩:=C.hd.br T
  refine⟨V,V,_,(gY.1 ad).2,?_⟩
  refine XP.cg (vQ (c:=x.size::e) ae (by simp[Q]) C V (R.le (fh ((Z.fz _).N f5))) V ⟨V,V⟩) u λs6 e6 I h6 q6 r6 y=>⟨_,_,_,O,?_⟩
  have c6:=C.to y r6
  have z:=u.fz y
  obtain⟨_,_,aj,_,_⟩:=c6.hd.br T
  refine⟨by rw[(gY.1 aj).2,(gY.1 ad).2],u.dg nR y bO,u.dg nR y bO,u.dg nR y bO,?_⟩
  rw[ao]
  have F6:=(Z.fz [c]).N (f5.N y)
  have af:∀j∈x.size::e,j<I.size:=λj F=>by have:=ae j F;have:=y.aQ;omega
  refine XP.cg (ih (o -2) V V (x.size::e) c (P+1+22) g d p i I v _ af (by simp[Q]) c6 V (R.le (fh F6)) aq ((En f q.gp.ds).2.2 ah (ba T))) z λs7 e7 G h7 q7 r7 r=>⟨_,_,_,O,?_⟩
  intro m8
  have x8:=px m8
  have ag:∀j∈x.size::e,j<G.size:=λj F=>by have:=af j F;have:=r.aQ;omega
  have g8:GE (x.size::e) G m8 (.mk G.size 0 2 2) [e6,e7]:=PR ag [(e6,s6),(e7,s7)] bO (by simp;exact⟨jr.le (r.eX (by simp[Q])) h6,h7⟩) O O
  exact XP.qv (qS (r7.ext x8) (g8.cB Ef.aP ag cH bO) 11 0) ((z.fz r).fz (x8.fz [])) ((F6.N r).cg x8) q.rd V (λj F=>F▸.iU cH (λs=>V) cH (λs=>V) (by simp;exact⟨q6.1,q7.1⟩)) V
 rintro M ⟨N,H⟩
 have K:=c2.to H N
 have LM:=L2.fz H
 have zM:=H.aQ
 have FM:=(Z.fz [c]).N H
 refine(kA (e:=[c]) (by simp;exact N.lt) (K.hd.le fJ) ac ab).aP λ_ m3⟨cs,aj,j,hc,ah,x3⟩=>⟨LM.fg (x3.fz _),cs,j,?_⟩
 subst ah
 have W:=K.ext x3
 have T:=LM.fz (x3.fz [])
 have J:=FM.cg x3
 have z3:=x3.aQ
 have av:=hc.aT
 have ae:∀{M:D},m3.size<=M.size->∀j∈x.size::e,j<M.size:=λs j F=>by have:=am j F;omega
 refine⟨λs=>?_,λs=>⟨λs=>XP.qv (vQ (c:=x.size::e) (ae bY) (by simp[Q]) W V (R.le (fh J)) V ht) T J q.rd V (λj F=>F.1) V,λs=>?_⟩⟩
 .simp only[bh]at s
  refine(dW W.rd V cs.len).aP λ_ X⟨w,j,k0,k1,Y,l⟩=>⟨T.fg l,w,j,k0,V,?_⟩
  let⟨ad,hy⟩:=dY (cY f ab) w.toNat
  have af:=(En f q.gp.ds).1 ab (Ty.aet q.gp.ds ht) ad (ba hy)
  have B:=W.to l Y
  have t:=T.fz l
  refine⟨ad,(gY.1 ((hc.le (fh l)).br hy)).2,?_⟩
  refine(fX (e:=[c]) B.hd ac ad).aP λ_ A⟨f5,l5,j,h5,q5,k⟩=>⟨t.fg (k.fz _),f5,j,t.dg nR (k.fz _) bO,t.dg nR (k.fz _) bO,?_⟩
  subst q5
  rw[ai]
  exact Eo V ih (ae (Yx l.aQ k.aQ)) Q (B.ext k) V (R.le (fh ((J.N l).cg k))) V V h5 af.1 af.2 (t.fz (k.fz [])) ((J.N l).cg k) q.rd V (λaj _ L=>.iU cH (λs=>V) cH (λs=>V) L) V
 .refine(dW W.rd V 3).aP λ_ X⟨w,j,k0,k1,Y,l⟩=>⟨T.fg l,w,j,λ_=>?_,λ_=>?_⟩
  .have B:=W.to l Y
   have t:=T.fz l
   have z4:=l.aQ;have ap:=Y.lt
   intro A
   have k:=px A
   have ad:bg (di [c] A) (.mk X.size 0 1 1) [0]:=bg.jY bG fu O O bO
   have z5:=k.aQ
   rw[ai]
   exact Eo V ih (ae V) Q (B.ext k) V (R.le (fh ((J.N l).cg k))) V V ad bO (by simp[q.gp.ty]) (t.fz (k.fz [])) ((J.N l).cg k) q.rd V (λaj _ L=>.iU cH (λs=>V) cH (λs=>V) L) V
  .have B:=W.to l Y
   have t:=T.fz l
   have F4:=J.N l
   have z4:=l.aQ;have ap:=Y.lt
   have jX:∀{ar M:D}{U t0:Nat},GC c g (P+3) d p f h M->Fz [c] X M->bg (di [c] M) (.mk t0 0 2 2) [0,0]->∀op:Int,op∈[(1:Int),2,3,4]->bJ dP 335 [vp c 0,.agg #[d.v,p.v],i.v,E.v (.mk t0 0 2 2),vi (o -1)] M λal M1=>gT [x.size,m.size] M M1/\∃an:E,al=an.v/\
    bJ dP 320 [vi op,vi 0,an.v] M1 λal M2=>gT [x.size,m.size] M1 M2/\∃r0 r1:Int,∃r2:E,al=.agg #[vi r0,vi r1,r2.v]/\XP e c g m (P+24+3*Cg (o -1)) (WX f h.length v.length) (.agg #[vi r0,vi r1,r2.v]) (aW M2 x.size 0 [.i r0,.i r1,.s r2]):=λK ad s op af=>
    Eo V ih (ae (oh ad.aQ)) Q K V (R.le (fh (F4.N ad))) V V s bO (by simp[q.gp.ty]) (t.fz ad) (F4.N ad) q.rd V (λaj _ L=>.iU (by simp at af;omega) (λs=>by simp at af;omega) (by simp at af;omega) (λs=>by simp at af;omega) L) V
   rw[ai]
   refine⟨?_,?_⟩
   .intro A
    have k:=px A
    have ag:bg (di [c] A) (.mk X.size 0 4 4) [1,2,3,4]:=bg.jY bG fu O O bO
    have C:=B.ext k
    have u:=t.fz (k.fz [])
    have z5:=k.aQ
    refine⟨t.dg nR (k.fz _) bO,t.dg nR (k.fz _) bO,?_,?_⟩
    .refine(om C.rd V ag bO).aP λ_ I⟨w,j,hk,r6,y⟩=>⟨u.fg y,w,j,u.dg nR y bO,u.dg nR y bO,?_⟩
     intro G
     have x7:=px G
     have ak:bg (di [c] G) (.mk I.size 0 2 2) [0,0]:=bg.jY bG (by simp;exact r6.lt) O O bO
     have z:=u.fz y
     exact⟨z.dg nR (x7.fz _) bO,z.dg nR (x7.fz _) bO,jX (ar:=G) (U:=0) ((C.to y r6).ext x7) (((k.fz _).N y).cg x7) ak w hk⟩
    .intro I
     have y:=px I
     have ak:bg (di [c] I) (.mk A.size 0 2 2) [0,0]:=bg.jY bG fu O O bO
     have z:=u.fz (y.fz [])
     refine⟨u.dg nR (y.fz _) bO,u.dg nR (y.fz _) bO,?_⟩
     refine(om (C.ext y).rd V (ag.le (fh (y.fz _))) bO).aP λ_ G⟨w,j,hk,r7,r⟩=>⟨z.fg r,w,j,z.dg nR r bO,z.dg nR r bO,jX (ar:=G) (U:=0) ((C.ext y).to r r7) (((k.N y).fz _).N r) (ak.le (fh r)) w hk⟩
   .intro A
    have k:=px A
    have ag:bg (di [c] A) (.mk X.size 0 2 2) [0,0]:=bg.jY bG fu O O bO
    have C:=B.ext k
    have u:=t.fz (k.fz [])
    have z5:=k.aQ
    refine⟨t.dg nR (k.fz _) bO,t.dg nR (k.fz _) bO,?_⟩
    intro I
    have y:=px I
    have ak:bg (di [c] I) (.mk A.size 0 4 4) [1,2,3,4]:=bg.jY bG fu O O bO
    have z:=u.fz (y.fz [])
    refine⟨u.dg nR (y.fz _) bO,u.dg nR (y.fz _) bO,?_⟩
    refine(om (C.ext y).rd V ak bO).aP λ_ G⟨w,j,hk,r7,r⟩=>⟨z.fg r,w,j,z.dg nR r bO,z.dg nR r bO,jX (ar:=G) (U:=0) ((C.ext y).to r r7) (((k.N y).fz _).N r) ((ag.le (fh (y.fz _))).le (fh r)) w hk⟩
end
section
variable{e:Int}
def adI{f:af}{h:av}(hb:0<=e/\e<=100)(ih:∀l,0<=l->l<=e -1->Pn f h l):Pn f h e:=by
 intro g c P j d p k i v F hS C s hP Q aB N;apply Q2 (c,0);simp -zeta only[dT];intro r ac;let⟨x2,hl⟩:=fV (a:=r) (c:=ac) O O;have s1:=pz r;have hr:=s.rd.lt;have z2:=x2.aQ;have L2:Lw c [r.size,i.size] ac:=λe hb=>⟨hl e hb,by simp at hb;omega⟩;have L:∀{l:D},ac.size<=l.size->∀m∈r.size::g,m<l.size:=λaa m he=>by have:=dH hS x2.aQ (hl r.size bO) m he;omega
 have c2:=s.ext x2;have al:=s.dj;have pP:=s.gp.pP;have iY:=s.gp.iY;have ay:=Wt e;have ao:∀{ak:Nat}{l:D},GC c j ak d p f h l->Fz [c] ac l->ak+22<=P+Cg e->bJ dP 323 [vp c 0,.agg #[d.v,p.v],k.v,vi F] l λae M2=>gT [r.size,i.size] l M2/\∃W X:Int,∃Y:E,ae=.agg #[vi W,vi X,Y.v]/\XP g c j i (P+Cg e) (λm=>WX f h.length v.length m/\(e<=2->m.n<=4)) (.agg #[vi W,vi X,Y.v]) (aW M2 r.size 0 [.i W,.i X,.s Y]):=λcM o hq=>
  XP.qv (vQ (c:=r.size::g) (L o.aQ) (by simp[C]) cM V (Q.le (fh ((x2.fz _).N o))) V N) (L2.fz o) ((x2.fz _).N o) s.rd V (λm he=>⟨he.1,λ_=>he.2⟩) hq
 refine⟨λ_=>ao c2 nR V,λh3=>?_⟩;simp only[dK]at h3;have az:=XN (l:=e -1) (c:=e) V V;have aA:=XN (l:=e -2) (c:=e -1) V V;have ax:=Wt (e -2);have am:eV (e -1)=e -1:=by grind [dk]
 have hQ:∀m,WX f h.length v.length m->WX f h.length v.length m/\(e<=2->m.n<=4):=cC;refine(dW c2.rd V 12).aP λ_ m3⟨ab,m,k0,k1,r3,f3⟩=>⟨L2.fg f3,ab,m,?_⟩;have B:=c2.to f3 r3;have R:=L2.fz f3;have A:=(x2.fz [c]).N f3;have z3:=f3.aQ;have aq:=L z3;have ap:∀{l:D},J m3 l->bJ dP 338 [vp c 0,.agg #[d.v,p.v],k.v,vi F,vi e] l λae M2=>gT [r.size,i.size] l M2/\∃W X:Int,∃Y:E,ae=.agg #[vi W,vi X,Y.v]/\XP g c j i (P+Cg e) (λm=>WX f h.length v.length m/\(e<=2->m.n<=4)) (.agg #[vi W,vi X,Y.v]) (aW M2 r.size 0 [.i W,.i X,.s Y]):=λH=>
  XP.qv (OI (e:=r.size::g) ⟨V,V⟩ ih (L (oh H.aQ)) (by simp[C]) (B.ext H) V (Q.le (fh (A.cg H))) V N) (R.fz (H.fz [])) (A.cg H) s.rd V hQ V
 refine⟨λ_=>ao B f3 V,λ_=>⟨λ_=>?_,λ_=>⟨λ_=>?_,λ_=>⟨λ_=>XP.qv (OH (f:=r.size::g) ⟨V,V⟩ ih aq (by simp[C]) B V (Q.le (fh A)) V N) R A s.rd V hQ V,λ_=>⟨λ_=>?_,λ_=>ap dt⟩⟩⟩⟩⟩
 .refine(QQ r3 V B.hd al B.hp V (Q.le (fh A))).aP λ_ w⟨G,m,hu,r4,f4⟩=>⟨R.fg f4,G,m,cH,cH,?_⟩;have T:=B.to f4 r4;have y:=R.fz f4;have F4:=A.N f4;have z4:=f4.aQ;have ar:Ty f G:=by have:=tV f s.gp.ds;unfold Ty;omega
  let⟨d0,d1⟩:=SX (e:=e) (d:=2) V V;have d2:Int.tdiv e 2<=e -1:=by grind [Int.tdiv_eq_ediv_of_nonneg]
  have d3:Int.tdiv e 2+Int.tdiv e 2<=e:=by grind [Int.tdiv_eq_ediv_of_nonneg]
  rw[dk (b:=Int.tdiv e 2) V V];generalize Int.tdiv e 2=h2 at*;have hm:=yW d2;have I:∀{l M':D},Fz [c] w l->Fz [c] l M'->aS M' i.size 0=aS l i.size 0:=by grind [Lw.dg]
  have K:∀{l M':D},Fz [c] w l->Fz [c] l M'->aS M' i.size 1=aS l i.size 1:=λo f'=>y.dg o f' bO;have ag:=λ(l:D)(cM:GC c j (P+2) d p f h l)(o:Fz [c] w l)=>ih h2 d0 d2 (r.size::g) c (P+2) j d p k l v G (L (oh o.aQ)) (by simp[C]) cM V (Q.le (fh (F4.N o))) V ar;have ah:=λ(l:D)(ad:E)(cM:GC c j (P+2+Cg h2) d p f h l)(o:Fz [c] w l)(hw:IR c l ad (v++[G]))=>ih h2 d0 d2 (r.size::g) c (P+2+Cg h2) j d p ad l (v++[G]) F (L (oh o.aQ)) (by simp[C]) cM V hw cC N;have ai:=λ(l:D)(ad:E)(o:Fz [c] w l)(hR:c<l.size)(aa:IR c l ad [G])=>iH (S:=[c]) cC (Q.le (fh (F4.N o))) aa cC;have aj:=λ(M0 l:D)(Z e2:Ex)(t1 t2:E)(o:Fz [c] w l)(hR:Rd c j (P+2+Cg h2+Cg h2) l)(h1:jr (di (r.size::g) l) t1 Z.dA)(aw:jr (di (r.size::g) l) t2 e2.dA)(w1:WX f h.length v.length Z)(w2:WX f h.length (v++[G]).length e2)=>
   have H:=J.push l (.cells (dh [.i Z.op,.i Z.cG,.s t1,.i e2.op,.i e2.cG,.s t2]) dB)
   have an:=L (l:=l) (oh o.aQ)
   XP.qv (S:=g) (Q':=λm=>WX f h.length v.length m/\(e<=2->m.n<=4)) (qS (hR.ext H) ((PR an [(Z,t1),(e2,t2)] bO cC O O).cB Ef.aP an cH bO) 13 0) ((y.fz o).fz (H.fz [])) ((F4.N o).cg H) s.rd V (λm he=>he▸hQ _ (.lt w1 cC)) (i:=P+Cg e) V
  refine⟨?_,?_⟩
  .refine XP.cg (ag w T nR) y λs5 U m5 h5 q5 r5 t=>⟨_,_,_,O,I nR t,K nR t,?_⟩;intro m6;have z:=px m6;have au:bg (di [c] m6) (.mk m5.size 0 1 1) [G]:=bg.jY bG cC O O bO;have u:=t.cg z;refine⟨I t (z.fz _),K t (z.fz _),I t (z.fz _),K t (z.fz _),?_⟩;refine(ai m6 _ u (r5.ext z).lt au).aP λ_ m7⟨s7,l7,m,g7,q7,q⟩=>⟨(y.fz u).fg (q.fz _),s7,m,I u (q.fz _),K u (q.fz _),?_⟩;subst q7;refine XP.cg (ah m7 s7 (((T.to t r5).ext z).ext q) (u.cg q) (GI.cB g7 cC cC)) ((y.fz u).fz (q.fz [])) λs8 e8 m8 h8 q8 r8 f8=>⟨_,_,_,O,?_⟩;exact aj m8 m8 U e8 s5 s8 ((u.cg q).N f8) r8 (jr.le (((z.N q).fz [c]).N f8|>.eX (by simp[C])) h5) h8 q5.1 q8.1
  .intro m5;have z:=px m5;have au:bg (di [c] m5) (.mk w.size 0 1 1) [G]:=bg.jY bG cC O O bO;refine⟨I nR (z.fz _),K nR (z.fz _),I nR (z.fz _),K nR (z.fz _),?_⟩;refine XP.cg (ag m5 (T.ext z) (z.fz _)) (y.fz (z.fz [])) λs6 e6 m6 h6 q6 r6 u=>⟨_,_,_,O,I (z.fz _) u,K (z.fz _) u,?_⟩;have U:=(z.fz [c]).N u;refine(ai m6 _ U r6.lt (au.le (fh u))).aP λ_ m7⟨s7,l7,m,g7,q7,q⟩=>⟨(y.fz U).fg (q.fz _),s7,m,I U (q.fz _),K U (q.fz _),?_⟩;subst q7;refine XP.cg (ah m7 s7 (((T.ext z).to u r6).ext q) (U.cg q) (GI.cB g7 cC cC)) ((y.fz U).fz (q.fz [])) λs8 e8 m8 h8 q8 r8 f8=>⟨_,_,_,O,?_⟩;exact aj m8 m8 e6 e8 s6 s8 ((U.cg q).N f8) r8 (jr.le ((q.fz [c]).N f8|>.eX (by simp[C])) h6) h8 q6.1 q8.1
 .intro w;have q:=px w;have z:bg (di [c] w) (.mk m3.size 0 3 3) [0,F,F]:=by grind [bg.jY,Rd.lt]
  rw[am];exact Eo V ih (L (oh q.aQ)) C (B.ext q) V (Q.le (fh (A.cg q))) V V z bO (by simp;exact⟨s.gp.ty cH cH,N⟩) (R.fz (q.fz [])) (A.cg q) s.rd V (λu hl hw=>hQ _ (.iU cH (λ_=>by simpa using hl) cH (λaa=>V) hw)) V
 .refine(OD (c:=[c]) cC (B.hd.le fJ) al (tU.le fJ B.hp) V iY F).aP λ_ w⟨G,u,m,gl,hq,q⟩=>⟨R.fg (q.fz _),G,m,λaa=>?_,λ_=>ap q⟩;simp only[bh]at aa;have ad:IR c w G u:=by grind [GI.cB,Rd.lt]
  have an:=ad.aT;have T:=B.ext q;have y:=R.fz (q.fz []);refine(dW T.rd V G.len).aP λ_ m5⟨ab,m,k0,k1,r5,t⟩=>⟨y.fg t,ab,m,k0,V,?_⟩;let⟨ai,hy⟩:=dY u ab.toNat;obtain⟨fi,ah,rfl,K⟩:=hq.1 ai (ba hy);have z:=T.to t r5;let⟨ps,ag,e0,Z⟩:=z.hp.br K;have aj:=bC K;have ar:=z.hp.aT;have U:=Bu _ (s.gp.eR ah (ba K));have I:=(q.fz [c]).N t;refine⟨_,(gY.1 ((ad.le (fh t)).br hy)).2,V,V,ps,(gY.1 e0).2,?_⟩;rw[am];exact Eo V ih (L (oh I.aQ)) C z V (Q.le (fh (A.N I))) V V ag U.1 (λF N=>s.gp.ty (U.2.1 F N).1 (U.2.1 F N).2) (y.fz t) (A.N I) s.rd V (λu _ hw=>hQ _ (.iU cH (λaa=>V) cH (λ_=>⟨V,V⟩) hw)) V
def W0{f:af}{h:av}:∀(n:Nat)(e:Int),e.toNat=n->0<=e/\e<=100->Pn f h e:=λn=>by
 induction n using Nat.strongRecOn with
 |ind n d=>exactλe i b=>adI b λa c g=>d a.toNat V a O ⟨c,V⟩
variable{g:ad}{c P:Nat}{j d p k:E}{f:af}{h:av}{i:D}{v:ab}
def Fit(f:af)(b a:Nat)(e:Ex):Prop:=WX f b a e/\e.n<=30
def QZ(hS:∀y∈g,y<i.size)(ab:c∈g)(y:GC c j P d p f h i)(hP:P+20*Cg 18<=10^16)(hv:IR c i k v)(ag:v.length<=100){T:Int}(ht:Ty f T)(t:0<=e/\e<=18):
 bJ dP 292 [vp c 0,.agg #[d.v,p.v],k.v,vi T,vi e] i (XP g c j i (P+20*Cg 18) (Fit f h.length v.length)):=by
 apply JG (c,0)
 simp -zeta only[dT]
 intro u C
 let⟨B,hl⟩:=fV (a:=u) (c:=C) O O
 have s1:=pz u
 have hr:=y.rd.lt
 have z2:=B.aQ
 have N:Lw c [u.size,i.size] C:=λe t=>⟨hl e t,by simp at t;omega⟩
 have aa:∀{M:D},C.size<=M.size->∀l∈u.size::g,l<M.size:=λR l Y=>by have:=dH hS B.aQ (hl u.size bO) l Y;omega
 have W:=y.ext B
 have hm:=yW t.2
 refine XP.cg (W0 _ e O ⟨t.1,V⟩ (u.size::g) c P j d p k C v T (aa bY) (by simp[ab]) W V (hv.le (fh (B.fz _))) V ht) N λs3 G s h3 q3 r3 f3=>⟨_,_,_,O,?_⟩
 intro m4 S
 obtain⟨U,s5⟩:=pv S
 have B5:dJ S s.size dB [.i G.op,.i G.cG,.s s3]:=dJ.aW (m:=m4) (o:=0) (r:=[.i G.op,.i G.cG,.s s3]) (dJ.push s _ _)
 have z3:=f3.aQ
 have ad:∀l∈s.size::u.size::g,l<S.size:=dH (aa z3) U.aQ V
 refine⟨λq M=>∃(J:E)(l:Ex)(w:Nat),0<=q/\q<=18/\q.toNat<=w/\w<=18/\dJ M s.size dB [.i l.op,.i l.cG,.s J]/\jr (di (s.size::u.size::g) M) J l.dA/\WX f h.length v.length l/\(q<=2->l.n<=4)/\Rd c j (P+(19 -w)*Cg 18) M/\Fz [c] C M/\S.size<=M.size,λq _=>q.toNat,⟨s3,G,18,t.1,t.2,V,bY,B5,jr.le (U.di λe t=>(aZ.1 t).elim (λR=>bH V) bz) h3,q3.1,q3.2,(r3.ext U).aP V,(f3.cg U),bY⟩,?_⟩
 rintro q M ⟨J,l,w,b0,b1,bk,ah,K,hs,hw,hn,rM,fM,zM⟩
 refine⟨_,K.dg 0,_,K.dg 1,_,K.dg 2,?_⟩
 refine(FX (jr.le fJ hs)).aP λ_ I⟨n6,e6,q6,F⟩=>⟨(N.fz fM).fg (F.fz _),n6,e6,?_⟩
 have L:=K.ext F
 have r6:=rM.ext F
 have z:=fM.cg F
 have z6:=F.aQ
 have kc:(19 -w)*Cg 18+Cg 18<=20*Cg 18:=by rw[<-Ea];exact fq _ V
 have cJ:l.n<=30->∃v0:Int,aS I s.size 0=some (vi v0)/\∃v1:Int,aS I s.size 1=some (vi v1)/\∃v2:E,aS I s.size 2=some v2.v/\XP g c j i (P+20*Cg 18) (Fit f h.length v.length) (.agg #[vi v0,vi v1,v2.v]) (aW I u.size 0 [.i v0,.i v1,.s v2]):=λac=>
  ⟨_,L.dg 0,_,L.dg 1,_,L.dg 2,J,l,O,jr.le (dU bO λy X=>aX _ (aX _ X)) (jr.le F.eX hs),⟨hw,ac⟩,y.rd.aW (r6.aP V) ((B.fz _).N z) V 0 _,((B.fz _).N z).aW (bH V) _ _⟩
 refine⟨λR=>⟨λA=>?_,λA=>cJ (by simp only[dK]at A;have:=hn V;omega)⟩,λR=>cJ (by simp only[dK]at R;omega)⟩
 simp only[bh]at A
 let⟨d0,d1⟩:=SX (e:=q) (d:=2) b0 V
 have d2:Int.tdiv q 2<=q -1:=by rw[aa2 b0];omega
 rw[dk (b:=Int.tdiv q 2) V V]
 generalize Int.tdiv q 2=A at*
 have ae:=yW (l:=A) (c:=18) V
 refine⟨cH,?_⟩
 refine XP.cg (W0 _ A O ⟨d0,V⟩ (s.size::u.size::g) c _ j d p k I v T (λl Y=>oh (ad l Y)) (by simp[ab]) (W.to z r6) V (hv.le (fh ((B.fz _).N z))) V ht) (N.fz z) λs7 H Z h7 q7 r7 Q=>⟨_,_,_,O,?_⟩
 have af:c≠s.size:=V
 have B7:dJ Z s.size dB [.i l.op,.i l.cG,.s J]:=L.congr (Q.bB _ V fu)
 refine⟨B7.gK bO,?_⟩
 intro m8
 have B8:dJ m8 s.size dB [.i H.op,.i H.cG,.s s7]:=dJ.aW (m:=Z) (o:=0) (r:=[.i H.op,.i H.cG,.s s7]) B7
 have f8:Fz [c] C m8:=(z.N Q).aW (bH V) _ _
 have s8:m8.size=Z.size:=bE _ _ _ _
 have z7:=Q.aQ
 refine⟨λe t=>cw _ _ _ _ (oh ((N e t).1)),⟨s7,H,w -1,d0,V,V,V,B8,jr.le (dU bO λy X=>X) h7,q7.1,q7.2,?_,f8,V⟩,by show A.toNat<q.toNat;omega⟩
 refine W.rd.aW (r7.aP ?_) (z.N Q) V 0 _
 rw[show 19 -(w -1)=19 -w+1 by omega,Ea];omega
end
section
variable{l:ae}
@[grind cases] structure HX (S:ad) (ds:af) (nf a:Nat) (M:D) (s:E) (e:Ex):Prop where
 sl:jr (di S M) s e.dA
 wx:WX ds nf a e
@[grind cases] structure Rs (rb:Nat) (bs:E) (m:D) (Q:Nat) (M:D):Prop where
 f:Fz [rb] m M
 r:Rd rb bs Q M
variable{S L:ad}{g Q t x k a j:Nat}{n d p s w:E}{i:af}{u:av}{q M c:D}{h:Ex}{v:ab}{K:Int->Int->E->D->Prop}
theorem HX.fz(b:HX S i j a M s h)(d:g∈S)(f:Fz [g] M c):HX S i j a c s h:=⟨jr.le (f.eX (by simp[d])) b.sl,b.wx⟩
def HX.ext(b:HX S i j a M s h)(x:J M c):HX S i j a c s h:=⟨jr.le x.eX b.sl,b.wx⟩
def HX.oE(b:HX S i j a M s h)(x:J M c)(f:M.size<=k):HX (k::S) i j a c s h:=⟨jr.le (x.di λe d=>(aZ.1 d).elim (λb=>bH V) bz) b.sl,b.wx⟩
theorem HX.iQ(b:HX (k::S) i j a M s h):HX S i j a M s h:=⟨jr.le (kW M λ_=>aX _) b.sl,b.wx⟩
def HX.cE(b:HX S i j a M s h)(c:k∈S){o:Nat}:HX S i j a (aW M k o l) s h:=⟨jr.le (dU c λ_ b=>b) b.sl,b.wx⟩
def Rs.ext(h:Rs g n q Q M)(x:J M c):Rs g n q Q c:=⟨h.f.cg x,h.r.ext x⟩
theorem Rs.to(h:Rs g n q Q M)(f:Fz [g] M c)(r:Rd g n t c):Rs g n q t c:=⟨h.f.N f,r⟩
theorem Rs.cE(h:Rs g n q Q M)(b:Rd g n x q)(a:q.size<=k)(o:Nat)(l:ae):Rs g n q Q (aW M k o l):=⟨h.f.aW (bH a) _ _,b.aW h.r h.f a o l⟩
theorem lw(h:g<q.size)(a:∀b∈L,q.size<=b/\b<M.size):Lw g L M:=λb c=>⟨(a b c).2,oh ((a b c).1)⟩
theorem kg(f:Fz [g] M c)(h:g<q.size)(a:q.size<=k/\k<M.size)(o:Nat):aS c k o=aS M k o:=by grind [bD,Fz.bB]
def kZ{c a:D}{z:ae}{t:Nat}(d:c=M.push (.cells (dh z) t))(f:a=aW c M.size 0 l)(g:l.length=z.length):J M a/\dJ a M.size t l/\a.size=M.size+1:=by
 subst d f;refine⟨(J.push M _).aW bY _ _,?_,by rw[bE];simp⟩;have h:=dJ.aW (m:=M.push (.cells (dh z) t)) (b:=M.size) (e:=t) (l:=z) (o:=0) (r:=l) (dJ.push _ _ _);rwa[show jm z 0 l=l from by
  have h:=Cd [] l z V;rw[List.drop_of_length_le V]at h;simpa using h]at h
def XP.kk{f:Nat}{b:ap}{T:Ex->Prop}(m:bJ dP f b M (XP S g n M Q T))(o:Lw g L M)(p:∀s h c,jr (di S c) s h.dA->T h->Rd g n Q c->Fz [g] M c->K h.op h.cG s c):bJ dP f b M λv c=>gT L M c/\∃e i:Int,∃j:E,v=.agg #[vi e,vi i,j.v]/\K e i j c:=
 XP.cg m o λs h c a k l d=>⟨_,_,_,O,p s h c a k l d⟩
def Bq(S:ad)(i:af)(j:Nat)(m:Lw g L M){n:Int}(p:0<=n/\n<(a:Int))(o:∀s c,HX S i j a c s (.mk 12 n [])->J M c->K 12 n s c):bJ dP 322 [vi n] M λv c=>gT L M c/\∃b d:Int,∃e:E,v=.agg #[vi b,vi d,e.v]/\K b d e c:=
 (pM S n M).aP λv c⟨s,h,f,k,l,x⟩=>⟨m.fg (x.fz _),by subst l;exact⟨_,_,_,f,o s c ⟨k,.var p⟩ x⟩⟩
def NL(S:ad)(i:af)(j a:Nat)(m:Lw g L M)(n:Int)(o:∀s c,HX S i j a c s (.mk 0 n [])->J M c->K 0 n s c):bJ dP 287 [vi n] M λv c=>gT L M c/\∃b d:Int,∃e:E,v=.agg #[vi b,vi d,e.v]/\K b d e c:=
 (FH S n M).aP λv c⟨s,h,f,k,l,x⟩=>⟨m.fg (x.fz _),by subst l;exact⟨_,_,_,f,o s c ⟨k,.qt n⟩ x⟩⟩
def tw(l:List (Ex×E))(d:l.length<=1000)(b:∀c∈S,c<M.size)(h:∀x∈l,jr (di S M) x.2 x.1.dA){a:ae}{n:Nat}(c:a=l.flatMap λx=>[.i x.1.op,.i x.1.cG,.s x.2])(e:n=l.length):jr (di S (M.push (.cells (dh a) dB))) (.mk M.size 0 n n) (l.map (·.1)):=
 (PR b l d h c e).cB Ef.aP b cH cC
def mu{dA:ax}(k:jr (di S M) s dA){b cG:Int}(q:WX i j a (.mk b cG dA))(o:Lw g L M)(p:∀s c,HX S i j a c s (.mk b cG dA)->J M c->K b cG s c):
 bJ dP 320 [vi b,vi cG,s.v] M λv c=>gT L M c/\∃d e:Int,∃f:E,v=.agg #[vi d,vi e,f.v]/\K d e f c:=
 (Oc k b cG).aP λv c⟨s,h,l,m,n,x⟩=>⟨o.fg (x.fz _),by subst n;exact⟨_,_,_,l,p s c ⟨m,q⟩ x⟩⟩
def KG(x:∀a∈S,a<M.size)(z:g∈S)(a:GC g n Q d p i u M)(C:Q+Cg 18<=10^16)(B:IR g M w v)(F:v.length<=100){t b:Int}(A:Ty i t)(e:0<=b/\b<=18)(r:Lw g L M)(y:∀h s c,HX S i u.length v.length c s h->Rd g n (Q+Cg 18) c->Fz [g] M c->K h.op h.cG s c):
 bJ dP 319 [vp g 0,.agg #[d.v,p.v],w.v,vi t,vi b] M λv c=>gT L M c/\∃f j:Int,∃k:E,v=.agg #[vi f,vi j,k.v]/\K f j k c:=
 have D:=yW e.2
 XP.kk (W0 _ b O ⟨e.1,V⟩ S g Q n d p w M v t x z a V B V A) r λs h c l m o q=>y h s c ⟨l,m.1⟩ (o.aP V) q
end
section
def WX.lF{e:af}{b a:Nat}{n:Int}{dA:ax}(h:∀c∈dA,WX e b a c):WX e b a (.mk 6 n dA):=by grind [WX.iU]
variable{c:ad}{f P:Nat}{g d p:E}{e:af}{h:av}{b:D}
def Q4(e:af)(s:Nat)(hS:∀W∈c,W<b.size)(X:f∈c)(N:Rd f g P b)(hP:P+100<=10^16)(aw:Int):bJ dP 321 [vp f 0,vi aw] b (XP c f g b (P+100) (WX e s 0)):=by
 apply JQ (f,0);simp -zeta only[dT];intro az al;have x2:J b al:=by grind [J.push,J.N]
 have s2:al.size=b.size+2:=cC;have hr:=N.lt;have ak:∀{h:D},al.size<=h.size->∀W∈b.size::c,W<h.size:=by grind [dH]
 have T:Rs f g b P al:=⟨x2.fz _,N.ext x2⟩;refine mu (S:=b.size::c) (a:=0) (i:=e) (j:=s) pZ (.lF bO) (lw hr cC) λs3 Y h3 x3=>?_;intro m4 A;let⟨x5,B5,z5⟩:=kZ (M:=Y) (c:=m4) (a:=A) O O O;clear_value A;have z3:=x3.aQ;have r5:=(T.ext x3).ext x5;refine⟨λ_=>?_,λ_=>?_⟩
 .intro m6;have x6:=px m6;clear_value m6;have z6:=x6.aQ;refine mu (S:=b.size::c) (a:=0) (i:=e) (j:=s) pZ (.lF bO) (lw hr cC) λI w h7 x7=>?_;intro m8 u;let⟨x9,B9,z9⟩:=kZ (M:=w) (c:=m8) (a:=u) O O O;clear_value u;have z7:=x7.aQ;have r9:=((r5.ext x6).ext x7).ext x9;have h9:=h7.ext x9;have G:∀{h v:D},u.size<=h.size->Fz [f] h v->∀o,aS v w.size o=aS h w.size o:=by grind [kg]
  have LW:∀{h:D},u.size<=h.size->Lw f [w.size,Y.size,b.size] h:=λt=>lw hr cC;have LK:∀{h:D}{l:Nat},u.size<=l->l<h.size->Lw f [l,w.size,Y.size,b.size] h:=λt L=>lw hr cC;have hw:∀n:Int,WX e s 0 (.mk 6 3 [.mk 6 2 [],.mk 0 n [],.mk 6 2 []]):=λn=>.lF (by simp;exact⟨.lF bO,.qt n,.lF bO⟩);refine⟨λmE h=>∃x k,mE.2=0/\b.size<=mE.1/\dJ h mE.1 dB [.i k.op,.i k.cG,.s x]/\HX (b.size::c) e s 0 h x k/\HX (b.size::c) e s 0 h I (.mk 6 2 [])/\Rs f g b (P+1) h/\u.size<=h.size,?_,?_⟩
  .have jX:∀{l t0:Nat}{h:D}{n:Int},dJ h l dB [.i 0,.i 0,.s .nil]->u.size<=l->jr (di (l::b.size::c) h) (.mk t0 0 3 3) [.mk 6 2 [],.mk 0 n [],.mk 6 2 []]->Rs f g b (P+1) h->HX (l::b.size::c) e s 0 h I (.mk 6 2 [])->
    bJ dP 320 [vi 6,vi 3,E.v (.mk t0 0 3 3)] h λax v=>gT [l,w.size,Y.size,b.size] h v/\∃r0 r1:Int,∃T:E,ax=.agg #[vi r0,vi r1,T.v]/\∃x k,((l,0):ai).2=0/\b.size<=((l,0):ai).1/\dJ (aW v l 0 [.i r0,.i r1,.s T]) ((l,0):ai).1 dB [.i k.op,.i k.cG,.s x]/\HX (b.size::c) e s 0 (aW v l 0 [.i r0,.i r1,.s T]) x k/\HX (b.size::c) e s 0 (aW v l 0 [.i r0,.i r1,.s T]) I (.mk 6 2 [])/\Rs f g b (P+1) (aW v l 0 [.i r0,.i r1,.s T])/\u.size<=(aW v l 0 [.i r0,.i r1,.s T]).size:=λB hk R H t=>
    mu R (hw _) (LK hk B.lt) λs' v L an=>⟨s',.mk 6 3 [.mk 6 2 [],.mk 0 _ [],.mk 6 2 []],O,V,dJ.aW (m:=v) (B.ext an),(L.cE bO).iQ,((t.ext an).cE bO).iQ,(H.ext an).cE N V _ _,by rw[bE];have:=B.lt;have:=an.aQ;omega⟩
   have zb:∀h:D,J h (h.push (.cells (dh [.i 0,.i 0,.s .nil]) dB))/\dJ (h.push (.cells (dh [.i 0,.i 0,.s .nil]) dB)) h.size dB [.i 0,.i 0,.s .nil]:=by grind [J.push,dJ.push]
   have ae:∀{S':ad}{h:D}{n:Int}{si:E},(∀W∈S',W<h.size)->HX S' e s 0 h I (.mk 6 2 [])->HX S' e s 0 h si (.mk 0 n [])->jr (di S' (h.push (.cells (dh [.i 6,.i 2,.s I,.i 0,.i n,.s si,.i 6,.i 2,.s I]) dB))) (.mk h.size 0 3 3) [.mk 6 2 [],.mk 0 n [],.mk 6 2 []]:=λhS t L=>
    tw [(.mk 6 2 [],I),(.mk 0 _ [],_),(.mk 6 2 [],I)] bO hS (by simp;exact⟨t.sl,L.sl,t.sl⟩) O O
   have aq:∀{h:D}{l:Nat},u.size<=l->l<h.size->∀W∈l::b.size::c,W<h.size:=λt L=>dH (ak V) V L;refine⟨(dW r9.r V 9).aP λ_ F⟨n,k,_,_,ah,q⟩=>⟨(LW bY).fg q,n,k,G bY q _,G bY q _,G bY q _,G bY q _,G bY q _,G bY q _,?_,?_⟩,?_⟩
   .have z:=r9.to q ah;have C8:=q.aQ;have Q:=h9.fz (by simp[X]) q;refine NL (b.size::c) e s 0 (LW C8) n λau y ab j=>?_;have ao:=j.aQ;have d:=λo=>G C8 (j.fz _) o;refine⟨d _,d _,d _,d _,d _,d _,?_,?_⟩
    .intro r;have i:=px r;have R:jr (di (b.size::c) r) (.mk y.size 0 3 3) [.mk 6 2 [],.mk 0 n [],.mk 6 2 []]:=ae (ak V) (Q.ext j) ab;have ay:=i.aQ;refine⟨?_,?_⟩
     .refine mu (M:=r) (g:=f) R (hw n) (LW V) λar C aj p=>?_;intro U;have ac:=px U;have ag:=p.aQ;have d:=λo=>G V (ac.fz _) o;refine⟨d _,d _,d _,d _,d _,d _,?_⟩;intro aa;let⟨K,Z,am⟩:=kZ (M:=C) (c:=U) (a:=aa) O O O;exact⟨ar,.mk 6 3 [.mk 6 2 [],.mk 0 n [],.mk 6 2 []],O,V,Z,aj.ext K,(((Q.ext j).ext i).ext p).ext K,(((z.ext j).ext i).ext p).ext K,V⟩
     .intro C;obtain⟨p,K⟩:J r C/\dJ C r.size dB [.i 0,.i 0,.s .nil]:=zb r;have d:=λo=>G V (p.fz _) o;exact⟨d _,d _,d _,d _,d _,d _,jX K V (jr.le (p.di λag hb=>(aZ.1 hb).elim (λt=>bH V) bz) R) (((z.ext j).ext i).ext p) (((Q.ext j).ext i).oE p bY)⟩
    .intro r;obtain⟨i,aa⟩:J y r/\dJ r y.size dB [.i 0,.i 0,.s .nil]:=zb y;have d:=λo=>G V (i.fz _) o;refine⟨d _,d _,d _,d _,d _,d _,?_⟩;intro C;have p:=px C;have K:=(Q.ext j).oE i bY;exact jX (aa.ext p) V (ae (aq V aa.lt) K (ab.oE i bY)) (((z.ext j).ext i).ext p) (K.ext p)
   .have z:=r9.to q ah;have C8:=q.aQ;have Q:=h9.fz (by simp[X]) q;intro y;obtain⟨j,U⟩:J F y/\dJ y F.size dB [.i 0,.i 0,.s .nil]:=zb F;have d:=λo=>G V (j.fz _) o;have ao:=j.aQ;refine⟨d _,d _,d _,d _,d _,d _,?_⟩;refine NL (F.size::b.size::c) e s 0 (LK V U.lt) n λam r ac i=>?_;have d:=λo=>G V (i.fz _) o;refine⟨d _,d _,d _,d _,d _,d _,?_⟩;intro C;have p:=px C;have K:=(Q.oE j bY).ext i;exact jX ((U.ext i).ext p) V (ae (aq V (U.ext i).lt) K ac) (((z.ext j).ext i).ext p) (K.ext p)
   .intro F;obtain⟨z,ap⟩:J u F/\dJ F u.size dB [.i 0,.i 0,.s .nil]:=zb u;have d:=λo=>G V (z.fz _) o;have C8:=z.aQ;refine⟨d _,d _,d _,d _,d _,d _,?_⟩;refine(dW (r9.ext z).r V 9).aP λ_ y⟨n,k,_,_,av,Z⟩=>⟨(LK bY ap.lt).fg Z,n,k,?_⟩;have d:=λo=>G V Z o;refine⟨d _,d _,d _,d _,d _,d _,?_⟩;have U:=ap.congr (Z.bB u.size ap.lt cC);have ao:=Z.aQ;refine NL (u.size::b.size::c) e s 0 (LK bY U.lt) n λam r ac i=>?_;have d:=λo=>G V (i.fz _) o;refine⟨d _,d _,d _,d _,d _,d _,?_⟩;intro C;have p:=px C;have K:=((h9.oE z bY).fz (by simp[X]) Z).ext i;exact jX ((U.ext i).ext p) bY (ae (aq bY (U.ext i).lt) K ac) ((((r9.ext z).to Z av).ext i).ext p) (K.ext p)
  .rintro⟨l,o⟩ h ⟨x,k,ho,hk,B,t,L,H,U⟩;simp only at ho hk B;subst ho;have bl:=B.lt;refine⟨_,B.dg 0,_,B.dg 1,_,B.dg 2,?_⟩;have L3:∀{v:D},h.size<=v.size->Lw f [w.size,Y.size,b.size] v:=cC;refine(dW H.r V 9).aP λ_ F⟨n,en,_,_,ah,q⟩=>⟨(L3 bY).fg q,n,en,?_⟩;have C8:=q.aQ;have gg:∀{K Z:D},h.size<=K.size->Fz [f] K Z->∀o,aS Z l o=aS K l o:=by grind [kg]
   have ga:=λo=>G U q o;have gb:=λo=>gg bY q o;refine⟨?_,?_,?_,?_,?_,?_,?_⟩;iterate 6 first|exact ga _|exact gb _
   refine NL (b.size::c) e s 0 (L3 C8) n λau y ab j=>?_;have ga:=λo=>G V (j.fz _) o;have gb:=λo=>gg C8 (j.fz _) o;refine⟨?_,?_,?_,?_,?_,?_,?_⟩;iterate 6 first|exact ga _|exact gb _
   intro r;have i:=px r;have ao:=j.aQ;have ae:=(t.fz (by simp[X]) q).ext j;have ag:=(L.fz (by simp[X]) q).ext j;have R:=tw (M:=y) [(k,x),(.mk 0 n [],au),(.mk 6 2 [],I)] bO (ak V) (by simp;exact⟨ae.sl,ab.sl,ag.sl⟩) O O;refine mu R (.lF (by simp;exact⟨ae.wx,ab.wx,ag.wx⟩)) (L3 (v:=r) (oh i.aQ)) λar C aj p=>?_;have an:=(((H.to q ah).ext j).ext i).ext p;exact⟨ar,_,O,(aj.cE bO).iQ.sl,aj.wx,((an.cE N bY _ _).r).aP V,(an.cE N bY _ _).f⟩
 .intro m6 w;let⟨x7,B7,z7⟩:=kZ (M:=A) (c:=m6) (a:=w) O O O;clear_value w;have r7:=r5.ext x7;have C:∀{h:D},w.size<=h.size->Lw f [Y.size,b.size] h:=λt=>lw hr cC;refine(dW r7.r V 3).aP λ_ m8⟨n,en,n0,n3,I,q⟩=>⟨(lw hr cC:Lw f [A.size,Y.size,b.size] w).fg q,n,en,?_⟩;rw[dk V V];have z8:=q.aQ;have ab:b.size<=A.size:=V;refine⟨λp h=>0<=p/\p<=3/\∃x k,dJ h A.size dB [.i k.op,.i k.cG,.s x]/\HX (A.size::b.size::c) e s 0 h x k/\Rs f g b (P+1+4*(3 -p).toNat) h/\w.size<=h.size,λp _=>p.toNat,⟨V,V,s3,.mk 6 0 [],B7.congr (q.bB _ V cC),((h3.ext x5).oE x7 bY).fz (by simp[X]) q,⟨(r7.to q I).f,I.aP V⟩,z8⟩,?_⟩;rintro p h ⟨i0,i3,x,k,B,t,H,U⟩;refine⟨λhi=>?_,λ_=>⟨_,B.dg 0,_,B.dg 1,_,B.dg 2,x,k,O,(t.iQ.cE bO).iQ.sl,t.wx,(H.cE N bY _ _).r.aP V,(H.cE N bY _ _).f⟩⟩;simp only[bh]at hi;refine⟨_,B.dg 0,_,B.dg 1,_,B.dg 2,?_⟩;have d:∀{K Z:D},w.size<=K.size->Fz [f] K Z->∀o,aS Z A.size o=aS K A.size o:=by grind [kg]
  refine(Gg H.r V).aP λ_ u⟨v,en,d9,l⟩=>⟨(C U).fg l,v,en,d U l _,d U l _,d U l _,?_⟩;have z9:=l.aQ;refine NL (A.size::b.size::c) e s 0 (C V) v λah F Q z=>⟨d V (z.fz _) _,d V (z.fz _) _,d V (z.fz _) _,?_⟩;intro y;have j:=px y;have C8:=z.aQ;have ao:=j.aQ;have ae:=(t.fz (by simp[X]) l).ext z;have R:jr (di (A.size::b.size::c) y) (.mk F.size 0 2 2) [.mk 0 v [],k]:=tw [(.mk 0 v [],ah),(k,x)] bO (dH (ak V) bY V) cC O O;refine mu R (.lF (by simp;exact⟨Q.wx,ae.wx⟩)) (C V) λam r ac i=>?_;have aa:dJ r A.size dB [.i k.op,.i k.cG,.s x]:=(((B.congr (l.bB _ B.lt cC)).ext z).ext j).ext i;have ay:=i.aQ;rw[dk V V];refine⟨aa.gK bO,λag hb=>cw _ _ _ _ cC,⟨V,V,am,.mk 6 1 [.mk 0 v [],k],dJ.aW (m:=r) aa,ac.cE bO,?_,by rw[bE];omega⟩,by show(p -1).toNat<p.toNat;omega⟩;have L:=((((H.to l d9).ext z).ext j).ext i).cE N ab 0 [.i 6,.i 1,.s am];exact⟨L.f,L.r.aP V⟩
end
section
@[grind cases] structure BX (S:ad) (ds:af) (nf a k:Nat) (M:D) (s:E) (e:Ex):Prop where
 b:dJ M k dB [.i e.op,.i e.cG,.s s]
 h:HX (k::S) ds nf a M s e
section
variable{S:ad}{c Q h l k a b:Nat}{j s:E}{f:af}{g M d:D}{e:Ex}
def BX.bI{d c:D}(h:HX S f b a M s e)(g:d=M.push (.cells (dh [.i 0,.i 0,.s .nil]) dB))(i:c=aW d M.size 0 [.i e.op,.i e.cG,.s s]):J M c/\BX S f b a M.size c s e/\c.size=M.size+1:=
 let⟨x,B,z⟩:=kZ g i O;⟨x,⟨B,h.oE x bY⟩,z⟩
def BX.fz(h:BX S f b a k M s e)(j:c∈S)(i:k≠c)(g:Fz [c] M d):BX S f b a k d s e:=by constructor<;>grind [BX.b,dJ.congr,Fz.bB,dJ.lt,BX.h,HX.fz]
def BX.ext(h:BX S f b a k M s e)(x:J M d):BX S f b a k d s e:=⟨h.b.ext x,h.h.ext x⟩
def BX.eE(h:BX S f b a k M s e){d:E}{c:Ex}(g:HX (k::S) f b a M d c):BX S f b a k (aW M k 0 [.i c.op,.i c.cG,.s d]) d c:=⟨dJ.aW (m:=M) h.b,g.cE bO⟩
def HX.jX(d:HX (k::S) f b a M s e)(r:Rs c j g Q M)(i:Rd c j l g)(m:g.size<=k)(n:Q<=h):XP S c j g h (WX f b a) (.agg #[vi e.op,vi e.cG,s.v]) (aW M k 0 [.i e.op,.i e.cG,.s s]):=
 ⟨s,e,O,(d.cE bO).iQ.sl,d.wx,(r.cE i m _ _).r.aP n,(r.cE i m _ _).f⟩
end
variable{S:ad}{c P:Nat}{j d p:E}{f:af}{i:av}{g:D}
def OU(hS:∀h∈S,h<g.size)(s:c∈S)(h:GC c j P d p f i g)(hP:P+200+Cg 18<=10^16):bJ dP 288 [vp c 0,.agg #[d.v,p.v]] g (XP S c j g (P+200+Cg 18) (WX f i.length 0)):=by
 apply HM (c,0);simp -zeta only[dT];intro k t u;let⟨x2,hl⟩:=fV (a:=k) (c:=t) O O;have s1:=pz k;have s2:t.size=g.size+2:=cC;have R:=px u;have r:=h.rd.lt;have ab:bg (di [c] u) (.mk t.size 0 3 3) [1,1,3]:=by grind [bg.jY]
 clear_value u;clear_value t;have z:∀{b:D},t.size<=b.size->∀h∈k.size::S,h<b.size:=by grind [dH]
 have Z:Rs c j g P u:=⟨(x2.N R).fz _,(h.rd.ext x2).ext R⟩;have z3:=R.aQ;refine(om Z.r V ab bO).aP λ_ m4⟨Q,q,ht,d4,B⟩=>⟨(lw r cC:Lw c [k.size,g.size] u).fg B,Q,q,?_⟩;have r4:=Z.to B d4;have z4:=B.aQ;intro I;have x5:=px I;have ac:bg (di [c] I) (.mk m4.size 0 1 1) [Q]:=bg.jY bG cC O O bO;clear_value I;have K:=r4.ext x5;have z5:=x5.aQ;refine KG (z V) (by simp[s]) (h.to K.f K.r) V ac bO (h.gp.ty cH cH) cH (lw r cC) λy s6 A h6 d6 X=>?_;intro m7 v;let⟨x8,W,z8⟩:=BX.bI (c:=v) h6 O O;clear_value v;have z6:=X.aQ;have L:=(K.to X d6).ext x8;have G:A.size≠c:=V;have U:∀{b:D},v.size<=b.size->Lw c [A.size,k.size,g.size] b:=λE=>lw r cC;refine⟨λb=>∃N q,BX (k.size::S) f i.length 1 A.size b N q/\Rs c j g (P+2+Cg 18) b/\v.size<=b.size,?_,?_⟩
 .refine(dW L.r V 3).aP λ_ J⟨T,en,_,_,o,e⟩=>⟨(U bY).fg e,T,en,λ_=>?_,λ_=>⟨s6,y,W.fz (by simp[s]) G e,⟨(L.to e o).f,o.aP V⟩,e.aQ⟩⟩;have x:=W.fz (by simp[s]) G e;have z9:=e.aQ;intro m;have n:=px m;have H:jr (di (A.size::k.size::S) m) (.mk J.size 0 1 1) [y]:=tw [(y,s6)] bO (dH (z V) bY x.b.lt) cC O O;have C8:=n.aQ;refine mu (M:=m) H (.iU (a:=1) (b:=f) (d:=i.length) cH (λE=>V) cH (λE=>V) cC) (U V) λaa ad F w=>?_;have l:=((L.to e o).ext n).ext w;have C:=((x.ext n).ext w).eE F;exact⟨aa,.mk 5 0 [y],C,⟨(l.cE h.rd V _ _).f,((l.cE h.rd V _ _).r).aP V⟩,by rw[bE];have:=w.aQ;omega⟩
 rintro b ⟨N,q,l,Y,af⟩;refine⟨_,l.b.dg 0,_,l.b.dg 1,_,l.b.dg 2,?_⟩;have T:∀{b:D},v.size<=b.size->Lw c [k.size,g.size] b:=λE=>lw r cC;refine XP.kk (Q4 f i.length (z V) (by simp[s]) Y.r V Q) (T af) λs9 e9 J h9 w9 o e=>?_;have C:=λae=>kg e r ⟨V,l.b.lt⟩ ae;refine⟨C _,C _,C _,?_⟩;have z9:=e.aQ;intro m;have n:=px m;have x:=l.fz (by simp[s]) G e;have H:=tw (M:=J) [(e9,s9),(q,N)] bO (z V) (by simp;exact⟨h9,x.h.iQ.sl⟩) O O;refine mu (M:=m) H (.lt w9 l.h.wx) (T (oh n.aQ)) λaa ad F w=>?_;exact F.jX (((Y.to e o).ext n).ext w) h.rd V V
def OG(hS:∀e∈S,e<g.size)(t:c∈S)(e:GC c j P d p f i g)(hP:P+200+2*Cg 18<=10^16){z:Nat}{q:dS}(hq:i[z]? =some q)(h1:1<=q.aY.length):
 bJ dP 291 [vp c 0,.agg #[d.v,p.v],vi z] g (XP S c j g (P+200+2*Cg 18) (WX f i.length q.aY.length)):=by
 apply HA (c,0)
 simp -zeta only[dT]
 intro h I
 let⟨x2,hl⟩:=fV (a:=h) (c:=I) O O
 have s1:=pz h
 have s2:I.size=g.size+2:=cC
 have A:=e.rd.lt
 have s:∀{b:D},I.size<=b.size->∀e∈h.size::S,e<b.size:=by grind [dH]
 have r2:Rs c j g P I:=⟨x2.fz _,e.rd.ext x2⟩
 have o:∀{b:D},I.size<=b.size->Lw c [h.size,g.size] b:=by grind [lw]
 let⟨ps,af,e0,e1⟩:=e.hp.br hq
 have aH:=bC hq
 have aK:=e.hp.aT
 have R:=Bu _ (e.gp.eR q (ba hq))
 have h3:q.aY.length<=3:=R.1
 have N:∀{b:D},Fz [c] g b->IR c b ps q.aY:=λY=>af.le (fh Y)
 have E1:∀{b:D},Fz [c] g b->aS b p.bt (p.off+z*5+1)=some (vi q.bP):=λY=>(gY.1 (fh Y _ _ _ e1)).2
 refine⟨V,V,ps,(gY.1 (fh r2.f _ _ _ e0)).2,?_⟩
 refine Bq (h.size::S) f i.length (a:=q.aY.length) (o bY) V λs3 m3 au x3=>?_
 have z3:=x3.aQ
 refine NL (h.size::S) f i.length q.aY.length (o z3) 1 λs4 m4 h4 x4=>?_
 have z4:=x4.aQ
 intro m5
 have x5:=px m5
 have av:jr (di (h.size::S) m5) (.mk m4.size 0 2 2) [.mk 12 0 [],.mk 0 1 []]:=tw (M:=m4) [(.mk 12 0 [],s3),(.mk 0 1 [],s4)] bO (s V) (by simp;exact⟨(au.ext x4).sl,h4.sl⟩) O O
 have z5:=x5.aQ
 refine mu (M:=m5) av (.iU (a:=q.aY.length) (b:=f) (d:=i.length) cH (λl=>V) cH (λl=>V) cC) (o V) λs6 W h6 x6=>?_
 have z6:=x6.aQ
 have r6:=(((r2.ext x3).ext x4).ext x5).ext x6
 intro m7
 have x7:=px m7
 have g7:GE (h.size::S) W m7 (.mk W.size 0 1 1) [.mk 2 0 [.mk 12 0 [],.mk 0 1 []]]:=PR (s V) [(.mk 2 0 [.mk 12 0 [],.mk 0 1 []],s6)] bO cC O O
 have aL:=af.aT
 refine WW (g:=q.aY.length) V h1 (λT F b=>∃u,GE (h.size::S) W b F u/\u.length=T/\(∀x∈u,WX f i.length q.aY.length x)/\Rd c j (P+22*T) b/\Fz [c] W b) ⟨_,g7,O,sp h6.wx,(r6.r.ext x7).aP V,x7.fz _⟩ ?_
 rintro T F b aG μ aI hj ⟨u,m,aJ,hw,rM,Z⟩ az
 have L:=r6.f.N Z
 have zM:=Z.aQ
 refine⟨λl=>?_,λ_=>?_⟩
 .simp only[bh]at l
  let⟨y,r⟩:=dY q.aY T
  have v:=R.2.1 y (ba r)
  refine⟨V,V,y,(gY.1 ((N L).br r)).2,?_⟩
  exact XP.nI (vQ (dH (s V) bY m.cF.2) (by simp[t]) (e.to L rM) V (N L) V (e.gp.ty v.1 v.2)) m Z (o V) r6.r (by simp[t]) V λx ah H C g' G B _ _=>
   az V _ _ ⟨_,g',fu,λw E=>by rcases bT.1 E with l|l;exact hw w l;simp at l;subst l;exact C.1,G.aP V,B⟩
 refine mu (m.cB Ef.aP (s V) cH V) (.iU cH (λl=>V) cH (λ_=>⟨V,V⟩) hw) (o V) λs8 E h8 x8=>?_
 intro m9 B
 let⟨ai,X,C8⟩:=BX.bI (c:=B) h8 O O
 clear_value B
 have z8:=x8.aQ
 have v:Rs c j g (P+66) B:=⟨(L.cg x8).cg ai,((rM.ext x8).ext ai).aP V⟩
 have hk:E.size≠c:=V
 refine⟨λb=>∃F x,BX (h.size::S) f i.length q.aY.length E.size b F x/\Rs c j g (P+66+Cg 18) b/\B.size<=b.size,⟨V,V,_,E1 v.f,λ_=>?_,λ_=>⟨s8,_,X,⟨v.f,v.r.aP V⟩,bY⟩⟩,?_⟩
 .have K:∀{b:D},B.size<=b.size->Lw c [E.size,h.size,g.size] b:=λl=>lw A fu
  have ac:∀{b:D},B.size<=b.size->∀e∈E.size::h.size::S,e<b.size:=λl=>dH (s V) l V
  refine KG (ac bY) (by simp[t]) (e.to v.f v.r) V (N v.f) V (e.gp.ty cH cH) cH (K bY) λy aa ag Q ae r=>?_
  have m:=λJ=>kg r A ⟨V,X.b.lt⟩ J
  refine⟨m _,m _,m _,?_⟩
  have am:=r.aQ
  intro C
  have w:=px C
  have ab:=X.fz (by simp[t]) hk r
  have H:jr (di (E.size::h.size::S) C) (.mk ag.size 0 2 2) [y,.mk 9 z u]:=tw [(y,aa),(.mk 9 z u,s8)] bO (ac am) (by simp;exact⟨Q.sl,ab.h.sl⟩) O O
  have aF:=w.aQ
  refine mu (M:=C) H (.lF (by simp;exact⟨Q.wx,h8.wx⟩)) (K V) λad U aj G=>?_
  have ak:=(((v.to r ae).ext w).ext G).cE e.rd (k:=E.size) V 0 [.i 6,.i 1,.s ad]
  have hb:=((ab.ext w).ext G).eE aj
  exact⟨ad,.mk 6 1 [y,.mk 9 z u],hb,ak,by rw[bE];have:=G.aQ;omega⟩
 rintro M3 ⟨F,x,r,ah,aQ⟩
 refine NL (h.size::S) f i.length q.aY.length (o V) 0 λaa ag Q aj=>?_
 have am:=aj.aQ
 refine Bq (h.size::S) f i.length (a:=q.aY.length) (o V) V λaA C aq w=>?_
 have aF:=w.aQ
 intro U
 have G:=px U
 have H:jr (di (h.size::S) U) (.mk C.size 0 2 2) [.mk 0 0 [],.mk 12 0 []]:=tw (M:=C) [(.mk 0 0 [],aa),(.mk 12 0 [],aA)] bO (s V) (by simp;exact⟨(Q.ext w).sl,aq.sl⟩) O O
 have aR:=G.aQ
 refine mu (M:=U) H (.iU (a:=q.aY.length) (b:=f) (d:=i.length) cH (λl=>V) cH (λl=>V) cC) (o V) λaB aM ad ak=>?_
 intro aN aw
 let⟨aD,ac,aU⟩:=BX.bI (c:=aw) ad O O
 have aT:=ak.aQ
 have ab:=(((aj.N w).N G).N ak).N aD
 have K:=ah.ext ab
 have r:=r.ext ab
 refine⟨_,r.b.dg 0,_,r.b.dg 1,_,r.b.dg 2,V,V,_,E1 K.f,?_⟩
 refine KG (s V) (by simp[t]) (e.to K.f K.r) V (N K.f) V (e.gp.ty R.2.2.1 R.2.2.2) cH (lw A fu) λap aC ax ae ao y=>?_
 have m:=λJ=>kg y A ⟨V,r.b.lt⟩ J
 have g':=λJ=>kg y A ⟨V,ac.b.lt⟩ J
 refine⟨?_,?_,?_,?_,?_,?_,?_⟩
 iterate 6 first|exact m _|exact g' _
 have aV:=y.aQ
 intro ay
 have al:=px ay
 have an:=r.fz (by simp[t]) hk y
 have H:=tw (M:=ax) [(.mk 4 0 [.mk 0 0 [],.mk 12 0 []],aB),(x,F),(ap,aC)] bO (s V) (by simp;exact⟨(ac.h.iQ.fz (by simp[t]) y).sl,an.h.iQ.sl,ae.sl⟩) O O
 refine mu H (.iU cH (λ_=>O) cH (λl=>V) (by simp;exact⟨ad.wx,r.h.wx,ae.wx⟩)) (lw A (by have:=al.aQ;simp;omega)) λaP aO ar aE=>?_
 exact ar.jX (((K.to y ao).ext al).ext aE) e.rd V V
end
section
variable{b:ad}{c P:Nat}{h d p:E}{f:af}{g:av}{m:D}
def WX.m1{b a:Nat}{x y z:Ex}(hd:f∈wc)(c:WX f b a x)(d:WX f b a y)(e:WX f b (a+2) z):WX f b a (.mk 8 1 [x,y,z]):=by
 grind [So,WX.mt]
def OX(hS:∀u∈b,u<m.size)(N:c∈b)(u:GC c h P d p f g m)(hP:P+200+2*Cg 18<=10^16){G:Nat}{r:dS}(hq:g[G]? =some r){ah:Int}(ha:0<=ah/\ah<(r.aY.length:Int)):
 bJ dP 289 [vp c 0,.agg #[d.v,p.v],vi G,vi ah] m (XP b c h m (P+200+2*Cg 18) (WX f g.length r.aY.length)):=by
 apply HO (c,0)
 simp -zeta only[dT]
 intro j ag
 let⟨x2,hl⟩:=fV (a:=j) (c:=ag) O O
 have s1:=pz j
 have s2:ag.size=m.size+2:=cC
 have hr:=u.rd.lt
 have am:∀{i:D},ag.size<=i.size->∀u∈j.size::b,u<i.size:=by grind [dH]
 have r2:Rs c h m P ag:=⟨x2.fz _,u.rd.ext x2⟩
 have L1:∀{i:D},ag.size<=i.size->Lw c [j.size,m.size] i:=by grind [lw]
 let⟨ps,aM,e0,e1⟩:=u.hp.br hq
 have a1:=bC hq
 have a4:=u.hp.aT
 have aC:=Bu _ (u.gp.eR r (ba hq))
 have h3:r.aY.length<=3:=aC.1
 have PS:∀{i:D},Fz [c] m i->IR c i ps r.aY:=λL=>aM.le (fh L)
 have E1:∀{i:D},Fz [c] m i->aS i p.bt (p.off+G*5+1)=some (vi r.bP):=λL=>(gY.1 (fh L _ _ _ e1)).2
 have a5:=aM.aT
 have aO:=u.gp.ty (t:=0) cH cH
 have a3:=Wt 18
 refine⟨V,V,ps,(gY.1 (fh r2.f _ _ _ e0)).2,?_⟩
 intro m3
 have x3:=px m3
 have aD:bg (di [c] m3) (.mk ag.size 0 2 2) [0,1]:=bg.jY bG cC O O bO
 have r3:=r2.ext x3
 have z3:=x3.aQ
 refine(iH (S:=[c]) cC (PS r3.f) aD cC).aP λ_ m4⟨aG,wl,y,gw,qw,x4⟩=>⟨(L1 z3).fg (x4.fz _),aG,y,?_⟩
 subst qw
 have aV:IR c m4 aG (r.aY++[0,1]):=GI.cB gw cC cC
 have r4:=r3.ext x4
 have z4:=x4.aQ
 intro m5
 have x5:=px m5
 have g5:GE (j.size::b) m4 m5 (.mk m4.size 0 0 0) []:=by grind [Gr.bI]
 refine gN (n:=r.aY.length) V (λR z i=>∃K,GE (j.size::b) m4 i z K/\K.length=R/\(∀y∈K,WX f g.length (r.aY.length+2) y)/\Rd c h (P+R) i/\Fz [c] m4 i) ⟨[],g5,O,bO,(r4.r.ext x5).aP V,x5.fz _⟩ ?_
 rintro R z i aT μ hj ⟨K,aB,a2,hw,rM,fM⟩ aY
 have FM:=r4.f.N fM
 have zM:=fM.aQ
 refine⟨λq=>?_,λ_=>?_⟩
 .simp only[bh]at q
  let⟨aI,Q⟩:=dY r.aY R
  have jX:∀{L:Nat}{W:ap}{A:D}{U:Nat},bJ dP L W A (XP (z.bt::j.size::b) c h A U (WX f g.length (r.aY.length+2)))->U<=P+(R+1)->Rd c h (P+(R+1)) A->Fz [c] i A->bJ dP L W A λab C=>gT [j.size,m.size] A C/\∃J H:Int,∃r2:E,ab=.agg #[vi J,vi H,r2.v]/\
   mf (C.push (.cells (dh [.i J,.i H,.s r2]) dB)) dB [.i 0,.i 0,.s .nil] 40 z (E.mk C.size 0 1 1) λX B=>gT [j.size,m.size] (C.push (.cells (dh [.i J,.i H,.s r2]) dB)) B/\aT X (eV ((R:Int)+1)) B/\μ X (eV ((R:Int)+1)) B<μ z R i:=λhc hQ H f1=>
   XP.nI hc (aB.fH Ef.aP f1 cC) (fM.N f1) (L1 V) r4.r (by simp[N]) V λy X B w g' r' f' _ _=>
    aY V _ _ ⟨_,g',fu,λs F=>by rcases bT.1 F with q|q;exact hw s q;simp at q;subst q;exact w,r'.aP hQ,f'⟩
  refine⟨λ_=>?_,λ_=>⟨V,V,aI,(gY.1 ((PS FM).br Q)).2,λ_=>?_,λ_=>jX (((pM _ _ _).x rM).aP λ_ _ q=>q.aP (λy w=>w▸.var ⟨V,V⟩) bY) V (rM.aP V) nR⟩⟩
  .rw[dk (b:=(ps.len:Int)+1) V V]
   exact jX (((pM _ _ _).x rM).aP λ_ _ q=>q.aP (λy w=>w▸.var ⟨V,V⟩) bY) V (rM.aP V) nR
  .refine(dW rM V 2).aP λ_ m6⟨ad,en,_,_,I,F⟩=>⟨(L1 V).fg F,ad,en,λ_=>?_,λ_=>jX (((pM _ _ _).x I).aP λ_ _ q=>q.aP (λy w=>w▸.var ⟨V,V⟩) bY) V I F⟩
   have z6:=F.aQ
   have aa:∀{A:D},m6.size<=A.size->∀u∈z.bt::j.size::b,u<A.size:=λq=>dH (am (i:=m6) V) q (oh aB.cF.2)
   refine Bq (z.bt::j.size::b) f g.length (a:=r.aY.length+2) (L1 V) V λs7 m7 h7 T=>?_
   have z7:=T.aQ
   refine Bq (z.bt::j.size::b) f g.length (a:=r.aY.length+2) (L1 V) V λs8 s h8 x8=>?_
   have z8:=x8.aQ
   intro m9
   have x9:=px m9
   have Z:jr (di (z.bt::j.size::b) m9) (.mk s.size 0 2 2) [.mk 12 R [],.mk 12 ps.len []]:=tw (S:=z.bt::j.size::b) (M:=s) [(.mk 12 R [],s7),(.mk 12 ps.len [],s8)] bO (aa V) (by simp;exact⟨(h7.ext x8).sl,h8.sl⟩) O O
   have Y:=((I.ext T).ext x8).ext x9
   exact jX ((qS Y Z 1 0).aP λ_ _ q=>q.aP (λy w=>w▸.iU cH (λq=>V) cH (λq=>V) cC) bY) V Y (((F.cg T).cg x8).cg x9)
 refine mu (aB.cB Ef.aP (am (i:=m4) V) cH V) (.iU (a:=r.aY.length+2) (b:=f) (d:=g.length) cH (λq=>V) cH (λ_=>⟨V,V⟩) hw) (L1 V) λs6 m6 h6 x6=>?_
 have z6:=x6.aQ
 intro m7 s
 let⟨x8,B8,z8⟩:=kZ (M:=m6) (c:=m7) (a:=s) O O O
 intro m9 H
 let⟨aH,aq,C8⟩:=BX.bI (d:=m9) (c:=H) (h6.ext x8) O O
 clear_value H
 have aa:Rs c h m (P+3) H:=⟨((FM.cg x6).cg x8).cg aH,(((rM.ext x6).ext x8).ext aH).aP V⟩
 have hk:s.size≠c:=V
 have L2:∀{i:D},H.size<=i.size->Lw c [s.size,m6.size,j.size,m.size] i:=λq=>lw hr fu
 have an:∀{i:D},H.size<=i.size->∀u∈s.size::j.size::b,u<i.size:=λq=>dH (am (i:=H) V) q V
 have aJ:∀{i:D},Fz [c] m4 i->IR c i aG (r.aY++[0,1]):=λL=>aV.le (fh L)
 have aL:Fz [c] m4 H:=((fM.cg x6).cg x8).cg aH
 have wl:(r.aY++[0,1]).length=r.aY.length+2:=bO
 refine⟨λi=>∃z y,BX (j.size::b) f g.length (r.aY.length+2) s.size i z y/\Rs c h m (P+10+Cg 18) i/\H.size<=i.size,⟨V,V,_,E1 aa.f,λaN=>?_,λ_=>⟨V,V,_,E1 aa.f,λ_=>?_,λ_=>⟨s6,_,aq,⟨aa.f,aa.r.aP V⟩,bY⟩⟩⟩,?_⟩
 .simp only[bQ]at aN
  refine(dW aa.r V 5).aP λ_ af⟨ad,en,_,_,aA,B⟩=>⟨(L2 bY).fg B,ad,en,λ_=>?_,λ_=>⟨V,V,_,E1 (aa.f.N B),λq=>by rw[aN]at q;exact absurd q cH,λ_=>⟨s6,_,aq.fz (by simp[N]) hk B,⟨(aa.to B aA).f,aA.aP V⟩,B.aQ⟩⟩⟩
  have T:=aa.to B aA
  have Y:=B.aQ
  have aK:=aq.fz (by simp[N]) hk B
  refine KG (v:=r.aY++[0,1]) (S:=s.size::j.size::b) (an Y) (by simp[N]) (u.to T.f T.r) V (aJ (aL.N B)) cC aO cH (L2 Y) λak av I al aj w=>?_
  rw[wl]at al
  intro ac W
  let⟨ab,az,a0⟩:=BX.bI (d:=ac) (c:=W) al O O
  clear_value W
  have aQ:=w.aQ
  have au:=(T.to w aj).ext ab
  have ai:=(aK.fz (by simp[N]) hk w).ext ab
  have ay:HX (I.size::s.size::j.size::b) f g.length (r.aY.length+2) W s6 (.mk 9 G K):=(aK.h.fz (by simp[N]) w).oE ab bY
  have L3:∀{i:D},W.size<=i.size->Lw c [I.size,s.size,m6.size,j.size,m.size] i:=λq=>lw hr fu
  refine⟨λi=>∃z y,BX (s.size::j.size::b) f g.length (r.aY.length+2) I.size i z y/\HX (s.size::j.size::b) f g.length (r.aY.length+2) i s6 (.mk 9 G K)/\Rs c h m (P+4+Cg 18) i/\W.size<=i.size/\dJ i s.size dB [.i 9,.i G,.s s6],⟨λ_=>?_,λ_=>⟨av,ak,az,ay.iQ,au,bY,ai.b⟩⟩,?_⟩
  .let⟨aI,Q⟩:=dY r.aY 0
   refine⟨cH,V,aI,(gY.1 ((PS au.f).br Q)).2,λ_=>?_,λ_=>⟨av,ak,az,ay.iQ,au,bY,ai.b⟩⟩
   refine Bq (I.size::s.size::j.size::b) f g.length (a:=r.aY.length+2) (L3 bY) V λaw ao ar U=>?_
   have aR:=U.aQ
   refine Bq (I.size::s.size::j.size::b) f g.length (a:=r.aY.length+2) (L3 aR) V λax ae J C=>?_
   have a6:=C.aQ
   intro aE
   have aP:=px aE
   have Z:jr (di (I.size::s.size::j.size::b) aE) (.mk ae.size 0 2 2) [.mk 12 0 [],.mk 12 ps.len []]:=tw (S:=I.size::s.size::j.size::b) (M:=ae) [(.mk 12 0 [],aw),(.mk 12 ps.len [],ax)] bO (dH (an (i:=ae) V) bY V) (by simp;exact⟨(ar.ext C).sl,J.sl⟩) O O
   have a7:=aP.aQ
   refine mu (M:=aE) Z (.iU (a:=r.aY.length+2) (b:=f) (d:=g.length) cH (λq=>V) cH (λq=>V) (by simp;exact⟨ar.wx,J.wx⟩)) (L3 V) λaF aX aU aZ=>?_
   have F:=((U.N C).N aP).N aZ
   have hb:=(az.ext F).eE aU
   have ha:=(ay.ext F).cE (k:=I.size) bO (o:=0) (l:=[.i 11,.i 0,.s aF])
   have hB:dJ (aW aX I.size 0 [.i 11,.i 0,.s aF]) s.size dB [.i 9,.i G,.s s6]:=(ai.b.ext F).congr (cw _ _ _ _ V)
   exact⟨aF,.mk 11 0 [.mk 12 0 [],.mk 12 ps.len []],hb,ha.iQ,(au.ext F).cE u.rd V _ _,by rw[bE];have:=F.aQ;omega,hB⟩
  rintro M3 ⟨z,y,Q,F,X,aF,aI⟩
  refine⟨_,Q.b.dg 0,_,Q.b.dg 1,_,Q.b.dg 2,?_⟩
  intro ao
  have U:=px ao
  have Z:jr (di (s.size::j.size::b) ao) (.mk M3.size 0 2 2) [y,.mk 9 G K]:=tw (S:=s.size::j.size::b) (M:=M3) [(y,z),(.mk 9 G K,s6)] bO (an V) (by simp;exact⟨Q.h.iQ.sl,F.sl⟩) O O
  have aR:=U.aQ
  refine mu (M:=ao) Z (.lF (by simp;exact⟨Q.h.wx,F.wx⟩)) (L2 V) λax ae J C=>?_
  have hb:=(BX.mk (e:=.mk 9 G K) ((aI.ext U).ext C) ((F.ext U).ext C)).eE J
  have aE:=((X.ext U).ext C).cE u.rd (k:=s.size) V 0 [.i 6,.i 1,.s ax]
  exact⟨ax,.mk 6 1 [y,.mk 9 G K],hb,⟨aE.f,aE.r.aP V⟩,by rw[bE];have:=C.aQ;omega⟩
 .intro af
  have F:=px af
  have aD:bg (di [c] af) (.mk H.size 0 2 2) [1,2]:=bg.jY bG cC O O bO
  have Y:=F.aQ
  have J:∀{A M2:D}{C:Nat},H.size<=A.size->Fz [c] A M2->m.size<=C->C<H.size->∀B,aS M2 C B=aS A C B:=λq L h1 h2 B=>kg L hr ⟨h1,V⟩ B
  refine⟨J bY (F.fz _) V V _,J bY (F.fz _) V V _,J bY (F.fz _) V V _,J bY (F.fz _) V V _,J bY (F.fz _) V V _,?_⟩
  have T:=aa.ext F
  refine(om T.r V aD bO).aP λ_ I⟨ad,en,hn,aj,w⟩=>⟨(L2 Y).fg w,ad,en,J Y w V V _,J Y w V V _,J Y w V V _,J Y w V V _,J Y w V V _,?_⟩
  have az:=T.to w aj
  have aQ:=w.aQ
  refine KG (v:=r.aY++[0,1]) (S:=s.size::j.size::b) (an V) (by simp[N]) (u.to az.f az.r) V (aJ ((aL.cg F).N w)) cC aO cH (L2 V) λax aI ac ay aE ae=>?_
  rw[wl]at ay
  have aK:=ae.aQ
  refine⟨J V ae V V _,J V ae V V _,J V ae V V _,?_⟩
  intro W
  have ab:=px W
  have au:=((aq.ext F).fz (by simp[N]) hk w).fz (by simp[N]) hk ae
  have Z:jr (di (s.size::j.size::b) W) (.mk ac.size 0 2 2) [ax,.mk 9 G K]:=tw (S:=s.size::j.size::b) (M:=ac) [(ax,aI),(.mk 9 G K,s6)] bO (an V) (by simp;exact⟨ay.sl,au.h.sl⟩) O O
  have a0:=ab.aQ
  simp at hn
  refine mu (M:=W) Z (.iU (a:=r.aY.length+2) (b:=f) (d:=g.length) V (λq=>V) V (λq=>V) (by simp;exact⟨ay.wx,au.h.wx⟩)) (L2 V) λaw ao ar U=>?_
  have hb:=((au.ext ab).ext U).eE ar
  have aA:=(((az.to ae aE).ext ab).ext U).cE u.rd (k:=s.size) V 0 [.i ad,.i 0,.s aw]
  exact⟨aw,.mk ad 0 [ax,.mk 9 G K],hb,⟨aA.f,aA.r.aP V⟩,by rw[bE];have:=U.aQ;omega⟩
 rintro M3 ⟨z,y,Q,X,aF⟩
 have L3:∀{i:D},H.size<=i.size->Lw c [m6.size,j.size,m.size] i:=λq=>lw hr fu
 have ae:∀{A M2:D}{C:Nat},M3.size<=A.size->Fz [c] A M2->m.size<=C->C<H.size->∀B,aS M2 C B=aS A C B:=λq L h1 h2 B=>kg L hr ⟨h1,V⟩ B
 refine⟨V,V,_,E1 X.f,_,Q.b.dg 0,_,Q.b.dg 1,_,Q.b.dg 2,?_⟩
 refine Bq (j.size::b) f g.length (a:=r.aY.length) (L3 aF) ha λar af U F=>?_
 have Y:=F.aQ
 have gx:∀C B,m.size<=C->C<H.size->aS af C B=aS M3 C B:=λC B h1 h2=>ae bY (F.fz _) h1 h2 B
 refine⟨gx _ _ V V,gx _ _ V V,gx _ _ V V,(E1 (X.f.cg F)).trans (E1 X.f).symm,gx _ _ V V,gx _ _ V V,gx _ _ V V,?_⟩
 have T:=X.ext F
 refine KG (S:=j.size::b) (am V) (by simp[N]) (u.to T.f T.r) V (PS T.f) V (u.gp.ty aC.2.2.1 aC.2.2.2) cH (L3 V) λak av I al aj w=>?_
 have J:∀B,aS I s.size B=aS af s.size B:=cC
 refine⟨J _,J _,J _,?_⟩
 have aQ:=w.aQ
 intro ac
 have ad:=px ac
 have ai:=(Q.ext F).fz (by simp[N]) hk w
 have Z:jr (di (j.size::b) ac) (.mk I.size 0 3 3) [.mk 12 ah [],ak,y]:=tw (S:=j.size::b) (M:=I) [(.mk 12 ah [],ar),(ak,av),(y,z)] bO (am V) (by simp;exact⟨(U.fz (by simp[N]) w).sl,al.sl,ai.h.iQ.sl⟩) O O
 refine mu (M:=ac) Z (.m1 u.gp.ds U.wx al.wx Q.h.wx) (L3 (oh ad.aQ)) λau W ao ab=>?_
 exact ao.jX (((T.to w aj).ext ad).ext ab) u.rd V V
end
section
variable{h o:Ex}
abbrev G3(M a:D)(k:Nat)(X:Prop):Prop:=aS a k 0=aS M k 0/\aS a k 1=aS M k 1/\aS a k 2=aS M k 2/\X
abbrev E3(v:Value)(X:Int->Int->E->Prop):Prop:=∃a b:Int,∃c:E,v=.agg #[vi a,vi b,c.v]/\X a b c
abbrev N1(L:ad)(e:Nat)(M:D)(K:Int->Int->E->D->Prop):Prop:=bJ dP 320 [vi 1,vi 0,E.v (.mk e 0 2 2)] M λv a=>gT L M a/\E3 v λb c d=>K b c d a
section
variable(L:ad)(c:Nat)(b:Int)(k l d p w q:E)(n a e:Nat)(F:Int->Int->E->D->Prop)
abbrev TR5(g:Nat)(M:D):Prop:=N1 L g M λd e f c=>G3 M c a (N1 L c.size (c.push (.cells (dh [.i 9,.i b,.s k,.i d,.i e,.s f]) dB)) F)
abbrev TR4(c d:Int)(e:E)(M:D):Prop:=G3 M (M.push (.cells (dh [.i c,.i d,.s e,.i 9,.i b,.s l]) dB)) a (TR5 L b k a F M.size (M.push (.cells (dh [.i c,.i d,.s e,.i 9,.i b,.s l]) dB)))
abbrev TR3(M:D):Prop:=bJ dP 319 [vp c 0,.agg #[d.v,p.v],w.v,vi 0,vi 4] M λv e=>gT L M e/\E3 v λf g h=>G3 M e n (G3 M e a (TR4 L b k l a F f g h e))
abbrev TR2(g:Nat)(M:D):Prop:=bJ dP 215 [q.v,E.v (.mk g 0 3 3)] M λv f=>gT L M f/\∃s:E,v=s.v/\G3 M f n (aS f e 0=aS M e 0/\aS f e 1=aS M e 1/\G3 M f a (TR3 L c b k l d p s n a F f))
end
def _root_.Go.Vc.abr{σ τ:Type}{n:Nat}(o:n<=9223372036854775807)(j:1<=n){m:D}{f:σ}{g:τ}{e:(σ->τ->Int->D->Prop)->(σ->τ->Int->D->Nat)->σ->τ->Int->D->Prop}(Q:Nat->σ->τ->D->Prop)(h:Q 1 f g m)
 (l:∀(k:Nat)(s:σ)(t:τ)(a:D)(I:σ->τ->Int->D->Prop)(μ:σ->τ->Int->D->Nat),1<=k->k<=n->Q k s t a->
  (k<n->∀c d b,Q (k+1) c d b->I c d (eV ((k:Int)+1)) b/\μ c d (eV ((k:Int)+1)) b<μ s t k a)->e I μ s t k a):
 ∃(I:σ->τ->Int->D->Prop)(μ:σ->τ->Int->D->Nat),I f g 1 m/\∀s t i a,I s t i a->e I μ s t i a:=by
 refine⟨λs t i b=>∃k:Nat,i=k/\1<=k/\k<=n/\Q k s t b,λ_ _ i _=>(n -i).toNat,⟨1,O,bY,j,h⟩,?_⟩
 grind [oU,Ql]
def UG(_:D)(a:ae)(n:Int):Prop:=∃s:E,a=[.i 12,.i n,.s s]/\s.len=0
def UG.aP:qF 3 UG:=⟨λ_ h=>h,λ⟨_,h,_⟩=>by rw[h];rfl⟩
abbrev GV(a m:D)(s:E)(l:ab):Prop:=Gr [] a m dB 3 UG s l
def GV.fH{b m a:D}{s:E}{l:ab}(h:GV b m s l)(q:a[s.bt]? =m[s.bt]?):GV b a s l:=by
 let⟨d,c,e,f⟩:=h;exact⟨d,c,e.congr q,f.aP λ_ _ h=>h⟩
def GV.ex{f:ad}{q m:D}{s:E}{l:ab}(a:GV q m s l)(i:s.bt∉f)(t:l.length<=1000):jr (di f m) s (l.map λn=>.mk 12 n []):=by
 let⟨d,c,e,g⟩:=a;have H:=Gr.sa (S:=f) UG.aP ⟨d,c,e,g.aP λ_ _ a=>a⟩ i cH V;refine⟨by rw[H.aT];simp,H.mr,H.kM,λp h b=>?_⟩;simp only[eB,jL]at b;obtain⟨n,j,rfl⟩:=b;obtain⟨r,⟨u,rfl,o⟩,k⟩:=H.kv p n j;exact⟨_,Ef.of ⟨o,V,V,bO⟩,k⟩
@[grind cases] structure AS (S:ad) (ds:af) (nf a n0 k Q rb:Nat) (bs:E) (m M:D) (sl:E) (el:Ex) (sr:E) (er:Ex):Prop where
 b:dJ M k dB [.i 0,.i 0,.s .nil]
 hk:n0<=k
 l:HX (k::S) ds nf a M sl el
 r:HX (k::S) ds nf a M sr er
 s:Rs rb bs m Q M
section
variable{f:ad}{g:af}{b a n k Q t c:Nat}{j q r:E}{m M s:D}{e l:Ex}
def AS.ext(d:AS f g b a n k Q c j m M q e r l)(h:J M s):AS f g b a n k Q c j m s q e r l:=⟨d.b.ext h,d.hk,d.l.ext h,d.r.ext h,d.s.ext h⟩
def AS.fz(h:AS f g b a n k Q c j m M q e r l)(o:c∈f)(i:k≠c)(d:Fz [c] M s)(p:Rd c j t s):AS f g b a n k t c j m s q e r l:=by constructor<;>grind [AS.b,dJ.congr,Fz.bB,dJ.lt,AS.hk,AS.l,HX.fz,AS.r,AS.s,Rs.to]
def AS.bI(d:n<=M.size)(i:HX f g b a M q e)(k:HX f g b a M r l)(s:Rs c j m Q M):J M (M.push (.cells (dh [.i 0,.i 0,.s .nil]) dB))/\AS f g b a n M.size Q c j m (M.push (.cells (dh [.i 0,.i 0,.s .nil]) dB)) q e r l:=
 have h:=J.push M (.cells (dh [.i 0,.i 0,.s .nil]) dB)
 ⟨h,dJ.push _ _ _,d,i.oE h bY,k.oE h bY,s.ext h⟩
end
variable{f:ad}{c P:Nat}{j d p:E}{g:af}{i:av}{m:D}
def WX.m3{b a:Nat}{z:Ex}(hd:g∈wc)(f:WX g b a h)(i:WX g b a o)(j:WX g b (a+3) z):WX g b a (.mk 8 3 [h,o,z]):=by
 obtain⟨-,c,-,-,d,e⟩:=So g hd;grind [WX.mt]
def WX.iA{b a:Nat}(c:WX g b a h)(d:WX g b a o):WX g b a (.mk 1 0 [h,o]):=by grind [WX.iU]
def OY(hS:∀H∈f,H<m.size)(aL:c∈f)(H:GC c j P d p g i m)(hP:P+200+3*Cg 18<=10^16){B:Nat}{u:dS}(hq:i[B]? =some u)(bx:1<=u.aY.length):
 bJ dP 290 [vp c 0,.agg #[E.v d,E.v p],vi B] m (XP f c j m (P+200+3*Cg 18) (WX g i.length u.aY.length)):=by
 apply HP (c,0)
 simp -zeta only[kU,nQ]
 intro z ay
 let⟨x2,hl⟩:=fV (a:=z) (c:=ay) O O
 have s1:=pz z
 have s2:ay.size=m.size+2:=by simp[ay,s1]
 have hr:=H.rd.lt
 have aq:∀{b:D},ay.size<=b.size->∀H∈z.size::f,H<b.size:=λw=>dH hS V V
 have r2:Rs c j m P ay:=⟨x2.fz _,H.rd.ext x2⟩
 have L1:∀{b:D},ay.size<=b.size->Lw c [z.size,m.size] b:=λw=>lw hr fu
 let⟨ps,be,e0,e1⟩:=H.hp.br hq
 have bV:=bC hq
 have b0:=H.hp.aT
 have a7:=Bu _ (H.gp.eR u (ba hq))
 have h3:u.aY.length<=3:=a7.1
 have PS:∀{b:D},Fz [c] m b->IR c b ps u.aY:=λF=>be.le (fh F)
 have E1:∀{b:D},Fz [c] m b->aS b p.bt (p.off+B*5+1)=some (vi u.bP):=λF=>(gY.1 (fh F _ _ _ e1)).2
 have b1:=be.aT
 have bm:=H.gp.ty (t:=0) cH cH
 have au:c∈z.size::f:=by simp[aL]
 refine⟨V,V,ps,(gY.1 (fh r2.f _ _ _ e0)).2,?_⟩
 refine Bq (z.size::f) g i.length (a:=u.aY.length+3) (L1 bY) V λs3 m3 bu x3=>?_
 have z3:=x3.aQ
 intro m4
 have x4:=px m4
 have g4:GV m3 m4 (.mk m3.size 0 1 1) [(ps.len:Int)]:=Gr.jY (g:=[[.i 12,.i ps.len,.s s3]]) UG.aP bY O O ⟨O,bO,λav H A hj l=>by
  have:av=0:=by have:=bC hj;simp at this;omega
  subst this;simp at hj l;subst hj l;exact⟨s3,O,bu.sl.aT⟩⟩
 have s4:=pz m4
 rw[dk (b:=(ps.len:Int)+2) V V]
 refine Bq (z.size::f) g i.length (a:=u.aY.length+3) (L1 V) V λs5 m5 h5 x5=>?_
 have z5:=x5.aQ
 intro m6
 have x6:=px m6
 have g6:GV m5 m6 (.mk m5.size 0 1 1) [(ps.len:Int)+2]:=Gr.jY (g:=[[.i 12,.i (ps.len+2),.s s5]]) UG.aP bY O O ⟨O,bO,λav H A hj l=>by
  have:av=0:=by have:=bC hj;simp at this;omega
  subst this;simp at hj l;subst hj l;exact⟨s5,O,h5.sl.aT⟩⟩
 have r3:=r2.ext x3
 have vq:∀{b r:D}{L:Int}{C:E}{ac:ab}{aO:E->D->Prop}{aJ:E},GV m3 b C ac->J m3 b->ac.length<=10->aJ.len=0->(∀T r,GV m3 r T (ac++[L])->J m3 r->b.size<=r.size->(T.bt=C.bt\/b.size<=T.bt)->(∀I,I<b.size->I≠C.bt->r[I]? =b[I]?)->aO T r)->
  mf (b.push (.cells (dh [.i 12,.i L,.s aJ]) dB)) dB [.i 0,.i 0,.s .nil] 40 C (.mk b.size 0 1 1) aO:=λaF h hl ht hk=>
  Gr.nI (h:=[.i 0,.i 0,.s .nil]) (X:=[]) UG.aP cH aF (h.fz []) ⟨_,O,ht⟩ V λT r g' f' aB u=>hk T r g' f'.ext aB.1 aB.2 u
 refine abr (n:=u.aY.length) V bx (λav C aJ b=>∃ac l',GV m3 b C ac/\GV m3 b aJ l'/\ac.length=av/\l'.length=av/\(∀L∈ac,0<=L/\L<((u.aY.length+3:Nat):Int))/\(∀L∈l',0<=L/\L<((u.aY.length+3:Nat):Int))/\J m3 b/\C.bt≠aJ.bt) ⟨_,_,(g4.fH ((x5.N x6).bB _ (by show m3.size<_;omega))),Gr.de UG.aP g6 (λ_ w=>bz w) V,O,O,fu,fu,(x4.N x5).N x6,by show m3.size≠m5.size;omega⟩ ?_
 rintro av C aJ b bU μ bW hj ⟨ac,l',aF,g',bX,bZ,hw,bj,xM,bw⟩ bF
 have zM:=xM.aQ
 have RM:=r3.ext xM
 refine⟨λw=>?_,λ_=>?_⟩
 .simp only[bh]at w
  refine Bq (z.size::f) g i.length (a:=u.aY.length+3) (L1 V) V λs7 Y h7 x7=>?_
  have gy:=aF.cF;have aQ:=g'.cF
  have z7:=x7.aQ
  intro m8
  refine vq (r:=Y) (aF.fH (x7.bB _ gy.2)) (xM.N x7) V h7.sl.aT λr9 m9 q x9 z9 Z U=>?_
  refine⟨(L1 (b:=m3) z3).xh ((((xM.N x7).N (J.push Y _)).fz [c])) (x9.fz _),?_⟩
  refine Bq (z.size::f) g i.length (a:=u.aY.length+3) (L1 V) V λaa ag a2 al=>?_
  intro bk
  have Q:=((g'.fH (x7.bB _ aQ.2)).fH (U _ V (uK bw))).fH (al.bB _ V)
  have C8:=al.aQ
  refine vq (r:=Y) Q (x9.N al) V a2.sl.aT λa8 N K aK bP W R=>?_
  refine⟨(L1 (b:=m3) z3).xh (((x9.N al).N (J.push ag _)).fz [c]) (aK.fz _),bF V _ _ _ ⟨_,_,(q.fH (al.bB _ q.cF.2)).fH (R _ (oh q.cF.2) V),K,fu,fu,λL l=>?_,λL l=>?_,aK,oh q.cF.2⟩⟩
  .rcases bT.1 l with w|w
   .exact hw L w
   .simp at w;omega
  .rcases bT.1 l with w|w
   .exact bj L w
   .simp at w;omega
 have gy:=aF.cF;have aQ:=g'.cF
 have nS:∀I,m3.size<=I->I∉z.size::f:=λI hb w=>by have:=aq (b:=ay) bY I w;omega
 have a9:∀ac:ab,(∀L∈ac,0<=L/\L<((u.aY.length+3:Nat):Int))->WX g i.length (u.aY.length+3) (.mk 9 B (ac.map λL=>.mk 12 L [])):=λac hl=>.iU cH (λw=>V) cH (λ_=>⟨V,V⟩) (by simp;exactλL l=>.var (hl L l))
 refine mu (aF.ex (nS _ gy.1) V) (a9 ac hw) (L1 V) λsl Y h7 x7=>?_
 intro m8 m9
 obtain⟨x9,-,z9⟩:=kZ (M:=Y) (c:=m8) (a:=m9) O O O
 have z7:=x7.aQ
 refine mu ((g'.fH ((x7.N x9).bB _ aQ.2)).ex (nS _ aQ.1) V) (a9 l' bj) (lw hr fu) λsr ag a2 al=>?_
 intro bk N
 obtain⟨aK,-,bP⟩:=kZ (M:=ag) (c:=bk) (a:=N) O O O
 have C8:=al.aQ
 have a3:=((h7.ext x9).ext al).ext aK
 have a5:=a2.ext aK
 generalize bb:Ex.mk 9 B (ac.map λL=>.mk 12 L [])=el at a3
 generalize bc:Ex.mk 9 B (l'.map λL=>.mk 12 L [])=er at a5
 have a8:=(((RM.ext x7).ext x9).ext al).ext aK
 have bd:∀{q:Nat},N.size<=q->q≠c:=λw=>V
 have G:∀{b r:D}{q aI:Nat},N.size<=b.size->Fz [c] b r->m.size<=q->q<N.size->aS r q aI=aS b q aI:=λw F h1 h2=>kg F hr ⟨h1,V⟩ _
 have L4:∀{b:D},N.size<=b.size->Lw c [ag.size,Y.size,z.size,m.size] b:=λw=>lw hr fu
 have L5:∀{b:D}{q:Nat},N.size<=q->q<b.size->Lw c [q,ag.size,Y.size,z.size,m.size] b:=λw h'=>lw hr fu
 have aT:∀{b:D}{q:Nat},N.size<=q->q<b.size->∀H∈q::z.size::f,H<b.size:=λw h'=>dH (aq (b:=N) V) V h'
 have aY:=λ(h o:Ex)=>WX.iA (g:=g) (b:=i.length) (a:=u.aY.length+3) (h:=h) (o:=o)
 let aO:=λ(q:Nat)(b:D)=>∃C A,BX (z.size::f) g i.length (u.aY.length+3) q b C A/\HX (q::z.size::f) g i.length (u.aY.length+3) b sl el/\Rs c j m (P+Cg 18) b
 have br:∃k9,el=.mk 9 B k9:=⟨_,bb.symm⟩
 have bs:∃k9,er=.mk 9 B k9:=⟨_,bc.symm⟩
 clear bb bc
 obtain⟨kl,rfl⟩:=br
 obtain⟨kr,rfl⟩:=bs
 let ap:=λ(q aP:Nat)(b:D)=>AS (z.size::f) g i.length (u.aY.length+3) N.size q (P+aP) c j m b sl (.mk 9 B kl) sr (.mk 9 B kr)
 let aE:=λq=>[q,ag.size,Y.size,z.size,m.size]
 let K0:=λ(mN:ai)(b:D)=>mN.2=0/\N.size<=mN.1/\aO mN.1 b
 let aD:=λ(q:Nat)(l I:Int)(H:E)(r:D)=>K0 (q,0) (aW r q 0 [.i l,.i I,.s H])
 have H3:∀{b r:D}{R:Prop},N.size<=b.size->Fz [c] b r->R->G3 b r Y.size R:=λK F h=>⟨G K F V V,G K F V V,G K F V V,h⟩
 have H6:∀{b r:D}{R:Prop},N.size<=b.size->Fz [c] b r->R->G3 b r ag.size (G3 b r Y.size R):=λK F h=>⟨G K F V V,G K F V V,G K F V V,H3 K F h⟩
 have H5:∀{b r:D}{R:Prop},N.size<=b.size->Fz [c] b r->R->aS r m.size 0=aS b m.size 0/\aS r m.size 1=aS b m.size 1/\G3 b r Y.size R:=λK F h=>⟨G K F V V,G K F V V,H3 K F h⟩
 have H8:∀{b r:D}{R:Prop},N.size<=b.size->Fz [c] b r->R->G3 b r ag.size (aS r m.size 0=aS b m.size 0/\aS r m.size 1=aS b m.size 1/\G3 b r Y.size R):=λK F h=>⟨G K F V V,G K F V V,G K F V V,H5 K F h⟩
 have R7:∀{q t0:Nat}{b:D}{A:Ex},ap q (Cg 18) b->jr (di (q::z.size::f) b) (.mk t0 0 2 2) [.mk 9 B kl,A]->WX g i.length (u.aY.length+3) A->N1 (aE q) t0 b (aD q):=λl hs hw=>
  mu hs (aY _ _ l.l.wx hw) (L5 l.hk l.b.lt) λs' r h' h=>by
   have hb:=(BX.mk (e:=.mk 0 0 []) (s:=.nil) (l.b.ext h) ⟨⟨O,bY,bO,bO⟩,.qt 0⟩).eE h';exact⟨O,l.hk,s',_,hb,(l.l.ext h).cE bO,(l.s.ext h).cE H.rd (oh l.hk) _ _⟩
 have R6:∀{q:Nat}{b:D}{C:E}{l I:Int}{kk:ax},ap q (Cg 18) b->HX (q::z.size::f) g i.length (u.aY.length+3) b C (.mk l I kk)->N1 (aE q) b.size (b.push (.cells (dh [.i 9,.i B,.s sl,.i l,.i I,.s C]) dB)) (aD q):=λl w=>
  R7 (l.ext (J.push _ _)) (tw [(.mk 9 B kl,sl),(.mk _ _ _,_)] bO (aT l.hk l.b.lt) (by simp;exact⟨l.l.sl,w.sl⟩) O O) w.wx
 have R5:∀{q t0:Nat}{b:D}{A:Ex},ap q (Cg 18) b->jr (di (q::z.size::f) b) (.mk t0 0 2 2) [A,.mk 9 B kr]->WX g i.length (u.aY.length+3) A->TR5 (aE q) B sl Y.size (aD q) t0 b:=λl hs hw=>
  mu hs (aY _ _ hw l.r.wx) (L5 l.hk l.b.lt) λs' r h' h=>
   have K:=Wm (wH l.hk l.b.lt)
   H3 K (h.fz _) (R6 (l.ext h) h')
 have R4:∀{q:Nat}{b:D}{C:E}{A:Ex},ap q (Cg 18) b->HX (q::z.size::f) g i.length (u.aY.length+3) b C A->TR4 (aE q) B sl sr Y.size (aD q) A.op A.cG C b:=λ{q b C A} l w=>
  have h:=J.push b (.cells (dh [.i A.op,.i A.cG,.s C,.i 9,.i B,.s sr]) dB)
  have K:=Wm (wH l.hk l.b.lt)
  H3 K (h.fz _) (R5 (l.ext h) (tw [(A,C),(.mk 9 B kr,sr)] bO (aT l.hk l.b.lt) (by simp;exact⟨w.sl,l.r.sl⟩) O O) w.wx)
 have a_:∀{a0 L':ad}{b:D}{ae:E}{K':Int->Int->E->D->Prop},(∀H∈a0,H<b.size)->c∈a0->Rs c j m P b->IR c b ae (u.aY++[3,0,3])->Lw c L' b->(∀A C r,HX a0 g i.length (u.aY.length+3) r C A->Rd c j (P+Cg 18) r->Fz [c] b r->K' A.op A.cG C r)->bJ dP 319 [vp c 0,.agg #[E.v d,E.v p],E.v ae,vi 0,vi 4] b λbL r=>gT L' b r/\∃r0 r1:Int,∃r2:E,bL=.agg #[vi r0,vi r1,E.v r2]/\K' r0 r1 r2 r:=λbv bA T hw hL hk=>
  KG (v:=u.aY++[3,0,3]) bv bA (H.to T.f T.r) V hw fu bm cH hL λA C r w d F=>hk A C r (sp w) d F
 have R3:∀{q:Nat}{b:D}{ae:E},ap q 0 b->IR c b ae (u.aY++[3,0,3])->TR3 (aE q) c B sl sr d p ae ag.size Y.size (aD q) b:=λl hw=>
  a_ (aT l.hk l.b.lt) (by simp[aL]) l.s hw (L5 l.hk l.b.lt) λA C r w d' F=>
   have K:=Wm (wH l.hk l.b.lt)
   H6 K F (R4 (l.fz au (bd l.hk) F d') w)
 have R2:∀{q t0:Nat}{b:D},ap q 0 b->bg (di [c] b) (.mk t0 0 3 3) [3,0,3]->TR2 (aE q) c B sl sr d p ps ag.size Y.size m.size (aD q) t0 b:=λl hw=>
  (iH (S:=[c]) (by simp;exact l.s.r.lt) (PS l.s.f) hw fu).aP λ_ r⟨ae,wl,A,gw,qw,h⟩=>by
   subst qw;have K:=Wm (wH l.hk l.b.lt);exact⟨(L5 l.hk l.b.lt).fg (h.fz _),ae,A,H8 K (h.fz _) (R3 (l.ext h) (GI.cB gw (by simp;exact l.s.r.lt) fu))⟩
 have az:∀{b:D}{aP:Nat},N.size<=b.size->HX (z.size::f) g i.length (u.aY.length+3) b sl (.mk 9 B kl)->HX (z.size::f) g i.length (u.aY.length+3) b sr (.mk 9 B kr)->Rs c j m (P+aP) b->J b (b.push (.cells (dh [.i 0,.i 0,.s .nil]) dB))/\ap b.size aP (b.push (.cells (dh [.i 0,.i 0,.s .nil]) dB)):=λh1 h2 h3 h4=>AS.bI h1 h2 h3 h4
 have r0:Rs c j m (P+0) N:=a8
 have wl:∀b:D,c<b.size->bg (di [c] (b.push (.cells (dh [.i 3,.i 0,.i 3]) bG))) (.mk b.size 0 3 3) [3,0,3]:=λb w=>bg.jY bG (by simp;exact w) O O bO
 refine⟨K0,⟨?_,?_⟩,?_⟩
 .intro ak
  have Q:=px ak
  have aV:bg (di [c] ak) (.mk N.size 0 3 3) [3,0,3]:=wl N a8.r.lt
  have aC:=Q.aQ
  have a4:=a3.ext Q;have a6:=a5.ext Q;have Z:=r0.ext Q
  refine H8 bY (Q.fz _) ⟨?_,?_⟩
  .refine(iH (S:=[c]) (by simp;exact Z.r.lt) (PS Z.f) aV fu).aP λ_ an⟨ae,bM,A,gw,qw,U⟩=>⟨(L4 aC).fg (U.fz _),ae,A,H8 aC (U.fz _) ⟨?_,?_⟩⟩
   all_goals have aX:IR c an ae (u.aY++[3,0,3]):=qw▸GI.cB gw (by simp;exact Z.r.lt) (by rw[<-qw];simp;omega)
   all_goals have bp:=U.aQ
   .refine a_ (a0:=z.size::f) (aq V) au (Z.ext U) aX (L4 V) λah aU ao aj a1 af=>H6 V af ⟨?_,?_⟩
    all_goals have ar:=(a4.ext U).fz au af
    all_goals have aG:=(a6.ext U).fz au af
    all_goals have aN:=(Z.ext U).to af a1
    all_goals have bQ:=af.aQ
    .intro aw
     have aa:=px aw
     have bf:jr (di (z.size::f) aw) (.mk ao.size 0 2 2) [ah,.mk 9 B kr]:=tw [(ah,aU),(.mk 9 B kr,sr)] bO (aq V) (by simp;exact⟨aj.sl,aG.sl⟩) O O
     have bR:=aa.aQ
     refine H3 V (aa.fz _) ⟨?_,?_⟩
     .refine mu (M:=aw) bf (aY _ _ aj.wx aG.wx) (L4 V) λbI aH aR aA=>H3 V (aA.fz _) ⟨?_,?_⟩
      all_goals have R:=aa.N aA
      all_goals have bS:=aA.aQ
      .intro aM
       have am:=px aM
       have bi:jr (di (z.size::f) aM) (.mk aH.size 0 2 2) [.mk 9 B kl,.mk 1 0 [ah,.mk 9 B kr]]:=tw [(.mk 9 B kl,sl),(.mk 1 0 [ah,.mk 9 B kr],bI)] bO (aq V) (by simp;exact⟨(ar.ext R).sl,aR.sl⟩) O O
       have b2:=am.aQ
       refine⟨?_,?_⟩
       .refine mu (M:=aM) bi (aY _ _ ar.wx aR.wx) (L4 V) λbK bB bt bn=>?_
        have b3:=bn.aQ
        intro bl
        have bN:=px bl
        refine H8 V (bN.fz _) ?_
        intro bD
        let⟨bo,bq,b4⟩:=BX.bI (d:=bl) (c:=bD) bt O O
        have W:=R.N (am.N bn)
        exact⟨O,by show N.size<=bB.size;omega,bK,_,bq,(ar.ext W).oE bo bY,(aN.ext W).ext bo⟩
       .let⟨W,l⟩:=az (b:=aM) V ((ar.ext R).ext am) ((aG.ext R).ext am) ((aN.ext R).ext am)
        exact H8 V (W.fz _) (R7 l (jr.le (W.di λI hb=>(aZ.1 hb).elim (λw=>bH V) bz) bi) aR.wx)
      .let⟨W,l⟩:=az (b:=aH) V (ar.ext R) (aG.ext R) (aN.ext R)
       exact H8 V (W.fz _) (R6 l (aR.oE W bY))
     .let⟨W,l⟩:=az (b:=aw) V (ar.ext aa) (aG.ext aa) (aN.ext aa)
      exact H8 V (W.fz _) (R5 l (jr.le (W.di λI hb=>(aZ.1 hb).elim (λw=>bH V) bz) bf) aj.wx)
    .let⟨W,l⟩:=az (b:=ao) V ar aG aN
     exact H8 V (W.fz _) (R4 l (aj.oE W bY))
   .let⟨W,l⟩:=az (b:=an) V (a4.ext U) (a6.ext U) (Z.ext U)
    exact H8 V (W.fz _) (R3 l (aX.le (fh (W.fz _))))
  .let⟨W,l⟩:=az (b:=ak) aC a4 a6 Z
   exact H8 aC (W.fz _) (R2 l (aV.le (fh (W.fz _))))
 .let⟨W,l⟩:=az (b:=N) bY a3 a5 r0
  have za:=W.aQ
  intro ak
  refine H8 bY (W.fz _) ?_
  intro an
  have U:=px an
  exact H8 za (U.fz _) (R2 (l.ext U) (wl ak l.s.r.lt))
 rintro⟨q,aI⟩ b ⟨ho,hk,C,A,I,hl,T⟩
 simp only at ho hk I hl
 subst ho
 have bq:=I.b.lt
 have a4:=bd hk
 have W:∀{r:D},b.size<=r.size->Lw c [ag.size,Y.size,z.size,m.size] r:=λw=>L4 V
 have K:N.size<=b.size:=V
 have aR:∀{r:D},b.size<=r.size->∀H∈q::z.size::f,H<r.size:=λw=>aT hk V
 refine⟨λr=>∃C A,BX (z.size::f) g i.length (u.aY.length+3) q r C A/\Rs c j m (P+2*Cg 18) r/\b.size<=r.size,⟨V,V,_,E1 T.f,λ_=>?_,λ_=>⟨C,A,I,⟨T.f,T.r.aP V⟩,bY⟩⟩,?_⟩
 .intro ak
  have Q:=px ak
  have aV:bg (di [c] ak) (.mk b.size 0 3 3) [3,0,3]:=wl b T.r.lt
  have aC:=Q.aQ
  have Z:=T.ext Q
  refine H5 K (Q.fz _) ?_
  refine(iH (S:=[c]) (by simp;exact Z.r.lt) (PS Z.f) aV fu).aP λ_ an⟨ae,bM,e',gw,qw,U⟩=>⟨(W aC).fg (U.fz _),ae,e',H5 V (U.fz _) ?_⟩
  have aX:IR c an ae (u.aY++[3,0,3]):=qw▸GI.cB gw (by simp;exact Z.r.lt) (by rw[<-qw];simp;omega)
  have bp:=U.aQ
  have aG:=Z.ext U
  refine KG (v:=u.aY++[3,0,3]) (S:=q::z.size::f) (aR V) (by simp[aL]) (H.to aG.f aG.r) V aX fu bm cH (W V) λah aU ao aj a1 af=>H3 V af ?_
  have aj:HX (q::z.size::f) g i.length (u.aY.length+3) ao aU ah:=sp aj
  have bQ:=af.aQ
  refine Bq (q::z.size::f) g i.length (a:=u.aY.length+3) (W V) V λbi aw ar aa=>H3 V (aa.fz _) ?_
  intro aH
  have aA:=px aH
  have bR:=aa.aQ
  have a6:=(((hl.ext Q).ext U).fz (by simp[aL]) af).ext aa
  have hs:jr (di (q::z.size::f) aH) (.mk aw.size 0 3 3) [.mk 9 B kl,ah,.mk 12 (ps.len+2) []]:=tw [(.mk 9 B kl,sl),(ah,aU),(.mk 12 (ps.len+2) [],bi)] bO (aR V) (by simp;exact⟨a6.sl,(aj.ext aa).sl,ar.sl⟩) O O
  have bS:=aA.aQ
  refine mu (M:=aH) hs (.lF (by simp;exact⟨a6.wx,aj.wx,ar.wx⟩)) (W V) λbl aM bn am=>?_
  have aN:=((((I.ext Q).ext U).fz (by simp[aL]) a4 af).ext (aa.N aA)).ext am
  have hb:=aN.eE bn
  have bf:=(((aG.to af a1).ext (aa.N aA)).ext am).cE H.rd (k:=q) V 0 [.i 6,.i 3,.s bl]
  exact⟨aN.b.gK bO,λb' bo=>cw _ _ _ _ (by simp at bo;omega),bl,.mk 6 3 [.mk 9 B kl,ah,.mk 12 (ps.len+2) []],hb,⟨bf.f,bf.r.aP V⟩,by rw[bE];have:=am.aQ;omega⟩
 rintro M3 ⟨C,A,I,T,aB⟩
 refine⟨V,V,_,E1 T.f,_,I.b.dg 0,_,I.b.dg 1,_,I.b.dg 2,?_⟩
 refine Bq (z.size::f) g i.length (a:=u.aY.length) (W aB) V λaM ak aj Q=>?_
 have aC:=Q.aQ
 have af:∀{M1 M2:D}{aI:Nat},b.size<=M1.size->Fz [c] M1 M2->aS M2 q aI=aS M1 q aI:=λw F=>kg F hr ⟨V,V⟩ _
 refine⟨af aB (Q.fz _),af aB (Q.fz _),af aB (Q.fz _),(E1 (T.f.cg Q)).trans (E1 T.f).symm,G V (Q.fz _) V V,G V (Q.fz _) V V,G V (Q.fz _) V V,?_⟩
 have Z:=T.ext Q
 refine KG (S:=z.size::f) (aq V) au (H.to Z.f Z.r) V (PS Z.f) V (H.gp.ty a7.2.2.1 a7.2.2.2) cH (W V) λah aN an am aH U=>⟨af V U,af V U,af V U,?_⟩
 have bp:=U.aQ
 intro ao
 have aA:=px ao
 have aG:=(I.ext Q).fz au a4 U
 have hs:jr (di (z.size::f) ao) (.mk an.size 0 3 3) [.mk 12 0 [],ah,A]:=tw [(.mk 12 0 [],aM),(ah,aN),(A,C)] bO (aq V) (by simp;exact⟨(aj.fz au U).sl,am.sl,aG.h.iQ.sl⟩) O O
 refine mu (M:=ao) hs (.m3 H.gp.ds aj.wx am.wx I.h.wx) (W (oh aA.aQ)) λbi aw ar aa=>?_
 exact ar.jX (((Z.to U aH).ext aA).ext aa) H.rd V V
end
section
variable{a:D}{c:ae}{b:Nat}
section
variable{f:ad}{e P:Nat}{h d p:E}{i:af}{g:av}{m:D}
def RT(hS:∀l∈f,l<m.size)(ah:e∈f)(l:GC e h P d p i g m)(hP:P+300+40*Cg 18<=10^16){R:Nat}{q:dS}(x:g[R]? =some q)(ai:R=0->q.aY.length=0):
 bJ dP 258 [vp e 0,.agg #[d.v,p.v],vi R] m (XP f e h m (P+300+40*Cg 18) (Fit i g.length q.aY.length)):=by
 apply Lc (e,0)
 simp -zeta only[dT]
 intro n z
 let⟨x2,hl⟩:=fV (a:=n) (c:=z) O O
 have s1:=pz n
 have s2:z.size=m.size+2:=by simp[z,s1]
 have hr:=l.rd.lt
 have ae:∀{a:D},z.size<=a.size->∀l∈n.size::f,l<a.size:=λc=>dH hS V V
 have t:Rs e h m P z:=⟨x2.fz _,l.rd.ext x2⟩
 have K:∀{a:D},z.size<=a.size->Lw e [n.size,m.size] a:=λc=>lw hr fu
 let⟨W,af,e0,e1⟩:=l.hp.br x
 have al:=bC x
 have am:=l.hp.aT
 have ab:=Bu _ (l.gp.eR q (ba x))
 have h3:q.aY.length<=3:=ab.1
 have PS:∀{a:D},Fz [e] m a->IR e a W q.aY:=λw=>af.le (fh w)
 have ao:=af.aT
 have aa:e∈n.size::f:=by simp[ah]
 have ak:=l.gp.ty ab.2.2.1 ab.2.2.2
 refine⟨V,V,W,(gY.1 (fh t.f _ _ _ e0)).2,V,V,_,(gY.1 (fh t.f _ _ _ e1)).2,?_⟩
 refine(Q7 ((PS t.f).le fJ) 1).aP λ_ m3⟨pl,en,an,x3⟩=>⟨(K bY).fg (x3.fz _),pl,en,?_⟩
 have z3:=x3.aQ
 refine NL (n.size::f) i g.length q.aY.length (K z3) 0 λs4 o C x4=>?_
 have z4:=x4.aQ
 intro m5 I
 let⟨x6,b6,z6⟩:=BX.bI (d:=m5) (c:=I) C O O
 clear_value I
 have r6:=((t.ext x3).ext x4).ext x6
 have hk:o.size≠e:=V
 have L6:∀{a:D},I.size<=a.size->Lw e [o.size,n.size,m.size] a:=λc=>lw hr fu
 refine(dW r6.r V 4).aP λ_ r⟨b,en,_,_,d7,N⟩=>⟨(L6 bY).fg N,b,en,?_⟩
 have J:=r6.to N d7
 have z7:=N.aQ
 have B:=l.to J.f J.r
 have F:∀j∈o.size::n.size::f,j<r.size:=dH (ae (a:=r) V) bY V
 have G:e∈o.size::n.size::f:=by simp[ah]
 have jX:∀{w:Nat}{ac:ap}{Q:Nat},bJ dP w ac r (XP (o.size::n.size::f) e h r Q (WX i g.length q.aY.length))->Q<=P+300+20*Cg 18->bJ dP w ac r λv A=>gT [o.size,n.size,m.size] r A/\∃X Y:Int,∃t:E,v=.agg #[vi X,vi Y,t.v]/\
  ∃u j,BX (n.size::f) i g.length q.aY.length o.size (aW A o.size 0 [.i X,.i Y,.s t]) u j/\Rs e h m (P+300+20*Cg 18) (aW A o.size 0 [.i X,.i Y,.s t])/\I.size<=(aW A o.size 0 [.i X,.i Y,.s t]).size:=λc hQ=>
  XP.kk c (L6 z7) λu j A h1 h2 h3 C=>by
   have hb:=((b6.fz aa hk N).fz aa hk C).eE ⟨h1,h2⟩;have ag:=(J.to C h3).cE l.rd (k:=o.size) V 0 [.i j.op,.i j.cG,.s u];exact⟨u,j,hb,⟨ag.f,ag.r.aP hQ⟩,by rw[bE];have:=C.aQ;omega⟩
 have Mi:=λ(a:D)(S':ad)(h1:∀j∈S',j<a.size)(h2:e∈S')(Q:Nat)(cM:GC e h Q d p i g a)(w:Fz [e] m a)(hQ:Q+20*Cg 18<=10^16)(s:Int)(hb:0<=s/\s<=18)=>QZ (g:=S') h1 h2 cM hQ (PS w) V ak hb
 have T:=jX ((Mi r _ F G _ B J.f V 18 cH).aP λ_ _ c=>c.aP (λj L=>L.1) bY) V
 have first:1<=q.aY.length->∃y:Int,q.aY[0]? =some y/\aS r W.bt (W.off+Int.toNat 0*1)=some (vi y):=λc=>by
  let⟨y,U⟩:=dY q.aY 0;exact⟨y,U,(gY.1 ((PS J.f).br U)).2⟩
 refine⟨λa=>∃u j,BX (n.size::f) i g.length q.aY.length o.size a u j/\Rs e h m (P+300+20*Cg 18) a/\I.size<=a.size,?_,?_⟩
 .refine⟨λv a=>(v=true->R=0)/\r=a,⟨λ_=>⟨λc=>by simp at c;omega,O⟩,λ_=>⟨sx,O⟩⟩,?_⟩
  rintro v _ ⟨H,rfl⟩
  refine⟨λc=>?_,λ_=>?_⟩
  .have Z:=ai (H c)
   exact jX ((OU F G B V).aP λ_ _ c=>c.aP (λj L=>by rw[Z];exact L) bY) V
  refine⟨λv a=>(v=true->0<=pl)/\r=a,⟨λ_=>⟨λc=>⟨λ_=>⟨λ_=>by simpa using c,O⟩,λ_=>⟨λ_=>by simpa using c,O⟩⟩,λ_=>⟨bO,O⟩⟩,λ_=>⟨bO,O⟩⟩,?_⟩
  rintro v _ ⟨H,rfl⟩
  refine⟨λc=>jX (OX F G B V x ⟨H c,V⟩) V,λ_=>?_⟩
  refine⟨λv a=>(v=true->1<=q.aY.length)/\r=a,⟨λ_=>⟨λc=>?_,λ_=>⟨bO,O⟩⟩,λ_=>⟨bO,O⟩⟩,?_⟩
  .simp only[bh]at c
   let⟨y,U,L⟩:=first V
   exact⟨cH,V,y,L,λ_=>⟨λ_=>⟨λ_=>V,O⟩,λ_=>⟨λ_=>V,O⟩⟩,λ_=>⟨bO,O⟩⟩
  rintro v _ ⟨H,rfl⟩
  refine⟨λc=>jX (OY F G B V x (H c)) V,λ_=>⟨λ_=>⟨λc=>?_,λ_=>T⟩,λ_=>T⟩⟩
  simp only[bh]at c
  let⟨y,U,L⟩:=first V
  have Z:=jX (OG F G B V x V) V
  exact⟨cH,V,y,L,λ_=>⟨λ_=>Z,λ_=>⟨λ_=>Z,λ_=>T⟩⟩,λ_=>T⟩
 rintro a ⟨u,j,s,aj,aq⟩
 refine⟨_,s.b.dg 0,_,s.b.dg 1,_,s.b.dg 2,?_⟩
 refine(FX (jr.le fJ s.h.sl)).aP λ_ m8⟨n8,e8,q8,Z⟩=>⟨(K V).fg (Z.fz _),n8,e8,?_⟩
 have z8:=Z.aQ
 have H:=aj.ext Z
 have L:=s.ext Z
 refine⟨λ_=>XP.qv (Mi m8 (n.size::f) (ae V) aa _ (l.to H.f H.r) H.f V 12 cH) (K V) H.f l.rd V (λ_ c=>c) V,λc=>⟨_,L.b.dg 0,_,L.b.dg 1,_,L.b.dg 2,?_⟩⟩
 simp only[dK]at c
 have r9:=H.cE l.rd (k:=n.size) V 0 [.i j.op,.i j.cG,.s u]
 exact⟨u,j,O,(L.h.iQ.cE bO).iQ.sl,⟨s.h.wx,V⟩,r9.r.aP V,r9.f⟩
end
def GW{α:Type}{R:D->ae->α->Prop}{f:Nat}(g:qF f R){S:ad}(j:∀d∈S,d<a.size)(e:Nat)(l:List (α×ae))(i:∀x∈l,R (di S a) x.2 x.1)(m:c=l.flatMap (·.2))(h:b=l.length):
 Gr S a (a.push (.cells (dh c) e)) e f R (.mk a.size 0 b b) (l.map (·.1)):=by
 refine Gr.jY (g:=l.map (·.2)) g bY cC (by simp[h]) ⟨bO,λd k=>?_,λp d e o n=>?_⟩
 .grind
 .grind [Option.map_eq_some_iff,ba]
abbrev CSl(m:D)(s:E)(l:List ab):Prop:=fY m 1 (nD m) s l
def Bz{S:ad}(d:∀e∈S,e<a.size)(e:Nat)(l:List (ab×E))(k:l.length<=1000)(h:∀x∈l,bg (di S a) x.2 x.1)(f:c=l.map λx=>.s x.2)(g:b=l.length):CSl (di S (a.push (.cells (dh c) e))) (.mk a.size 0 b b) (l.map (·.1)):=by
 have H:=GW (R:=λm c x=>nD m c x) (f:=1) ⟨λh=>nD.le h _ _,λ⟨_,h,_⟩=>by rw[h];rfl⟩ d e (l.map λx=>(x.1,[Ce.s x.2])) (λx i=>by simp at i;obtain⟨m,o,j,rfl⟩:=i;exact⟨_,O,h _ j⟩) (c:=c) (b:=b) (by rw[f];clear f g h k;induction l<;>simp_all) (by simp[g]);have i:=Gr.cB nD.aP H d cH cC;grind [List.map,List.map_map,Function.comp_def]
abbrev GDl(S:ad)(a m:D)(s:E)(l:af):Prop:=Gr S a m kN 3 jO s l
end
section
variable{K:E->D->Prop}{f:E}
variable{S L:ad}{c P:Nat}{d:E}{m b:D}
def Sy(d:∀a∈L,a<b.size)(g:∀a,J b a->K f a):bJ dP 201 [f.v] b λv a=>gT L b a/\∃c:E,v=.agg #[c.v]/\K c a:=
 (QT f b).aP λ_ a⟨e,x⟩=>⟨x.fg d,f,e,g a x⟩
def Iq(d:∀a,J b a->K f a):bJ dP 201 [f.v] b λv a=>∃c:E,v=.agg #[c.v]/\K c a:=
 (QT f b).aP λ_ a⟨e,x⟩=>⟨f,e,d a x⟩
def AZ(hS:∀q∈S,q<m.size)(G:c∈S)(F:Rd c d P m)(hP:P+1<=10^16):
 bJ dP 200 [vp c 0] m λaX H=>∃u ds,aX=u.v/\GDl S m H u ds/\ds∈wc/\Rd c d (P+1) H/\Fz [c] m H:=by
 apply FE (c,0)
 simp -zeta only[dT]
 have hr:=F.lt
 have j:∀{b:D},m.size<=b.size->∀q∈S,q<b.size:=λh q hc=>by have:=hS q hc;omega
 have I:∀(b:D)(l:ab)(cs:ae)(U:Nat),m.size<=b.size->cs=l.map Ce.i->U=l.length->l.length<=1000->bg (di S (b.push (.cells (dh cs) bG))) (.mk b.size 0 U U) l:=by grind [bg.jY]
 have ai:∀(b:D)(g:Nat),bg (di S b) (.mk g 0 0 0) []:=by grind [pZ]
 intro aU
 have Y:=px aU
 refine Iq λau x2=>?_
 intro m3
 have x3:=px m3
 have z2:=(Y.N x2).aQ
 have i3:bg (di S m3) (.mk au.size 0 2 2) [0,1]:=cC
 refine Iq λm4 A=>?_
 intro o
 have x5:=px o
 have z4:=(x3.N A).aQ
 have c5:CSl (di S o) (.mk m4.size 0 2 2) [[],[0,1]]:=Bz (j V) _ [([],.mk m.size 0 0 0),([0,1],.mk au.size 0 2 2)] bO (by simp;exact⟨ai _ _,i3.le A.eX⟩) O O
 intro m6 m7
 obtain⟨x7,-,z7⟩:=kZ (M:=o) (c:=m6) (a:=m7) O O O
 have z5:=x5.aQ
 intro m8
 have x8:=px m8
 clear_value m8
 have z8:=x8.aQ
 refine Sy cC λm9 x9=>?_
 intro K
 have az:=px K
 have z9:=x9.aQ
 have aP:bg (di S K) (.mk m9.size 0 3 3) [3,0,3]:=cC
 clear_value K
 have C8:=az.aQ
 refine Sy cC λao Z=>?_
 intro n
 have aA:=px n
 have a2:=Z.aQ
 have aH:CSl (di S n) (.mk ao.size 0 2 2) [[],[3,0,3]]:=Bz (j V) _ [([],.mk m7.size 0 0 0),([3,0,3],.mk m9.size 0 3 3)] bO (by simp;exact⟨ai _ _,aP.le Z.eX⟩) O O
 intro aV r
 obtain⟨aY,-,a4⟩:=kZ (M:=n) (c:=aV) (a:=r) O O O
 have a3:=aA.aQ
 have LL:∀{b:D},r.size<=b.size->∀g∈[n.size,o.size],g<b.size:=cC
 intro ap
 have aB:=px ap
 have aQ:bg (di S ap) (.mk r.size 0 2 2) [1,3]:=I r [1,3] _ _ V O O cH
 have a0:=aB.aQ
 refine Sy (LL a0) λaq aa=>?_
 intro s
 have aC:=px s
 have a5:=aa.aQ
 have aI:CSl (di S s) (.mk aq.size 0 1 1) [[1,3]]:=Bz (j V) _ [([1,3],.mk r.size 0 2 2)] bO (by simp;exact aQ.le aa.eX) O O
 have a6:=aC.aQ
 intro ar
 have aD:=px ar
 have aR:bg (di S ar) (.mk s.size 0 3 3) [1,1,0]:=I s [1,1,0] _ _ V O O cH
 have a7:=aD.aQ
 refine Sy (LL V) λL ac=>?_
 intro av
 have ad:=px av
 have a8:=ac.aQ
 have aS:bg (di S av) (.mk L.size 0 1 1) [0]:=I L [0] _ _ V O O cH
 have a9:=ad.aQ
 refine Sy (LL V) λN y=>?_
 intro aw
 have z:=px aw
 have a_:=y.aQ
 have aT:bg (di S aw) (.mk N.size 0 1 1) [3]:=I N [3] _ _ V O O cH
 have bb:=z.aQ
 refine Sy (LL V) λax v=>?_
 intro t
 have aE:=px t
 have bc:=v.aQ
 have aJ:CSl (di S t) (.mk ax.size 0 3 3) [[1,1,0],[0],[3]]:=Bz (j V) _ [([1,1,0],.mk s.size 0 3 3),([0],.mk L.size 0 1 1),([3],.mk N.size 0 1 1)] bO (by simp;exact⟨aR.le ((((((ac.N ad).N y).N z).N v)).eX),aS.le (((y.N z).N v).eX),aT.le v.eX⟩) O O
 have bd:=aE.aQ
 have al:=(((((aD.N ac).N ad).N y).N z).N v).N aE
 have ak:=(((aY.N aB).N aa).N aC).N al
 have B:=(((((x7.N x8).N x9).N az).N Z).N aA).N ak
 have x:∀{af ag:D}{u:E}{l:List ab},J af ag->CSl (di S af) u l->CSl (di S ag) u l:=λay h=>fY.le h ay.eX (nD.le ay.eX)
 have W:CSl (di S t) .nil []:=⟨O,bY,bO,bO⟩
 intro e
 have p:=px e
 have aL:dw (di S e) (.mk t.size 0 4 4) Yp:=(GW (R:=jO) jO.aP (j (b:=t) V) kN [(⟨0,0,[[1,3]]⟩,[.i 0,.i 0,.s (.mk aq.size 0 1 1)]),(⟨1,0,[]⟩,[.i 1,.i 0,.s .nil]),(⟨0,0,[[1,1,0],[0],[3]]⟩,[.i 0,.i 0,.s (.mk ax.size 0 3 3)]),(⟨0,1,[]⟩,[.i 0,.i 1,.s .nil])] (by simp;exact⟨⟨_,O,x al aI⟩,⟨_,O,W⟩,⟨_,O,aJ⟩,⟨_,O,W⟩⟩) O O).cB jO.aP (j V) cH cH
 have be:=p.aQ
 intro Q
 have w:=px Q
 have am:GDl S e Q (.mk e.size 0 3 3) Px:=GW (R:=jO) jO.aP (j (b:=e) V) kN [(⟨0,0,[[],[0,1]]⟩,[.i 0,.i 0,.s (.mk m4.size 0 2 2)]),(⟨0,0,[]⟩,[.i 0,.i 0,.s .nil]),(⟨0,0,[[],[3,0,3]]⟩,[.i 0,.i 0,.s (.mk ao.size 0 2 2)])] (by simp;exact⟨⟨_,O,x (B.N p) c5⟩,⟨_,O,x p W⟩,⟨_,O,x (ak.N p) aH⟩⟩) O O
 have aj:=((((Y.N x2).N x3).N A).N x5).N (B.N (p.N w))
 have bf:=w.aQ
 have aG:Lw c [n.size,o.size] Q:=λg k=>⟨LL V g k,by simp at k;omega⟩
 refine(dW (F.ext aj) V 5).aP λ_ T⟨an,aK,k0,k1,C,i⟩=>⟨aG.fg i,an,aK,λh=>?_,λ_=>⟨_,Px,O,Gr.de jO.aP (am.fH jO.aP i (by simp;exact⟨G,V⟩)) (λ_ h=>bz h) V,by simp[wc],C,(aj.fz _).N i⟩⟩
 simp only[bh]at h
 let⟨X,hq⟩:=dY Yp an.toNat (by simp[Yp];omega)
 have aO:Le (di S e) (di (e.size::S) T):=(w.di λg k=>(aZ.1 k).elim (λh=>bH V) bz).N (i.eX (by simp[G]))
 let⟨f,hf,e0,e1,e2⟩:=(aL.le aO).br hq
 refine⟨k0,fu,_,(gY.1 e0).2,_,(gY.1 e1).2,_,(gY.1 e2).2,?_⟩
 intro a1
 have aM:GDl S e T (.mk e.size 0 3 3) Px:=am.fH jO.aP i (by simp;exact⟨G,V⟩)
 have aN:Px++[X]∈wc:=by
  have:=ba hq;simp only[wc,aZ,fA];exact bH ⟨X,this,O⟩
 refine Gr.nI (h:=[.i 0,.i 0,.s .nil]) (m:=X) jO.aP cH aM ((w.fz _).N i) ⟨f,O,hf⟩ (by simp[Px]) λaW M' g' f' z' q'=>?_
 have ah:=((((((Y.N x2).N x3).N A).N x5).N (B.N p)).fz [c]).N f'
 have aF:Lw c [n.size,o.size] e:=λg k=>⟨LL V g k,by simp at k;omega⟩
 exact⟨aF.xh (((w.fz [c]).N i).cg (J.push T _)) f',aW,_,O,Gr.de jO.aP g' (λ_ h=>bz h) V,aN,F.BP C ah (q' c C.lt (by show c≠e.size;omega)),ah⟩
end
section
variable{a:Nat}{b:ae}
def UB(M:D)(b:ae)(x:dS×Option Ex):Prop:=∃c a k z,b=[.s c,.i x.1.bP,.i a,.i k,.s z]/\bg M c x.1.aY/\∀e,x.2=some e->a=e.op/\k=e.cG/\jr M z e.dA
def UB.aP:qF 5 UB:=⟨λh⟨b,a,k,z,e,c,d⟩=>⟨b,a,k,z,e,c.le h,λx j=>let⟨f,g,i⟩:=d x j;⟨f,g,jr.le h i⟩⟩,λ⟨_,_,_,_,e,_⟩=>by rw[e];rfl⟩
def FuR(M:D)(b:ae)(x:dS×Ex):Prop:=∃a s,b=[.s a,.i x.1.bP,.i x.2.op,.i x.2.cG,.s s]/\bg M a x.1.aY/\jr M s x.2.dA
def FuR.aP:qF 5 FuR:=⟨λh⟨a,s,e,b,c⟩=>⟨a,s,e,b.le h,jr.le h c⟩,λ⟨_,_,e,_⟩=>by rw[e];rfl⟩
abbrev adr(m:D)(s:E)(l:aJ):Prop:=fY m 5 (FuR m) s l
@[grind cases] structure adw (ds:af) (l:aJ):Prop where
 gp:GP ds (l.map (·.1))
 Mi:∀x∈l,Fit ds l.length x.1.aY.length x.2
def Gr.afQ{α:Type}{S:ad}{q m:D}{i f g c k:Nat}{R:D->ae->α->Prop}{p:List α}(w:0<f)(l:Gr S q m i f R (.mk g 0 a c) p)(u:k<=a):Gr S q m i f R (.mk g 0 k c) (p.take k):=by
 have v:=l.aT w;obtain⟨-,b,r,n⟩:=l;simp only[E.lU]at v;have s:b.length=a:=by rw[n.aT];omega
 rcases r.br with d|⟨A,B,tail,d,h4,h5,h6,h7⟩
 .simp at d
 simp only[E.lU,E.mk.injEq]at d h7;obtain⟨rfl,-,-,rfl⟩:=d;have j:b.flatten=(b.take k).flatten++(b.drop k).flatten:=by rw[<-vn,jW]
 have o:∀c∈b.take k,c.length=f:=by grind [fL.aQ,List.mem_of_mem_take]
 refine⟨bO,b.take k,⟨by rw[eD o,qZ,s,mK u];rfl,bH ⟨g,c,(b.drop k).flatten++tail,bO,h4,by rw[<-nF,<-j];exact h5,by rw[<-nF,<-j];exact h6,fu⟩⟩,?_,o,λx y z e h=>?_⟩
 .grind [List.length_take,fL.aT]
 .rw[lQ]at e h;split at e
  .rename_i t;rw[a8 t]at h;exact n.eR x y z e h
  .simp at e
variable{S L:ad}{d P:Nat}{c:E}{m M:D}
def vK{K:E->Int->Int->Int->E->D->Prop}(d:ab)(r:Int)(o:∀c∈S,c<M.size)(n:∀e∈L,e<M.size)(u:d.length<=1000)(q:b=d.map Ce.i)(t:a=d.length)(s:∀c,J M c->bg (di S c) (.mk M.size 0 a a) d->K (.mk M.size 0 a a) r 0 0 .nil c):
 bJ dP 257 [E.v (.mk M.size 0 a a),vi r] (M.push (.cells (dh b) bG)) λv c=>gT L (M.push (.cells (dh b) bG)) c/\∃f:E,∃g:Int,∃h:Int,∃i:Int,∃j:E,v=.agg #[f.v,vi g,vi h,vi i,j.v]/\K f g h i j c:=
 have k:=J.push M (.cells (dh b) bG)
 (Xy r).aP λ_ c⟨m,x⟩=>⟨x.fg λe p=>k.lt (n e p),_,_,_,_,_,m,s c (k.N x) ((bg.jY bG (l:=d) o q t V).le x.eX)⟩
def CT(a:ab)(r:Int):dS:=⟨a,[],r,0,[]⟩
def ZT.aP:qF 5 ZT:=⟨λh=>ZT.le h,λ⟨_,_,_,_,e,_⟩=>by rw[e];rfl⟩
def Xu(l:aA)(c:∀d∈S,d<M.size)(h:∀x∈l,bg (di S M) x.2 x.1.aY)(k:l.length<=1000)(f:b=l.flatMap λx=>[.s x.2,.i x.1.bP,.i 0,.i 0,.s .nil])(g:a=l.length):tU (di S (M.push (.cells (dh b) jb))) (.mk M.size 0 a a) (l.map (·.1)):=by
 have H:=(GW (R:=ZT) ZT.aP c jb (l.map λx=>(x.1,[Ce.s x.2,.i x.1.bP,.i 0,.i 0,.s .nil])) (λx d=>by simp at d;obtain⟨i,j,e,rfl⟩:=d;exact⟨_,_,_,_,O,h _ e⟩) (c:=b) (b:=a) (by rw[f,List.flatMap_map]) (by simp[g])).cB ZT.aP c cH cC;grind [List.map,List.map_map,Function.comp_def]
end
section
def abC:av:=[CT [1] 0,CT [1,1] 1,CT [1] 1,CT [1,0] 1,CT [2,1] 1,CT [1,1] 0]
def abM:av:=[CT [3] 0,CT [0] 1,CT [0,1] 1,CT [3,0] 3,CT [3] 1,CT [1,3,0] 0]
def Ul:av:=[CT [0] 0,CT [0,0] 0,CT [1,0] 0,CT [0] 1]
def WD:(∀q∈abC,(q.aY,q.bP)∈UL)/\(∀q∈abM,(q.aY,q.bP)∈UL)/\∀q∈Ul,(q.aY,q.bP)∈UL:=cH
def T6{α:Type}{l:List α}{k:Nat}{x:α}(h:l[k]? =some x):l.set k x=l:=eA λi=>by
 grind [bC]
variable{b:ad}{c P:Nat}{d:E}{m:D}
def JJ(hS:∀j∈b,j<m.size)(u:c∈b)(I:Rd c d P m)(hP:P+10+4*(300+40*Cg 18)<=10^16):
 bJ dP 243 [vp c 0] m λbm m'=>∃w aF z o,bm=.agg #[E.v w,E.v aF]/\dw (di b m') w z/\adr (di b m') aF o/\adw z o/\Rd c d (P+10+4*(300+40*Cg 18)) m'/\Fz [c] m m':=by
 apply Cp (c,0)
 unfold wP
 simp(config:={zeta:=false,maxSteps:=2000000}) only[kU,nQ]
 have hr:=I.lt
 intro ab
 have x1:J m ab:=J.push _ _
 have s1:ab.size=m.size+1:=by simp[ab]
 have aT:∀j∈m.size::b,j<ab.size:=dH hS x1.aQ V
 refine(AZ aT (by simp[u]) (I.ext x1) V).aP λ_ e⟨w,z,q,gd,aY,d2,f2⟩=>⟨f2.fg cC,w,q,?_⟩
 have z2:=f2.aQ
 have F2:=(x1.fz [c]).N f2
 have aw:dw (di (m.size::b) e) w z:=by grind [Gr.cB,jO.aP,tV]
 intro m3 C
 obtain⟨x4,-,z4⟩:=kZ (M:=e) (c:=m3) (a:=C) O O O
 have h:∀{g:D},C.size<=g.size->∀j∈e.size::m.size::b,j<g.size:=by grind [dH]
 have LL:∀{g:D},C.size<=g.size->∀v∈[e.size,m.size],v<g.size:=cC
 refine vK (S:=e.size::m.size::b) [1] 0 (h V) (LL V) cH O O λa1 x5 i1=>?_
 have z5:=x5.aQ
 refine vK (S:=e.size::m.size::b) [1,1] 1 (h V) (LL V) cH O O λa2 x6 i2=>?_
 have z6:=x6.aQ
 refine vK (S:=e.size::m.size::b) [1] 1 (h V) (LL V) cH O O λa3 x7 i3=>?_
 have z7:=x7.aQ
 refine vK (S:=e.size::m.size::b) [1,0] 1 (h V) (LL V) cH O O λa4 x8 i4=>?_
 have z8:=x8.aQ
 refine vK (S:=e.size::m.size::b) [2,1] 1 (h V) (LL V) cH O O λa5 x9 i5=>?_
 have z9:=x9.aQ
 refine vK (S:=e.size::m.size::b) [1,1] 0 (h V) (LL V) cH O O λa6 ao i6=>?_
 have C8:=ao.aQ
 intro b1
 have y1:J a6 b1:=J.push _ _
 have X9:=x9.N ao;have X8:=x8.N X9;have X7:=x7.N X8;have X6:=x6.N X7
 have g1:tU (di (e.size::m.size::b) b1) (.mk a6.size 0 6 6) abC:=Xu [(CT [1] 0,.mk C.size 0 1 1),(CT [1,1] 1,.mk a1.size 0 2 2),(CT [1] 1,.mk a2.size 0 1 1),(CT [1,0] 1,.mk a3.size 0 2 2),(CT [2,1] 1,.mk a4.size 0 2 2),(CT [1,1] 0,.mk a5.size 0 2 2)] (h V) (by simp;exact⟨i1.le X6.eX,i2.le X7.eX,i3.le X8.eX,i4.le X9.eX,i5.le ao.eX,i6⟩) bO O O
 have bt:b1.size=a6.size+1:=by simp[b1]
 refine vK (S:=e.size::m.size::b) [3] 0 (h V) (LL V) cH O O λc1 u1 j1=>?_
 have v1:=u1.aQ
 refine vK (S:=e.size::m.size::b) [0] 1 (h V) (LL V) cH O O λc2 u2 j2=>?_
 have v2:=u2.aQ
 refine vK (S:=e.size::m.size::b) [0,1] 1 (h V) (LL V) cH O O λc3 u3 j3=>?_
 have v3:=u3.aQ
 refine vK (S:=e.size::m.size::b) [3,0] 3 (h V) (LL V) cH O O λc4 u4 j4=>?_
 have v4:=u4.aQ
 refine vK (S:=e.size::m.size::b) [3] 1 (h V) (LL V) cH O O λc5 u5 j5=>?_
 have v5:=u5.aQ
 refine vK (S:=e.size::m.size::b) [1,3,0] 0 (h V) (LL V) cH O O λc6 u6 j6=>?_
 have v6:=u6.aQ
 intro b2
 have y2:J c6 b2:=J.push _ _
 have U5:=u5.N u6;have U4:=u4.N U5;have U3:=u3.N U4;have U2:=u2.N U3
 have g2:tU (di (e.size::m.size::b) b2) (.mk c6.size 0 6 6) abM:=Xu [(CT [3] 0,.mk b1.size 0 1 1),(CT [0] 1,.mk c1.size 0 1 1),(CT [0,1] 1,.mk c2.size 0 2 2),(CT [3,0] 3,.mk c3.size 0 2 2),(CT [3] 1,.mk c4.size 0 1 1),(CT [1,3,0] 0,.mk c5.size 0 3 3)] (h V) (by simp;exact⟨j1.le U2.eX,j2.le U3.eX,j3.le U4.eX,j4.le U5.eX,j5.le u6.eX,j6⟩) bO O O
 have bu:b2.size=c6.size+1:=by simp[b2]
 refine vK (S:=e.size::m.size::b) [0] 0 (h V) (LL V) cH O O λe1 t1 k1=>?_
 have q1:=t1.aQ
 refine vK (S:=e.size::m.size::b) [0,0] 0 (h V) (LL V) cH O O λe2 t2 k2=>?_
 have q2:=t2.aQ
 refine vK (S:=e.size::m.size::b) [1,0] 0 (h V) (LL V) cH O O λe3 t3 k3=>?_
 have q3:=t3.aQ
 refine vK (S:=e.size::m.size::b) [0] 1 (h V) (LL V) cH O O λe4 t4 k4=>?_
 have q4:=t4.aQ
 intro b3
 have y3:J e4 b3:=J.push _ _
 have T3:=t3.N t4;have T2:=t2.N T3
 have g3:tU (di (e.size::m.size::b) b3) (.mk e4.size 0 4 4) Ul:=Xu [(CT [0] 0,.mk b2.size 0 1 1),(CT [0,0] 0,.mk e1.size 0 2 2),(CT [1,0] 0,.mk e2.size 0 2 2),(CT [0] 1,.mk e3.size 0 1 1)] (h V) (by simp;exact⟨k1.le T2.eX,k2.le T3.eX,k3.le t4.eX,k4⟩) bO O O
 have bv:b3.size=e4.size+1:=by simp[b3]
 refine vK (S:=e.size::m.size::b) [] 0 (h V) (LL V) cH O O λM0 x0 n0=>?_
 have z0:=x0.aQ
 have ar:=((((u1.N U2).N y2)).N (t1.N T2)).N (y3.N x0)
 have XM:J C M0:=((x5.N X6).N y1).N ar
 have G1:=tU.le ar.eX g1
 have G2:=tU.le ((((t1.N T2)).N (y3.N x0)).eX) g2
 have aM:=tU.le x0.eX g3
 have dM:Rd c d (P+1) M0:=(d2.ext x4).ext XM
 have Z:∀{g:D},C.size<=g.size->Lw c [e.size,m.size] g:=λr=>lw hr fu
 have l:∀{g M':D}{v U:Nat},C.size<=v->v<g.size->Fz [c] g M'->aS M' v U=aS g v U:=λh1 h2 N=>bD (N.bB _ h2 cC) _
 refine(dW dM V _).aP λ_ m5⟨r1,en,bi,aG,d5,f5⟩=>⟨(Z V).fg f5,r1,en,bi,by simp at aG⊢;omega,?_⟩
 have ai:Le (di (e.size::m.size::b) M0) (di (e.size::m.size::b) m5):=f5.eX (by simp[u])
 have bB:=f5.aQ
 let⟨K,ay⟩:=dY abC r1.toNat (by simp[abC]at aG⊢;omega)
 obtain⟨_,⟨pa,pn,pk,pz,rfl,pi⟩,pr⟩:=(tU.le ai G1).kv _ K ay
 have pg:=λs j r=>(gY.1 (pr s j r)).2
 refine⟨_,pg 0 _ O,_,pg 1 _ O,_,pg 2 _ O,_,pg 3 _ O,_,pg 4 _ O,?_⟩
 refine(dW d5 V _).aP λ_ m6⟨r2,en,bk,aI,d6,y⟩=>⟨(Z V).fg y,r2,en,?_⟩
 have bF:=y.aQ
 have aj:Le (di (e.size::m.size::b) m5) (di (e.size::m.size::b) m6):=y.eX (by simp[u])
 let⟨p2,az⟩:=dY abM r2.toNat (by simp[abM]at aI⊢;omega)
 obtain⟨_,⟨qa,qn,qk,qz,rfl,qi⟩,qr⟩:=(tU.le (ai.N aj) G2).kv _ p2 az
 have qg:=λs j r=>(gY.1 (qr s j r)).2
 refine⟨l V V y,l V V y,l V V y,l V V y,l V V y,bk,by simp at aI⊢;omega,_,qg 0 _ O,_,qg 1 _ O,_,qg 2 _ O,_,qg 3 _ O,_,qg 4 _ O,?_⟩
 refine(dW d6 V _).aP λ_ f⟨r3,en,bl,aJ,d7,p⟩=>⟨(Z V).fg p,r3,en,?_⟩
 have bH:=p.aQ
 have ak:Le (di (e.size::m.size::b) m6) (di (e.size::m.size::b) f):=p.eX (by simp[u])
 let⟨p3,aA⟩:=dY Ul r3.toNat (by simp[Ul]at aJ⊢;omega)
 obtain⟨_,⟨ra,rn,rk,rz,rfl,ri⟩,rr⟩:=(tU.le ((ai.N aj).N ak) aM).kv _ p3 aA
 have rg:=λs j r=>(gY.1 (rr s j r)).2
 refine⟨l V V p,l V V p,l V V p,l V V p,l V V p,l V V p,l V V p,l V V p,l V V p,l V V p,bl,by simp at aJ⊢;omega,_,rg 0 _ O,_,rg 1 _ O,_,rg 2 _ O,_,rg 3 _ O,_,rg 4 _ O,?_⟩
 intro m8
 have aK:J f m8:=J.push _ _
 have a9:bg (di (e.size::m.size::b) f) (.mk b3.size 0 0 0) []:=pZ
 have gf:Gr (e.size::m.size::b) f m8 jb 5 UB (.mk f.size 0 4 4) [(CT [] 0,none),(K,none),(p2,none),(p3,none)]:=GW UB.aP (h V) jb [((CT [] 0,none),[.s (.mk b3.size 0 0 0),.i 0,.i 0,.i 0,.s .nil]),((K,none),[.s pa,.i K.bP,.i pn,.i pk,.s pz]),((p2,none),[.s qa,.i p2.bP,.i qn,.i qk,.s qz]),((p3,none),[.s ra,.i p3.bP,.i rn,.i rk,.s rz])] (by simp;exact⟨⟨_,_,_,_,O,a9,bO⟩,⟨_,_,_,_,O,pi.le (aj.N ak),bO⟩,⟨_,_,_,_,O,qi.le ak,bO⟩,⟨_,_,_,_,O,ri,bO⟩⟩) O O
 have s8:m8.size=f.size+1:=by simp[m8]
 let t:=[CT [] 0,K,p2,p3]
 have aQ:∀aa∈t,(aa.aY,aa.bP)∈UL:=by
  simp only[t,aZ,nm,GH];rintro aa (rfl|rfl|rfl|rfl)
  .simp[CT,UL]
  .exact WD.1 _ (ba ay)
  .exact WD.2.1 _ (ba az)
  .exact WD.2.2 _ (ba aA)
 have aL:Fz [c] e f:=(((x4.N XM).fz [c]).N f5).N (y.N p)
 have be:∀{g:D}{ad:E}{o:List (dS×Option Ex)}(U:Nat)(L:ae),Gr (e.size::m.size::b) f g jb 5 UB ad o->Gr (e.size::m.size::b) f (aW g e.size U L) jb 5 UB ad o:=λU L G=>G.P9 UB.aP ((Fz.cX [e.size] _).aW (bz bO) U L) bO (by have:=G.cF;simp;omega)
 intro m9
 have g9:Gr (e.size::m.size::b) f m9 jb 5 UB (.mk f.size 0 4 4) [(CT [] 0,none),(K,none),(p2,none),(p3,none)]:=by grind [Array.size]
 have r9:Rs c d e (P+4) m9:=(Rs.mk (aL.cg aK) (d7.ext aK)).cE d2 bY 1 [.s (.mk f.size 0 4 4)]
 have s9:m9.size=m8.size:=bE _ _ _ _
 intro aD
 have af:J m9 aD:=J.push _ _
 have bc:bg (di [c] aD) (.mk m9.size 0 5 5) [4,4,3,2,4]:=bg.jY bG fu O O bO
 have bA:=af.aQ
 refine(om (r9.r.ext af) V bc bO).aP λ_ bq⟨mn,en,a7,aN,ag⟩=>⟨(Z V).fg ag,mn,en,?_⟩
 have bp:2<=mn/\mn<=4:=by simp at a7;omega
 obtain⟨n,rfl⟩:∃n:Nat,mn=n:=⟨mn.toNat,V⟩
 have aV:E.cut (.mk f.size 0 4 4) 0 (Int.toNat n) 5=.mk f.size 0 n 4:=by simp[E.cut]
 rw[aV]
 refine⟨cH,V,fu,?_⟩
 intro ac
 have aP:Gr (e.size::m.size::b) f ac jb 5 UB (.mk f.size 0 n 4) ([(CT [] 0,none),(K,none),(p2,none),(p3,none)].take n):=Gr.afQ cH (be 1 [.s (.mk f.size 0 n 4)] ((g9.ext UB.aP af).fH UB.aP ag (by simp[u];omega))) V
 have bj:Rs c d e (P+5) ac:=((r9.ext af).to ag aN).cE d2 bY 1 [.s (.mk f.size 0 n 4)]
 clear_value ac
 have aB:(t.take n).length=n:=by simp[t];omega
 have gp:GP z (t.take n):=⟨aY,V,V,λaa i=>aQ aa (jG i)⟩
 have ew:eV ((n:Int) -1)=n -1:=dk V V
 rw[ew]
 refine⟨λN g=>∃(i:Nat)(o:List (dS×Option Ex)),N=(i:Int) -1/\i<=n/\Gr (e.size::m.size::b) f g jb 5 UB (.mk f.size 0 n 4) o/\o.map (·.1)=t.take n/\(∀(s:Nat)(x:dS×Option Ex),o[s]? =some x->i<=s->∃q,x.2=some q/\Fit z n x.1.aY.length q)/\Rs c d e (P+5+(n -i)*(300+40*Cg 18)) g/\ac.size<=g.size,λN _=>(N+1).toNat,⟨n,_,O,bY,aP,by rw[List.map_take];rfl,λs x A r=>by have:=bC A;simp at this;omega,by rw[Wn,Nat.zero_mul];exact bj,bY⟩,?_⟩
 rintro N g ⟨i,o,rfl,bo,G,hl,al,W,zM⟩
 have a0:o.length=n:=by rw[<-aB,<-hl];simp
 have gy:=G.cF
 simp only[E.nh]at gy
 have av:f.size∉e.size::m.size::b:=λr=>by have:=h (g:=C) bY _ r;omega
 refine dit (λr=>?_) λr=>?_
 .obtain⟨i,rfl⟩:∃B,i=B+1:=⟨i -1,V⟩
  have ek:((i+1:Nat):Int) -1=(i:Int):=V
  rw[ek]
  let⟨x,R⟩:=dY o i
  have am:(t.take n)[i]? =some x.1:=by rw[<-hl];simp[R]
  have bb:tU (di [c] g) (.mk f.size 0 n 4) (t.take n):=by
   have H:=G.sa UB.aP av cH V;rw[<-hl];refine⟨fu,H.mr,H.kM,λB aq hy=>?_⟩;simp only[eB,jL]at hy;obtain⟨Y,T,rfl⟩:=hy;obtain⟨L,⟨F,i1,i2,i3,rfl,ha,-⟩,an⟩:=H.kv B Y T;have aC:=kW g (S:=e.size::m.size::b) (c:=[c]) (by simp[u]);exact⟨_,⟨F,_,_,_,O,ha.le aC⟩,aC.kv an⟩
  have aX:dw (di [c] g) w z:=aw.le ((kW e (c:=[c]) (by simp[u])).N (fh W.f))
  have hB:(n -(i+1))*(300+40*Cg 18)+(300+40*Cg 18)=(n -i)*(300+40*Cg 18):=by rw[<-Ea];congr 1;omega
  have aR:(n -i)*(300+40*Cg 18)<=4*(300+40*Cg 18):=fq _ V
  have a_:i=0->x.1.aY.length=0:=λI=>by subst I;obtain⟨n',rfl⟩:∃n',n=n'+1:=⟨n -1,V⟩;simp[t]at am;rw[<-am];rfl
  have aU:∀j∈f.size::e.size::m.size::b,j<g.size:=dH (h (g:=g) V) bY gy.2
  refine XP.kk (RT (f:=f.size::e.size::m.size::b) aU (by simp[u]) ⟨W.r,aX,bb,gp⟩ V am a_) (Z V) λad q M1 hs Q aO ah=>?_
  have bw:=ah.aQ
  intro bd aE
  obtain⟨ap,-,bx⟩:=kZ (M:=M1) (c:=bd) (a:=aE) O O O
  have au:=(G.fH UB.aP ah (by simp[u];omega)).ext UB.aP ap
  obtain⟨L,⟨F,i1,i2,i3,rfl,ha,-⟩,ni⟩:=au.kL R
  have bf:=ni 0 _ O;have bh:=ni 1 _ O
  refine⟨V,fu,F,bf,V,fu,_,bh,V,fu,?_⟩
  obtain⟨wr,gs,-,br⟩:=au.eE UB.aP (X:=List.range f.size) ⟨V,λv hb hn=>absurd (rf.2 hb) hn⟩ (k:=i) V (a:=(x.1,some q)) (cs:=[.s F,.i x.1.bP,.i q.op,.i q.cG,.s ad]) ⟨F,_,_,_,O,ha,λe' ax=>by simp at ax;subst ax;exact⟨O,O,jr.le ap.eX hs⟩⟩
  refine⟨wr,?_⟩
  intro ax
  have bs:ax.size=aE.size:=bE _ _ _ _
  have aH:Rs c d e (P+5+(n -(i+1))*(300+40*Cg 18)+300+40*Cg 18) ax:=((W.to ah aO).ext ap).cE d2 (by show e.size<=f.size;omega) _ _
  refine⟨λv hb=>cw _ _ _ _ (by simp at hb;show v≠f.size;omega),⟨i,o.set i (x.1,some q),dk V V,V,gs,?_,λs aq A bn=>?_,⟨aH.f,aH.r.aP V⟩,V⟩,?_⟩
  .rw[DZ,T6 (by simp[R]),hl]
  .rw[IM]at A
   split at A
   .rename_i e';subst e';rw[a8 V]at A;simp at A;subst A
    have:(t.take n).length=n:=aB
    grind
   .exact al s aq A V
  .rw[dk V V];show((i:Int) -1+1).toNat<((i:Int)+1).toNat;omega
 .have I:i=0:=V
  subst I
  have ah:Le (di (e.size::m.size::b) g) (di b (aW g m.size 0 [.s w,.s (.mk f.size 0 n 4)])):=dU bO λj hc=>by simp[hc]
  have H:=G.sa UB.aP av cH V
  have aR:(n -0)*(300+40*Cg 18)<=4*(300+40*Cg 18):=fq _ V
  have A:Rs c d m (P+5+(n -0)*(300+40*Cg 18)) g:=⟨F2.N W.f,W.r⟩
  have A:=A.cE I bY 0 [.s w,.s (.mk f.size 0 n 4)]
  have ap:(o.map λx=>(x.1,x.2.getD (.mk 0 0 []))).map (·.1)=t.take n:=by rw[List.map_map,<-hl];rfl
  refine⟨w,.mk f.size 0 n 4,z,o.map λx=>(x.1,x.2.getD (.mk 0 0 [])),O,aw.le ((W.f.eX (by simp[u])).N ((dU bO λj hc=>by simp[hc]))),⟨fu,H.mr,H.kM,λB aq hy=>?_⟩,⟨by rw[ap];exact gp,λx R=>?_⟩,A.r.aP V,A.f⟩
  .simp only[eB,jL]at hy
   obtain⟨Y,T,rfl⟩:=hy
   let⟨q,Q,hf⟩:=al B Y T (jh _)
   obtain⟨L,⟨F,i1,i2,i3,rfl,ha,hb⟩,an⟩:=H.kv B Y T
   obtain⟨rfl,rfl,am⟩:=hb q Q
   exact⟨_,⟨F,i3,by simp[Q],ha.le ah,by simp only[Q,uL];exact jr.le ah am⟩,ah.kv an⟩
  .simp only[fA]at R
   obtain⟨Y,T,rfl⟩:=R
   let⟨B,F⟩:=db.1 T
   let⟨q,Q,hf⟩:=al B Y F (jh _)
   simp only[Q,uL,jQ,a0];exact hf
end
@[grind cases] structure Ps (S:ad) (m0 m:D) (lb:Nat) (s:E) (l:au) (sc:Nat):Prop where
 bU:dJ m lb rD [.s s,.i sc]
 gr:GS (lb::S) m0 m s l
 up:m0.size<=lb
def Ps.ext{S:ad}{c m b:D}{a d:Nat}{s:E}{l:au}(h:Ps S c m a s l d)(x:J m b):Ps S c b a s l d:=⟨h.bU.ext x,h.gr.ext km.aP x,h.up⟩
def Ps.ne{S:ad}{b m:D}{a c:Nat}{s:E}{l:au}(h:Ps S b m a s l c):s.bt≠a:=h.gr.ne h.bU cH
def LoP(S:ad)(f m:D)(c:Nat)(s:E)(P:au->Nat->Prop)(d:D):Prop:=∃a b e,Ps S f d c a b e/\P b e/\Fz [c,s.bt] m d/\(a.bt=s.bt\/m.size<=a.bt)
def QP{S:ad}{j d:D}{b e:Nat}{s p y:E}{l:au}{x:eQ}(k:Ps S j d b s l e)(w:j.size<=d.size)(M:bg (di (s.bt::b::S) d) p x.aO)(N:rW (di (s.bt::b::S) d) y x.dA)(n:l.length<=1000000)(Z:e<=1000000):
 bJ dP 318 [vp b 0,tK x p y] d λT Q=>T=vi (e:Nat)/\LoP S j d b s (λa c=>a=l++[x]/\c=e+1) Q:=by
 apply Bb (b,0)
 simp -zeta only[dT]
 intro G
 obtain⟨h,s1⟩:=pu G
 have i:=k.ext h
 have F:=i.bU.lt
 have X:=k.bU.lt
 have aa:=k.gr.cF
 refine⟨s,i.bU.dg 0,?_⟩
 intro R
 have H:=px R
 refine⟨bD (H.bB _ F) _,?_⟩
 have g1:GS (b::S) (d.extract 0 j.size) G s l:=Gr.de km.aP i.gr (λI n=>bz n) (by rw[vI w];exact bY)
 refine Gr.nI km.aP cH g1 (((J.Rv w).N h).fz []) ⟨p,y,O,M.le h.eX,fY.le N h.eX λ_ _=>vV.le h.eX⟩ V λr z B W U A=>?_
 have u:=i.bU.congr (A b F (uK i.ne))
 have P:=B.ne u cH
 refine⟨λc a=>?_,u.gK bO,?_⟩
 .simp at a;subst a
  rw[A d.size V V,H.bB _ V]
 intro g
 have v:dJ g b rD [.s r,.i e]:=dJ.aW (m:=z) u
 have q:∀c,c≠b->g[c]? =z[c]? :=λc a=>cw _ _ _ _ a
 have s4:g.size=z.size:=bE _ _ _ _
 have K:eV ((e:Int)+1)=(e+1:Nat):=by rw[gJ];rfl
 refine⟨λc a=>q c (by simp at a;omega),_,v.dg 1,v.gK bO,?_⟩
 rw[K]
 intro o
 have C:dJ o b rD [.s r,.i (e+1:Nat)]:=dJ.aW (m:=g) v
 have t:∀c,c≠b->o[c]? =g[c]? :=λc a=>cw _ _ _ _ a
 have s5:o.size=g.size:=bE _ _ _ _
 refine⟨λc a=>t c (by simp at a;omega),_,C.dg 1,?_⟩
 have L:GS (b::S) j o r (l++[x]):=by
  refine Gr.de km.aP (B.re km.aP (Y:=[b]) ⟨V,λc a f=>?_⟩ bO (by simp;exact P) λc a=>bz a) (λI n=>bz n) (by rw[vI w];exact bY);have:c≠b:=sp f;exact(t c this).trans (q c this)
 refine⟨by rw[gJ];congr 1;omega,r,_,_,⟨C,L,k.up⟩,⟨O,O⟩,⟨V,λc a f=>?_⟩,oh U.2⟩
 simp only[aZ,nm,GH,CL]at f
 rw[t c f.1,q c f.1,A c V f.2,h.bB c a]
section
variable{K b e d:Nat}{a:au}
@[grind cases] structure LW (ds:af) (nf sc:Nat) (nw:au) (K D sc':Nat):Prop where
 wl:WL ds nf False sc nw
 dd:sc'=sc+dc nw
 sz:sw nw<=K
 pP:sc'<=sc+D
def LW.cX(b:af)(c a:Nat):LW b c a [] 0 0 a:=⟨.gF,bO,bO,V⟩
theorem LW.iQ{c:af}{f g i:Nat}(h:LW c f g a K b i)(k:K<=e)(j:b<=d):LW c f g a e d i:=⟨h.wl,h.dd,oh h.sz,oh h.pP⟩
def LW.N{c:af}{f h i j:Nat}{g:au}(k:LW c f h a K b i)(l:LW c f i g e d j):LW c f h (a++g) (K+e) (b+d) j:=
 by constructor<;>grind [LW.wl,WL.fE,LW.dd,fm,LW.sz,gR,LW.pP]
def LW.mE{b:af}{c a:Nat}{x:eQ}(h:WS b c False a x):LW b c a [x] x.w 1 (a+1):=by constructor<;>grind [WL.mE,nO,xJ,dn1,sw]
section
variable{S:ad}{f m g:D}{c h k:Nat}{s j:E}{l i:au}
def Ps.j7(a:Ps S f m c s l h)(d:J f m)(b:Fz [c,s.bt] m g):J f g:=by
 constructor<;>grind [Ps.gr,Gr.cF,Ps.up,Fz.ext,J.fz,E.bt,Fz.N,Fz.IK]
def Ps.re{S' Y:ad}(a:Ps S f m c s l h)(i:Fz Y m g)(e:∀b∈Y,b∈S/\b≠c/\b≠s.bt)(d:∀b∈S',b∈S\/m.size<=b):Ps S' f g c s l h:=
 by constructor<;>grind [Ps.bU,dJ.congr,Fz.bB,dJ.lt,Ps.gr,Gr.re,km.aP,List.mem_cons_of_mem,List.mem_cons_self,Ps.up]
end
@[grind cases] structure LS (S:ad) (m0 m:D) (lb:Nat) (s:E) (l:au) (sc:Nat) (RC:E) (ev:ab):Prop where
 em:Ps S m0 m lb s l sc
 x:J m0 m
 j7:∀c∈S,c<m.size
 RC:bg (di [s.bt,lb] m) RC ev
 sm:∀y∈ev,0<=y/\y<(sc:Int)
def exV(e:Ex)(t:E):Value:=.agg #[vi e.op,vi e.cG,t.v]
def abb(b:af)(h:Nat)(e:Ex):Prop:=∀(S:ad)(c m:D)(d:Nat)(s:E)(l:au)(f:Nat)(RC:E)(ev:ab)(g p t:E),LS S c m d s l f RC ev->WX b h ev.length e->f+4*e.n<=2000->ev.length+4*e.n<=2000->l.length+4*e.n<=2000->dw c g b->eT b->jr c t e.dA->
 bJ dP 285 [vp d 0,.agg #[g.v,p.v],exV e t,RC.v] m λv k=>∃r:Int,v=vi r/\LoP S c m d s (λj i=>∃a,j=l++a/\LW b h f a (3*e.n -1) e.n i/\0<=r/\r<(i:Int)) k
def afD(a:af)(f:Nat)(e:Ex):Prop:=∀(S:ad)(m:D)(b:Nat)(RC:E)(ev:ab)(d p t:E),(∀c∈S,c<m.size)->bg m RC ev->(∀y∈ev,0<=y/\y<(b:Int))->WX a f ev.length e->b+4*e.n<=2000->ev.length+4*e.n<=2000->dw m d a->eT a->jr m t e.dA->
 rJ 256 [.agg #[d.v,p.v],exV e t,RC.v,vi b] m S λc=>WB a f False b c/\c.w<=3*e.n
def _root_.Go.Vc.Ex.SG(e:Ex):1<=e.n:=by rw[Ex.aeE];omega
def Iy{s:af}{v:Nat}{i:Ex}(j:abb s v i):afD s v i:=by
 intro g u n RC ev B T Y F I L N ac Z hd M K;apply DJ;simp -zeta only[dT];intro Q d b c e;let⟨h,hl,s1,s2,s3⟩:=uQ (a:=Q) (c:=d) (d:=b) O O O;obtain⟨p,X⟩:=pu c;have E:GS ((b.size+1)::d.size::g) b c (.mk b.size 0 0 0) []:=by grind [Gr.bI]
 have f:=px e;have y:dJ e c.size rD [.s (.mk b.size 0 0 0),.i n]:=dJ.push _ _ _;have q:=(h.N p).N f;have z5:=f.aQ;have G:∀r∈d.size::g,r<e.size:=dH F q.aQ V;have P:Ps (d.size::g) b e c.size (.mk b.size 0 0 0) [] n:=⟨y,X▸E.ext km.aP f,V⟩;have hp:=i.SG;refine(j (d.size::g) b e c.size _ [] n RC ev B T Y ⟨P,p.N f,G,(I.le (((h.N p).N f).di (S:=[]) fu|>λj=>(ER (m:=u)).N j)),L⟩ N V V cC (hd.le h.le) M (jr.le h.le K)).aP λae R⟨w,D,x,l,ad,o6,⟨a,C,o,U,W⟩,t,b6⟩=>?_;subst C;have z:J u R:=Fz.ext (((q.fz [c.size,b.size]).N t).IK λA k=>by simp at k;omega);refine⟨t.fg λA k=>by simp at k;simp;omega,w,D,x,o6.bU.dg 0,?_⟩;intro m7;have hz:=o.sz;have aa:=jK l;refine⟨x,.mk l w,O,iI.le (dU bO λr H=>by simp[H]) (o6.gr.sa km.aP (λH=>?_) cH (by show l.length<=_;omega)),⟨WB.of o.wl ⟨U,by rw[<-o.dd];exact W⟩,by rw[Bk.vT];omega⟩,z.aW V _ _⟩;have hy:=o6.gr.cF;have ab:=o6.ne;grind
end
section
variable{M c:D}{a o:Nat}
def U7{m:D}{t:E}{l:ax}(h:jr m t l){k:Nat}{x:Ex}(a:l[k]? =some x)(b:J m M):∃u,jr m u x.dA/\aS M t.bt (t.off+k*3)=some (vi x.op)/\aS M t.bt (t.off+k*3+1)=some (vi x.cG)/\aS M t.bt (t.off+k*3+2)=some u.v:=
 by grind [jr.br,J.aS]
def gx(x:J M c){v:Value}(h:aS M a o=some v):aS c a o=aS M a o:=by rw[x.aS h,h]
def gl(x:J M c)(h:a<M.size):aS c a o=aS M a o:=bD (x.bB a h) o
def aat{q:af}{nf:Nat}{p cG:Int}{dA:ax}(ih:∀u∈dA,abb q nf u):abb q nf (.mk p cG dA):=by
 intro v m0 F d B aa sc RC ev ai aj bh e hw be a6 bc hd ht hk;have P:=hw.cJ;simp only[exV,Ex.acv,Ex.aaA,Ex.Yn,Ex.Zc]at*;apply yQ (d,0);simp -zeta only[dT];intro am s;let⟨H,hl⟩:=fV (a:=am) (c:=s) O O;have s1:=pz am;have s2:s.size=F.size+2:=by simp[s,s1]
 have aG:=hk.aT;have a_:=hk.kM;have bb:=e.em.bU.lt;have h:=e.em.gr.cF;have eX:∀{M:D}{f:E},Fz [d,B.bt] F M->(f.bt=B.bt\/F.size<=f.bt)->Le (di [B.bt,d] F) (di [f.bt,d] M):=λab g=>mH λa aw hn=>by
  simp at hn;exact⟨by simp;rcases g with u|u<;>omega,ab.bB a aw fu⟩
 have st:∀{ao:ad}{M:D}{f:E}{l':au}{G:Nat},Ps ao m0 M d f l' G->Fz [d,B.bt] F M->(f.bt=B.bt\/F.size<=f.bt)->(∀l∈ao,l<M.size)->sc<=G->LS ao m0 M d f l' G RC ev:=λo ab g hS hs=>⟨o,e.em.j7 e.x ab,hS,e.RC.le (eX ab g),λy h=>⟨(e.sm y h).1,oh ((e.sm y h).2)⟩⟩;have fg:∀{M c:D}{f:E},s.size<=M.size->(f.bt=B.bt\/s.size<=f.bt)->Fz [d,f.bt] M c->gT [am.size,F.size] M c:=λhz g ab=>ab.fg λa aw=>by simp at aw;simp;omega
 have ah:∀{M c:D},s.size<=M.size->J M c->gT [am.size,F.size] M c:=λhz a2=>a2.fg λa g=>by simp at g;omega
 have fr:∀{M c:D}{f:E},Fz [d,B.bt] F M->(f.bt=B.bt\/s.size<=f.bt)->Fz [d,f.bt] M c->Fz [d,B.bt] F c:=λab g N=>ab.wE N λy h=>by simp at h⊢;omega
 refine⟨λak=>?_,λak=>⟨λag=>?_,λag=>⟨λal=>?_,λal=>?_⟩⟩⟩
 .simp only[bQ]at ak;let⟨j,r⟩:=P.1.var ak;have k:=e.RC.aT;let⟨y,w⟩:=dY ev cG.toNat;have i:=e.sm y (ba w);exact⟨j,V,y,(gY.1 ((e.RC.le H.eX).br w)).2,y,O,B,aa,sc,e.em.ext H,⟨[],bO,(LW.cX q nf sc).iQ V V,i⟩,H.fz _,bz O⟩
 .simp only[bQ]at ag;have h2:=P.1.Nv ag;let⟨W,Z⟩:=dY dA 0;let⟨j,i⟩:=dY dA 1;have aD:en dA=W.n+j.n:=by
   obtain⟨z,a,rfl⟩:∃z a,dA=[z,a]:=by
    match dA,h2 with
    |[z,a],_=>exact⟨z,a,O⟩
   simp at Z i;subst Z i;simp[en]
  have p0:=W.SG;have p1:=j.SG;let⟨u0,az,g0,g1,g2⟩:=U7 hk Z (e.x.N H);refine⟨cH,V,_,g0,_,g1,_,g2,?_⟩;have S2:=st (e.em.ext H) (H.fz _) (bz O) (λl r=>oh (e.j7 l r)) bY;refine(ih W (ba Z) v m0 s d B aa sc RC ev ai aj u0 S2 (by have:=P.2 0 W Z;simpa[xb]using this) V V V hd ht az).aP λU t⟨R,aq,I,l3,T,o3,⟨ae,ap,w3,a0,a1⟩,f3,b3⟩=>⟨fg bY (bz O) f3,R,aq,?_⟩;subst ap;have F3:=fr (H.fz _) (bz O) f3;have z3:=f3.aQ;have X3:=e.em.j7 e.x F3;let⟨u1,ar,k0,k1,k2⟩:=U7 hk i X3;have aM:=w3.pP;have aT:=jK ae;have aY:=w3.sz;refine⟨cH,V,_,k0,_,k1,_,k2,?_⟩;have S3:=st o3 F3 V (λl r=>oh (e.j7 l r)) (oh w3.dd);have A:∀l∈[I.bt,d],l<t.size:=λl r=>by have:=o3.gr.cF;have:=o3.bU.lt;simp at r;omega
  intro Q;have k:=px Q;have av:bg (di [I.bt,d] Q) (.mk t.size 0 1 1) [R]:=bg.jY bG A O O bO;refine⟨gx k k0,gx k k1,gx k k2,gl k V,gl k V,gl k V,?_⟩;have z4:=k.aQ;refine(iH (S:=[I.bt,d]) (λl r=>k.lt (A l r)) (S3.RC.le k.eX) av fu).aP λU m5⟨K,l5,e5,g5,q5,C⟩=>⟨ah V C,K,e5,gx C (k.aS k0),gx C (k.aS k1),gx C (k.aS k2),gl C V,gl C V,gl C V,?_⟩;subst q5;have z5:=C.aQ;have S5:LS v m0 m5 d I (aa++ae) T K (ev++[R]):=⟨(o3.ext k).ext C,(X3.N k).N C,λl r=>oh (e.j7 l r),GI.cB g5 (λl r=>k.lt (A l r)) fu,λy h=>by
   rcases bT.1 h with h|h
   .have:=e.sm y h;have:=w3.dd;omega
   .simp at h;omega⟩
  refine(ih j (ba i) v m0 m5 d I (aa++ae) T K (ev++[R]) ai aj u1 S5 (by have:=P.2 1 j i;simpa[xb,ag]using this) V fu fu hd ht ar).aP λU m6⟨r1,an,s6,l6,aC,o6,⟨ay,ac,w6,aA,aB⟩,L,b6⟩=>⟨fg V V L,r1,an,r1,O,s6,l6,aC,o6,⟨ae++ay,by rw[ac,nF],(w3.N w6).iQ V V,aA,aB⟩,fr ((F3.cg k).cg C) V L,V⟩
 .simp only[eK,bQ]at al;have h3:p=7->dA.length=3:=P.1.afk;have av:p=8->dA.length=1+(cY q cG).length/\0<(cY q cG).length:=P.1.lZ;have aQ:1<=dA.length:=by rcases al with i|i;have:=h3 i;omega;have:=av i;omega
  let⟨W,Z⟩:=dY dA 0;have a7:en (dA.take 1)=W.n:=by have:=Pb Z;simpa using this
  have a8:=Yh dA 1;have p0:=W.SG;let⟨u0,az,g0,g1,g2⟩:=U7 hk Z (e.x.N H);refine⟨cH,V,_,g0,_,g1,_,g2,?_⟩;have S2:=st (e.em.ext H) (H.fz _) (bz O) (λl r=>oh (e.j7 l r)) bY;refine(ih W (ba Z) v m0 s d B aa sc RC ev ai aj u0 S2 (by have:=P.2 0 W Z;simpa[xb]using this) V V V hd ht az).aP λU t⟨R,aq,I,l3,T,o3,⟨ae,ap,w3,a0,a1⟩,f3,b3⟩=>⟨fg bY (bz O) f3,R,aq,?_⟩;subst ap;have F3:=fr (H.fz _) (bz O) f3;have z3:=f3.aQ;have X3:=e.em.j7 e.x F3;have aM:=w3.pP;have aT:=jK ae;have aY:=w3.sz;have S3:=st o3 F3 V (λl r=>oh (e.j7 l r)) (oh w3.dd);have ar:∀l∈I.bt::d::v,l<t.size:=dH (dH (m:=F) e.j7 V o3.bU.lt) bY o3.gr.cF.2;intro Q;obtain⟨k,s4⟩:=pu Q;have g4:GB (I.bt::d::v) t Q (.mk t.size 0 0 0) []:=GB.bI t;refine(kA (e:=[t.size]) fu (hd.le (X3.N k).le) ht cG).aP λU m5⟨cs,cl,ec,r,qc,C⟩=>⟨ah V C,cs,ec,?_⟩;subst qc;have a5:=r.aT;have z5:=C.aQ;refine WW (g:=dA.length) (aG▸hk.kM) aQ (λj ks M=>∃A,GB (I.bt::d::v) t M ks A/\A.length+1=j/\(∀(ac:Nat)(a:Bk),A[ac]? =some a->WB q nf False (T+GK q p cG ac) a)/\bw A+3*W.n<=3*en (dA.take j)/\J t M/\Fz [t.size] m5 M/\(ks.bt=t.size\/m5.size<=ks.bt)) ⟨[],g4.ext vV.aP C,O,bO,fu,k.N C,nR,bz O⟩ ?_;rintro j ks M aJ μ a9 hj ⟨A,N,aS,aH,aN,xM,fM,aF⟩ aA
  have zM:=xM.aQ;have aE:=N.cF;have oM:=o3.bU.ext xM;refine dit (λi=>?_) λi=>?_
  .have ew:eV ((j:Int) -1)=((j -1:Nat):Int):=by rw[gJ];omega
   refine⟨λaI c=>J M c/\aI=(GK q p cG (j -1):Nat),⟨λh8=>?_,λh8=>⟨dt,by simp only[bd]at h8;rw[Pz h8];rfl⟩⟩,?_⟩
   .simp only[bQ]at h8;have ha:=av h8;let⟨y,w⟩:=dY (cY q cG) (j -1);rw[ew];refine⟨V,V,y,(gY.1 ((r.le (fM.eX bO)).br w)).2,?_⟩;refine(fX (e:=[]) (hd.le ((X3.N xM).le.N ER)) ht y).aP λU m6⟨L,l6,e6,h6,q6,K⟩=>⟨ah V K,L,e6,K,?_⟩;subst q6;rw[Py h8 w,h6.aT]
   rintro aI m6 ⟨K,rfl⟩;let⟨u,he⟩:=dY dA j;have X6:=(X3.N xM).N K;let⟨aC,hu,k0,k1,k2⟩:=U7 hk he X6;have B6:=oM.ext K;have z6:=K.aQ;refine⟨V,V,_,k0,_,k1,_,k2,_,B6.dg 1,_,B6.dg 1,?_⟩;have a3:=WH ht p cG (j -1);have aP:=Pb he;have aO:=Yh dA (j+1);have aU:=u.SG;refine(pA (S:=[]) (d:=m6) bO T (GK q p cG (j -1)) V).aP λU m7⟨s7,l7,e7,g7,q7,w⟩=>⟨ah V w,s7,e7,gx w (B6.dg 1),gx w k0,gx w k1,gx w k2,gl w V,gl w V,gl w V,?_⟩;have z7:=w.aQ;have aL:bg (di [] m7) RC ev:=(S3.RC.le ((((xM.N K).N w).eX).N fJ)).le ER;refine(iH (S:=[]) bO aL (GI.cB g7 bO V) V).aP λU m8⟨s8,l8,e8,g8,q8,L⟩=>⟨ah V L,s8,e8,gx L ((B6.ext w).dg 1),gx L (w.aS k0),gx L (w.aS k1),gx L (w.aS k2),gl L V,gl L V,gl L V,?_⟩;subst q8;have z8:=L.aQ;have aR:(ev++l7).length=ev.length+GK q p cG (j -1):=by simp;exact q7.2
   rw[dk (b:=(T:Int)+(GK q p cG (j -1):Nat)) V V,show(T:Int)+(GK q p cG (j -1):Nat)=((T+GK q p cG (j -1):Nat):Int)by omega];have an:=(K.N w).N L;have aW:WX q nf (ev++l7).length u:=by
    have:=P.2 j u he;rw[aR];obtain⟨j',rfl⟩:∃j',j=j'+1:=⟨j -1,V⟩;have aK:xb q p cG (j'+1)=GK q p cG j':=aV (sp ag);rwa[aK]at this
   refine(Iy (ih u (ba he)) (ks.bt::I.bt::d::v) m8 _ s8 (ev++l7) ai aj aC (dH (λl r=>oh (ar l r)) bY V) ((GI.cB g8 bO V).le fJ) (λy h=>?_) aW V V (hd.le ((X6.N w).N L).le) ht (jr.le ((X6.N w).N L).le hu)).aP λU m9⟨s9,b9,e9,h9,q9,x9⟩=>⟨ah V x9,s9,_,e9,?_⟩
   .rcases bT.1 h with h|h
    .have:=S3.sm y h;omega
    .have:=q7.1 y h;omega
   intro bf;have z9:=x9.aQ;have a4:=xG A;refine GB.nI (c:=b9) ((N.ext vV.aP an).ext vV.aP x9) (((xM.N an).N x9).fz []) h9 V λaB c g' f' z' q'=>⟨λa g=>by
    have aD:a<t.size:=by simp at g;omega
    rw[f'.ext.bB a aD,(((xM.N an).N x9).cz _).bB a aD],aA V _ _ ⟨_,g',by rw[dC,List.length_singleton];omega,λac a hi=>?_,?_,f'.ext,(fM.cg (an.N x9)).wE (Y:=[ks.bt]) ⟨z'.1,λa g hn=>q' a g (sp hn)⟩ (λy h=>by simp at h⊢;omega),oh fM.aQ⟩⟩
   .rcases eH ac A.length with ay|ay
    .rw[dZ ay]at hi;exact aH ac a hi
    .rw[dQ ay]at hi;have:ac -A.length=0:=by have:=bC hi;simp at this;omega
     rw[this]at hi;simp at hi;subst hi;have:ac=j -1:=V;subst this;exact q9.1
   .rw[tr,zc,Et];have:=q9.2;omega
  .have L:j=dA.length:=V;subst L;rw[fB]at aN;intro m6;have K:=px m6;have aI:bg (di (I.bt::d::v) m6) (.mk M.size 0 1 1) [R]:=bg.jY bG (λl r=>oh (ar l r)) O O bO;have z6:=K.aQ;have aF:rW (di (I.bt::d::v) m6) ks A:=rW.le K.eX (N.cB vV.aP ar cH (oh (xG A)));have X6:=xM.N K;refine(QP (x:=⟨p,cG,0,[R],A⟩) (o3.ext X6) (X3.N X6).aQ aI aF fu V).aP λU m7⟨aD,s7,l7,aK,o7,⟨an,ay⟩,w,b7⟩=>⟨fg V V w,T,aD,T,O,s7,l7,aK,o7,⟨ae++[⟨p,cG,0,[R],A⟩],by rw[an,nF],?_,V,V⟩,fr (F3.cg X6) V w,V⟩;have ws:WS q nf False T ⟨p,cG,0,[R],A⟩:=⟨⟨bz (by show 0<=p/\p<=11;omega),fu,λ_=>O,⟨by show(0:Int)<=0;omega,by show(0:Int)<=_;omega⟩,λi=>by show A.length=2;have:=h3 i;omega,λi=>by show A.length=(cY q cG).length/\0<A.length;have:=av i;omega,λi=>by simp only at i;omega⟩,aH⟩;subst ay;exact(w3.N (LW.mE ws)).iQ (by rw[eQ.pN];simp only[dD,kH];omega) V
 .simp only[cZ,bd]at al;simp only[bd]at ak ag;have ho:=P.1.o;intro t;have x3:=px t;have g3:GI [] s t (.mk s.size 0 0 0) []:=GI.gF [] s;have aF:t.size=s.size+1:=by simp[t]
  have o3:Ps (s.size::v) m0 t d B aa sc:=(e.em.ext H).re (x3.fz []) bO λa g=>(aZ.1 g).elim (λi=>bH V) bz;refine gN (n:=dA.length) (aG▸hk.kM) (λj z M=>∃f G r l,Ps (z.bt::v) m0 M d f (aa++r) G/\LW q nf sc r (3*en (dA.take j) -j) (en (dA.take j)) G/\GI [] s M z l/\l.length=j/\(∀y∈l,0<=y/\y<(G:Int))/\Fz [d,B.bt] F M/\(f.bt=B.bt\/s.size<=f.bt)/\s.size<=M.size) ⟨B,sc,[],[],sp o3,(LW.cX q nf sc).iQ (jh _) (jh _),g3,O,bO,(H.N x3).fz _,bz O,V⟩ ?_;rintro j z M aJ μ hj ⟨f,G,r,l,o,w,N,aS,W,fM,g,zM⟩ aA
  have I:=e.em.j7 e.x fM;have ae:=w.pP;have ay:=w.dd;have aE:=N.cF;have C:z.bt≠d:=N.ne o.bU cH;have Qm:z.bt≠f.bt:=N.Qm o.gr cH;have aD:=jK r;have ap:=w.sz;have aO:=Yh dA j;refine dit (λi=>?_) λi=>?_
  .let⟨u,he⟩:=dY dA j;let⟨aC,hu,k0,k1,k2⟩:=U7 hk he I;have aP:=Pb he;have az:=Yh dA (j+1);have aU:=u.SG;have an:=WT (dA.take j);rw[qZ,mK V]at an;refine⟨V,V,_,k0,_,k1,_,k2,?_⟩;have SM:=st o fM V (dH (m:=F) e.j7 V aE.2) V;refine(ih u (ba he) (z.bt::v) m0 M d f (aa++r) G RC ev ai aj aC SM (by have:=P.2 j u he;rwa[afo V V]at this) V V fu hd ht hu).aP λU Q⟨aB,er,s4,l4,av,Z,⟨ar,ac,w4,R,r1⟩,A,b4⟩=>⟨fg zM g A,aB,er,?_⟩;subst ac;have z4:=A.aQ;have F4:=fr fM g A;intro m5;have T:GI [] s Q z l:=GI.jS (c:=[d,f.bt]) ((GI.jS (g:=[d,f.bt]) N).P9 yD.aP A (λ_ i=>i) (by simp;exact⟨C,Qm⟩));have aq:z.bt≠s4.bt:=T.Qm Z.gr cH;refine GI.nI T (X:=List.range s.size) ⟨V,λa g hn=>absurd (rf.2 g) hn⟩ V λa' c g' f' z' q'=>?_;have K:Fz [z.bt] Q c:=⟨z'.1,λa g hn=>q' a g (sp hn)⟩;refine⟨λa g=>?_,aA V _ _ ⟨s4,av,r++ar,l++[aB],?_,(w.N w4).iQ V V,g',fu,λy h=>?_,F4.wE K λy h=>by simp at h⊢;omega,V,V⟩⟩
   .simp at g;rw[q' a V V,(J.push Q _).bB a V]
   .rw[<-nF];exact Z.re K (by simp;exact⟨C,aq⟩) λa g=>(aZ.1 g).elim (λu=>by subst u;rcases z'.2 with u|u;exact bz (by simp[u]);exact bH u) λi=>bz (aX _ i)
   .have:=w4.dd;rcases bT.1 h with h|h
    .have:=W y h;omega
    .simp at h;omega
  .have L:j=dA.length:=V;subst L;rw[fB]at w ae ap;have an:=WT dA;intro Q;have k:=px Q;have T:z.bt∉f.bt::d::v:=by
    simp only[aZ,CL];exact⟨Qm,C,λi=>oh (e.j7 _ i)⟩
   have ha:bg (di (f.bt::d::v) M) z l:=(GI.jS (g:=f.bt::d::v) N).sa yD.aP T cH V;have Z:Ps v m0 M d f (aa++r) G:=o.re (Fz.cX [] _) bO λa g=>bz (aX _ g);have z4:=k.aQ;refine(QP (x:=⟨p,cG,0,l,[]⟩) (Z.ext k) (I.N k).aQ (ha.le k.eX) pZ fu V).aP λU m5⟨R,s5,l5,ac,o5,⟨A,K⟩,u,b5⟩=>⟨fg V g u,G,R,G,O,s5,l5,ac,o5,⟨r++[⟨p,cG,0,l,[]⟩],by rw[A,nF],?_,V,V⟩,fr (fM.cg k) g u,V⟩;have ws:WS q nf False G ⟨p,cG,0,l,[]⟩:=⟨⟨bz (by show 0<=p/\p<=11;omega),W,λi=>by simp only at i;omega,⟨by show(0:Int)<=0;omega,by show(0:Int)<=_;omega⟩,λi=>by simp only at i;omega,λi=>by simp only at i;omega,P.1.jt⟩,bO⟩;subst K;exact(w.N (LW.mE ws)).iQ (by rw[eQ.pN];simp only[Et];omega) V
def aau{a:af}{c:Nat}:∀e:Ex,abb a c e:=Ex.ind λ_ _ _ b=>aat b
end
def Na{r:ad}{u:D}(hS:∀d∈r,d<u.size){P ai:E}{H:af}{L:aJ}(hd:dw u P H)(hp:adr u ai L)(aa:adw H L):zI 242 [.agg #[E.v P,E.v ai]] u r H λrs=>Da H rs False 95:=by
 apply FZ;simp -zeta only[kU,nQ];have ht:=xE aa.gp.ds;intro j a2;let⟨F,hl⟩:=fV (a:=j) (c:=a2) O O;have s1:=pz j;have aI:=hp.aT;have aU:L.length<=4:=by have:=aa.gp.pP;simpa using this
 have aT:0<L.length:=by have:=aa.gp.iY;simpa using this
 refine(jz (b:=j.size::r) (dH hS F.aQ (hl _ bO)) (hd.le F.le) ht).aP λ_ aq⟨dd,e,aF,x3⟩=>?_;subst e;refine⟨x3.fg hl,_,O,?_⟩;intro k aN aA;have u2:=F.N x3;let⟨x5,B0,g0,s3,s5⟩:=ov (b:=k.size::j.size::r) lz.aP (d:=aq) (a:=k) (c:=aN) (j:=aA) O O O;clear_value aA;have ag:∀d∈[j.size,u.size],d<aq.size:=λd g=>x3.lt (hl d g);have ay:∀d∈j.size::r,d<aq.size:=λd g=>x3.lt (dH hS F.aQ (hl _ bO) d g);refine nV (R:=λb c z=>∃P N rs,Value.agg #[E.v b,E.v c]=.agg #[E.v P,E.v N]/\iD (di r z) P N H rs/\Da H rs False 95/\J u z) lz.aP cH cH hS ⟨V,ag _ bO⟩ u2 s3 aF aI V x5 B0 g0 (λ_ q=>q.aY.length<=3/\q.cW.length<=3/\WB H L.length False q.aY.length q.eZ/\q.eZ.w<=95) (λb o l' m' Y Z c f h=>⟨b,o,l',O,⟨Y,Z,ht,V⟩,⟨V,λq hq=>by obtain⟨n,l⟩:=db.1 hq;rw[c];exact f n q l⟩,h⟩) λac z y l' aD μ aG aQ xM aw aj aO=>?_
 let⟨q,hq⟩:=dY L ac aG;let⟨aM,aR⟩:=aa.Mi q (ba hq);have aK:q.1.aY.length<=3:=(Bu _ (aa.gp.eR q.1 (fA.2 ⟨q,ba hq,O⟩))).1;have T:=u2.N xM;obtain⟨cs,⟨an,aC,rfl,ha,hk⟩,hr⟩:=hp.kv ac q hq;have az:=ha.aT;refine⟨V,V,_,T.aS (hr 0 _ O),_,T.aS (hr 1 _ O),_,T.aS (hr 2 _ O),_,T.aS (hr 3 _ O),_,T.aS (hr 4 _ O),?_⟩;intro m7 l;have hy:=aw.cF;have aP:=aj.lt;obtain⟨x8,-,s8⟩:=kZ (a:=l) O O O;clear_value l;have Q:∀d∈[z.size,j.size,u.size],d<l.size:=λd g=>by
  rcases aZ.1 g with e|e
  .omega
  .have:=ag d e;omega
 have w8:=T.N x8;have ae:∀{o:D},l.size<=o.size->∀d∈y.bt::k.size::j.size::r,d<o.size:=λax d g=>by
  simp only[aZ]at g;rcases g with e|e|e|e
  .omega
  .omega
  .have:=ay d (by simp[e]);omega
  .have:=ay d (by simp[e]);omega
 have aB:∀{o:D},J l o->∀{am:ak},(∀w v f,bg f w v->v.length=q.1.aY.length->(∀b∈v,0<=b/\b<(q.1.aY.length:Int))->J o f->am (E.v w) f)->bJ dP 189 [vi 0,vi (an.len:Int)] o am:=λ{o} x am hk'=>by
  rw[az];exact(pA (S:=[]) bO 0 q.1.aY.length V).aP λau f⟨w,v,e,gn,qn,xn⟩=>by
   subst e;exact hk' w v f ((GI.cB gn bO V).le fJ) qn.2 (λb hy=>oh (qn.1 b hy)) xn
 have j7:∀{o:D}{av:ad}{w:E}{v:ab},(∀d∈av,d<o.size)->J l o->bg o w v->v.length=q.1.aY.length->(∀b∈v,0<=b/\b<(q.1.aY.length:Int))->rJ 256 [.agg #[E.v P,E.v ai],.agg #[vi q.2.op,vi q.2.cG,E.v aC],E.v w,vi (an.len:Int)] o av λA=>WB H L.length False q.1.aY.length A/\A.w<=3*q.2.n:=λaE x U Y Z=>by
  rw[az];exact Iy (aau q.2) _ _ q.1.aY.length _ _ P ai aC aE U Z ((Y▸aM)) V V (hd.le (w8.N x).le) ht (jr.le (w8.N x).le hk)
 have G:∀{s f:D}{A W:Nat},l.size<=s.size->J s f->A<l.size->aS f A W=aS s A W:=λax x hb=>gl x V;have h:z.size<l.size:=V;have B:u.size<l.size:=Q _ bO;refine⟨λA o=>∃p bt,A.2=0/\l.size<=A.1/\dJ o A.1 ft [.s p,.i bt.bP]/\iI (di (y.bt::k.size::j.size::r) o) p bt.bq/\(WB H L.length False q.1.aY.length bt/\bt.w<=3*q.2.n)/\J l o,⟨?_,?_⟩,?_⟩
 .refine aB (J.cX l) λw v I U X ah b=>⟨b.fg Q,w,O,G bY b h,G bY b h,G bY b h,G bY b B,G bY b B,?_,?_⟩;all_goals have n:=b.aQ
  .refine(j7 (ae n) b U X ah).aP λau C⟨p,bt,e,ar,aH,c⟩=>⟨c.fg λd g=>b.lt (Q d g),p,_,e,?_⟩;have C8:=c.aQ;intro K;have t:=px K;refine⟨G V t h,G V t h,G V t h,G V t B,G V t B,?_⟩;intro ap;let⟨al,ao,aL⟩:=kZ (M:=C) (c:=K) (a:=ap) O O O;exact⟨p,bt,O,V,ao,iI.le al.eX ar,aH,(b.N c).N al⟩
  .intro C;have c:=px C;have al:dJ C I.size ft [.s .nil,.i 0]:=dJ.push _ _ _;have C8:=c.aQ;clear_value C;refine⟨G n c h,G n c h,G n c h,G n c B,G n c B,?_⟩;refine(j7 (dH (ae n) C8 al.lt) (b.N c) (U.ext c) X ah).aP λau K⟨p,bt,e,ao,ar,t⟩=>⟨t.fg λd g=>?_,p,_,e,?_⟩
   .rcases aZ.1 g with e|e
    .rw[e];exact al.lt
    .have:=Q d e;omega
   intro ap;exact⟨p,bt,O,n,dJ.aW (m:=K) (al.ext t),iI.le (dU bO λd g=>aX _ g) ao,ar,((b.N c).N t).aW n _ _⟩
 .intro I;have b:=px I;have B9:dJ I l.size ft [.s .nil,.i 0]:=dJ.push _ _ _;have n:=b.aQ;clear_value I;refine⟨G bY b h,G bY b h,G bY b h,G bY b B,G bY b B,?_⟩;have sm:∀{s f:D},I.size<=s.size->J s f->gT [l.size,z.size,j.size,u.size] s f:=λax x=>x.fg λd g=>by
   rcases aZ.1 g with e|e
   .have:=B9.lt;omega
   .have:=Q d e;omega
  refine aB b λw v C U X ah c=>⟨sm bY c,w,O,G n c h,G n c h,G n c h,G n c B,G n c B,?_⟩;have C8:=c.aQ;refine(j7 (av:=l.size::y.bt::k.size::j.size::r) (dH (ae (o:=C) V) bY (oh B9.lt)) (b.N c) U X ah).aP λau K⟨p,bt,e,ao,ar,t⟩=>⟨sm C8 t,p,_,e,?_⟩;intro ap;exact⟨p,bt,O,bY,dJ.aW (m:=K) ((B9.ext c).ext t),iI.le (dU bO λd g=>aX _ g) ao,ar,((b.N c).N t).aW bY _ _⟩
 rintro⟨kb,W⟩ s ⟨p,bt,ho,aH,BB,aL,ap,x1⟩;simp only at ho aH BB;subst ho;have bl:=BB.lt;have z1:=x1.aQ;have X:=x8.N x1;refine⟨y,(aj.ext X).dg 1,_,BB.dg 0,_,BB.dg 1,?_⟩;have ah:k.size<l.size:=V;have jX:∀{f:D}{K b':E},J s f->bg (di (y.bt::k.size::j.size::r) f) K q.1.aY->bg (di (y.bt::k.size::j.size::r) f) b' []->aS (f.push (.cells (dh [.s K,.s b',.i q.1.bP,.s p,.i bt.bP]) mP)) k.size 1=aS f k.size 1/\
  mf (f.push (.cells (dh [.s K,.s b',.i q.1.bP,.s p,.i bt.bP]) mP)) mP [.s .nil,.s .nil,.i 0,.s .nil,.i 0] 88 y (E.mk f.size 0 1 1) λN t=>gT [z.size,j.size,u.size] (f.push (.cells (dh [.s K,.s b',.i q.1.bP,.s p,.i bt.bP]) mP)) t/\gK t k.size 1 1/\(gT [z.size,j.size,u.size] t (aW t k.size 1 [.s N])/\(aD (eV ((ac:Int)+1)) (aW t k.size 1 [.s N])/\μ (eV ((ac:Int)+1)) (aW t k.size 1 [.s N])<μ ac z)):=λF Y Z=>
  Gr.bU (h:=[.s .nil,.s .nil,.i 0,.s .nil,.i 0]) (j:=1) (w:=88) (o:=[.s dd,.s y]) (v:=⟨q.1.aY,[],q.1.bP,bt⟩) lz.aP cH ((aw.ext lz.aP X).ext lz.aP F) (((xM.N X).N F).fz []) ⟨_,_,p,O,Y,Z,iI.le F.eX aL⟩ V ((aj.ext X).ext F) bO cH ⟨V,bO⟩ (λd g=>⟨by have:=Q d g;have:=F.aQ;omega,by
   rcases aZ.1 g with e|e
   .omega
   .have:=ag d e;omega,by
   rcases aZ.1 g with e|e
   .omega
   .have:=ag d e;omega⟩) λN m' g' B' f' z' q'=>aO N m' ⟨q.1.aY,[],q.1.bP,bt⟩ g' B' f'.ext ⟨aK,bO,ap.1,by have:=ap.2;show bt.w<=95;omega⟩
 have ao:∀{f:D},J s f->bg f an q.1.aY:=λx=>ha.ext ((T.N X).N x);have al:∀{f:D},J s f->∀d∈y.bt::k.size::j.size::r,d<f.size:=λx=>ae (oh x.aQ);have g1:∀{f t:D}{W:Nat},J s f->J f t->aS t kb W=aS f kb W:=λx x'=>gl x' (oh x.aQ);have ar:∀{f t:D},J s f->J f t->gT [z.size,j.size,u.size] f t:=λx x'=>x'.fg λd g=>by have:=Q d g;have:=x.aQ;omega
 refine⟨?_,?_⟩
 .refine(dF (y.bt::k.size::j.size::r) (ao dt) V).aP λ_ I⟨K,la,e,ga,ea,b⟩=>⟨ar dt b,K,e,g1 dt b,g1 dt b,G z1 b h,G z1 b ah,?_⟩;subst ea;have n:=b.aQ;intro C;have c:=px C;refine⟨g1 b c,g1 b c,G V c h,G V c h,G V c ah,?_⟩;exact jX (b.N c) ((GI.cB ga (al dt) V).le c.eX) pZ
 .intro I;have b:=px I;have n:=b.aQ;refine⟨g1 dt b,g1 dt b,G z1 b h,G z1 b h,G z1 b ah,?_⟩;refine(dF (y.bt::k.size::j.size::r) (ao b) V).aP λ_ C⟨K,la,e,ga,ea,c⟩=>⟨ar b c,K,e,g1 b c,g1 b c,G V c h,G V c ah,?_⟩;subst ea;exact jX (b.N c) (GI.cB ga (al b) V) pZ
section
variable{L:ad}{K:Int->D->Prop}{v:Int}
def IQ(P:Nat->Prop)(l b:List Instr)(n:Nat):Prop:=∃a,b=l++a/\(∀(i:Nat)(x:Instr),a[i]? =some x->Rx (l.length+i) x\/P (l.length+i)/\x.op=22)/\Wx a/\a.length<=n
section
variable{P c:Nat->Prop}{l a e:List Instr}{n b k:Nat}{x:Instr}
def qE.w(h:qE l a n):IQ P l a n:=let⟨g,b,c,d,e⟩:=h;⟨g,b,λi x f=>bz (c i x f),d,e⟩
def IQ.aeq(h:IQ P l a n)(f:∀q,¬P q)(m:n<=b):qE l a b:=let⟨j,c,d,e,k⟩:=h;⟨j,c,λi x g=>(d i x g).resolve_right λh=>f _ h.1,e,V⟩
def IQ.NI(h:IQ P l a n)(g:∀q,P q->c q)(o:n<=b):IQ c l a b:=let⟨k,d,e,f,m⟩:=h;⟨k,d,λj x i=>(e j x i).imp id λh=>⟨g _ h.1,h.2⟩,f,V⟩
def IQ.aT(h:IQ P l a n):l.length<=a.length/\a.length<=l.length+n:=by obtain⟨b,rfl,-,-,d⟩:=h;simp;omega
def IQ.cg(h:IQ P l a n)(f:qE a e b):IQ P l e (n+b):=by
 obtain⟨i,rfl,k,c,o⟩:=h;obtain⟨j,rfl,m,d,p⟩:=f;refine⟨i++j,bO,λr x q=>?_,λx g=>(bT.1 g).elim (c x) (d x),fu⟩;grind [Nat.lt_or_ge,List.length,List.getElem?_append_left,List.getElem?_append_right]
def IQ.yJ(h:IQ P l a n)(i:P a.length):IQ P l (a++[⟨22,0,0,0,[],[]⟩]) (n+1):=by
 obtain⟨d,rfl,e,c,f⟩:=h;refine⟨d++[⟨22,0,0,0,[],[]⟩],bO,λj x g=>?_,λx b=>?_,fu⟩
 .grind [Nat.lt_or_ge,List.length,List.getElem?_append_left,List.getElem?_append_right,bC]
 .rcases bT.1 b with h|h
  .exact c x h
  grind
def IQ.eE(h:IQ P l a n)(b:l.length<=k)(m:Rx k x)(e:x.aO.length<=10^12/\x.fU.length<=10^12):IQ (λq=>P q/\q≠k) l (a.set k x) n:=by
 obtain⟨g,rfl,i,c,d⟩:=h;refine⟨g.set (k -l.length) x,by rw[List.set_append_right _ _ b],λo y j=>?_,λy f=>?_,fu⟩
 .grind [List.length]
 .rcases iX f with h|h
  .exact c y h
  .rw[h];exact e
def IQ.aim(h:IQ P l a n)(c:l.length<=k)(b:a[k]? =some x):IQ (λq=>P q/\q≠k) l (a.set k ⟨x.op,0,a.length,0,x.aO,x.fU⟩) n:=by
 have m:=bC b;have f:=h;obtain⟨i,rfl,d,e,j⟩:=h;rw[dQ c]at b;have g:=d _ x b;rw[show l.length+(k -l.length)=k by omega]at g;refine f.eE c ⟨λ_=>by show(k:Int)<((l++i).length:Nat);omega,λh=>?_⟩ (e x (ba b));grind [Rx.arg]
end
section
variable{S:ad}{e m a:D}{b:Nat}{s c:E}{l d:List Instr}
def Ee.re{S' Y:ad}(h:Ee S e m b s l)(g:Fz Y m a)(f:∀c∈Y,c∈S/\c≠b/\c≠s.bt)(d:∀c∈S',c∈S\/m.size<=c):Ee S' e a b s l:=
 by constructor<;>grind [Ee.bU,dJ.congr,Fz.bB,dJ.lt,Ee.gr,Gr.re,eW.aP,List.mem_cons_of_mem,List.mem_cons_self,Ee.up]
def MC(k:Ee S e m b s l)(z:J e m)(w:∀h∈S,h<m.size)(n:l.length<=10^12)(u:∀f∈L,f<m.size/\f≠b/\f≠s.bt){o i cG:Int}(y:∀c d a,Ee S e a b c d->d=l++[⟨o,i,cG,0,[v],[]⟩]->Fz [b,s.bt] m a->(c.bt=s.bt\/m.size<=c.bt)->K (l.length:Nat) a):
 bJ dP 191 [vp b 0,.agg #[vi o,vi i,vi cG,vi 0,E.v (.mk m.size 0 1 1),E.v .nil]] (m.push (.cells (dh [.i v]) bG)) λr a=>gT L (m.push (.cells (dh [.i v]) bG)) a/\∃q:Int,r=vi q/\K q a:=by
 have g:=J.push m (.cells (dh [.i v]) bG)
 have D:=k.gr.cF;have C:=k.bU.lt
 have A:bg (di (s.bt::b::S) (m.push (.cells (dh [.i v]) bG))) (.mk m.size 0 1 1) [v]:=bg.jY bG (by
  intro h p;simp only[aZ]at p;rcases p with j|j|j
  .omega
  .omega
  .exact w h j) O O bO
 refine(vg (x:=⟨o,i,cG,0,[v],[]⟩) (k.ext g) (z.N g).aQ A xW n).aP λr a⟨p,c,d,t,j,h,B⟩=>⟨UA.fg h λf n=>?_,_,p,?_⟩
 .have:=u f n;exact⟨g.lt this.1,this.2⟩
 exact y c d a t j.symm (((g.fz [b,s.bt])).N h) (oh g.aQ)
def aao(j:Ee S e m b s l)(t:J e m)(p:l.length<=10^12)(o:∀f∈L,f<m.size/\f≠b/\f≠s.bt)(q:∀c d a,Ee S e a b c d->d=l++[⟨22,0,0,0,[],[]⟩]->Fz [b,s.bt] m a->(c.bt=s.bt\/m.size<=c.bt)->K (l.length:Nat) a):
 bJ dP 191 [vp b 0,.agg #[vi 22,vi 0,vi 0,vi 0,E.v .nil,E.v .nil]] m λr a=>gT L m a/\∃n:Int,r=vi n/\K n a:=
 (vg (x:=⟨22,0,0,0,[],[]⟩) j t.aQ xW xW p).aP λr a⟨i,c,d,k,h,f,g⟩=>⟨UA.fg f o,_,i,q c d a k h.symm f g⟩
def ZU{K:D->Prop}{k:Nat}{x:Instr}(i:Ee S e m b s l)(q:J e m)(p:l[k]? =some x)(n:∀f∈L,f<m.size/\f≠b/\f≠s.bt)(o:∀c d a,Ee S e a b c d->d=l.set k ⟨x.op,0,l.length,0,x.aO,x.fU⟩->Fz [b,s.bt] m a->(c.bt=s.bt\/m.size<=c.bt)->K a):
 bJ dP 240 [vp b 0,vi k] m λ_ a=>gT L m a/\K a:=
 (Xw i q.aQ p).aP λr a⟨c,d,j,h,f,g⟩=>⟨UA.fg f n,o c d a j h.symm f g⟩
end
def Xj{l:List Instr}{d:Int}:qE l (l++[⟨18,d,0,0,[v],[]⟩]) 1:=qE.mE ⟨sx,λ_=>bO⟩ bO
end
section
variable{b:List jV}
def QR{G:af}{h:eQ}(ch:h.op=7\/h.op=8)(ih:∀c∈h.dA,adm G b c):ad5 G b h:=by
 intro C I H d s z cons first cl fl aO aY ay ai j ao co cy t ha hk
 apply yP (d,0);simp -zeta only[dT];intro ax ag;let⟨x2,hl⟩:=fV (a:=ax) (c:=ag) O O;have s1:=pz ax;have s2:ag.size=H.size+2:=by simp[ag,s1]
 have cr:=j.em.bU.lt;have cI:=j.em.gr.cF;have cG:=eQ.pN h;have ci:=ha.aT;have cx:=hk.aT;have cw:=xG h.dA;have cB:=ao.iU.mE V;have cp:=j.dV.aT;have eX:∀{g:D}{f:E},Fz [d,s.bt] H g->(f.bt=s.bt\/H.size<=f.bt)->Le (di [s.bt,d] H) (di [f.bt,d] g):=WR;have st:∀{aN:ad}{g:D}{f:E}{P:List Instr},Ee aN I g d f P->Fz [d,s.bt] H g->(f.bt=s.bt\/H.size<=f.bt)->(∀l∈aN,l<g.size)->YQ aN I g d f P cons first cl fl:=λv L e hS=>⟨v,j.em.j7 j.x L,hS,j.dV.le (eX L e),j.first.le (eX L e),j.bB,j.pJ⟩
 have LL:∀{g:D}{f:E},ag.size<=g.size->(f.bt=s.bt\/ag.size<=f.bt)->∀c∈[ax.size,H.size],c<g.size/\c≠d/\c≠f.bt:=λhz e c aQ=>by simp at aQ;omega
 have fr:∀{g r:D}{f:E},Fz [d,s.bt] H g->(f.bt=s.bt\/ag.size<=f.bt)->Fz [d,f.bt] g r->Fz [d,s.bt] H r:=λL e aa=>L.wE aa λB p=>by simp at p⊢;omega
 have j7:∀{g:D},H.size<=g.size->∀l∈C,l<g.size:=λi l hc=>by have:=j.j7 l hc;omega
 have aw:∀{w:Nat}{c:Bk}{g:D},h.dA[w]? =some c->J I g->∃N,iI I N c.bq/\aS g ai.bt (ai.off+w*2)=some N.v/\aS g ai.bt (ai.off+w*2+1)=some (vi c.bP):=λe a6=>let⟨N,h1,h2,h3⟩:=hk.br e;⟨N,h1,a6.aS h2,a6.aS h3⟩;refine⟨λh7=>?_,λh7=>?_⟩
 .simp only[bQ]at h7;have aD:=ao.iU.Nv h7;let⟨F,R⟩:=dY h.dA 0;let⟨b1,U⟩:=dY h.dA 1;have bJ:bw h.dA=F.w+b1.w:=by
   obtain⟨u,y,m⟩:∃u y,h.dA=[u,y]:=by
    match h.dA,aD with
    |[u,y],_=>exact⟨u,y,O⟩
   rw[m]at R U⊢;simp at R U;subst R U;simp[bw]
  have w0:=F.Oj;have w1:=b1.Oj;have ac:∀w,GK G h.op h.cG w=0:=λw=>Pz V;have E2:=j.ext x2;refine(dF (s.bt::d::C) (ha.ext E2.x) V).aP λy Q⟨a',la,m,ga,ea,x3⟩=>⟨x3.fg hl,a',m,?_⟩;subst ea;have z3:=x3.aQ;have aE:∀l∈s.bt::d::C,l<ag.size:=dH (dH (j7 (g:=ag) V) V V) bY V;refine(vg (x:=⟨20,0,0,0,h.aO,[]⟩) (E2.em.ext x3) (E2.x.N x3).aQ (GI.cB ga aE (by show h.aO.length<=_;omega)) xW V).aP λy m4⟨ev,s4,l4,an,p4,f4,b4⟩=>⟨UA.fg f4 (LL z3 (bz O)),_,ev,?_⟩;subst p4;have z4:=f4.aQ;have F4:Fz [d,s.bt] H m4:=((x2.N x3).fz _).N f4;have w4:IQ (λ_=>False) z (z++[⟨20,0,0,0,h.aO,[]⟩]) 1:=(qE.mE ⟨sx,sx⟩ ⟨by show h.aO.length<=_;omega,bO⟩).w;let⟨t0,aF,g0,g1⟩:=aw R (j.em.j7 j.x F4);refine⟨cH,V,_,g0,_,g1,?_⟩;have ae:=ao.dA 0 F R;rw[ac]at ae;have aI:=w4.aT;refine(ih F (ba R) C I m4 d s4 _ cons first cl fl aO aY t0 (st an F4 V (j7 V)) (sp ae) V V t aF).aP λy A⟨s5,l5,aP,p5,f5,b5⟩=>⟨UA.fg f5 (LL V V),?_⟩;have F5:=fr F4 V f5;have z5:=f5.aQ;have w5:=w4.cg p5;have X5:=j.em.j7 j.x F5;obtain⟨_,-,-,g5⟩:=aw R X5;refine⟨cH,V,_,g5,?_⟩;have aJ:=w5.aT;refine MC aP X5 (j7 V) V (LL V V) λs6 T m6 ap e6 f6 b6=>?_;have F6:=fr F5 V f6;have z6:=f6.aQ;have w6:IQ (λ_=>False) z T (1+6*(F.w -1)+1):=e6▸w5.cg Xj;have aM:=w6.aT;have aR:T.length=l5.length+1:=by rw[e6];simp
  have X6:=j.em.j7 j.x F6;refine aao ap X6 V (LL V V) λs7 l7 m7 aq e7 f7 b7=>?_;have F7:=fr F6 V f7;have z7:=f7.aQ;have w7:IQ (λq=>q=T.length) z l7 (1+6*(F.w -1)+1+1):=e7▸(w6.NI (λ_ i=>i.elim) bY).yJ O;have aT:l7.length=T.length+1:=by rw[e7];simp
  let⟨K,ak⟩:=dY l7 z.length;refine ZU aq (j.em.j7 j.x F7) ak (LL V V) λs8 l8 m8 av e8 f8 b8=>?_;have w8:IQ (λq=>q=T.length) z l8 (1+6*(F.w -1)+1+1):=e8▸(w7.aim bY ak).NI (λ_ i=>i.1) bY;have aU:l8.length=l7.length:=by rw[e8];simp
  have W:=fr F7 V f8;have z8:=f8.aQ;let⟨t1,aH,k0,k1⟩:=aw U (j.em.j7 j.x W);refine⟨cH,V,_,k0,_,k1,?_⟩;have ah:=ao.dA 1 b1 U;rw[ac]at ah;refine(ih b1 (ba U) C I m8 d s8 l8 cons first cl fl aO aY t1 (st av W V (j7 V)) (sp ah) V V t aH).aP λy m9⟨s9,l9,aB,p9,Y,b9⟩=>⟨UA.fg Y (LL V V),?_⟩;have F9:=fr W V Y;have z9:=Y.aQ;have w9:=w8.cg p9;have X9:=j.em.j7 j.x F9;obtain⟨_,-,-,g9⟩:=aw U X9;refine⟨cH,V,_,g9,?_⟩;have bP:=w9.aT;have aV:l8.length<=l9.length:=by obtain⟨nw,m,-⟩:=p9;rw[m];simp
  refine MC aB X9 (j7 V) V (LL V V) λbl Z aW al az au br=>?_;have aL:IQ (λq=>q=T.length) z Z (1+6*(F.w -1)+1+1+6*(b1.w -1)+1):=az▸w9.cg Xj;have ar:=fr F9 V au;have C8:=au.aQ;have bS:Z.length=l9.length+1:=by rw[az];simp
  let⟨a4,aj⟩:=dY Z T.length;refine ZU al (j.em.j7 j.x ar) aj (LL V V) λaK aC a0 am aG aA bs=>?_;exact⟨aK,aC,am,aG▸(aL.aim V aj).aeq (λq i=>i.2 i.1) V,fr ar V aA,V⟩
 .simp only[bd]at h7;have h8:h.op=8:=V;let⟨cv,cu⟩:=ao.iU.lZ h8;let⟨B,bf⟩:=dY h.aO 0;let⟨y0,y1⟩:=ao.iU.aO B (ba bf);obtain⟨yn,rfl⟩:∃bV:Nat,B=bV:=⟨B.toNat,V⟩;have E2:=j.ext x2;refine⟨cH,V,yn,(ha.ext E2.x).br bf,?_⟩;have bU:∀l∈[s.bt,d],l<ag.size:=λl hc=>by simp at hc;omega
  refine(kA (e:=[s.bt,d]) bU (t.bR.le E2.x.le) t.dj h.cG).aP λy Q⟨aF,cb,ec,hc,qc,x3⟩=>⟨x3.fg hl,aF,ec,?_⟩;subst qc;have cq:=hc.aT;have z3:=x3.aQ;intro m4;refine MC (E2.em.ext x3) (E2.x.N x3) (j7 V) V (LL z3 (bz O)) λs5 l5 A aP e5 f5 b5=>?_;have z5:=f5.aQ;have w5:IQ (λ_=>False) z l5 1:=e5▸(qE.mE ⟨sx,sx⟩ ⟨bO,bO⟩).w;have cN:l5.length=z.length+1:=by rw[e5];simp
  intro m6 m7;obtain⟨x6,s6⟩:=pu m6;obtain⟨x7,s7⟩:=pu m7;have bD:GI [] A m7 (.mk A.size 0 0 0) []:=(GI.gF [] A).ext x7;have bB:GI [] A m7 (.mk m6.size 0 0 0) []:=GI.de (GI.gF [] m6) (λ_ i=>i) x6.aQ;have a7:=x6.N x7;have av:∀{g r:D}{f:E},Fz [d,s.bt] Q g->(f.bt=s.bt\/Q.size<=f.bt)->Fz [d,f.bt] g r->Fz [d,s.bt] Q r:=λL e aa=>L.wE aa λB p=>by simp at p⊢;omega
  have F0:Fz [d,s.bt] H Q:=(x2.N x3).fz _;have a8:∀{g:D}{f:E}{w:Nat}{l:Int},Fz [d,s.bt] Q g->(f.bt=s.bt\/Q.size<=f.bt)->(cY G h.cG)[w]? =some l->aS g aF.bt (aF.off+w*1)=some (vi l):=λ{g f w l} L e i=>(gY.1 ((hc.le (mH (c:=[f.bt,d]) (a:=g) λc aQ t=>by
   simp at t;exact⟨by simp;rcases e with m|m<;>omega,L.bB c aQ fu⟩)).br i)).2
  have bn:∀{g:D},A.size<=g.size->Fz (List.range A.size) A g:=λi=>⟨i,λc e t=>absurd (rf.2 e) t⟩;have aj:∀{g r:D}{u:E}{ul:ab}{aE:ad},GI [] A g u ul->Fz aE g r->u.bt∉aE->GI [] A r u ul:=λ{g r u ul aE} aa L i=>GI.jS ((GI.jS (g:=aE) aa).P9 yD.aP L (λ_ i=>i) i);have o7:Ee (A.size::m6.size::C) I m7 d s5 l5:=aP.re (a7.fz []) bO λc e=>by
   grind
  refine BC (j:=(cY G h.cG).length) V (λai N en g=>∃f P tl F,Ee (N.bt::en.bt::C) I g d f P/\IQ (λq=>(q:Int)∈F) z P (1+6*bw (h.dA.take ai))/\GI [] A g N tl/\tl.length=ai/\GI [] A g en F/\F.length<=ai/\(∀B∈F,∃q:Nat,B=q/\z.length<q/\q<P.length)/\N.bt≠en.bt/\Fz [d,s.bt] Q g/\(f.bt=s.bt\/Q.size<=f.bt)/\m7.size<=g.size/\z.length<P.length)
   ⟨s5,l5,[],[],o7,w5.NI (λ_ i=>i.elim) bO,bD,O,bB,bY,bO,by show A.size≠m6.size;omega,f5.cg a7,V,bY,V⟩ ?_
  rintro W N en g b_ μ hj ⟨f,P,tl,F,v,a4,gt,cD,ge,ct,aT,cA,L,e,zM,cz⟩ bi
  have b8:=F0.N L;have ty:=gt.cF;have ey:=ge.cF;have t1:N.bt≠d:=gt.ne v.bU cH;have t2:N.bt≠f.bt:=gt.Qm v.gr cH;have n1:en.bt≠d:=ge.ne v.bU cH;have n2:en.bt≠f.bt:=ge.Qm v.gr cH;have cC:=v.gr.aT cH;have cF:=a4.aT;have bJ:=XY h.dA W;have oy:=v.gr.cF;have cP:=v.bU.lt;refine dit (λi=>?_) λi=>?_
  .let⟨l,aR⟩:=dY (cY G h.cG) W;let⟨c,aB⟩:=dY h.dA W;have cm:=zd aB;have cn:=XY h.dA (W+1);have ck:=c.Oj;have bc:GK G h.op h.cG W=(da G l).length:=Py h8 aR;have cj:=WH t.dj h.op h.cG W;refine⟨f,v.bU.dg 0,?_⟩;intro m8;refine GI.nI gt (bn V) V λt' M1 aH cd z1 q1=>?_;have fa:Fz [N.bt] g M1:=⟨z1.1,λc e t=>q1 c e (sp t)⟩;refine⟨λc e=>by
    simp at e;rw[q1 c V V,(J.push g _).bB c V],?_⟩
   have f1:Fz [d,s.bt] Q M1:=L.wE fa λB p=>by simp at p⊢;omega
   have bA:=aj ge fa fu;have o1:Ee (t'.bt::en.bt::C) I M1 d f P:=v.re fa (by simp;exact⟨t1,t2⟩) λc e=>by
    rcases aZ.1 e with m|m
    .grind
    .exact bz (aX _ m)
   have b0:=aH.cF;refine⟨V,V,l,a8 f1 e aR,?_⟩;have X1:=j.em.j7 j.x (F0.N f1);refine(fX (e:=[]) (t.bR.le (X1.le.N ER)) t.dj l).aP λy M2⟨ff,cg,ef,hf,qf,aD⟩=>⟨aD.fg λc e=>by simp at e;omega,ff,ef,?_⟩;subst qf;have bK:=hf.aT;have z2:=aD.aQ;have f2:=f1.cg aD;refine iC (n:=(da G l).length) V (λw r=>∃aq ap,Ee (t'.bt::en.bt::C) I r d aq ap/\IQ (λq=>(q:Int)∈F) z ap (1+6*bw (h.dA.take W)+w)/\Fz [d,f.bt] M2 r/\(aq.bt=f.bt\/M2.size<=aq.bt)/\P.length<=ap.length) ⟨f,P,o1.ext aD,a4,nR,bz O,bY⟩ ?_;rintro w M3 I3 μ3 hi ⟨ae,l3,o3,w3,f3,b3,cK⟩ bW;have cS:=f3.aQ;have F3:=av f2 e f3;have aI:ae.bt=s.bt\/Q.size<=ae.bt:=V;have cE:=w3.aT;have X3:=j.em.j7 j.x (F0.N F3);have LM:∀{r:D}{u:E},M3.size<=r.size->(u.bt=s.bt\/Q.size<=u.bt)->∀c∈[ax.size,H.size],c<r.size/\c≠d/\c≠u.bt:=λhz e=>LL V V;have aJ:∀{r:D},M3.size<=r.size->∀l∈t'.bt::en.bt::C,l<r.size:=λi=>dH (dH (j7 (g:=M3) V) bY V) i V;refine⟨λaU=>?_,λaU=>?_⟩
   .simp only[bh]at aU;intro m9;refine MC o3 X3 (aJ bY) V (LM bY aI) λs4 l4 M4 o4 e4 f4 b4=>bW V _ ⟨s4,l4,o4,?_,f3.wE f4 λB p=>by simp at p⊢;omega,V,by rw[e4];simp;omega⟩;rw[e4];exact w3.cg (qE.mE ⟨sx,sx⟩ ⟨bO,bO⟩)
   simp only[dK]at aU;have aV:w=(da G l).length:=V;subst aV;have y3:=o3.gr.cF;have ca:=o3.bU.lt;have ac:∀{r:D},M3.size<=r.size->∀l∈[ae.bt,d],l<r.size:=λi l hc=>by simp at hc;omega
   rw[bK];refine(pA (S:=[ae.bt,d]) (ac bY) 0 (da G l).length V).aP λy M4⟨s4,l4,e4,g4,q4,x4⟩=>⟨x4.fg λc e=>by simp at e;omega,s4,e4,?_⟩;have z4:=x4.aQ;have h4:=GI.cB g4 (ac bY) V;let⟨tk,bN,k0,k1⟩:=aw aB (X3.N x4);have F4:=F3.cg x4;have U:∀{u y:D},J M4 u->J u y->∀v,aS y ax.size v=aS u ax.size v/\aS y H.size v=aS u H.size v:=λay c v=>⟨gl c (oh ay.aQ) (o:=v),gl c (oh ay.aQ) (o:=v)⟩;refine⟨V,V,tk,k0,_,k1,V,V,l,a8 F4 aI aR,?_⟩;have S4:=st o3 (F0.N F3) V (aJ bY);have cf:=S4.first.aT;have cQ:=S4.bB;refine(zB (S:=[ae.bt,d]) (ac z4) (S4.dV.le x4.eX) V (a:=yn) V l).aP λy M5⟨s5,cM,e5,g5,q5,R⟩=>⟨R.fg λc e=>by simp at e;omega,s5,e5,gx R k0,gx R k1,(U dt R _).1,(U dt R _).2,(U dt R _).2,?_⟩;have z5:=R.aQ;have h5:=GI.cB g5 (ac z4) (by rw[<-q5];simp;omega);refine(iH (S:=[ae.bt,d]) (ac V) h5 (h4.le R.eX) (by rw[<-q5];simp;omega)).aP λy M6⟨a0,T,e6,g6,q6,ak⟩=>⟨ak.fg λc e=>by simp at e;omega,a0,e6,gx ak (R.aS k0),gx ak (R.aS k1),(U R ak _).1,(U R ak _).2,(U R ak _).2,?_⟩;have z6:=ak.aQ;have am:=R.N ak;have h6:=GI.cB g6 (ac V) (by rw[<-q6,<-q5];simp;omega);refine(zB (S:=[ae.bt,d]) (ac V) (S4.first.le ((x4.N am).eX)) V (a:=yn) V cons.len).aP λy M7⟨bX,l7,e7,g7,q7,ah⟩=>⟨ah.fg λc e=>by simp at e;omega,bX,e7,gx ah (am.aS k0),gx ah (am.aS k1),(U am ah _).1,(U am ah _).2,(U am ah _).2,?_⟩;have z7:=ah.aQ;have an:=am.N ah;have bF:=GI.cB g7 (ac V) (by rw[<-q7];simp;omega);refine(iH (S:=[ae.bt,d]) (ac V) bF (h4.le an.eX) (by rw[<-q7];simp;omega)).aP λy M8⟨s8,l8,e8,g8,q8,K⟩=>⟨K.fg λc e=>by simp at e;omega,s8,e8,gx K (an.aS k0),gx K (an.aS k1),(U an K _).1,(U an K _).2,(U an K _).2,?_⟩;have z8:=K.aQ;have bI:=GI.cB g8 (ac V) (by rw[<-q8,<-q7];simp;omega);have al:=(x4.N an).N K;have be:T.length=cl.length+GK G h.op h.cG W:=by rw[<-q6,<-q5,bc];simp;omega
   have bL:l8.length=T.length:=by rw[<-q8,<-q7,be,bc];simp;omega
   have ES:YQ (t'.bt::en.bt::C) I M8 d ae l3 a0 s8 T l8:=⟨o3.ext al,X3.N al,aJ al.aQ,h6.le ((ah.N K).eX),bI,bL,λB p=>by
    rw[<-q8]at p;rcases bT.1 p with p|p
    .rw[<-q7]at p;rcases iX p with p|p
     .exact j.pJ B p
     .omega
    .have:=q4.1 B p;omega⟩
   have bR:WB G b.length True T.length c:=by rw[be];exact ao.dA W c aB
   refine(ih c (ba aB) _ I M8 d ae l3 a0 s8 T l8 aO aY tk ES bR V V t bN).aP λy M9⟨s9,l9,o9,p9,Y,b9⟩=>⟨UA.fg Y (LM (oh al.aQ) aI),?_⟩;have z9:=Y.aQ;have cT:=al.aQ;have F9:=av (F3.cg al) aI Y;have X9:=j.em.j7 j.x (F0.N F9);have w9:=w3.cg p9;have bP:=w9.aT;have cL:l3.length<=l9.length:=by obtain⟨nw,m,-⟩:=p9;rw[m];simp
   obtain⟨_,-,-,g9⟩:=aw aB X9;refine⟨V,V,_,g9,?_⟩;refine MC o9 X9 (aJ V) V (LM V V) λbl Z a5 aW az au br=>?_;have C8:=au.aQ;have ar:=av F9 V au;have aL:IQ (λq=>(q:Int)∈F) z Z (1+6*bw (h.dA.take W)+(da G l).length+6*(c.w -1)+1):=az▸w9.cg Xj;have bS:Z.length=l9.length+1:=by rw[az];simp
   have kI:∀{u:E}{ul:ab},GI [] A M1 u ul->u.bt≠d->u.bt≠f.bt->u.bt<M1.size->GI [] A a5 u ul:=λ{u ul} aa a1 a2 a3=>by
    have g2:=aa.ext aD;have g3:=aj g2 f3 (by simp;exact⟨a1,a2⟩);have bu:=g3.ext al;have bv:=aj bu Y (by simp;exact⟨a1,by rcases b3 with m|m<;>omega⟩);exact aj bv au (by simp;exact⟨a1,by rcases b9 with m|m<;>omega⟩)
   have bm:t'.bt≠d:=aH.ne o1.bU cH;have bZ:t'.bt≠f.bt:=aH.Qm o1.gr cH;have bb:=kI aH bm bZ b0.2;have a9:=kI bA n1 n2 V;rw[dk (b:=(aF.len:Int) -1) V V];refine⟨λbM=>?_,λbM=>bi V _ _ _ ⟨bl,Z,tl++[(f.len:Int)],F,aW,aL.NI (λ_ i=>i) V,bb,fu,a9,V,λB p=>by obtain⟨q,m,h1,h2⟩:=aT B p;exact⟨q,m,h1,V⟩,V,ar,V,V,V⟩⟩;refine aao aW (j.em.j7 j.x (F0.N ar)) V (LM V V) λaK aC aM bj aG aA bs=>?_;have cR:=aA.aQ;have bp:=av ar V aA;have b7:IQ (λq=>(q:Int)∈F++[(Z.length:Int)]) z aC (1+6*bw (h.dA.take W)+(da G l).length+6*(c.w -1)+1+1):=aG▸(aL.NI (λq i=>bT.2 (bz i)) bY).yJ bO;have cJ:aC.length=Z.length+1:=by rw[aG];simp
   have nx:∀{u:E}{ul:ab},GI [] A a5 u ul->u.bt≠d->GI [] A aM u ul:=λaa ay=>aj aa aA (by simp;exact⟨ay,aa.Qm aW.gr cH⟩);have bC:=nx bb bm;have a_:=nx a9 n1;intro cO;refine GI.nI a_ (bn V) V λcc bq bx ce bo bk=>?_;have fb:Fz [en.bt] aM bq:=⟨bo.1,λc e t=>bk c e (sp t)⟩;have bt:en.bt≠aK.bt:=a_.Qm bj.gr cH;refine⟨λc e=>by
    simp at e;rw[bk c V V,(J.push aM _).bB c V],bi V _ _ _ ⟨aK,aC,tl++[(f.len:Int)],F++[(Z.length:Int)],?_,b7.NI (λ_ i=>i) V,aj bC fb fu,fu,bx,fu,λB p=>?_,V,bp.wE fb λB p=>by simp at p⊢;omega,V,V,V⟩⟩
   .exact bj.re fb (by simp;exact⟨n1,bt⟩) λc e=>by
     simp only[aZ]at e⊢;rcases e with m|m|m
     .exact bz (bz m)
     .rcases bo.2 with e'|e'
      .exact bz (bH (bz V))
      .exact bH V
     .exact bz (bH (bH m))
   .rcases bT.1 p with p|p
    .let⟨q,m,h1,h2⟩:=aT B p;exact⟨q,m,h1,V⟩
    .simp at p;exact⟨Z.length,p,V,V⟩
  .have ak:W=(cY G h.cG).length:=V;subst ak;refine⟨f,v.bU.dg 0,?_⟩;intro m8;obtain⟨K,s8⟩:=pu m8;have an:bg (di (f.bt::d::C) m8) (.mk g.size 0 1 1) [(yn:Int)]:=bg.jY bG (dH (dH (j7 (g:=g) V) bY V) bY V) O O bO;refine⟨gl K V,gl K V,V,V,?_⟩;have R:Ee C I m8 d f P:=(v.ext K).re (Fz.cX [] _) bO λc e=>bz (aX _ (aX _ e));have ar:N.bt∉f.bt::d::C:=by
    simp only[aZ,CL];exact⟨t2,t1,λi=>oh (j7 (g:=H) bY _ i)⟩
   have am:bg (di (f.bt::d::C) m8) N tl:=(GI.jS (g:=f.bt::d::C) (gt.ext K)).sa yD.aP ar cH V;obtain⟨wr,gs,-,Z⟩:=R.gr.eE eW.aP (X:=List.range I.size) ⟨V,λc e t=>absurd (rf.2 e) t⟩ (k:=z.length) V (a:=⟨21,0,h.cG,0,[(yn:Int)],tl⟩) (cs:=[.i 21,.i 0,.i h.cG,.i 0,.s (.mk g.size 0 1 1),.s N]) ⟨_,_,O,an,am⟩;refine⟨wr,?_⟩;intro m9;have s9:m9.size=m8.size:=bE _ _ _ _;have o9:Ee C I m9 d f (P.set z.length ⟨21,0,h.cG,0,[(yn:Int)],tl⟩):=⟨R.bU.congr (Z d (uK R.ne)),gs,R.up⟩;have Y:Fz [d,f.bt] g m9:=⟨V,λc e t=>by
    simp at t;have e1:m9[c]? =m8[c]? :=Z c t.2;rw[e1,K.bB c e]⟩
   have w9:=(a4.eE (x:=⟨21,0,h.cG,0,[(yn:Int)],tl⟩) (k:=z.length) bY ⟨sx,sx⟩ ⟨bO,by show tl.length<=_;omega⟩).NI (c:=λq=>(q:Int)∈F) (λ_ i=>i.1) bY;refine⟨λc e=>Z c (by simp at e;omega),?_⟩;have au:=ge.aT cH;refine iC (n:=F.length) V (λw r=>∃aq ap,Ee C I r d aq ap/\IQ (λq=>(q:Int)∈F.drop w) z ap (1+6*bw (h.dA.take (cY G h.cG).length))/\ap.length=P.length/\GI [] A r en F/\Fz [d,s.bt] Q r/\(aq.bt=s.bt\/Q.size<=aq.bt)/\m7.size<=r.size) ⟨f,_,o9,sp w9,bO,aj ge Y (by simp;exact⟨n1,n2⟩),av L e Y,e,V⟩ ?_;rintro w r I2 μ2 hi ⟨aq,l2,o2,w2,al,T,f2,b2,z2⟩ ap;refine dit (λi=>?_) λi=>?_
   .let⟨B,U⟩:=dY F w;obtain⟨q,rfl,az,aA⟩:=aT B (ba U);have ah:bg (di [] r) en F:=(GI.jS (g:=[]) T).sa yD.aP bO cH V;have ae:=ah.le fJ;let⟨xq,ac⟩:=dY l2 q;refine⟨V,V,q,ae.br U,?_⟩;refine ZU o2 (j.em.j7 j.x (F0.N f2)) ac (LL V V) λs4 l4 M4 o4 e4 f4 b4=>ap V _ ⟨s4,l4,o4,?_,by rw[e4];simp;exact al,aj T f4 (by simp;exact⟨n1,T.Qm o2.gr cH⟩),av f2 b2 f4,oh f2.aQ,oh f4.aQ⟩;rw[e4];refine(w2.aim V ac).NI (λq' i=>?_) bY;let⟨h1,h2⟩:=i;rw[aa5 V]at h1;rcases aZ.1 h1 with m|m
    .have:F[w]=(q:Int):=by have:=pF.1 U;exact this.2
     rw[this]at m;exact absurd V h2
    .exact m
   .have aV:w=F.length:=V;subst aV;rw[List.drop_length]at w2;exact⟨aq,l2,o2,w2.aeq bO V,F0.N f2,V⟩
def QX{c:af}:∀a:Bk,adm c b a:=Bk.ind λbq r f=>QW λx e h=>QR h λa d=>f x e a d
end
def qE.cD{l:List Instr}{n:Nat}(h:qE [] l n):YP l/\Wx l/\l.length<=n:=by
 obtain⟨e,rfl,b,c,d⟩:=h;exact⟨λk x a=>by have:=b k x a;simpa using this,c,d⟩
def Q0{d:ad}{t:D}(hS:∀c∈d,c<t.size){v ae:E}{W:af}{rs:List jV}(I:iD t v ae W rs){aj:Nat}(av:Da W rs True aj)(hW:aj<=120000000000):Wv 128 [.agg #[v.v,ae.v]] t d W Ek:=by
 apply JH;simp -zeta only[dT];have ht:=I.dj;have hp:=I.lJ;intro b a2;let⟨x2,Y⟩:=fV (a:=b) (c:=a2) O O;have s1:=pz b;have aP:=hp.aT;have bh:=I.pP;have bg:=av.iY;refine(jz (b:=b.size::d) (dH hS x2.aQ (Y _ bO)) (I.bR.le x2.le) ht).aP λ_ ab⟨dd,e,aN,x3⟩=>?_;subst e;refine⟨x3.fg Y,_,O,?_⟩;intro l aT aU;have u2:=x2.N x3;let⟨x5,B0,g0,s3,s5⟩:=ov (b:=l.size::b.size::d) oK.aP (d:=ab) (a:=l) (c:=aT) (j:=aU) O O O;have au:∀c∈[b.size,t.size],c<ab.size:=λc k=>x3.lt (Y c k);have aq:∀c∈b.size::d,c<ab.size:=λc k=>x3.lt (dH hS x2.aQ (Y _ bO) c k);refine nV (R:=λg h M=>∃v p f,Value.agg #[g.v,h.v]=.agg #[v.v,p.v]/\dw (di d M) v W/\ly (di d M) p f/\Ek f/\J t M) oK.aP cH cH hS ⟨V,au _ bO⟩ u2 s3 aN aP V x5 B0 g0 (λ_ q=>ZP q) (λf r' ax m' g h p j m=>⟨f,r',ax,O,g,h,⟨V,V,λq Z=>by obtain⟨o,n⟩:=db.1 Z;exact j o q n⟩,m⟩) λaw M m ax a9 μ aO bf xM ao ah aY=>?_
 let⟨q,Z⟩:=dY rs aw aO;let⟨q3,a5,a6,qw⟩:=av.eR q (ba Z);have z:=u2.N xM;obtain⟨cs,⟨a_,j,a7,rfl,c1,c2,c3⟩,K⟩:=hp.kv aw q Z;have aI:=c1.aT;have qp:=q.eZ.Oj;refine⟨V,V,_,z.aS (K 0 _ O),_,z.aS (K 1 _ O),_,z.aS (K 2 _ O),_,z.aS (K 3 _ O),_,z.aS (K 4 _ O),?_⟩;intro m7 f;have hy:=ao.cF;have bd:=ah.lt;obtain⟨x8,-,s8⟩:=kZ (a:=f) O O O;clear_value f;have w8:=z.N x8;have H:∀{B:D},f.size<=B.size->∀c∈m.bt::l.size::b.size::d,c<B.size:=λh c k=>by
  simp only[aZ]at k;rcases k with e|e|e|e
  .omega
  .omega
  .have:=aq c (by simp[e]);omega
  .have:=aq c (by simp[e]);omega
 have be:b.size<ab.size:=au _ bO;intro g u;obtain⟨x9,s9⟩:=pu g;obtain⟨aD,bp⟩:=pu u;have g9:GIn (g.size::m.bt::l.size::b.size::d) f g (.mk f.size 0 0 0) []:=Gr.bI _ bY;have aF:dJ u g.size wF [.s (.mk f.size 0 0 0)]:=dJ.push _ _ _;have aJ:Ee (m.bt::l.size::b.size::d) f u g.size (.mk f.size 0 0 0) []:=⟨aF,g9.ext eW.aP aD,V⟩;clear_value u g;have ak:=x9.N aD;have ay:∀c∈[f.size,g.size],c<u.size:=λc k=>by simp at k;omega
 have LL:∀{B:D}{s':E},u.size<=B.size->(s'.bt=f.size\/u.size<=s'.bt)->∀j∈[M.size,b.size,t.size],j<B.size/\j≠g.size/\j≠s'.bt:=λhz s j aL=>by simp at aL;omega
 rw[aI];refine(pA ay 0 q.aY.length V).aP λ_ az⟨P,aa,e,aK,aC,Q⟩=>⟨Q.fg λj s=>by simp at s;omega,P,e,?_⟩;have ap:=GI.cB aK ay V;have a8:=Q.aQ;have aG:YQ (m.bt::l.size::b.size::d) f az g.size (.mk f.size 0 0 0) [] P P aa aa:=⟨aJ.ext Q,ak.N Q,H V,ap,ap,O,λy hy=>oh (aC.1 y hy)⟩;refine(QX q.eZ _ f az g.size _ [] P P aa aa v ae a7 aG ((aC.2▸a6)) V fu (I.le w8.le) (iI.le w8.le c3)).aP λbr bj⟨bq,bi,ac,aB,X,aH⟩=>⟨UA.fg X (LL a8 (bz O)),?_⟩;have bu:=X.aQ;simp only[E.nh]at aH X;have al:=Fz.ext ((((ak.N Q).fz [g.size,f.size]).N X).IK λj s=>bH (by simp at s;omega));have a3:=aB.aT;intro bk;refine MC ac al (H V) (by simp at a3;omega) (LL V V) λy N x F am an bb=>?_;have bv:=an.aQ;have bs:=ac.gr.cF;have T:=ac.j7 al an;have a4:qE [] N (6*q.eZ.w):=am▸(aB.N (qE.mE ⟨sx,λ_=>bO⟩ bO)).iQ V;let⟨a0,a1,bo⟩:=a4.cD;have aQ:0<N.length:=by rw[am];simp
 have ai:=ah.ext (x8.N T);refine⟨m,ai.dg 1,y,F.bU.dg 0,y,F.bU.dg 0,?_⟩;have bt:=F.gr.cF;have aW:=F.ne;have aV:y.bt∉g.size::m.bt::l.size::b.size::d:=by
  simp only[aZ,CL];have k:=λh:y.bt∈m.bt::l.size::b.size::d=>H bY _ h;refine⟨aW,λh=>?_,λh=>?_,λh=>?_,λh=>?_⟩<;>have:=k (by simp[h])<;>omega
 have ar:=F.gr.sa eW.aP aV cH V;have G:∀{r C:D}{j aA:Nat},x.size<=r.size->J r C->j<x.size->aS C j aA=aS r j aA:=λh ag s=>gl ag V;have sm:∀{r C:D},x.size<=r.size->J r C->gT [M.size,b.size,t.size] r C:=λh ag=>ag.fg λj s=>by simp at s;omega
 have L:g.size<x.size:=V;have w:M.size<x.size:=V;have i3:l.size<x.size:=V;refine(dF (m.bt::l.size::b.size::d) (c1.ext (w8.N T)) V).aP λ_ bl⟨a',la,e,ga,ea,n⟩=>⟨sm bY n,a',e,G bY n L,G bY n w,G bY n L,G bY n w,G bY n w,G bY n i3,?_⟩;subst ea;have A:=n.aQ;refine(dF (m.bt::l.size::b.size::d) (c2.ext ((w8.N T).N n)) V).aP λ_ bm⟨b',lb,e,gb,eb,o⟩=>⟨sm A o,b',e,G A o L,G A o w,G A o L,G A o w,G A o i3,?_⟩;subst eb;have bw:=o.aQ;have aE:=n.N o;refine(Sb (iz.ext aE (fY.le ar fJ λ_ _=>eW.le fJ)) (q.aY.length:Nat)).aP λ_ aR⟨rg,e,_,p⟩=>⟨sm V p,rg,e,G V p L,G V p w,G V p i3,?_⟩;have bx:=p.aQ;have U:=aE.N p;intro bn;have aM:iz (di (m.bt::l.size::b.size::d) aR) y N:=fY.le ar ((U.eX).N (kW _ λ_ h=>aX _ h)) λ_ _=>eW.le ((U.eX).N (kW _ λ_ h=>aX _ h));have XX:=(x8.N T).N U;refine Gr.bU (h:=[.s .nil,.s .nil,.i 0,.i 0,.s .nil]) (j:=1) (w:=88) (o:=[.s dd,.s m]) (v:=⟨q.aY,q.cW,q.bP,rg,N⟩) oK.aP cH (ao.ext oK.aP XX) ((xM.N XX).fz []) ⟨a',b',y,O,(GI.cB ga (H V) V).le ((o.N p).eX),(GI.cB gb (H V) V).le p.eX,aM⟩ V (ai.ext U) bO cH ⟨V,bO⟩ (λc k=>?_) λr' m' g' B' f' z' q'=>aY r' m' _ g' B' f'.ext ⟨q3,a5,aQ,by show N.length<=_;omega,a0,a1⟩
 simp at k;omega
section
variable{l:ae}
def Mn{α:Type}(T:D->E->E->α->Prop):Prop:=∀M a b c x,Le M a->T M b c x->T a b c x
def PP{α:Type}(T:D->E->E->α->Prop)(U:α->Prop)(S:ad)(d:Nat)(e:E)(m:D)(P:Nat)(v:Value)(a:D):Prop:=∃b c x,v=.agg #[b.v,c.v]/\T (di S a) b c x/\U x/\Rd d e P a/\Fz [d] m a
def NT(m:D)(a b:E)(x:af×List jV):Prop:=iD m a b x.1 x.2
def IT(m:D)(a b:E)(x:af×av):Prop:=dw m a x.1/\ly m b x.2
def GT(m:D)(a b:E)(x:af×aJ):Prop:=dw m a x.1/\adr m b x.2
def UN(c:Prop)(W:Nat)(x:af×List jV):Prop:=Da x.1 x.2 c W/\x.1∈wc
def UI(x:af×av):Prop:=Ek x.2/\x.1∈wc
def NT.mn:Mn NT:=λ_ _ _ _ _ h t=>iD.le t h
def IT.mn:Mn IT:=λ_ _ _ _ _ h t=>⟨t.1.le h,ly.le h t.2⟩
@[grind cases] structure BS (B:ad) (rb:Nat) (bs:E) (m:D) (Q:Nat) (M:D):Prop where
 s:Rs rb bs m Q M
 j7:∀c∈B,m.size<=c/\c<M.size
section
variable{α:Type}{T:D->E->E->α->Prop}{U:α->Prop}{S B L:ad}{d Q g i k f t:Nat}{e a b:E}{m M c:D}{x:α}{h:ap}
def BS.hS(h:BS B d e m Q M)(a:∀c∈S,c<m.size):∀c∈B++S,c<M.size:=by grind [BS.j7,BS.s,Rs.f,Fz.aQ]
def BS.to(h:BS B d e m Q M)(f:Fz [d] M c)(r:Rd d e g c):BS B d e m g c:=by constructor<;>grind [BS.s,Rs.to,BS.j7,Fz.aQ]
theorem BS.lw(h:BS B d e m Q M)(a:d<m.size)(c:∀b∈L,b∈B):Lw d L M:=by grind [lw,BS.j7]
def BS.jt(i:BS B d e m Q M)(o:d<m.size)(p:∀b∈L,b∈B)(l:bJ dP f h M (PP T U (B++S) d e M g)){K:E->E->D->Prop}
 (q:∀a b x c,U x->T (di (B++S) c) a b x->BS B d e m g c->Fz [d] M c->K a b c):bJ dP f h M λv c=>gT L M c/\∃j k:E,v=.agg #[j.v,k.v]/\K j k c:=
 l.aP λ_ c⟨a,b,x,n,t,u,r,f⟩=>⟨(i.lw o p).fg f,a,b,n,q a b x c u t (i.to f r) f⟩
def BS.lO(h:BS B d e m Q M)(g:d<m.size)(k:Q<=10^16)(j:∀b∈L,b∈B)(n:Int){K:Int->D->Prop}
 (l:∀i c,0<=i->(i<n\/i=0)->BS B d e m (Q+1) c->Fz [d] M c->K i c):bJ dP 74 [vp d 0,vi n] M λv c=>gT L M c/\∃i:Int,v=vi i/\K i c:=
 (dW h.s.r k n).aP λ_ c⟨i,a,o,p,r,f⟩=>⟨(h.lw g j).fg f,i,a,l i c o p (h.to f r) f⟩
def BS.bU{m1 m2:D}{z:ae}(h:BS B d e m Q M)(c:m1=M.push (.cells (dh z) t))(f:m2=aW m1 M.size 0 l)(i:l.length=z.length):BS (M.size::B) d e m Q m2/\Le (di (B++S) M) (di (M.size::B++S) m2)/\dJ m2 M.size t l:=by
 let⟨x,a,z⟩:=kZ c f i;have n:=h.s.f.aQ;refine⟨⟨h.s.ext x,λj k=>?_⟩,x.di λb g=>(aZ.1 g).elim (λh=>bH V) bz,a⟩;grind [BS.j7]
def BS.cE(h:BS B d e m Q M)(b:Rd d e i m)(a:k∈B)(l:ae):BS B d e m Q (aW M k 0 l)/\Le (di (B++S) M) (di (B++S) (aW M k 0 l)):=
 ⟨⟨h.s.cE b (h.j7 k a).1 _ _,λc f=>by rw[bE];exact h.j7 c f⟩,dU (by simp[a]) λ_ h=>h⟩
def BS.le(a:d∈S)(f:Fz [d] M c):Le (di (B++S) M) (di (B++S) c):=f.eX (by simp[a])
def BS.jX(h:BS B d e m Q M)(o:Mn T)(j:Rd d e i m)(p:k∈B)(q:T (di (B++S) M) a b x)(r:U x)(n:Q<=g):PP T U S d e m g (.agg #[a.v,b.v]) (aW M k 0 l):=
 have⟨c,f⟩:=h.cE (S:=S) j p l
 ⟨a,b,x,O,o _ _ _ _ _ (f.N (kW _ λ_=>na _)) q,r,c.s.r.aP n,c.s.f⟩
def BS.mE(a:Rd d e Q m){o:Obj}:BS [m.size] d e m Q (m.push o)/\Le (di S m) (di ([m.size]++S) (m.push o)):=⟨⟨⟨(J.push m o).fz _,a.ext (J.push m o)⟩,bO⟩,xK (J.push m o) bY⟩
def Qn{a:af}{c:Prop}{W:Nat}(j:zI f h M S a λb=>Da a b c W)(hd:a∈wc)(r:Rd d e Q M):bJ dP f h M (PP NT (UN c W) S d e M Q):=
 j.aP λ_ _⟨g,k,b,i,n,o,x⟩=>⟨g,k,(a,b),i,n,⟨o,hd⟩,r.ext x,x.fz _⟩
def acr{a:af}(g:Wv f h M S a Ek)(hd:a∈wc)(r:Rd d e Q M):bJ dP f h M (PP IT UI S d e M Q):=
 g.aP λ_ _⟨b,j,k,c,n,i,o,x⟩=>⟨b,j,(a,k),c,⟨n,i⟩,⟨o,hd⟩,r.ext x,x.fz _⟩
end
variable{S:ad}{m:D}{d P:Nat}{e:E}
def Ng(c:∀a∈S,a<m.size)(i:d∈S)(a:Rd d e P m)(D:P+1000+4*(300+40*Cg 18)<=10^16):bJ dP 222 [vp d 0] m (PP NT (UN False 95) S d e m (P+11+4*(300+40*Cg 18))):=by
 apply Gb (d,0);simp -zeta only[dT];have b:=a.lt;intro s;obtain⟨b1,-⟩:BS [m.size] d e m P s/\True:=⟨(BS.mE (S:=S) a).1,trivial⟩;refine b1.jt (T:=GT) (U:=λx=>adw x.1 x.2) (S:=S) b (λ_ h=>h) ((JJ (b1.hS c) (by simp[i]) b1.s.r V).aP λv M⟨g,p,f,l,j,k,n,o,q,r⟩=>⟨g,p,(f,l),j,⟨k,n⟩,o,q,r⟩) λg p x F u t b2 A=>?_;refine b2.jt (S:=S) b (λ_ h=>h) (Qn (Na (b2.hS c) (t.1.le fJ) (fY.le t.2 fJ λ_ _=>FuR.aP.le fJ) u) u.gp.ds b2.s.r) λy J L G f t3 b3 B=>?_;intro o q;obtain⟨b5,n,-⟩:=b3.bU (S:=S) (m1:=o) (m2:=q) O O O;have r:=NT.mn _ _ _ _ _ n t3;refine b5.lO b V (λ_ h=>h) 3 λE H _ _ b6 k=>?_;have j:=NT.mn _ _ _ _ _ (BS.le i k) r;refine⟨λ_=>?_,λ_=>b6.jX NT.mn a bO j f V⟩;exact b6.jt (S:=S) b (λ_ h=>h) (Qn (OT (b6.hS c) (j.le fJ) V f.1) f.2 b6.s.r) λz K M I w v h C=>h.jX NT.mn a bO v w V
def JD(i:∀c∈S,c<m.size)(f:d∈S)(a:Rd d e P m)(L:P+1000+4*(300+40*Cg 18)<=10^16):bJ dP 193 [vp d 0] m (PP NT (UN True 104500) S d e m (P+12+4*(300+40*Cg 18))):=by
 apply Cm (d,0);simp -zeta only[dT];have c:=a.lt;intro t;obtain⟨b1,-⟩:BS [m.size] d e m P t/\True:=⟨(BS.mE (S:=S) a).1,trivial⟩;refine b1.jt (S:=S) c (λ_ h=>h) (Ng (b1.hS i) (by simp[f]) b1.s.r V) λH U X Q g t2 b2 J=>?_;intro u v;obtain⟨b4,s,-⟩:=b2.bU (S:=S) (m1:=u) (m2:=v) O O O;have l:=NT.mn _ _ _ _ _ s t2;refine b4.jt (S:=S) c (λ_ h=>h) (Qn (QU (b4.hS i) (l.le fJ) g.1) g.2 b4.s.r) λI W Y w F A b5 q=>?_;intro x y;obtain⟨n,k,-⟩:=b5.bU (S:=S) (m1:=x) (m2:=y) O O O;have B:=NT.mn _ _ _ _ _ k A;refine n.lO c V (λ_ h=>h) 4 λM R _ _ b j=>?_;have C:=NT.mn _ _ _ _ _ (BS.le f j) B;refine⟨λ_=>?_,λ_=>b.jX NT.mn a bO C F V⟩;have D:=NT.mn _ _ _ _ _ (((BS.le f q).N k).N (BS.le f j)) l;refine b.jt (S:=S) c (λ_ h=>h) (Qn (VF (b.hS i) (D.le fJ) g.1) g.2 b.s.r) λp z Z T G E o K=>?_;intro N;let⟨h,r⟩:=o.cE (S:=S) a (by simp:w.size∈_) [.s p,.s z];exact h.jX NT.mn a bO (NT.mn _ _ _ _ _ r E) G V
end
section
variable{c:Prop}
@[grind cases] structure BF (S:ad) (rb:Nat) (bs:E) (m:D) (k Q W:Nat) (M:D):Prop where
 b:BS [k,m.size] rb bs m Q M
 x:∃d r x,dJ M k qX [.s d,.s r]/\NT (di (k::m.size::S) M) d r x/\UN True W x
def UN.aP{W W':Nat}{x:af×List jV}(h:UN c W x)(f:W<=W'):UN c W' x:=⟨⟨h.1.iY,λq g=>let⟨a,b,d,e⟩:=h.1.eR q g;⟨a,b,d,fC e f⟩⟩,h.2⟩
section
variable{e d:ad}{g k Q Q' W W' i f:Nat}{h:E}{a M b:D}{K:D->Prop}{j:E->E->ap}
def BF.aP(b:BF e g h a k Q W M)(j:Q<=Q')(l:W<=W'):BF e g h a k Q' W' M:=⟨⟨⟨b.b.s.f,b.b.s.r.aP j⟩,b.b.j7⟩,let⟨i,r,x,d,f,c⟩:=b.x;⟨i,r,x,d,f,c.aP l⟩⟩
def BF.to(l:BF e g h a k Q W M)(n:g<a.size)(m:g∈e)(f:Fz [g] M b)(i:BS [k,a.size] g h a Q' b):BF e g h a k Q' W b:=
 let⟨j,r,x,d,t,c⟩:=l.x
 ⟨i,j,r,x,d.congr (f.bB k d.lt cC),NT.mn _ _ _ _ _ (BS.le (B:=[k,a.size]) m f) t,c⟩
def BF.lO(j:BF e g h a k Q W M)(l:g<a.size)(q:g∈e)(o:Q<=10^16)(m:∀c∈d,c∈[k,a.size])(n:Int){K:Int->D->Prop}
 (p:∀i b,BF e g h a k (Q+1) W b->K i b):bJ dP 74 [vp g 0,vi n] M λv b=>gT d M b/\∃i:Int,v=vi i/\K i b:=
 j.b.lO l o m n λi b _ _ c f=>p i b (j.to l q f c)
def BF.act(q:BF e g h a k Q W M)(w:Rd g h i a)(G:k≠a.size)(y:∀p∈d,p=a.size)
 (c:∀l n x,NT (di (k::a.size::e) M) l n x->UN True W x->bJ dP f (j l n) M (PP NT (UN True W') (k::a.size::e) g h M Q'))
 (J:∀b,BF e g h a k Q' W' b->K b):∃z:E,aS M k 0=some z.v/\∃A:E,aS M k 1=some A.v/\bJ dP f (j z A) M λT b=>gT d M b/\∃t u:E,T=.agg #[t.v,u.v]/\gK b k 0 2/\(gT d b (aW b k 0 [.s t,.s u])/\K (aW b k 0 [.s t,.s u])):=by
 let⟨l,n,x,B,N,P⟩:=q.x
 have H:=w.lt
 have V:=q.b.j7 k bO
 refine⟨l,B.dg 0,n,B.dg 1,q.b.jt (S:=e) (L:=d) H (λp s=>by simp[y p s]) (c l n x N P) λp s U b R O C D=>?_⟩
 have v:=B.congr (D.bB k B.lt fu)
 let⟨b2,I⟩:=C.cE (S:=e) w (by simp:k∈_) [.s p,.s s]
 exact⟨v.gK bO,λc F=>cw _ _ _ _ (by rw[y c F];exact uK G),J _ ⟨b2,p,s,U,dJ.aW (m:=b) (o:=0) (r:=[.s p,.s s]) v,NT.mn _ _ _ _ _ I O,R⟩⟩
def BF.cJ(d:BF e g h a k Q W M)(j:Rd g h i a)(l:Q<=Q'):∃b:E,aS M k 0=some b.v/\∃c:E,aS M k 1=some c.v/\PP NT (UN True W) e g h a Q' (.agg #[b.v,c.v]) (aW M a.size 0 [.s b,.s c]):=
 let⟨f,r,_,B,t,u⟩:=d.x
 ⟨f,B.dg 0,r,B.dg 1,d.b.jX NT.mn j bO t u l⟩
end
variable{e:ad}{a:D}{g P:Nat}{h:E}
def aeH{f:Nat}{d:ap}{M:D}{Q:Nat}{a:af}{W:Nat}(k:ZK f d M e g h Q a λb=>Da a b c W)(hd:a∈wc):bJ dP f d M (PP NT (UN c W) e g h M Q):=
 k.aP λ_ _⟨i,l,b,j,n,o,r,x⟩=>⟨i,l,(a,b),j,n,⟨o,hd⟩,r,x⟩
def Yk(i:∀c∈e,c<a.size)(k:g∈e)(b:Rd g h P a)(f:P+4<=10^16){W:Nat}(j:W<=200000000000)(d r:E)(x:af×List jV)(t:NT (di e a) d r x)(u:UN True W x):bJ dP 194 [vp g 0,.agg #[d.v,r.v]] a (PP NT (UN True (W+4)) e g h a (P+4)):=
 aeH (VE i k b f t u.1 j) u.2
def Hr(y:∀c∈e,c<a.size)(l:g∈e)(f:Rd g h P a)(hP:P+1000+4*(300+40*Cg 18)<=10^16):bJ dP 129 [vp g 0] a (PP NT (UN True 98289774148) e g h a (P+24+4*(300+40*Cg 18))):=by
 apply AR (g,0);simp -zeta only[dT];have k:=f.lt;intro F;have z1:=pz F;obtain⟨b1,-⟩:BS [a.size] g h a P F/\True:=⟨(BS.mE (S:=e) f).1,trivial⟩;refine b1.jt (S:=e) k (λ_ b=>b) (JD (b1.hS y) (by simp[l]) b1.s.r V) λC G I d H t2 b2 J=>?_;have z2:=J.aQ;intro L N;let⟨b4,K,A⟩:=b2.bU (S:=e) (m1:=L) (m2:=N) O O O;have Y:=NT.mn _ _ _ _ _ K t2;have p:d.size≠a.size:=V;have n:∀{M:D}{Q W:Nat},BF e g h a d.size Q W M->∀c∈d.size::a.size::e,c<M.size:=λb=>b.b.hS y;have E:g∈d.size::a.size::e:=by simp[l]
 refine⟨BF e g h a d.size (P+17+4*(300+40*Cg 18)) 104504,?_,λT X=>?_⟩
 .refine b4.lO k V (λ_ b=>b) 4 λz m5 _ _ b5 s=>?_;have t:=NT.mn _ _ _ _ _ (BS.le (B:=[d.size,a.size]) l s) Y;have q:=A.congr (s.bB _ A.lt fu);refine⟨λ_=>b5.jt (S:=e) k (λ_ b=>b) (Yk (b5.hS y) E b5.s.r V V C G I t H) λi j x R Z U b6 v=>?_,λ_=>BF.aP ⟨b5,C,G,I,q,t,H⟩ V V⟩;intro T;let⟨u,w⟩:=b6.cE (S:=e) f (by simp:d.size∈_) [.s i,.s j];exact BF.aP ⟨u,i,j,x,dJ.aW (m:=R) (o:=0) (r:=[.s i,.s j]) (q.congr (v.bB _ q.lt fu)),NT.mn _ _ _ _ _ w U,Z⟩ V V
 refine⟨BF e g h a d.size (P+18+4*(300+40*Cg 18)) 10921086016,?_,λZ R=>?_⟩
 .refine X.lO k l V bO 4 λz s q=>⟨λ_=>q.act f p bO (λi j x t u=>Qn (MJ (n q) (t.le fJ) V u.1) u.2 q.b.s.r) λw b=>b.aP V V,λ_=>q.aP V V⟩
 refine R.lO k l V bO 3 λz aa q=>?_;refine⟨BF e g h a d.size (P+19+4*(300+40*Cg 18)) 98289774144,⟨λ_=>q.act f p bO (λi j x t u=>Qn (JY (n q) (t.le fJ) V u.1) u.2 q.b.s.r) λw b=>b.aP V V,λ_=>q.aP V V⟩,λab s=>?_⟩;refine⟨BF e g h a d.size (P+19+4*(300+40*Cg 18)) 98289774144,⟨λ_=>s.act f p bO (λi j x t u=>Qn (Sc (n s) (t.le fJ) V u.1) u.2 s.b.s.r) λw b=>b.aP V V,λ_=>s.aP V V⟩,λac U=>?_⟩;refine U.lO k l V bO 6 λz ad v=>⟨λ_=>v.act f p bO (λi j x t u=>Yk (n v) E v.b.s.r V V i j x t u) λw b=>b.cJ f V,λ_=>(v.aP (Q':=P+24+4*(300+40*Cg 18)) (W':=98289774148) V V).cJ f V⟩
def MQ(j:∀c∈e,c<a.size)(l:g∈e)(d:Rd g h P a)(B:P+1000+4*(300+40*Cg 18)<=10^16):bJ dP 73 [vp g 0] a (PP IT UI e g h a (P+25+4*(300+40*Cg 18))):=by
 apply FF (g,0);simp -zeta only[dT];have f:=d.lt;intro p;obtain⟨b1,-⟩:BS [a.size] g h a P p/\True:=⟨(BS.mE (S:=e) d).1,trivial⟩;refine b1.jt (S:=e) f (λ_ b=>b) (Hr (b1.hS j) (by simp[l]) b1.s.r V) λv H K D m t2 b2 y=>?_;refine b2.jt (S:=e) f (λ_ b=>b) (acr (Q0 (b2.hS j) (t2.le fJ) m.1 V) m.2 b2.s.r) λw I L E i t3 b3 z=>?_;intro q r;obtain⟨b5,o,-⟩:=b3.bU (S:=e) (m1:=q) (m2:=r) O O O;have s:=IT.mn _ _ _ _ _ o t3;refine b5.lO f V (λ_ b=>b) 3 λC F _ _ b6 n=>?_;have k:=IT.mn _ _ _ _ _ (BS.le l n) s;refine⟨λ_=>?_,λ_=>b6.jX IT.mn d bO k i V⟩;exact b6.jt (S:=e) f (λ_ b=>b) (acr (Nk (b6.hS j) (k.1.le fJ) (xE i.2) (ly.le fJ k.2) i.1) i.2 b6.s.r) λx J M G u t b A=>b.jX IT.mn d bO t u V
end
section
variable{b:ae}{x:Instr}
section
variable{S:ad}{m M:D}{a P Q:Nat}{c:E}
def IC(h:Rs a c m Q M)(i:Q<=10^16)(d:ab){n:Nat}(j:b=d.map Ce.i)(p:n=d.length)(o:0<d.length/\d.length<=100):
 bJ dP 77 [vp a 0,E.v (.mk M.size 0 n n)] (M.push (.cells (dh b) bG)) λv e=>∃t:Int,v=vi t/\t∈d/\Rs a c m (Q+1) e/\Fz [a] (M.push (.cells (dh b) bG)) e:=by
 have x:=J.push M (.cells (dh b) bG)
 have s:=h.r.lt
 refine(om (h.ext x).r i (bg.jY bG (l:=d) cC j p V) o.1).aP λv e⟨q,g,k,r,f⟩=>⟨q,g,k,(h.ext x).to f r,f⟩
def _root_.Go.Vc.Gr.Qa{b c:D}{s:E}{l:ab}(h:GI S b M s l)(f:Fz [a] M c)(d:a<b.size):GI S b c s l:=have:=h.cF;GI.me h (f.bB _ this.2 cC)
def Bi(j:Rd a c P m)(hP:P+10<=10^16){F:E}{l:ab}(T:bg m F l)(hb:l.length<=10^12):bJ dP 133 [vp a 0,F.v] m λaa n=>∃s b,aa=s.v/\GI [] m n s b/\b.length<=l.length+1/\(∀w∈b,w∈l\/-1<=w/\w<=1001)/\Rd a c (P+3) n/\Fz [a] m n:=by
 apply xw (a,0);have g:=j.lt;refine(dF [] T V).aP λ_ X⟨s,b,e,i,K,H⟩=>⟨s,e,?_⟩;subst K;have ac:=i.aT cH;have o:Rs a c m P X:=⟨H.fz _,j.ext H⟩;have jX:∀{M:D}{Q:Nat},Rs a c m Q M->Q<=P+2->GI [] m M s l->bJ dP 77 [vp a 0,E.v (.mk M.size 0 5 5)] (M.push (.cells (dh [.i 0,.i 1,.i 2,.i (-1),.i 1000]) bG)) λr q=>∃h:Int,r=vi h/\
  mf (q.push (.cells (dh [.i h]) bG)) bG [.i 0] 8 s (.mk q.size 0 1 1) λt p=>∃s b,t.v=s.v/\GI [] m p s b/\b.length<=l.length+1/\(∀w∈b,w∈l\/-1<=w/\w<=1001)/\Rd a c (P+3) p/\Fz [a] m p:=λ{M Q} rM hQ gM=>
  (IC rM V [0,1,2,-1,1000] O O bO).aP λ_ q⟨t,e,B,f,d⟩=>⟨t,e,by
   have g2:=(gM.ext (J.push M _)).Qa d g;refine GI.nI g2 f.f V λr n N v z' Z=>⟨r,_,O,N,bO,λw C=>?_,?_,v⟩
   .grind
   .exact(j.BP f.r v (Z a f.r.lt (oh g2.cF))).aP V⟩
 refine⟨λS=>?_,λ_=>jX o V i⟩;simp only[bh]at S;refine(dW o.r V 2).aP λ_ m2⟨U,e,_,_,u,d⟩=>⟨U,e,λ_=>?_,λ_=>jX (o.to d u) V (i.Qa d g)⟩;have f:=o.to d u;refine(dW f.r V (s.len:Int)).aP λ_ Y⟨h,e,W,k1,I,x⟩=>⟨h,e,?_⟩;refine(IC (f.to x I) V [0,1,-1,7,1000,1001] O O bO).aP λ_ m5⟨t,e,B,G,L⟩=>⟨t,e,W,V,?_⟩;have z:=(((i.Qa d g).Qa x g).ext (J.push Y _)).Qa L g;let⟨w,R,y,q6⟩:=z.eE G.f (k:=h.toNat) V t;refine⟨w,s,_,O,R,bO,λw C=>?_,(j.BP G.r y (q6 a (oh z.cF))).aP V,y⟩;rcases iX C with A|A
 .exact bz A
 .simp at B;exact bH V
def IX(Z:ad)(a:Nat)(c:E)(m:D)(P:Nat)(U:Instr->Prop)(v:Value)(b:D):Prop:=∃x d j,v=inV x d j/\bg (di Z b) d x.aO/\bg (di Z b) j x.fU/\U x/\Rd a c P b/\Fz [a] m b
def AW(S:ad){o s:E}(u:bg m o x.aO)(v:bg m s x.fU)(r:x.aO.length<=10^12/\x.fU.length<=10^12):
 bJ dP 199 [inV x o s] m λy j=>∃c d,y=inV x c d/\GI S m j c x.aO/\GI S m j d x.fU/\c.bt≠d.bt/\J m j:=by
 apply vP
 simp -zeta only[dT]
 intro k l
 let⟨e,i⟩:=fV (a:=k) (c:=l) O O
 have F:=pz k
 have b:∀{M n:D},J l M->J M n->∀t,aS n m.size t=aS M m.size t:=by grind [bD,J.bB,J.lt]
 refine(dF S (u.ext e) r.1).bL (J.cX l) i λc _ A p g a _=>⟨_,O,b dt a _,b dt a _,b dt a _,b dt a _,b dt a _,?_⟩
 subst g
 refine(dF S (v.ext (e.N a)) r.2).bL a i λd _ B q g f w=>⟨_,O,b a f _,b a f _,b a f _,b a f _,?_⟩
 subst g
 intro C
 have G:=p.cF;have H:=q.cF
 have z:=i k.size bO
 exact⟨c,d,O,((p.ext f).me (cw _ _ _ _ V)).de (λ_ h=>h) e.aQ,(q.me (cw _ _ _ _ V)).de (λ_ h=>h) (e.N a).aQ,V,(e.N w).aW V _ _⟩
end
@[grind cases] structure BI (a0:D) (k rb:Nat) (bs:E) (m:D) (Q:Nat) (M:D) (a j:E) (l l':ab):Prop where
 ga:GI [] a0 M a l
 gj:GI [] a0 M j l'
 ne:a.bt≠j.bt
 s:Rs rb bs m Q M
 lo:m.size+2<=a0.size/\l.length<=1000000000001/\l'.length<=1000000000001
 hi:a.bt≠k/\j.bt≠k/\m.size<=k/\k<M.size
section
variable{Z L:ad}{g m M d:D}{c k P h Q i:Nat}{e a j:E}{l f:ab}
def BI.to(h:BI g k c e m Q M a j l f)(n:c<m.size)(b:Fz [c] M d)(r:Rd c e i d):BI g k c e m i d a j l f:=
 have:=h.lo
 ⟨h.ga.Qa b V,h.gj.Qa b V,h.ne,h.s.to b r,h.lo,h.hi.1,h.hi.2.1,h.hi.2.2.1,cr h.hi.2.2.2 b.aQ⟩
def BI.cE(h:BI g k c e m Q M a j l f)(d:Rd c e P m){o:Nat}{b:ae}:BI g k c e m Q (aW M k o b) a j l f:=
 have:=h.lo;have:=h.hi;have:=h.ga.cF
 ⟨GI.me h.ga (cw _ _ _ _ V),GI.me h.gj (cw _ _ _ _ V),h.ne,h.s.cE d V _ _,h.lo,by rw[bE];exact h.hi⟩
def BI.jX{U:Instr->Prop}(d:BI g k c e m Q M a j l f)(v:Rd c e P m)(t:∀i∈Z,i<m.size){o:Nat}(y:o=m.size+1)(w:Q<=h){s p n r:Int}(x:U ⟨s,p,n,r,l,f⟩):IX Z c e m h U (.agg #[vi s,vi p,vi n,vi r,a.v,j.v]) (aW M o 0 b):=by
 have:=d.lo;have:=d.hi;have z:=d.ga.cF;have A:=d.gj.cF;have u:=d.s.cE v (k:=o) V 0 b;exact⟨⟨s,p,n,r,l,f⟩,a,j,O,Gr.cB yD.aP (GI.jS (GI.me d.ga (cw _ _ _ _ V))) (λi q=>oh (t i q)) cH (fC d.lo.2.1 cH),Gr.cB yD.aP (GI.jS (GI.me d.gj (cw _ _ _ _ V))) (λi q=>oh (t i q)) cH (fC d.lo.2.2 cH),x,u.r.aP w,u.f⟩
def BI.lO(h:BI g k c e m Q M a j l f)(r:c<m.size)(t:Q<=10^16)(s:∀b∈L,m.size<=b/\b<=k)(p:Int){K:Int->D->Prop}
 (v:∀i d,0<=i->(i<p\/i=0)->BI g k c e m (Q+1) d a j l f->(∀o,aS d k o=aS M k o)->Fz [c] M d->K i d):bJ dP 74 [vp c 0,vi p] M λz d=>gT L M d/\∃i:Int,z=vi i/\K i d:=
 have:=h.lo;have:=h.hi;have:=h.ga.cF
 (dW h.s.r t p).aP λ_ d⟨i,q,w,x,y,n⟩=>⟨n.fg λb u=>by have:=s b u;simp;omega,i,q,v i d w x (h.to r n y) (λo=>bD (n.bB k h.hi.2.2.2 cC) o) n⟩
end
def ZG(x y:Instr):Prop:=(∀k,Rx k x->Rx k y)/\y.aO.length<=10^12/\y.fU.length<=10^12
def MH{Z:ad}{m:D}{i P:Nat}{s F I:E}(f:∀d∈Z,d<m.size)(a:Rd i s P m)(hP:P+10<=10^16)(T:bg (di [i] m) F x.aO)(hj:bg m I x.fU)(c:x.aO.length<=10^12/\x.fU.length<=10^12)(hx:∃K,Rx K x):
 bJ dP 132 [vp i 0,inV x F I] m (IX Z i s m (P+3) (ZG x)):=by
 apply Fk (i,0)
 simp(config:={maxSteps:=1000000}) -zeta only[dT]
 have j:=a.lt
 intro t N
 let⟨X,hl⟩:=fV (a:=t) (c:=N) O O
 have n:=pz t
 have s2:N.size=m.size+2:=cC
 refine(AW [] ((T.le fJ).ext X) (hj.ext X) c).aP λ_ u⟨G,L,e,ga,gj,U,Y⟩=>⟨Y.fg hl,_,_,_,_,_,_,e,?_⟩
 intro m4 W
 obtain⟨R,-,z5⟩:=kZ (M:=u) (c:=m4) (a:=W) O O O
 clear_value W
 have ya:=ga.cF;have yj:=gj.cF
 have X5:=(X.N Y).N R
 have b5:BI N u.size i s m P W G L x.aO x.fU:=⟨ga.ext R,gj.ext R,U,⟨X5.fz _,a.ext X5⟩,⟨V,tD c.1,tD c.2⟩,V,V,V,V⟩
 have q:∀p∈[u.size,t.size,m.size],m.size<=p/\p<=u.size:=cC
 let⟨o,y,B,z,r,A⟩:=x
 have Hk:ZG ⟨o,y,B,z,r,A⟩ ⟨o,y,B,z,r,A⟩:=⟨λ_ h=>h,c⟩
 refine b5.lO j V q 5 λag g _ _ b6 _ f6=>?_
 have w:∀{aa:D}{ab:Nat},BI N u.size i s m ab aa G L r A->ab<=P+3->IX Z i s m (P+3) (ZG ⟨o,y,B,z,r,A⟩) (.agg #[vi o,vi y,vi B,vi z,G.v,L.v]) (aW aa t.size 0 [.i o,.i y,.i B,.i z,.s G,.s L]):=λh hQ=>h.jX a f n hQ Hk
 have ac:o=16\/o=17->(0:Int)<=0/\(0:Int)<(F.len:Int)/\∃v:Int,aS g F.bt (F.off+Int.toNat 0*1)=some (vi v)/\IX Z i s m (P+3) (ZG ⟨o,y,B,z,r,A⟩) (.agg #[vi 15,vi 0,vi 0,vi 0,E.v (.mk g.size 0 1 1),E.v .nil]) (aW (g.push (.cells (dh [.i v]) bG)) t.size 0 [.i 15,.i 0,.i 0,.i 0,.s (.mk g.size 0 1 1),.s .nil]):=λe=>by
  have hn:0<r.length:=let⟨_,h⟩:=hx;h.arg cC;have ae:=T.aT;let⟨C,hy⟩:=dY r 0 hn;have z6:=b6.hi;have r7:=(b6.s.ext (J.push g (.cells (dh [.i C]) bG))).cE a (k:=t.size) V 0 [.i 15,.i 0,.i 0,.i 0,.s (.mk g.size 0 1 1),.s .nil];have S:GI [] g (g.push (.cells (dh [.i C]) bG)) (.mk g.size 0 1 1) [C]:=Gr.jY (g:=[[.i C]]) yD.aP bY O O ⟨O,bO,λI b x H Q=>by
   cases I with
   |zero=>simp at H Q;rw[<-H,<-Q];rfl
   |succ I=>simp at H⟩
  exact⟨dN 0,by simp at ae;omega,C,(gY.1 ((T.le (b6.s.f.eX bO)).br hy)).2,⟨15,0,0,0,[C],[]⟩,_,.nil,O,GI.cB (GI.jS (GI.me S (cw _ _ _ _ fu))) (λd Q=>oh (f d Q)) bO,⟨O,jh _,bO,bO⟩,⟨λ_ _=>⟨sx,sx⟩,bO,bO⟩,r7.r.aP V,r7.f⟩
 refine⟨λ_=>⟨λe=>?_,λ_=>⟨λe=>(b6.cE a).jX a f n V ⟨λ_ _=>⟨sx,sx⟩,c⟩,λ_=>⟨λe=>?_,λ_=>w b6 V⟩⟩⟩,λ_=>⟨λ_=>⟨λH=>?_,λ_=>w b6 V⟩,λ_=>⟨λ_=>?_,λ_=>⟨λ_=>⟨λe=>ac (bz cC),λ_=>⟨λe=>ac (bH cC),λ_=>⟨λe=>b6.lO j V q 4 λv Q _ _ d _ _=>(d.cE a).jX a f n V ⟨λ_ h=>⟨h.yJ,h.arg⟩,c⟩,λ_=>w b6 V⟩⟩⟩,λ_=>⟨λ_=>⟨λe=>?_,λ_=>⟨λe=>?_,λ_=>w b6 V⟩⟩,λ_=>w b6 V⟩⟩⟩⟩⟩
 .simp only[bQ]at e
  exact(b6.cE a).jX a f n V ⟨λ_ _=>⟨sx,sx⟩,c⟩
 .simp only[bQ]at e
  exact(b6.cE a).jX a f n V ⟨λ_ h=>⟨sx,λ_=>h.arg (by simp[e])⟩,c⟩
 .simp only[bh]at H
  have ae:=b6.ga.aT cH
  refine b6.lO j V q (G.len:Int) λK m7 k0 k1 b7 S f7=>⟨S 4,b7.lO j V q 4 λv Q _ _ d g8 f8=>⟨g8 4,k0,V,?_⟩⟩
  let⟨af,g9,f9,q9⟩:=GI.eE d.ga (((((Y.N R).fz [i]).N f6).N f7).N f8) (k:=K.toNat) cC v
  have yb:=d.hi
  refine⟨af,λp c=>q9 p cC,BI.jX (k:=u.size) (l:=r.set K.toNat v) (f:=A) ⟨g9,GI.me d.gj (q9 _ (uK U)),U,⟨d.s.f.aW (bH V) _ _,a.aW d.s.r d.s.f V _ _⟩,⟨V,by simpa using tD c.1,tD c.2⟩,V,V,V,by rw[bE];omega⟩ a f n V ⟨λ_ h=>⟨h.yJ,λe=>by simpa using h.arg e⟩,sp c⟩⟩
 .refine(Cy o g).jS.aP λ_ m7⟨p,e,K⟩=>⟨K.fg λp c=>Yx (q p c) b6.hi,p,e,λ_=>?_,λ_=>w (b6.to j (K.fz _) (b6.s.r.ext K)) V⟩
  exact(b6.to j (K.fz _) (b6.s.r.ext K)).lO j V q 4 λv Q _ _ d _ _=>(d.cE a).jX a f n V ⟨λ_ h=>⟨h.yJ,h.arg⟩,c⟩
 .simp only[bQ]at e
  exact b6.lO j V q 9 λv Q _ _ d _ _=>(d.cE a).jX a f n V ⟨λ_ h=>⟨λh=>by simp[e]at h,h.arg⟩,c⟩
 .simp only[bQ]at e
  exact b6.lO j V q 3 λv Q _ _ d _ _=>(d.cE a).jX a f n V ⟨λ_ h=>⟨λh=>by simp[e]at h,h.arg⟩,c⟩
end
section
def RA(M:D)(c:ae)(x:dS×E):Prop:=∃a b,c=[.s a,.s b,.i x.1.bP,.i x.1.aU,.s x.2]/\bg M a x.1.aY/\bg M b x.1.cW
def RA.aP:qF 5 RA:=⟨λh⟨a,b,e,c,d⟩=>⟨a,b,e,c.le h,d.le h⟩,λ⟨_,_,e,_⟩=>by rw[e];rfl⟩
def hd(x:dS×E):dS×E:=({x.1 with cD:=[]},x.2)
abbrev Ks(l:aA):ad:=l.map λx=>x.2.bt
@[grind cases] structure sJ (S:ad) (m0 M:D) (dd q:E) (ds:af) (l:aA):Prop where
 d:dw (di (q.bt::(Ks l++S)) M) dd ds
 g:Gr (Ks l++S) m0 M lE 5 RA q (l.map hd)
 c:∀x∈l,Gr (q.bt::(Ks l++S)) m0 M ee 6 eW x.2 x.1.cD
 nd:(Ks l).Nodup
 lt:∀b∈S,b<M.size
 nq:q.bt∉S
 nc:∀x∈l,x.2.bt∉S
variable{S S' Y:ad}{e k M j:D}{f q:E}{h:af}{l:aA}
def sJ.kq(a:sJ S e M f q h l):∀x∈l,x.2.bt≠q.bt:=by grind [sJ.c,Gr.Qm,sJ.g]
def sJ.re(c:sJ S e M f q h l)(m:Fz Y M j)(d:∀b∈Y,b∈S)(p:∀b∈S',(b∈S\/M.size<=b)/\b<j.size)(n:k.size<=e.size):sJ S' k j f q h l:=by
 have s:=c.g.cF;have r:∀{b:Nat},b∈Ks l++S'->b∈Ks l++S\/M.size<=b:=λa=>by
  grind [List.mem_append_left,List.mem_append_right]
 have o:∀{b:Nat},b∈q.bt::(Ks l++S')->b∈q.bt::(Ks l++S)\/M.size<=b:=λa=>by
  grind [List.mem_cons_of_mem]
 refine⟨c.d.le (m.di (λb a=>by simp[d b a]) λb a=>o a),Gr.de RA.aP (c.g.re RA.aP m (λb a=>by simp[d b a]) (λg=>c.nq (d _ g)) λb a=>r a) (λb a=>bz a) n,λx i=>Gr.de eW.aP ((c.c x i).re eW.aP m (λb a=>by simp[d b a]) (λg=>c.nc x i (d _ g)) λb a=>o a) (λb a=>bz a) n,c.nd,λb a=>(p b a).2,λg=>?_,λx i g=>?_⟩
 .grind [sJ.nq]
 .have:=(c.c x i).cF;grind [sJ.nc]
def sJ.cD(a:sJ S e M f q h l){y:dS×E}(b:y∈l)(i:y.1.cD.length<=10^12):iz (di (q.bt::S) M) y.2 y.1.cD:=
 have g:=(a.c y b).re eW.aP (Fz.cX [] M) bO bO λc d=>bz cC
 g.sa eW.aP (by simp;exact⟨a.kq y b,a.nc y b⟩) cH V
def sJ.gr(g:sJ S e M f q h l)(u:∀x∈l,x.1.cD.length<=10^12):Gr S e M lE 5 oK q (l.map (·.1)):=by
 let⟨v,n,z,r⟩:=g.g;refine⟨v,n,z,sp r.aT,r.aQ,λk m x t b=>?_⟩;rw[eB]at b;cases c:l[k]? with
 |none=>simp[c]at b
 |some y=>
  simp[c]at b;subst b;let⟨j,d,a,o,p⟩:=r.eR k m (hd y) t (by simp[c]);have i:=ba c;have w:Le (di (q.bt::(Ks l++S)) M) (di (q.bt::S) M):=kW M λd s=>by rcases aZ.1 s with a|a<;>simp[a]
  exact⟨j,d,y.2,a,o.le w,p.le w,g.cD i (u y i)⟩
def sJ.Ch{L:ad}{j G:D}{t b ks:E}{p:dS}{g tb i:Nat}{bc:ae}{Q:D->Prop}(n:sJ S e M f q h l)(x:J M j)(R:Gr (q.bt::(Ks l++S)) G j ee 6 eW ks p.cD)(h8:M.size<=G.size)
 (ha:bg (di (ks.bt::q.bt::(Ks l++S)) j) t p.aY)(d:bg (di (ks.bt::q.bt::(Ks l++S)) j) b p.cW)(aa:dJ M g tb bc)(hi:i<bc.length)(v:e.size<=g/\g∈S)(T:∀b∈L,b<j.size/\b≠g/\b≠q.bt)(hl:l.length<=1000)(U:J e M)
 (hk:∀r k,sJ S e k f r h (l++[(p,ks)])->dJ k g tb (jm bc i [.s r])->J e k->Q k):
 aS (j.push (.cells (dh [.s t,.s b,.i p.bP,.i p.aU,.s ks]) lE)) g i=aS j g i/\
 mf (j.push (.cells (dh [.s t,.s b,.i p.bP,.i p.aU,.s ks]) lE)) lE [.s .nil,.s .nil,.i 0,.i 0,.s .nil] 88 q (.mk j.size 0 1 1) λr k=>gT L (j.push (.cells (dh [.s t,.s b,.i p.bP,.i p.aU,.s ks]) lE)) k/\gK k g i 1/\(gT L k (aW k g i [.s r])/\Q (aW k g i [.s r])):=by
 have z:=aa.ext x
 have W:=J.push j (.cells (dh [.s t,.s b,.i p.bP,.i p.aU,.s ks]) lE)
 have yk:=R.cF
 have yq:=n.g.cF
 have hq:q.bt≠g:=λc=>n.nq ((c▸v.2))
 have kx:ks.bt∉S:=λo=>by have:=n.lt _ o;omega
 have ck:∀y∈l,y.2.bt<M.size:=λy s=>(n.c y s).cF.2
 have I:∀b∈Ks (l++[(p,ks)])++S,b∈Ks l++S\/b=ks.bt:=λb d=>by
  simp only[Ks,kJ,eP,jg,bT,Gz]at d⊢;rcases d with(c|c)|c<;>simp[c]
 have g1:=n.g.re RA.aP (x.fz []) bO bO λb d=>(I b d).imp id λc=>V
 have Z:Le (di (ks.bt::q.bt::(Ks l++S)) j) (di (q.bt::(Ks (l++[(p,ks)])++S)) j):=kW j λb d=>by
  rcases aZ.1 d with c|c
  .simp[c]
  .rcases I b c with c|c
   .exact aX _ (aX _ c)
   .simp[c]
 refine⟨bD (W.bB g z.lt) i,Gr.nI (m:=hd (p,ks)) RA.aP cH g1 ((U.N x).fz []) ⟨t,b,O,ha.le Z,d.le Z⟩ fu λr k ac ab K F=>?_⟩
 have N:=z.congr (F g z.lt (uK hq))
 have hr:r.bt≠g:=by have:=z.lt;omega
 have A:∀b,b≠g->(aW k g i [.s r])[b]? =k[b]? :=λb d=>cw _ _ _ _ d
 have P:Fz [q.bt,g] j (aW k g i [.s r]):=⟨by rw[bE];exact K.1,λb d w=>(A b (by simp at w;omega)).trans (F b d (by simp at w;omega))⟩
 have B:Fz [q.bt,g] M (aW k g i [.s r]):=(x.fz _).N P
 have F0:J e (aW k g i [.s r]):=(ab.aW (bH v.1) _ _).ext
 have X:∀b∈r.bt::(Ks (l++[(p,ks)])++S),(b∈q.bt::(Ks l++S)\/b=ks.bt)\/j.size<=b:=λb d=>by
  rcases aZ.1 d with c|c
  .rcases K.2 with u|u
   .exact bz (bz (by simp[c,u]))
   .exact bH V
  .exact bz ((I b c).imp (aX _) id)
 have Y:∀b∈r.bt::(Ks (l++[(p,ks)])++S),b∈q.bt::(Ks l++S)\/M.size<=b:=λb d=>(X b d).elim (λc=>c.imp id λc=>V) λc=>bH V
 have H:∀b∈[q.bt,g],b∈q.bt::(Ks l++S):=λb d=>by simp at d;rcases d with c|c<;>simp[c,v.2]
 refine⟨λb d=>?_,N.gK V,λb d=>A b (T b d).2.1,hk r _ ⟨n.d.le (B.di H Y),?_,λy s=>?_,?_,λb d=>?_,λo=>?_,λy s o=>?_⟩ (dJ.aW (m:=k) N) F0⟩
 .have C:=T b d
  rw[F b V C.2.2,W.bB b V]
 .rw[kJ]
  let⟨g0,C,g1,g2⟩:=ac
  exact⟨g0,C,g1.congr (A _ hr),g2.aP λcs y=>RA.aP.le (mH λb d w=>⟨w,A b λc=>w (by rw[c];simp[v.2])⟩)⟩
 .rcases bT.1 s with c|c
  .exact(n.c y c).re eW.aP B H (by simp;exact⟨n.kq y c,λu=>n.nc y c (u▸v.2)⟩) Y
  .simp at c
   subst c
   let⟨af,C,ag,rr⟩:=R
   have w:Gr (ks.bt::q.bt::(Ks l++S)) G j ee 6 eW ks p.cD:=⟨af,C,ag,rr.aP λcs y=>eW.aP.le (kW j λb d=>by
    rcases aZ.1 d with c|c
    .simp[c]
    .exact c)⟩
   exact Gr.de eW.aP (w.re eW.aP P (λb d=>aX _ (H b d)) (by simp;exact⟨V,λu=>kx (u▸v.2)⟩) λb d=>(X b d).imp (λc=>c.elim (aX _) λc=>by simp[c]) id) (λb d=>bz d) (oh U.aQ)
 .simp only[Ks,kJ,eP,jg]
  refine List.nodup_append.2 ⟨n.nd,bO,λb d u o=>?_⟩
  simp at o d
  obtain⟨w,C,s,rfl⟩:=d
  have:=ck _ s
  simp at this;omega
 .have:=n.lt b d
  have:=B.aQ
  omega
 .rcases K.2 with c|c
  .exact n.nq (c▸o)
  .have:=n.lt _ o;omega
 .rcases bT.1 s with c|c
  .exact n.nc y c o
  .simp at c
   subst c
   exact kx o
end
def AU{g:ad}{m:D}(R:∀c∈g,c<m.size){ac ak:E}{F:af}{z:av}(hd:dw m ac F)(ht:eT F)(hp:ly m ak z)(ah:Ek z):
 bJ dP 131 [.agg #[ac.v,ak.v]] m λN Y=>∃s q l,N=.agg #[s.v,q.v]/\sJ g m Y s q F l/\l.map (·.1)=z/\J m Y:=by
 apply Fu
 simp -zeta only[dT]
 intro b a2
 let⟨x2,hl⟩:=fV (a:=b) (c:=a2) O O
 have s1:=pz b
 have aE:=hp.aT;have aD:=ah.pP
 refine(jz (b:=b.size::g) (dH R x2.aQ (hl _ bO)) (hd.le x2.le) ht).aP λ_ y⟨s,e,ar,x3⟩=>?_
 subst e
 refine⟨x3.fg hl,_,O,?_⟩
 intro h ay aj
 have Z:=x2.N x3
 let⟨x5,B0,g0,s3,s5⟩:=ov (b:=h.size::b.size::g) RA.aP (d:=y) (a:=h) (c:=ay) (j:=aj) O O O
 have ag:∀c∈[b.size,m.size],c<y.size:=λc d=>x3.lt (hl c d)
 have i1:=ag b.size bO
 have z2:=Z.aQ
 have A0:sJ (h.size::b.size::g) y aj s (.mk y.size 0 0 0) F []:=⟨ar.le (x5.di λf o=>by
  simp only[Ks,jg,iy,aZ]at o;rcases o with e|e|e
  .exact bH ((e▸bY))
  .exact bH V
  .exact bz (aZ.2 e)),g0,bO,bO,λf o=>by
   simp only[aZ]at o;rcases o with e|e|e
   .omega
   .omega
   .have:=R f e;omega,λd=>by
   simp only[aZ]at d;rcases d with e|e|e
   .simp at e;omega
   .simp at e;omega
   .have:=R _ e;simp at this;omega,bO⟩
 refine iC (n:=z.length) V (λX M=>J y M/\∃j l,sJ (h.size::b.size::g) y M s j F l/\dJ M h.size mj [.s s,.s j]/\l.map (·.1)=z.take X) ⟨x5,_,[],A0,B0,O⟩ ?_
 rintro X M aB μ hk ⟨xM,j,l,A,B,T⟩ aA
 have zM:=xM.aQ
 refine dit (λw=>?_) λw=>?_
 .let⟨q,hq⟩:=dY z X
  have W:=ah.eR q (ba hq)
  have q3:=W.aY;have q4:=W.cW;have qf:=W.pP
  have v6:=Z.N xM
  let⟨aC,f,c,c1,c2,c3,e0,e1,e2,e3,e4⟩:=hp.br hq
  have G:∀{N:Value}{f x:Nat},aS m f x=some N->aS M f x=some N:=λw=>v6.aS w
  refine⟨V,V,_,G e0,_,G e1,_,G e2,_,G e3,_,G e4,?_⟩
  intro m7 r
  obtain⟨Q,-,s8⟩:=kZ (a:=r) O O O
  have U:∀c∈[M.size,b.size,m.size],c<r.size:=λc d=>by
   rcases aZ.1 d with e|e
   .omega
   .have:=ag c e;omega
  have w8:=v6.N Q
  have hT:∀{v:D},M.size<=v.size->∀c∈j.bt::(Ks l++(h.size::b.size::g)),c<v.size:=λw c d=>by
   rcases aZ.1 d with e|e
   .have:=A.g.cF;omega
   .rcases bT.1 e with e|e
    .obtain⟨t,k,rfl⟩:=fA.1 e;have:=(A.c t k).cF;omega
    .have:=A.lt c e;omega
  intro m9
  have x9:=px m9
  have ap:Gr (j.bt::(Ks l++(h.size::b.size::g))) r m9 ee 6 eW (.mk r.size 0 0 0) []:=Gr.bI _ bY
  have aq:=c3.aT
  refine gN (n:=q.cD.length) (aq▸c3.kM) (λab ks t=>J r t/\Gr (j.bt::(Ks l++(h.size::b.size::g))) r t ee 6 eW ks (q.cD.take ab)) ⟨x9,ap⟩ ?_
  rintro ab ks t I2 μ2 hj ⟨k,H⟩ az
  have X2:=w8.N k
  have z2:=k.aQ
  have ax:∀c∈[M.size,b.size,m.size],c<t.size:=λc d=>k.lt (U c d)
  refine dit (λh2=>?_) λh2=>?_
  .let⟨K,C⟩:=dY q.cD ab
   let⟨pa,pj,ha,aw,P,ae,ai,am,an,ao⟩:=(iz.ext X2 c3).br C
   have yk:=H.cF
   refine⟨V,V,_,P,_,ae,_,ai,_,am,_,an,_,ao,?_⟩
   refine(AX (S:=ks.bt::j.bt::(Ks l++(h.size::b.size::g))) (λc d=>?_) ha aw (W.pJ K (ba C))).aP λN aF⟨a',j',e,aa,au,u⟩=>⟨λc d=>u.bB c (ax c d),_,_,_,_,_,_,e,?_⟩
   .rcases aZ.1 d with e|e
    .omega
    .exact hT V c e
   intro aG
   refine Gr.nI (h:=[.i 0,.i 0,.i 0,.i 0,.s .nil,.s .nil]) (m:=K) eW.aP cH (H.ext eW.aP u) ((k.N u).fz []) ⟨a',j',O,aa,au⟩ fu λal M3 g3 I z3 aH=>⟨J.sY ((k.N u).cz _) I.ext U,az V _ _ ⟨I.ext,?_⟩⟩
   rw[bW C];exact g3
  .rw[eY V]at H
   have u:∀{M1 t:D},J r M1->J M1 t->∀f,f<r.size->∀x,aS t f x=aS M1 f x:=λw h' f o x=>bD (h'.bB f (w.lt o)) x
   have I:M.size<r.size:=V
   have i2:h.size<r.size:=cr B.lt Q.aQ
   refine⟨j,(B.ext (Q.N k)).dg 1,?_⟩
   refine(dF [] (c1.ext X2) V).bL k U λa' _ ao ga e C K=>⟨_,O,u k C _ I _,u k C _ I _,u k C _ I _,u k C _ i2 _,?_⟩
   subst e
   refine(dF [] (c2.ext (w8.N K)) V).bL K U λb' _ ai gb e P am=>⟨_,O,u K P _ I _,u K P _ I _,u K P _ i2 _,?_⟩
   subst e
   intro au
   have aw:=am.aQ
   have yk:=H.cF
   have ae:∀{v:D},t.size<=v.size->∀c∈ks.bt::j.bt::(Ks l++(h.size::b.size::g)),c<v.size:=λw c d=>by
    rcases aZ.1 d with e|e
    .omega
    .exact hT V c e
   have aa:bg (di (ks.bt::j.bt::(Ks l++(h.size::b.size::g))) ai) a' q.aY:=(GI.cB (GI.jS ga) (ae bY) V).le P.eX
   have an:bg (di (ks.bt::j.bt::(Ks l++(h.size::b.size::g))) ai) b' q.cW:=GI.cB (GI.jS gb) (ae C.aQ) V
   have ll:l.length=X:=by have:=jR List.length T;simp at this;omega
   have yq:=A.g.cF
   exact A.Ch (i:=1) (bc:=[.s s,.s j]) (tb:=mj) (p:=⟨q.aY,q.cW,q.bP,q.aU,q.cD⟩) (L:=[M.size,b.size,m.size]) (Q.N am) (H.ext eW.aP (C.N P)) V aa an B bO ⟨V,bO⟩ (λc d=>by
    have hn:=A.nq;simp only[aZ,CL]at d hn;have:=Q.aQ;have:=B.lt;rcases d with e|e|e|e
    .omega
    .omega
    .omega
    .simp at e) V xM λal Y A' B' x'=>aA V Y ⟨x',al,_,A',B',by rw[bW hq,kJ,T];rfl⟩
 .refine⟨s,B.dg 0,j,B.dg 1,?_⟩
  intro v
  rw[eY V]at T
  have k:Fz [b.size] M v:=(Fz.cX _ M).aW (bz bO) _ _
  exact⟨s,j,l,O,A.re k bO (λf o=>⟨bz (by simp[o]),Yx (R f o) k.aQ⟩) Z.aQ,T,(Z.N xM).aW V _ _⟩
section
variable{cs:ae}{p:dS}{y:Instr}
theorem Lb{α:Type}{l:List α}{f:Nat}{x:α}(h:l[f]? =some x):l.set f x=l:=by
 apply eA;grind [bC]
section
variable{a L B X:ad}{g m M:D}{d q c:E}{e:af}{l:aA}{b Q f k:Nat}{x:dS×E}
def BS.psh(h:BS B b c m Q M){o:Obj}:BS (M.size::B) b c m Q (M.push o):=⟨h.s.ext (J.push M o),λa d=>by
 have z:=h.s.f.aQ;rw[Array.size_push];rcases aZ.1 d with e|e
 .omega
 .have:=h.j7 a e;omega⟩
def sJ.pP(h:Ek (l.map (·.1)))(a:x∈l):ZP x.1:=by grind [Ek.eR]
def sJ.aT(h:sJ a g M d q e l):q.len=l.length:=by grind [sJ.g,Gr.aT]
def sJ.kv(o:sJ a g M d q e l)(k:l[f]? =some x):∃b c:E,aS M q.bt (q.off+f*5)=some b.v/\aS M q.bt (q.off+f*5+1)=some c.v/\aS M q.bt (q.off+f*5+2)=some (vi x.1.bP)/\aS M q.bt (q.off+f*5+3)=some (vi x.1.aU)/\aS M q.bt (q.off+f*5+4)=some (E.v x.2)/\bg (di (q.bt::a) M) b x.1.aY/\bg (di (q.bt::a) M) c x.1.cW:=by
 let⟨z,m,v,r⟩:=o.g;have y:=bC k;have t:f<m.length:=by have:=r.aT;simp at this;omega
 let⟨cs,j⟩:=jq t;let⟨b,c,n,p,s⟩:=r.eR f cs (hd x) j (by simp[k]);have kv:=v.kv;have w:Le (di (q.bt::(Ks l++a)) M) (di (q.bt::a) M):=by grind [kW]
 have br:∀i h,cs[i]? =some h->aS M q.bt (q.off+f*5+i)=some h.v:=λi h u=>by
  have:=kv (f*5+i) h (j9 r.aQ j u);grind [Nat.add_assoc]
 subst n;exact⟨b,c,br 0 _ O,br 1 _ O,br 2 _ O,br 3 _ O,br 4 _ O,p.le w,s.le w⟩
def sJ.it(h:sJ a g M d q e l)(i:l.length<=1000)(c:∀x∈l,x.1.cD.length<=10^12):IT (di a M) d q (e,l.map (·.1)):=
 ⟨h.d.le (kW M λf b=>by simp[b]),(h.gr c).sa oK.aP h.nq cH cC⟩
def sJ.afX(h:sJ a g M d q e l)(j:Fz X g M)(r:l.length<=1000)(i:∀x∈l,x.1.cD.length<=10^12)(o:k<l.length)(m:oK (di (q.bt::a) M) cs p):
 gK M q.bt (q.off+k*5) 5/\∃n,IT (di a (aW M q.bt (q.off+k*5) cs)) d q (e,n):=by
 obtain⟨w,f,-,-⟩:=(h.gr i).eE oK.aP j (k:=k) cC m
 have F:Fz [q.bt] M (aW M q.bt (q.off+k*5) cs):=by grind [Fz.cX,Fz.aW]
 exact⟨w,_,h.d.le (F.di (λc b=>by simp at b;simp[b]) λc b=>bz (by simp[b])),f.sa oK.aP h.nq cH cC⟩
def sJ.wr(h:sJ a g M d q e l)(t:Fz X g M)(A:l[f]? =some x)(v:k<x.1.cD.length)(B:eW (di (q.bt::(Ks l++a)) M) cs y):
 gK M x.2.bt (x.2.off+k*6) 6/\sJ a g (aW M x.2.bt (x.2.off+k*6) cs) d q e (l.set f ({x.1 with cD:=x.1.cD.set k y},x.2)):=by
 have p:=ba A
 have G:x.2.bt∈Ks l:=cC
 have C:∀b∈x.2.bt::q.bt::(Ks l++a),b∈q.bt::(Ks l++a):=λb i=>by
  grind [List.mem_cons_of_mem,List.mem_append_left]
 obtain⟨D,s,-,E⟩:=(h.c x p).eE eW.aP t v (eW.le (kW M C) B)
 have F:Fz [x.2.bt] M (aW M x.2.bt (x.2.off+k*6) cs):=by grind [Fz.cX,Fz.aW]
 have o:∀b∈[x.2.bt],b∈Ks l++a:=by grind [List.mem_append_left]
 have m:Ks (l.set f ({x.1 with cD:=x.1.cD.set k y},x.2))=Ks l:=by
  grind [List.map_set,Lb]
 have u:(l.set f ({x.1 with cD:=x.1.cD.set k y},x.2)).map hd=l.map hd:=by
  grind [List.map_set,Lb,hd]
 have r:∀z∈l.set f ({x.1 with cD:=x.1.cD.set k y},x.2),z=({x.1 with cD:=x.1.cD.set k y},x.2)\/z∈l/\z.2.bt≠x.2.bt:=λz j=>by
  let⟨H,n⟩:=db.1 j;rw[IM]at n;split at n
  .grind
  .next hne=>
   refine bH ⟨ba n,λc=>hne ?_⟩;have w:f<(Ks l).length:=by grind [bC]
   exact(List.getElem?_inj w h.nd).1 cC
 refine⟨D,?_,?_,λz j=>?_,by rw[m];exact h.nd,λb i=>by rw[bE];exact h.lt b i,h.nq,λz j=>?_⟩
 .rw[m];exact h.d.le (F.eX λb i=>aX _ (o b i))
 .rw[m,u];exact h.g.P9 RA.aP F o (by simp;exactλc=>h.kq x p c.symm)
 .rw[m]
  rcases r z j with c|⟨c,w⟩
  .rw[c];exact s
  .exact(h.c z c).P9 eW.aP F (λb i=>aX _ (o b i)) cC
 .grind [sJ.nc]
end
def abf{c:av}(h:Ek c){f k:Nat}{x:Instr}(g:c[f]? =some p)(i:p.cD[k]? =some x)(d:ZG x y):Ek (c.set f {p with cD:=p.cD.set k y}):=by
 have b:=h.eR p (ba g);refine⟨sp h.iY,sp h.pP,λq j=>?_⟩;rcases iX j with e|e
 .exact h.eR q e
 .subst e;refine⟨b.aY,b.cW,sp b.iY,sp b.pP,λl z a=>?_,λz a=>?_⟩
  .simp only[IM]at a;split at a
   .next e=>
    subst e;split at a
    .simp at a;subst a;exact d.1 _ (b.cD _ _ i)
    .simp at a
   .exact b.cD _ _ a
  .rcases iX a with e|e
   .exact b.pJ z e
   .rw[e];exact d.2
variable{a:ad}{m:D}{b P:Nat}{c:E}
def MI(hS:∀k∈a,k<m.size)(ab:b∈a)(I:Rd b c P m)(hP:P+100<=10^16){aa p:E}{s:af×av}(ae:IT (di a m) aa p s)(Q:UI s):bJ dP 75 [vp b 0,.agg #[aa.v,p.v]] m (PP IT UI a b c m (P+11)):=by
 apply Fl (b,0);simp -zeta only[dT];have z:=I.lt;intro i ad;have b2:BS [i.size,m.size] b c m P ad:=BS.psh (BS.mE (S:=a) I).1;have R:J m ad:=(J.push m _).N (J.push i _);refine(AU (b2.hS hS) ((ae.1.le fJ).ext R) (xE Q.2) (fY.aP (ly.le fJ ae.2) R λ_ _=>oK.le R.le) Q.1).aP λ_ j⟨w,q,l,e,A,hl,x3⟩=>⟨(b2.lw z λ_ h=>h).fg (x3.fz _),w,q,e,?_⟩;have b3:=b2.to (x3.fz _) (b2.s.r.ext x3);intro m4 Y;obtain⟨b5,-,-⟩:=b3.bU (S:=a) (m1:=m4) (m2:=Y) O O O;obtain⟨x5,-,-⟩:=kZ (M:=j) (c:=m4) (a:=Y) O O O;have A5:sJ ([j.size,i.size,m.size]++a) m Y w q s.1 l:=A.re (x5.fz []) bO (λd f=>⟨by
  rcases aZ.1 f with e|e
  .exact bH V
  .exact bz e,b5.hS hS d f⟩) R.aQ
 refine b5.lO z V (λ_ h=>h) 2 λak m6 i0 i1 b6 f6=>?_;have hB:∀d∈[b],d∈[j.size,i.size,m.size]++a:=by simp[ab]
 have N:∀{u M':D}{l:aA},sJ ([j.size,i.size,m.size]++a) m u w q s.1 l->Fz [b] u M'->sJ ([j.size,i.size,m.size]++a) m M' w q s.1 l:=λh G=>h.re G hB (λd f=>⟨bz f,cr (h.lt d f) G.aQ⟩) bY;refine⟨λL u=>∃n:Nat,L=n/\n<=2/\BS [j.size,i.size,m.size] b c m (P+11 -5*n) u/\∃l,sJ ([j.size,i.size,m.size]++a) m u w q s.1 l/\Ek (l.map (·.1)),λL _=>L.toNat,⟨(ak+1).toNat,by rw[gJ];omega,V,⟨⟨b6.s.f,b6.s.r.aP V⟩,b6.j7⟩,l,N A5 f6,hl▸Q.1⟩,?_⟩;rintro L u ⟨n,rfl,hk,d,l,A,r⟩;refine⟨λh=>?_,λ_=>d.jX IT.mn I bO (x:=(s.1,l.map (·.1))) (A.it (by have:=r.pP;simp at this;omega) λy g=>(sJ.pP r g).pP) ⟨r,Q.2⟩ V⟩;simp only[bh]at h;have ar:=A.aT;have l4:l.length<=4:=sp r.pP;have l0:0<l.length:=sp r.iY;refine d.lO z V (λ_ h=>h) (q.len:Int) λG m7 W f1 b7 f7=>?_;have T:=N A f7;let⟨y,g⟩:=dY l G.toNat;obtain⟨-,-,-,-,-,-,g7,-,-⟩:=T.kv g;have py:=sJ.pP r (ba g);have ap:=(T.cD (ba g) py.pP).aT;have ao:=py.iY;refine⟨W,V,y.2,g7,b7.lO z V (λ_ h=>h) (y.2.len:Int) λal K j0 j1 U f8=>?_⟩;have t:=N T f8;obtain⟨-,-,-,-,-,-,g8,-,-⟩:=t.kv g;let⟨am,B⟩:=dY y.1.cD al.toNat;let⟨an,jj,ha,hj,e0,e1,e2,e3,e4,e5⟩:=(t.cD (ba g) py.pP).br B;have j7:∀{d o:Nat}{ag:Value},aS (di (q.bt::([j.size,i.size,m.size]++a)) K) d o=some ag->aS K d o=some ag:=λh=>(gY.1 h).2;refine⟨W,V,y.2,g8,W,V,y.2,g8,j0,V,_,j7 e0,_,j7 e1,_,j7 e2,_,j7 e3,_,j7 e4,_,j7 e5,?_⟩;have hZ:∀k∈q.bt::(Ks l++([j.size,i.size,m.size]++a)),k<K.size:=λk X=>by
  rcases aZ.1 X with e|e
  .rw[e];exact t.g.cF.2
  .rcases bT.1 e with e|e
   .obtain⟨Z,v,rfl⟩:=fA.1 e;exact(t.c Z v).cF.2
   .exact t.lt k e
 refine(MH hZ U.s.r V (ha.le (kW _ (by simp[ab]))) (hj.le fJ) (py.pJ am (ba B)) ⟨_,py.cD _ _ B⟩).aP λ_ m9⟨C,a',j',e,ai,aj,f,r9,H⟩=>⟨(U.lw z λ_ h=>h).fg H,_,_,_,_,_,_,e,?_⟩;have F:=N t H;have v:=U.to H r9;let⟨Z,ah⟩:=F.wr v.s.f g (bC B) (cs:=[.i C.op,.i C.bA,.i C.cG,.i C.cR,.s a',.s j']) (y:=C) ⟨a',j',O,ai,aj⟩;have yc:=(F.c y (ba g)).cF;have ac:∀o d,d∈q.bt::([j.size,i.size,m.size]++a)->d≠b->aS m9 d o=aS K d o:=λo d f hn=>bD (H.bB d (hZ d ((aZ.1 f).elim (λe=>by simp[e]) λe=>aX _ (na _ e))) (sp hn)) o;have yq:=F.g.cF;have aq:=v.j7 j.size bO;refine⟨ac _ _ bO V,ac _ _ bO V,j0,V,Z,λd f=>cw _ _ _ _ λe=>(F.nc y (ba g)) (by rw[<-e];exact dO _ f),⟨n -1,?_,V,⟨⟨v.s.f.aW (bH V) _ _,(I.aW v.s.r v.s.f V _ _).aP V⟩,λk X=>by rw[bE];exact v.j7 k X⟩,_,ah,?_⟩,?_⟩
 .rw[gJ];omega
 .rw[DZ];exact abf r (by simp[g]) B f
 .rw[gJ];show((n:Int) -1).toNat<(n:Int).toNat;omega
end
section
variable{m:D}{b:Nat}{a j:E}
def BI.mE{L:ad}{i M:D}{k Q:Nat}{l:E}{p q:ab}(h:BI i k b l m Q M a j p q)(o:b<m.size)(u:Q<=10^16)(s:∀e∈L,m.size<=e/\e<=k)(d:ab){g:ae}{n:Nat}(w:g=d.map Ce.i)(A:n=d.length)(z:0<d.length/\d.length<=100){K:Int->D->Prop}
 (y:∀t c,BI i k b l m (Q+1) c a j p q->K t c):bJ dP 77 [vp b 0,E.v (.mk M.size 0 n n)] (M.push (.cells (dh g) bG)) λC c=>gT L (M.push (.cells (dh g) bG)) c/\∃t:Int,C=vi t/\K t c:=
 have:=h.hi
 have x:=J.push M (.cells (dh g) bG)
 have F:=x.aQ
 (IC h.s u d w A z).aP λ_ c⟨t,r,_,B,f⟩=>⟨f.fg λe v=>by have:=s e v;simp only[Gz];omega,t,r,y t c ((h.to o (x.fz _) (h.s.r.ext x)).to o f B.r)⟩
def LD{Z:ad}{P:Nat}{s:E}{x:Instr}(n:∀c∈Z,c<m.size)(c:Rd b s P m)(hP:P+20<=10^16)(U:bg m a x.aO)(W:bg m j x.fU)(o:x.aO.length<=10^12/\x.fU.length<=10^12):
 bJ dP 135 [vp b 0,inV x a j] m (IX Z b s m (P+4) λ_=>True):=by
 apply DO (b,0)
 simp(config:={maxSteps:=1000000}) -zeta only[dT]
 have p:=c.lt
 intro D q
 let⟨H,B⟩:=fV (a:=D) (c:=q) O O
 have h:=pz D
 have s2:q.size=m.size+2:=by simp[q,h]
 refine(AW [] (U.ext H) (W.ext H) o).aP λ_ r⟨K,N,k,L,F,X,S⟩=>⟨S.fg B,_,_,_,_,_,_,k,?_⟩
 intro Y R
 obtain⟨I,-,z5⟩:=kZ (M:=r) (c:=Y) (a:=R) O O O
 have ya:=L.cF;have yj:=F.cF
 have J:=(H.N S).N I
 have b5:BI q r.size b s m P R K N x.aO x.fU:=⟨L.ext I,F.ext I,X,⟨J.fz _,c.ext J⟩,⟨V,tD o.1,tD o.2⟩,V,V,V,V⟩
 have u:∀A∈[r.size,D.size,m.size],m.size<=A/\A<=r.size:=fu
 refine b5.lO p V u 6 λae w _ _ b6 _ f6=>?_
 have y6:=b6.hi
 have sp:∀{v:E}{Q:ab},GI [] q w v Q->Q.length<=10^12->bJ dP 133 [vp b 0,v.v] w λz f=>gT [r.size,D.size,m.size] w f/\∃e,z=e.v/\∃g,GI [] w f e g/\g.length<=1000000000001/\Rd b s (P+4) f/\Fz [b] w f:=λl B=>
  (Bi b6.s.r V (bg.le fJ (l.cB bO B)) B).aP λ_ f⟨e,g,k,T,C,_,y,t⟩=>⟨t.fg λA o=>by have:=u A o;simp only[Gz];omega,e,k,g,T,V,y,t⟩
 refine⟨λ_=>b6.lO p V u 26 λz G _ _ d _ _=>(d.cE c).jX c n h V trivial,λ_=>⟨λ_=>b6.mE p V u [0,1,-1,99] O O bO λz G d=>(d.cE c).jX c n h V trivial,λ_=>⟨λ_=>b6.mE p V u [0,1,5,-1,1000,2000] O O bO λz G d=>(d.cE c).jX c n h V trivial,λ_=>⟨λ_=>b6.mE p V u [0,1,-1,99] O O bO λz G d=>(d.cE c).jX c n h V trivial,λ_=>⟨λ_=>?_,λ_=>⟨λ_=>?_,λ_=>b6.jX c n h V trivial⟩⟩⟩⟩⟩⟩
 .refine(sp b6.ga o.1).aP λ_ f⟨v,e,k,g,l,C,y,t⟩=>⟨v,e,k,?_⟩
  have aa:=l.cF
  have ac:=b6.s.f.aQ
  have i:=b6.to p t y
  have d:BI q r.size b s m (P+4) f e N g x.fU:=⟨l.de bO V,i.gj,oh F.cF,i.s,⟨V,C,b6.lo.2.2⟩,V,V,i.hi.2.2⟩
  exact(d.cE c).jX c n h V trivial
 .refine(sp b6.gj o.2).aP λ_ f⟨v,e,k,g,l,C,y,t⟩=>⟨v,e,k,?_⟩
  have aa:=l.cF
  have ac:=b6.s.f.aQ
  have i:=b6.to p t y
  have d:BI q r.size b s m (P+4) f K e x.aO g:=⟨i.ga,l.de bO V,V,i.s,⟨V,b6.lo.2.1,C⟩,V,V,i.hi.2.2⟩
  exact(d.cE c).jX c n h V trivial
end
section
def AD(a:ad)(b:Nat)(c:E)(m:D)(P:Nat)(v:Value)(d:D):Prop:=∃s e,v=s.v/\dw (di a d) s e/\Rd b c P d/\Fz [b] m d
@[grind cases] structure DD (S:ad) (rb:Nat) (bs:E) (m:D) (Q:Nat) (M:D) (s:E) (ds:af):Prop where
 g:GDl S m M s ds
 r:Rs rb bs m Q M
 l:0<ds.length/\ds.length<=100
variable{a:ad}{b P Q n h:Nat}{c s:E}{m M f:D}{e:af}
def DD.to(h:DD a b c m Q M s e)(g:b∈a/\b<m.size)(d:Fz [b] M f)(r:Rs b c m n f):DD a b c m n f s e:=⟨h.g.fH jO.aP d (by simp;exact g),r,h.l⟩
def DD.ext(h:DD a b c m Q M s e)(x:J M f):DD a b c m Q f s e:=⟨h.g.ext jO.aP x,h.r.ext x,h.l⟩
theorem DD.j7(h:DD a b c m Q M s e)(f:∀d∈a,d<m.size):∀d∈s.bt::a,d<M.size:=by grind [DD.g,Gr.cF,DD.r,Rs.f,Fz.aQ]
def DD.jY(h:DD a b c m Q M s e)(f:∀d∈a,d<m.size)(l:ab){d:ae}{n:Nat}(g:d=l.map Ce.i)(j:n=l.length)(i:l.length<=100):bg (di (s.bt::a) (M.push (.cells (dh d) bG))) (.mk M.size 0 n n) l:=by grind [bg.jY,DD.j7]
def DD.jX(d:DD a b c m Q M s e)(g:∀f∈a,f<m.size)(f:Q<=h):AD a b c m h s.v M:=⟨s,e,O,d.g.cB jO.aP g cH (oh d.l),d.r.r.aP f,d.r.f⟩
def DD.eE(f:DD a b c m Q M s e)(o:∀g∈a,g<m.size)(i:Rd b c P m)(n:Q<=h){k:Int}(p:0<=k/\k<(e.length:Int)){cs:ae}{d:cV}(hd:jO (di (s.bt::a) M) cs d):
 0<=k/\k<(s.len:Int)/\gK M s.bt (s.off+k.toNat*3) 3/\AD a b c m h s.v (aW M s.bt (s.off+k.toNat*3) cs):=by
 have q:=f.g.aT cH
 have y:=f.g.cF
 let⟨w,l,g,j⟩:=f.g.eE jO.aP f.r.f (k:=k.toNat) V hd
 exact⟨p.1,V,w,s,_,O,l.cB jO.aP o cH cC,(i.BP f.r.r g (j b (oh i.lt))).aP n,g⟩
def DD.oE(d:DD a b c m Q M s e)(i:∀g∈a,g<m.size)(k:Rd b c P m)(q:Q<=h){g:ae}{n:Nat}(l:List (cV×ae))(hd:∀x∈l,jO (di (s.bt::a) M) x.2 x.1)(t:g=l.flatMap (·.2))(u:n=l.length)(v:l.length<=100):
 mf (M.push (.cells (dh g) kN)) kN [.i 0,.i 0,.s .nil] 40 s (.mk M.size 0 n n) λr f=>AD a b c m h r.v f:=by
 have x:=J.push M (.cells (dh g) kN)
 have z:=d.g.cF
 have H:=(GW jO.aP (d.j7 i) kN l hd t u).cB jO.aP (d.j7 i) cH fu
 have w:=d.l
 refine Gr.lZ jO.aP cH (d.ext x).g (d.ext x).r.f H fu λr y p j A o=>⟨r,_,O,p.cB jO.aP i cH fu,(k.BP (d.ext x).r.r j (o b (d.ext x).r.r.lt (oh k.lt))).aP q,j⟩
def OB(g:∀y∈a,y<m.size)(N:b∈a)(r:Rd b c P m)(hP:P+100<=10^16):bJ dP 134 [vp b 0] m (AD a b c m (P+6)):=by
 apply Ho (b,0);have hr:=r.lt;have u:b∈a/\b<m.size:=⟨N,hr⟩;refine(AZ g N r V).aP λ_ m1⟨s,e,h,g1,ac,d1,f1⟩=>⟨s,h,?_⟩;have R:DD a b c m (P+1) m1 s e:=⟨g1,⟨f1,d1⟩,oh (tV e ac)⟩;have sl:=g1.aT cH;have dl:=R.l;refine(dW d1 V (s.len:Int)).aP λ_ m2⟨I,h,k0,k1,d2,f2⟩=>⟨I,h,?_⟩;have Z:=R.to u f2 (R.r.to f2 d2);have L:0<=I/\I<(e.length:Int):=V;refine(dW d2 V 14).aP λ_ K⟨ad,h,_,_,d3,f3⟩=>⟨ad,h,?_⟩;have k:=Z.to u f3 (Z.r.to f3 d3);have Q:∀{M:D},CSl M .nil []:=⟨O,jh _,bO,bO⟩;have v:∀{M f:D},J M f->Le (di (s.bt::a) M) (di (s.bt::a) f):=λX=>X.eX;refine⟨λ_=>?_,λ_=>⟨λ_=>?_,λ_=>⟨λ_=>?_,λ_=>⟨λ_=>?_,λ_=>⟨λ_=>?_,λ_=>⟨λ_=>k.oE g r V [(⟨0,0,[]⟩,[.i 0,.i 0,.s .nil]),(⟨3,0,[]⟩,[.i 3,.i 0,.s .nil])] (by simp;exact⟨⟨.nil,O,Q⟩,⟨.nil,O,Q⟩⟩) O O bO,λ_=>k.jX g V⟩⟩⟩⟩⟩⟩
 .refine(IC k.r V [-1,5,0,2] O O bO).aP λ_ p⟨t,h,_,C,q⟩=>⟨t,h,?_⟩;have o:=(k.ext (J.push K _)).to u q C;refine(IC C V [0,1,5] O O bO).aP λ_ l⟨w,h,_,z,x⟩=>⟨w,h,?_⟩;have n:=(o.ext (J.push p _)).to u x z;exact n.eE g r V L (d:=⟨t,w,[]⟩) ⟨.nil,O,Q⟩
 .refine(IC k.r V [-1,0,4,5] O O bO).aP λ_ p⟨t,h,_,C,q⟩=>⟨t,h,?_⟩;have o:=(k.ext (J.push K _)).to u q C;have H:=o.jY g [t] O O bO;refine Iq λl x=>?_;have n:=(o.ext (J.push p _)).ext x;have a2:=n.jY g [0,0,0,0] O O bO;refine Iq λw z=>?_;have E:=(n.ext (J.push l _)).ext z;have a3:=E.jY g [] O O bO;refine Iq λB A=>?_;have F:=(E.ext (J.push w _)).ext A;have G:=(J.push w (.cells (dh []) bG)).N A;have U:=((J.push l (.cells (dh [.i 0,.i 0,.i 0,.i 0]) bG)).N z);have y:=Bz (F.j7 g) ns [([t],.mk p.size 0 1 1),([0,0,0,0],.mk l.size 0 4 4),([],.mk w.size 0 0 0)] bO (by
   simp only[aZ,nm,GH,forall_eq_or_imp,forall_eq];exact⟨H.le (v ((x.N U).N G)),a2.le (v (z.N G)),a3.le (v A)⟩) O O
  exact(F.ext (J.push B _)).eE g r V L (d:=⟨0,0,_⟩) ⟨_,O,y⟩
 .have H:=k.jY g [eV (I+1)] O O bO;refine Iq λl x=>?_;have n:=(k.ext (J.push K _)).ext x;have y:=Bz (n.j7 g) ns [([eV (I+1)],.mk K.size 0 1 1)] bO (by
   simp only[aZ,nm,GH,forall_eq];exact H.le (v x)) O O
  exact(n.ext (J.push l _)).eE g r V L (d:=⟨0,0,_⟩) ⟨_,O,y⟩
 .refine(IC k.r V [0,2,1] O O bO).aP λ_ p⟨t,h,_,C,q⟩=>⟨t,h,?_⟩;have o:=(k.ext (J.push K _)).to u q C;exact o.oE g r V [(⟨2,t,[]⟩,[.i 2,.i t,.s .nil])] (by simp;exact⟨.nil,O,Q⟩) O O bO
 .refine(dW k.r.r V 2).aP λ_ p⟨t,h,_,_,d4,q⟩=>⟨t,h,?_⟩;have o:=k.to u q (k.r.to q d4);have H:=o.jY g [] O O bO;refine Iq λl x=>?_;have n:=(o.ext (J.push p _)).ext x;have a2:=n.jY g [2] O O bO;refine Iq λw z=>?_;have E:=(n.ext (J.push l _)).ext z;have a3:=E.jY g [] O O bO;refine Iq λB A=>?_;have F:=(E.ext (J.push w _)).ext A;have a4:=F.jY g [] O O bO;refine Iq λm8 Y=>?_;have D8:=(F.ext (J.push B _)).ext Y;have W:=(J.push B (.cells (dh []) bG)).N Y;have G:=(J.push w (.cells (dh []) bG)).N A;have U:=((J.push l (.cells (dh [.i 2]) bG)).N z);have y:=Bz (D8.j7 g) ns [([],.mk p.size 0 0 0),([2],.mk l.size 0 1 1),([],.mk w.size 0 0 0),([],.mk B.size 0 0 0)] bO (by
   simp only[aZ,nm,GH,forall_eq_or_imp,forall_eq];exact⟨H.le (v (((x.N U).N G).N W)),a2.le (v ((z.N G).N W)),a3.le (v (A.N W)),a4.le (v Y)⟩) O O
  have T:=D8.ext (J.push m8 (.cells (dh [.s (.mk p.size 0 0 0),.s (.mk l.size 0 1 1),.s (.mk w.size 0 0 0),.s (.mk B.size 0 0 0)]) ns));refine(dW T.r.r V 3).aP λ_ ae⟨aa,h,j0,j1,ab,C⟩=>⟨aa,h,j0,fu,bO,?_⟩;have c':=(fY.le y (C.eX (S:=s.bt::a) (by simp[N])) λcs X=>nD.le (C.eX (by simp[N])) cs X).PI (i:=aa.toNat) (j:=4) V bO;exact(T.to u C (T.r.to C ab)).eE g r V L (d:=⟨t,0,_⟩) ⟨_,O,c'⟩
end
section
def Tr{α:Type}(_:α):Prop:=True
variable{a:ad}{m:D}{b P:Nat}{c:E}
def zt(hS:∀u∈a,u<m.size)(X:b∈a)(W:Rd b c P m)(hP:P+200<=10^16){al an:E}{x:af×av}(t:IT (di a m) al an x)(ao:UI x)(ax:Int):bJ dP 76 [vp b 0,.agg #[E.v al,E.v an],vi ax] m (PP IT Tr a b c m (P+10)):=by
 apply DN (b,0);simp(config:={maxSteps:=1000000}) -zeta only[kU];have A:=W.lt;intro d am;have b2:BS [d.size,m.size] b c m P am:=BS.psh (BS.mE (S:=a) W).1;have x2:J m am:=(J.push m _).N (J.push d _);have s1:d.size=m.size+1:=by simp[d]
 have t2:IT (di ([d.size,m.size]++a) am) al an x:=IT.mn _ _ _ _ _ (x2.di λf o=>by
  simp at o;rcases o with e|e|e
  .exact bH V
  .exact bH V
  .exact bz e) t
 refine b2.lO A V (λ_ l=>l) ax λaH m3 _ _ b3 f3=>?_;have t3:=IT.mn _ _ _ _ _ (BS.le X f3) t2;refine⟨λ_=>b3.jX IT.mn W bO t3 trivial V,λ_=>?_⟩;refine(AU (b3.hS hS) (t3.1.le fJ) (xE ao.2) (ly.le fJ t3.2) ao.1).aP λ_ h⟨N,q,F,e,A4,hl,x4⟩=>⟨(b3.lw A λ_ l=>l).fg (x4.fz _),N,q,e,?_⟩;have b4:=b3.to (x4.fz _) (b3.s.r.ext x4);intro m5 m6;obtain⟨b6,-,-⟩:=b4.bU (S:=a) (m1:=m5) (m2:=m6) O O O;obtain⟨x6,-,-⟩:=kZ (c:=m5) (a:=m6) O O O;have A6:=A4.re (x6.fz []) bO (λf o=>⟨by
  rcases aZ.1 o with e|e
  .exact bH V
  .exact bz e,b6.hS hS f o⟩) b3.s.f.aQ
 have ok:=hl▸ao.1;have aN:=A6.aT;have l4:F.length<=4:=sp ok.pP;have l0:0<F.length:=sp ok.iY;have Z:∀y∈F,y.1.cD.length<=10^12:=λy v=>(sJ.pP ok v).pP;refine b6.lO A V (λ_ l=>l) (q.len:Int) λn i f0 f1 b7 f7=>?_;have A7:=A6.re f7 (by simp[X]) (λf o=>⟨bz o,b7.hS hS f o⟩) bY;let⟨y,v⟩:=dY F n.toNat;let⟨ac,f,g0,g1,g2,g3,g4,aE,aF⟩:=A7.kv v;refine⟨f0,V,ac,g0,f,g1,_,g2,_,g3,y.2,g4,?_⟩;intro m8 m9;obtain⟨b9,-,-⟩:=b7.bU (S:=a) (m1:=m8) (m2:=m9) O O O;obtain⟨x9,-,-⟩:=kZ (c:=m8) (a:=m9) O O O;have A9:=A7.re (x9.fz []) bO (λf o=>⟨by
  rcases aZ.1 o with e|e
  .exact bH V
  .exact bz e,b9.hS hS f o⟩) bY
 have jX:∀{M:D}{K:E}{ap:af×av}{Q:Nat},BS [i.size,h.size,d.size,m.size] b c m Q M->IT (di ([i.size,h.size,d.size,m.size]++a) M) K q ap->Q<=P+10->PP IT Tr a b c m (P+10) (.agg #[E.v K,E.v q]) (aW M d.size 0 [.s K,.s q]):=λf t l=>f.jX IT.mn W bO t trivial l;refine⟨λ_=>jX b9 (A9.it V Z) V,λhn=>?_⟩;have hB:∀f∈[b],f∈[i.size,h.size,d.size,m.size]++a:=by simp[X]
 have R:∀{M j:D}{F:aA},sJ ([i.size,h.size,d.size,m.size]++a) m M N q x.1 F->Fz [b] M j->sJ ([i.size,h.size,d.size,m.size]++a) m j N q x.1 F:=λl n=>l.re n hB (λf o=>⟨bz o,cr (l.lt f o) n.aQ⟩) bY;refine b9.lO A V (λ_ l=>l) 8 λaH B _ _ g aq=>?_;have L:=R A9 aq;have au:Le (di (q.bt::([h.size,d.size,m.size]++a)) i) (di (q.bt::([i.size,h.size,d.size,m.size]++a)) B):=(x9.di λf o=>by
  simp only[eN,iy,aZ]at o⊢;rcases o with e|e|e
  .exact bz (bz e)
  .exact bH V
  .exact bz (bH e)).N (aq.eX (by simp[X]))
 have ha:=aE.le au;have o:=aF.le au;have aw:∀{M j:D},Fz [b] M j->Le (di (q.bt::([i.size,h.size,d.size,m.size]++a)) M) (di (q.bt::([i.size,h.size,d.size,m.size]++a)) j):=λn=>n.eX (by simp[X]);have py:=sJ.pP ok (ba v);have done:∀{M:D}{Q:Nat}{w:ae}{ay:dS},BS [i.size,h.size,d.size,m.size] b c m Q M->sJ ([i.size,h.size,d.size,m.size]++a) m M N q x.1 F->oK (di (q.bt::([i.size,h.size,d.size,m.size]++a)) M) w ay->Q<=P+10->
  0<=n/\n<(q.len:Int)/\gK M q.bt (q.off+n.toNat*5) 5/\(gT [i.size,h.size,d.size,m.size] M (aW M q.bt (q.off+n.toNat*5) w)/\PP IT Tr a b c m (P+10) (.agg #[E.v N,E.v q]) (aW (aW M q.bt (q.off+n.toNat*5) w) d.size 0 [.s N,.s q])):=λ{M Q w ay} f G hp hQ=>by
  let⟨T,ps,tt⟩:=G.afX f.s.f V Z (k:=n.toNat) V hp
  have yq:=G.g.cF
  exact⟨f0,V,T,λu I=>cw _ _ _ _ λe=>G.nq ((e▸dO _ I)),jX ⟨f.s.cE W yq.1 _ _,λu I=>by rw[bE];exact f.j7 u I⟩ tt hQ⟩
 have s:∀{M j:D}{Q:Nat},BS [i.size,h.size,d.size,m.size] b c m Q M->Fz [b] M j->∀p,aS j i.size p=aS M i.size p:=λf n p=>kg n A (f.j7 _ bO) p;have U:∀{M j:D}{Q:Nat},BS [i.size,h.size,d.size,m.size] b c m Q M->Fz [b] M j->∀p,aS j h.size p=aS M h.size p:=λf n p=>kg n A (f.j7 _ bO) p;have ak:=L.cD (ba v) py.pP;have ar:=g.hS hS;have lq:∀u∈q.bt::([i.size,h.size,d.size,m.size]++a),u<B.size:=λu I=>(aZ.1 I).elim (λe=>e▸L.g.cF.2) (ar u);have mE:∀(Y:ab){w:ae}{ad:Nat},w=Y.map Ce.i->ad=Y.length->0<Y.length/\Y.length<=100->∀{ai:Int->D->Prop},(∀t j,BS [i.size,h.size,d.size,m.size] b c m (P+4) j->sJ ([i.size,h.size,d.size,m.size]++a) m j N q x.1 F->Le (di (q.bt::([i.size,h.size,d.size,m.size]++a)) B) (di (q.bt::([i.size,h.size,d.size,m.size]++a)) j)->(∀p,aS j i.size p=aS (B.push (.cells (dh w) bG)) i.size p)->(∀p,aS j h.size p=aS (B.push (.cells (dh w) bG)) h.size p)->ai t j)->
  bJ dP 77 [vp b 0,E.v (.mk B.size 0 ad ad)] (B.push (.cells (dh w) bG)) λag j=>gT [i.size,h.size,d.size,m.size] (B.push (.cells (dh w) bG)) j/\∃t:Int,ag=vi t/\ai t j:=λY{w ad} h1 h2 h3{ai} hk=>by
  have x:=J.push B (.cells (dh w) bG)
  have H:=g.to (x.fz _) (g.s.r.ext x)
  exact(IC g.s V Y h1 h2 h3).aP λ_ j⟨t,e,_,aJ,n⟩=>⟨(H.lw A λ_ l=>l).fg n,t,e,hk t j (H.to n aJ.r) (R L ((x.fz _).N n)) (aw ((x.fz _).N n)) (s H n) (U H n)⟩
 refine⟨λ_=>?_,λ_=>⟨λ_=>?_,λ_=>⟨λ_=>?_,λ_=>⟨λ_=>?_,λ_=>?_⟩⟩⟩⟩
 .refine(Bi g.s.r V (o.le fJ) (oh py.cW)).aP λ_ aa⟨K,C,e,aj,az,_,ah,r⟩=>⟨(g.lw A λ_ l=>l).fg r,K,e,s g r _,s g r _,s g r _,s g r _,U g r _,?_⟩;exact done (ay:=⟨y.1.aY,C,y.1.bP,y.1.aU,y.1.cD⟩) (g.to r ah) (R L r) ⟨ac,K,y.2,O,ha.le (aw r),GI.cB (GI.jS aj) lq (by have:=py.cW;show C.length<=_;omega),(R L r).cD (ba v) py.pP⟩ V
 .have x:=(J.push B (.cells (dh [.i 0,.i 1,.i (eV (y.1.aU+1)),.i 2001,.i (-1)]) bG)).fz [b];exact⟨s g x _,s g x _,s g x _,s g x _,U g x _,mE [0,1,eV (y.1.aU+1),2001,-1] O O bO λt j b' G le C e4=>⟨C _,C _,C _,C _,e4 _,done (ay:=⟨y.1.aY,y.1.cW,y.1.bP,t,y.1.cD⟩) b' G ⟨ac,f,y.2,O,ha.le le,o.le le,G.cD (ba v) py.pP⟩ V⟩⟩
 .have x:=(J.push B (.cells (dh [.i 0,.i 1,.i 9]) bG)).fz [b];have Z:=ak.aT;have cc:=ak.mr;have c0:=py.iY;have cf:=py.pP;have ew:eV ((y.2.len:Int) -1)=((y.2.len -1:Nat):Int):=by rw[dk V V];omega
  rw[ew];refine⟨dN 0,V,V,s g x _,s g x _,s g x _,s g x _,s g x _,U g x _,mE [0,1,9] O O bO λt j b' G le C e4=>⟨C _,C _,C _,C _,C _,e4 _,done (ay:=⟨y.1.aY,y.1.cW,t,y.1.aU,y.1.cD.take (y.2.len -1)⟩) b' G ⟨ac,f,y.2.cut 0 (y.2.len -1) 6,O,ha.le le,o.le le,fY.Ts (G.cD (ba v) py.pP) V⟩ V⟩⟩
 .refine(OB ar (by simp[X]) g.s.r V).aP λ_ aa⟨K,C,e,hd,ah,r⟩=>⟨(g.lw A λ_ l=>l).fg r,K,e,U g r _,?_⟩;exact jX (ap:=(C,_)) (g.to r ah) ⟨hd,((R L r).it V Z).2⟩ V
 .have aM:=ak.aT;have aL:=py.iY;refine g.lO A V (λ_ l=>l) (y.2.len:Int) λaI aa j0 j1 H r=>?_;have C:=R L r;obtain⟨-,-,-,-,-,-,aB,-,-⟩:=C.kv v;let⟨ap,hz⟩:=dY y.1.cD aI.toNat;let⟨a',jj,aC,hj,e0,e1,e2,e3,e4,e5⟩:=(C.cD (ba v) py.pP).br hz;have j7:∀{f p:Nat}{ag:Value},aS (di (q.bt::([i.size,h.size,d.size,m.size]++a)) aa) f p=some ag->aS aa f p=some ag:=λl=>(gY.1 l).2;refine⟨f0,V,y.2,aB,j0,V,_,j7 e0,_,j7 e1,_,j7 e2,_,j7 e3,_,j7 e4,_,j7 e5,?_⟩;have hZ:∀u∈q.bt::(Ks F++([i.size,h.size,d.size,m.size]++a)),u<aa.size:=λu I=>by
   rcases aZ.1 I with e|e
   .rw[e];exact C.g.cF.2
   .rcases bT.1 e with e|e
    .obtain⟨T,hw,rfl⟩:=fA.1 e;exact(C.c T hw).cF.2
    .exact C.lt u e
  refine(LD hZ H.s.r V (aC.le fJ) (hj.le fJ) (py.pJ ap (ba hz))).aP λ_ aO⟨z',a2,j2,e,aD,aG,_,aK,G⟩=>⟨(H.lw A λ_ l=>l).fg G,_,_,_,_,_,_,e,?_⟩;have ah:=R C G;have aj:=H.to G aK;let⟨T,az⟩:=ah.wr aj.s.f v (bC hz) ⟨a2,j2,O,aD,aG⟩;have yc:=(ah.c y (ba v)).cF;have yq:=C.g.cF;refine⟨kg G A yq _,U H G _,j0,V,T,λf o=>cw _ _ _ _ λe=>(ah.nc y (ba v)) ((e▸dO _ o)),jX ⟨aj.s.cE W yc.1 _ _,λu I=>by rw[bE];exact aj.j7 u I⟩ (az.it fu λT hw=>?_) V⟩;rcases iX hw with e|e
  .exact Z T e
  .rw[e];simpa using py.pP
def OC(f:∀d∈a,d<m.size)(k:b∈a)(d:Rd b c P m)(J:P+2000+4*(300+40*Cg 18)<=10^16):bJ dP 45 [vp b 0] m (PP IT Tr a b c m (P+50+4*(300+40*Cg 18))):=by
 apply Hp (b,0);simp -zeta only[dT];have e:=d.lt;intro w;obtain⟨b1,-⟩:BS [m.size] b c m P w/\True:=⟨(BS.mE (S:=a) d).1,trivial⟩;refine b1.jt e (λ_ h=>h) (MQ (b1.hS f) (by simp[k]) b1.s.r V) λG R T n p t2 b2 H=>?_;intro L x;obtain⟨b4,u,-⟩:=b2.bU (m2:=x) O O O;have B:=IT.mn _ _ _ _ _ u t2;have j:b∈[n.size,m.size]++a:=by simp[k]
 refine b4.lO e V (λ_ h=>h) 4 λK M _ _ b5 s=>?_;have o:=IT.mn _ _ _ _ _ (BS.le k s) B;refine⟨λ_=>?_,λ_=>b5.jt e (λ_ h=>h) (zt (b5.hS f) j b5.s.r V o p 14) λr A F y E l i t=>i.jX IT.mn d bO l trivial V⟩;refine b5.jt e (λ_ h=>h) (MI (b5.hS f) j b5.s.r V o p) λq z U N D C b6 I=>?_;intro Q;let⟨g,v⟩:=b6.cE (S:=a) d (by simp:n.size∈_) [.s q,.s z];exact g.jt e (λ_ h=>h) (zt (g.hS f) j g.s.r V (IT.mn _ _ _ _ _ v C) D 14) λr A F y E l i t=>i.jX IT.mn d bO l trivial V
end
section
variable{a:Nat}{c:dz}{l:ab}{x:E}{K:E->D->Prop}{i:Int}
def RS{l r:ae}{o:Nat}{c:Ce}(h:l.length<=o):(l++r).set o c=l++r.set (o -l.length) c:=by
 grind [List.set_append_right]
theorem oR:∀(a l r:ae)(o:Nat),l.length<=o->jm (l++r) o a=l++jm r (o -l.length) a
 |[],l,r,o,_=>O
 |c::a,l,r,o,h=>by
  simp only[jm];rw[RS h,oR a l _ (o+1) V];congr 2;omega
theorem sq:∀(a l r:ae)(o:Nat),o+a.length<=l.length->jm (l++r) o a=jm l o a++r
 |[],l,r,o,_=>O
 |c::a,l,r,o,h=>by
  simp only[dD]at h;simp only[jm];rw[afr _ _ V,sq a _ _ (o+1) cC]
def xz{f:Nat}:∀(b:List ae)(a:Nat)(e:ae)(o:Nat)(d:ae),(∀c∈b,c.length=f)->b[a]? =some e->o+d.length<=f->jm b.flatten (a*f+o) d=(b.set a (jm e o d)).flatten
 |[],a,e,o,d,_,h,_=>by simp at h
 |x::b,0,e,o,d,g,h,i=>by
  grind [List.mem_cons_self,List.flatten_cons,sq]
 |x::b,a+1,e,o,d,g,h,i=>by
  have l:=g x cQ;rw[tC,oR _ _ _ _ cC,wG,tC];have j:(a+1)*f+o -x.length=a*f+o:=by grind [Nat.add_mul]
  rw[j,xz b a e o d (λc k=>g c (aX _ k)) cC i]
def _root_.Go.Vc.fL.eE{α:Type}{b:Nat}{R:ae->α->Prop}{c:List ae}{l:List α}(h:fL b R c l)(a:Nat){cs:ae}{x:α}(d:cs.length=b)(e:R cs x):fL b R (c.set a cs) (l.set a x):=by
 constructor<;>grind [fL.aT,List.mem_or_eq_of_mem_set,fL.aQ,bC,List.getElem?_set_self,List.getElem?_set_ne,fL.eR]
def _root_.Go.Vc.fL.Nt{α:Type}{b:Nat}{R:ae->α->Prop}{a:List ae}{l:List α}(h:fL b R a l)(n:Nat):fL b R (a.take n) (l.take n):=by
 constructor<;>grind [fL.aT,fL.aQ,List.mem_of_mem_take,bC,List.getElem?_take_of_lt,fL.eR]
def KF{b:Nat}:∀(a:List ae)(n:Nat),(∀c∈a,c.length=b)->a.flatten.take (n*b)=(a.take n).flatten
 |[],n,_=>bO
 |x::a,0,_=>bO
 |x::a,n+1,h=>by
  have f:=h x cQ;rw[tC,List.take_append,yz cC,List.take_succ_cons,tC];have e:(n+1)*b -x.length=n*b:=by grind [Nat.add_mul]
  rw[e,KF a n λc d=>h c (aX _ d)]
section
variable{N:Nat}{d:ag}{m:D}{b:E}{h:ah}
def gC.aT(e:gC N d m b h):b.len=h.length:=by
 obtain⟨f,c,a,_⟩:=e;have:=c.aT;rw[eD a.aQ,a.aT]at this;omega
def gC.dg(q:gC N d m b h)(e:h[a]? =some c):∃f,aS m b.bt (b.off+a*3)=some (vi c.bX)/\aS m b.bt (b.off+a*3+1)=some (vi c.jH)/\aS m b.bt (b.off+a*3+2)=some f.v/\bg m f c.bV/\FN N d m f c.bV:=by
 obtain⟨l,o,g,_⟩:=q;let⟨k,j⟩:=dY l a cC;obtain⟨f,rfl,p,n⟩:=g.eR a k c j e;have r:=λi c e=>o.kv (a*3+i) c (j9 g.aQ j e);exact⟨f,r 0 (.i c.bX) O,r 1 (.i c.jH) O,r 2 (.s f) O,p,n⟩
def gC.kL(g:gC N d m b h)(t:h.length<=9223372036854775807):jI m b h:=by
 have r:=g.aT;obtain⟨l,a,e,_⟩:=g;refine⟨r,a.le,V,λk x q=>?_⟩;let⟨j,f⟩:=dY l k cC;obtain⟨n,rfl,p,s⟩:=e.eR k j x f q;refine⟨_,⟨n,O,p⟩,λi c o=>?_⟩;have:=a.kv (k*3+i) c (j9 e.aQ f o);grind [Nat.add_assoc]
def gC.wr(g:gC N d m b h){a o n:Nat}(f:a<h.length)(j:o+n<=3):gK m b.bt (b.off+a*3+o) n:=by
 obtain⟨i,e,c,_⟩:=g;rw[kK];exact e.wr (by rw[eD c.aQ,c.aT];have:(a+1)*3<=h.length*3:=fq _ f;omega)
theorem gC.bt(e:gC N d m b h){a:Nat}(i:a<h.length):d b.bt=3/\b.bt<m.size:=by
 have j:=e.aT;obtain⟨f,c,g,_⟩:=e;have:=c.le;have:=c.bt V;exact⟨this.2,this.1⟩
def YR(N:Nat)(d:ag)(m:D)(b:E)(h:ah)(f:E)(l:ab):Prop:=
 l≠[]->(d f.bt=0/\N<=f.bt/\FB m f l)/\∀(i:Nat)(g:E),i<h.length->aS m b.bt (b.off+i*3+2)=some g.v->g.len≠0->g.bt≠f.bt
def FB.jT{a:D}{f:E}(h:js a m bG 1 f (l.map Ce.i))(d:l≠[]):a.size<=f.bt/\FB m f l:=by
 rcases h.br with e|⟨b,c,tail,e,h2,h3,_,_⟩
 .grind [js.aT,List.length_map,E.TJ,List.length_eq_zero_iff]
 .rw[e];exact⟨h2,c,tail,O,h3⟩
def YR.of{a:D}{w:ag}{f:E}(q:gC N w a b h)(s:0<h.length->m[b.bt]? =a[b.bt]?)(u:l≠[]->js a m bG 1 f (l.map Ce.i))(k:l≠[]->d f.bt=0)(A:N<=a.size):YR N d m b h f l:=λe=>by
 let⟨z,n⟩:=FB.jT (u e) e;refine⟨⟨k e,V,n⟩,λi x r g p=>?_⟩;let⟨c,o⟩:=jq r;obtain⟨y,_,_,v,kf,_⟩:=q.dg o;rw[bD (s V),v]at g;have:=E.YL.1 (Option.some.inj g);subst this;have t:c.bV≠[]:=λj=>by have:=kf.aT;rw[j]at this;simp at this;exact p this
 have:=lS kf t;omega
def gC.cE(H:gC N d m b h)(aa:∀g,m.size<=g->d g=0){o:Nat}{l:dz}(D:h[a]? =some c){new:ae}(V:o+new.length<=3)
 (R:∀f,bg m f c.bV->FN N d m f c.bV->∃e,jm [.i c.bX,.i c.jH,.s f] o new=[.i l.bX,.i l.jH,.s e]/\bg m e l.bV/\FN N d m e l.bV/\(e=f\/YR N d m b h e l.bV)):
 gC N d (aW m b.bt (b.off+a*3+o) new) b (h.set a l)/\eu (λk=>k=3) d m d (aW m b.bt (b.off+a*3+o) new):=by
 have I:=bC D
 have Z:=H.bt I
 have F:eu (λk=>k=3) d m d (aW m b.bt (b.off+a*3+o) new):=by grind [eu.aW]
 let⟨s,z,q,A⟩:=H
 let⟨M,v⟩:=dY s a cC
 obtain⟨f,rfl,S,P⟩:=q.eR a M c v D
 let⟨e,y,G,Q,hd⟩:=R f S P
 have ab:∀(j:Nat)(p:ae)(g:E),s[j]? =some p->p[2]? =some (.s g)->j≠a->e.len≠0->g.len≠0->e.bt≠g.bt:=λj p g r C U t u=>by
  rcases hd with rfl|hd
  .exact A a j _ p e g v r O C (λn=>U n.symm) t u
  .have w:l.bV≠[]:=λn=>by have:=G.aT;rw[n]at this;simp at this;exact t this
   refine uK ((hd w).2 j g cC ?_ u);have:=z.kv (j*3+2) _ (j9 q.aQ r C);rwa[<-kK]at this
 refine⟨⟨s.set a (jm [.i c.bX,.i c.jH,.s f] o new),?_,?_,?_⟩,F⟩
 .rw[<-xz s a _ o new q.aQ v V,kK]
  exact z.eE (by rw[eD q.aQ,q.aT];have:(a+1)*3<=h.length*3:=fq _ I;omega)
 .rw[y]
  exact(q.eE a O ⟨e,O,G,Q⟩).aP (NA.gX F cH)
 .rw[y]
  have B:=bC v
  intro i j L p x Y w r W X T t u
  by_cases J:i=a
  .subst J
   rw[fy B]at w
   grind [List.getElem?_set_ne]
  .rw[jf (λn=>J n.symm)]at w
   by_cases K:j=a
   .subst K
    rw[fy B]at r
    grind
   .rw[jf (λn=>K n.symm)]at r
    exact A i j L p x Y w r W X T t u
def gC.yd(j:gC N d m b h)(k:∀e,m.size<=e->d e=0)(g:h[a]? =some c)(n:Int):
 gC N d (aW m b.bt (b.off+a*3) [.i n]) b (h.set a {c with bX:=n})/\eu (λe=>e=3) d m d (aW m b.bt (b.off+a*3) [.i n]):=
 j.cE k g (o:=0) (new:=[.i n]) bO λf i e=>⟨f,O,i,e,bz O⟩
def gC.pS(k:gC N d m b h)(q:∀e,m.size<=e->d e=0)(g:a<h.length)(n t:Int){f:E}(j:bg m f l)(e:YR N d m b h f l):
 gC N d (aW m b.bt (b.off+a*3) [.i n,.i t,.s f]) b (h.set a ⟨n,t,l⟩)/\eu (λi=>i=3) d m d (aW m b.bt (b.off+a*3) [.i n,.i t,.s f]):=by
 let⟨c,i⟩:=jq g
 exact k.cE q i (o:=0) (new:=[.i n,.i t,.s f]) bO λr u s=>⟨f,O,j,λp=>(e p).1,bH e⟩
def gC.rG(j:gC N d m b h){n:Nat}(v:n<=h.length):gC N d m (b.cut 0 n 3) (h.take n):=by
 have u:=j.aT;let⟨f,q,g,r⟩:=j;refine⟨f.take n,((KF f n g.aQ)▸q.rG V),g.Nt n,λi k o p a l c e=>?_⟩;have s:i<n:=by have:=bC c;simp at this;omega
 have t:k<n:=by have:=bC e;simp at this;omega
 rw[qe s]at c;rw[qe t]at e;exact r i k o p a l c e
def gC.push(G:gC N d m b h)(R:∀c,m.size<=c->d c=0)(T:x.len=1){p t:Int}{f:E}(S:jw m x.bt x.off [.i p,.i t,.s f])(F:bg m f l)(C:YR N d m b h f l)(X:h.length<=2000000000)
 (P:∀z y w,gC N z w y (h++[⟨p,t,l⟩])->eu (λk=>k=3) d m z w->K y w):mf m CI [.i (0:Int),.i (0:Int),.s E.nil] 40 b x K:=by
 have W:=G.aT
 let⟨k,D,A,L⟩:=G
 refine iV.fE (f:=[.i 0,.i 0,.s .nil]) (new:=[.i p,.i t,.s f]) D R (by simp[T]) S V λz y w U I=>P z y w ⟨k++[[.i p,.i t,.s f]],sp U,(A.Ch (cs:=[.i p,.i t,.s f]) (x:=⟨p,t,l⟩) O ⟨f,O,F,λe=>(C e).1⟩).aP (NA.gX I cH),?_⟩ I
 have H:∀(o:Nat)(q:ae)(c:E),k[o]? =some q->q[2]? =some (.s c)->f.len≠0->c.len≠0->f.bt≠c.bt:=λo q c v s e n=>by
  have Q:l≠[]:=λJ=>by have:=F.aT;rw[J]at this;simp at this;exact e this
  refine uK ((C Q).2 o c ((A.aT▸bC v)) ?_ n);have:=D.kv (o*3+2) _ (j9 A.aQ v s);rwa[<-kK]at this
 have Dr:∀{i:Nat}{j:ae}{a:E},(k++[[.i p,.i t,.s f]])[i]? =some j->j[2]? =some (.s a)->k[i]? =some j\/(i=k.length/\a=f):=λ{i j a} g r=>by
  rcases eH i k.length with e|e
  .rw[dZ e]at g;exact bz g
  .rw[dQ e]at g;have n:i -k.length=0:=by have:=bC g;simp at this;omega
   rw[n]at g;simp at g;subst g;simp at r;exact bH ⟨V,r.symm⟩
 intro i o j q a c g v r s M e n
 rcases Dr g r with B|⟨B,rfl⟩
 .rcases Dr v s with u|⟨u,rfl⟩
  .exact L i o j q a c B u r s M e n
  .exact uK (H i j a B r n e)
 .rcases Dr v s with u|⟨u,rfl⟩
  .exact H o q c u s e n
  .omega
end
@[grind cases] structure rU (ro:ag) (m:D) (fr:E) (fs:aj) (f:bS) (r o h:E) (css:List ae):Prop where
 rm:iV ro m gS 6 4 fr (css.flatten++[.i f.fN,.i f.pc,.i f.bA,.s r,.s o,.s h])
 aT:css.length=fs.length
 aQ:∀cs∈css,cs.length=6
 eR:∀(i:Nat)(cs:ae)(g:bS),css[i]? =some cs->fs[i]? =some g->ZA ro m i cs g
 aU:iV ro m bG 1 (10+3*fs.length) r (f.aU.map Ce.i)
 bF:iV ro m bG 1 (11+3*fs.length) o (f.bF.map Ce.i)
 cL:iV ro m bG 1 (12+3*fs.length) h (f.cL.map Ce.i)
section
variable{d l:ag}{m k:D}{b:E}{a:aj}{f:bS}{r e h:E}{j:List ae}
theorem sL.jA(l:sL d m b (a++[f])):∃r e h j,rU d m b a f r e h j:=by
 let⟨j,p,w,q,n⟩:=l;have o:j≠[]:=cC;have k:=(sE o).symm;generalize j.dropLast=c0 at k;generalize j.getLast o=cl at k;subst k;have t:c0.length=a.length:=cC;obtain⟨r,e,h,rfl,v,u,l⟩:=n a.length cl f cC bO;refine⟨r,e,h,c0,sp p,t,λc s=>q c (by simp[s]),λi c g x y=>n i c g ?_ ?_,v,u,l⟩
 .grind [List.getElem?_append_left,bC]
 .grind [List.getElem?_append_left,bC]
def rU.qC(T:rU d m b a f r e h j):sL d m b (a++[f]):=by
 refine⟨j++[[.i f.fN,.i f.pc,.i f.bA,.s r,.s e,.s h]],sp T.rm,by simp[T.aT],λk p=>?_,λi k o c g=>?_⟩
 .grind [rU.aQ]
 .rcases eH i a.length with l|l
  .grind [List.getElem?_append_left,rU.aT,rU.eR]
  .have n:i=a.length:=by have:=bC g;simp at this;omega
   subst n;rw[dQ cC]at c;simp[T.aT]at c g;subst c;subst g;exact⟨r,e,h,O,T.aU,T.bF,T.cL⟩
theorem rU.CM(T:rU d m b a f r e h j):b.len=a.length+1:=by
 have:=T.rm.aT;simp only[dC,eD T.aQ,T.aT,dD,kH]at this;omega
def rU.kv(T:rU d m b a f r e h j):aS m b.bt (b.off+a.length*6)=some (vi f.fN)/\aS m b.bt (b.off+a.length*6+1)=some (vi f.pc)/\aS m b.bt (b.off+a.length*6+2)=some (vi f.bA)/\
 aS m b.bt (b.off+a.length*6+3)=some r.v/\aS m b.bt (b.off+a.length*6+4)=some e.v/\aS m b.bt (b.off+a.length*6+5)=some h.v:=by
 have l:j.flatten.length=a.length*6:=by rw[eD T.aQ,T.aT]
 have g:=λ(i:Nat)(c:Ce)(k:[Ce.i f.fN,Ce.i f.pc,Ce.i f.bA,Ce.s r,Ce.s e,Ce.s h][i]? =some c)=>T.rm.kv (a.length*6+i) c (by rw[dQ V,l,adi];exact k)
 exact⟨g 0 (.i f.fN) O,g 1 (.i f.pc) O,g 2 (.i f.bA) O,g 3 (.s r) O,g 4 (.s e) O,g 5 (.s h) O⟩
def rU.gX{p:Nat->Prop}(T:rU d m b a f r e h j)(g:eu p d m l k)(i:∀c,(c=4\/10<=c)->¬p c):rU l k b a f r e h j:=
 by constructor<;>grind [rU.rm,iV.gX,rU.aT,rU.aQ,rU.eR,ZA.gX,rU.aU,rU.bF,rU.cL]
def rU.ext(T:rU d m b a f r e h j)(g:∀c,m.size<=c->d c=0)(c:J m k):rU d k b a f r e h j:=T.gX (eu.fZ (p:=λ_=>False) c g) λ_ _=>id
def rU.CU{p:Nat->Prop}(T:rU d m b a f r e h j)(s:eu p d m l k)(t:∀c,10<=c->c<10+3*a.length->¬p c):∀(i:Nat)(g:ae)(n:bS),j[i]? =some g->a[i]? =some n->ZA l k i g n:=λi g n q o=>
 (T.eR i g n q o).gX s λc u _=>t c V (oh (bC o))
def rU.Jr(T:rU d m b a f r e h j)(p:∀c,m.size<=c->d c=0)(n:0<=i)(g:i<f.aU.length)(v:Int):
 rU d (aW m r.bt (r.off+i.toNat*1) [.i v]) b a {f with aU:=iv f.aU i v} r e h j/\eu (λk=>4<=k/\k≠9) d m d (aW m r.bt (r.off+i.toNat*1) [.i v]):=by
 have o:r.cap≠0:=λl=>by have:=(T.aU.Ir l).1;simp at this;rw[this]at g;simp at g;omega
 have c:eu (λk=>k=10+3*a.length) d m d (aW m r.bt (r.off+i.toNat*1) [.i v]):=eu.aW p (T.aU.bt o).2 _ _
 exact⟨⟨T.rm.gX c V,T.aT,T.aQ,T.CU c λk _ q=>V,T.aU.iv n g v,T.bF.gX c V,T.cL.gX c V⟩,c.aP λk q=>V⟩
def rU.uq(T:rU d m b a f r e h j)(p:∀c,m.size<=c->d c=0)(n:0<=i)(g:i<f.bF.length)(v:Int):
 rU d (aW m e.bt (e.off+i.toNat*1) [.i v]) b a {f with bF:=iv f.bF i v} r e h j/\eu (λk=>4<=k/\k≠9) d m d (aW m e.bt (e.off+i.toNat*1) [.i v]):=by
 have o:e.cap≠0:=λl=>by have:=(T.bF.Ir l).1;simp at this;rw[this]at g;simp at g;omega
 have c:eu (λk=>k=11+3*a.length) d m d (aW m e.bt (e.off+i.toNat*1) [.i v]):=eu.aW p (T.bF.bt o).2 _ _
 exact⟨⟨T.rm.gX c V,T.aT,T.aQ,T.CU c λk _ q=>V,T.aU.gX c V,T.bF.iv n g v,T.cL.gX c V⟩,c.aP λk q=>V⟩
def rU.GZ(T:rU d m b a f r e h j)(p:∀c,m.size<=c->d c=0)(n:0<=i)(g:i<f.cL.length)(v:Int):
 rU d (aW m h.bt (h.off+i.toNat*1) [.i v]) b a {f with cL:=iv f.cL i v} r e h j/\eu (λk=>4<=k/\k≠9) d m d (aW m h.bt (h.off+i.toNat*1) [.i v]):=by
 have o:h.cap≠0:=λl=>by have:=(T.cL.Ir l).1;simp at this;rw[this]at g;simp at g;omega
 have c:eu (λk=>k=12+3*a.length) d m d (aW m h.bt (h.off+i.toNat*1) [.i v]):=eu.aW p (T.cL.bt o).2 _ _
 exact⟨⟨T.rm.gX c V,T.aT,T.aQ,T.CU c λk _ q=>V,T.aU.gX c V,T.bF.gX c V,T.cL.iv n g v⟩,c.aP λk q=>V⟩
def rU.bt(T:rU d m b a f r e h j):d b.bt=4/\b.bt<m.size:=by
 have:=T.CM;have:=T.rm.le;have:=T.rm.bt V;exact⟨this.2,this.1⟩
def rU.SS(T:rU d m b a f r e h j)(i:∀c,m.size<=c->d c=0)(v:Int):
 rU d (aW m b.bt (b.off+a.length*6+1) [.i v]) b a {f with pc:=v} r e h j/\eu (λk=>4<=k/\k≠9) d m d (aW m b.bt (b.off+a.length*6+1) [.i v]):=by
 have c:eu (λk=>k=4) d m d (aW m b.bt (b.off+a.length*6+1) [.i v]):=eu.aW i T.bt.1 _ _
 refine⟨⟨?_,T.aT,T.aQ,T.CU c λk l n=>V,T.aU.gX c V,T.bF.gX c V,T.cL.gX c V⟩,c.aP λk p=>V⟩
 have g:j.flatten.length=a.length*6:=by rw[eD T.aQ,T.aT]
 have:=T.rm.eE (o:=a.length*6+1) (new:=[.i v]) (by simp[g])
 rw[oR _ _ _ _ V,g,adi]at this
 rw[kK];exact this
def rU.abQ(T:rU d m b a f r e h j):gK m b.bt (b.off+a.length*6+1) 1:=by
 rw[kK];exact T.rm.wr (by simp only[dC,eD T.aQ,T.aT,dD,kH];omega)
end
def sL.pop{d:ag}{m:D}{c:E}{a:aj}{f:bS}(e:sL d m c (a++[f])):sL d m (c.cut 0 a.length 6) a:=by
 let⟨r,o,h,b,T⟩:=e.jA;have g:b.flatten.length=a.length*6:=by rw[eD T.aQ,T.aT]
 have:=T.rm.rG (n:=a.length) cC;rw[rI V,yz V]at this;exact⟨b,this,T.aT,T.aQ,T.eR⟩
def sL.push{b:ag}{m:D}{e:E}{a:aj}(y:sL b m e a)(z:∀c,m.size<=c->b c=0)(B:x.len=1){f:bS}{r o h:E}(A:jw m x.bt x.off [.i f.fN,.i f.pc,.i f.bA,.s r,.s o,.s h])
 (s:iV b m bG 1 (10+3*a.length) r (f.aU.map Ce.i))(t:iV b m bG 1 (11+3*a.length) o (f.bF.map Ce.i))(u:iV b m bG 1 (12+3*a.length) h (f.cL.map Ce.i))(J:a.length<=1000000)
 (g:∀d r c,sL d c r (a++[f])->eu (λk=>k=4) b m d c->K r c):mf m gS [.i (0:Int),.i (0:Int),.i (0:Int),.s E.nil,.s E.nil,.s E.nil] 96 e x K:=by
 let⟨H,j,l,n,F⟩:=y
 have I:e.len=a.length:=by have:=j.aT;rw[eD n,l]at this;omega
 refine iV.fE j z (by simp[B]) A V λd G c C p2=>g d G c ?_ p2
 exact rU.qC ⟨sp C,l,n,λi p q v w=>(F i p q v w).gX p2 λk g _=>V,s.gX p2 V,t.gX p2 V,u.gX p2 V⟩
end
section
variable{m:D}{d:ah}{g:ag}{b k N j:Nat}{q r:ab}{c:dz}{i:Int}{e:Nat->Int}
def EA:∀(d:ah)(k:Nat),k<=d.length->(∀c∈d.take k,c.bX≠0)->k<=fF d
 |[],k,a,_=>by simp at a;simp[a]
 |c::d,0,_,_=>jh _
 |c::d,k+1,a,b=>by
  have f:=b c bO;have:=EA d k cC (λe hd=>b e (by simp[hd]));grind [fF]
def Mk:∀(d:ah)(k:Nat)(c:dz),(∀b∈d.take k,b.bX≠0)->d[k]? =some c->c.bX=0->fF d=k
 |[],k,c,_,a,_=>by simp at a
 |b::d,0,c,_,a,e=>by simp at a;subst a;simp[fF,e]
 |b::d,k+1,c,f,a,e=>by
  have h:=f b bO;have:=Mk d k c (λx g=>f x (by simp[g])) cC e;grind [fF]
def Lk{i:E}(g:jI m i d):yB dP 213 [i.v] m (vi (fF d)):=by
 apply FD;have p:=g.aT;refine iC (n:=d.length) (p▸g.kM) (λk a=>J m a/\∀c∈d.take k,c.bX≠0) ⟨dt,bO⟩ ?_;rintro k t I μ o ⟨a,h⟩ q
 refine dit (λl=>?_) λl=>?_
 .let⟨c,f⟩:=dY d k;obtain⟨r,s,j,_⟩:=(jI.ext a g).br f;refine⟨V,V,c.bX,sp j,λb=>⟨?_,a⟩,λb=>q V _ ⟨a,eI f h (sp b)⟩⟩;rw[Mk d k c h f (sp b)]
 .refine⟨?_,a⟩;have:=EA d k o h;have:=tv d;have e:(i.len:Int)=(fF d:Int):=V;rw[e]
def pE(g:ag)(b k:Nat):Nat->Nat:=λc=>if c=b then k else g c
theorem iE:pE g b k b=k:=a8 O
theorem fO{c:Nat}(d:c≠b):pE g b k c=g c:=aV d
def eu.pE{p:Nat->Prop}{a:D}(f:J m a)(e:∀b,m.size<=b->g b=0)(c:m.size<=b)(d:b<a.size)(k:Nat):eu p g m (pE g b k) a:=
 by constructor<;>grind [J.aQ,fO,J.bB]
def Sa{s:E}(c:gC N g m s d)(n:∀b,m.size<=b->g b=0){a:Nat}(ha:a<=d.length)(v:Int){H:E}(T:bg m H q)(W:d.length<=2000000000)(L:q.length<=1000000000)(J:N<=m.size):
 bJ dP 214 [s.v,vi a,vi v,H.v] m λZ S=>∃u M,Z=M.v/\gC N u S M (jM d a ⟨1,v,q⟩)/\HC g m u S:=by
 apply Nf
 simp -zeta only[dT]
 refine(ru T L).cg L λF X o1 Q I=>⟨F,O,?_⟩
 intro m2 f
 obtain⟨l,s3⟩:=pv f
 have t:=I.N l
 have w:HC g m g f:=eu.fZ t n
 have B:=w.bI
 have z:gC N g f s d:=c.gX (eu.fZ (p:=λ_=>False) t n) id id
 have aa:=c.aT
 have R:=Q.ext l
 have P:q≠[]->g F.bt=0:=λU=>by
  rcases o1.bt with e|e
  .subst e;have:=Q.aT;simp at this;exact absurd (cp.1 this.symm) U
  .exact n _ e
 have K:g X.size=0:=n _ I.aQ
 refine⟨λe=>?_,λe=>?_⟩
 .simp at e
  intro C
  obtain⟨h,s4⟩:=pu C
  have ni:jw C f.size 0 [.i 1,.i v,.s F]:=(dJ.push f _ _).kv
  have G:HC g m g C:=w.N (eu.fZ h B)
  refine gC.push (z.gX (eu.fZ (p:=λ_=>False) h B) id id) G.bI (x:=.mk f.size 0 1 1) O ni (R.ext h) (YR.of c (λy=>(t.N h).bB _ (c.bt y).2) (λ_=>o1.ext (l.N h)) P J) W λu r Y D j=>⟨λb i=>?_,u,r,O,?_,G.N (j.aP λk A=>bz A)⟩
  .simp at i;subst i
   exact j.fH _ V (by rw[K];decide)
  .rw[jM,a8 V];exact D
 .simp at e
  have h:a<d.length:=V
  have C:Int.toNat (a:Int)=a:=V
  rw[C]
  refine⟨V,V,z.wr (o:=0) h cH,?_⟩
  intro Y
  let⟨D,j⟩:=z.pS B h 1 v R (YR.of c (λy=>t.bB _ (c.bt y).2) (λ_=>o1.ext l) P J)
  refine⟨λb i=>?_,g,s,O,?_,w.N (j.aP λk A=>bz A)⟩
  .simp at i;subst i
   exact j.fH _ V (by rw[K];decide)
  .rw[jM,aV V];exact D
def Rn(b:d[j]? =some c)(a:c.bX≠0):lL d (j+1)=j+1:=by
 grind [lL]
def V7(b:d[j]? =some c)(a:c.bX=0):lL d (j+1)=lL d j:=by
 grind [lL]
def CC{a:E}(b:jI m a d):bJ dP 217 [a.v] m λv l=>v=E.v (a.cut 0 (lL d d.length) 3)/\J m l:=by
 apply O9;have w:=b.aT;have t:=b.mr;have x:=b.kM;refine⟨λi l=>J m l/\∃j:Nat,i=j/\j<=d.length/\lL d j=lL d d.length,λi _=>i.toNat,⟨dt,d.length,V,bY,O⟩,?_⟩;rintro i r ⟨h,j,rfl,y,n⟩;have jX:lL d j=j->Value.slice=Value.slice->(0:Int)<=(0:Int)/\(0:Int)<=(j:Int)/\(j:Int)<=(a.cap:Int)/\(E.v (E.cut a (Int.toNat (0:Int)) (Int.toNat (j:Int)) 3)=E.v (a.cut 0 (lL d d.length) 3)/\J m r):=λe _=>by
  refine⟨V,V,V,?_,h⟩;rw[<-n,e];rfl
 refine dit (λq=>?_) λq=>?_
 .obtain⟨k,rfl⟩:∃k,j=k+1:=⟨j -1,V⟩;have o:eV (((k+1:Nat):Int) -1)=(k:Int):=by rw[gJ];omega
  rw[o];let⟨c,g⟩:=dY d k;obtain⟨s,u,p,_⟩:=(jI.ext h b).br g;refine⟨V,V,c.bX,sp p,λf=>⟨⟨h,k,O,V,?_⟩,by show(k:Int).toNat<((k+1:Nat):Int).toNat;omega⟩,λf=>jX (Rn g (sp f)) O⟩;rw[<-n,V7 g (sp f)]
 .have:j=0:=V;subst this;exact jX O O
def iV.pop{s:E}(d:iV g m bG 1 k s ((q++[i]).map Ce.i)):s.len=q.length+1/\aS m s.bt (s.off+q.length*1)=some (vi i)/\iV g m bG 1 k (s.cut 0 q.length 1) (q.map Ce.i):=by
 have a:s.len=q.length+1:=by have:=d.aT;simp at this;omega
 refine⟨a,?_,?_⟩
 .have:=d.kv q.length (.i i) bO;rw[IN];exact this
 .have:=d.rG (n:=q.length) V;grind [List.take_of_length_le]
def jc.Yb(h:jc d (λb=>e b+kG (i::r) b))(c:∀b,0<=e b)(a:iR d i)(f:(bu d i).bX=1):jc (d.set (ix i) kV) (λb=>e b+kG ((bu d i).bV.reverse++r) b):=by
 let⟨g,j⟩:=dL a;refine jc.Xa h g f ?_ cH cH O (by simp[kV]) (by simp[kV]) (λ_=>O) λb=>?_
 .simp only[mg a.1,a8];have:=c (ix i);have:=nj r (ix i);omega
 .simp only[mg a.1,qM,EV];omega
def jc.UY(c:jc d (λb=>e b+kG (i::r) b))(g:∀b,0<=e b)(f:iR d i)(j:(bu d i).bX≠1):jc (iQ d i) (λb=>e b+kG r b):=by
 let⟨a,h⟩:=dL f;have k:=(c.iF _ (ba a)).hi;refine jc.Pe c a h V V (λb=>?_) ?_
 .simp only[mg f.1];split<;>omega
 .have:=g (ix i);have:=nj r (ix i);omega
def jc.Ya(a:jc d (λb=>e b+kG (i::r) b))(c:i<1000):jc d (λb=>e b+kG r b):=
 by grind [jc.congr,kG]
def jc.UX(f:jc d (λb=>e b+kG (i::r) b))(c:∀b,0<=e b)(a:1000<=i):iR d i:=
 ⟨a,f.lv _ (by simp only[mg a,a8];have:=c (ix i);have:=nj r (ix i);omega)⟩
def Hd:ah->Nat
 |[]=>0
 |c::d=>c.bV.length+Hd d
def EB:∀{d:ah}{e:Nat}{c:dz}(b:dz),d[e]? =some c->Hd (d.set e b)+c.bV.length=Hd d+b.bV.length
 |[],e,c,b,d=>by simp at d
 |g::d,0,c,b,f=>by simp at f;subst f;simp only[np,Hd];omega
 |g::d,e+1,c,b,f=>by
  have:=EB (d:=d) (e:=e) b (sp f);grind [Hd]
def TC:∀{d:ah},(∀c∈d,c.bV.length<=3)->Hd d<=3*d.length
 |[],_=>by simp[Hd]
 |c::d,a=>by
  have:=TC (λb hd=>a b (aX _ hd));have:=a c cQ;grind [Hd,List.length_cons]
def Li{D:E}(hh:gC N g m D d)(hn:∀b,m.size<=b->g b=0){ws:E}(hw:bg m ws [i])(hI:jc d (λb=>e b+kG [i] b))(U:∀b,0<=e b)(aD:d.length<=2000000000):
 bJ dP 183 [D.v,ws.v] m λax v=>∃y al,ax=al.v/\gC N y v al (oY (ju d [i]))/\HC g m y v:=by
 apply FA
 refine(ru hw bO).cg bO λs M o1 i1 h1=>⟨s,O,?_⟩
 have an:s≠.nil:=λe=>by subst e;have:=i1.aT;simp at this
 have H:m.size<=s.bt/\s.bt<M.size:=by
  rcases o1.bt with e|e
  .exact absurd e an
  .rcases o1.lt with z|z
   .exact absurd z an
   .exact⟨e,z⟩
 have c1:HC g m (pE g s.bt 6) M:=eu.pE h1 hn H.1 H.2 6
 have a1:iV (pE g s.bt 6) M bG 1 6 s ([i].map Ce.i):=iV.jT o1 λ_=>iE
 have ar:gC N (pE g s.bt 6) M D d:=hh.gX (eu.pE (p:=λ_=>False) h1 hn H.1 H.2 6) id id
 have aA:=TC λc a=>(hI.iF c a).fl
 have aB:=hh.aT
 refine Uq (γ:=ah×ab) (λh F v=>∃y,gC N y v D h.1/\iV y v bG 1 6 F (h.2.reverse.map Ce.i)/\HC g m y v/\jc h.1 (λb=>e b+kG h.2 b)/\ju h.1 h.2=ju d [i]/\h.1.length=d.length/\h.2.length+Hd h.1<=1+Hd d) (λh=>Es h.1+h.2.length) (d,[i])
  ⟨_,ar,a1,c1,hI,O,O,bO⟩ ?_
 rintro⟨a,st⟩ F m2 ay μ ⟨q,A,a2,h,t,u,K,ae⟩ aa
 simp only[]at A a2 t u K ae
 have ao:F.len=st.length:=by have:=a2.aT;simp at this;omega
 refine dit (λh3=>?_) λh3=>?_
 .cases st with
  |nil=>simp at ao;omega
  |cons x r=>
   simp only[Wj]at a2
   let⟨p1,p2,p3⟩:=a2.pop
   simp only[dD,qD]at ao p1 p2 p3 ae
   have e1:eV ((F.len:Int) -1)=(r.length:Int):=by rw[gJ];omega
   have az:=a2.le
   rw[e1]
   have z:Int.toNat (0:Int)=0:=rfl
   have e3:Int.toNat (r.length:Int)=r.length:=V
   rw[z,e3]
   refine⟨V,V,x,p2,V,V,V,(ji).cg λb P hb j=>⟨b,O,λaq=>?_,λap=>?_⟩⟩
   .have Z:=hb.1 aq
    have C:=t.UX U Z
    let⟨n,am⟩:=dL C
    have ai:=bC n
    have av:ix x=(x -1000).toNat:=rfl
    have aC:=(t.iF _ (ba n)).hi
    have e4:eV (x -1000)=x -1000:=gJ
    rw[e4,<-av]
    have I:HC q m2 q P:=eu.fZ j h.bI
    have X:gC N q P D a:=A.gX (eu.fZ (p:=λ_=>False) j h.bI) id id
    have a3:=p3.gX (eu.fZ (p:=λ_=>False) j h.bI) id
    obtain⟨f0,g0,_,_,_,_⟩:=X.dg n
    refine⟨V,V,_,g0,V,V,X.wr (o:=0) ai cH,?_⟩
    have e5:eV ((bu a x).bX -1)=(bu a x).bX -1:=gJ
    rw[e5]
    intro m4
    let⟨Y,c4⟩:=X.yd I.bI n ((bu a x).bX -1)
    have a4:=a3.gX c4 cH
    have Q:HC g m q m4:=(h.N I).N (c4.aP λk B=>bz B)
    have T:=mq (d:=kV) n
    simp only[a8 am,kV]at T
    simp at T
    have aw:(a.set (ix x) {bu a x with bX:=(bu a x).bX -1})[ix x]? =some {bu a x with bX:=(bu a x).bX -1}:=lA n
    obtain⟨f1,k0,_,k2,kf,kr⟩:=Y.dg aw
    refine⟨V,V,_,k0,λR=>?_,λR=>?_⟩
    .simp only[bQ]at R
     have ak:(bu a x).bX=1:=V
     have W:=kf.aT
     simp only[]at W kf kr
     have J:=EB kV n
     simp only[kV,kH]at J
     refine⟨V,V,f1,k2,iV.fE (f:=[.i 0]) (new:=(bu a x).bV.map Ce.i) a4 Q.bI (by simp[W]) kf.Fb ?_ λac aE m5 q1 q2=>?_⟩
     .have:(F.cut 0 r.length 1).len=r.length:=by have:=a4.aT;simp at this;omega
      rw[this,W];omega
     have au:=Y.gX q2 cH cH
     have G:HC g m ac m5:=Q.N (q2.aP λk B=>bH (bH B))
     intro m6
     have S:=px m6
     have af:=au.gX (eu.fZ (p:=λ_=>False) S G.bI) id id
     have a6:=q1.gX (eu.fZ (p:=λ_=>False) S G.bI) id
     have ad:HC g m ac m6:=G.N (eu.fZ S G.bI)
     have aj:ix x<(a.set (ix x) {bu a x with bX:=(bu a x).bX -1}).length:=sp ai
     refine⟨V,V,af.wr (o:=0) aj cH,?_⟩
     intro m7
     let⟨ag,c7⟩:=af.pS ad.bI aj 0 0 (f:=.mk m5.size 0 0 0) (l:=[]) ⟨O,bO,bO,bO⟩ (λL=>absurd O L)
     rw[Wl]at ag
     refine aa (a.set (ix x) kV,(bu a x).bV.reverse++r) _ _ ⟨ac,ag,?_,ad.N (c7.aP λk B=>bz B),t.Yb U C ak,?_,sp K,?_⟩ ?_
     .have:=a6.gX c7 cH
      simpa using this
     .rw[<-uU C ak];exact u
     .simp only[dC,qD]
      have B:Hd (a.set (ix x) kV)+(bu a x).bV.length=Hd a:=by simpa[kV]using J
      omega
     .simp only[dC,qD,dD]
      have B:Es (a.set (ix x) kV)+((bu a x).bX.toNat+(bu a x).bV.length)=Es a:=by simpa[kV]using T
      omega
    .simp only[bd]at R
     have L:(bu a x).bX≠1:=V
     have B:=mq (d:={bu a x with bX:=(bu a x).bX -1}) n
     simp only[a8 am]at B
     rw[a8 V]at B
     have J:=EB {bu a x with bX:=(bu a x).bX -1} n
     refine aa (iQ a x,r) _ _ ⟨q,Y,a4,Q,t.UY U C L,?_,by simpa[iQ]using K,?_⟩ ?_
     .rw[<-sO C L];exact u
     .simp only[iQ];simp only[]at J;omega
     .simp only[iQ,dD];omega
   .have Z:=fb hb ap
    have I:HC q m2 q P:=eu.fZ j h.bI
    refine aa (a,r) _ _ ⟨q,A.gX (eu.fZ (p:=λ_=>False) j h.bI) id id,p3.gX (eu.fZ (p:=λ_=>False) j h.bI) id,h.N I,t.Ya V,?_,K,by simp only[];omega⟩ bO
    rw[<-sP (w:=x) (λn=>Z n.1)];exact u
 .have n:st=[]:=cp.1 V
  subst n
  rw[uT]at u
  subst u
  refine(CC (A.kL V)).aP ?_
  rintro _ P ⟨rfl,j⟩
  refine⟨_,O,q,_,O,?_,h.N (eu.fZ j h.bI)⟩
  exact(A.gX (eu.fZ (p:=λ_=>False) j h.bI) id id).rG (yu _ _)
end
section
variable{i:Int}
@[grind cases] structure ST (m0:D) (ro:ag) (m:D) (mb e:Nat) (bx:ae) (cJ hp fr:E) (lo:ab) (lh:ah) (fs:aj) (f:bS) (r o h:E) (css:List ae):Prop where
 eO:uH m0 ro m mb e bx cJ hp fr lo lh (fs++[f])
 jA:rU ro m fr fs f r o h css
section
variable{l:D}{a w:ag}{m v:D}{j e:Nat}{n:ae}{cJ g c:E}{s:ab}{o:ah}{k:aj}{f:bS}{r q h:E}{t:List ae}
def ST.ext(S:ST l a m j e n cJ g c s o k f r q h t)(b:J m v):ST l a v j e n cJ g c s o k f r q h t/\To a m a v:=
 ⟨⟨(S.eO.ext b).1,S.jA.ext S.eO.bI b⟩,(S.eO.ext b).2⟩
def ST.Jr(S:ST l a m j e n cJ g c s o k f r q h t){i:Int}(d:0<=i)(p:i<f.aU.length)(v:Int):ST l a (aW m r.bt (r.off+i.toNat*1) [.i v]) j e n cJ g c s o k {f with aU:=iv f.aU i v} r q h t/\To a m a (aW m r.bt (r.off+i.toNat*1) [.i v]):=by
 let⟨b,u⟩:=S.jA.Jr S.eO.bI d p v;let⟨w,x⟩:=S.eO.mJ u b.qC;exact⟨⟨w,b⟩,x⟩
def ST.uq(S:ST l a m j e n cJ g c s o k f r q h t){i:Int}(d:0<=i)(p:i<f.bF.length)(v:Int):ST l a (aW m q.bt (q.off+i.toNat*1) [.i v]) j e n cJ g c s o k {f with bF:=iv f.bF i v} r q h t/\To a m a (aW m q.bt (q.off+i.toNat*1) [.i v]):=by
 let⟨b,u⟩:=S.jA.uq S.eO.bI d p v;let⟨w,x⟩:=S.eO.mJ u b.qC;exact⟨⟨w,b⟩,x⟩
def ST.GZ(S:ST l a m j e n cJ g c s o k f r q h t){i:Int}(d:0<=i)(p:i<f.cL.length)(v:Int):ST l a (aW m h.bt (h.off+i.toNat*1) [.i v]) j e n cJ g c s o k {f with cL:=iv f.cL i v} r q h t/\To a m a (aW m h.bt (h.off+i.toNat*1) [.i v]):=by
 let⟨b,u⟩:=S.jA.GZ S.eO.bI d p v;let⟨w,x⟩:=S.eO.mJ u b.qC;exact⟨⟨w,b⟩,x⟩
def ST.SS(S:ST l a m j e n cJ g c s o k f r q h t)(v:Int):ST l a (aW m c.bt (c.off+k.length*6+1) [.i v]) j e n cJ g c s o k {f with pc:=v} r q h t/\To a m a (aW m c.bt (c.off+k.length*6+1) [.i v]):=by
 let⟨b,d⟩:=S.jA.SS S.eO.bI v;let⟨i,p⟩:=S.eO.mJ d b.qC;exact⟨⟨i,b⟩,p⟩
def ST.lW(S:ST l a m j e n cJ g c s o k f r q h t)(i:Nat)(b:ae):ST l a (aW m j i b) j e (jm n i b) cJ g c s o k f r q h t/\To a m a (aW m j i b):=by
 let⟨u,v⟩:=S.eO.lW i b;exact⟨⟨u,S.jA.gX (eu.aW (p:=λd=>d=1) S.eO.bI S.eO.Wr i b) λd w=>V⟩,v⟩
def ST.jN(S:ST l a m j e n cJ g c s o k f r q h t)(b:HC a m w v){d:E}{i:ah}(x:gC l.size w v d i):ST l w v j e n cJ d c s i k f r q h t/\To a m w v:=by
 let⟨p,u⟩:=S.eO.jN b x;exact⟨⟨p,S.jA.gX b λz y=>V⟩,u⟩
def ST.QN(S:ST l a m j e n cJ g c s o k f r q h t)(b:eu (λd=>d=2) a m w v){p:E}{i:ab}(y:iV w v bG 1 2 p (i.map Ce.i)):ST l w v j e n p g c i o k f r q h t/\To a m w v:=by
 let⟨u,x⟩:=S.eO.QN b y;exact⟨⟨u,S.jA.gX b λd z=>V⟩,x⟩
end
def eu.Xs{a d:ag}{m c:D}(h:To a m d c){b:Nat}(f:b<m.size)(e:a b=0):gT [b] m c:=by grind [eu.fg]
abbrev SB(d u:E)(b:St)(cJ g c:E):ae:=[.s d,.s u,.i b.dx,.i b.kY,.i b.dv,.i b.df,.s cJ,.s g,.s c]
def Hb(l:D)(a:ag)(m:D)(j:Nat)(d u:E)(b:St)(e:D):Prop:=
 ∃f cJ g c,uH l f e j dG (SB d u b cJ g c) cJ g c b.cJ b.aR b.bo/\To a m f e
def Hb.from{l:D}{a i:ag}{m f e:D}{j:Nat}{d u:E}{b:St}(h:Hb l i f j d u b e)(o:To a m i f):Hb l a m j d u b e:=
 let⟨p,cJ,g,c,k,n⟩:=h
 ⟨p,cJ,g,c,k,o.N n⟩
variable{l:D}{a:ag}{m:D}{j:Nat}{d u cJ g c:E}{b:St}{k:aj}{f:bS}{r q h:E}{t:List ae}
def nk(S:ST l a m j dG (SB d u b cJ g c) cJ g c b.cJ b.aR k f r q h t)(s:k.length<=100000)(v:Int):
 bJ dP 182 [vp j 0,vi v] m λw i=>ST l a i j dG (SB d u b cJ g c) cJ g c b.cJ b.aR k {f with pc:=v} r q h t/\To a m a i:=by
 apply tA (j,0)
 have e:aS m j 8=some c.v:=S.eO.bU.dg 8
 have p:=S.jA.CM
 have n:eV ((c.len:Int) -1)=(k.length:Int):=by rw[gJ];omega
 have o:Int.toNat (k.length:Int)=k.length:=V
 refine⟨c,e,c,e,?_⟩
 rw[n,o]
 exact⟨V,V,S.jA.abQ,S.SS v⟩
def Gf(S:ST l a m j dG (SB d u b cJ g c) cJ g c b.cJ b.aR k f r q h t)(N:k.length<=100000)(e:0<=i)(x:i<f.aU.length)(y:i<f.bF.length)(w:Int)(R:0<=f.pc/\f.pc<=100000):
 bJ dP 175 [vp j 0,vi i,vi w] m λ_ A=>ST l a A j dG (SB d u b cJ g c) cJ g c b.cJ b.aR k (bS.cE {f with pc:=f.pc+1} i w 0) r q h t/\To a m a A:=by
 apply yU (j,0)
 simp -zeta only[dT]
 have z:aS m j 8=some c.v:=S.eO.bU.dg 8
 have P:=S.jA.CM
 have G:eV ((c.len:Int) -1)=(k.length:Int):=by rw[gJ];omega
 have H:Int.toNat (k.length:Int)=k.length:=V
 let⟨J,g1,g2,K,L,M⟩:=S.jA.kv
 have T:r.len=f.aU.length:=by have:=S.jA.aU.aT;simp at this;omega
 have Q:q.len=f.bF.length:=by have:=S.jA.bF.aT;simp at this;omega
 refine⟨c,z,c,z,?_⟩
 rw[G,H]
 refine⟨V,V,_,J,_,g1,_,g2,r,K,q,L,h,M,?_⟩
 intro U o
 obtain⟨O,X⟩:=pv o
 have n:a m.size=0:=S.eO.bI _ bY
 let⟨s,t2⟩:=S.ext O
 refine⟨e,V,s.jA.aU.Ur e x,?_⟩
 intro p
 let⟨v,t3⟩:=s.Jr e x w
 have Y:p.size=o.size:=bE _ _ _ _
 refine⟨t3.Xs (show m.size<o.size by omega) n,e,V,v.jA.bF.Ur e y,?_⟩
 intro B
 let⟨E,C⟩:=v.uq e (sp y) 0
 have Z:B.size=p.size:=bE _ _ _ _
 have I:eV (f.pc+1)=f.pc+1:=gJ
 rw[I]
 refine⟨C.Xs (show m.size<p.size by omega) n,(nk E N (f.pc+1)).aP ?_⟩
 rintro _ W ⟨F,D⟩
 exact⟨D.Xs (show m.size<B.size by omega) n,F,((t2.N t3).N C).N D⟩
def yo(S:ST l a m j dG (SB d u b cJ g c) cJ g c b.cJ b.aR k f r q h t)(ac:k.length<=100000)(e:0<=i)(C:i<f.aU.length)(U:i<f.bF.length)(w:Int):
 bJ dP 185 [vp j 0,vi i,vi w] m λ_ F=>ST l a F j dG (SB d u b cJ g c) cJ g c b.cJ b.aR k (f.cE i w (ig w)) r q h t/\To a m a F:=by
 apply yT (j,0)
 simp -zeta only[dT]
 have E:aS m j 8=some c.v:=S.eO.bU.dg 8
 have ab:=S.jA.CM
 have L:eV ((c.len:Int) -1)=(k.length:Int):=by grind [dk]
 have M:Int.toNat (k.length:Int)=k.length:=V
 let⟨P,g1,g2,Q,R,T⟩:=S.jA.kv
 have ae:r.len=f.aU.length:=by have:=S.jA.aU.aT;simp at this;omega
 have ad:q.len=f.bF.length:=by have:=S.jA.bF.aT;simp at this;omega
 refine⟨c,E,c,E,?_⟩
 rw[L,M]
 refine⟨V,V,_,P,_,g1,_,g2,r,Q,q,R,h,T,?_⟩
 intro m1 n
 have W:J m n:=by grind [J.cX,J.cz,J.aW]
 have s2:n.size=m.size+1:=by grind [bE]
 have o:a m.size=0:=S.eO.bI _ bY
 let⟨z,t2⟩:=S.ext W
 clear_value n
 refine⟨e,V,z.jA.aU.Ur e C,?_⟩
 intro v
 let⟨A,t3⟩:=z.Jr e C w
 have s3:v.size=n.size:=bE _ _ _ _
 refine⟨t3.Xs (show m.size<n.size by omega) o,e,V,A.jA.bF.Ur e U,?_⟩
 intro G
 let⟨I,x⟩:=A.uq e cC 0
 have s4:G.size=v.size:=bE _ _ _ _
 refine⟨x.Xs (show m.size<v.size by omega) o,(ji).aP ?_⟩
 rintro _ X ⟨K,rfl,Y,D⟩
 let⟨p,y⟩:=I.ext D
 have s5:=D.aQ
 refine⟨y.Xs (show m.size<G.size by omega) o,K,O,λaa=>?_,λZ=>?_⟩
 .refine⟨e,V,p.jA.bF.Ur e cC,?_⟩
  intro m6
  let⟨B,H⟩:=p.uq e cC 1
  refine⟨H.Xs (show m.size<X.size by omega) o,?_,(((t2.N t3).N x).N y).N H⟩
  have N:iv (iv f.bF i 0) i 1=iv f.bF i 1:=by simp[iv,Wl]
  have s:ig w=1:=by grind [ig]
  simp only[N]at B
  rw[s];exact B
 .refine⟨?_,((t2.N t3).N x).N y⟩
  have s:ig w=0:=by grind [ig]
  rw[s];exact p
def AN:∀(a:ab)(g:ah),(kO g a).length=g.length
 |[],g=>O
 |w::a,g=>by rw[kO,AN a];simp[pU]
def Jo:∀(a:ab)(g:ah)(w:Int),kO g (a++[w])=pU (kO g a) w
 |[],g,w=>O
 |v::a,g,w=>by rw[eN,kO,Jo a,kO]
def EX:∀(a:ab)(g:ah)(n:Int),(∀c∈g,-10<=c.bX/\c.bX<=n)->∀c∈kO g a,-10<=c.bX/\c.bX<=n+a.length
 |[],g,n,h,c,b=>by have:=h c b;simp;omega
 |w::a,g,n,h,c,b=>by
  have:=EX a (pU g w) (n+1) (λd hd=>by
   rcases sg hd with rfl|⟨i,_,f⟩
   .simp only[bu];cases e:g[ix w]? with
    |none=>
     unfold pU at hd;rw[ab0 (List.getElem?_eq_none_iff.1 e)]at hd;have:=h _ hd;simp only[bu,e]at this⊢;omega
    |some x=>have:=h x (ba e);simp only[uL];omega
   .have:=h d (ba f);omega) c b
  simp only[dD];omega
def IF(L:uH l a m j dG (SB d u b cJ g c) cJ g c b.cJ b.aR k){t:E}{e:ab}(v:bg m t e)(P:e≠[]->a t.bt=0)(M:∀w∈e,1000<=w/\ix w<b.aR.length)(I:∀h∈b.aR,-10<=h.bX/\h.bX<=999999)(Z:e.length<=1000000)(W:b.aR.length<=2000000000):
 bJ dP 181 [vp j 0,t.v] m λ_ r=>gC l.size a r g (kO b.aR e)/\eu (λf=>f=3) a m a r:=by
 apply Ah (j,0)
 have aa:=v.aT
 have J:aS m j 7=some g.v:=L.bU.dg 7
 refine iC (n:=e.length) V (λf r=>gC l.size a r g (kO b.aR (e.take f))/\eu (λf=>f=3) a m a r) ⟨L.aR,eu.cX _ L.bI⟩ ?_
 rintro f A S μ X ⟨i,p⟩ R
 refine dit (λG=>?_) λG=>?_
 .let⟨x,q⟩:=dY e f
  let⟨ac,z⟩:=M x (ba q)
  have y:e≠[]:=λB=>by rw[B]at q;simp at q
  have Q:bg A t e:=lx v λ_=>p.fH _ (lS v y) (by rw[P y];decide)
  have w:aS A j 7=some g.v:=by rw[bD (p.fH _ L.bU.lt (by rw[L.Wr];decide))];exact J
  have O:=i.aT
  rw[AN]at O
  let⟨h,s⟩:=dY (kO b.aR (e.take f)) (ix x) (by rw[AN];exact z)
  obtain⟨T,F,_⟩:=i.dg s
  have N:ix x=(x -1000).toNat:=rfl
  have C:eV (x -1000)=x -1000:=gJ
  have U:=EX (e.take f) b.aR 999999 I h (ba s)
  have Y:((e.take f).length:Int)<=1000000:=fu
  have D:eV (h.bX+1)=h.bX+1:=gJ
  refine⟨V,V,x,by simpa using Q.br q,g,w,g,w,?_⟩
  rw[C,<-N]
  refine⟨V,V,h.bX,F,V,V,i.wr (o:=0) (by rw[AN];exact z) cH,?_⟩
  rw[D]
  let⟨K,H⟩:=i.yd p.bI s (h.bX+1)
  refine R V _ ⟨?_,p.N H⟩
  rw[bW q,Jo]
  have:bu (kO b.aR (e.take f)) x=h:=by simp[bu,s]
  unfold pU
  rw[this];exact K
 .rw[eY V]at i
  exact⟨i,p⟩
def Gj(L:uH l a m j dG (SB d u b cJ g c) cJ g c b.cJ b.aR k){w:Int}(z:iR b.aR w){h:Nat->Int}(p:jc b.aR h)(M:b.aR.length<=2000000000):
 bJ dP 216 [vp j 0,vi w] m λD r=>∃f:Bool,D=vb f/\(f=true<->(bu b.aR w).bX=1)/\eu (λx=>x=3) a m a r/\(f=true->gC l.size a r g b.aR)/\(f=false->gC l.size a r g (kO (iQ b.aR w) (oF (bu b.aR w).bV))):=by
 apply yV (j,0)
 let⟨e,ad⟩:=dL z
 have P:=bC e
 have ab:=L.aR.aT
 have N:ix w=(w -1000).toNat:=rfl
 have aa:=z.1
 have G:eV (w -1000)=w -1000:=gJ
 have q:aS m j 7=some g.v:=L.bU.dg 7
 have ac:=(p.iF _ (ba e)).hi
 have H:eV ((bu b.aR w).bX -1)=(bu b.aR w).bX -1:=gJ
 let⟨U,v,g1,g2,W,X⟩:=L.aR.dg e
 rw[G,<-N]
 refine⟨g,q,V,V,_,v,λn=>⟨true,O,sp n,eu.cX _ L.bI,λ_=>L.aR,sx⟩,λn=>?_⟩
 simp only[bd]at n
 refine⟨g,q,g,q,V,V,_,v,V,V,L.aR.wr (o:=0) P cH,?_⟩
 rw[H]
 intro m1
 let⟨y,i⟩:=L.aR.yd L.bI e ((bu b.aR w).bX -1)
 let⟨I,k0,k1,T,kf,kr⟩:=y.dg (lA e)
 let⟨t,t1⟩:=L.jN (i.aP λx A=>bz A) y
 have Z:=(p.iF _ (ba e)).fl
 refine⟨g,t.bU.dg 7,V,V,I,T,?_⟩
 refine(sZ kf (by simp only[];omega)).cg (by have:=sk (bu b.aR w).bV;simp only[];omega) λC m2 o2 B x=>⟨C,O,?_⟩
 let⟨E,t2⟩:=t.ext x
 have R:oF (bu b.aR w).bV≠[]->a C.bt=0:=λQ=>by
  rcases o2.bt with h|h
  .subst h;have:=B.aT;simp at this;exact absurd (cp.1 this.symm) Q
  .exact i.bI _ h
 have:=sk (bu b.aR w).bV
 refine(IF (b:={b with aR:=iQ b.aR w}) (k:=k) E B R (λD S=>?_) (λF J=>?_) (by simp only[];omega) (by simpa[iQ]using M)).aP ?_
 .let⟨K,A⟩:=nU.1 S
  exact⟨A,by simpa[iQ]using bC (dL (p.qj (ba e) K A)).1⟩
 .rcases sg J with rfl|⟨f,_,A⟩
  .simp only[];omega
  .have:=p.iF F (ba A);have K:=this.lo;have Y:=this.hi;omega
 .rintro _ Y ⟨K,A⟩
  exact⟨false,O,sp n,(i.N (eu.fZ x i.bI)).N A,sx,λ_=>K⟩
end
section
variable{F:ag}{y:D}{e:Nat}{C:ae}{x:Instr}{a j:E}{t:Int}
def Eb(k:ag)(g:D)(a:ad):Prop:=∀b∈a,b<g.size/\k b=0
def Eb.to{p:Nat->Prop}{k:ag}{g:D}{c:ad}(h:Eb k g c)(t:eu p k g F y):Eb F y c:=λb a=>⟨cr (h b a).1 t.aQ,((t.jZ b (h b a).1)▸(h b a).2)⟩
theorem eu.fW{k:ag}{g:D}(t:To k g F y){a:ad}(h:Eb k g a):gT a g y:=t.fg h
def Eb.qu{k:ag}{g:D}{a:ad}(h:Eb k g a){b:Nat}(c:b∈a):b<g.size/\k b=0:=h b c
def Eb.Nv{k:ag}{g a c:D}(h:∀b,g.size<=b->k b=0)(d:a.size=g.size+1)(e:c.size=g.size+2):Eb k c [a.size,g.size]:=λb f=>by
 grind
noncomputable def rK (c:St) (u:aj) (b:bS) (x:Instr) (t:Int):St:=
 open Classical in
 if x.cR≠0/\br b.cL (x.cR -1)≠0 then
  {c with aR:=c.aR.set (ix (br b.cL (x.cR -1))) ⟨1,t,dR b x.aO⟩,bo:=u++[bS.cE {b with pc:=b.pc+1,cL:=iv b.cL (x.cR -1) 0} x.bA (br b.cL (x.cR -1)) 1]}
 else{c with aR:=jM c.aR (fF c.aR) ⟨1,t,dR b x.aO⟩,bo:=u++[bS.cE {b with pc:=b.pc+1} x.bA (1000+fF c.aR) 1]}
variable{A:D}{k:ag}{g:D}{z:Nat}{d p cJ q v:E}{c:St}{u:aj}{b:bS}{r l h:E}{B:List ae}
def ST.E8{c:ab}{a:ah}(S:ST A k g z e C cJ q v c a u b r l h B)(d:b.aU.length<=1000000):bg g r b.aU:=S.jA.aU.nZ V
def ST.NW{c:ab}{a:ah}(S:ST A k g z e C cJ q v c a u b r l h B)(d:b.bF.length<=1000000):bg g l b.bF:=S.jA.bF.nZ V
def ST.Xc{c:ab}{a:ah}(S:ST A k g z e C cJ q v c a u b r l h B)(d:b.cL.length<=1000000):bg g h b.cL:=S.jA.cL.nZ V
def zp(S:ST A k g z dG (SB d p c cJ q v) cJ q v c.cJ c.aR u b r l h B)(ha:bg A a x.aO)(ad:∀e∈x.aO,0<=e/\e<b.aU.length)(am:x.aO.length<=4)(t:Int)
 (aq:b.aU.length=b.bF.length/\b.cL.length=b.bF.length/\b.bF.length<=2000)(ae:0<=x.bA/\x.bA<b.bF.length)(ap:0<=x.cR/\x.cR<=b.cL.length)(ar:0<=b.pc/\b.pc<=100000)(Y:u.length<=100000)(an:c.aR.length<=1000000000)
 (ag:∀w∈b.cL,w≠0->1000<=w/\ix w<c.aR.length):
 bJ dP 177 [vp z 0,fv b r l h,xv x a j,vi t] g λ_ y=>Hb A k g z d p (rK c u b x t) y:=by
 apply wB (z,0)
 simp -zeta only[dT]
 intro G H
 have aj:J g H:=((J.cX g).cz _).cz _
 have Z:=pz G
 have s2:H.size=g.size+2:=by simp[H,Z]
 have P:=Eb.Nv S.eO.bI Z s2
 let⟨E,t2⟩:=S.ext aj
 have ao:h.len=b.cL.length:=by have:=S.jA.cL.aT;simp at this;omega
 have C:∀{k g b},ST A k g z dG (SB d p c cJ q v) cJ q v c.cJ c.aR u b r l h B->aS g z 7=some q.v:=λS=>S.eO.bU.dg 7
 refine⟨q,C E,(Lk (E.eO.aR.kL V)).aP ?_⟩
 rintro _ I ⟨rfl,aa⟩
 let⟨w,t3⟩:=E.ext aa
 have D:=P.to t3
 refine⟨t3.fW P,_,O,λX y=>∃(e:Nat)(f:bS),X=e/\ST A k y z dG (SB d p c cJ q v) cJ q v c.cJ c.aR u f r l h B/\To k g k y/\Eb k y [G.size,g.size]/\e<=c.aR.length/\
  f.aU=b.aU/\f.bF=b.bF/\f.pc=b.pc/\rK c u b x t={c with aR:=jM c.aR e ⟨1,t,dR b x.aO⟩,bo:=u++[bS.cE {f with pc:=b.pc+1} x.bA (1000+e) 1]},?_,?_⟩
 .have none:¬(x.cR≠0/\br b.cL (x.cR -1)≠0)->∃(e:Nat)(f:bS),((fF c.aR:Nat):Int)=e/\ST A k I z dG (SB d p c cJ q v) cJ q v c.cJ c.aR u f r l h B/\To k g k I/\Eb k I [G.size,g.size]/\e<=c.aR.length/\
   f.aU=b.aU/\f.bF=b.bF/\f.pc=b.pc/\rK c u b x t={c with aR:=jM c.aR e ⟨1,t,dR b x.aO⟩,bo:=u++[bS.cE {f with pc:=b.pc+1} x.bA (1000+e) 1]}:=λQ=>
   ⟨_,b,O,w,t2.N t3,D,tv _,O,O,O,by rw[rK,aV Q]⟩
  refine⟨λF=>?_,λF=>none λL=>by simp at F;omega⟩
  simp at F
  have M:eV (x.cR -1)=x.cR -1:=gJ
  rw[M]
  have i:0<=x.cR -1/\x.cR -1<b.cL.length:=V
  have K:=(w.Xc V).uG i.1 i.2
  refine⟨V,V,_,K,λn=>?_,λn=>none λL=>by simp at n;exact L.2 n⟩
  simp at n
  let⟨R,U⟩:=ag _ (gZ i.1 i.2) n
  refine⟨V,V,_,K,V,V,w.jA.cL.Ur i.1 i.2,?_⟩
  intro m4
  let⟨m,o⟩:=w.GZ i.1 i.2 0
  have T:ix (br b.cL (x.cR -1))=(br b.cL (x.cR -1) -1000).toNat:=rfl
  have N:eV (br b.cL (x.cR -1) -1000)=((ix (br b.cL (x.cR -1)):Nat):Int):=by rw[gJ];omega
  refine⟨o.fW D,ix (br b.cL (x.cR -1)),_,N,m,(t2.N t3).N o,D.to o,V,O,O,O,?_⟩
  rw[rK,a8 ⟨V,n⟩,jM,aV V,nK R]
 .rintro X m4 ⟨e,f,rfl,m,o,Q,ac,n,eo,ep,ec⟩
  have ak:=m.eO.de
  have ah:=n▸m.E8 (by rw[n];omega)
  refine⟨q,C m,(wD ah (ha.ext ak) ad V).aP ?_⟩
  rintro _ m5 ⟨ws,rfl,ow,ab⟩
  let⟨i,K⟩:=m.ext ab
  have R:=Q.to K
  have ai:(dR b x.aO).length<=1000000000:=by simp[dR];omega
  have iw:=bg.jT ow V
  refine⟨K.fW Q,ws,O,by rw[C i,C m],(Sa i.eO.aR i.eO.bI ac t iw V ai i.eO.de.aQ).aP ?_⟩
  rintro _ m6 ⟨al,F,rfl,af,c6⟩
  let⟨W,L⟩:=i.jN c6 af
  have T:=R.to L
  refine⟨L.fW R,F,O,W.eO.pO bO,?_⟩
  intro m7
  let⟨S7,M⟩:=W.lW 7 [.s F]
  have U:=T.to M
  have e3:eV (1000+(e:Int))=1000+(e:Int):=gJ
  have e4:eV (b.pc+1)=b.pc+1:=gJ
  rw[e3,e4]
  refine⟨M.fW T,(yo (b:={c with aR:=jM c.aR e ⟨1,t,dR b x.aO⟩}) S7 Y ae.1 (by rw[n];omega) (by rw[eo];omega) (1000+e)).aP ?_⟩
  rintro _ m8 ⟨S8,N⟩
  refine⟨N.fW U,(nk S8 Y (b.pc+1)).aP ?_⟩
  rintro _ m9 ⟨S9,t9⟩
  refine⟨t9.fW (U.to N),al,cJ,F,v,?_,((((o.N K).N L).N M).N N).N t9⟩
  rw[ec]
  have e5:ig (1000+(e:Int))=1:=by rw[ig,a8 V]
  have:=S9.eO
  rw[e5]at this
  exact this
theorem wU:∀(a bF:ab)(r:Int),fj bF (a++[r])=iv (fj bF a) r (br (fj bF a) r+1)
 |[],bF,r=>O
 |q::a,bF,r=>by rw[eN,fj,wU a,fj]
def Kq{a:ab}{i:Int}(h:∀l∈a,0<=l/\l<=t)(d:0<=t):0<=br a i/\br a i<=t:=by
 rcases eH i.toNat a.length with b|b
 .let⟨y,c⟩:=jq b;rw[IV c];exact h y (ba c)
 .grind [br,List.getElem?_eq_none]
def vr:∀(b bF:ab)(t:Int),0<=t->(∀l∈bF,0<=l/\l<=t)->∀l∈fj bF b,0<=l/\l<=t+b.length
 |[],bF,t,d,h,l,c=>by have:=h l c;simp;omega
 |r::b,bF,t,d,h,l,c=>by
  have:=vr b (iv bF r (br bF r+1)) (t+1) V (λq a=>by
   have:=Kq (i:=r) h d;rcases uf a with a|a
   .omega
   .have:=h q a;omega) l c
  simp only[dD];omega
noncomputable def xX (c:St) (u:aj) (b:bS) (x:Instr):St:=
 open Classical in
 if(bu c.aR (br b.aU (br x.aO 0))).bX=1/\x.op=17 then
  {c with aR:=c.aR.set (ix (br b.aU (br x.aO 0))) ⟨-1,0,eU (bu c.aR (br b.aU (br x.aO 0))).bV.length⟩,bo:=u++[{b with bF:=fj b.bF (x.aO.drop 1),pc:=b.pc+1,cL:=iv b.cL (br x.aO 0) (br b.aU (br x.aO 0))}]}
 else{c with aR:=iK c.aR (br b.aU (br x.aO 0)),bo:=u++[{b with bF:=fj b.bF (x.aO.drop 1),pc:=b.pc+1}]}
theorem tf(t:Nat):nv [.i (0:Int)] t=(eU t).map Ce.i:=by
 induction t with
 |zero=>rfl
 |succ t a=>
  have:nv [.i 0] (t+1)=.i 0::nv [.i 0] t:=by simp[nv,mF]
  rw[this,a];simp[eU,mF]
def vy{g:D}(a:0<=t)(b:t<=1000000):bJ dP 153 [vi t] g λv y=>v=E.v (.mk g.size 0 t.toNat t.toNat)/\y=g.push (.cells (dh ((eU t.toNat).map Ce.i)) bG):=by
 apply Nn;refine⟨a,dN _,V,V,?_⟩;rw[tf];exact⟨O,O⟩
def S0{g:D}(t:Nat):js g (g.push (.cells (dh ((eU t).map Ce.i)) bG)) bG 1 (.mk g.size 0 t t) ((eU t).map Ce.i):=by grind [js.bI,J.cX,lX]
def Nb(S:ST A k g z dG (SB d p c cJ q v) cJ q v c.cJ c.aR u b r l h B)(ha:bg A a x.aO)(am:∀C∈x.aO,0<=C/\C<b.aU.length)(aw:1<=x.aO.length/\x.aO.length<=4)
 (aD:b.aU.length=b.bF.length/\b.cL.length=b.bF.length/\b.bF.length<=2000)(aG:0<=b.pc/\b.pc<=100000)(ae:u.length<=100000)(az:c.aR.length<=1000000000)(au:∀N∈b.bF,0<=N/\N<=999999)
 (ag:iR c.aR (br b.aU (br x.aO 0))){e:Nat->Int}(hI:jc c.aR e):
 bJ dP 184 [vp z 0,fv b r l h,xv x a j] g λ_ y=>Hb A k g z d p (xX c u b x) y:=by
 apply xu (z,0)
 simp -zeta only[dT]
 intro m1 m2
 have av:J g m2:=((J.cX g).cz _).cz _
 have s1:=pz m1
 have s2:m2.size=g.size+2:=cC
 have B2:=Eb.Nv S.eO.bI s1 s2
 let⟨S2,t2⟩:=S.ext av
 have aI:r.len=b.aU.length:=by have:=S.jA.aU.aT;simp at this;omega
 have aF:l.len=b.bF.length:=by have:=S.jA.bF.aT;simp at this;omega
 have aA:h.len=b.cL.length:=by have:=S.jA.cL.aT;simp at this;omega
 have ax:=ha.aT
 have D:0<=br x.aO 0/\br x.aO 0<b.aU.length:=by grind [gZ]
 have ga:∀{y},J A y->∀{t:Nat}{C},x.aO[t]? =some C->aS y a.bt (a.off+Int.toNat (t:Int)*1)=some (vi C):=λhx t C Z=>by simpa using(ha.ext hx).br Z
 refine⟨V,V,br x.aO 0,(ha.ext S2.eO.de).uG V V,D.1,V,br b.aU (br x.aO 0),(S2.E8 V).uG D.1 D.2,?_⟩
 refine⟨λab y=>∃t:Nat,ab=t/\1<=t/\t<=x.aO.length/\ST A k y z dG (SB d p c cJ q v) cJ q v c.cJ c.aR u {b with bF:=fj b.bF ((x.aO.take t).drop 1)} r l h B/\To k g k y/\Eb k y [m1.size,g.size],λab _=>((x.aO.length:Int) -ab).toNat,⟨1,O,V,V,?_,t2,B2⟩,?_⟩
 .have e1:(x.aO.take 1).drop 1=[]:=bO
  rw[e1];exact S2
 rintro ab m3 ⟨t,rfl,aB,aC,E,t3,U⟩
 have aq:∀N∈fj b.bF ((x.aO.take t).drop 1),0<=N/\N<=1000010:=λN hq=>by
  have:=vr _ b.bF 999999 V au N hq;have h3:((x.aO.take t).drop 1).length<=4:=cC;omega
 refine dit (λh1=>?_) λh1=>?_
 .let⟨C,Z⟩:=dY x.aO t
  have G:=am C (ba Z)
  have K:C<(fj b.bF ((x.aO.take t).drop 1)).length:=by rw[vD];omega
  have hb:=Kq (i:=C) aq V
  refine⟨V,V,C,ga E.eO.de Z,V,V,C,ga E.eO.de Z,G.1,V,_,(E.NW cC).uG G.1 K,G.1,V,E.jA.bF.Ur G.1 K,?_⟩
  intro H
  have M:eV (br (fj b.bF ((x.aO.take t).drop 1)) C+1)=br (fj b.bF ((x.aO.take t).drop 1)) C+1:=gJ
  let⟨F,I⟩:=E.uq G.1 K (br (fj b.bF ((x.aO.take t).drop 1)) C+1)
  have L:H=aW m3 l.bt (l.off+C.toNat*1) [.i (br (fj b.bF ((x.aO.take t).drop 1)) C+1)]:=cC
  clear_value H
  subst L
  refine⟨I.fW U,?_,?_⟩
  .rw[oU (n:=x.aO.length) V V]
   refine⟨t+1,O,V,V,?_,t3.N I,U.to I⟩
   have e4:(x.aO.take (t+1)).drop 1=(x.aO.take t).drop 1++[C]:=by
    grind [bW]
   grind [wU]
  .rw[oU (n:=x.aO.length) V V]
   show((x.aO.length:Int) -((t+1:Nat):Int)).toNat<((x.aO.length:Int) -(t:Int)).toNat
   omega
 .have e1:(x.aO.take t).drop 1=x.aO.drop 1:=by grind [eY]
  rw[e1]at E
  have aJ:=nK ag.1
  let⟨ad,aH⟩:=dL ag
  have aa:=bC ad
  have aE:=E.eO.aR.aT
  have e4:eV (b.pc+1)=b.pc+1:=gJ
  have ap:ix (br b.aU (br x.aO 0))=(br b.aU (br x.aO 0) -1000).toNat:=rfl
  have e5:eV (br b.aU (br x.aO 0) -1000)=br b.aU (br x.aO 0) -1000:=gJ
  rw[e4,e5,<-ap]
  generalize hw:br b.aU (br x.aO 0)=w at*
  have gw:∀{k g lh own' held'},ST A k g z dG (SB d p c cJ q v) cJ q v c.cJ lh u {b with bF:=own',cL:=held'} r l h B->aS g r.bt (r.off+Int.toNat (br x.aO 0)*1)=some (vi w):=λS=>(hw▸(S.E8 cC).uG D.1 D.2)
  refine⟨D.1,V,w,gw E,(Gj E.eO ag hI V).aP ?_⟩
  rintro _ H ⟨ak,rfl,hb,c4,ao,an⟩
  refine⟨(c4.aP λt L=>by omega:To k m3 k H).fW U,ak,O,λai=>?_,λah=>?_⟩
  .have ar:=hb.1 ai
   let⟨F,I⟩:=E.jN (c4.aP λt L=>bz L) (ao ai)
   have B4:=U.to I
   have g7:=F.eO.bU.dg 7
   refine⟨λac=>?_,λac=>?_⟩
   .simp at ac
    let⟨f0,k0,k1,k2,kf,kr⟩:=F.eO.aR.dg ad
    have al:=(hI.iF _ (ba ad)).fl
    have ay:=kf.aT
    refine⟨q,g7,q,g7,V,V,f0,k2,(vy V V).aP ?_⟩
    rintro _ m5 ⟨rfl,rfl⟩
    have e6:Int.toNat (f0.len:Int)=(bu c.aR w).bV.length:=V
    rw[e6]
    have Y:J H (H.push (.cells (dh ((eU (bu c.aR w).bV.length).map Ce.i)) bG)):=J.push _ _
    have oz:=S0 (g:=H) (bu c.aR w).bV.length
    let⟨G,K⟩:=F.ext Y
    have W:=B4.to K
    have aj:k H.size=0:=F.eO.bI _ bY
    generalize H.push (.cells (dh ((eU (bu c.aR w).bV.length).map Ce.i)) bG)=m5 at*
    let⟨af,c6⟩:=G.eO.aR.pS G.eO.bI aa (-1) 0 (bg.jT oz (by rw[lX];omega)) (YR.of F.eO.aR (λD=>Y.bB _ (F.eO.aR.bt D).2) (λ_=>oz) (λ_=>aj) F.eO.de.aQ)
    refine⟨K.fW B4,_,O,Y.cK g7,V,V,G.eO.aR.wr (o:=0) aa cH,?_⟩
    intro m6
    let⟨M,P⟩:=G.jN (c6.aP λt L=>bz L) af
    have X:=W.to P
    refine⟨P.fW W,D.1,V,w,gw M,D.1,V,M.jA.cL.Ur D.1 cC,?_⟩
    intro m7
    let⟨R,Q⟩:=M.GZ D.1 cC w
    refine⟨Q.fW X,(nk (b:={c with aR:=c.aR.set (ix w) ⟨-1,0,eU (bu c.aR w).bV.length⟩}) R ae (b.pc+1)).aP ?_⟩
    rintro _ m8 ⟨S8,T⟩
    refine⟨T.fW (X.to Q),k,cJ,q,v,?_,(((((t3.N I).N K).N P).N Q).N T)⟩
    grind [xX,ST.eO]
   .simp at ac
    refine⟨q,g7,?_⟩
    intro m5
    have Y:=px m5
    let⟨G,K⟩:=F.ext Y
    have W:=B4.to K
    refine⟨V,V,G.eO.aR.wr (o:=0) aa cH,?_⟩
    intro m6
    let⟨af,c6⟩:=G.eO.aR.pS G.eO.bI aa 0 0 (f:=.mk H.size 0 0 0) ⟨O,bO,bO,bO⟩ (λaj=>absurd O aj)
    let⟨M,P⟩:=G.jN (c6.aP λt L=>bz L) af
    have X:=W.to P
    refine⟨P.fW W,q,M.eO.bU.dg 7,(CC (M.eO.aR.kL cC)).aP ?_⟩
    rintro _ m7 ⟨rfl,al⟩
    let⟨R,Q⟩:=M.ext al
    have B7:=X.to Q
    refine⟨Q.fW X,_,O,R.eO.pO bO,?_⟩
    intro m8
    obtain⟨aj,ay⟩:=R.jN (eu.cX _ R.eO.bI) (R.eO.aR.rG (yu _ _))
    obtain⟨S8,T⟩:=aj.lW 7 [.s (q.cut 0 (lL (c.aR.set (ix w) kV) (c.aR.set (ix w) kV).length) 3)]
    refine⟨T.fW B7,(nk (b:={c with aR:=oY (c.aR.set (ix w) kV)}) S8 ae (b.pc+1)).aP ?_⟩
    rintro _ m9 ⟨S9,t9⟩
    refine⟨t9.fW (B7.to T),k,cJ,q.cut 0 (lL (c.aR.set (ix w) kV) (c.aR.set (ix w) kV).length) 3,v,?_,((((((t3.N I).N K).N P).N Q).N T).N t9)⟩
    grind [xX,iK,ST.eO]
  .have ar:(bu c.aR w).bX≠1:=λe=>by have:=hb.2 e;rw[ah]at this;simp at this
   let⟨F,I⟩:=E.jN (c4.aP λt L=>bz L) (an ah)
   refine(nk (b:={c with aR:=kO (iQ c.aR w) (oF (bu c.aR w).bV)}) F ae (b.pc+1)).aP ?_
   rintro _ m5 ⟨G,K⟩
   refine⟨K.fW (U.to I),k,cJ,q,v,?_,(t3.N I).N K⟩
   grind [xX,iK,ST.eO]
end
section
variable{j:cO}{e:Instr}{A:E}{l:ab}{v b1 b2 b3 k:Nat}{c:D}
def k8(j:cO)(e:Instr):Nat->ab->ab
 |_,[]=>[]
 |k,w::A=>(if(e.op=9\/e.op=24)/\jv j e k=true then 0 else ig w)::k8 j e (k+1) A
def ID(j:cO)(e:Instr):∀(l z:ab)(k:Nat),k8 j e k (l++z)=k8 j e k l++k8 j e (k+l.length) z
 |[],z,k=>by simp[k8]
 |b::l,z,k=>by
  have:=ID j e l z (k+1);simp only[eN,k8,this,dD];have a:k+(l.length+1)=k+1+l.length:=V;rw[a]
def Jl(j:cO)(e:Instr):∀(l:ab)(k:Nat),(k8 j e k l).length=l.length
 |[],k=>O
 |a::l,k=>by simp only[k8,dD,Jl j e l]
def NU{j:cO}{e:Instr}(a:e.op=9\/e.op=24):∀(l:ab)(k:Nat),k8 j e k l=fK (dE j e.cG).cW k l
 |[],k=>O
 |c::l,k=>by
  simp only[k8,fK,NU a l];congr 1;unfold jv;by_cases h:((dE j e.cG).cW.any λy=>y==(k:Int))=true
  .rw[a8 ⟨a,h⟩,a8 h]
  .rw[aV (λb=>h b.2),aV h]
def KU{j:cO}{e:Instr}(a:¬(e.op=9\/e.op=24)):∀(l:ab)(k:Nat),k8 j e k l=fK [] k l
 |[],k=>O
 |c::l,k=>by
  simp only[k8,fK,KU a l,Wg,rS,mD];rw[aV (λb=>a b.1)]
def JT{b:D}{w:Nat}{d y:E}(aa:iW b d y j)(W:aS b w 0=some d.v)(g1:aS b w 1=some y.v)(hc:Ed j e)(G R:E)(M:bg b A l)(ac:l.length<=1000000):
 sM 218 [vp w 0,xv e G R,A.v] b (k8 j e 0 l):=by
 apply vR (w,0)
 simp -zeta only[dT]
 intro a S
 have x:=px a
 have X:=px S
 have ho:js a S bG 1 (.mk a.size 0 0 0) []:=js.bI (J.cX a) bG 1 [] 0 bO
 have g:∀q∈[b.size],q<a.size:=by simp[a]
 have ad:=M.aT
 refine gN (n:=l.length) V (λk s c=>J a c/\js a c bG 1 s ((k8 j e 0 (l.take k)).map Ce.i)) ⟨X,by simpa[k8]using ho⟩ ?_
 rintro k s m3 ab μ hk ⟨N,i⟩ C
 have P:=x.N N
 refine dit (λh=>?_) λh=>?_
 .let⟨F,Q⟩:=dY l k
  have L:(l.take k).length=k:=fu
  have v:k8 j e 0 (l.take (k+1))=k8 j e 0 (l.take k)++[if(e.op=9\/e.op=24)/\jv j e k=true then 0 else ig F]:=by
   rw[bW Q,ID,L];simp[k8]
  have u:(k8 j e 0 (l.take k)).length<1000000000:=by rw[Jl,L];omega
  refine⟨V,V,F,by simpa using P.aS (M.br Q),(ji).bL N g λq m4 I r o=>⟨q,O,λZ=>?_,λY=>?_⟩⟩
  .have B:=x.N o
   refine⟨d,B.aS W,y,B.aS g1,(wA (aa.ext B) hc G R k).bL o g λb2 m5 K H p=>⟨b2,O,λt=>?_,λt=>?_⟩⟩
   .intro T
    refine sj ((i.ext r).ext H) p u λz U m f=>⟨J.xh (p.cz _) f g,C V _ _ ⟨f,?_⟩⟩
    rw[v,aV (nb K t),ig,a8 (I.1 Z)];exact m
   .intro T
    refine sj ((i.ext r).ext H) p u λz U m f=>⟨J.xh (p.cz _) f g,C V _ _ ⟨f,?_⟩⟩
    rw[v,a8 (yb K t)];exact m
  .intro T
   refine sj (i.ext r) o u λz U m f=>⟨J.xh (o.cz _) f g,C V _ _ ⟨f,?_⟩⟩
   rw[v]
   have p:(if(e.op=9\/e.op=24)/\jv j e k=true then 0 else ig F)=0:=by
    rw[ig,aV (fb I Y)];split<;>rfl
   rw[p];exact m
 .rw[eY V]at i
  exact⟨s,O,i.de x.aQ,P⟩
@[grind cases] structure tR (m m':D) (b1 b2 b3 n:Nat) (aU bF cL:ab):Prop where
 ext:J m m'
 lo:m.size<=b1/\m.size<=b2/\m.size<=b3/\b1≠b2/\b1≠b3/\b2≠b3/\b1<m'.size/\b2<m'.size/\b3<m'.size
 kr:dJ m' b1 bG (aU.map Ce.i)
 ko:dJ m' b2 bG (bF.map Ce.i)
 kh:dJ m' b3 bG (cL.map Ce.i)
 aT:aU.length=n/\bF.length=n/\cL.length=n
def PT{b:D}{a:Nat}(d:dJ b a bG ((eU v).map Ce.i))(f:l.length<=v):dJ (aW b a 0 (l.map Ce.i)) a bG ((l++eU (v -l.length)).map Ce.i):=by
 have:=dJ.aW (m:=b) (o:=0) (r:=l.map Ce.i) d;have e:jm ((eU v).map Ce.i) 0 (l.map Ce.i)=(l++eU (v -l.length)).map Ce.i:=by
  have c:=Cd [] (l.map Ce.i) ((eU v).map Ce.i) (by simp[lX];omega);simp only[iy,kH]at c;rw[c];simp[eU,List.drop_replicate]
 rw[e]at this;exact this
def C2{b:D}{d y:E}(M:iW b d y j){r:Int}(T:0<=r){q:dS}(P:j.cU[r.toNat]? =some q)(F:0<=q.aU/\q.aU<=2000)(L:Int){K:E}{f i:ab}(Q:bg b A f)(N:bg b K i)(ag:(f.length:Int)<=q.aU)(ae:i.length=f.length):
 bJ dP 107 [.agg #[d.v,y.v],vi r,vi L,A.v,K.v] b λac c=>∃b1 b2 b3,ac=.agg #[vi r,vi 0,vi L,E.v (.mk b1 0 q.aU.toNat q.aU.toNat),E.v (.mk b2 0 q.aU.toNat q.aU.toNat),E.v (.mk b3 0 q.aU.toNat q.aU.toNat)]/\
  tR b c b1 b2 b3 q.aU.toNat (f++eU (q.aU.toNat -f.length)) (i++eU (q.aU.toNat -i.length)) (eU q.aU.toNat):=by
 apply JI
 simp -zeta only[dT]
 intro G a
 have w:J b a:=((J.cX b).cz _).cz _
 have s1:=pz G
 have s2:a.size=b.size+2:=by simp[a,s1]
 have k:∀g∈[G.size,b.size],g<a.size:=fu
 have af:=M.cU.aT
 have ad:=bC P
 have Y:=Q.aT
 have X:=N.aT
 obtain⟨a',l',c',_,_,_,_,_,_,k3,_⟩:=(M.ext w).cU.br P
 refine⟨T,V,q.aU,k3,(vy F.1 V).aP ?_⟩
 rintro _ e ⟨rfl,n⟩
 have z:J a e:=(n▸J.push _ _)
 have s3:e.size=a.size+1:=by rw[n];simp
 have R:dJ e a.size bG ((eU q.aU.toNat).map Ce.i):=(n▸dJ.push _ _ _)
 clear n
 refine⟨z.fg k,_,O,(vy F.1 V).aP ?_⟩
 rintro _ x ⟨rfl,o⟩
 have u:J e x:=(o▸J.push _ _)
 have s4:x.size=e.size+1:=by rw[o];simp
 have k2:dJ x e.size bG ((eU q.aU.toNat).map Ce.i):=(o▸dJ.push _ _ _)
 clear o
 have B:=z.N u
 have U:min A.len q.aU.toNat=f.length:=(Y▸mK V)
 have W:min K.len q.aU.toNat=i.length:=(X▸mK V)
 refine⟨u.fg (λg C=>z.lt (k g C)),_,O,f.map Ce.i,by simp only[E.lU];rw[U];simp,(Q.ext (w.N B)).Fb,(R.ext u).gK (by simp[lX];omega),?_⟩
 intro l
 have k5:dJ l a.size bG ((f++eU (q.aU.toNat -f.length)).map Ce.i):=PT (R.ext u) V
 have S:dJ l e.size bG ((eU q.aU.toNat).map Ce.i):=k2.congr (cw _ _ _ _ (show e.size≠a.size by omega))
 have s:J a l:=B.aW bY _ _
 have s5:l.size=x.size:=bE _ _ _ _
 refine⟨J.xh B s k,i.map Ce.i,by simp only[E.lU];rw[W];simp,(N.ext (w.N s)).Fb,S.gK (by simp[lX];omega),?_⟩
 intro h
 have k6:dJ h e.size bG ((i++eU (q.aU.toNat -i.length)).map Ce.i):=PT S V
 have aa:dJ h a.size bG ((f++eU (q.aU.toNat -f.length)).map Ce.i):=k5.congr (cw _ _ _ _ (show a.size≠e.size by omega))
 have t:J a h:=s.aW (show a.size<=e.size by omega) _ _
 have s6:h.size=l.size:=bE _ _ _ _
 refine⟨J.xh s t k,(vy F.1 V).aP ?_⟩
 rintro _ m ⟨rfl,p⟩
 have v:J h m:=(p▸J.push _ _)
 have s7:m.size=h.size+1:=by rw[p];simp
 have k7:dJ m h.size bG ((eU q.aU.toNat).map Ce.i):=(p▸dJ.push _ _ _)
 clear p
 refine⟨J.xh t (t.N v) k,_,O,?_⟩
 intro H
 have Z:J b H:=(w.N (t.N v)).aW V _ _
 have s8:H.size=m.size:=bE _ _ _ _
 have I:∀g,g≠G.size->H[g]? =m[g]? :=λg C=>cw _ _ _ _ C
 refine⟨a.size,e.size,h.size,O,Z,V,(aa.ext v).congr (I _ V),(k6.ext v).congr (I _ V),k7.congr (I _ V),by simp[lX];omega⟩
def pY(q:ag)(b1 b2 b3 v:Nat):Nat->Nat:=pE (pE (pE q b1 (10+3*v)) b2 (11+3*v)) b3 (12+3*v)
def tR.gX{y:Nat->Prop}{q:ag}{b:D}{aU bF cL:ab}(N:tR b c b1 b2 b3 k aU bF cL)(e:∀a,b.size<=a->q a=0):eu y q b (pY q b1 b2 b3 v) c:=by
 have f:=N.lo;refine⟨N.ext.aQ,λa d=>?_,λa d=>?_,λa d _=>N.ext.bB a d⟩
 .unfold pY;rw[fO V,fO V,fO V]
 .unfold pY;rw[fO V,fO V,fO V];exact e a (oh N.ext.aQ)
def tR.rm{q:ag}{b:D}{aU bF cL:ab}(N:tR b c b1 b2 b3 k aU bF cL):
 iV (pY q b1 b2 b3 v) c bG 1 (10+3*v) (.mk b1 0 k k) (aU.map Ce.i)/\iV (pY q b1 b2 b3 v) c bG 1 (11+3*v) (.mk b2 0 k k) (bF.map Ce.i)/\iV (pY q b1 b2 b3 v) c bG 1 (12+3*v) (.mk b3 0 k k) (cL.map Ce.i):=by
 have f:=N.lo
 let⟨a,d,e⟩:=N.aT
 refine⟨⟨by simp[a],bO,bH ⟨b1,k,[],O,?_,by rw[gA];exact N.kr,by simp[a]⟩⟩,⟨by simp[d],bO,bH ⟨b2,k,[],O,?_,by rw[gA];exact N.ko,by simp[d]⟩⟩,⟨by simp[e],bO,bH ⟨b3,k,[],O,?_,by rw[gA];exact N.kh,by simp[e]⟩⟩⟩
 .unfold pY;rw[fO V,fO V,iE]
 .unfold pY;rw[fO V,iE]
 .unfold pY;rw[iE]
def tR.bU{b:D}{aU bF cL:ab}(N:tR b c b1 b2 b3 k aU bF cL){m1:D}(e:J m1 b){nb:Nat}(d:m1.size<=nb)(f:nb<b.size)(i:Nat)(a:ae):tR m1 (aW c nb i a) b1 b2 b3 k aU bF cL:=by
 have g:=N.lo;exact⟨(e.N N.ext).aW d _ _,by rw[bE];omega,N.kr.congr (cw _ _ _ _ V),N.ko.congr (cw _ _ _ _ V),N.kh.congr (cw _ _ _ _ V),N.aT⟩
def tR.Mh{b d:D}{aU bF cL:ab}(N:tR b c b1 b2 b3 k aU bF cL)(a:J c d):tR b d b1 b2 b3 k aU bF cL:=by
 have e:=N.lo;have:=a.aQ;exact⟨N.ext.N a,V,N.kr.ext a,N.ko.ext a,N.kh.ext a,N.aT⟩
variable{F:D}{q:ag}{b:D}{w:Nat}{d y cJ B t:E}{s:St}{g:aj}{u:bS}{z G h:E}{C:List ae}
def rU.replace{d:ag}(T:rU q b t g u z G h C)(r:eu (λ_=>False) q b d c){a:bS}{j i e:E}(s:iV d c bG 1 (10+3*g.length) j (a.aU.map Ce.i))(n:iV d c bG 1 (11+3*g.length) i (a.bF.map Ce.i))(p:iV d c bG 1 (12+3*g.length) e (a.cL.map Ce.i)):
 gK c t.bt (t.off+g.length*6) 6/\sL d (aW c t.bt (t.off+g.length*6) [.i a.fN,.i a.pc,.i a.bA,.s j,.s i,.s e]) t (g++[a])/\eu (λk=>k=4) d c d (aW c t.bt (t.off+g.length*6) [.i a.fN,.i a.pc,.i a.bA,.s j,.s i,.s e]):=by
 have l:rU d c t g u z G h C:=T.gX r λ_ _=>id
 have m:C.flatten.length=g.length*6:=by rw[eD T.aQ,T.aT]
 have f:eu (λk=>k=4) d c d (aW c t.bt (t.off+g.length*6) [.i a.fN,.i a.pc,.i a.bA,.s j,.s i,.s e]):=eu.aW r.bI l.bt.1 _ _
 refine⟨l.rm.wr (by simp[m]),rU.qC ⟨?_,T.aT,T.aQ,l.CU f λk n p=>V,s.gX f V,n.gX f V,p.gX f V⟩,f⟩
 have:=l.rm.eE (o:=g.length*6) (new:=[.i a.fN,.i a.pc,.i a.bA,.s j,.s i,.s e]) (by simp[m])
 rw[oR _ _ _ _ V,m,Wn]at this
 exact this
def Sj(w nb:Nat)(d:ad)(k n f:Int)(g g1 g2:Int)(l j h:E)(e:D)(R:ak):Prop:=
 ((k==(24:Int))=true->
 let b:D:=aW e nb 2 [.i f]
 ∃a:E,aS b w 8=some a.v/\
 ∃c:E,aS b w 8=some c.v/\
 (0:Int)<=(eV ((c.len:Int) -(1:Int)))/\(eV ((c.len:Int) -(1:Int)))<(a.len:Int)/\
 gK b a.bt (a.off+Int.toNat (eV ((c.len:Int) -(1:Int)))*6) 6/\
 let i:D:=aW b a.bt (a.off+Int.toNat (eV ((c.len:Int) -(1:Int)))*6) [.i g,.i g1,.i f,.s l,.s j,.s h]
 gT (nb::d) b i/\
 R (.tuple #[]) i)/\
 ((k==(24:Int))=false->
 bJ dP 182 [vp w 0,vi (eV (n+(1:Int)))] e λ_ a=>
 gT (nb::d) e a/\
 ∃m:E,aS a w 8=some m.v/\
 let c:D:=a.push (.cells (dh [.i g,.i g1,.i g2,.s l,.s j,.s h]) gS)
 aS c w 8=aS a w 8/\
 mf c gS [.i (0:Int),.i (0:Int),.i (0:Int),.s E.nil,.s E.nil,.s E.nil] 96 m (E.mk a.size 0 1 1) λo b=>
 gT (nb::d) c b/\
 gK b w 8 1/\
 let i:D:=aW b w 8 [.s o]
 gT (nb::d) b i/\
 R (.tuple #[]) i)
def Tv(S:ST F q b w dG (SB d y s cJ B t) cJ B t s.cJ s.aR g u z G h C){X:ad}(I:Eb q b X){nb:Nat}{A:D}{j:bS}(N:tR b A b1 b2 b3 k j.aU j.bF j.cL)(aj:b.size<=nb/\nb<A.size)(v:nb≠b1/\nb≠b2/\nb≠b3)
 (az:g.length<=100000)(aB:0<=u.pc/\u.pc<=100000){T:ak}
 (au:e.op=24->∀c,Hb F q b w d y {s with bo:=g++[{j with bA:=u.bA}]} c->T (.tuple #[]) c)
 (av:e.op≠24->∀c,Hb F q b w d y {s with bo:=g++[{u with pc:=u.pc+1},j]} c->T (.tuple #[]) c):
 Sj w nb X e.op u.pc u.bA j.fN j.pc j.bA (.mk b1 0 k k) (.mk b2 0 k k) (.mk b3 0 k k) A T:=by
 have aA:=N.lo
 have ay:=S.jA.CM
 have H:eV ((t.len:Int) -1)=(g.length:Int):=by rw[gJ];omega
 have e2:Int.toNat (g.length:Int)=g.length:=V
 have e4:eV (u.pc+1)=u.pc+1:=gJ
 have al:q nb=0:=S.eO.bI _ aj.1
 refine⟨λM=>?_,λM=>?_⟩
 .intro J
  have R:tR b J b1 b2 b3 k j.aU j.bF j.cL:=⟨N.ext.aW aj.1 _ _,by simp only[J,bE];omega,N.kr.congr (cw _ _ _ _ (λH=>v.1 H.symm)),N.ko.congr (cw _ _ _ _ (λH=>v.2.1 H.symm)),N.kh.congr (cw _ _ _ _ (λH=>v.2.2 H.symm)),N.aT⟩
  have ab:J.size=A.size:=bE _ _ _ _
  have r:eu (λ_=>False) q b (pY q b1 b2 b3 g.length) J:=R.gX S.eO.bI
  let⟨W,a2,a3⟩:=R.rm (q:=q) (v:=g.length)
  let⟨w1,w2,L⟩:=S.jA.replace r (a:={j with bA:=u.bA}) W a2 a3
  let⟨P,Y⟩:=S.eO.jN (r.aP λ_=>False.elim) (S.eO.aR.gX r id id)
  have K:=P.bU.dg 8
  refine⟨t,K,t,K,?_⟩
  rw[H,e2]
  refine⟨V,V,w1,?_⟩
  intro aa
  let⟨U,Z⟩:=P.mJ (L.aP λk Q=>V) w2
  refine⟨?_,au (sp M) _ ⟨_,cJ,B,t,U,Y.N Z⟩⟩
  intro o m
  rcases aZ.1 m with rfl|m
  .refine L.fH _ V ?_
   unfold pY;rw[fO v.2.2,fO v.2.1,fO v.1,al];decide
  .refine L.fH _ (oh ((I o m).1)) ?_
   rw[r.jZ o (I o m).1,(I o m).2];decide
 .simp only[bd]at M
  rw[e4]
  have r:eu (λ_=>False) q b (pY q b1 b2 b3 (g.length+1)) A:=N.gX S.eO.bI
  let⟨W,a2,a3⟩:=N.rm (q:=q) (v:=g.length+1)
  let⟨aq,ax⟩:=S.eO.jN (r.aP λ_=>False.elim) (S.eO.aR.gX r id id)
  have J:ST F (pY q b1 b2 b3 (g.length+1)) A w dG (SB d y s cJ B t) cJ B t s.cJ s.aR g u z G h C:=⟨aq,S.jA.gX r λ_ _=>id⟩
  have ai:Eb (pY q b1 b2 b3 (g.length+1)) A (nb::X):=λo m=>by
   rcases aZ.1 m with rfl|m
   .refine⟨V,?_⟩;unfold pY;rw[fO v.2.2,fO v.2.1,fO v.1,al]
   .exact⟨by have:=(I o m).1;omega,((r.jZ o (I o m).1)▸(I o m).2)⟩
  apply tA (w,0)
  have K:=J.eO.bU.dg 8
  refine⟨t,K,t,K,?_⟩
  rw[H,e2]
  refine⟨V,V,J.jA.abQ,?_⟩
  intro R
  let⟨L,ab⟩:=J.SS (u.pc+1)
  have ar:eu (λk=>k=4) (pY q b1 b2 b3 (g.length+1)) A (pY q b1 b2 b3 (g.length+1)) R:=eu.aW J.eO.bI J.jA.bt.1 _ _
  refine⟨ab.fW ai,t,L.eO.bU.dg 8,?_⟩
  intro aa
  have Z:=px aa
  let⟨U,ao⟩:=L.ext Z
  have af:=(ai.to ab).to ao
  have ni:jw aa R.size 0 [.i j.fN,.i j.pc,.i j.bA,.s (.mk b1 0 k k),.s (.mk b2 0 k k),.s (.mk b3 0 k k)]:=(dJ.push R _ _).kv
  have P:(g++[{u with pc:=u.pc+1}]).length=g.length+1:=bO
  have Y:=λ{k:Nat}{s:E}{l:ae}(a:iV (pY q b1 b2 b3 (g.length+1)) A bG 1 k s l)(Q:k≠4)=>(a.gX ar Q).gX (eu.fZ (p:=λ_=>False) Z L.eO.bI) id
  refine⟨Z.cK (L.eO.bU.dg 8),sL.push U.eO.bo U.eO.bI (x:=.mk R.size 0 1 1) O (f:=j) ni (by rw[P];exact Y W V) (by rw[P];exact Y a2 V) (by rw[P];exact Y a3 V) (by rw[P];omega) λan am aw q1 q2=>?_⟩
  have ac:To _ aa an aw:=q2.aP λk Q=>V
  let⟨ag,aD⟩:=U.eO.mJ (q2.aP λk Q=>V) q1
  refine⟨ac.fW af,ag.pO (i:=8) bO,?_⟩
  intro aC
  let⟨ah,ap⟩:=ag.lW 8 [.s am]
  refine⟨ap.fW (af.to ac),av M _ ⟨an,cJ,B,am,?_,(((ax.N ab).N ao).N ac).N ap⟩⟩
  have e9:g++[{u with pc:=u.pc+1}]++[j]=g++[{u with pc:=u.pc+1},j]:=bO
  rw[e9]at ah
  exact ah
end
end Go.Proofs.YtbbbdejieenniaaGreat
