/- Part of a proof. -/
import Derived.Test.YtbbbdejieenniaaGreatRD02
set_option linter.all false
set_option maxHeartbeats 8000000
set_option maxRecDepth 100000
namespace Go.Proofs.YtbbbdejieenniaaGreat
open Go.Vc
section
variable{X:ad}{b k c:Nat}{s:E}
@[grind cases] structure GC (rb:Nat) (bs:E) (P:Nat) (d p:E) (ds:af) (fs:av) (m:bg):Prop where
 rd:Rd rb bs P m
 hd:dA (dB [rb] m) d ds
 hp:tA (dB [rb] m) p fs
 gp:GP ds fs
def Lw(a:Nat)(L:ad)(m:bg):Prop:=∀b∈L,b<m.size/\b≠a
def XP(S:ad)(b:Nat)(c:E)(m:bg)(P:Nat)(Q:Ex->Prop)(v:Value)(a:bg):Prop:=∃s e,v=.agg #[vi e.op,vi e.cE,s.v]/\jz (dB S a) s e.dv/\Q e/\Rd b c P a/\Fz [b] m a
abbrev IR(a:Nat)(m:bg)(s:E)(l:ab):Prop:=ba (dB [a] m) s l
section
variable{e P i:Nat}{h d p:E}{l:af}{n:av}{m M g:bg}{S L:ad}{f:Nat}{j:ap}{Q Q':Ex->Prop}
def fh(f:Fz [e] m M):Le (dB [e] m) (dB [e] M):=f.fj λ_ h=>h
def GC.to(a:GC e h P d p l n m)(f:Fz [e] m M)(r:Rd e h i M):GC e h i d p l n M:=⟨r,a.hd.le (fh f),tA.le (fh f) a.hp,a.gp⟩
def GC.ext(a:GC e h P d p l n m)(x:D m M):GC e h P d p l n M:=a.to (x.fz _) (a.rd.ext x)
def GC.dk(a:GC e h P d p l n m):eR l:=xc a.gp.ds
def Lw.fz(h:Lw e L m)(f:Fz X m M):Lw e L M:=λb a=>⟨cw (h b a).1 f.aQ,(h b a).2⟩
def Lw.lt(h:Lw e L m)(f:Fz X m M):∀b∈L,b<M.size:=λb a=>(h.fz f b a).1
def Lw.eV(h:Lw e L m)(f:Fz [e] m M):gS L m M:=f.eV λb a=>⟨(h b a).1,by have:=(h b a).2;simpa using this⟩
theorem Lw.dx(h:Lw e L m)(f:Fz [e] m M)(c:Fz [e] M g)(a:b∈L){o:Nat}:aS g b o=aS M b o:=bE (c.bG b (h.fz f b a).1 (by have:=(h b a).2;simpa using this)) o
def XP.aP{P i:Nat}(k:∀a,Q a->Q' a)(j:P<=i){v:Value}:XP S e h m P Q v M->XP S e h m i Q' v M:=λ⟨s,a,b,c,d,f,g⟩=>⟨s,a,b,c,k a d,f.aP j,g⟩
def XP.cg{K:aj}(c:bK dO f j M (XP S e h M P Q))(m:Lw e L M)(n:∀s a g,jz (dB S g) s a.dv->Q a->Rd e h P g->Fz [e] M g->K (.agg #[vi a.op,vi a.cE,s.v]) g):bK dO f j M λv g=>gS L M g/\K v g:=
 c.aP λv g⟨s,a,d,i,k,l,b⟩=>⟨m.eV b,d▸n s a g i k l b⟩
def Lw.wK(h:Lw e L m)(f:Fz [e] m M)(c:Fz [e] m g):gS L M g:=λb a=>by
 have:=h b a;grind [Fz.bG]
def XP.tU{p:Nat}(q:bK dO f j M (XP (b::S) e h M P Q))(t:Lw e L M)(o:Fz [e] m M)(r:Rd e h p m)(n:m.size<=b)(v:∀a,Q a->Q' a)(u:P<=i):
 bK dO f j M λA g=>gS L M g/\∃c d:Int,∃k:E,A=.agg #[vi c,vi d,k.v]/\XP S e h m i Q' (.agg #[vi c,vi d,k.v]) (aV g b 0 [.i c,.i d,.s k]):=
 XP.cg q t λs a g z y w l=>⟨_,_,_,O,s,a,O,jz.le (dW bO λB x=>aX _ x) z,v a y,r.aV (w.aP u) (o.J l) n 0 _,(o.J l).aV (bR n) _ _⟩
abbrev GE(S:ad)(a m:bg)(s:E)(l:ax):Prop:=Gr S a m dw 3 DN s l
def XP.nE{B:Nat}{i:bg}{s:E}{n:ax}{K:E->bg->Prop}(D:bK dO f j M (XP (s.bz::S) e h M P Q))(t:GE S i M s n)(z:Fz [e] i M)(w:Lw e L i)(u:Rd e h B i)(H:e∈S)(l:n.length<=1000)
 (F:∀c r g,Q c->GE S i g r (n++[c])->Rd e h P g->Fz [e] i g->Fz [e,s.bz] M g->(r.bz=s.bz\/M.size<=r.bz)->K r g):
 bK dO f j M λN k=>gS L M k/\∃o p:Int,∃q:E,N=.agg #[vi o,vi p,q.v]/\
  mj (k.push (.cells (db [.i o,.i p,.s q]) dw)) dw [.i 0,.i 0,.s .nil] 40 s (E.mk k.size 0 1 1) λr g=>gS L (k.push (.cells (db [.i o,.i p,.s q]) dw)) g/\K r g:=
 XP.cg D (w.fz z) λU c k J G x d=>⟨_,_,_,O,by
  have T:=t.cJ;have I:=u.lt;have v:=z.J d;refine Gr.nE (h:=[.i 0,.i 0,.s .nil]) (m:=c) DN.aP cD (t.fR DN.aP d (by simp;exact⟨H,I⟩)) v (by cases c;exact DN.of J) V λr g C m R A=>⟨w.wK (v.push _) m,F c r g G C (u.Bu x m (A e x.lt V)) m ⟨fD d.aQ R.1,λb y l=>?_⟩ (oh d.aQ)⟩;simp only[bo,nh,Ga,FZ]at l;rw[A b (cw y d.aQ) l.2,d.bG b y (sp l.1)]⟩
def adZ{b:bg}(h:Fz [e,k] b M)(c:s.bz=k\/b.size<=s.bz)(a:Fz [e,s.bz] M g):Fz [e,k] b g:=
 by grind [Fz.vV]
end
def qR{S:ad}{d P:Nat}{b:E}{m:bg}{dv:ax}(j:Rd d b P m)(h:jz (dB S m) s dv)(a cE:Int):bK dO 320 [vi a,vi cE,s.v] m (XP S d b m P (.mk a cE dv=·)):=
 (NN h a cE).aP λv l⟨k,e,f,g,i,c⟩=>⟨k,e,f,g,i,j.ext c,c.fz _⟩
def SmQ(b:af)(d:av)(c:Nat)(e:Ex):Prop:=(∀a,WX b d.length a e)/\e.n<=c
def acW(c k:Nat)(e:af)(f:av)(t:Int):Prop:=∀(S:ad)(a P:Nat)(b d p:E)(m:bg),(∀g∈S,g<m.size)->a∈S->GC a b P d p e f m->P+k<=10^16->
 bK dO 342 [vp a 0,.agg #[d.v,p.v],vi t] m (XP S a b m (P+k) (SmQ e f c))
def XS{a:af}{b:av}{l:ax}{f i:Int}(m:f=6\/f=10)(h:∀e∈l,SmQ a b 1 e)(k:l.length+1<=c):SmQ a b c (.mk f i l):=
 ⟨λg=>.iY V (λh=>V) V (λh=>V) λe d=>(h e d).1 g,by
  rw[Ex.Yz];have:∀l:ax,(∀e∈l,SmQ a b 1 e)->en l<=l.length:=λl=>by
   induction l with
   |nil=>simp
   |cons x l j=>intro h;rw[Ta,dz];have:=(h x bO).2;have:=j λe d=>h e (by simp[d]);omega
  have:=this l h;omega⟩
theorem Vf{d:af}{X:av}{t:Int}(ht:Ty d t)(hB:(Lo t/\c=1/\k=5)\/((∀a,Lo a->acW 1 5 d X a)/\c=4/\k=20)):acW c k d X t:=by
 intro p f A G al aq ap hS aa a hP;apply Hz (f,0);simp -zeta only[dR];intro m aj;let⟨x2,hl⟩:=fU (a:=m) (c:=aj) O O;have s1:=pz m;have hr:=a.rd.lt;have L2:Lw f [m.size,ap.size] aj:=λb I=>⟨hl b I,by simp at I;omega⟩;have U:=a.dk;have h5:=Ty.adW a.gp.ds ht;have ad:∀e∈m.size::p,e<aj.size:=by grind [dE,D.aQ]
 have c2:=a.ext x2;refine(kQ (e:=[f]) cB (c2.hd.le fN) U t).aP λz m3⟨cs,l,e,hc,q,F⟩=>⟨L2.eV (F.fz _),cs,e,?_⟩;subst q;have B:=c2.ext F;have J:=L2.fz (F.fz []);have u3:=x2.J F;have aG:=hc.aT;refine dit (λh0=>?_) λh0=>?_
 .let⟨T,ai⟩:=dV (cT d t) 0;have hh:(cT d t).head?=some T:=by rw[List.head?_eq_getElem?];exact ai
  have R:T∈(cT d t).take 2:=HK.2 ⟨0,V,by have:=mQ.1 ai;exact this.2⟩;have A0:∀{M:bg},Fz [f] m3 M->aS M cs.bz (cs.off+Int.toNat 0*1)=some (vi T):=λN=>(iO.1 ((hc.le (fh N)).bt ai)).2;refine⟨cD,V,T,A0 nP,λa M=>a∈(cT d t).take 2/\Rd f G (A+1) M/\Fz [f] m3 M,⟨λH=>?_,λH=>⟨R,B.rd.aP V,nP⟩⟩,?_⟩
  .simp only[bh]at H;let⟨o,i⟩:=dV (cT d t) 1;have t1:o∈(cT d t).take 2:=HK.2 ⟨1,V,by have:=mQ.1 i;exact this.2⟩;refine(dX B.rd V 4).aP λz m4⟨E,e,_,_,j,g⟩=>⟨J.eV g,E,e,λh=>⟨cD,V,o,(iO.1 ((hc.le (fh g)).bt i)).2,t1,j,g⟩,λh=>⟨R,j,g⟩⟩
  rintro c' x ⟨aw,u,i⟩;have K:=J.fz i;refine⟨λa M=>a∈(cT d t).take 2/\((cT d t).head?=some a\/t∉cX d a)/\Rd f G (A+1) M/\Fz [f] m3 M,?_,?_⟩
  .refine(fV (e:=[]) ((B.to i u).hd.le (fN.J EB)) U c').aP λz m6⟨N,l,e,Y,q,v⟩=>⟨K.eV (v.fz _),N,e,?_⟩;subst q;refine(fI (Y.le fN) t).aP λz o⟨b,e,I,g⟩=>⟨(K.fz (v.fz [])).eV (g.fz _),b,e,λan=>?_,λae=>⟨aw,bR λj=>by rw[I.2 j]at ae;exact absurd ae cD,(u.ext v).ext g,(i.cg v).cg g⟩⟩;have j:=(i.cg v).cg g;exact⟨cD,V,T,A0 j,R,bC hh,(u.ext v).ext g,j⟩
  rintro L r ⟨H,h2,r8,W⟩;let⟨z3,ay,zz⟩:=VV d a.gp.ds t h5 L H h2;have c8:=B.to W r8;have L8:=J.fz W;have F8:Fz [f] ap r:=(u3.fz _).J W;have z8:=W.aQ;have aA:=F.aQ;have z2:=x2.aQ;intro m9;obtain⟨x9,s9⟩:=pu m9;have g9:GE (m.size::p) r m9 (.mk r.size 0 0 0) []:=by grind [Gr.bF]
  refine(fV (e:=[f,r.size]) (c8.hd.le (x9.dB bO)) U L).aP λz ao⟨N,l,e,Y,q,ab⟩=>⟨(L8.fz (x9.fz [])).eV (ab.fz _),N,e,?_⟩;subst q;have ax:=Y.aT;refine gL (n:=(cX d L).length) V (λj s M=>∃l,GE (m.size::p) r M s l/\l.length=j/\(∀e∈l,SmQ d X 1 e)/\Rd f G (A+1+5*j) M/\Fz [f] r M/\Fz [f,r.size] ao M/\(s.bz=r.size\/ao.size<=s.bz)) ⟨[],g9.ext DN.aP ab,O,bO,(r8.ext x9).ext ab,((x9.J ab).fz _),nP,bC O⟩ ?_;rintro j s M ar μ hj ⟨l,C,az,Z,Q,o,ac,hs⟩ ak
  have LM:=L8.fz o;refine dit (λh=>?_) λh=>?_
  .rcases hB with⟨ah,_,_⟩|⟨ih,e1,e2⟩
   .have:=zz ah;omega
   let⟨y,w⟩:=dV (cX d L) j;refine⟨V,V,y,(iO.1 ((Y.le (ac.fj λ_ h=>h)).bt w)).2,?_⟩;exact XP.nE (ih y (ay y (aZ w)) (s.bz::m.size::p) f (A+1+5*j) G al aq M (dE (λe g=>by have:=ad e g;have:=o.aQ;have:=F.aQ;omega) bY C.cJ.2) (by simp[aa]) (c8.to o Q) V) C o L8 r8 (by simp[aa]) V λe aF M' g g' r' f' am aC=>
    ak V _ _ ⟨_,g',eX,λe' ag=>by rcases bU.1 ag with h|h;exact Z e' h;simp at h;subst h;exact g,r'.aP V,f',adZ ac hs am,oh ac.aQ⟩
  .have au:∀e∈m.size::p,e<r.size:=λe g=>by have:=ad e g;omega
   exact XP.tU (qR Q (C.cr DN.aP au cD V) 6 L) LM (F8.J o) a.rd V (λe g=>g▸XS (bC O) Z cB) cB
 .refine(Cx (b:=[f]) cB (B.hd.le fN) U (tA.le fN B.hp) (oh a.gp.p7) t).aP λz m4⟨N,l,e,gl,Z,r⟩=>⟨J.eV (r.fz _),N,e,?_⟩;have ac:IR f m4 N l:=by grind [GI.cr,GC.rd,Rd.lt,GC.gp,GP.p7]
  have aI:=ac.aT;have W:=B.ext r;have L:=J.fz (r.fz []);have u4:=u3.J r;have z4:=r.aQ;have z3:=F.aQ;refine⟨λb M=>(b=true->0<t/\0<N.len)/\M=m4,⟨λh=>⟨λT=>by simp only[bh]at h T;omega,O⟩,λh=>⟨bO,O⟩⟩,?_⟩;rintro b _ ⟨I,rfl⟩;refine⟨λan=>?_,λae=>?_⟩
  .let⟨R,aH⟩:=I an;refine(dX W.rd V N.len).aP λz x⟨E,e,k0,k2,u,i⟩=>⟨L.eV i,E,e,k0,V,?_⟩;let⟨y,w⟩:=dV l E.toNat;obtain⟨fi,q,rfl,T,aL,aB⟩:=Z.1 y (aZ w);let⟨dd,aw,au,ay,aD⟩:=aB R;have ah:=VT d a.gp.ds dd aw au _ (a.gp.eS q (aZ T)) ay aD;have aM:q.aY.length<=3:=(Bb _ (a.gp.eS q (aZ T))).1;have Y:=W.to i u;have K:=L.fz i;let⟨ps,ai,e0,e1⟩:=Y.hp.bt T;have aJ:=ai.aT;have ax:=br T;have aK:=Y.hp.aT;refine⟨_,(iO.1 ((ac.le (fh i)).bt w)).2,V,V,ps,(iO.1 e0).2,?_⟩;intro m6;have v:=px m6;have g6:GE (m.size::p) x m6 (.mk x.size 0 0 0) []:=by grind [Gr.bF]
   have z5:=i.aQ;have ab:∀e∈m.size::p,e<x.size:=λe g=>by have:=ad e g;omega
   have aN:¬Lo t\/(Lo t/\0<t):=by grind [Lo]
   have hd:=Xj d a.gp.ds;rcases hB with⟨aA,_,_⟩|⟨ih,e2,e3⟩
   .exfalso;rcases aA with h|h|h
    .omega
    .subst h;omega
    .subst h;omega
   refine gL (n:=q.aY.length -1) V (λj s M=>∃l,GE (m.size::p) x M s l/\l.length=j/\(∀e∈l,SmQ d X 1 e)/\Rd f G (A+1+5*j) M/\Fz [f] x M) ⟨[],g6,O,bO,u.ext v,v.fz _⟩ ?_;rintro j s M ar μ hj ⟨l',C,az,ao,Q,o⟩ ak
   have ew:eJ ((j:Int)+1)=j+1:=by grind [de]
   refine⟨λh=>?_,λh=>?_⟩
   .simp only[ew,bh]at h;let⟨y,w⟩:=dV q.aY j;have aE:y∈q.aY.dropLast:=cH.2 ⟨j,by rw[List.getElem?_dropLast,bn V];exact w⟩;refine⟨V,V,y,(iO.1 ((ai.le (fh o)).bt w)).2,?_⟩;exact XP.nE (ih y (ah y aE) (s.bz::m.size::p) f (A+1+5*j) G al aq M (dE (λe g=>VI (ab e g) o.aQ) bY C.cJ.2) (by simp[aa]) (Y.to o Q) V) C o K u (by simp[aa]) V λe aF M' g g' r' f' am aC=>
     ak V _ _ ⟨_,g',eX,λe' ag=>by rcases bU.1 ag with h|h;exact ao e' h;simp at h;subst h;exact g,r'.aP V,f'⟩
   .simp only[ew,dm]at h;exact XP.tU (qR Q (C.cr DN.aP ab cD V) 10 _) (K.fz o) (((u4.fz _).J i).J o) a.rd V (λe g=>g▸XS (bR O) ao V) V
  .refine(FG W.rd cB).aP λz x⟨E,e,u,i⟩=>⟨L.eV i,E,e,?_⟩;exact XP.tU (P:=A+4) ((Fg (m.size::p) E x).aP λz v⟨o,e,H,h2,j,h⟩=>⟨o,e,H,h2,j,u.ext h,h.fz _⟩) (L.fz i) ((u4.fz _).J i) a.rd V (λe g=>g▸⟨λh=>.rB _,by rw[Ex.Yz];rcases hB with⟨_,e,_⟩|⟨_,e,_⟩<;>simp[e]⟩) cB
end
section
variable{g:Nat}{t:Int}
def _root_.Go.Vc.Wg{σ:Type}(m:g<=9223372036854775807)(j:1<=g){a:bg}{f:σ}{e:(σ->Int->bg->Prop)->(σ->Int->bg->Nat)->σ->Int->bg->Prop}(Q:Nat->σ->bg->Prop)(h:Q 1 f a)
 (l:∀(k:Nat)(s:σ)(b:bg)(I:σ->Int->bg->Prop)(μ:σ->Int->bg->Nat),1<=k->k<=g->Q k s b->
  (k<g->∀d c,Q (k+1) d c->I d (eJ ((k:Int)+1)) c/\μ d (eJ ((k:Int)+1)) c<μ s k b)->e I μ s k b):
 ∃(I:σ->Int->bg->Prop)(μ:σ->Int->bg->Nat),I f 1 a/\∀s i b,I s i b->e I μ s i b:=by
 refine⟨λs i c=>∃k:Nat,i=k/\1<=k/\k<=g/\Q k s c,λ_ i _=>(g -i).toNat,⟨1,O,bY,j,h⟩,?_⟩
 grind [nt,Qe]
def _root_.Go.Vc.adX(j:g<=9223372036854775807)(f:1<=g){a:bg}{d:(Int->bg->Prop)->(Int->bg->Nat)->Int->bg->Prop}(Q:Nat->bg->Prop)(e:Q 1 a)
 (h:∀(k:Nat)(b:bg)(I:Int->bg->Prop)(μ:Int->bg->Nat),1<=k->k<=g->Q k b->
  (k<g->∀c,Q (k+1) c->I (eJ ((k:Int)+1)) c/\μ (eJ ((k:Int)+1)) c<μ k b)->d I μ k b):
 ∃(I:Int->bg->Prop)(μ:Int->bg->Nat),I 1 a/\∀i b,I i b->d I μ i b:=by
 refine⟨λi c=>∃k:Nat,i=k/\1<=k/\k<=g/\Q k c,λi _=>(g -i).toNat,⟨1,O,bY,f,e⟩,?_⟩
 grind [nt,Qe]
def OQ{f:af}{e:av}(hd:f∈vA)(a:Ty f t):acW 4 20 f e t:=by grind [Vf,Lo.ty]
def Pk.x{f:Nat}{d:ap}{c:ad}{b P:Nat}{h:E}{a:bg}{Q:Ex->Prop}(j:Pk f d a c Q)(n:Rd b h P a):bK dO f d a (XP c b h a P Q):=
 j.aP λi p⟨o,g,k,l,m,e⟩=>⟨o,g,k,l,m,n.ext e,e.fz _⟩
variable{c:ad}{b P:Nat}{h d p j:E}{f:af}{e:av}{a:bg}{i:ab}
def vr(hS:∀o∈c,o<a.size)(ag:b∈c)(o:GC b h P d p f e a)(hP:P+22<=10^16)(hv:IR b a j i)(aj:i.length<=1000)(ht:Ty f t):
 bK dO 323 [vp b 0,.agg #[d.v,p.v],j.v,vi t] a (XP c b h a (P+22) λg=>WX f e.length i.length g/\g.n<=4):=by
 apply OD (b,0)
 simp -zeta only[dR]
 intro k z
 let⟨A,hl⟩:=fU (a:=k) (c:=z) O O
 have s1:=pz k
 have hr:=o.rd.lt
 have X:Lw b [k.size,a.size] z:=λL Z=>⟨hl L Z,by simp at Z;omega⟩
 have af:∀g∈k.size::c,g<z.size:=dE hS A.aQ (hl _ bO)
 have z2:=A.aQ
 refine(Lt (b:=[b]) (m:=z) eX ((hv.le fN).ext A) V t).aP λ_ T⟨r,ac,g,gl,ah,B⟩=>⟨X.eV (B.fz _),r,g,?_⟩
 have aa:IR b T r ac:=GI.cr gl eX V
 have F:=(o.ext A).ext B
 have D:=X.fz (B.fz [])
 have C:Fz [b] a T:=(A.J B).fz _
 have ak:=aa.aT
 have z3:=B.aQ
 have pL:∀{Q:Nat}{M:bg},GC b h Q d p f e M->Fz [b] a M->z.size<=M.size->Lw b [k.size,a.size] M->Q<=P+2->bK dO 342 [vp b 0,.agg #[d.v,p.v],vi t] M λU n=>gS [k.size,a.size] M n/\∃s u:Int,∃w:E,U=.agg #[vi s,vi u,w.v]/\XP c b h a (P+22) (λg=>WX f e.length i.length g/\g.n<=4) (.agg #[vi s,vi u,w.v]) (aV n k.size 0 [.i s,.i u,.s w]):=λN R h1 I hq=>
  XP.tU (OQ o.gp.ds ht (k.size::c) b _ h d p _ (λg l=>oh (af g l)) (by simp[ag]) N V) I R o.rd V (λg l=>⟨l.1 _,l.2⟩) V
 have ae:∀{Q:Nat}{M:bg},GC b h Q d p f e M->Fz [b] a M->Fz [b] T M->Lw b [k.size,a.size] M->Q<=P+2->0<r.len->bK dO 74 [vp b 0,vi (r.len:Int)] M λai n=>gS [k.size,a.size] M n/\∃J:Int,ai=vi J/\(0:Int)<=J/\J<(r.len:Int)/\∃ad:Int,aS n r.bz (r.off+J.toNat*1)=some (vi ad)/\
  bK dO 322 [vi ad] n λU Y=>gS [k.size,a.size] n Y/\∃s u:Int,∃w:E,U=.agg #[vi s,vi u,w.v]/\XP c b h a (P+22) (λg=>WX f e.length i.length g/\g.n<=4) (.agg #[vi s,vi u,w.v]) (aV Y k.size 0 [.i s,.i u,.s w]):=λN R f3 I hq h0=>
  (dX N.rd V r.len).aP λ_ n⟨ab,g,k0,k1,r',H⟩=>by
   let⟨W,hy⟩:=dV ac ab.toNat;exact⟨I.eV H,ab,g,k0,V,W,(iO.1 ((aa.le (fh (f3.J H))).bt hy)).2,XP.tU ((pO (k.size::c) W n).x r') (I.fz H) (R.J H) o.rd V (λg l=>l▸⟨.var (ah.1 W (aZ hy)),by rw[Ex.Yz];simp⟩) V⟩
 refine⟨λx=>?_,λx=>pL F C z3 D V⟩
 simp only[bh]at x
 refine(dX F.rd V 6).aP λ_ m4⟨k1,g,_,_,r4,l⟩=>⟨D.eV l,k1,g,λx=>ae (F.to l r4) (C.J l) l (D.fz l) V V,λx=>?_⟩
 intro m5
 have y:=px m5
 have G:=(F.to l r4).ext y
 have K:=(D.fz l).fz (y.fz [])
 exact(tY (v:=[]) (G.hd.le fN) o.dk (tA.le fN G.hp) (oh o.gp.p7) pX t).aP λ_ m6⟨L,g,q⟩=>⟨K.eV (q.fz _),L,g,λx=>ae (G.ext q) ((C.J l).cg (y.J q)) (l.cg (y.J q)) (K.fz (q.fz [])) V V,λx=>pL (G.ext q) ((C.J l).cg (y.J q)) (by have:=l.aQ;have:=y.aQ;have:=q.aQ;omega) (K.fz (q.fz [])) V⟩
def Ol(hS:∀u∈c,u<a.size)(hd:dA a d f)(ht:eR f)(C:tA a p e)(Z:e.length<=1000)(X:1<=e.length)(t:Int):oA 337 [.agg #[d.v,p.v],vi t] a c λg=>(∀y∈g,∃(m:Nat)(q:eG),y=m/\e[m]? =some q)/\g.length<=e.length:=by
 apply GZ;simp -zeta only[dR];intro i Q;have T:=px i;have A:∀u∈[a.size],u<i.size:=by simp[i]
 have W:GI c i Q (.mk i.size 0 0 0) []:=GI.gN c i;have x2:=px Q;have ag:=C.aT;refine Wg (g:=e.length) V X (λr I M=>D i M/\∃g,GI c i M I g/\(∀y∈g,∃(m:Nat)(q:eG),y=m/\e[m]? =some q)/\g.length<=r) ⟨x2,[],W,bO,bO⟩ ?_;rintro r I M ac μ ae hk ⟨l,g,x,E,af⟩ S
 have J:=T.J l;refine⟨λN=>?_,λN=>⟨I,g,O,x.cW (λ_ h=>h) T.aQ,⟨E,V⟩,J⟩⟩;simp only[bh]at N;let⟨q,P⟩:=dV e r;let⟨ad,z,w,U⟩:=C.bt P;have Y:=z.aT;refine⟨V,V,_,J.aS U,?_⟩;refine gL (n:=q.aY.length) (Y▸z.kK) (λ_ _ K=>D M K) cY ?_;rintro aa ok s I2 μ2 hj b R;have k:=J.J b;refine⟨V,V,_,k.aS w,λh=>⟨λ_=>?_,λ_=>R (by simp only[bh]at h;omega) _ _ b⟩,λh=>⟨λ_=>?_,λ_=>S V _ _ ⟨l.J b,g,x.ext b,E,V⟩⟩⟩
 .simp only[bh]at h;let⟨y,hy⟩:=dV q.aY aa;have L:=(z.ext k).bt hy;refine⟨V,V,_,k.aS w,V,V,y,L,?_⟩;intro F;have j:=px F;have G:∀{o H:Nat}{ab:Value},aS s o H=some ab->aS F o H=aS s o H:=λh=>by rw[j.aS h,h]
  have B:a.size<s.size:=cw (A _ bO) (l.J b).aQ;refine⟨G L,G (k.aS w),bE (j.bG _ B) _,bE (j.bG _ B) _,bE (j.bG _ B) _,?_⟩;exact(tY (v:=[]) (hd.le (k.J j).le) ht (tA.le (k.J j).le C) Z pX y).bL ((l.J b).J j) A λo m5 x5 _=>⟨_,O,R V _ _ ((b.J j).J x5)⟩
 .intro F;refine GI.nE (x.ext b) ((l.J b).fz []) V λL K B o _ _=>⟨D.sN ((l.J b).bZ _) o.ext A,S V _ _ ⟨o.ext,_,B,λH j=>?_,eX⟩⟩;rcases bU.1 j with j|j
  .exact E H j
  .simp at j;exact⟨r,q,j,P⟩
end
section
variable{l c:Int}{o:E}{j:ab}
def Cg(c:Int):Nat:=30*4^c.toNat
def yI(h:l<=c):Cg l<=Cg c:=Nat.mul_le_mul_left _ (Nat.pow_le_pow_right cD V)
def VK(c:Int):30<=Cg c:=Nat.le_mul_of_pos_right _ (Nat.pow_pos cD)
def Xe(a:0<=l)(h:l+1<=c):4*Cg l<=Cg c:=by
 refine fD (Np ?_) (yI h);unfold Cg;rw[show(l+1).toNat=l.toNat+1 by omega,Nat.pow_succ];omega
def Pj(g:af)(i:av)(c:Int):Prop:=∀(f:ad)(e P:Nat)(h d p k:E)(m:bg)(v:ab)(t:Int),(∀a∈f,a<m.size)->e∈f->GC e h P d p g i m->P+Cg c<=10^16->IR e m k v->v.length+3*c.toNat<=1000->Ty g t->
 bK dO 319 [vp e 0,.agg #[d.v,p.v],k.v,vi t,vi c] m (XP f e h m (P+Cg c) λa=>WX g i.length v.length a/\(c<=2->a.n<=4))
def XL(f:ad)(e:Nat)(h:E)(m:bg)(P:Nat)(Q:ax->Prop)(v:Value)(a:bg):Prop:=∃s l,v=s.v/\jz (dB f a) s l/\Q l/\Rd e h P a/\Fz [e] m a
def PN{f:ad}{M:bg}(o:∀c∈f,c<M.size):∀(l:List (Ex×E))(_:l.length<=1000)(_:∀x∈l,jz (dB f M) x.2 x.1.dv){a:ae}{n:Nat},a=l.flatMap (λx=>[.i x.1.op,.i x.1.cE,.s x.2])->n=l.length->
 GE f M (M.push (.cells (db a) dw)) (.mk M.size 0 n n) (l.map (·.1)):=by
 intro l m h a n q i
 refine Gr.km (g:=l.map λx=>[.i x.1.op,.i x.1.cE,.s x.2]) DN.aP bY cB (by simp[i]) ⟨bO,λc p=>?_,λr c k e d=>?_⟩
 .grind
 .simp only[eE,jT]at e d
  obtain⟨x,g,rfl⟩:=e
  obtain⟨y,b,rfl⟩:=d
  rw[g]at b;simp at b;subst b
  have:=h x (aZ g)
  cases j:x.1 with
  |mk t n s=>rw[j]at this;exact DN.of this
variable{f L:ad}{e P:Nat}{h d p k:E}{g:af}{i:av}{m:bg}{v:ab}
def RH(z:0<=c)(ih:∀a,0<=a->a<=c->Pj g i a)(F:∀s∈f,s<m.size)(H:e∈f)(s:GC e h P d p g i m)(hP:P+3*Cg c<=10^16)(hv:IR e m k v)(af:v.length+3*c.toNat<=1000)(ac:c<=1000)(I:IR e m o j)(h3:j.length<=3)(Z:∀u∈j,Ty g u):
 bK dO 335 [vp e 0,.agg #[d.v,p.v],k.v,o.v,vi c] m (XL f e h m (P+3*Cg c) λl=>l.length=j.length/\∀b∈l,WX g i.length v.length b):=by
 apply KY (e,0)
 simp -zeta only[dR]
 intro a K
 have B:=px a
 have hr:=s.rd.lt
 have Q:Lw e [m.size] a:=by intro c z;simp[a]at z⊢;omega
 have W:GE f a K (.mk a.size 0 0 0) []:=by grind [Gr.bF]
 have N:=px K
 have C:=s.ext B
 have ae:=I.aT
 refine gL (n:=j.length) V (λr w M=>∃l,GE f a M w l/\l.length=r/\(∀b∈l,WX g i.length v.length b)/\Rd e h (P+r*Cg c) M/\Fz [e] a M) ⟨[],W,O,bO,by simpa using C.rd.ext N,N.fz _⟩ ?_
 rintro r w M ab μ hk ⟨l,y,ad,G,L,E⟩ aa
 have t:=(B.fz [e]).J E
 refine dit (λq=>?_) λq=>?_
 .let⟨u,J⟩:=dV j r
  let⟨R,D⟩:=SD (d:=(o.len:Int)) z V
  rw[de (b:=Int.tdiv c _) V V]
  have hm:=yI D
  have Y:r*Cg c+Cg c<=3*Cg c:=by rw[<-DJ];exact fE _ V
  refine⟨V,V,u,(iO.1 ((I.le (fh t)).bt J)).2,V,?_⟩
  exact XP.nE (ih _ R D (w.bz::f) e _ h d p k M v u (dE F t.aQ y.cJ.2) (by simp[H]) (s.to t L) V (hv.le (fh t)) V (Z u (aZ J))) y E Q C.rd H V λb ag M' A U r' T _ _=>
   aa V _ _ ⟨_,U,eX,λS X=>by rcases bU.1 X with q|q;exact G S q;simp at q;subst q;exact A.1,r'.aP cB,T⟩
 .have Y:r*Cg c<=3*Cg c:=fE _ V
  exact⟨w,l,O,y.cr DN.aP (λb A=>B.lt (F b A)) cD V,⟨V,G⟩,L.aP V,t⟩
def DW{n F B:Nat}{q:bg}{Q:Ex->Prop}{u cE:Int}(R:0<=c)(ih:∀a,0<=a->a<=c->Pj g i a)(O:∀r∈n::f,r<m.size)(X:e∈f)(r:GC e h P d p g i m)(K:P+3*Cg c<=10^16)(hv:IR e m k v)(aa:v.length+3*c.toNat<=1000)(T:c<=1000)(Y:IR e m o j)(I:j.length<=3)(Z:∀t∈j,Ty g t)
 (D:Lw e L m)(V:Fz [e] q m)(G:Rd e h F q)(W:q.size<=n)(N:∀l,l.length=j.length->(∀b∈l,WX g i.length v.length b)->Q (.mk u cE l))(M:P+3*Cg c<=B):
 bK dO 335 [vp e 0,.agg #[d.v,p.v],k.v,o.v,vi c] m λw a=>gS L m a/\∃s:E,w=s.v/\
  bK dO 320 [vi u,vi cE,s.v] a λw A=>gS L a A/\∃x y:Int,∃z:E,w=.agg #[vi x,vi y,z.v]/\XP f e h q B Q (.agg #[vi x,vi y,z.v]) (aV A n 0 [.i x,.i y,.s z]):=
 (RH (f:=n::f) R ih O (by simp[X]) r K hv aa T Y I Z).aP λ_ a⟨s,l,b,H,C,J,t⟩=>⟨D.eV t,s,b,XP.tU (qR J H u cE) (D.fz t) (V.J t) G W (λb U=>U▸N l C.1 C.2) M⟩
def Ot(H:3<=c/\c<=100)(ih:∀j,0<=j->j<=c -1->Pj g i j)(hS:∀q∈f,q<m.size)(X:e∈f)(q:GC e h P d p g i m)(hP:P+23+3*Cg (c -1)<=10^16)(hv:IR e m k v)(aB:v.length+3*c.toNat<=1000){ac:Int}(ht:Ty g ac):
 bK dO 336 [vp e 0,.agg #[d.v,p.v],k.v,vi ac,vi c] m (XP f e h m (P+23+3*Cg (c -1)) (WX g i.length v.length)):=by
 apply Hf (e,0)
 simp -zeta only[dR]
 intro r J m3
 let⟨x2,hl⟩:=fU (a:=r) (c:=J) O O
 have s1:=pz r
 have K:=px m3
 have hr:=q.rd.lt
 have z2:=x2.aQ
 have am:ba (dB [e] m3) (.mk J.size 0 4 4) [1,1,3,4]:=by grind [ba.km]
 have L2:Lw e [r.size,m.size] J:=λc H=>⟨hl c H,by simp at H;omega⟩
 have aj:∀j∈r.size::f,j<J.size:=by grind [dE,D.aQ]
 have c3:=(q.ext x2).ext K
 have L3:=L2.fz (K.fz [])
 have T:=q.dk
 refine(og c3.rd V am bO).aP λ_ m4⟨I,j,hk,r4,C⟩=>⟨L3.eV C,I,j,?_⟩
 have L:=c3.to C r4
 have L4:=L3.fz C
 have au:=L.hd.aT
 have dl:=tB g q.gp.ds
 have ae:I∈[(1:Int),3,4]:=cB
 have mM:0<(cT g 1).length:=(Xj g q.gp.ds).1
 refine⟨λl M=>l∈[(1:Int),3,4]/\l<=g.length/\0<(cT g l).length/\D m4 M,⟨λ_=>⟨cD,V,mM,cY⟩,λU=>?_⟩,?_⟩
 .simp only[dm]at U
  refine(qQ (L.hd.le fN) T I).aP λ_ m5⟨c,j,H,t⟩=>⟨L4.eV (t.fz _),c,j,λ_=>⟨cD,V,mM,t⟩,λo=>⟨ae,V,VU g q.gp.ds I ae V λag hq s=>?_,t⟩⟩
  grind
 rintro l m5 ⟨ak,al,ap,t⟩
 have c5:=L.ext t
 have L5:=L4.fz (t.fz [])
 have F5:Fz [e] m m5:=(((x2.J K).fz _).J C).cg t
 have k5:l∈[(0:Int),1,2,3,4]:=cB
 have hf:=DV g q.gp.ds
 have aq:=hf.2.1 l k5
 refine(kQ (e:=[e]) cB (c5.hd.le fN) T l).aP λ_ m6⟨N,B,j,hc,ag,G⟩=>⟨L5.eV (G.fz _),N,j,?_⟩
 subst ag
 have c6:=c5.ext G
 have L6:=L5.fz (G.fz [])
 have F6:=F5.cg G
 have ar:=hc.aT
 have z3:=K.aQ;have z4:=C.aQ;have z5:=t.aQ;have z6:=G.aQ
 have ad:∀j∈r.size::f,j<m6.size:=λj s=>by have:=aj j s;omega
 refine XP.cg (vr (c:=r.size::f) ad (by simp[X]) c6 V (hv.le (fh F6)) V ⟨by simp at ak;omega,al⟩) L6 λs0 Q F h7 q7 r7 E=>⟨_,_,_,O,?_⟩
 intro m8
 have x8:=px m8
 have z7:=E.aQ
 have W:∀j∈r.size::f,j<F.size:=λj s=>by have:=ad j s;omega
 have g8:GE (r.size::f) F m8 (.mk F.size 0 1 1) [Q]:=PN W [(Q,s0)] bO cB O O
 have L7:=L6.fz E
 have F7:=F6.J E
 refine gL (n:=(cT g l).length) V (λA aa M=>∃B,GE (r.size::f) F M aa (Q::B)/\B.length=A/\(∀(Y:Nat)(j:Ex)(y:Int),B[Y]? =some j->(cT g l)[Y]? =some y->WX g i.length (v.length+(cX g y).length) j)/\Rd e h (P+23+A*Cg (c -1)) M/\Fz [e] F M) ⟨[],g8,O,bO,by simpa using(r7.ext x8).aP V,x8.fz _⟩ ?_
 rintro A aa M ao μ hj ⟨B,R,aA,hq,rM,z⟩ an
 have u:=L7.fz z
 have ax:A*Cg (c -1)<=3*Cg (c -1):=fE _ V
 refine dit (λU=>?_) λU=>?_
 .let⟨y,hy⟩:=dV (cT g l) A
  let⟨av,aw⟩:=hf.1 l k5 y (aZ hy)
  have aD:=R.cJ
  have cM:=(c6.to E r7).to z rM
  refine⟨V,V,y,(iO.1 ((hc.le (fh (E.J z))).bt hy)).2,V,?_⟩
  refine(fV (e:=[e]) cM.hd T y).aP λ_ m9⟨f9,l9,j,h9,q9,o⟩=>⟨u.eV (o.fz _),f9,j,u.dx nP (o.fz _) bO,u.dx nP (o.fz _) bO,?_⟩
  subst q9
  refine(iL (S:=[e]) cB (hv.le (fh ((F7.J z).cg o))) h9 V).aP λ_ af⟨ab,Z,j,ah,aE,w⟩=>⟨(u.fz (o.fz [])).eV (w.fz _),ab,j,u.dx (o.fz _) (w.fz _) bO,u.dx (o.fz _) (w.fz _) bO,?_⟩
  have ai:IR e af ab Z:=GI.cr ah cB cB
  let⟨d0,d1⟩:=SD (e:=c -2) (d:=(N.len:Int)) V V
  rw[de (b:=c -2) V V,de (b:=Int.tdiv _ _) V V]
  have hm:=yI (l:=Int.tdiv (c -2) N.len) (c:=c -1) V
  have ay:A*Cg (c -1)+Cg (c -1)<=3*Cg (c -1):=by rw[<-DJ];exact fE _ V
  have fT:=(z.cg o).cg w
  have az:Z.length=v.length+(cX g y).length:=cB
  refine XP.nE (ih _ d0 V (aa.bz::r.size::f) e _ h d p ab af Z ac (dE (λj s=>VI (W j s) fT.aQ) bY (VI o.aQ w.aQ)) (by simp[X]) ((cM.ext o).ext w) V ai V ht) ((R.ext DN.aP o).ext DN.aP w) fT L7 r7 (by simp[X]) cB λj aF M' s g' r' f' _ _=>
   an V _ _ ⟨B++[j],g',eX,λY e' y' hi aC=>?_,r'.aP cB,f'⟩
  grind [Nat.lt_or_ge,List.length,List.getElem?_append_left,List.getElem?_append_right,br]
 .exact XP.tU (qR rM (R.cr DN.aP W cD cB) 8 l) u (F7.J z) q.rd V (λj s=>s▸.mt q7.1 V V hq) V
end
section
variable{e L:ad}{c P:Nat}{g d p i:E}{f:af}{h:av}{m:bg}{v:ab}
def Ou{o:Int}(hb:3<=o/\o<=100)(ih:∀j,0<=j->j<=o -1->Pj f h j)(hS:∀q∈e,q<m.size)(N:c∈e)(q:GC c g P d p f h m)(hP:P+24+3*Cg (o -1)<=10^16)(Q:IR c m i v)(ax:v.length+3*o.toNat<=1000){ab:Int}(ht:Ty f ab):
 bK dO 338 [vp c 0,.agg #[d.v,p.v],i.v,vi ab,vi o] m (XP e c g m (P+24+3*Cg (o -1)) (WX f h.length v.length)):=by
 apply Hg (c,0)
 simp -zeta only[dR]
 intro x aa
 let⟨Y,K⟩:=fU (a:=x) (c:=aa) O O
 have s1:=pz x
 have hr:=q.rd.lt
 have L2:Lw c [x.size,m.size] aa:=λo hb=>⟨K o hb,by simp at hb;omega⟩
 have am:∀j∈x.size::e,j<aa.size:=dE hS Y.aQ (K _ bO)
 have c2:=q.ext Y
 have ac:=q.dk
 have aw:=q.hd.aT
 have dl:=tB f q.gp.ds
 have ao:eJ (o -2)=o -2:=iz
 have ai:eJ (o -1)=o -1:=iz
 have p7:=q.gp.p7
 have aq:v.length+3*(o -2).toNat<=1000:=V
 have hm:=yI (l:=o -2) (c:=o -1) V
 have au:P+24+Cg (o -2)<=10^16:=V
 refine⟨λM=>Rd c g (P+1) M/\Fz [c] aa M,?_,?_⟩
 .refine(dX c2.rd V 4).aP λ_ m3⟨w,j,_,_,r3,U⟩=>⟨L2.eV U,w,j,λ_=>?_,λ_=>⟨r3,U⟩⟩
  refine adX (g:=f.length+1) V V (λ_ M=>Rd c g (P+1) M/\Fz [c] aa M) ⟨r3,U⟩ ?_
  rintro T M al μ an ha ⟨L,G⟩ X
  have J:=c2.to G L
  have Z:=L2.fz G
  refine⟨λs=>?_,λs=>⟨L,G⟩⟩
  simp only[bh]at s
  have ea:eJ ((T:Int) -1)=T -1:=iz
  rw[ea]
  refine(qQ (J.hd.le fN) ac T).aP λ_ W⟨b4,j,ak,I⟩=>⟨Z.eV (I.fz _),b4,j,λh1=>?_,λ_=>X V _ ⟨L.ext I,G.cg I⟩⟩
  obtain⟨ah,_,hq,ap⟩:=ak.1 h1
  have R:f[((T:Int) -1).toNat]? =some ah:=by rw[<-hq];congr 1;omega
  obtain⟨_,_,g0,g1,_⟩:=J.hd.bt R
  have B:=J.ext I
  have t:=Z.fz (I.fz [])
  have l:=G.cg I
  refine⟨V,V,_,I.aS (iO.1 g1).2,λ_=>?_,λ_=>X V _ ⟨L.ext I,l⟩⟩
  refine(tY (B.hd.le fN) ac (tA.le fN B.hp) V ((Q.le (fh ((Y.fz _).J l))).le fN) T).aP λ_ A⟨b5,j,k⟩=>⟨t.eV (k.fz _),b5,j,λ_=>?_,λ_=>X V _ ⟨(L.ext I).ext k,l.cg k⟩⟩
  have C:=B.ext k
  have u:=t.fz (k.fz [])
  have f5:=l.cg k
  have z5:=f5.aQ
  have ae:∀j∈x.size::e,j<A.size:=λj D=>by have:=am j D;omega
  obtain⟨_,_,ad,_,_⟩:=C.hd.bt R
  refine⟨V,V,_,(iO.1 ad).2,?_⟩
  refine XP.cg (vr (c:=x.size::e) ae (by simp[N]) C V (Q.le (fh ((Y.fz _).J f5))) V ⟨V,V⟩) u λs6 e6 H h6 q6 r6 y=>⟨_,_,_,O,?_⟩
  have c6:=C.to y r6
  have z:=u.fz y
  obtain⟨_,_,aj,_,_⟩:=c6.hd.bt R
  refine⟨by rw[(iO.1 aj).2,(iO.1 ad).2],u.dx nP y bO,u.dx nP y bO,u.dx nP y bO,?_⟩
  rw[ao]
  have F6:=(Y.fz [c]).J (f5.J y)
  have af:∀j∈x.size::e,j<H.size:=λj D=>by have:=ae j D;have:=y.aQ;omega
  refine XP.cg (ih (o -2) V V (x.size::e) c (P+1+22) g d p i H v _ af (by simp[N]) c6 V (Q.le (fh F6)) aq ((DV f q.gp.ds).2.2 ah (aZ R))) z λs7 e7 F h7 q7 r7 r=>⟨_,_,_,O,?_⟩
  intro m8
  have x8:=px m8
  have ag:∀j∈x.size::e,j<F.size:=λj D=>by have:=af j D;have:=r.aQ;omega
  have g8:GE (x.size::e) F m8 (.mk F.size 0 2 2) [e6,e7]:=PN ag [(e6,s6),(e7,s7)] bO (by simp;exact⟨jz.le (r.fj (by simp[N])) h6,h7⟩) O O
  exact XP.tU (qR (r7.ext x8) (g8.cr DN.aP ag cD bO) 11 0) ((z.fz r).fz (x8.fz [])) ((F6.J r).cg x8) q.rd V (λj D=>D▸.iY cD (λs=>V) cD (λs=>V) (by simp;exact⟨q6.1,q7.1⟩)) V
 rintro M ⟨L,G⟩
 have J:=c2.to G L
 have Z:=L2.fz G
 have zM:=G.aQ
 have FM:=(Y.fz [c]).J G
 refine(kQ (e:=[c]) (by simp;exact L.lt) (J.hd.le fN) ac ab).aP λ_ m3⟨cs,aj,j,hc,ah,x3⟩=>⟨Z.eV (x3.fz _),cs,j,?_⟩
 subst ah
 have U:=J.ext x3
 have R:=Z.fz (x3.fz [])
 have I:=FM.cg x3
 have z3:=x3.aQ
 have av:=hc.aT
 have ae:∀{M:bg},m3.size<=M.size->∀j∈x.size::e,j<M.size:=λs j D=>by have:=am j D;omega
 refine⟨λs=>?_,λs=>⟨λs=>XP.tU (vr (c:=x.size::e) (ae bY) (by simp[N]) U V (Q.le (fh I)) V ht) R I q.rd V (λj D=>D.1) V,λs=>?_⟩⟩
 .simp only[bh]at s
  refine(dX U.rd V cs.len).aP λ_ W⟨w,j,k0,k1,X,l⟩=>⟨R.eV l,w,j,k0,V,?_⟩
  let⟨ad,hy⟩:=dV (cT f ab) w.toNat
  have af:=(DV f q.gp.ds).1 ab (Ty.adW q.gp.ds ht) ad (aZ hy)
  have B:=U.to l X
  have t:=R.fz l
  refine⟨ad,(iO.1 ((hc.le (fh l)).bt hy)).2,?_⟩
  refine(fV (e:=[c]) B.hd ac ad).aP λ_ A⟨f5,l5,j,h5,q5,k⟩=>⟨t.eV (k.fz _),f5,j,t.dx nP (k.fz _) bO,t.dx nP (k.fz _) bO,?_⟩
  subst q5
  rw[ai]
  exact DW V ih (ae (VI l.aQ k.aQ)) N (B.ext k) V (Q.le (fh ((I.J l).cg k))) V V h5 af.1 af.2 (t.fz (k.fz [])) ((I.J l).cg k) q.rd V (λaj _ K=>.iY cD (λs=>V) cD (λs=>V) K) V
 .refine(dX U.rd V 3).aP λ_ W⟨w,j,k0,k1,X,l⟩=>⟨R.eV l,w,j,λ_=>?_,λ_=>?_⟩
  .have B:=U.to l X
   have t:=R.fz l
   have z4:=l.aQ;have ap:=X.lt
   intro A
   have k:=px A
   have ad:ba (dB [c] A) (.mk W.size 0 1 1) [0]:=ba.km bB eX O O bO
   have z5:=k.aQ
   rw[ai]
   exact DW V ih (ae V) N (B.ext k) V (Q.le (fh ((I.J l).cg k))) V V ad bO (by simp[q.gp.ty]) (t.fz (k.fz [])) ((I.J l).cg k) q.rd V (λaj _ K=>.iY cD (λs=>V) cD (λs=>V) K) V
  .have B:=U.to l X
   have t:=R.fz l
   have F4:=I.J l
   have z4:=l.aQ;have ap:=X.lt
   have kH:∀{ar M:bg}{T t0:Nat},GC c g (P+3) d p f h M->Fz [c] W M->ba (dB [c] M) (.mk t0 0 2 2) [0,0]->∀op:Int,op∈[(1:Int),2,3,4]->bK dO 335 [vp c 0,.agg #[d.v,p.v],i.v,E.v (.mk t0 0 2 2),vi (o -1)] M λal M1=>gS [x.size,m.size] M M1/\∃an:E,al=an.v/\
    bK dO 320 [vi op,vi 0,an.v] M1 λal M2=>gS [x.size,m.size] M1 M2/\∃r0 r1:Int,∃r2:E,al=.agg #[vi r0,vi r1,r2.v]/\XP e c g m (P+24+3*Cg (o -1)) (WX f h.length v.length) (.agg #[vi r0,vi r1,r2.v]) (aV M2 x.size 0 [.i r0,.i r1,.s r2]):=λJ ad s op af=>
    DW V ih (ae (oh ad.aQ)) N J V (Q.le (fh (F4.J ad))) V V s bO (by simp[q.gp.ty]) (t.fz ad) (F4.J ad) q.rd V (λaj _ K=>.iY (by simp at af;omega) (λs=>by simp at af;omega) (by simp at af;omega) (λs=>by simp at af;omega) K) V
   rw[ai]
   refine⟨?_,?_⟩
   .intro A
    have k:=px A
    have ag:ba (dB [c] A) (.mk W.size 0 4 4) [1,2,3,4]:=ba.km bB eX O O bO
    have C:=B.ext k
    have u:=t.fz (k.fz [])
    have z5:=k.aQ
    refine⟨t.dx nP (k.fz _) bO,t.dx nP (k.fz _) bO,?_,?_⟩
    .refine(og C.rd V ag bO).aP λ_ H⟨w,j,hk,r6,y⟩=>⟨u.eV y,w,j,u.dx nP y bO,u.dx nP y bO,?_⟩
     intro F
     have x7:=px F
     have ak:ba (dB [c] F) (.mk H.size 0 2 2) [0,0]:=ba.km bB (by simp;exact r6.lt) O O bO
     have z:=u.fz y
     exact⟨z.dx nP (x7.fz _) bO,z.dx nP (x7.fz _) bO,kH (ar:=F) (T:=0) ((C.to y r6).ext x7) (((k.fz _).J y).cg x7) ak w hk⟩
    .intro H
     have y:=px H
     have ak:ba (dB [c] H) (.mk A.size 0 2 2) [0,0]:=ba.km bB eX O O bO
     have z:=u.fz (y.fz [])
     refine⟨u.dx nP (y.fz _) bO,u.dx nP (y.fz _) bO,?_⟩
     refine(og (C.ext y).rd V (ag.le (fh (y.fz _))) bO).aP λ_ F⟨w,j,hk,r7,r⟩=>⟨z.eV r,w,j,z.dx nP r bO,z.dx nP r bO,kH (ar:=F) (T:=0) ((C.ext y).to r r7) (((k.J y).fz _).J r) (ak.le (fh r)) w hk⟩
   .intro A
    have k:=px A
    have ag:ba (dB [c] A) (.mk W.size 0 2 2) [0,0]:=ba.km bB eX O O bO
    have C:=B.ext k
    have u:=t.fz (k.fz [])
    have z5:=k.aQ
    refine⟨t.dx nP (k.fz _) bO,t.dx nP (k.fz _) bO,?_⟩
    intro H
    have y:=px H
    have ak:ba (dB [c] H) (.mk A.size 0 4 4) [1,2,3,4]:=ba.km bB eX O O bO
    have z:=u.fz (y.fz [])
    refine⟨u.dx nP (y.fz _) bO,u.dx nP (y.fz _) bO,?_⟩
    refine(og (C.ext y).rd V ak bO).aP λ_ F⟨w,j,hk,r7,r⟩=>⟨z.eV r,w,j,z.dx nP r bO,z.dx nP r bO,kH (ar:=F) (T:=0) ((C.ext y).to r r7) (((k.J y).fz _).J r) ((ag.le (fh (y.fz _))).le (fh r)) w hk⟩
end
section
variable{e:Int}
def ac7{f:af}{h:av}(hb:0<=e/\e<=100)(ih:∀l,0<=l->l<=e -1->Pj f h l):Pj f h e:=by
 intro g c P j d p k i v F hS C s hP N aB L;apply QR (c,0);simp -zeta only[dR];intro r ac;let⟨x2,hl⟩:=fU (a:=r) (c:=ac) O O;have s1:=pz r;have hr:=s.rd.lt;have z2:=x2.aQ;have L2:Lw c [r.size,i.size] ac:=λe hb=>⟨hl e hb,by simp at hb;omega⟩;have K:∀{l:bg},ac.size<=l.size->∀m∈r.size::g,m<l.size:=λaa m he=>by have:=dE hS x2.aQ (hl r.size bO) m he;omega
 have c2:=s.ext x2;have al:=s.dk;have p7:=s.gp.p7;have jw:=s.gp.jw;have ay:=VK e;have ao:∀{ak:Nat}{l:bg},GC c j ak d p f h l->Fz [c] ac l->ak+22<=P+Cg e->bK dO 323 [vp c 0,.agg #[d.v,p.v],k.v,vi F] l λae M2=>gS [r.size,i.size] l M2/\∃U W:Int,∃X:E,ae=.agg #[vi U,vi W,X.v]/\XP g c j i (P+Cg e) (λm=>WX f h.length v.length m/\(e<=2->m.n<=4)) (.agg #[vi U,vi W,X.v]) (aV M2 r.size 0 [.i U,.i W,.s X]):=λcM o hq=>
  XP.tU (vr (c:=r.size::g) (K o.aQ) (by simp[C]) cM V (N.le (fh ((x2.fz _).J o))) V L) (L2.fz o) ((x2.fz _).J o) s.rd V (λm he=>⟨he.1,λ_=>he.2⟩) hq
 refine⟨λ_=>ao c2 nP V,λh3=>?_⟩;simp only[dm]at h3;have az:=Xe (l:=e -1) (c:=e) V V;have aA:=Xe (l:=e -2) (c:=e -1) V V;have ax:=VK (e -2);have am:eJ (e -1)=e -1:=by grind [de]
 have hQ:∀m,WX f h.length v.length m->WX f h.length v.length m/\(e<=2->m.n<=4):=cB;refine(dX c2.rd V 12).aP λ_ m3⟨ab,m,k0,k1,r3,Z⟩=>⟨L2.eV Z,ab,m,?_⟩;have B:=c2.to Z r3;have Q:=L2.fz Z;have A:=(x2.fz [c]).J Z;have z3:=Z.aQ;have aq:=K z3;have ap:∀{l:bg},D m3 l->bK dO 338 [vp c 0,.agg #[d.v,p.v],k.v,vi F,vi e] l λae M2=>gS [r.size,i.size] l M2/\∃U W:Int,∃X:E,ae=.agg #[vi U,vi W,X.v]/\XP g c j i (P+Cg e) (λm=>WX f h.length v.length m/\(e<=2->m.n<=4)) (.agg #[vi U,vi W,X.v]) (aV M2 r.size 0 [.i U,.i W,.s X]):=λH=>
  XP.tU (Ou (e:=r.size::g) ⟨V,V⟩ ih (K (oh H.aQ)) (by simp[C]) (B.ext H) V (N.le (fh (A.cg H))) V L) (Q.fz (H.fz [])) (A.cg H) s.rd V hQ V
 refine⟨λ_=>ao B Z V,λ_=>⟨λ_=>?_,λ_=>⟨λ_=>?_,λ_=>⟨λ_=>XP.tU (Ot (f:=r.size::g) ⟨V,V⟩ ih aq (by simp[C]) B V (N.le (fh A)) V L) Q A s.rd V hQ V,λ_=>⟨λ_=>?_,λ_=>ap cY⟩⟩⟩⟩⟩
 .refine(QG r3 V B.hd al B.hp V (N.le (fh A))).aP λ_ w⟨G,m,hu,r4,f4⟩=>⟨Q.eV f4,G,m,cD,cD,?_⟩;have R:=B.to f4 r4;have y:=Q.fz f4;have F4:=A.J f4;have z4:=f4.aQ;have ar:Ty f G:=by have:=tB f s.gp.ds;unfold Ty;omega
  let⟨d0,d1⟩:=SD (e:=e) (d:=2) V V;have d2:Int.tdiv e 2<=e -1:=by grind [Int.tdiv_eq_ediv_of_nonneg]
  have d3:Int.tdiv e 2+Int.tdiv e 2<=e:=by grind [Int.tdiv_eq_ediv_of_nonneg]
  rw[de (b:=Int.tdiv e 2) V V];generalize Int.tdiv e 2=h2 at*;have hm:=yI d2;have I:∀{l M':bg},Fz [c] w l->Fz [c] l M'->aS M' i.size 0=aS l i.size 0:=by grind [Lw.dx]
  have J:∀{l M':bg},Fz [c] w l->Fz [c] l M'->aS M' i.size 1=aS l i.size 1:=λo f'=>y.dx o f' bO;have ag:=λ(l:bg)(cM:GC c j (P+2) d p f h l)(o:Fz [c] w l)=>ih h2 d0 d2 (r.size::g) c (P+2) j d p k l v G (K (oh o.aQ)) (by simp[C]) cM V (N.le (fh (F4.J o))) V ar;have ah:=λ(l:bg)(ad:E)(cM:GC c j (P+2+Cg h2) d p f h l)(o:Fz [c] w l)(hw:IR c l ad (v++[G]))=>ih h2 d0 d2 (r.size::g) c (P+2+Cg h2) j d p ad l (v++[G]) F (K (oh o.aQ)) (by simp[C]) cM V hw cB L;have ai:=λ(l:bg)(ad:E)(o:Fz [c] w l)(hR:c<l.size)(aa:IR c l ad [G])=>iL (S:=[c]) cB (N.le (fh (F4.J o))) aa cB;have aj:=λ(M0 l:bg)(Y e2:Ex)(t1 t2:E)(o:Fz [c] w l)(hR:Rd c j (P+2+Cg h2+Cg h2) l)(h1:jz (dB (r.size::g) l) t1 Y.dv)(aw:jz (dB (r.size::g) l) t2 e2.dv)(w1:WX f h.length v.length Y)(w2:WX f h.length (v++[G]).length e2)=>
   have H:=D.push l (.cells (db [.i Y.op,.i Y.cE,.s t1,.i e2.op,.i e2.cE,.s t2]) dw)
   have an:=K (l:=l) (oh o.aQ)
   XP.tU (S:=g) (Q':=λm=>WX f h.length v.length m/\(e<=2->m.n<=4)) (qR (hR.ext H) ((PN an [(Y,t1),(e2,t2)] bO cB O O).cr DN.aP an cD bO) 13 0) ((y.fz o).fz (H.fz [])) ((F4.J o).cg H) s.rd V (λm he=>he▸hQ _ (.lt w1 cB)) (i:=P+Cg e) V
  refine⟨?_,?_⟩
  .refine XP.cg (ag w R nP) y λs5 T m5 h5 q5 r5 t=>⟨_,_,_,O,I nP t,J nP t,?_⟩;intro m6;have z:=px m6;have au:ba (dB [c] m6) (.mk m5.size 0 1 1) [G]:=ba.km bB cB O O bO;have u:=t.cg z;refine⟨I t (z.fz _),J t (z.fz _),I t (z.fz _),J t (z.fz _),?_⟩;refine(ai m6 _ u (r5.ext z).lt au).aP λ_ m7⟨s7,l7,m,g7,q7,q⟩=>⟨(y.fz u).eV (q.fz _),s7,m,I u (q.fz _),J u (q.fz _),?_⟩;subst q7;refine XP.cg (ah m7 s7 (((R.to t r5).ext z).ext q) (u.cg q) (GI.cr g7 cB cB)) ((y.fz u).fz (q.fz [])) λs8 e8 m8 h8 q8 r8 f8=>⟨_,_,_,O,?_⟩;exact aj m8 m8 T e8 s5 s8 ((u.cg q).J f8) r8 (jz.le (((z.J q).fz [c]).J f8|>.fj (by simp[C])) h5) h8 q5.1 q8.1
  .intro m5;have z:=px m5;have au:ba (dB [c] m5) (.mk w.size 0 1 1) [G]:=ba.km bB cB O O bO;refine⟨I nP (z.fz _),J nP (z.fz _),I nP (z.fz _),J nP (z.fz _),?_⟩;refine XP.cg (ag m5 (R.ext z) (z.fz _)) (y.fz (z.fz [])) λs6 e6 m6 h6 q6 r6 u=>⟨_,_,_,O,I (z.fz _) u,J (z.fz _) u,?_⟩;have T:=(z.fz [c]).J u;refine(ai m6 _ T r6.lt (au.le (fh u))).aP λ_ m7⟨s7,l7,m,g7,q7,q⟩=>⟨(y.fz T).eV (q.fz _),s7,m,I T (q.fz _),J T (q.fz _),?_⟩;subst q7;refine XP.cg (ah m7 s7 (((R.ext z).to u r6).ext q) (T.cg q) (GI.cr g7 cB cB)) ((y.fz T).fz (q.fz [])) λs8 e8 m8 h8 q8 r8 f8=>⟨_,_,_,O,?_⟩;exact aj m8 m8 e6 e8 s6 s8 ((T.cg q).J f8) r8 (jz.le ((q.fz [c]).J f8|>.fj (by simp[C])) h6) h8 q6.1 q8.1
 .intro w;have q:=px w;have z:ba (dB [c] w) (.mk m3.size 0 3 3) [0,F,F]:=by grind [ba.km,Rd.lt]
  rw[am];exact DW V ih (K (oh q.aQ)) C (B.ext q) V (N.le (fh (A.cg q))) V V z bO (by simp;exact⟨s.gp.ty cD cD,L⟩) (Q.fz (q.fz [])) (A.cg q) s.rd V (λu hl hw=>hQ _ (.iY cD (λ_=>by simpa using hl) cD (λaa=>V) hw)) V
 .refine(Ol (c:=[c]) cB (B.hd.le fN) al (tA.le fN B.hp) V jw F).aP λ_ w⟨G,u,m,gl,hq,q⟩=>⟨Q.eV (q.fz _),G,m,λaa=>?_,λ_=>ap q⟩;simp only[bh]at aa;have ad:IR c w G u:=by grind [GI.cr,Rd.lt]
  have an:=ad.aT;have R:=B.ext q;have y:=Q.fz (q.fz []);refine(dX R.rd V G.len).aP λ_ m5⟨ab,m,k0,k1,r5,t⟩=>⟨y.eV t,ab,m,k0,V,?_⟩;let⟨ai,hy⟩:=dV u ab.toNat;obtain⟨fi,ah,rfl,J⟩:=hq.1 ai (aZ hy);have z:=R.to t r5;let⟨ps,ag,e0,Y⟩:=z.hp.bt J;have aj:=br J;have ar:=z.hp.aT;have T:=Bb _ (s.gp.eS ah (aZ J));have I:=(q.fz [c]).J t;refine⟨_,(iO.1 ((ad.le (fh t)).bt hy)).2,V,V,ps,(iO.1 e0).2,?_⟩;rw[am];exact DW V ih (K (oh I.aQ)) C z V (N.le (fh (A.J I))) V V ag T.1 (λF L=>s.gp.ty (T.2.1 F L).1 (T.2.1 F L).2) (y.fz t) (A.J I) s.rd V (λu _ hw=>hQ _ (.iY cD (λaa=>V) cD (λ_=>⟨V,V⟩) hw)) V
def Wl{f:af}{h:av}:∀(n:Nat)(e:Int),e.toNat=n->0<=e/\e<=100->Pj f h e:=λn=>by
 induction n using Nat.strongRecOn with
 |ind n d=>exactλe i b=>ac7 b λa c g=>d a.toNat V a O ⟨c,V⟩
variable{g:ad}{c P:Nat}{j d p k:E}{f:af}{h:av}{i:bg}{v:ab}
def Fit(f:af)(b a:Nat)(e:Ex):Prop:=WX f b a e/\e.n<=30
def QP(hS:∀y∈g,y<i.size)(ab:c∈g)(y:GC c j P d p f h i)(hP:P+20*Cg 18<=10^16)(hv:IR c i k v)(ag:v.length<=100){S:Int}(ht:Ty f S)(t:0<=e/\e<=18):
 bK dO 292 [vp c 0,.agg #[d.v,p.v],k.v,vi S,vi e] i (XP g c j i (P+20*Cg 18) (Fit f h.length v.length)):=by
 apply Jk (c,0)
 simp -zeta only[dR]
 intro u C
 let⟨B,hl⟩:=fU (a:=u) (c:=C) O O
 have s1:=pz u
 have hr:=y.rd.lt
 have z2:=B.aQ
 have L:Lw c [u.size,i.size] C:=λe t=>⟨hl e t,by simp at t;omega⟩
 have aa:∀{M:bg},C.size<=M.size->∀l∈u.size::g,l<M.size:=λQ l X=>by have:=dE hS B.aQ (hl u.size bO) l X;omega
 have U:=y.ext B
 have hm:=yI t.2
 refine XP.cg (Wl _ e O ⟨t.1,V⟩ (u.size::g) c P j d p k C v S (aa bY) (by simp[ab]) U V (hv.le (fh (B.fz _))) V ht) L λs3 F s h3 q3 r3 f3=>⟨_,_,_,O,?_⟩
 intro m4 R
 obtain⟨T,s5⟩:=pv R
 have B5:dF R s.size dw [.i F.op,.i F.cE,.s s3]:=dF.aV (m:=m4) (o:=0) (r:=[.i F.op,.i F.cE,.s s3]) (dF.push s _ _)
 have z3:=f3.aQ
 have ad:∀l∈s.size::u.size::g,l<R.size:=dE (aa z3) T.aQ V
 refine⟨λq M=>∃(I:E)(l:Ex)(w:Nat),0<=q/\q<=18/\q.toNat<=w/\w<=18/\dF M s.size dw [.i l.op,.i l.cE,.s I]/\jz (dB (s.size::u.size::g) M) I l.dv/\WX f h.length v.length l/\(q<=2->l.n<=4)/\Rd c j (P+(19 -w)*Cg 18) M/\Fz [c] C M/\R.size<=M.size,λq _=>q.toNat,⟨s3,F,18,t.1,t.2,V,bY,B5,jz.le (T.dB λe t=>(bo.1 t).elim (λQ=>bR V) bC) h3,q3.1,q3.2,(r3.ext T).aP V,(f3.cg T),bY⟩,?_⟩
 rintro q M ⟨I,l,w,b0,b1,bk,ah,J,hs,hw,hn,rM,fM,zM⟩
 refine⟨_,J.dx 0,_,J.dx 1,_,J.dx 2,?_⟩
 refine(Ft (jz.le fN hs)).aP λ_ H⟨n6,e6,q6,D⟩=>⟨(L.fz fM).eV (D.fz _),n6,e6,?_⟩
 have K:=J.ext D
 have r6:=rM.ext D
 have z:=fM.cg D
 have z6:=D.aQ
 have kc:(19 -w)*Cg 18+Cg 18<=20*Cg 18:=by rw[<-DJ];exact fE _ V
 have cy:l.n<=30->∃v0:Int,aS H s.size 0=some (vi v0)/\∃v1:Int,aS H s.size 1=some (vi v1)/\∃v2:E,aS H s.size 2=some v2.v/\XP g c j i (P+20*Cg 18) (Fit f h.length v.length) (.agg #[vi v0,vi v1,v2.v]) (aV H u.size 0 [.i v0,.i v1,.s v2]):=λac=>
  ⟨_,K.dx 0,_,K.dx 1,_,K.dx 2,I,l,O,jz.le (dW bO λy W=>aX _ (aX _ W)) (jz.le D.fj hs),⟨hw,ac⟩,y.rd.aV (r6.aP V) ((B.fz _).J z) V 0 _,((B.fz _).J z).aV (bR V) _ _⟩
 refine⟨λQ=>⟨λA=>?_,λA=>cy (by simp only[dm]at A;have:=hn V;omega)⟩,λQ=>cy (by simp only[dm]at Q;omega)⟩
 simp only[bh]at A
 let⟨d0,d1⟩:=SD (e:=q) (d:=2) b0 V
 have d2:Int.tdiv q 2<=q -1:=by rw[aas b0];omega
 rw[de (b:=Int.tdiv q 2) V V]
 generalize Int.tdiv q 2=A at*
 have ae:=yI (l:=A) (c:=18) V
 refine⟨cD,?_⟩
 refine XP.cg (Wl _ A O ⟨d0,V⟩ (s.size::u.size::g) c _ j d p k H v S (λl X=>oh (ad l X)) (by simp[ab]) (U.to z r6) V (hv.le (fh ((B.fz _).J z))) V ht) (L.fz z) λs7 G Y h7 q7 r7 N=>⟨_,_,_,O,?_⟩
 have af:c≠s.size:=V
 have B7:dF Y s.size dw [.i l.op,.i l.cE,.s I]:=K.congr (N.bG _ V eX)
 refine⟨B7.jb bO,?_⟩
 intro Z
 have B8:dF Z s.size dw [.i G.op,.i G.cE,.s s7]:=dF.aV (m:=Y) (o:=0) (r:=[.i G.op,.i G.cE,.s s7]) B7
 have f8:Fz [c] C Z:=(z.J N).aV (bR V) _ _
 have s8:Z.size=Y.size:=bD _ _ _ _
 have z7:=N.aQ
 refine⟨λe t=>cq _ _ _ _ (oh ((L e t).1)),⟨s7,G,w -1,d0,V,V,V,B8,jz.le (dW bO λy W=>W) h7,q7.1,q7.2,?_,f8,V⟩,by show A.toNat<q.toNat;omega⟩
 refine U.rd.aV (r7.aP ?_) (z.J N) V 0 _
 rw[show 19 -(w -1)=19 -w+1 by omega,DJ];omega
end
section
variable{l:ae}
@[grind cases] structure HX (S:ad) (ds:af) (nf a:Nat) (M:bg) (s:E) (e:Ex):Prop where
 sl:jz (dB S M) s e.dv
 wx:WX ds nf a e
@[grind cases] structure Rs (rb:Nat) (bs:E) (m:bg) (Q:Nat) (M:bg):Prop where
 f:Fz [rb] m M
 r:Rd rb bs Q M
variable{S L:ad}{g Q t x k a j:Nat}{n d p s w:E}{i:af}{u:av}{q M c:bg}{h:Ex}{v:ab}{K:Int->Int->E->bg->Prop}
theorem HX.fz(b:HX S i j a M s h)(d:g∈S)(f:Fz [g] M c):HX S i j a c s h:=⟨jz.le (f.fj (by simp[d])) b.sl,b.wx⟩
def HX.ext(b:HX S i j a M s h)(x:D M c):HX S i j a c s h:=⟨jz.le x.fj b.sl,b.wx⟩
def HX.nj(b:HX S i j a M s h)(x:D M c)(f:M.size<=k):HX (k::S) i j a c s h:=⟨jz.le (x.dB λe d=>(bo.1 d).elim (λb=>bR V) bC) b.sl,b.wx⟩
theorem HX.iU(b:HX (k::S) i j a M s h):HX S i j a M s h:=⟨jz.le (mS M λ_=>aX _) b.sl,b.wx⟩
def HX.cG(b:HX S i j a M s h)(c:k∈S){o:Nat}:HX S i j a (aV M k o l) s h:=⟨jz.le (dW c λ_ b=>b) b.sl,b.wx⟩
def Rs.ext(h:Rs g n q Q M)(x:D M c):Rs g n q Q c:=⟨h.f.cg x,h.r.ext x⟩
theorem Rs.to(h:Rs g n q Q M)(f:Fz [g] M c)(r:Rd g n t c):Rs g n q t c:=⟨h.f.J f,r⟩
theorem Rs.cG(h:Rs g n q Q M)(b:Rd g n x q)(a:q.size<=k)(o:Nat)(l:ae):Rs g n q Q (aV M k o l):=⟨h.f.aV (bR a) _ _,b.aV h.r h.f a o l⟩
theorem lw(h:g<q.size)(a:∀b∈L,q.size<=b/\b<M.size):Lw g L M:=λb c=>⟨(a b c).2,oh ((a b c).1)⟩
theorem kg(f:Fz [g] M c)(h:g<q.size)(a:q.size<=k/\k<M.size)(o:Nat):aS c k o=aS M k o:=by grind [bE,Fz.bG]
def nG{c a:bg}{z:ae}{t:Nat}(d:c=M.push (.cells (db z) t))(f:a=aV c M.size 0 l)(g:l.length=z.length):D M a/\dF a M.size t l/\a.size=M.size+1:=by
 subst d f;refine⟨(D.push M _).aV bY _ _,?_,by rw[bD];simp⟩;have h:=dF.aV (m:=M.push (.cells (db z) t)) (b:=M.size) (e:=t) (l:=z) (o:=0) (r:=l) (dF.push _ _ _);rwa[show kJ z 0 l=l from by
  have h:=Gm [] l z V;rw[adm V]at h;simpa using h]at h
def XP.kk{f:Nat}{b:ap}{T:Ex->Prop}(m:bK dO f b M (XP S g n M Q T))(o:Lw g L M)(p:∀s h c,jz (dB S c) s h.dv->T h->Rd g n Q c->Fz [g] M c->K h.op h.cE s c):bK dO f b M λv c=>gS L M c/\∃e i:Int,∃j:E,v=.agg #[vi e,vi i,j.v]/\K e i j c:=
 XP.cg m o λs h c a k l d=>⟨_,_,_,O,p s h c a k l d⟩
def AY(S:ad)(i:af)(j:Nat)(m:Lw g L M){n:Int}(p:0<=n/\n<(a:Int))(o:∀s c,HX S i j a c s (.mk 12 n [])->D M c->K 12 n s c):bK dO 322 [vi n] M λv c=>gS L M c/\∃b d:Int,∃e:E,v=.agg #[vi b,vi d,e.v]/\K b d e c:=
 (pO S n M).aP λv c⟨s,h,f,k,l,x⟩=>⟨m.eV (x.fz _),by subst l;exact⟨_,_,_,f,o s c ⟨k,.var p⟩ x⟩⟩
def Nz(S:ad)(i:af)(j a:Nat)(m:Lw g L M)(n:Int)(o:∀s c,HX S i j a c s (.mk 0 n [])->D M c->K 0 n s c):bK dO 287 [vi n] M λv c=>gS L M c/\∃b d:Int,∃e:E,v=.agg #[vi b,vi d,e.v]/\K b d e c:=
 (Fg S n M).aP λv c⟨s,h,f,k,l,x⟩=>⟨m.eV (x.fz _),by subst l;exact⟨_,_,_,f,o s c ⟨k,.rB n⟩ x⟩⟩
def sX(l:List (Ex×E))(d:l.length<=1000)(b:∀c∈S,c<M.size)(h:∀x∈l,jz (dB S M) x.2 x.1.dv){a:ae}{n:Nat}(c:a=l.flatMap λx=>[.i x.1.op,.i x.1.cE,.s x.2])(e:n=l.length):jz (dB S (M.push (.cells (db a) dw))) (.mk M.size 0 n n) (l.map (·.1)):=
 (PN b l d h c e).cr DN.aP b cD cB
def mw{dv:ax}(k:jz (dB S M) s dv){b cE:Int}(q:WX i j a (.mk b cE dv))(o:Lw g L M)(p:∀s c,HX S i j a c s (.mk b cE dv)->D M c->K b cE s c):
 bK dO 320 [vi b,vi cE,s.v] M λv c=>gS L M c/\∃d e:Int,∃f:E,v=.agg #[vi d,vi e,f.v]/\K d e f c:=
 (NN k b cE).aP λv c⟨s,h,l,m,n,x⟩=>⟨o.eV (x.fz _),by subst n;exact⟨_,_,_,l,p s c ⟨m,q⟩ x⟩⟩
def Kg(x:∀a∈S,a<M.size)(z:g∈S)(a:GC g n Q d p i u M)(C:Q+Cg 18<=10^16)(B:IR g M w v)(F:v.length<=100){t b:Int}(A:Ty i t)(e:0<=b/\b<=18)(r:Lw g L M)(y:∀h s c,HX S i u.length v.length c s h->Rd g n (Q+Cg 18) c->Fz [g] M c->K h.op h.cE s c):
 bK dO 319 [vp g 0,.agg #[d.v,p.v],w.v,vi t,vi b] M λv c=>gS L M c/\∃f j:Int,∃k:E,v=.agg #[vi f,vi j,k.v]/\K f j k c:=
 have D:=yI e.2
 XP.kk (Wl _ b O ⟨e.1,V⟩ S g Q n d p w M v t x z a V B V A) r λs h c l m o q=>y h s c ⟨l,m.1⟩ (o.aP V) q
end
section
def WX.lG{e:af}{b a:Nat}{n:Int}{dv:ax}(h:∀c∈dv,WX e b a c):WX e b a (.mk 6 n dv):=by grind [WX.iY]
variable{c:ad}{f P:Nat}{g d p:E}{e:af}{h:av}{b:bg}
def QT(e:af)(s:Nat)(hS:∀U∈c,U<b.size)(W:f∈c)(L:Rd f g P b)(hP:P+100<=10^16)(aw:Int):bK dO 321 [vp f 0,vi aw] b (XP c f g b (P+100) (WX e s 0)):=by
 apply Ju (f,0);simp -zeta only[dR];intro az al;have x2:D b al:=by grind [D.push,D.J]
 have s2:al.size=b.size+2:=cB;have Z:=L.lt;have ak:∀{h:bg},al.size<=h.size->∀U∈b.size::c,U<h.size:=by grind [dE]
 have R:Rs f g b P al:=⟨x2.fz _,L.ext x2⟩;refine mw (S:=b.size::c) (a:=0) (i:=e) (j:=s) pX (.lG bO) (lw Z cB) λs3 X h3 x3=>?_;intro m4 A;let⟨x5,B5,z5⟩:=nG (M:=X) (c:=m4) (a:=A) O O O;clear_value A;have z3:=x3.aQ;have r5:=(R.ext x3).ext x5;refine⟨λ_=>?_,λ_=>?_⟩
 .intro m6;have x6:=px m6;clear_value m6;have z6:=x6.aQ;refine mw (S:=b.size::c) (a:=0) (i:=e) (j:=s) pX (.lG bO) (lw Z cB) λI w h7 x7=>?_;intro m8 u;let⟨x9,B9,z9⟩:=nG (M:=w) (c:=m8) (a:=u) O O O;clear_value u;have z7:=x7.aQ;have r9:=((r5.ext x6).ext x7).ext x9;have h9:=h7.ext x9;have G:∀{h v:bg},u.size<=h.size->Fz [f] h v->∀o,aS v w.size o=aS h w.size o:=by grind [kg]
  have LW:∀{h:bg},u.size<=h.size->Lw f [w.size,X.size,b.size] h:=λt=>lw Z cB;have LK:∀{h:bg}{l:Nat},u.size<=l->l<h.size->Lw f [l,w.size,X.size,b.size] h:=λt K=>lw Z cB;have hw:∀n:Int,WX e s 0 (.mk 6 3 [.mk 6 2 [],.mk 0 n [],.mk 6 2 []]):=λn=>.lG (by simp;exact⟨.lG bO,.rB n,.lG bO⟩);refine⟨λmM h=>∃x k,mM.2=0/\b.size<=mM.1/\dF h mM.1 dw [.i k.op,.i k.cE,.s x]/\HX (b.size::c) e s 0 h x k/\HX (b.size::c) e s 0 h I (.mk 6 2 [])/\Rs f g b (P+1) h/\u.size<=h.size,?_,?_⟩
  .have kH:∀{l t0:Nat}{h:bg}{n:Int},dF h l dw [.i 0,.i 0,.s .nil]->u.size<=l->jz (dB (l::b.size::c) h) (.mk t0 0 3 3) [.mk 6 2 [],.mk 0 n [],.mk 6 2 []]->Rs f g b (P+1) h->HX (l::b.size::c) e s 0 h I (.mk 6 2 [])->
    bK dO 320 [vi 6,vi 3,E.v (.mk t0 0 3 3)] h λax v=>gS [l,w.size,X.size,b.size] h v/\∃r0 r1:Int,∃R:E,ax=.agg #[vi r0,vi r1,R.v]/\∃x k,((l,0):ai).2=0/\b.size<=((l,0):ai).1/\dF (aV v l 0 [.i r0,.i r1,.s R]) ((l,0):ai).1 dw [.i k.op,.i k.cE,.s x]/\HX (b.size::c) e s 0 (aV v l 0 [.i r0,.i r1,.s R]) x k/\HX (b.size::c) e s 0 (aV v l 0 [.i r0,.i r1,.s R]) I (.mk 6 2 [])/\Rs f g b (P+1) (aV v l 0 [.i r0,.i r1,.s R])/\u.size<=(aV v l 0 [.i r0,.i r1,.s R]).size:=λB hk Q H t=>
    mw Q (hw _) (LK hk B.lt) λs' v K an=>⟨s',.mk 6 3 [.mk 6 2 [],.mk 0 _ [],.mk 6 2 []],O,V,dF.aV (m:=v) (B.ext an),(K.cG bO).iU,((t.ext an).cG bO).iU,(H.ext an).cG L V _ _,by rw[bD];have:=B.lt;have:=an.aQ;omega⟩
   have zb:∀h:bg,D h (h.push (.cells (db [.i 0,.i 0,.s .nil]) dw))/\dF (h.push (.cells (db [.i 0,.i 0,.s .nil]) dw)) h.size dw [.i 0,.i 0,.s .nil]:=by grind [D.push,dF.push]
   have ae:∀{S':ad}{h:bg}{n:Int}{si:E},(∀U∈S',U<h.size)->HX S' e s 0 h I (.mk 6 2 [])->HX S' e s 0 h si (.mk 0 n [])->jz (dB S' (h.push (.cells (db [.i 6,.i 2,.s I,.i 0,.i n,.s si,.i 6,.i 2,.s I]) dw))) (.mk h.size 0 3 3) [.mk 6 2 [],.mk 0 n [],.mk 6 2 []]:=λhS t K=>
    sX [(.mk 6 2 [],I),(.mk 0 _ [],_),(.mk 6 2 [],I)] bO hS (by simp;exact⟨t.sl,K.sl,t.sl⟩) O O
   have aq:∀{h:bg}{l:Nat},u.size<=l->l<h.size->∀U∈l::b.size::c,U<h.size:=λt K=>dE (ak V) V K;refine⟨(dX r9.r V 9).aP λ_ F⟨n,k,_,_,ah,q⟩=>⟨(LW bY).eV q,n,k,G bY q _,G bY q _,G bY q _,G bY q _,G bY q _,G bY q _,?_,?_⟩,?_⟩
   .have z:=r9.to q ah;have AZ:=q.aQ;have N:=h9.fz (by simp[W]) q;refine Nz (b.size::c) e s 0 (LW AZ) n λau y ab j=>?_;have ao:=j.aQ;have d:=λo=>G AZ (j.fz _) o;refine⟨d _,d _,d _,d _,d _,d _,?_,?_⟩
    .intro r;have i:=px r;have Q:jz (dB (b.size::c) r) (.mk y.size 0 3 3) [.mk 6 2 [],.mk 0 n [],.mk 6 2 []]:=ae (ak V) (N.ext j) ab;have ay:=i.aQ;refine⟨?_,?_⟩
     .refine mw (M:=r) (g:=f) Q (hw n) (LW V) λar C aj p=>?_;intro T;have ac:=px T;have ag:=p.aQ;have d:=λo=>G V (ac.fz _) o;refine⟨d _,d _,d _,d _,d _,d _,?_⟩;intro aa;let⟨J,Y,am⟩:=nG (M:=C) (c:=T) (a:=aa) O O O;exact⟨ar,.mk 6 3 [.mk 6 2 [],.mk 0 n [],.mk 6 2 []],O,V,Y,aj.ext J,(((N.ext j).ext i).ext p).ext J,(((z.ext j).ext i).ext p).ext J,V⟩
     .intro C;obtain⟨p,J⟩:D r C/\dF C r.size dw [.i 0,.i 0,.s .nil]:=zb r;have d:=λo=>G V (p.fz _) o;exact⟨d _,d _,d _,d _,d _,d _,kH J V (jz.le (p.dB λag hb=>(bo.1 hb).elim (λt=>bR V) bC) Q) (((z.ext j).ext i).ext p) (((N.ext j).ext i).nj p bY)⟩
    .intro r;obtain⟨i,aa⟩:D y r/\dF r y.size dw [.i 0,.i 0,.s .nil]:=zb y;have d:=λo=>G V (i.fz _) o;refine⟨d _,d _,d _,d _,d _,d _,?_⟩;intro C;have p:=px C;have J:=(N.ext j).nj i bY;exact kH (aa.ext p) V (ae (aq V aa.lt) J (ab.nj i bY)) (((z.ext j).ext i).ext p) (J.ext p)
   .have z:=r9.to q ah;have AZ:=q.aQ;have N:=h9.fz (by simp[W]) q;intro y;obtain⟨j,T⟩:D F y/\dF y F.size dw [.i 0,.i 0,.s .nil]:=zb F;have d:=λo=>G V (j.fz _) o;have ao:=j.aQ;refine⟨d _,d _,d _,d _,d _,d _,?_⟩;refine Nz (F.size::b.size::c) e s 0 (LK V T.lt) n λam r ac i=>?_;have d:=λo=>G V (i.fz _) o;refine⟨d _,d _,d _,d _,d _,d _,?_⟩;intro C;have p:=px C;have J:=(N.nj j bY).ext i;exact kH ((T.ext i).ext p) V (ae (aq V (T.ext i).lt) J ac) (((z.ext j).ext i).ext p) (J.ext p)
   .intro F;obtain⟨z,ap⟩:D u F/\dF F u.size dw [.i 0,.i 0,.s .nil]:=zb u;have d:=λo=>G V (z.fz _) o;have AZ:=z.aQ;refine⟨d _,d _,d _,d _,d _,d _,?_⟩;refine(dX (r9.ext z).r V 9).aP λ_ y⟨n,k,_,_,av,Y⟩=>⟨(LK bY ap.lt).eV Y,n,k,?_⟩;have d:=λo=>G V Y o;refine⟨d _,d _,d _,d _,d _,d _,?_⟩;have T:=ap.congr (Y.bG u.size ap.lt cB);have ao:=Y.aQ;refine Nz (u.size::b.size::c) e s 0 (LK bY T.lt) n λam r ac i=>?_;have d:=λo=>G V (i.fz _) o;refine⟨d _,d _,d _,d _,d _,d _,?_⟩;intro C;have p:=px C;have J:=((h9.nj z bY).fz (by simp[W]) Y).ext i;exact kH ((T.ext i).ext p) bY (ae (aq bY (T.ext i).lt) J ac) ((((r9.ext z).to Y av).ext i).ext p) (J.ext p)
  .rintro⟨l,o⟩ h ⟨x,k,ho,hk,B,t,K,H,T⟩;simp only at ho hk B;subst ho;have bl:=B.lt;refine⟨_,B.dx 0,_,B.dx 1,_,B.dx 2,?_⟩;have L3:∀{v:bg},h.size<=v.size->Lw f [w.size,X.size,b.size] v:=cB;refine(dX H.r V 9).aP λ_ F⟨n,en,_,_,ah,q⟩=>⟨(L3 bY).eV q,n,en,?_⟩;have AZ:=q.aQ;have gg:∀{J Y:bg},h.size<=J.size->Fz [f] J Y->∀o,aS Y l o=aS J l o:=by grind [kg]
   have ga:=λo=>G T q o;have gb:=λo=>gg bY q o;refine⟨?_,?_,?_,?_,?_,?_,?_⟩;iterate 6 first|exact ga _|exact gb _
   refine Nz (b.size::c) e s 0 (L3 AZ) n λau y ab j=>?_;have ga:=λo=>G V (j.fz _) o;have gb:=λo=>gg AZ (j.fz _) o;refine⟨?_,?_,?_,?_,?_,?_,?_⟩;iterate 6 first|exact ga _|exact gb _
   intro r;have i:=px r;have ao:=j.aQ;have ae:=(t.fz (by simp[W]) q).ext j;have ag:=(K.fz (by simp[W]) q).ext j;have Q:=sX (M:=y) [(k,x),(.mk 0 n [],au),(.mk 6 2 [],I)] bO (ak V) (by simp;exact⟨ae.sl,ab.sl,ag.sl⟩) O O;refine mw Q (.lG (by simp;exact⟨ae.wx,ab.wx,ag.wx⟩)) (L3 (v:=r) (oh i.aQ)) λar C aj p=>?_;have an:=(((H.to q ah).ext j).ext i).ext p;exact⟨ar,_,O,(aj.cG bO).iU.sl,aj.wx,((an.cG L bY _ _).r).aP V,(an.cG L bY _ _).f⟩
 .intro m6 w;let⟨x7,B7,z7⟩:=nG (M:=A) (c:=m6) (a:=w) O O O;clear_value w;have r7:=r5.ext x7;have C:∀{h:bg},w.size<=h.size->Lw f [X.size,b.size] h:=λt=>lw Z cB;refine(dX r7.r V 3).aP λ_ m8⟨n,en,n0,n3,I,q⟩=>⟨(lw Z cB:Lw f [A.size,X.size,b.size] w).eV q,n,en,?_⟩;rw[de V V];have z8:=q.aQ;have ab:b.size<=A.size:=V;refine⟨λp h=>0<=p/\p<=3/\∃x k,dF h A.size dw [.i k.op,.i k.cE,.s x]/\HX (A.size::b.size::c) e s 0 h x k/\Rs f g b (P+1+4*(3 -p).toNat) h/\w.size<=h.size,λp _=>p.toNat,⟨V,V,s3,.mk 6 0 [],B7.congr (q.bG _ V cB),((h3.ext x5).nj x7 bY).fz (by simp[W]) q,⟨(r7.to q I).f,I.aP V⟩,z8⟩,?_⟩;rintro p h ⟨i0,i3,x,k,B,t,H,T⟩;refine⟨λhi=>?_,λ_=>⟨_,B.dx 0,_,B.dx 1,_,B.dx 2,x,k,O,(t.iU.cG bO).iU.sl,t.wx,(H.cG L bY _ _).r.aP V,(H.cG L bY _ _).f⟩⟩;simp only[bh]at hi;refine⟨_,B.dx 0,_,B.dx 1,_,B.dx 2,?_⟩;have d:∀{J Y:bg},w.size<=J.size->Fz [f] J Y->∀o,aS Y A.size o=aS J A.size o:=by grind [kg]
  refine(FG H.r V).aP λ_ u⟨v,en,d9,l⟩=>⟨(C T).eV l,v,en,d T l _,d T l _,d T l _,?_⟩;have z9:=l.aQ;refine Nz (A.size::b.size::c) e s 0 (C V) v λah F N z=>⟨d V (z.fz _) _,d V (z.fz _) _,d V (z.fz _) _,?_⟩;intro y;have j:=px y;have AZ:=z.aQ;have ao:=j.aQ;have ae:=(t.fz (by simp[W]) l).ext z;have Q:jz (dB (A.size::b.size::c) y) (.mk F.size 0 2 2) [.mk 0 v [],k]:=sX [(.mk 0 v [],ah),(k,x)] bO (dE (ak V) bY V) cB O O;refine mw Q (.lG (by simp;exact⟨N.wx,ae.wx⟩)) (C V) λam r ac i=>?_;have aa:dF r A.size dw [.i k.op,.i k.cE,.s x]:=(((B.congr (l.bG _ B.lt cB)).ext z).ext j).ext i;have ay:=i.aQ;rw[de V V];refine⟨aa.jb bO,λag hb=>cq _ _ _ _ cB,⟨V,V,am,.mk 6 1 [.mk 0 v [],k],dF.aV (m:=r) aa,ac.cG bO,?_,by rw[bD];omega⟩,by show(p -1).toNat<p.toNat;omega⟩;have K:=((((H.to l d9).ext z).ext j).ext i).cG L ab 0 [.i 6,.i 1,.s am];exact⟨K.f,K.r.aP V⟩
end
section
@[grind cases] structure BX (S:ad) (ds:af) (nf a k:Nat) (M:bg) (s:E) (e:Ex):Prop where
 b:dF M k dw [.i e.op,.i e.cE,.s s]
 h:HX (k::S) ds nf a M s e
section
variable{S:ad}{c Q h l k a b:Nat}{j s:E}{f:af}{g M d:bg}{e:Ex}
def BX.bF{d c:bg}(h:HX S f b a M s e)(g:d=M.push (.cells (db [.i 0,.i 0,.s .nil]) dw))(i:c=aV d M.size 0 [.i e.op,.i e.cE,.s s]):D M c/\BX S f b a M.size c s e/\c.size=M.size+1:=
 let⟨x,B,z⟩:=nG g i O;⟨x,⟨B,h.nj x bY⟩,z⟩
def BX.fz(h:BX S f b a k M s e)(j:c∈S)(i:k≠c)(g:Fz [c] M d):BX S f b a k d s e:=by constructor<;>grind [BX.b,dF.congr,Fz.bG,dF.lt,BX.h,HX.fz]
def BX.ext(h:BX S f b a k M s e)(x:D M d):BX S f b a k d s e:=⟨h.b.ext x,h.h.ext x⟩
def BX.dY(h:BX S f b a k M s e){d:E}{c:Ex}(g:HX (k::S) f b a M d c):BX S f b a k (aV M k 0 [.i c.op,.i c.cE,.s d]) d c:=⟨dF.aV (m:=M) h.b,g.cG bO⟩
def HX.kH(d:HX (k::S) f b a M s e)(r:Rs c j g Q M)(i:Rd c j l g)(m:g.size<=k)(n:Q<=h):XP S c j g h (WX f b a) (.agg #[vi e.op,vi e.cE,s.v]) (aV M k 0 [.i e.op,.i e.cE,.s s]):=
 ⟨s,e,O,(d.cG bO).iU.sl,d.wx,(r.cG i m _ _).r.aP n,(r.cG i m _ _).f⟩
end
variable{S:ad}{c P:Nat}{j d p:E}{f:af}{i:av}{g:bg}
def OF(hS:∀h∈S,h<g.size)(s:c∈S)(h:GC c j P d p f i g)(hP:P+200+Cg 18<=10^16):bK dO 288 [vp c 0,.agg #[d.v,p.v]] g (XP S c j g (P+200+Cg 18) (WX f i.length 0)):=by
 apply Ho (c,0);simp -zeta only[dR];intro k t u;let⟨x2,hl⟩:=fU (a:=k) (c:=t) O O;have s1:=pz k;have s2:t.size=g.size+2:=cB;have Q:=px u;have r:=h.rd.lt;have aa:ba (dB [c] u) (.mk t.size 0 3 3) [1,1,3]:=by grind [ba.km]
 clear_value u;clear_value t;have z:∀{b:bg},t.size<=b.size->∀h∈k.size::S,h<b.size:=by grind [dE]
 have Y:Rs c j g P u:=⟨(x2.J Q).fz _,(h.rd.ext x2).ext Q⟩;have z3:=Q.aQ;refine(og Y.r V aa bO).aP λ_ m4⟨N,q,ht,d4,B⟩=>⟨(lw r cB:Lw c [k.size,g.size] u).eV B,N,q,?_⟩;have r4:=Y.to B d4;have z4:=B.aQ;intro H;have x5:=px H;have ab:ba (dB [c] H) (.mk m4.size 0 1 1) [N]:=ba.km bB cB O O bO;clear_value H;have J:=r4.ext x5;have z5:=x5.aQ;refine Kg (z V) (by simp[s]) (h.to J.f J.r) V ab bO (h.gp.ty cD cD) cD (lw r cB) λy s6 A h6 d6 W=>?_;intro m7 v;let⟨x8,U,z8⟩:=BX.bF (c:=v) h6 O O;clear_value v;have z6:=W.aQ;have K:=(J.to W d6).ext x8;have F:A.size≠c:=V;have T:∀{b:bg},v.size<=b.size->Lw c [A.size,k.size,g.size] b:=λD=>lw r cB;refine⟨λb=>∃L q,BX (k.size::S) f i.length 1 A.size b L q/\Rs c j g (P+2+Cg 18) b/\v.size<=b.size,?_,?_⟩
 .refine(dX K.r V 3).aP λ_ I⟨R,en,_,_,o,e⟩=>⟨(T bY).eV e,R,en,λ_=>?_,λ_=>⟨s6,y,U.fz (by simp[s]) F e,⟨(K.to e o).f,o.aP V⟩,e.aQ⟩⟩;have x:=U.fz (by simp[s]) F e;have z9:=e.aQ;intro m;have n:=px m;have G:jz (dB (A.size::k.size::S) m) (.mk I.size 0 1 1) [y]:=sX [(y,s6)] bO (dE (z V) bY x.b.lt) cB O O;have AZ:=n.aQ;refine mw (M:=m) G (.iY (a:=1) (b:=f) (d:=i.length) cD (λD=>V) cD (λD=>V) cB) (T V) λZ ac E w=>?_;have l:=((K.to e o).ext n).ext w;have C:=((x.ext n).ext w).dY E;exact⟨Z,.mk 5 0 [y],C,⟨(l.cG h.rd V _ _).f,((l.cG h.rd V _ _).r).aP V⟩,by rw[bD];have:=w.aQ;omega⟩
 rintro b ⟨L,q,l,X,ae⟩;refine⟨_,l.b.dx 0,_,l.b.dx 1,_,l.b.dx 2,?_⟩;have R:∀{b:bg},v.size<=b.size->Lw c [k.size,g.size] b:=λD=>lw r cB;refine XP.kk (QT f i.length (z V) (by simp[s]) X.r V N) (R ae) λs9 e9 I h9 w9 o e=>?_;have C:=λad=>kg e r ⟨V,l.b.lt⟩ ad;refine⟨C _,C _,C _,?_⟩;have z9:=e.aQ;intro m;have n:=px m;have x:=l.fz (by simp[s]) F e;have G:=sX (M:=I) [(e9,s9),(q,L)] bO (z V) (by simp;exact⟨h9,x.h.iU.sl⟩) O O;refine mw (M:=m) G (.lt w9 l.h.wx) (R (oh n.aQ)) λZ ac E w=>?_;exact E.kH (((X.to e o).ext n).ext w) h.rd V V
def Oo(hS:∀e∈S,e<g.size)(t:c∈S)(e:GC c j P d p f i g)(hP:P+200+2*Cg 18<=10^16){z:Nat}{q:eG}(hq:i[z]? =some q)(h1:1<=q.aY.length):
 bK dO 291 [vp c 0,.agg #[d.v,p.v],vi z] g (XP S c j g (P+200+2*Cg 18) (WX f i.length q.aY.length)):=by
 apply Hd (c,0)
 simp -zeta only[dR]
 intro h H
 let⟨x2,hl⟩:=fU (a:=h) (c:=H) O O
 have s1:=pz h
 have s2:H.size=g.size+2:=cB
 have A:=e.rd.lt
 have s:∀{b:bg},H.size<=b.size->∀e∈h.size::S,e<b.size:=by grind [dE]
 have r2:Rs c j g P H:=⟨x2.fz _,e.rd.ext x2⟩
 have o:∀{b:bg},H.size<=b.size->Lw c [h.size,g.size] b:=by grind [lw]
 let⟨ps,af,e0,e1⟩:=e.hp.bt hq
 have aH:=br hq
 have aK:=e.hp.aT
 have Q:=Bb _ (e.gp.eS q (aZ hq))
 have h3:q.aY.length<=3:=Q.1
 have L:∀{b:bg},Fz [c] g b->IR c b ps q.aY:=λX=>af.le (fh X)
 have E1:∀{b:bg},Fz [c] g b->aS b p.bz (p.off+z*5+1)=some (vi q.bQ):=λX=>(iO.1 (fh X _ _ _ e1)).2
 refine⟨V,V,ps,(iO.1 (fh r2.f _ _ _ e0)).2,?_⟩
 refine AY (h.size::S) f i.length (a:=q.aY.length) (o bY) V λs3 m3 au x3=>?_
 have z3:=x3.aQ
 refine Nz (h.size::S) f i.length q.aY.length (o z3) 1 λs4 m4 h4 x4=>?_
 have z4:=x4.aQ
 intro m5
 have x5:=px m5
 have av:jz (dB (h.size::S) m5) (.mk m4.size 0 2 2) [.mk 12 0 [],.mk 0 1 []]:=sX (M:=m4) [(.mk 12 0 [],s3),(.mk 0 1 [],s4)] bO (s V) (by simp;exact⟨(au.ext x4).sl,h4.sl⟩) O O
 have z5:=x5.aQ
 refine mw (M:=m5) av (.iY (a:=q.aY.length) (b:=f) (d:=i.length) cD (λl=>V) cD (λl=>V) cB) (o V) λs6 U h6 x6=>?_
 have z6:=x6.aQ
 have r6:=(((r2.ext x3).ext x4).ext x5).ext x6
 intro m7
 have x7:=px m7
 have g7:GE (h.size::S) U m7 (.mk U.size 0 1 1) [.mk 2 0 [.mk 12 0 [],.mk 0 1 []]]:=PN (s V) [(.mk 2 0 [.mk 12 0 [],.mk 0 1 []],s6)] bO cB O O
 have aL:=af.aT
 refine Wg (g:=q.aY.length) V h1 (λR E b=>∃u,GE (h.size::S) U b E u/\u.length=R/\(∀x∈u,WX f i.length q.aY.length x)/\Rd c j (P+22*R) b/\Fz [c] U b) ⟨_,g7,O,sp h6.wx,(r6.r.ext x7).aP V,x7.fz _⟩ ?_
 rintro R E b aG μ aI hj ⟨u,m,aJ,hw,rM,Y⟩ az
 have K:=r6.f.J Y
 have zM:=Y.aQ
 refine⟨λl=>?_,λ_=>?_⟩
 .simp only[bh]at l
  let⟨y,r⟩:=dV q.aY R
  have v:=Q.2.1 y (aZ r)
  refine⟨V,V,y,(iO.1 ((L K).bt r)).2,?_⟩
  exact XP.nE (vr (dE (s V) bY m.cJ.2) (by simp[t]) (e.to K rM) V (L K) V (e.gp.ty v.1 v.2)) m Y (o V) r6.r (by simp[t]) V λx ah G C Z F B _ _=>
   az V _ _ ⟨_,Z,eX,λw D=>by rcases bU.1 D with l|l;exact hw w l;simp at l;subst l;exact C.1,F.aP V,B⟩
 refine mw (m.cr DN.aP (s V) cD V) (.iY cD (λl=>V) cD (λ_=>⟨V,V⟩) hw) (o V) λs8 D h8 x8=>?_
 intro m9 B
 let⟨ai,W,AZ⟩:=BX.bF (c:=B) h8 O O
 clear_value B
 have z8:=x8.aQ
 have v:Rs c j g (P+66) B:=⟨(K.cg x8).cg ai,((rM.ext x8).ext ai).aP V⟩
 have hk:D.size≠c:=V
 refine⟨λb=>∃E x,BX (h.size::S) f i.length q.aY.length D.size b E x/\Rs c j g (P+66+Cg 18) b/\B.size<=b.size,⟨V,V,_,E1 v.f,λ_=>?_,λ_=>⟨s8,_,W,⟨v.f,v.r.aP V⟩,bY⟩⟩,?_⟩
 .have J:∀{b:bg},B.size<=b.size->Lw c [D.size,h.size,g.size] b:=λl=>lw A eX
  have ac:∀{b:bg},B.size<=b.size->∀e∈D.size::h.size::S,e<b.size:=λl=>dE (s V) l V
  refine Kg (ac bY) (by simp[t]) (e.to v.f v.r) V (L v.f) V (e.gp.ty cD cD) cD (J bY) λy aa ag N ae r=>?_
  have m:=λI=>kg r A ⟨V,W.b.lt⟩ I
  refine⟨m _,m _,m _,?_⟩
  have am:=r.aQ
  intro C
  have w:=px C
  have ab:=W.fz (by simp[t]) hk r
  have G:jz (dB (D.size::h.size::S) C) (.mk ag.size 0 2 2) [y,.mk 9 z u]:=sX [(y,aa),(.mk 9 z u,s8)] bO (ac am) (by simp;exact⟨N.sl,ab.h.sl⟩) O O
  have aF:=w.aQ
  refine mw (M:=C) G (.lG (by simp;exact⟨N.wx,h8.wx⟩)) (J V) λad T aj F=>?_
  have ak:=(((v.to r ae).ext w).ext F).cG e.rd (k:=D.size) V 0 [.i 6,.i 1,.s ad]
  have hb:=((ab.ext w).ext F).dY aj
  exact⟨ad,.mk 6 1 [y,.mk 9 z u],hb,ak,by rw[bD];have:=F.aQ;omega⟩
 rintro M3 ⟨E,x,r,ah,aQ⟩
 refine Nz (h.size::S) f i.length q.aY.length (o V) 0 λaa ag N aj=>?_
 have am:=aj.aQ
 refine AY (h.size::S) f i.length (a:=q.aY.length) (o V) V λaA C aq w=>?_
 have aF:=w.aQ
 intro T
 have F:=px T
 have G:jz (dB (h.size::S) T) (.mk C.size 0 2 2) [.mk 0 0 [],.mk 12 0 []]:=sX (M:=C) [(.mk 0 0 [],aa),(.mk 12 0 [],aA)] bO (s V) (by simp;exact⟨(N.ext w).sl,aq.sl⟩) O O
 have aR:=F.aQ
 refine mw (M:=T) G (.iY (a:=q.aY.length) (b:=f) (d:=i.length) cD (λl=>V) cD (λl=>V) cB) (o V) λaB aM ad ak=>?_
 intro aN aw
 let⟨aD,ac,aU⟩:=BX.bF (c:=aw) ad O O
 have aT:=ak.aQ
 have ab:=(((aj.J w).J F).J ak).J aD
 have J:=ah.ext ab
 have r:=r.ext ab
 refine⟨_,r.b.dx 0,_,r.b.dx 1,_,r.b.dx 2,V,V,_,E1 J.f,?_⟩
 refine Kg (s V) (by simp[t]) (e.to J.f J.r) V (L J.f) V (e.gp.ty Q.2.2.1 Q.2.2.2) cD (lw A eX) λap aC ax ae ao y=>?_
 have m:=λI=>kg y A ⟨V,r.b.lt⟩ I
 have Z:=λI=>kg y A ⟨V,ac.b.lt⟩ I
 refine⟨?_,?_,?_,?_,?_,?_,?_⟩
 iterate 6 first|exact m _|exact Z _
 have aV:=y.aQ
 intro ay
 have al:=px ay
 have an:=r.fz (by simp[t]) hk y
 have G:=sX (M:=ax) [(.mk 4 0 [.mk 0 0 [],.mk 12 0 []],aB),(x,E),(ap,aC)] bO (s V) (by simp;exact⟨(ac.h.iU.fz (by simp[t]) y).sl,an.h.iU.sl,ae.sl⟩) O O
 refine mw G (.iY cD (λ_=>O) cD (λl=>V) (by simp;exact⟨ad.wx,r.h.wx,ae.wx⟩)) (lw A (by have:=al.aQ;simp;omega)) λaP aO ar aE=>?_
 exact ar.kH (((J.to y ao).ext al).ext aE) e.rd V V
end
section
variable{b:ad}{c P:Nat}{h d p:E}{f:af}{g:av}{m:bg}
def WX.m1{b a:Nat}{x y z:Ex}(hd:f∈vA)(c:WX f b a x)(d:WX f b a y)(e:WX f b (a+2) z):WX f b a (.mk 8 1 [x,y,z]):=by
 grind [RX,WX.mt]
def OI(hS:∀u∈b,u<m.size)(L:c∈b)(u:GC c h P d p f g m)(hP:P+200+2*Cg 18<=10^16){F:Nat}{r:eG}(hq:g[F]? =some r){ag:Int}(ha:0<=ag/\ag<(r.aY.length:Int)):
 bK dO 289 [vp c 0,.agg #[d.v,p.v],vi F,vi ag] m (XP b c h m (P+200+2*Cg 18) (WX f g.length r.aY.length)):=by
 apply Hq (c,0)
 simp -zeta only[dR]
 intro j af
 let⟨x2,hl⟩:=fU (a:=j) (c:=af) O O
 have s1:=pz j
 have s2:af.size=m.size+2:=cB
 have hr:=u.rd.lt
 have al:∀{i:bg},af.size<=i.size->∀u∈j.size::b,u<i.size:=by grind [dE]
 have r2:Rs c h m P af:=⟨x2.fz _,u.rd.ext x2⟩
 have L1:∀{i:bg},af.size<=i.size->Lw c [j.size,m.size] i:=by grind [lw]
 let⟨ps,aL,e0,e1⟩:=u.hp.bt hq
 have a1:=br hq
 have a4:=u.hp.aT
 have aB:=Bb _ (u.gp.eS r (aZ hq))
 have h3:r.aY.length<=3:=aB.1
 have PS:∀{i:bg},Fz [c] m i->IR c i ps r.aY:=λK=>aL.le (fh K)
 have E1:∀{i:bg},Fz [c] m i->aS i p.bz (p.off+F*5+1)=some (vi r.bQ):=λK=>(iO.1 (fh K _ _ _ e1)).2
 have a5:=aL.aT
 have aN:=u.gp.ty (t:=0) cD cD
 have a3:=VK 18
 refine⟨V,V,ps,(iO.1 (fh r2.f _ _ _ e0)).2,?_⟩
 intro m3
 have x3:=px m3
 have aC:ba (dB [c] m3) (.mk af.size 0 2 2) [0,1]:=ba.km bB cB O O bO
 have r3:=r2.ext x3
 have z3:=x3.aQ
 refine(iL (S:=[c]) cB (PS r3.f) aC cB).aP λ_ m4⟨aF,wl,y,gw,qw,x4⟩=>⟨(L1 z3).eV (x4.fz _),aF,y,?_⟩
 subst qw
 have aU:IR c m4 aF (r.aY++[0,1]):=GI.cr gw cB cB
 have r4:=r3.ext x4
 have z4:=x4.aQ
 intro m5
 have x5:=px m5
 have g5:GE (j.size::b) m4 m5 (.mk m4.size 0 0 0) []:=by grind [Gr.bF]
 refine gL (n:=r.aY.length) V (λQ z i=>∃J,GE (j.size::b) m4 i z J/\J.length=Q/\(∀y∈J,WX f g.length (r.aY.length+2) y)/\Rd c h (P+Q) i/\Fz [c] m4 i) ⟨[],g5,O,bO,(r4.r.ext x5).aP V,x5.fz _⟩ ?_
 rintro Q z i aR μ hj ⟨J,aA,a2,hw,rM,fM⟩ aX
 have FM:=r4.f.J fM
 have zM:=fM.aQ
 refine⟨λq=>?_,λ_=>?_⟩
 .simp only[bh]at q
  let⟨aH,N⟩:=dV r.aY Q
  have kH:∀{K:Nat}{U:ap}{A:bg}{T:Nat},bK dO K U A (XP (z.bz::j.size::b) c h A T (WX f g.length (r.aY.length+2)))->T<=P+(Q+1)->Rd c h (P+(Q+1)) A->Fz [c] i A->bK dO K U A λab C=>gS [j.size,m.size] A C/\∃I G:Int,∃r2:E,ab=.agg #[vi I,vi G,r2.v]/\
   mj (C.push (.cells (db [.i I,.i G,.s r2]) dw)) dw [.i 0,.i 0,.s .nil] 40 z (E.mk C.size 0 1 1) λW B=>gS [j.size,m.size] (C.push (.cells (db [.i I,.i G,.s r2]) dw)) B/\aR W (eJ ((Q:Int)+1)) B/\μ W (eJ ((Q:Int)+1)) B<μ z Q i:=λhc hQ G Z=>
   XP.nE hc (aA.fR DN.aP Z cB) (fM.J Z) (L1 V) r4.r (by simp[L]) V λy W B w g' r' f' _ _=>
    aX V _ _ ⟨_,g',eX,λs D=>by rcases bU.1 D with q|q;exact hw s q;simp at q;subst q;exact w,r'.aP hQ,f'⟩
  refine⟨λ_=>?_,λ_=>⟨V,V,aH,(iO.1 ((PS FM).bt N)).2,λ_=>?_,λ_=>kH (((pO _ _ _).x rM).aP λ_ _ q=>q.aP (λy w=>w▸.var ⟨V,V⟩) bY) V (rM.aP V) nP⟩⟩
  .rw[de (b:=(ps.len:Int)+1) V V]
   exact kH (((pO _ _ _).x rM).aP λ_ _ q=>q.aP (λy w=>w▸.var ⟨V,V⟩) bY) V (rM.aP V) nP
  .refine(dX rM V 2).aP λ_ m6⟨ac,en,_,_,H,D⟩=>⟨(L1 V).eV D,ac,en,λ_=>?_,λ_=>kH (((pO _ _ _).x H).aP λ_ _ q=>q.aP (λy w=>w▸.var ⟨V,V⟩) bY) V H D⟩
   have z6:=D.aQ
   have aa:∀{A:bg},m6.size<=A.size->∀u∈z.bz::j.size::b,u<A.size:=λq=>dE (al (i:=m6) V) q (oh aA.cJ.2)
   refine AY (z.bz::j.size::b) f g.length (a:=r.aY.length+2) (L1 V) V λs7 m7 h7 R=>?_
   have z7:=R.aQ
   refine AY (z.bz::j.size::b) f g.length (a:=r.aY.length+2) (L1 V) V λs8 s h8 x8=>?_
   have z8:=x8.aQ
   intro m9
   have x9:=px m9
   have Y:jz (dB (z.bz::j.size::b) m9) (.mk s.size 0 2 2) [.mk 12 Q [],.mk 12 ps.len []]:=sX (S:=z.bz::j.size::b) (M:=s) [(.mk 12 Q [],s7),(.mk 12 ps.len [],s8)] bO (aa V) (by simp;exact⟨(h7.ext x8).sl,h8.sl⟩) O O
   have X:=((H.ext R).ext x8).ext x9
   exact kH ((qR X Y 1 0).aP λ_ _ q=>q.aP (λy w=>w▸.iY cD (λq=>V) cD (λq=>V) cB) bY) V X (((D.cg R).cg x8).cg x9)
 refine mw (aA.cr DN.aP (al (i:=m4) V) cD V) (.iY (a:=r.aY.length+2) (b:=f) (d:=g.length) cD (λq=>V) cD (λ_=>⟨V,V⟩) hw) (L1 V) λs6 m6 h6 x6=>?_
 have z6:=x6.aQ
 intro m7 s
 let⟨x8,B8,z8⟩:=nG (M:=m6) (c:=m7) (a:=s) O O O
 intro m9 G
 let⟨aG,ao,AZ⟩:=BX.bF (d:=m9) (c:=G) (h6.ext x8) O O
 clear_value G
 have Z:Rs c h m (P+3) G:=⟨((FM.cg x6).cg x8).cg aG,(((rM.ext x6).ext x8).ext aG).aP V⟩
 have hk:s.size≠c:=V
 have L2:∀{i:bg},G.size<=i.size->Lw c [s.size,m6.size,j.size,m.size] i:=λq=>lw hr eX
 have am:∀{i:bg},G.size<=i.size->∀u∈s.size::j.size::b,u<i.size:=λq=>dE (al (i:=G) V) q V
 have aI:∀{i:bg},Fz [c] m4 i->IR c i aF (r.aY++[0,1]):=λK=>aU.le (fh K)
 have aK:Fz [c] m4 G:=((fM.cg x6).cg x8).cg aG
 have wl:(r.aY++[0,1]).length=r.aY.length+2:=bO
 refine⟨λi=>∃z y,BX (j.size::b) f g.length (r.aY.length+2) s.size i z y/\Rs c h m (P+10+Cg 18) i/\G.size<=i.size,⟨V,V,_,E1 Z.f,λaM=>?_,λ_=>⟨V,V,_,E1 Z.f,λ_=>?_,λ_=>⟨s6,_,ao,⟨Z.f,Z.r.aP V⟩,bY⟩⟩⟩,?_⟩
 .simp only[bP]at aM
  refine(dX Z.r V 5).aP λ_ ae⟨ac,en,_,_,az,B⟩=>⟨(L2 bY).eV B,ac,en,λ_=>?_,λ_=>⟨V,V,_,E1 (Z.f.J B),λq=>by rw[aM]at q;exact absurd q cD,λ_=>⟨s6,_,ao.fz (by simp[L]) hk B,⟨(Z.to B az).f,az.aP V⟩,B.aQ⟩⟩⟩
  have R:=Z.to B az
  have X:=B.aQ
  have aJ:=ao.fz (by simp[L]) hk B
  refine Kg (v:=r.aY++[0,1]) (S:=s.size::j.size::b) (am X) (by simp[L]) (u.to R.f R.r) V (aI (aK.J B)) cB aN cD (L2 X) λaj au H ak ai w=>?_
  rw[wl]at ak
  intro ab U
  let⟨aa,ay,a0⟩:=BX.bF (d:=ab) (c:=U) ak O O
  clear_value U
  have aP:=w.aQ
  have ar:=(R.to w ai).ext aa
  have ah:=(aJ.fz (by simp[L]) hk w).ext aa
  have ax:HX (H.size::s.size::j.size::b) f g.length (r.aY.length+2) U s6 (.mk 9 F J):=(aJ.h.fz (by simp[L]) w).nj aa bY
  have L3:∀{i:bg},U.size<=i.size->Lw c [H.size,s.size,m6.size,j.size,m.size] i:=λq=>lw hr eX
  refine⟨λi=>∃z y,BX (s.size::j.size::b) f g.length (r.aY.length+2) H.size i z y/\HX (s.size::j.size::b) f g.length (r.aY.length+2) i s6 (.mk 9 F J)/\Rs c h m (P+4+Cg 18) i/\U.size<=i.size/\dF i s.size dw [.i 9,.i F,.s s6],⟨λ_=>?_,λ_=>⟨au,aj,ay,ax.iU,ar,bY,ah.b⟩⟩,?_⟩
  .let⟨aH,N⟩:=dV r.aY 0
   refine⟨cD,V,aH,(iO.1 ((PS ar.f).bt N)).2,λ_=>?_,λ_=>⟨au,aj,ay,ax.iU,ar,bY,ah.b⟩⟩
   refine AY (H.size::s.size::j.size::b) f g.length (a:=r.aY.length+2) (L3 bY) V λav an aq T=>?_
   have aQ:=T.aQ
   refine AY (H.size::s.size::j.size::b) f g.length (a:=r.aY.length+2) (L3 aQ) V λaw ad I C=>?_
   have a6:=C.aQ
   intro aD
   have aO:=px aD
   have Y:jz (dB (H.size::s.size::j.size::b) aD) (.mk ad.size 0 2 2) [.mk 12 0 [],.mk 12 ps.len []]:=sX (S:=H.size::s.size::j.size::b) (M:=ad) [(.mk 12 0 [],av),(.mk 12 ps.len [],aw)] bO (dE (am (i:=ad) V) bY V) (by simp;exact⟨(aq.ext C).sl,I.sl⟩) O O
   have a7:=aO.aQ
   refine mw (M:=aD) Y (.iY (a:=r.aY.length+2) (b:=f) (d:=g.length) cD (λq=>V) cD (λq=>V) (by simp;exact⟨aq.wx,I.wx⟩)) (L3 V) λaE aW aT aY=>?_
   have D:=((T.J C).J aO).J aY
   have hb:=(ay.ext D).dY aT
   have ha:=(ax.ext D).cG (k:=H.size) bO (o:=0) (l:=[.i 11,.i 0,.s aE])
   have hB:dF (aV aW H.size 0 [.i 11,.i 0,.s aE]) s.size dw [.i 9,.i F,.s s6]:=(ah.b.ext D).congr (cq _ _ _ _ V)
   exact⟨aE,.mk 11 0 [.mk 12 0 [],.mk 12 ps.len []],hb,ha.iU,(ar.ext D).cG u.rd V _ _,by rw[bD];have:=D.aQ;omega,hB⟩
  rintro M3 ⟨z,y,N,D,W,aE,aH⟩
  refine⟨_,N.b.dx 0,_,N.b.dx 1,_,N.b.dx 2,?_⟩
  intro an
  have T:=px an
  have Y:jz (dB (s.size::j.size::b) an) (.mk M3.size 0 2 2) [y,.mk 9 F J]:=sX (S:=s.size::j.size::b) (M:=M3) [(y,z),(.mk 9 F J,s6)] bO (am V) (by simp;exact⟨N.h.iU.sl,D.sl⟩) O O
  have aQ:=T.aQ
  refine mw (M:=an) Y (.lG (by simp;exact⟨N.h.wx,D.wx⟩)) (L2 V) λaw ad I C=>?_
  have hb:=(BX.mk (e:=.mk 9 F J) ((aH.ext T).ext C) ((D.ext T).ext C)).dY I
  have aD:=((W.ext T).ext C).cG u.rd (k:=s.size) V 0 [.i 6,.i 1,.s aw]
  exact⟨aw,.mk 6 1 [y,.mk 9 F J],hb,⟨aD.f,aD.r.aP V⟩,by rw[bD];have:=C.aQ;omega⟩
 .intro ae
  have D:=px ae
  have aC:ba (dB [c] ae) (.mk G.size 0 2 2) [1,2]:=ba.km bB cB O O bO
  have X:=D.aQ
  have I:∀{A M2:bg}{C:Nat},G.size<=A.size->Fz [c] A M2->m.size<=C->C<G.size->∀B,aS M2 C B=aS A C B:=λq K h1 h2 B=>kg K hr ⟨h1,V⟩ B
  refine⟨I bY (D.fz _) V V _,I bY (D.fz _) V V _,I bY (D.fz _) V V _,I bY (D.fz _) V V _,I bY (D.fz _) V V _,?_⟩
  have R:=Z.ext D
  refine(og R.r V aC bO).aP λ_ H⟨ac,en,hn,ai,w⟩=>⟨(L2 X).eV w,ac,en,I X w V V _,I X w V V _,I X w V V _,I X w V V _,I X w V V _,?_⟩
  have ay:=R.to w ai
  have aP:=w.aQ
  refine Kg (v:=r.aY++[0,1]) (S:=s.size::j.size::b) (am V) (by simp[L]) (u.to ay.f ay.r) V (aI ((aK.cg D).J w)) cB aN cD (L2 V) λaw aH ab ax aD ad=>?_
  rw[wl]at ax
  have aJ:=ad.aQ
  refine⟨I V ad V V _,I V ad V V _,I V ad V V _,?_⟩
  intro U
  have aa:=px U
  have ar:=((ao.ext D).fz (by simp[L]) hk w).fz (by simp[L]) hk ad
  have Y:jz (dB (s.size::j.size::b) U) (.mk ab.size 0 2 2) [aw,.mk 9 F J]:=sX (S:=s.size::j.size::b) (M:=ab) [(aw,aH),(.mk 9 F J,s6)] bO (am V) (by simp;exact⟨ax.sl,ar.h.sl⟩) O O
  have a0:=aa.aQ
  simp at hn
  refine mw (M:=U) Y (.iY (a:=r.aY.length+2) (b:=f) (d:=g.length) V (λq=>V) V (λq=>V) (by simp;exact⟨ax.wx,ar.h.wx⟩)) (L2 V) λav an aq T=>?_
  have hb:=((ar.ext aa).ext T).dY aq
  have az:=(((ay.to ad aD).ext aa).ext T).cG u.rd (k:=s.size) V 0 [.i ac,.i 0,.s av]
  exact⟨av,.mk ac 0 [aw,.mk 9 F J],hb,⟨az.f,az.r.aP V⟩,by rw[bD];have:=T.aQ;omega⟩
 rintro M3 ⟨z,y,N,W,aE⟩
 have L3:∀{i:bg},G.size<=i.size->Lw c [m6.size,j.size,m.size] i:=λq=>lw hr eX
 have ad:∀{A M2:bg}{C:Nat},M3.size<=A.size->Fz [c] A M2->m.size<=C->C<G.size->∀B,aS M2 C B=aS A C B:=λq K h1 h2 B=>kg K hr ⟨h1,V⟩ B
 refine⟨V,V,_,E1 W.f,_,N.b.dx 0,_,N.b.dx 1,_,N.b.dx 2,?_⟩
 refine AY (j.size::b) f g.length (a:=r.aY.length) (L3 aE) ha λaq ae T D=>?_
 have X:=D.aQ
 have gx:∀C B,m.size<=C->C<G.size->aS ae C B=aS M3 C B:=λC B h1 h2=>ad bY (D.fz _) h1 h2 B
 refine⟨gx _ _ V V,gx _ _ V V,gx _ _ V V,(E1 (W.f.cg D)).trans (E1 W.f).symm,gx _ _ V V,gx _ _ V V,gx _ _ V V,?_⟩
 have R:=W.ext D
 refine Kg (S:=j.size::b) (al V) (by simp[L]) (u.to R.f R.r) V (PS R.f) V (u.gp.ty aB.2.2.1 aB.2.2.2) cD (L3 V) λaj au H ak ai w=>?_
 have I:∀B,aS H s.size B=aS ae s.size B:=cB
 refine⟨I _,I _,I _,?_⟩
 have aP:=w.aQ
 intro ab
 have ac:=px ab
 have ah:=(N.ext D).fz (by simp[L]) hk w
 have Y:jz (dB (j.size::b) ab) (.mk H.size 0 3 3) [.mk 12 ag [],aj,y]:=sX (S:=j.size::b) (M:=H) [(.mk 12 ag [],aq),(aj,au),(y,z)] bO (al V) (by simp;exact⟨(T.fz (by simp[L]) w).sl,ak.sl,ah.h.iU.sl⟩) O O
 refine mw (M:=ab) Y (.m1 u.gp.ds T.wx ak.wx N.h.wx) (L3 (oh ac.aQ)) λar U an aa=>?_
 exact an.kH (((R.to w ai).ext ac).ext aa) u.rd V V
end
section
variable{u:bg}{f:E}{l:ab}{i q:Ex}
abbrev G3(M a:bg)(k:Nat)(X:Prop):Prop:=aS a k 0=aS M k 0/\aS a k 1=aS M k 1/\aS a k 2=aS M k 2/\X
abbrev E3(v:Value)(X:Int->Int->E->Prop):Prop:=∃a b:Int,∃c:E,v=.agg #[vi a,vi b,c.v]/\X a b c
abbrev N1(L:ad)(e:Nat)(M:bg)(K:Int->Int->E->bg->Prop):Prop:=bK dO 320 [vi 1,vi 0,E.v (.mk e 0 2 2)] M λv a=>gS L M a/\E3 v λb c d=>K b c d a
section
variable(L:ad)(c:Nat)(b:Int)(k n d p w s:E)(r a e:Nat)(F:Int->Int->E->bg->Prop)
abbrev TR5(g:Nat)(M:bg):Prop:=N1 L g M λd e f c=>G3 M c a (N1 L c.size (c.push (.cells (db [.i 9,.i b,.s k,.i d,.i e,.s f]) dw)) F)
abbrev TR4(c d:Int)(e:E)(M:bg):Prop:=G3 M (M.push (.cells (db [.i c,.i d,.s e,.i 9,.i b,.s n]) dw)) a (TR5 L b k a F M.size (M.push (.cells (db [.i c,.i d,.s e,.i 9,.i b,.s n]) dw)))
abbrev TR3(M:bg):Prop:=bK dO 319 [vp c 0,.agg #[d.v,p.v],w.v,vi 0,vi 4] M λv e=>gS L M e/\E3 v λf g h=>G3 M e r (G3 M e a (TR4 L b k n a F f g h e))
abbrev TR2(h:Nat)(M:bg):Prop:=bK dO 215 [s.v,E.v (.mk h 0 3 3)] M λv g=>gS L M g/\∃f:E,v=f.v/\G3 M g r (aS g e 0=aS M e 0/\aS g e 1=aS M e 1/\G3 M g a (TR3 L c b k n d p f r a F g))
end
def _root_.Go.Vc.aaQ{σ τ:Type}{n:Nat}(p:n<=9223372036854775807)(l:1<=n){m:bg}{g:σ}{h:τ}{e:(σ->τ->Int->bg->Prop)->(σ->τ->Int->bg->Nat)->σ->τ->Int->bg->Prop}(Q:Nat->σ->τ->bg->Prop)(j:Q 1 g h m)
 (o:∀(k:Nat)(f:σ)(t:τ)(a:bg)(I:σ->τ->Int->bg->Prop)(μ:σ->τ->Int->bg->Nat),1<=k->k<=n->Q k f t a->
  (k<n->∀c d b,Q (k+1) c d b->I c d (eJ ((k:Int)+1)) b/\μ c d (eJ ((k:Int)+1)) b<μ f t k a)->e I μ f t k a):
 ∃(I:σ->τ->Int->bg->Prop)(μ:σ->τ->Int->bg->Nat),I g h 1 m/\∀f t i a,I f t i a->e I μ f t i a:=by
 refine⟨λf t i b=>∃k:Nat,i=k/\1<=k/\k<=n/\Q k f t b,λ_ _ i _=>(n -i).toNat,⟨1,O,bY,l,j⟩,?_⟩
 grind [nt,Qe]
def Ui(_:bg)(a:ae)(n:Int):Prop:=∃f:E,a=[.i 12,.i n,.s f]/\f.len=0
def Ui.aP:sE 3 Ui:=⟨λ_ h=>h,λ⟨_,h,_⟩=>by rw[h];rfl⟩
abbrev GV(u m:bg)(f:E)(l:ab):Prop:=Gr [] u m dw 3 Ui f l
def GV.fR{m a:bg}(h:GV u m f l)(q:a[f.bz]? =m[f.bz]?):GV u a f l:=by
 let⟨c,b,d,e⟩:=h;exact⟨c,b,d.congr q,e.aP λ_ _ h=>h⟩
def GV.ex{g:ad}{m:bg}(h:GV u m f l)(j:f.bz∉g)(s:l.length<=1000):jz (dB g m) f (l.map λn=>.mk 12 n []):=by
 let⟨c,b,d,e⟩:=h;have H:=Gr.rU (S:=g) Ui.aP ⟨c,b,d,e.aP λ_ _ h=>h⟩ j cD V;refine⟨by rw[H.aT];simp,H.ms,H.kK,λq i a=>?_⟩;simp only[eE,jT]at a;obtain⟨n,k,rfl⟩:=a;obtain⟨r,⟨t,rfl,p⟩,o⟩:=H.kZ q n k;exact⟨_,DN.of ⟨p,V,V,bO⟩,o⟩
@[grind cases] structure AS (S:ad) (ds:af) (nf a n0 k Q rb:Nat) (bs:E) (m M:bg) (sl:E) (el:Ex) (sr:E) (er:Ex):Prop where
 b:dF M k dw [.i 0,.i 0,.s .nil]
 hk:n0<=k
 l:HX (k::S) ds nf a M sl el
 r:HX (k::S) ds nf a M sr er
 s:Rs rb bs m Q M
section
variable{g:ad}{h:af}{b a r k Q w c:Nat}{o s t:E}{m M v:bg}{e n:Ex}
def AS.ext(d:AS g h b a r k Q c o m M s e t n)(i:D M v):AS g h b a r k Q c o m v s e t n:=⟨d.b.ext i,d.hk,d.l.ext i,d.r.ext i,d.s.ext i⟩
def AS.fz(d:AS g h b a r k Q c o m M s e t n)(j:c∈g)(i:k≠c)(f:Fz [c] M v)(l:Rd c o w v):AS g h b a r k w c o m v s e t n:=by constructor<;>grind [AS.b,dF.congr,Fz.bG,dF.lt,AS.hk,AS.l,HX.fz,AS.r,AS.s,Rs.to]
def AS.bF(d:r<=M.size)(l:HX g h b a M s e)(j:HX g h b a M t n)(f:Rs c o m Q M):D M (M.push (.cells (db [.i 0,.i 0,.s .nil]) dw))/\AS g h b a r M.size Q c o m (M.push (.cells (db [.i 0,.i 0,.s .nil]) dw)) s e t n:=
 have i:=D.push M (.cells (db [.i 0,.i 0,.s .nil]) dw)
 ⟨i,dF.push _ _ _,d,l.nj i bY,j.nj i bY,f.ext i⟩
end
variable{g:ad}{c P:Nat}{o d p:E}{h:af}{j:av}{m:bg}
def WX.m3{b a:Nat}{z:Ex}(hd:h∈vA)(f:WX h b a i)(g:WX h b a q)(j:WX h b (a+3) z):WX h b a (.mk 8 3 [i,q,z]):=by
 obtain⟨-,c,-,-,d,e⟩:=RX h hd;grind [WX.mt]
def WX.iJ{b a:Nat}(c:WX h b a i)(d:WX h b a q):WX h b a (.mk 1 0 [i,q]):=by grind [WX.iY]
def OJ(hS:∀I∈g,I<m.size)(aK:c∈g)(I:GC c o P d p h j m)(hP:P+200+3*Cg 18<=10^16){F:Nat}{z:eG}(hq:j[F]? =some z)(bz:1<=z.aY.length):
 bK dO 290 [vp c 0,.agg #[E.v d,E.v p],vi F] m (XP g c o m (P+200+3*Cg 18) (WX h j.length z.aY.length)):=by
 apply Hr (c,0)
 simp -zeta only[kL,nO]
 intro B aw
 let⟨x2,hl⟩:=fU (a:=B) (c:=aw) O O
 have s1:=pz B
 have s2:aw.size=m.size+2:=by simp[aw,s1]
 have hr:=I.rd.lt
 have ap:∀{b:bg},aw.size<=b.size->∀I∈B.size::g,I<b.size:=λA=>dE hS V V
 have r2:Rs c o m P aw:=⟨x2.fz _,I.rd.ext x2⟩
 have L1:∀{b:bg},aw.size<=b.size->Lw c [B.size,m.size] b:=λA=>lw hr eX
 let⟨ps,bd,e0,e1⟩:=I.hp.bt hq
 have bV:=br hq
 have b0:=I.hp.aT
 have a6:=Bb _ (I.gp.eS z (aZ hq))
 have h3:z.aY.length<=3:=a6.1
 have PS:∀{b:bg},Fz [c] m b->IR c b ps z.aY:=λH=>bd.le (fh H)
 have E1:∀{b:bg},Fz [c] m b->aS b p.bz (p.off+F*5+1)=some (vi z.bQ):=λH=>(iO.1 (fh H _ _ _ e1)).2
 have b1:=bd.aT
 have bl:=I.gp.ty (t:=0) cD cD
 have ar:c∈B.size::g:=by simp[aK]
 refine⟨V,V,ps,(iO.1 (fh r2.f _ _ _ e0)).2,?_⟩
 refine AY (B.size::g) h j.length (a:=z.aY.length+3) (L1 bY) V λs3 m3 bv x3=>?_
 have z3:=x3.aQ
 intro m4
 have x4:=px m4
 have g4:GV m3 m4 (.mk m3.size 0 1 1) [(ps.len:Int)]:=Gr.km (g:=[[.i 12,.i ps.len,.s s3]]) Ui.aP bY O O ⟨O,bO,λau I C hj r=>by
  have:au=0:=by have:=br hj;simp at this;omega
  subst this;simp at hj r;subst hj r;exact⟨s3,O,bv.sl.aT⟩⟩
 have s4:=pz m4
 rw[de (b:=(ps.len:Int)+2) V V]
 refine AY (B.size::g) h j.length (a:=z.aY.length+3) (L1 V) V λs5 m5 h5 x5=>?_
 have z5:=x5.aQ
 intro m6
 have x6:=px m6
 have g6:GV m5 m6 (.mk m5.size 0 1 1) [(ps.len:Int)+2]:=Gr.km (g:=[[.i 12,.i (ps.len+2),.s s5]]) Ui.aP bY O O ⟨O,bO,λau I C hj r=>by
  have:au=0:=by have:=br hj;simp at this;omega
  subst this;simp at hj r;subst hj r;exact⟨s5,O,h5.sl.aT⟩⟩
 have r3:=r2.ext x3
 have vq:∀{b w:bg}{L:Int}{f:E}{l:ab}{aN:E->bg->Prop}{aI:E},GV m3 b f l->D m3 b->l.length<=10->aI.len=0->(∀T w,GV m3 w T (l++[L])->D m3 w->b.size<=w.size->(T.bz=f.bz\/b.size<=T.bz)->(∀J,J<b.size->J≠f.bz->w[J]? =b[J]?)->aN T w)->
  mj (b.push (.cells (db [.i 12,.i L,.s aI]) dw)) dw [.i 0,.i 0,.s .nil] 40 f (.mk b.size 0 1 1) aN:=λaE i hl ht hk=>
  Gr.nE (h:=[.i 0,.i 0,.s .nil]) (X:=[]) Ui.aP cD aE (i.fz []) ⟨_,O,ht⟩ V λT w g' f' aA z=>hk T w g' f'.ext aA.1 aA.2 z
 refine aaQ (n:=z.aY.length) V bz (λau f aI b=>∃l l',GV m3 b f l/\GV m3 b aI l'/\l.length=au/\l'.length=au/\(∀L∈l,0<=L/\L<((z.aY.length+3:Nat):Int))/\(∀L∈l',0<=L/\L<((z.aY.length+3:Nat):Int))/\D m3 b/\f.bz≠aI.bz) ⟨_,_,(g4.fR ((x5.J x6).bG _ (by show m3.size<_;omega))),Gr.cW Ui.aP g6 (λ_ A=>bC A) V,O,O,eX,eX,(x4.J x5).J x6,by show m3.size≠m5.size;omega⟩ ?_
 rintro au f aI b bT μ bW hj ⟨l,l',aE,g',bX,bZ,hw,bi,xM,bx⟩ bG
 have zM:=xM.aQ
 have RM:=r3.ext xM
 refine⟨λA=>?_,λ_=>?_⟩
 .simp only[bh]at A
  refine AY (B.size::g) h j.length (a:=z.aY.length+3) (L1 V) V λs7 Y h7 x7=>?_
  have gy:=aE.cJ;have aP:=g'.cJ
  have z7:=x7.aQ
  intro m8
  refine vq (w:=Y) (aE.fR (x7.bG _ gy.2)) (xM.J x7) V h7.sl.aT λr9 m9 u x9 z9 Z U=>?_
  refine⟨(L1 (b:=m3) z3).wK ((((xM.J x7).J (D.push Y _)).fz [c])) (x9.fz _),?_⟩
  refine AY (B.size::g) h j.length (a:=z.aY.length+3) (L1 V) V λaa af a1 ak=>?_
  intro bj
  have Q:=((g'.fR (x7.bG _ aP.2)).fR (U _ V (th bx))).fR (ak.bG _ V)
  have AZ:=ak.aQ
  refine vq (w:=Y) Q (x9.J ak) V a1.sl.aT λa7 N K aJ bN W R=>?_
  refine⟨(L1 (b:=m3) z3).wK (((x9.J ak).J (D.push af _)).fz [c]) (aJ.fz _),bG V _ _ _ ⟨_,_,(u.fR (ak.bG _ u.cJ.2)).fR (R _ (oh u.cJ.2) V),K,eX,eX,λL r=>?_,λL r=>?_,aJ,oh u.cJ.2⟩⟩
  .rcases bU.1 r with A|A
   .exact hw L A
   .simp at A;omega
  .rcases bU.1 r with A|A
   .exact bi L A
   .simp at A;omega
 have gy:=aE.cJ;have aP:=g'.cJ
 have nS:∀J,m3.size<=J->J∉B.size::g:=λJ hb A=>by have:=ap (b:=aw) bY J A;omega
 have a8:∀l:ab,(∀L∈l,0<=L/\L<((z.aY.length+3:Nat):Int))->WX h j.length (z.aY.length+3) (.mk 9 F (l.map λL=>.mk 12 L [])):=λl hl=>.iY cD (λA=>V) cD (λ_=>⟨V,V⟩) (by simp;exactλL r=>.var (hl L r))
 refine mw (aE.ex (nS _ gy.1) V) (a8 l hw) (L1 V) λsl Y h7 x7=>?_
 intro m8 m9
 obtain⟨x9,-,z9⟩:=nG (M:=Y) (c:=m8) (a:=m9) O O O
 have z7:=x7.aQ
 refine mw ((g'.fR ((x7.J x9).bG _ aP.2)).ex (nS _ aP.1) V) (a8 l' bi) (lw hr eX) λsr af a1 ak=>?_
 intro bj N
 obtain⟨aJ,-,bN⟩:=nG (M:=af) (c:=bj) (a:=N) O O O
 have AZ:=ak.aQ
 have a2:=((h7.ext x9).ext ak).ext aJ
 have a4:=a1.ext aJ
 generalize a_:Ex.mk 9 F (l.map λL=>.mk 12 L [])=el at a2
 generalize bb:Ex.mk 9 F (l'.map λL=>.mk 12 L [])=er at a4
 have a7:=(((RM.ext x7).ext x9).ext ak).ext aJ
 have bc:∀{u:Nat},N.size<=u->u≠c:=λA=>V
 have G:∀{b w:bg}{u aH:Nat},N.size<=b.size->Fz [c] b w->m.size<=u->u<N.size->aS w u aH=aS b u aH:=λA H h1 h2=>kg H hr ⟨h1,V⟩ _
 have L4:∀{b:bg},N.size<=b.size->Lw c [af.size,Y.size,B.size,m.size] b:=λA=>lw hr eX
 have L5:∀{b:bg}{u:Nat},N.size<=u->u<b.size->Lw c [u,af.size,Y.size,B.size,m.size] b:=λA h'=>lw hr eX
 have aR:∀{b:bg}{u:Nat},N.size<=u->u<b.size->∀I∈u::B.size::g,I<b.size:=λA h'=>dE (ap (b:=N) V) V h'
 have aX:=λ(i q:Ex)=>WX.iJ (h:=h) (b:=j.length) (a:=z.aY.length+3) (i:=i) (q:=q)
 let aN:=λ(u:Nat)(b:bg)=>∃f C,BX (B.size::g) h j.length (z.aY.length+3) u b f C/\HX (u::B.size::g) h j.length (z.aY.length+3) b sl el/\Rs c o m (P+Cg 18) b
 have bs:∃k9,el=.mk 9 F k9:=⟨_,a_.symm⟩
 have bt:∃k9,er=.mk 9 F k9:=⟨_,bb.symm⟩
 clear a_ bb
 obtain⟨kl,rfl⟩:=bs
 obtain⟨kr,rfl⟩:=bt
 let ao:=λ(u aO:Nat)(b:bg)=>AS (B.size::g) h j.length (z.aY.length+3) N.size u (P+aO) c o m b sl (.mk 9 F kl) sr (.mk 9 F kr)
 let aD:=λu=>[u,af.size,Y.size,B.size,m.size]
 let K0:=λ(kO:ai)(b:bg)=>kO.2=0/\N.size<=kO.1/\aN kO.1 b
 let aC:=λ(u:Nat)(r J:Int)(I:E)(w:bg)=>K0 (u,0) (aV w u 0 [.i r,.i J,.s I])
 have H3:∀{b w:bg}{R:Prop},N.size<=b.size->Fz [c] b w->R->G3 b w Y.size R:=λK H i=>⟨G K H V V,G K H V V,G K H V V,i⟩
 have H6:∀{b w:bg}{R:Prop},N.size<=b.size->Fz [c] b w->R->G3 b w af.size (G3 b w Y.size R):=λK H i=>⟨G K H V V,G K H V V,G K H V V,H3 K H i⟩
 have H5:∀{b w:bg}{R:Prop},N.size<=b.size->Fz [c] b w->R->aS w m.size 0=aS b m.size 0/\aS w m.size 1=aS b m.size 1/\G3 b w Y.size R:=λK H i=>⟨G K H V V,G K H V V,H3 K H i⟩
 have H8:∀{b w:bg}{R:Prop},N.size<=b.size->Fz [c] b w->R->G3 b w af.size (aS w m.size 0=aS b m.size 0/\aS w m.size 1=aS b m.size 1/\G3 b w Y.size R):=λK H i=>⟨G K H V V,G K H V V,G K H V V,H5 K H i⟩
 have R7:∀{u t0:Nat}{b:bg}{C:Ex},ao u (Cg 18) b->jz (dB (u::B.size::g) b) (.mk t0 0 2 2) [.mk 9 F kl,C]->WX h j.length (z.aY.length+3) C->N1 (aD u) t0 b (aC u):=λr hs hw=>
  mw hs (aX _ _ r.l.wx hw) (L5 r.hk r.b.lt) λs' w h' i=>by
   have hb:=(BX.mk (e:=.mk 0 0 []) (s:=.nil) (r.b.ext i) ⟨⟨O,bY,bO,bO⟩,.rB 0⟩).dY h';exact⟨O,r.hk,s',_,hb,(r.l.ext i).cG bO,(r.s.ext i).cG I.rd (oh r.hk) _ _⟩
 have R6:∀{u:Nat}{b:bg}{f:E}{r J:Int}{kk:ax},ao u (Cg 18) b->HX (u::B.size::g) h j.length (z.aY.length+3) b f (.mk r J kk)->N1 (aD u) b.size (b.push (.cells (db [.i 9,.i F,.s sl,.i r,.i J,.s f]) dw)) (aC u):=λr A=>
  R7 (r.ext (D.push _ _)) (sX [(.mk 9 F kl,sl),(.mk _ _ _,_)] bO (aR r.hk r.b.lt) (by simp;exact⟨r.l.sl,A.sl⟩) O O) A.wx
 have R5:∀{u t0:Nat}{b:bg}{C:Ex},ao u (Cg 18) b->jz (dB (u::B.size::g) b) (.mk t0 0 2 2) [C,.mk 9 F kr]->WX h j.length (z.aY.length+3) C->TR5 (aD u) F sl Y.size (aC u) t0 b:=λr hs hw=>
  mw hs (aX _ _ hw r.r.wx) (L5 r.hk r.b.lt) λs' w h' i=>
   have K:=VD (vZ r.hk r.b.lt)
   H3 K (i.fz _) (R6 (r.ext i) h')
 have R4:∀{u:Nat}{b:bg}{f:E}{C:Ex},ao u (Cg 18) b->HX (u::B.size::g) h j.length (z.aY.length+3) b f C->TR4 (aD u) F sl sr Y.size (aC u) C.op C.cE f b:=λ{u b f C} r A=>
  have i:=D.push b (.cells (db [.i C.op,.i C.cE,.s f,.i 9,.i F,.s sr]) dw)
  have K:=VD (vZ r.hk r.b.lt)
  H3 K (i.fz _) (R5 (r.ext i) (sX [(C,f),(.mk 9 F kr,sr)] bO (aR r.hk r.b.lt) (by simp;exact⟨A.sl,r.r.sl⟩) O O) A.wx)
 have a9:∀{aY L':ad}{b:bg}{ac:E}{K':Int->Int->E->bg->Prop},(∀I∈aY,I<b.size)->c∈aY->Rs c o m P b->IR c b ac (z.aY++[3,0,3])->Lw c L' b->(∀C f w,HX aY h j.length (z.aY.length+3) w f C->Rd c o (P+Cg 18) w->Fz [c] b w->K' C.op C.cE f w)->bK dO 319 [vp c 0,.agg #[E.v d,E.v p],E.v ac,vi 0,vi 4] b λbJ w=>gS L' b w/\∃r0 r1:Int,∃r2:E,bJ=.agg #[vi r0,vi r1,E.v r2]/\K' r0 r1 r2 w:=λbw bA T hw hL hk=>
  Kg (v:=z.aY++[3,0,3]) bw bA (I.to T.f T.r) V hw eX bl cD hL λC f w A d H=>hk C f w (sp A) d H
 have R3:∀{u:Nat}{b:bg}{ac:E},ao u 0 b->IR c b ac (z.aY++[3,0,3])->TR3 (aD u) c F sl sr d p ac af.size Y.size (aC u) b:=λr hw=>
  a9 (aR r.hk r.b.lt) (by simp[aK]) r.s hw (L5 r.hk r.b.lt) λC f w A d' H=>
   have K:=VD (vZ r.hk r.b.lt)
   H6 K H (R4 (r.fz ar (bc r.hk) H d') A)
 have R2:∀{u t0:Nat}{b:bg},ao u 0 b->ba (dB [c] b) (.mk t0 0 3 3) [3,0,3]->TR2 (aD u) c F sl sr d p ps af.size Y.size m.size (aC u) t0 b:=λr hw=>
  (iL (S:=[c]) (by simp;exact r.s.r.lt) (PS r.s.f) hw eX).aP λ_ w⟨ac,wl,C,gw,qw,i⟩=>by
   subst qw;have K:=VD (vZ r.hk r.b.lt);exact⟨(L5 r.hk r.b.lt).eV (i.fz _),ac,C,H8 K (i.fz _) (R3 (r.ext i) (GI.cr gw (by simp;exact r.s.r.lt) eX))⟩
 have ay:∀{b:bg}{aO:Nat},N.size<=b.size->HX (B.size::g) h j.length (z.aY.length+3) b sl (.mk 9 F kl)->HX (B.size::g) h j.length (z.aY.length+3) b sr (.mk 9 F kr)->Rs c o m (P+aO) b->D b (b.push (.cells (db [.i 0,.i 0,.s .nil]) dw))/\ao b.size aO (b.push (.cells (db [.i 0,.i 0,.s .nil]) dw)):=λh1 h2 h3 h4=>AS.bF h1 h2 h3 h4
 have r0:Rs c o m (P+0) N:=a7
 have wl:∀b:bg,c<b.size->ba (dB [c] (b.push (.cells (db [.i 3,.i 0,.i 3]) bB))) (.mk b.size 0 3 3) [3,0,3]:=λb A=>ba.km bB (by simp;exact A) O O bO
 refine⟨K0,⟨?_,?_⟩,?_⟩
 .intro aj
  have Q:=px aj
  have aU:ba (dB [c] aj) (.mk N.size 0 3 3) [3,0,3]:=wl N a7.r.lt
  have aB:=Q.aQ
  have a3:=a2.ext Q;have a5:=a4.ext Q;have Z:=r0.ext Q
  refine H8 bY (Q.fz _) ⟨?_,?_⟩
  .refine(iL (S:=[c]) (by simp;exact Z.r.lt) (PS Z.f) aU eX).aP λ_ am⟨ac,bL,C,gw,qw,U⟩=>⟨(L4 aB).eV (U.fz _),ac,C,H8 aB (U.fz _) ⟨?_,?_⟩⟩
   all_goals have aW:IR c am ac (z.aY++[3,0,3]):=qw▸GI.cr gw (by simp;exact Z.r.lt) (by rw[<-qw];simp;omega)
   all_goals have bp:=U.aQ
   .refine a9 (aY:=B.size::g) (ap V) ar (Z.ext U) aW (L4 V) λag aT an ah a0 ae=>H6 V ae ⟨?_,?_⟩
    all_goals have aq:=(a3.ext U).fz ar ae
    all_goals have aF:=(a5.ext U).fz ar ae
    all_goals have aM:=(Z.ext U).to ae a0
    all_goals have bP:=ae.aQ
    .intro av
     have aa:=px av
     have be:jz (dB (B.size::g) av) (.mk an.size 0 2 2) [ag,.mk 9 F kr]:=sX [(ag,aT),(.mk 9 F kr,sr)] bO (ap V) (by simp;exact⟨ah.sl,aF.sl⟩) O O
     have bQ:=aa.aQ
     refine H3 V (aa.fz _) ⟨?_,?_⟩
     .refine mw (M:=av) be (aX _ _ ah.wx aF.wx) (L4 V) λbH aG aQ az=>H3 V (az.fz _) ⟨?_,?_⟩
      all_goals have R:=aa.J az
      all_goals have bS:=az.aQ
      .intro aL
       have al:=px aL
       have bf:jz (dB (B.size::g) aL) (.mk aG.size 0 2 2) [.mk 9 F kl,.mk 1 0 [ag,.mk 9 F kr]]:=sX [(.mk 9 F kl,sl),(.mk 1 0 [ag,.mk 9 F kr],bH)] bO (ap V) (by simp;exact⟨(aq.ext R).sl,aQ.sl⟩) O O
       have b2:=al.aQ
       refine⟨?_,?_⟩
       .refine mw (M:=aL) bf (aX _ _ aq.wx aQ.wx) (L4 V) λbI bE bu bm=>?_
        have b3:=bm.aQ
        intro bk
        have bM:=px bk
        refine H8 V (bM.fz _) ?_
        intro bF
        let⟨bn,bq,b4⟩:=BX.bF (d:=bk) (c:=bF) bu O O
        have W:=R.J (al.J bm)
        exact⟨O,by show N.size<=bE.size;omega,bI,_,bq,(aq.ext W).nj bn bY,(aM.ext W).ext bn⟩
       .let⟨W,r⟩:=ay (b:=aL) V ((aq.ext R).ext al) ((aF.ext R).ext al) ((aM.ext R).ext al)
        exact H8 V (W.fz _) (R7 r (jz.le (W.dB λJ hb=>(bo.1 hb).elim (λA=>bR V) bC) bf) aQ.wx)
      .let⟨W,r⟩:=ay (b:=aG) V (aq.ext R) (aF.ext R) (aM.ext R)
       exact H8 V (W.fz _) (R6 r (aQ.nj W bY))
     .let⟨W,r⟩:=ay (b:=av) V (aq.ext aa) (aF.ext aa) (aM.ext aa)
      exact H8 V (W.fz _) (R5 r (jz.le (W.dB λJ hb=>(bo.1 hb).elim (λA=>bR V) bC) be) ah.wx)
    .let⟨W,r⟩:=ay (b:=an) V aq aF aM
     exact H8 V (W.fz _) (R4 r (ah.nj W bY))
   .let⟨W,r⟩:=ay (b:=am) V (a3.ext U) (a5.ext U) (Z.ext U)
    exact H8 V (W.fz _) (R3 r (aW.le (fh (W.fz _))))
  .let⟨W,r⟩:=ay (b:=aj) aB a3 a5 Z
   exact H8 aB (W.fz _) (R2 r (aU.le (fh (W.fz _))))
 .let⟨W,r⟩:=ay (b:=N) bY a2 a4 r0
  have za:=W.aQ
  intro aj
  refine H8 bY (W.fz _) ?_
  intro am
  have U:=px am
  exact H8 za (U.fz _) (R2 (r.ext U) (wl aj r.s.r.lt))
 rintro⟨u,aH⟩ b ⟨ho,hk,f,C,J,hl,T⟩
 simp only at ho hk J hl
 subst ho
 have bq:=J.b.lt
 have a3:=bc hk
 have W:∀{w:bg},b.size<=w.size->Lw c [af.size,Y.size,B.size,m.size] w:=λA=>L4 V
 have K:N.size<=b.size:=V
 have aQ:∀{w:bg},b.size<=w.size->∀I∈u::B.size::g,I<w.size:=λA=>aR hk V
 refine⟨λw=>∃f C,BX (B.size::g) h j.length (z.aY.length+3) u w f C/\Rs c o m (P+2*Cg 18) w/\b.size<=w.size,⟨V,V,_,E1 T.f,λ_=>?_,λ_=>⟨f,C,J,⟨T.f,T.r.aP V⟩,bY⟩⟩,?_⟩
 .intro aj
  have Q:=px aj
  have aU:ba (dB [c] aj) (.mk b.size 0 3 3) [3,0,3]:=wl b T.r.lt
  have aB:=Q.aQ
  have Z:=T.ext Q
  refine H5 K (Q.fz _) ?_
  refine(iL (S:=[c]) (by simp;exact Z.r.lt) (PS Z.f) aU eX).aP λ_ am⟨ac,bL,e',gw,qw,U⟩=>⟨(W aB).eV (U.fz _),ac,e',H5 V (U.fz _) ?_⟩
  have aW:IR c am ac (z.aY++[3,0,3]):=qw▸GI.cr gw (by simp;exact Z.r.lt) (by rw[<-qw];simp;omega)
  have bp:=U.aQ
  have aF:=Z.ext U
  refine Kg (v:=z.aY++[3,0,3]) (S:=u::B.size::g) (aQ V) (by simp[aK]) (I.to aF.f aF.r) V aW eX bl cD (W V) λag aT an ah a0 ae=>H3 V ae ?_
  have ah:HX (u::B.size::g) h j.length (z.aY.length+3) an aT ag:=sp ah
  have bP:=ae.aQ
  refine AY (u::B.size::g) h j.length (a:=z.aY.length+3) (W V) V λbf av aq aa=>H3 V (aa.fz _) ?_
  intro aG
  have az:=px aG
  have bQ:=aa.aQ
  have a5:=(((hl.ext Q).ext U).fz (by simp[aK]) ae).ext aa
  have hs:jz (dB (u::B.size::g) aG) (.mk av.size 0 3 3) [.mk 9 F kl,ag,.mk 12 (ps.len+2) []]:=sX [(.mk 9 F kl,sl),(ag,aT),(.mk 12 (ps.len+2) [],bf)] bO (aQ V) (by simp;exact⟨a5.sl,(ah.ext aa).sl,aq.sl⟩) O O
  have bS:=az.aQ
  refine mw (M:=aG) hs (.lG (by simp;exact⟨a5.wx,ah.wx,aq.wx⟩)) (W V) λbk aL bm al=>?_
  have aM:=((((J.ext Q).ext U).fz (by simp[aK]) a3 ae).ext (aa.J az)).ext al
  have hb:=aM.dY bm
  have be:=(((aF.to ae a0).ext (aa.J az)).ext al).cG I.rd (k:=u) V 0 [.i 6,.i 3,.s bk]
  exact⟨aM.b.jb bO,λb' bn=>cq _ _ _ _ (by simp at bn;omega),bk,.mk 6 3 [.mk 9 F kl,ag,.mk 12 (ps.len+2) []],hb,⟨be.f,be.r.aP V⟩,by rw[bD];have:=al.aQ;omega⟩
 rintro M3 ⟨f,C,J,T,aA⟩
 refine⟨V,V,_,E1 T.f,_,J.b.dx 0,_,J.b.dx 1,_,J.b.dx 2,?_⟩
 refine AY (B.size::g) h j.length (a:=z.aY.length) (W aA) V λaL aj ah Q=>?_
 have aB:=Q.aQ
 have ae:∀{M1 M2:bg}{aH:Nat},b.size<=M1.size->Fz [c] M1 M2->aS M2 u aH=aS M1 u aH:=λA H=>kg H hr ⟨V,V⟩ _
 refine⟨ae aA (Q.fz _),ae aA (Q.fz _),ae aA (Q.fz _),(E1 (T.f.cg Q)).trans (E1 T.f).symm,G V (Q.fz _) V V,G V (Q.fz _) V V,G V (Q.fz _) V V,?_⟩
 have Z:=T.ext Q
 refine Kg (S:=B.size::g) (ap V) ar (I.to Z.f Z.r) V (PS Z.f) V (I.gp.ty a6.2.2.1 a6.2.2.2) cD (W V) λag aM am al aG U=>⟨ae V U,ae V U,ae V U,?_⟩
 have bp:=U.aQ
 intro an
 have az:=px an
 have aF:=(J.ext Q).fz ar a3 U
 have hs:jz (dB (B.size::g) an) (.mk am.size 0 3 3) [.mk 12 0 [],ag,C]:=sX [(.mk 12 0 [],aL),(ag,aM),(C,f)] bO (ap V) (by simp;exact⟨(ah.fz ar U).sl,al.sl,aF.h.iU.sl⟩) O O
 refine mw (M:=an) hs (.m3 I.gp.ds ah.wx al.wx J.h.wx) (W (oh az.aQ)) λbf av aq aa=>?_
 exact aq.kH (((Z.to U aG).ext az).ext aa) I.rd V V
end
section
variable{a:bg}{c:ae}{b:Nat}
section
variable{f:ad}{e P:Nat}{h d p:E}{i:af}{g:av}{m:bg}
def RC(hS:∀l∈f,l<m.size)(ah:e∈f)(l:GC e h P d p i g m)(hP:P+300+40*Cg 18<=10^16){N:Nat}{q:eG}(x:g[N]? =some q)(ai:N=0->q.aY.length=0):
 bK dO 258 [vp e 0,.agg #[d.v,p.v],vi N] m (XP f e h m (P+300+40*Cg 18) (Fit i g.length q.aY.length)):=by
 apply KQ (e,0)
 simp -zeta only[dR]
 intro n z
 let⟨x2,hl⟩:=fU (a:=n) (c:=z) O O
 have s1:=pz n
 have s2:z.size=m.size+2:=by simp[z,s1]
 have hr:=l.rd.lt
 have ae:∀{a:bg},z.size<=a.size->∀l∈n.size::f,l<a.size:=λc=>dE hS V V
 have t:Rs e h m P z:=⟨x2.fz _,l.rd.ext x2⟩
 have J:∀{a:bg},z.size<=a.size->Lw e [n.size,m.size] a:=λc=>lw hr eX
 let⟨U,af,e0,e1⟩:=l.hp.bt x
 have al:=br x
 have am:=l.hp.aT
 have ab:=Bb _ (l.gp.eS q (aZ x))
 have h3:q.aY.length<=3:=ab.1
 have Z:∀{a:bg},Fz [e] m a->IR e a U q.aY:=λw=>af.le (fh w)
 have ao:=af.aT
 have aa:e∈n.size::f:=by simp[ah]
 have ak:=l.gp.ty ab.2.2.1 ab.2.2.2
 refine⟨V,V,U,(iO.1 (fh t.f _ _ _ e0)).2,V,V,_,(iO.1 (fh t.f _ _ _ e1)).2,?_⟩
 refine(QW ((Z t.f).le fN) 1).aP λ_ m3⟨pl,en,an,x3⟩=>⟨(J bY).eV (x3.fz _),pl,en,?_⟩
 have z3:=x3.aQ
 refine Nz (n.size::f) i g.length q.aY.length (J z3) 0 λs4 o C x4=>?_
 have z4:=x4.aQ
 intro m5 H
 let⟨x6,b6,z6⟩:=BX.bF (d:=m5) (c:=H) C O O
 clear_value H
 have r6:=((t.ext x3).ext x4).ext x6
 have hk:o.size≠e:=V
 have L6:∀{a:bg},H.size<=a.size->Lw e [o.size,n.size,m.size] a:=λc=>lw hr eX
 refine(dX r6.r V 4).aP λ_ r⟨b,en,_,_,d7,L⟩=>⟨(L6 bY).eV L,b,en,?_⟩
 have I:=r6.to L d7
 have z7:=L.aQ
 have B:=l.to I.f I.r
 have D:∀j∈o.size::n.size::f,j<r.size:=dE (ae (a:=r) V) bY V
 have F:e∈o.size::n.size::f:=by simp[ah]
 have kH:∀{w:Nat}{ac:ap}{Q:Nat},bK dO w ac r (XP (o.size::n.size::f) e h r Q (WX i g.length q.aY.length))->Q<=P+300+20*Cg 18->bK dO w ac r λv A=>gS [o.size,n.size,m.size] r A/\∃W X:Int,∃t:E,v=.agg #[vi W,vi X,t.v]/\
  ∃u j,BX (n.size::f) i g.length q.aY.length o.size (aV A o.size 0 [.i W,.i X,.s t]) u j/\Rs e h m (P+300+20*Cg 18) (aV A o.size 0 [.i W,.i X,.s t])/\H.size<=(aV A o.size 0 [.i W,.i X,.s t]).size:=λc hQ=>
  XP.kk c (L6 z7) λu j A h1 h2 h3 C=>by
   have hb:=((b6.fz aa hk L).fz aa hk C).dY ⟨h1,h2⟩;have ag:=(I.to C h3).cG l.rd (k:=o.size) V 0 [.i j.op,.i j.cE,.s u];exact⟨u,j,hb,⟨ag.f,ag.r.aP hQ⟩,by rw[bD];have:=C.aQ;omega⟩
 have JS:=λ(a:bg)(S':ad)(h1:∀j∈S',j<a.size)(h2:e∈S')(Q:Nat)(cM:GC e h Q d p i g a)(w:Fz [e] m a)(hQ:Q+20*Cg 18<=10^16)(s:Int)(hb:0<=s/\s<=18)=>QP (g:=S') h1 h2 cM hQ (Z w) V ak hb
 have R:=kH ((JS r _ D F _ B I.f V 18 cD).aP λ_ _ c=>c.aP (λj K=>K.1) bY) V
 have first:1<=q.aY.length->∃y:Int,q.aY[0]? =some y/\aS r U.bz (U.off+Int.toNat 0*1)=some (vi y):=λc=>by
  let⟨y,T⟩:=dV q.aY 0;exact⟨y,T,(iO.1 ((Z I.f).bt T)).2⟩
 refine⟨λa=>∃u j,BX (n.size::f) i g.length q.aY.length o.size a u j/\Rs e h m (P+300+20*Cg 18) a/\H.size<=a.size,?_,?_⟩
 .refine⟨λv a=>(v=true->N=0)/\r=a,⟨λ_=>⟨λc=>by simp at c;omega,O⟩,λ_=>⟨sx,O⟩⟩,?_⟩
  rintro v _ ⟨G,rfl⟩
  refine⟨λc=>?_,λ_=>?_⟩
  .have Y:=ai (G c)
   exact kH ((OF D F B V).aP λ_ _ c=>c.aP (λj K=>by rw[Y];exact K) bY) V
  refine⟨λv a=>(v=true->0<=pl)/\r=a,⟨λ_=>⟨λc=>⟨λ_=>⟨λ_=>by simpa using c,O⟩,λ_=>⟨λ_=>by simpa using c,O⟩⟩,λ_=>⟨bO,O⟩⟩,λ_=>⟨bO,O⟩⟩,?_⟩
  rintro v _ ⟨G,rfl⟩
  refine⟨λc=>kH (OI D F B V x ⟨G c,V⟩) V,λ_=>?_⟩
  refine⟨λv a=>(v=true->1<=q.aY.length)/\r=a,⟨λ_=>⟨λc=>?_,λ_=>⟨bO,O⟩⟩,λ_=>⟨bO,O⟩⟩,?_⟩
  .simp only[bh]at c
   let⟨y,T,K⟩:=first V
   exact⟨cD,V,y,K,λ_=>⟨λ_=>⟨λ_=>V,O⟩,λ_=>⟨λ_=>V,O⟩⟩,λ_=>⟨bO,O⟩⟩
  rintro v _ ⟨G,rfl⟩
  refine⟨λc=>kH (OJ D F B V x (G c)) V,λ_=>⟨λ_=>⟨λc=>?_,λ_=>R⟩,λ_=>R⟩⟩
  simp only[bh]at c
  let⟨y,T,K⟩:=first V
  have Y:=kH (Oo D F B V x V) V
  exact⟨cD,V,y,K,λ_=>⟨λ_=>Y,λ_=>⟨λ_=>Y,λ_=>R⟩⟩,λ_=>R⟩
 rintro a ⟨u,j,s,aj,aq⟩
 refine⟨_,s.b.dx 0,_,s.b.dx 1,_,s.b.dx 2,?_⟩
 refine(Ft (jz.le fN s.h.sl)).aP λ_ m8⟨n8,e8,q8,Y⟩=>⟨(J V).eV (Y.fz _),n8,e8,?_⟩
 have z8:=Y.aQ
 have G:=aj.ext Y
 have K:=s.ext Y
 refine⟨λ_=>XP.tU (JS m8 (n.size::f) (ae V) aa _ (l.to G.f G.r) G.f V 12 cD) (J V) G.f l.rd V (λ_ c=>c) V,λc=>⟨_,K.b.dx 0,_,K.b.dx 1,_,K.b.dx 2,?_⟩⟩
 simp only[dm]at c
 have r9:=G.cG l.rd (k:=n.size) V 0 [.i j.op,.i j.cE,.s u]
 exact⟨u,j,O,(K.h.iU.cG bO).iU.sl,⟨s.h.wx,V⟩,r9.r.aP V,r9.f⟩
end
def Gi{α:Type}{R:bg->ae->α->Prop}{f:Nat}(g:sE f R){S:ad}(j:∀d∈S,d<a.size)(e:Nat)(l:List (α×ae))(i:∀x∈l,R (dB S a) x.2 x.1)(m:c=l.flatMap (·.2))(h:b=l.length):
 Gr S a (a.push (.cells (db c) e)) e f R (.mk a.size 0 b b) (l.map (·.1)):=by
 refine Gr.km (g:=l.map (·.2)) g bY cB (by simp[h]) ⟨bO,λd k=>?_,λp d e o n=>?_⟩
 .grind
 .grind [Option.map_eq_some_iff,aZ]
abbrev CSl(m:bg)(s:E)(l:List ab):Prop:=fX m 1 (qD m) s l
def Bf{S:ad}(d:∀e∈S,e<a.size)(e:Nat)(l:List (ab×E))(k:l.length<=1000)(h:∀x∈l,ba (dB S a) x.2 x.1)(f:c=l.map λx=>.s x.2)(g:b=l.length):CSl (dB S (a.push (.cells (db c) e))) (.mk a.size 0 b b) (l.map (·.1)):=by
 have H:=Gi (R:=λm c x=>qD m c x) (f:=1) ⟨λh=>qD.le h _ _,λ⟨_,h,_⟩=>by rw[h];rfl⟩ d e (l.map λx=>(x.1,[Ce.s x.2])) (λx i=>by simp at i;obtain⟨m,o,j,rfl⟩:=i;exact⟨_,O,h _ j⟩) (c:=c) (b:=b) (by rw[f];clear f g h k;induction l<;>simp_all) (by simp[g]);have i:=Gr.cr qD.aP H d cD cB;grind [List.map,List.map_map,Function.comp_def]
abbrev GDl(S:ad)(a m:bg)(s:E)(l:af):Prop:=Gr S a m mZ 3 lg s l
end
section
variable{K:E->bg->Prop}{f:E}
variable{S L:ad}{c P:Nat}{d:E}{m b:bg}
def Sd(d:∀a∈L,a<b.size)(g:∀a,D b a->K f a):bK dO 201 [f.v] b λv a=>gS L b a/\∃c:E,v=.agg #[c.v]/\K c a:=
 (QJ f b).aP λ_ a⟨e,x⟩=>⟨x.eV d,f,e,g a x⟩
def HQ(d:∀a,D b a->K f a):bK dO 201 [f.v] b λv a=>∃c:E,v=.agg #[c.v]/\K c a:=
 (QJ f b).aP λ_ a⟨e,x⟩=>⟨f,e,d a x⟩
def AF(hS:∀q∈S,q<m.size)(G:c∈S)(F:Rd c d P m)(hP:P+1<=10^16):
 bK dO 200 [vp c 0] m λaW H=>∃u ds,aW=u.v/\GDl S m H u ds/\ds∈vA/\Rd c d (P+1) H/\Fz [c] m H:=by
 apply Fc (c,0)
 simp -zeta only[dR]
 have hr:=F.lt
 have j:∀{b:bg},m.size<=b.size->∀q∈S,q<b.size:=λh q hc=>by have:=hS q hc;omega
 have I:∀(b:bg)(l:ab)(cs:ae)(T:Nat),m.size<=b.size->cs=l.map Ce.i->T=l.length->l.length<=1000->ba (dB S (b.push (.cells (db cs) bB))) (.mk b.size 0 T T) l:=by grind [ba.km]
 have ah:∀(b:bg)(g:Nat),ba (dB S b) (.mk g 0 0 0) []:=by grind [pX]
 intro aT
 have X:=px aT
 refine HQ λar x2=>?_
 intro m3
 have x3:=px m3
 have z2:=(X.J x2).aQ
 have i3:ba (dB S m3) (.mk ar.size 0 2 2) [0,1]:=cB
 refine HQ λm4 A=>?_
 intro o
 have x5:=px o
 have z4:=(x3.J A).aQ
 have c5:CSl (dB S o) (.mk m4.size 0 2 2) [[],[0,1]]:=Bf (j V) _ [([],.mk m.size 0 0 0),([0,1],.mk ar.size 0 2 2)] bO (by simp;exact⟨ah _ _,i3.le A.fj⟩) O O
 intro m6 m7
 obtain⟨x7,-,z7⟩:=nG (M:=o) (c:=m6) (a:=m7) O O O
 have z5:=x5.aQ
 intro m8
 have x8:=px m8
 clear_value m8
 have z8:=x8.aQ
 refine Sd cB λm9 x9=>?_
 intro J
 have ay:=px J
 have z9:=x9.aQ
 have aO:ba (dB S J) (.mk m9.size 0 3 3) [3,0,3]:=cB
 clear_value J
 have AZ:=ay.aQ
 refine Sd cB λan Y=>?_
 intro n
 have az:=px n
 have a1:=Y.aQ
 have aG:CSl (dB S n) (.mk an.size 0 2 2) [[],[3,0,3]]:=Bf (j V) _ [([],.mk m7.size 0 0 0),([3,0,3],.mk m9.size 0 3 3)] bO (by simp;exact⟨ah _ _,aO.le Y.fj⟩) O O
 intro aU r
 obtain⟨aX,-,a3⟩:=nG (M:=n) (c:=aU) (a:=r) O O O
 have a2:=az.aQ
 have LL:∀{b:bg},r.size<=b.size->∀g∈[n.size,o.size],g<b.size:=cB
 intro ao
 have aA:=px ao
 have aP:ba (dB S ao) (.mk r.size 0 2 2) [1,3]:=I r [1,3] _ _ V O O cD
 have aY:=aA.aQ
 refine Sd (LL aY) λap Z=>?_
 intro s
 have aB:=px s
 have a4:=Z.aQ
 have aH:CSl (dB S s) (.mk ap.size 0 1 1) [[1,3]]:=Bf (j V) _ [([1,3],.mk r.size 0 2 2)] bO (by simp;exact aP.le Z.fj) O O
 have a5:=aB.aQ
 intro aq
 have aC:=px aq
 have aQ:ba (dB S aq) (.mk s.size 0 3 3) [1,1,0]:=I s [1,1,0] _ _ V O O cD
 have a6:=aC.aQ
 refine Sd (LL V) λK aa=>?_
 intro au
 have ac:=px au
 have a7:=aa.aQ
 have aR:ba (dB S au) (.mk K.size 0 1 1) [0]:=I K [0] _ _ V O O cD
 have a8:=ac.aQ
 refine Sd (LL V) λL y=>?_
 intro av
 have z:=px av
 have a9:=y.aQ
 have aS:ba (dB S av) (.mk L.size 0 1 1) [3]:=I L [3] _ _ V O O cD
 have a_:=z.aQ
 refine Sd (LL V) λaw v=>?_
 intro t
 have aD:=px t
 have bb:=v.aQ
 have aI:CSl (dB S t) (.mk aw.size 0 3 3) [[1,1,0],[0],[3]]:=Bf (j V) _ [([1,1,0],.mk s.size 0 3 3),([0],.mk K.size 0 1 1),([3],.mk L.size 0 1 1)] bO (by simp;exact⟨aQ.le ((((((aa.J ac).J y).J z).J v)).fj),aR.le (((y.J z).J v).fj),aS.le v.fj⟩) O O
 have bc:=aD.aQ
 have ak:=(((((aC.J aa).J ac).J y).J z).J v).J aD
 have aj:=(((aX.J aA).J Z).J aB).J ak
 have B:=(((((x7.J x8).J x9).J ay).J Y).J az).J aj
 have x:∀{ad af:bg}{u:E}{l:List ab},D ad af->CSl (dB S ad) u l->CSl (dB S af) u l:=λax h=>fX.le h ax.fj (qD.le ax.fj)
 have U:CSl (dB S t) .nil []:=⟨O,bY,bO,bO⟩
 intro e
 have p:=px e
 have aK:dA (dB S e) (.mk t.size 0 4 4) XD:=(Gi (R:=lg) lg.aP (j (b:=t) V) mZ [(⟨0,0,[[1,3]]⟩,[.i 0,.i 0,.s (.mk ap.size 0 1 1)]),(⟨1,0,[]⟩,[.i 1,.i 0,.s .nil]),(⟨0,0,[[1,1,0],[0],[3]]⟩,[.i 0,.i 0,.s (.mk aw.size 0 3 3)]),(⟨0,1,[]⟩,[.i 0,.i 1,.s .nil])] (by simp;exact⟨⟨_,O,x ak aH⟩,⟨_,O,U⟩,⟨_,O,aI⟩,⟨_,O,U⟩⟩) O O).cr lg.aP (j V) cD cD
 have bd:=p.aQ
 intro N
 have w:=px N
 have al:GDl S e N (.mk e.size 0 3 3) Pw:=Gi (R:=lg) lg.aP (j (b:=e) V) mZ [(⟨0,0,[[],[0,1]]⟩,[.i 0,.i 0,.s (.mk m4.size 0 2 2)]),(⟨0,0,[]⟩,[.i 0,.i 0,.s .nil]),(⟨0,0,[[],[3,0,3]]⟩,[.i 0,.i 0,.s (.mk an.size 0 2 2)])] (by simp;exact⟨⟨_,O,x (B.J p) c5⟩,⟨_,O,x p U⟩,⟨_,O,x (aj.J p) aG⟩⟩) O O
 have ai:=((((X.J x2).J x3).J A).J x5).J (B.J (p.J w))
 have be:=w.aQ
 have aF:Lw c [n.size,o.size] N:=λg k=>⟨LL V g k,by simp at k;omega⟩
 refine(dX (F.ext ai) V 5).aP λ_ Q⟨am,aJ,k0,k1,C,i⟩=>⟨aF.eV i,am,aJ,λh=>?_,λ_=>⟨_,Pw,O,Gr.cW lg.aP (al.fR lg.aP i (by simp;exact⟨G,V⟩)) (λ_ h=>bC h) V,by simp[vA],C,(ai.fz _).J i⟩⟩
 simp only[bh]at h
 let⟨W,hq⟩:=dV XD am.toNat (by simp[XD];omega)
 have aN:Le (dB S e) (dB (e.size::S) Q):=(w.dB λg k=>(bo.1 k).elim (λh=>bR V) bC).J (i.fj (by simp[G]))
 let⟨f,hf,e0,e1,e2⟩:=(aK.le aN).bt hq
 refine⟨k0,eX,_,(iO.1 e0).2,_,(iO.1 e1).2,_,(iO.1 e2).2,?_⟩
 intro a0
 have aL:GDl S e Q (.mk e.size 0 3 3) Pw:=al.fR lg.aP i (by simp;exact⟨G,V⟩)
 have aM:Pw++[W]∈vA:=by
  have:=aZ hq;simp only[vA,bo,gK];exact bR ⟨W,this,O⟩
 refine Gr.nE (h:=[.i 0,.i 0,.s .nil]) (m:=W) lg.aP cD aL ((w.fz _).J i) ⟨f,O,hf⟩ (by simp[Pw]) λaV M' g' f' z' q'=>?_
 have ag:=((((((X.J x2).J x3).J A).J x5).J (B.J p)).fz [c]).J f'
 have aE:Lw c [n.size,o.size] e:=λg k=>⟨LL V g k,by simp at k;omega⟩
 exact⟨aE.wK (((w.fz [c]).J i).cg (D.push Q _)) f',aV,_,O,Gr.cW lg.aP g' (λ_ h=>bC h) V,aM,F.Bu C ag (q' c C.lt (by show c≠e.size;omega)),ag⟩
end
section
variable{a:Nat}{b:ae}
def Uf(M:bg)(b:ae)(x:eG×Option Ex):Prop:=∃c a k z,b=[.s c,.i x.1.bQ,.i a,.i k,.s z]/\ba M c x.1.aY/\∀e,x.2=some e->a=e.op/\k=e.cE/\jz M z e.dv
def Uf.aP:sE 5 Uf:=⟨λh⟨b,a,k,z,e,c,d⟩=>⟨b,a,k,z,e,c.le h,λx j=>let⟨f,g,i⟩:=d x j;⟨f,g,jz.le h i⟩⟩,λ⟨_,_,_,_,e,_⟩=>by rw[e];rfl⟩
def FuR(M:bg)(b:ae)(x:eG×Ex):Prop:=∃a s,b=[.s a,.i x.1.bQ,.i x.2.op,.i x.2.cE,.s s]/\ba M a x.1.aY/\jz M s x.2.dv
def FuR.aP:sE 5 FuR:=⟨λh⟨a,s,e,b,c⟩=>⟨a,s,e,b.le h,jz.le h c⟩,λ⟨_,_,e,_⟩=>by rw[e];rfl⟩
abbrev acR(m:bg)(s:E)(l:aJ):Prop:=fX m 5 (FuR m) s l
@[grind cases] structure acT (ds:af) (l:aJ):Prop where
 gp:GP ds (l.map (·.1))
 JS:∀x∈l,Fit ds l.length x.1.aY.length x.2
def Gr.afh{α:Type}{S:ad}{q m:bg}{i f g c k:Nat}{R:bg->ae->α->Prop}{p:List α}(w:0<f)(l:Gr S q m i f R (.mk g 0 a c) p)(u:k<=a):Gr S q m i f R (.mk g 0 k c) (p.take k):=by
 have v:=l.aT w;obtain⟨-,b,r,n⟩:=l;simp only[E.kv]at v;have s:b.length=a:=by rw[n.aT];omega
 rcases r.bt with d|⟨A,B,tail,d,h4,h5,h6,h7⟩
 .simp at d
 simp only[E.kv,E.mk.injEq]at d h7;obtain⟨rfl,-,-,rfl⟩:=d;have j:b.flatten=(b.take k).flatten++(b.drop k).flatten:=by rw[<-uI,j9]
 have o:∀c∈b.take k,c.length=f:=by grind [iy.aQ,List.mem_of_mem_take]
 refine⟨bO,b.take k,⟨by rw[dS o,qW,s,mH u];rfl,bR ⟨g,c,(b.drop k).flatten++tail,bO,h4,by rw[<-nB,<-j];exact h5,by rw[<-nB,<-j];exact h6,eX⟩⟩,?_,o,λx y z e h=>?_⟩
 .grind [List.length_take,iy.aT]
 .rw[lQ]at e h;split at e
  .rename_i t;rw[bn t]at h;exact n.eS x y z e h
  .simp at e
variable{S L:ad}{d P:Nat}{c:E}{m M:bg}
def vh{K:E->Int->Int->Int->E->bg->Prop}(d:ab)(r:Int)(o:∀c∈S,c<M.size)(n:∀e∈L,e<M.size)(u:d.length<=1000)(q:b=d.map Ce.i)(t:a=d.length)(s:∀c,D M c->ba (dB S c) (.mk M.size 0 a a) d->K (.mk M.size 0 a a) r 0 0 .nil c):
 bK dO 257 [E.v (.mk M.size 0 a a),vi r] (M.push (.cells (db b) bB)) λv c=>gS L (M.push (.cells (db b) bB)) c/\∃f:E,∃g:Int,∃h:Int,∃i:Int,∃j:E,v=.agg #[f.v,vi g,vi h,vi i,j.v]/\K f g h i j c:=
 have k:=D.push M (.cells (db b) bB)
 (WY r).aP λ_ c⟨m,x⟩=>⟨x.eV λe p=>k.lt (n e p),_,_,_,_,_,m,s c (k.J x) ((ba.km bB (l:=d) o q t V).le x.fj)⟩
def Ct(a:ab)(r:Int):eG:=⟨a,[],r,0,[]⟩
def Zc.aP:sE 5 Zc:=⟨λh=>Zc.le h,λ⟨_,_,_,_,e,_⟩=>by rw[e];rfl⟩
def WR(l:aE)(c:∀d∈S,d<M.size)(h:∀x∈l,ba (dB S M) x.2 x.1.aY)(k:l.length<=1000)(f:b=l.flatMap λx=>[.s x.2,.i x.1.bQ,.i 0,.i 0,.s .nil])(g:a=l.length):tA (dB S (M.push (.cells (db b) jf))) (.mk M.size 0 a a) (l.map (·.1)):=by
 have H:=(Gi (R:=Zc) Zc.aP c jf (l.map λx=>(x.1,[Ce.s x.2,.i x.1.bQ,.i 0,.i 0,.s .nil])) (λx d=>by simp at d;obtain⟨i,j,e,rfl⟩:=d;exact⟨_,_,_,_,O,h _ e⟩) (c:=b) (b:=a) (by rw[f,List.flatMap_map]) (by simp[g])).cr Zc.aP c cD cB;grind [List.map,List.map_map,Function.comp_def]
end
section
def aaY:av:=[Ct [1] 0,Ct [1,1] 1,Ct [1] 1,Ct [1,0] 1,Ct [2,1] 1,Ct [1,1] 0]
def aa9:av:=[Ct [3] 0,Ct [0] 1,Ct [0,1] 1,Ct [3,0] 3,Ct [3] 1,Ct [1,3,0] 0]
def TS:av:=[Ct [0] 0,Ct [0,0] 0,Ct [1,0] 0,Ct [0] 1]
def VW:(∀q∈aaY,(q.aY,q.bQ)∈Um)/\(∀q∈aa9,(q.aY,q.bQ)∈Um)/\∀q∈TS,(q.aY,q.bQ)∈Um:=cD
def TD{α:Type}{l:List α}{k:Nat}{x:α}(h:l[k]? =some x):l.set k x=l:=ft λi=>by
 grind [br]
variable{b:ad}{c P:Nat}{d:E}{m:bg}
def Jn(hS:∀j∈b,j<m.size)(u:c∈b)(I:Rd c d P m)(hP:P+10+4*(300+40*Cg 18)<=10^16):
 bK dO 243 [vp c 0] m λbl m'=>∃w aF z o,bl=.agg #[E.v w,E.v aF]/\dA (dB b m') w z/\acR (dB b m') aF o/\acT z o/\Rd c d (P+10+4*(300+40*Cg 18)) m'/\Fz [c] m m':=by
 apply BQ (c,0)
 unfold wq
 simp(config:={zeta:=false,maxSteps:=2000000}) only[kL,nO]
 have hr:=I.lt
 intro ab
 have x1:D m ab:=D.push _ _
 have s1:ab.size=m.size+1:=by simp[ab]
 have aT:∀j∈m.size::b,j<ab.size:=dE hS x1.aQ V
 refine(AF aT (by simp[u]) (I.ext x1) V).aP λ_ e⟨w,z,q,gd,aY,d2,f2⟩=>⟨f2.eV cB,w,q,?_⟩
 have z2:=f2.aQ
 have F2:=(x1.fz [c]).J f2
 have aw:dA (dB (m.size::b) e) w z:=by grind [Gr.cr,lg.aP,tB]
 intro m3 C
 obtain⟨x4,-,z4⟩:=nG (M:=e) (c:=m3) (a:=C) O O O
 have h:∀{g:bg},C.size<=g.size->∀j∈e.size::m.size::b,j<g.size:=by grind [dE]
 have LL:∀{g:bg},C.size<=g.size->∀v∈[e.size,m.size],v<g.size:=cB
 refine vh (S:=e.size::m.size::b) [1] 0 (h V) (LL V) cD O O λa1 x5 i1=>?_
 have z5:=x5.aQ
 refine vh (S:=e.size::m.size::b) [1,1] 1 (h V) (LL V) cD O O λa2 x6 i2=>?_
 have z6:=x6.aQ
 refine vh (S:=e.size::m.size::b) [1] 1 (h V) (LL V) cD O O λa3 x7 i3=>?_
 have z7:=x7.aQ
 refine vh (S:=e.size::m.size::b) [1,0] 1 (h V) (LL V) cD O O λa4 x8 i4=>?_
 have z8:=x8.aQ
 refine vh (S:=e.size::m.size::b) [2,1] 1 (h V) (LL V) cD O O λa5 x9 i5=>?_
 have z9:=x9.aQ
 refine vh (S:=e.size::m.size::b) [1,1] 0 (h V) (LL V) cD O O λa6 ao i6=>?_
 have AZ:=ao.aQ
 intro b1
 have y1:D a6 b1:=D.push _ _
 have X9:=x9.J ao;have X8:=x8.J X9;have X7:=x7.J X8;have X6:=x6.J X7
 have g1:tA (dB (e.size::m.size::b) b1) (.mk a6.size 0 6 6) aaY:=WR [(Ct [1] 0,.mk C.size 0 1 1),(Ct [1,1] 1,.mk a1.size 0 2 2),(Ct [1] 1,.mk a2.size 0 1 1),(Ct [1,0] 1,.mk a3.size 0 2 2),(Ct [2,1] 1,.mk a4.size 0 2 2),(Ct [1,1] 0,.mk a5.size 0 2 2)] (h V) (by simp;exact⟨i1.le X6.fj,i2.le X7.fj,i3.le X8.fj,i4.le X9.fj,i5.le ao.fj,i6⟩) bO O O
 have bv:b1.size=a6.size+1:=by simp[b1]
 refine vh (S:=e.size::m.size::b) [3] 0 (h V) (LL V) cD O O λc1 u1 j1=>?_
 have v1:=u1.aQ
 refine vh (S:=e.size::m.size::b) [0] 1 (h V) (LL V) cD O O λc2 u2 j2=>?_
 have v2:=u2.aQ
 refine vh (S:=e.size::m.size::b) [0,1] 1 (h V) (LL V) cD O O λc3 u3 j3=>?_
 have v3:=u3.aQ
 refine vh (S:=e.size::m.size::b) [3,0] 3 (h V) (LL V) cD O O λc4 u4 j4=>?_
 have v4:=u4.aQ
 refine vh (S:=e.size::m.size::b) [3] 1 (h V) (LL V) cD O O λc5 u5 j5=>?_
 have v5:=u5.aQ
 refine vh (S:=e.size::m.size::b) [1,3,0] 0 (h V) (LL V) cD O O λc6 u6 j6=>?_
 have v6:=u6.aQ
 intro b2
 have y2:D c6 b2:=D.push _ _
 have U5:=u5.J u6;have U4:=u4.J U5;have U3:=u3.J U4;have U2:=u2.J U3
 have g2:tA (dB (e.size::m.size::b) b2) (.mk c6.size 0 6 6) aa9:=WR [(Ct [3] 0,.mk b1.size 0 1 1),(Ct [0] 1,.mk c1.size 0 1 1),(Ct [0,1] 1,.mk c2.size 0 2 2),(Ct [3,0] 3,.mk c3.size 0 2 2),(Ct [3] 1,.mk c4.size 0 1 1),(Ct [1,3,0] 0,.mk c5.size 0 3 3)] (h V) (by simp;exact⟨j1.le U2.fj,j2.le U3.fj,j3.le U4.fj,j4.le U5.fj,j5.le u6.fj,j6⟩) bO O O
 have bw:b2.size=c6.size+1:=by simp[b2]
 refine vh (S:=e.size::m.size::b) [0] 0 (h V) (LL V) cD O O λe1 t1 k1=>?_
 have q1:=t1.aQ
 refine vh (S:=e.size::m.size::b) [0,0] 0 (h V) (LL V) cD O O λe2 t2 k2=>?_
 have q2:=t2.aQ
 refine vh (S:=e.size::m.size::b) [1,0] 0 (h V) (LL V) cD O O λe3 t3 k3=>?_
 have q3:=t3.aQ
 refine vh (S:=e.size::m.size::b) [0] 1 (h V) (LL V) cD O O λe4 t4 k4=>?_
 have q4:=t4.aQ
 intro b3
 have y3:D e4 b3:=D.push _ _
 have T3:=t3.J t4;have T2:=t2.J T3
 have g3:tA (dB (e.size::m.size::b) b3) (.mk e4.size 0 4 4) TS:=WR [(Ct [0] 0,.mk b2.size 0 1 1),(Ct [0,0] 0,.mk e1.size 0 2 2),(Ct [1,0] 0,.mk e2.size 0 2 2),(Ct [0] 1,.mk e3.size 0 1 1)] (h V) (by simp;exact⟨k1.le T2.fj,k2.le T3.fj,k3.le t4.fj,k4⟩) bO O O
 have bx:b3.size=e4.size+1:=by simp[b3]
 refine vh (S:=e.size::m.size::b) [] 0 (h V) (LL V) cD O O λM0 x0 n0=>?_
 have z0:=x0.aQ
 have ar:=((((u1.J U2).J y2)).J (t1.J T2)).J (y3.J x0)
 have XM:D C M0:=((x5.J X6).J y1).J ar
 have G1:=tA.le ar.fj g1
 have G2:=tA.le ((((t1.J T2)).J (y3.J x0)).fj) g2
 have aM:=tA.le x0.fj g3
 have dM:Rd c d (P+1) M0:=(d2.ext x4).ext XM
 have Y:∀{g:bg},C.size<=g.size->Lw c [e.size,m.size] g:=λr=>lw hr eX
 have l:∀{g M':bg}{v T:Nat},C.size<=v->v<g.size->Fz [c] g M'->aS M' v T=aS g v T:=λh1 h2 L=>bE (L.bG _ h2 cB) _
 refine(dX dM V _).aP λ_ m5⟨r1,en,bh,aG,d5,f5⟩=>⟨(Y V).eV f5,r1,en,bh,by simp at aG⊢;omega,?_⟩
 have ai:Le (dB (e.size::m.size::b) M0) (dB (e.size::m.size::b) m5):=f5.fj (by simp[u])
 have bG:=f5.aQ
 let⟨J,ay⟩:=dV aaY r1.toNat (by simp[aaY]at aG⊢;omega)
 obtain⟨_,⟨pa,pn,pk,pz,rfl,pi⟩,pr⟩:=(tA.le ai G1).kZ _ J ay
 have pg:=λs j r=>(iO.1 (pr s j r)).2
 refine⟨_,pg 0 _ O,_,pg 1 _ O,_,pg 2 _ O,_,pg 3 _ O,_,pg 4 _ O,?_⟩
 refine(dX d5 V _).aP λ_ m6⟨r2,en,bj,aI,d6,y⟩=>⟨(Y V).eV y,r2,en,?_⟩
 have bH:=y.aQ
 have aj:Le (dB (e.size::m.size::b) m5) (dB (e.size::m.size::b) m6):=y.fj (by simp[u])
 let⟨p2,az⟩:=dV aa9 r2.toNat (by simp[aa9]at aI⊢;omega)
 obtain⟨_,⟨qa,qn,qk,qz,rfl,qi⟩,qr⟩:=(tA.le (ai.J aj) G2).kZ _ p2 az
 have qg:=λs j r=>(iO.1 (qr s j r)).2
 refine⟨l V V y,l V V y,l V V y,l V V y,l V V y,bj,by simp at aI⊢;omega,_,qg 0 _ O,_,qg 1 _ O,_,qg 2 _ O,_,qg 3 _ O,_,qg 4 _ O,?_⟩
 refine(dX d6 V _).aP λ_ f⟨r3,en,bk,aJ,d7,p⟩=>⟨(Y V).eV p,r3,en,?_⟩
 have bI:=p.aQ
 have ak:Le (dB (e.size::m.size::b) m6) (dB (e.size::m.size::b) f):=p.fj (by simp[u])
 let⟨p3,aA⟩:=dV TS r3.toNat (by simp[TS]at aJ⊢;omega)
 obtain⟨_,⟨ra,rn,rk,rz,rfl,ri⟩,rr⟩:=(tA.le ((ai.J aj).J ak) aM).kZ _ p3 aA
 have rg:=λs j r=>(iO.1 (rr s j r)).2
 refine⟨l V V p,l V V p,l V V p,l V V p,l V V p,l V V p,l V V p,l V V p,l V V p,l V V p,bk,by simp at aJ⊢;omega,_,rg 0 _ O,_,rg 1 _ O,_,rg 2 _ O,_,rg 3 _ O,_,rg 4 _ O,?_⟩
 intro m8
 have aK:D f m8:=D.push _ _
 have a8:ba (dB (e.size::m.size::b) f) (.mk b3.size 0 0 0) []:=pX
 have gf:Gr (e.size::m.size::b) f m8 jf 5 Uf (.mk f.size 0 4 4) [(Ct [] 0,none),(J,none),(p2,none),(p3,none)]:=Gi Uf.aP (h V) jf [((Ct [] 0,none),[.s (.mk b3.size 0 0 0),.i 0,.i 0,.i 0,.s .nil]),((J,none),[.s pa,.i J.bQ,.i pn,.i pk,.s pz]),((p2,none),[.s qa,.i p2.bQ,.i qn,.i qk,.s qz]),((p3,none),[.s ra,.i p3.bQ,.i rn,.i rk,.s rz])] (by simp;exact⟨⟨_,_,_,_,O,a8,bO⟩,⟨_,_,_,_,O,pi.le (aj.J ak),bO⟩,⟨_,_,_,_,O,qi.le ak,bO⟩,⟨_,_,_,_,O,ri,bO⟩⟩) O O
 have s8:m8.size=f.size+1:=by simp[m8]
 let t:=[Ct [] 0,J,p2,p3]
 have aQ:∀aa∈t,(aa.aY,aa.bQ)∈Um:=by
  simp only[t,bo,nh,Ga];rintro aa (rfl|rfl|rfl|rfl)
  .simp[Ct,Um]
  .exact VW.1 _ (aZ ay)
  .exact VW.2.1 _ (aZ az)
  .exact VW.2.2 _ (aZ aA)
 have aL:Fz [c] e f:=(((x4.J XM).fz [c]).J f5).J (y.J p)
 have bd:∀{g:bg}{ad:E}{o:List (eG×Option Ex)}(T:Nat)(K:ae),Gr (e.size::m.size::b) f g jf 5 Uf ad o->Gr (e.size::m.size::b) f (aV g e.size T K) jf 5 Uf ad o:=λT K G=>G.Sn Uf.aP ((Fz.cU [e.size] _).aV (bC bO) T K) bO (by have:=G.cJ;simp;omega)
 intro m9
 have g9:Gr (e.size::m.size::b) f m9 jf 5 Uf (.mk f.size 0 4 4) [(Ct [] 0,none),(J,none),(p2,none),(p3,none)]:=by grind [Array.size]
 have r9:Rs c d e (P+4) m9:=(Rs.mk (aL.cg aK) (d7.ext aK)).cG d2 bY 1 [.s (.mk f.size 0 4 4)]
 have s9:m9.size=m8.size:=bD _ _ _ _
 intro aD
 have af:D m9 aD:=D.push _ _
 have bb:ba (dB [c] aD) (.mk m9.size 0 5 5) [4,4,3,2,4]:=ba.km bB eX O O bO
 have bF:=af.aQ
 refine(og (r9.r.ext af) V bb bO).aP λ_ bs⟨mn,en,a7,aN,ag⟩=>⟨(Y V).eV ag,mn,en,?_⟩
 have bq:2<=mn/\mn<=4:=by simp at a7;omega
 obtain⟨n,rfl⟩:∃n:Nat,mn=n:=⟨mn.toNat,V⟩
 have aW:E.cut (.mk f.size 0 4 4) 0 (Int.toNat n) 5=.mk f.size 0 n 4:=by simp[E.cut]
 rw[aW]
 refine⟨cD,V,eX,?_⟩
 intro ac
 have aP:Gr (e.size::m.size::b) f ac jf 5 Uf (.mk f.size 0 n 4) ([(Ct [] 0,none),(J,none),(p2,none),(p3,none)].take n):=Gr.afh cD (bd 1 [.s (.mk f.size 0 n 4)] ((g9.ext Uf.aP af).fR Uf.aP ag (by simp[u];omega))) V
 have bi:Rs c d e (P+5) ac:=((r9.ext af).to ag aN).cG d2 bY 1 [.s (.mk f.size 0 n 4)]
 clear_value ac
 have aB:(t.take n).length=n:=by simp[t];omega
 have gp:GP z (t.take n):=⟨aY,V,V,λaa i=>aQ aa (gW i)⟩
 have ew:eJ ((n:Int) -1)=n -1:=de V V
 rw[ew]
 refine⟨λL g=>∃(i:Nat)(o:List (eG×Option Ex)),L=(i:Int) -1/\i<=n/\Gr (e.size::m.size::b) f g jf 5 Uf (.mk f.size 0 n 4) o/\o.map (·.1)=t.take n/\(∀(s:Nat)(x:eG×Option Ex),o[s]? =some x->i<=s->∃q,x.2=some q/\Fit z n x.1.aY.length q)/\Rs c d e (P+5+(n -i)*(300+40*Cg 18)) g/\ac.size<=g.size,λL _=>(L+1).toNat,⟨n,_,O,bY,aP,by rw[List.map_take];rfl,λs x A r=>by have:=br A;simp at this;omega,by rw[VE,Nat.zero_mul];exact bi,bY⟩,?_⟩
 rintro L g ⟨i,o,rfl,bp,G,hl,al,U,zM⟩
 have a0:o.length=n:=by rw[<-aB,<-hl];simp
 have gy:=G.cJ
 simp only[E.lT]at gy
 have av:f.size∉e.size::m.size::b:=λr=>by have:=h (g:=C) bY _ r;omega
 refine dit (λr=>?_) λr=>?_
 .obtain⟨i,rfl⟩:∃B,i=B+1:=⟨i -1,V⟩
  have ek:((i+1:Nat):Int) -1=(i:Int):=V
  rw[ek]
  let⟨x,Q⟩:=dV o i
  have am:(t.take n)[i]? =some x.1:=by rw[<-hl];simp[Q]
  have a_:tA (dB [c] g) (.mk f.size 0 n 4) (t.take n):=by
   have H:=G.rU Uf.aP av cD V;rw[<-hl];refine⟨eX,H.ms,H.kK,λB aq hy=>?_⟩;simp only[eE,jT]at hy;obtain⟨W,R,rfl⟩:=hy;obtain⟨K,⟨F,i1,i2,i3,rfl,Z,-⟩,an⟩:=H.kZ B W R;have aC:=mS g (S:=e.size::m.size::b) (c:=[c]) (by simp[u]);exact⟨_,⟨F,_,_,_,O,Z.le aC⟩,aC.kZ an⟩
  have aX:dA (dB [c] g) w z:=aw.le ((mS e (c:=[c]) (by simp[u])).J (fh U.f))
  have hB:(n -(i+1))*(300+40*Cg 18)+(300+40*Cg 18)=(n -i)*(300+40*Cg 18):=by rw[<-DJ];congr 1;omega
  have aR:(n -i)*(300+40*Cg 18)<=4*(300+40*Cg 18):=fE _ V
  have a9:i=0->x.1.aY.length=0:=λI=>by subst I;obtain⟨n',rfl⟩:∃n',n=n'+1:=⟨n -1,V⟩;simp[t]at am;rw[<-am];rfl
  have aU:∀j∈f.size::e.size::m.size::b,j<g.size:=dE (h (g:=g) V) bY gy.2
  refine XP.kk (RC (f:=f.size::e.size::m.size::b) aU (by simp[u]) ⟨U.r,aX,a_,gp⟩ V am a9) (Y V) λad q M1 hs N aO ah=>?_
  have bz:=ah.aQ
  intro bc aE
  obtain⟨ap,-,bA⟩:=nG (M:=M1) (c:=bc) (a:=aE) O O O
  have au:=(G.fR Uf.aP ah (by simp[u];omega)).ext Uf.aP ap
  obtain⟨K,⟨F,i1,i2,i3,rfl,Z,-⟩,mu⟩:=au.jI Q
  have be:=mu 0 _ O;have bf:=mu 1 _ O
  refine⟨V,eX,F,be,V,eX,_,bf,V,eX,?_⟩
  obtain⟨wr,gs,-,bt⟩:=au.dY Uf.aP (X:=List.range f.size) ⟨V,λv hb hn=>absurd (qY.2 hb) hn⟩ (k:=i) V (a:=(x.1,some q)) (cs:=[.s F,.i x.1.bQ,.i q.op,.i q.cE,.s ad]) ⟨F,_,_,_,O,Z,λe' ax=>by simp at ax;subst ax;exact⟨O,O,jz.le ap.fj hs⟩⟩
  refine⟨wr,?_⟩
  intro ax
  have bu:ax.size=aE.size:=bD _ _ _ _
  have aH:Rs c d e (P+5+(n -(i+1))*(300+40*Cg 18)+300+40*Cg 18) ax:=((U.to ah aO).ext ap).cG d2 (by show e.size<=f.size;omega) _ _
  refine⟨λv hb=>cq _ _ _ _ (by simp at hb;show v≠f.size;omega),⟨i,o.set i (x.1,some q),de V V,V,gs,?_,λs aq A bm=>?_,⟨aH.f,aH.r.aP V⟩,V⟩,?_⟩
  .rw[No,TD (by simp[Q]),hl]
  .rw[Il]at A
   split at A
   .rename_i e';subst e';rw[bn V]at A;simp at A;subst A
    have:(t.take n).length=n:=aB
    grind
   .exact al s aq A V
  .rw[de V V];show((i:Int) -1+1).toNat<((i:Int)+1).toNat;omega
 .have I:i=0:=V
  subst I
  have ah:Le (dB (e.size::m.size::b) g) (dB b (aV g m.size 0 [.s w,.s (.mk f.size 0 n 4)])):=dW bO λj hc=>by simp[hc]
  have H:=G.rU Uf.aP av cD V
  have aR:(n -0)*(300+40*Cg 18)<=4*(300+40*Cg 18):=fE _ V
  have A:Rs c d m (P+5+(n -0)*(300+40*Cg 18)) g:=⟨F2.J U.f,U.r⟩
  have A:=A.cG I bY 0 [.s w,.s (.mk f.size 0 n 4)]
  have ap:(o.map λx=>(x.1,x.2.getD (.mk 0 0 []))).map (·.1)=t.take n:=by rw[List.map_map,<-hl];rfl
  refine⟨w,.mk f.size 0 n 4,z,o.map λx=>(x.1,x.2.getD (.mk 0 0 [])),O,aw.le ((U.f.fj (by simp[u])).J ((dW bO λj hc=>by simp[hc]))),⟨eX,H.ms,H.kK,λB aq hy=>?_⟩,⟨by rw[ap];exact gp,λx Q=>?_⟩,A.r.aP V,A.f⟩
  .simp only[eE,jT]at hy
   obtain⟨W,R,rfl⟩:=hy
   let⟨q,N,hf⟩:=al B W R (iD _)
   obtain⟨K,⟨F,i1,i2,i3,rfl,Z,hb⟩,an⟩:=H.kZ B W R
   obtain⟨rfl,rfl,am⟩:=hb q N
   exact⟨_,⟨F,i3,by simp[N],Z.le ah,by simp only[N,uj];exact jz.le ah am⟩,ah.kZ an⟩
  .simp only[gK]at Q
   obtain⟨W,R,rfl⟩:=Q
   let⟨B,F⟩:=cH.1 R
   let⟨q,N,hf⟩:=al B W F (iD _)
   simp only[N,uj,jX,a0];exact hf
end
@[grind cases] structure Pp (S:ad) (m0 m:bg) (lb:Nat) (s:E) (l:au) (sc:Nat):Prop where
 bV:dF m lb rq [.s s,.i sc]
 gr:GS (lb::S) m0 m s l
 up:m0.size<=lb
def Pp.ext{S:ad}{c m b:bg}{a d:Nat}{s:E}{l:au}(h:Pp S c m a s l d)(x:D m b):Pp S c b a s l d:=⟨h.bV.ext x,h.gr.ext kd.aP x,h.up⟩
def Pp.ne{S:ad}{b m:bg}{a c:Nat}{s:E}{l:au}(h:Pp S b m a s l c):s.bz≠a:=h.gr.ne h.bV cD
def LoP(S:ad)(f m:bg)(c:Nat)(s:E)(P:au->Nat->Prop)(d:bg):Prop:=∃a b e,Pp S f d c a b e/\P b e/\Fz [c,s.bz] m d/\(a.bz=s.bz\/m.size<=a.bz)
def QF{S:ad}{j d:bg}{b e:Nat}{s p y:E}{l:au}{x:eN}(k:Pp S j d b s l e)(w:j.size<=d.size)(L:ba (dB (s.bz::b::S) d) p x.aO)(M:rQ (dB (s.bz::b::S) d) y x.dv)(n:l.length<=1000000)(X:e<=1000000):
 bK dO 318 [vp b 0,tp x p y] d λR P=>R=vi (e:Nat)/\LoP S j d b s (λa c=>a=l++[x]/\c=e+1) P:=by
 apply AJ (b,0)
 simp -zeta only[dR]
 intro G
 obtain⟨h,s1⟩:=pu G
 have i:=k.ext h
 have F:=i.bV.lt
 have W:=k.bV.lt
 have Z:=k.gr.cJ
 refine⟨s,i.bV.dx 0,?_⟩
 intro Q
 have H:=px Q
 refine⟨bE (H.bG _ F) _,?_⟩
 have g1:GS (b::S) (d.extract 0 j.size) G s l:=Gr.cW kd.aP i.gr (λI n=>bC n) (by rw[vf w];exact bY)
 refine Gr.nE kd.aP cD g1 (((D.Rc w).J h).fz []) ⟨p,y,O,L.le h.fj,fX.le M h.fj λ_ _=>vx.le h.fj⟩ V λr z B U T A=>?_
 have u:=i.bV.congr (A b F (th i.ne))
 have N:=B.ne u cD
 refine⟨λc a=>?_,u.jb bO,?_⟩
 .simp at a;subst a
  rw[A d.size V V,H.bG _ V]
 intro g
 have v:dF g b rq [.s r,.i e]:=dF.aV (m:=z) u
 have q:∀c,c≠b->g[c]? =z[c]? :=λc a=>cq _ _ _ _ a
 have s4:g.size=z.size:=bD _ _ _ _
 have J:eJ ((e:Int)+1)=(e+1:Nat):=by rw[iz];rfl
 refine⟨λc a=>q c (by simp at a;omega),_,v.dx 1,v.jb bO,?_⟩
 rw[J]
 intro o
 have C:dF o b rq [.s r,.i (e+1:Nat)]:=dF.aV (m:=g) v
 have t:∀c,c≠b->o[c]? =g[c]? :=λc a=>cq _ _ _ _ a
 have s5:o.size=g.size:=bD _ _ _ _
 refine⟨λc a=>t c (by simp at a;omega),_,C.dx 1,?_⟩
 have K:GS (b::S) j o r (l++[x]):=by
  refine Gr.cW kd.aP (B.re kd.aP (Y:=[b]) ⟨V,λc a f=>?_⟩ bO (by simp;exact N) λc a=>bC a) (λI n=>bC n) (by rw[vf w];exact bY);have:c≠b:=sp f;exact(t c this).trans (q c this)
 refine⟨by rw[iz];congr 1;omega,r,_,_,⟨C,K,k.up⟩,⟨O,O⟩,⟨V,λc a f=>?_⟩,oh T.2⟩
 simp only[bo,nh,Ga,FZ]at f
 rw[t c f.1,q c f.1,A c V f.2,h.bG c a]
section
variable{K b e d:Nat}{a:au}
@[grind cases] structure LW (ds:af) (nf sc:Nat) (nw:au) (K D sc':Nat):Prop where
 wl:WL ds nf False sc nw
 dd:sc'=sc+dc nw
 sz:sw nw<=K
 p7:sc'<=sc+D
def LW.cU(b:af)(c a:Nat):LW b c a [] 0 0 a:=⟨.gN,bO,bO,V⟩
theorem LW.iU{c:af}{f g i:Nat}(h:LW c f g a K b i)(k:K<=e)(j:b<=d):LW c f g a e d i:=⟨h.wl,h.dd,oh h.sz,oh h.p7⟩
def LW.J{c:af}{f h i j:Nat}{g:au}(k:LW c f h a K b i)(l:LW c f i g e d j):LW c f h (a++g) (K+e) (b+d) j:=
 by constructor<;>grind [LW.wl,WL.fx,LW.dd,fg,LW.sz,gF,LW.p7]
def LW.mM{b:af}{c a:Nat}{x:eN}(h:WS b c False a x):LW b c a [x] x.w 1 (a+1):=by constructor<;>grind [WL.mM,nM,xk,dn1,sw]
section
variable{S:ad}{f m g:bg}{c h k:Nat}{s j:E}{l i:au}
def Pp.kA(a:Pp S f m c s l h)(d:D f m)(b:Fz [c,s.bz] m g):D f g:=by
 constructor<;>grind [Pp.gr,Gr.cJ,Pp.up,Fz.ext,D.fz,E.bz,Fz.J,Fz.Ij]
def Pp.re{S' Y:ad}(a:Pp S f m c s l h)(i:Fz Y m g)(e:∀b∈Y,b∈S/\b≠c/\b≠s.bz)(d:∀b∈S',b∈S\/m.size<=b):Pp S' f g c s l h:=
 by constructor<;>grind [Pp.bV,dF.congr,Fz.bG,dF.lt,Pp.gr,Gr.re,kd.aP,List.mem_cons_of_mem,List.mem_cons_self,Pp.up]
end
@[grind cases] structure LS (S:ad) (m0 m:bg) (lb:Nat) (s:E) (l:au) (sc:Nat) (Rm:E) (ev:ab):Prop where
 em:Pp S m0 m lb s l sc
 x:D m0 m
 kA:∀c∈S,c<m.size
 Rm:ba (dB [s.bz,lb] m) Rm ev
 sm:∀y∈ev,0<=y/\y<(sc:Int)
def exV(e:Ex)(t:E):Value:=.agg #[vi e.op,vi e.cE,t.v]
def aaB(b:af)(h:Nat)(e:Ex):Prop:=∀(S:ad)(c m:bg)(d:Nat)(s:E)(l:au)(f:Nat)(Rm:E)(ev:ab)(g p t:E),LS S c m d s l f Rm ev->WX b h ev.length e->f+4*e.n<=2000->ev.length+4*e.n<=2000->l.length+4*e.n<=2000->dA c g b->eR b->jz c t e.dv->
 bK dO 285 [vp d 0,.agg #[g.v,p.v],exV e t,Rm.v] m λv k=>∃r:Int,v=vi r/\LoP S c m d s (λj i=>∃a,j=l++a/\LW b h f a (3*e.n -1) e.n i/\0<=r/\r<(i:Int)) k
def ae6(a:af)(f:Nat)(e:Ex):Prop:=∀(S:ad)(m:bg)(b:Nat)(Rm:E)(ev:ab)(d p t:E),(∀c∈S,c<m.size)->ba m Rm ev->(∀y∈ev,0<=y/\y<(b:Int))->WX a f ev.length e->b+4*e.n<=2000->ev.length+4*e.n<=2000->dA m d a->eR a->jz m t e.dv->
 rG 256 [.agg #[d.v,p.v],exV e t,Rm.v,vi b] m S λc=>WB a f False b c/\c.w<=3*e.n
def _root_.Go.Vc.Ex.So(e:Ex):1<=e.n:=by rw[Ex.ad5];omega
def HZ{s:af}{v:Nat}{i:Ex}(j:aaB s v i):ae6 s v i:=by
 intro g u n Rm ev B T Y G J L N ac Z hd M K;apply Du;simp -zeta only[dR];intro Q d b c e;let⟨h,hl,s1,s2,s3⟩:=um (a:=Q) (c:=d) (d:=b) O O O;obtain⟨p,X⟩:=pu c;have F:GS ((b.size+1)::d.size::g) b c (.mk b.size 0 0 0) []:=by grind [Gr.bF]
 have f:=px e;have y:dF e c.size rq [.s (.mk b.size 0 0 0),.i n]:=dF.push _ _ _;have q:=(h.J p).J f;have z5:=f.aQ;have H:∀r∈d.size::g,r<e.size:=dE G q.aQ V;have P:Pp (d.size::g) b e c.size (.mk b.size 0 0 0) [] n:=⟨y,X▸F.ext kd.aP f,V⟩;have hp:=i.So;refine(j (d.size::g) b e c.size _ [] n Rm ev B T Y ⟨P,p.J f,H,(J.le (((h.J p).J f).dB (S:=[]) eX|>λj=>(EB (m:=u)).J j)),L⟩ N V V cB (hd.le h.le) M (jz.le h.le K)).aP λae R⟨w,E,x,l,ad,o6,⟨a,C,o,U,W⟩,t,b6⟩=>?_;subst C;have z:D u R:=Fz.ext (((q.fz [c.size,b.size]).J t).Ij λA k=>by simp at k;omega);refine⟨t.eV λA k=>by simp at k;simp;omega,w,E,x,o6.bV.dx 0,?_⟩;intro m7;have hz:=o.sz;have aa:=jS l;refine⟨x,.mk l w,O,iN.le (dW bO λr I=>by simp[I]) (o6.gr.rU kd.aP (λI=>?_) cD (by show l.length<=_;omega)),⟨WB.of o.wl ⟨U,by rw[<-o.dd];exact W⟩,by rw[Bk.vu];omega⟩,z.aV V _ _⟩;have hy:=o6.gr.cJ;have ab:=o6.ne;grind
end
section
variable{M c:bg}{a o:Nat}
def UB{m:bg}{t:E}{l:ax}(h:jz m t l){k:Nat}{x:Ex}(a:l[k]? =some x)(b:D m M):∃u,jz m u x.dv/\aS M t.bz (t.off+k*3)=some (vi x.op)/\aS M t.bz (t.off+k*3+1)=some (vi x.cE)/\aS M t.bz (t.off+k*3+2)=some u.v:=
 by grind [jz.bt,D.aS]
def gx(x:D M c){v:Value}(h:aS M a o=some v):aS c a o=aS M a o:=by rw[x.aS h,h]
def gl(x:D M c)(h:a<M.size):aS c a o=aS M a o:=bE (x.bG a h) o
def ZU{q:af}{nf:Nat}{p cE:Int}{dv:ax}(ih:∀u∈dv,aaB q nf u):aaB q nf (.mk p cE dv):=by
 intro v Z F d B aa sc Rm ev ai aj bh e hw be a6 bc hd ht hk;have N:=hw.cy;simp only[exV,Ex.abS,Ex.Z1,Ex.XB,Ex.Yz]at*;apply yC (d,0);simp -zeta only[dR];intro am s;let⟨H,hl⟩:=fU (a:=am) (c:=s) O O;have s1:=pz am;have s2:s.size=F.size+2:=by simp[s,s1]
 have aG:=hk.aT;have a_:=hk.kK;have bb:=e.em.bV.lt;have h:=e.em.gr.cJ;have fj:∀{M:bg}{f:E},Fz [d,B.bz] F M->(f.bz=B.bz\/F.size<=f.bz)->Le (dB [B.bz,d] F) (dB [f.bz,d] M):=λab g=>tG λa aw hn=>by
  simp at hn;exact⟨by simp;rcases g with u|u<;>omega,ab.bG a aw eX⟩
 have st:∀{ao:ad}{M:bg}{f:E}{l':au}{G:Nat},Pp ao Z M d f l' G->Fz [d,B.bz] F M->(f.bz=B.bz\/F.size<=f.bz)->(∀l∈ao,l<M.size)->sc<=G->LS ao Z M d f l' G Rm ev:=λo ab g hS hs=>⟨o,e.em.kA e.x ab,hS,e.Rm.le (fj ab g),λy h=>⟨(e.sm y h).1,oh ((e.sm y h).2)⟩⟩;have eV:∀{M c:bg}{f:E},s.size<=M.size->(f.bz=B.bz\/s.size<=f.bz)->Fz [d,f.bz] M c->gS [am.size,F.size] M c:=λhz g ab=>ab.eV λa aw=>by simp at aw;simp;omega
 have ah:∀{M c:bg},s.size<=M.size->D M c->gS [am.size,F.size] M c:=λhz a2=>a2.eV λa g=>by simp at g;omega
 have fr:∀{M c:bg}{f:E},Fz [d,B.bz] F M->(f.bz=B.bz\/s.size<=f.bz)->Fz [d,f.bz] M c->Fz [d,B.bz] F c:=λab g L=>ab.vV L λy h=>by simp at h⊢;omega
 refine⟨λak=>?_,λak=>⟨λag=>?_,λag=>⟨λal=>?_,λal=>?_⟩⟩⟩
 .simp only[bP]at ak;let⟨j,r⟩:=N.1.var ak;have k:=e.Rm.aT;let⟨y,w⟩:=dV ev cE.toNat;have i:=e.sm y (aZ w);exact⟨j,V,y,(iO.1 ((e.Rm.le H.fj).bt w)).2,y,O,B,aa,sc,e.em.ext H,⟨[],bO,(LW.cU q nf sc).iU V V,i⟩,H.fz _,bC O⟩
 .simp only[bP]at ag;have h2:=N.1.Nk ag;let⟨U,W⟩:=dV dv 0;let⟨j,i⟩:=dV dv 1;have aD:en dv=U.n+j.n:=by
   obtain⟨z,a,rfl⟩:∃z a,dv=[z,a]:=by
    match dv,h2 with
    |[z,a],_=>exact⟨z,a,O⟩
   simp at W i;subst W i;simp[en]
  have p0:=U.So;have p1:=j.So;let⟨u0,az,g0,g1,g2⟩:=UB hk W (e.x.J H);refine⟨cD,V,_,g0,_,g1,_,g2,?_⟩;have S2:=st (e.em.ext H) (H.fz _) (bC O) (λl r=>oh (e.kA l r)) bY;refine(ih U (aZ W) v Z s d B aa sc Rm ev ai aj u0 S2 (by have:=N.2 0 U W;simpa[xb]using this) V V V hd ht az).aP λT t⟨Q,aq,I,l3,R,o3,⟨ae,ap,w3,a0,a1⟩,f3,b3⟩=>⟨eV bY (bC O) f3,Q,aq,?_⟩;subst ap;have F3:=fr (H.fz _) (bC O) f3;have z3:=f3.aQ;have X3:=e.em.kA e.x F3;let⟨u1,ar,k0,k1,k2⟩:=UB hk i X3;have aM:=w3.p7;have aT:=jS ae;have aY:=w3.sz;refine⟨cD,V,_,k0,_,k1,_,k2,?_⟩;have S3:=st o3 F3 V (λl r=>oh (e.kA l r)) (oh w3.dd);have A:∀l∈[I.bz,d],l<t.size:=λl r=>by have:=o3.gr.cJ;have:=o3.bV.lt;simp at r;omega
  intro P;have k:=px P;have av:ba (dB [I.bz,d] P) (.mk t.size 0 1 1) [Q]:=ba.km bB A O O bO;refine⟨gx k k0,gx k k1,gx k k2,gl k V,gl k V,gl k V,?_⟩;have z4:=k.aQ;refine(iL (S:=[I.bz,d]) (λl r=>k.lt (A l r)) (S3.Rm.le k.fj) av eX).aP λT m5⟨J,l5,e5,g5,q5,C⟩=>⟨ah V C,J,e5,gx C (k.aS k0),gx C (k.aS k1),gx C (k.aS k2),gl C V,gl C V,gl C V,?_⟩;subst q5;have z5:=C.aQ;have S5:LS v Z m5 d I (aa++ae) R J (ev++[Q]):=⟨(o3.ext k).ext C,(X3.J k).J C,λl r=>oh (e.kA l r),GI.cr g5 (λl r=>k.lt (A l r)) eX,λy h=>by
   rcases bU.1 h with h|h
   .have:=e.sm y h;have:=w3.dd;omega
   .simp at h;omega⟩
  refine(ih j (aZ i) v Z m5 d I (aa++ae) R J (ev++[Q]) ai aj u1 S5 (by have:=N.2 1 j i;simpa[xb,ag]using this) V eX eX hd ht ar).aP λT m6⟨r1,an,s6,l6,aC,o6,⟨ay,ac,w6,aA,aB⟩,K,b6⟩=>⟨eV V V K,r1,an,r1,O,s6,l6,aC,o6,⟨ae++ay,by rw[ac,nB],(w3.J w6).iU V V,aA,aB⟩,fr ((F3.cg k).cg C) V K,V⟩
 .simp only[eH,bP]at al;have h3:p=7->dv.length=3:=N.1.aeK;have av:p=8->dv.length=1+(cT q cE).length/\0<(cT q cE).length:=N.1.lY;have aQ:1<=dv.length:=by rcases al with i|i;have:=h3 i;omega;have:=av i;omega
  let⟨U,W⟩:=dV dv 0;have a7:en (dv.take 1)=U.n:=by have:=OY W;simpa using this
  have a8:=Xv dv 1;have p0:=U.So;let⟨u0,az,g0,g1,g2⟩:=UB hk W (e.x.J H);refine⟨cD,V,_,g0,_,g1,_,g2,?_⟩;have S2:=st (e.em.ext H) (H.fz _) (bC O) (λl r=>oh (e.kA l r)) bY;refine(ih U (aZ W) v Z s d B aa sc Rm ev ai aj u0 S2 (by have:=N.2 0 U W;simpa[xb]using this) V V V hd ht az).aP λT t⟨Q,aq,I,l3,R,o3,⟨ae,ap,w3,a0,a1⟩,f3,b3⟩=>⟨eV bY (bC O) f3,Q,aq,?_⟩;subst ap;have F3:=fr (H.fz _) (bC O) f3;have z3:=f3.aQ;have X3:=e.em.kA e.x F3;have aM:=w3.p7;have aT:=jS ae;have aY:=w3.sz;have S3:=st o3 F3 V (λl r=>oh (e.kA l r)) (oh w3.dd);have ar:∀l∈I.bz::d::v,l<t.size:=dE (dE (m:=F) e.kA V o3.bV.lt) bY o3.gr.cJ.2;intro P;obtain⟨k,s4⟩:=pu P;have g4:GB (I.bz::d::v) t P (.mk t.size 0 0 0) []:=GB.bF t;refine(kQ (e:=[t.size]) eX (hd.le (X3.J k).le) ht cE).aP λT m5⟨cs,cl,ec,r,qc,C⟩=>⟨ah V C,cs,ec,?_⟩;subst qc;have a5:=r.aT;have z5:=C.aQ;refine Wg (g:=dv.length) (aG▸hk.kK) aQ (λj ks M=>∃A,GB (I.bz::d::v) t M ks A/\A.length+1=j/\(∀(ac:Nat)(a:Bk),A[ac]? =some a->WB q nf False (R+Gc q p cE ac) a)/\bw A+3*U.n<=3*en (dv.take j)/\D t M/\Fz [t.size] m5 M/\(ks.bz=t.size\/m5.size<=ks.bz)) ⟨[],g4.ext vx.aP C,O,bO,eX,k.J C,nP,bC O⟩ ?_;rintro j ks M aJ μ a9 hj ⟨A,L,aS,aH,aN,xM,fM,aF⟩ aA
  have zM:=xM.aQ;have aE:=L.cJ;have oM:=o3.bV.ext xM;refine dit (λi=>?_) λi=>?_
  .have ew:eJ ((j:Int) -1)=((j -1:Nat):Int):=by rw[iz];omega
   refine⟨λaI c=>D M c/\aI=(Gc q p cE (j -1):Nat),⟨λh8=>?_,λh8=>⟨cY,by simp only[bd]at h8;rw[Py h8];rfl⟩⟩,?_⟩
   .simp only[bP]at h8;have ha:=av h8;let⟨y,w⟩:=dV (cT q cE) (j -1);rw[ew];refine⟨V,V,y,(iO.1 ((r.le (fM.fj bO)).bt w)).2,?_⟩;refine(fV (e:=[]) (hd.le ((X3.J xM).le.J EB)) ht y).aP λT m6⟨K,l6,e6,h6,q6,J⟩=>⟨ah V J,K,e6,J,?_⟩;subst q6;rw[Px h8 w,h6.aT]
   rintro aI m6 ⟨J,rfl⟩;let⟨u,he⟩:=dV dv j;have X6:=(X3.J xM).J J;let⟨aC,hu,k0,k1,k2⟩:=UB hk he X6;have B6:=oM.ext J;have z6:=J.aQ;refine⟨V,V,_,k0,_,k1,_,k2,_,B6.dx 1,_,B6.dx 1,?_⟩;have a3:=V0 ht p cE (j -1);have aP:=OY he;have aO:=Xv dv (j+1);have aU:=u.So;refine(pE (S:=[]) (d:=m6) bO R (Gc q p cE (j -1)) V).aP λT m7⟨s7,l7,e7,g7,q7,w⟩=>⟨ah V w,s7,e7,gx w (B6.dx 1),gx w k0,gx w k1,gx w k2,gl w V,gl w V,gl w V,?_⟩;have z7:=w.aQ;have aL:ba (dB [] m7) Rm ev:=(S3.Rm.le ((((xM.J J).J w).fj).J fN)).le EB;refine(iL (S:=[]) bO aL (GI.cr g7 bO V) V).aP λT m8⟨s8,l8,e8,g8,q8,K⟩=>⟨ah V K,s8,e8,gx K ((B6.ext w).dx 1),gx K (w.aS k0),gx K (w.aS k1),gx K (w.aS k2),gl K V,gl K V,gl K V,?_⟩;subst q8;have z8:=K.aQ;have aR:(ev++l7).length=ev.length+Gc q p cE (j -1):=by simp;exact q7.2
   rw[de (b:=(R:Int)+(Gc q p cE (j -1):Nat)) V V,show(R:Int)+(Gc q p cE (j -1):Nat)=((R+Gc q p cE (j -1):Nat):Int)by omega];have an:=(J.J w).J K;have aV:WX q nf (ev++l7).length u:=by
    have:=N.2 j u he;rw[aR];obtain⟨j',rfl⟩:∃j',j=j'+1:=⟨j -1,V⟩;have aK:xb q p cE (j'+1)=Gc q p cE j':=aW (sp ag);rwa[aK]at this
   refine(HZ (ih u (aZ he)) (ks.bz::I.bz::d::v) m8 _ s8 (ev++l7) ai aj aC (dE (λl r=>oh (ar l r)) bY V) ((GI.cr g8 bO V).le fN) (λy h=>?_) aV V V (hd.le ((X6.J w).J K).le) ht (jz.le ((X6.J w).J K).le hu)).aP λT m9⟨s9,b9,e9,h9,q9,x9⟩=>⟨ah V x9,s9,_,e9,?_⟩
   .rcases bU.1 h with h|h
    .have:=S3.sm y h;omega
    .have:=q7.1 y h;omega
   intro bf;have z9:=x9.aQ;have a4:=xf A;refine GB.nE (c:=b9) ((L.ext vx.aP an).ext vx.aP x9) (((xM.J an).J x9).fz []) h9 V λaB c g' f' z' q'=>⟨λa g=>by
    have aD:a<t.size:=by simp at g;omega
    rw[f'.ext.bG a aD,(((xM.J an).J x9).bZ _).bG a aD],aA V _ _ ⟨_,g',by rw[dH,List.length_singleton];omega,λac a hi=>?_,?_,f'.ext,(fM.cg (an.J x9)).vV (Y:=[ks.bz]) ⟨z'.1,λa g hn=>q' a g (sp hn)⟩ (λy h=>by simp at h⊢;omega),oh fM.aQ⟩⟩
   .rcases dJ ac A.length with ay|ay
    .rw[dZ ay]at hi;exact aH ac a hi
    .rw[dP ay]at hi;have:ac -A.length=0:=by have:=br hi;simp at this;omega
     rw[this]at hi;simp at hi;subst hi;have:ac=j -1:=V;subst this;exact q9.1
   .rw[sV,yO,Ea];have:=q9.2;omega
  .have K:j=dv.length:=V;subst K;rw[fw]at aN;intro m6;have J:=px m6;have aI:ba (dB (I.bz::d::v) m6) (.mk M.size 0 1 1) [Q]:=ba.km bB (λl r=>oh (ar l r)) O O bO;have z6:=J.aQ;have aF:rQ (dB (I.bz::d::v) m6) ks A:=rQ.le J.fj (L.cr vx.aP ar cD (oh (xf A)));have X6:=xM.J J;refine(QF (x:=⟨p,cE,0,[Q],A⟩) (o3.ext X6) (X3.J X6).aQ aI aF eX V).aP λT m7⟨aD,s7,l7,aK,o7,⟨an,ay⟩,w,b7⟩=>⟨eV V V w,R,aD,R,O,s7,l7,aK,o7,⟨ae++[⟨p,cE,0,[Q],A⟩],by rw[an,nB],?_,V,V⟩,fr (F3.cg X6) V w,V⟩;have ws:WS q nf False R ⟨p,cE,0,[Q],A⟩:=⟨⟨bC (by show 0<=p/\p<=11;omega),eX,λ_=>O,⟨by show(0:Int)<=0;omega,by show(0:Int)<=_;omega⟩,λi=>by show A.length=2;have:=h3 i;omega,λi=>by show A.length=(cT q cE).length/\0<A.length;have:=av i;omega,λi=>by simp only at i;omega⟩,aH⟩;subst ay;exact(w3.J (LW.mM ws)).iU (by rw[eN.pP];simp only[dz,kU];omega) V
 .simp only[cV,bd]at al;simp only[bd]at ak ag;have ho:=N.1.o;intro t;have x3:=px t;have g3:GI [] s t (.mk s.size 0 0 0) []:=GI.gN [] s;have aF:t.size=s.size+1:=by simp[t]
  have o3:Pp (s.size::v) Z t d B aa sc:=(e.em.ext H).re (x3.fz []) bO λa g=>(bo.1 g).elim (λi=>bR V) bC;refine gL (n:=dv.length) (aG▸hk.kK) (λj z M=>∃f G r l,Pp (z.bz::v) Z M d f (aa++r) G/\LW q nf sc r (3*en (dv.take j) -j) (en (dv.take j)) G/\GI [] s M z l/\l.length=j/\(∀y∈l,0<=y/\y<(G:Int))/\Fz [d,B.bz] F M/\(f.bz=B.bz\/s.size<=f.bz)/\s.size<=M.size) ⟨B,sc,[],[],sp o3,(LW.cU q nf sc).iU (iD _) (iD _),g3,O,bO,(H.J x3).fz _,bC O,V⟩ ?_;rintro j z M aJ μ hj ⟨f,G,r,l,o,w,L,aS,U,fM,g,zM⟩ aA
  have I:=e.em.kA e.x fM;have ae:=w.p7;have ay:=w.dd;have aE:=L.cJ;have C:z.bz≠d:=L.ne o.bV cD;have Qf:z.bz≠f.bz:=L.Qf o.gr cD;have aD:=jS r;have ap:=w.sz;have aO:=Xv dv j;refine dit (λi=>?_) λi=>?_
  .let⟨u,he⟩:=dV dv j;let⟨aC,hu,k0,k1,k2⟩:=UB hk he I;have aP:=OY he;have az:=Xv dv (j+1);have aU:=u.So;have an:=Wd (dv.take j);rw[qW,mH V]at an;refine⟨V,V,_,k0,_,k1,_,k2,?_⟩;have SM:=st o fM V (dE (m:=F) e.kA V aE.2) V;refine(ih u (aZ he) (z.bz::v) Z M d f (aa++r) G Rm ev ai aj aC SM (by have:=N.2 j u he;rwa[aeQ V V]at this) V V eX hd ht hu).aP λT P⟨aB,er,s4,l4,av,W,⟨ar,ac,w4,Q,r1⟩,A,b4⟩=>⟨eV zM g A,aB,er,?_⟩;subst ac;have z4:=A.aQ;have F4:=fr fM g A;intro m5;have R:GI [] s P z l:=GI.jY (c:=[d,f.bz]) ((GI.jY (g:=[d,f.bz]) L).Sn yo.aP A (λ_ i=>i) (by simp;exact⟨C,Qf⟩));have aq:z.bz≠s4.bz:=R.Qf W.gr cD;refine GI.nE R (X:=List.range s.size) ⟨V,λa g hn=>absurd (qY.2 g) hn⟩ V λa' c g' f' z' q'=>?_;have J:Fz [z.bz] P c:=⟨z'.1,λa g hn=>q' a g (sp hn)⟩;refine⟨λa g=>?_,aA V _ _ ⟨s4,av,r++ar,l++[aB],?_,(w.J w4).iU V V,g',eX,λy h=>?_,F4.vV J λy h=>by simp at h⊢;omega,V,V⟩⟩
   .simp at g;rw[q' a V V,(D.push P _).bG a V]
   .rw[<-nB];exact W.re J (by simp;exact⟨C,aq⟩) λa g=>(bo.1 g).elim (λu=>by subst u;rcases z'.2 with u|u;exact bC (by simp[u]);exact bR u) λi=>bC (aX _ i)
   .have:=w4.dd;rcases bU.1 h with h|h
    .have:=U y h;omega
    .simp at h;omega
  .have K:j=dv.length:=V;subst K;rw[fw]at w ae ap;have an:=Wd dv;intro P;have k:=px P;have R:z.bz∉f.bz::d::v:=by
    simp only[bo,FZ];exact⟨Qf,C,λi=>oh (e.kA _ i)⟩
   have ha:ba (dB (f.bz::d::v) M) z l:=(GI.jY (g:=f.bz::d::v) L).rU yo.aP R cD V;have W:Pp v Z M d f (aa++r) G:=o.re (Fz.cU [] _) bO λa g=>bC (aX _ g);have z4:=k.aQ;refine(QF (x:=⟨p,cE,0,l,[]⟩) (W.ext k) (I.J k).aQ (ha.le k.fj) pX eX V).aP λT m5⟨Q,s5,l5,ac,o5,⟨A,J⟩,u,b5⟩=>⟨eV V g u,G,Q,G,O,s5,l5,ac,o5,⟨r++[⟨p,cE,0,l,[]⟩],by rw[A,nB],?_,V,V⟩,fr (fM.cg k) g u,V⟩;have ws:WS q nf False G ⟨p,cE,0,l,[]⟩:=⟨⟨bC (by show 0<=p/\p<=11;omega),U,λi=>by simp only at i;omega,⟨by show(0:Int)<=0;omega,by show(0:Int)<=_;omega⟩,λi=>by simp only at i;omega,λi=>by simp only at i;omega,N.1.jF⟩,bO⟩;subst J;exact(w.J (LW.mM ws)).iU (by rw[eN.pP];simp only[Ea];omega) V
def ZV{a:af}{c:Nat}:∀e:Ex,aaB a c e:=Ex.ind λ_ _ _ b=>ZU b
end
def MR{r:ad}{u:bg}(hS:∀d∈r,d<u.size){N ah:E}{H:af}{K:aJ}(hd:dA u N H)(hp:acR u ah K)(Z:acT H K):zk 242 [.agg #[E.v N,E.v ah]] u r H λrs=>CJ H rs False 95:=by
 apply Fv;simp -zeta only[kL,nO];have ht:=xc Z.gp.ds;intro j a2;let⟨F,hl⟩:=fU (a:=j) (c:=a2) O O;have s1:=pz j;have aH:=hp.aT;have aT:K.length<=4:=by have:=Z.gp.p7;simpa using this
 have aR:0<K.length:=by have:=Z.gp.jw;simpa using this
 refine(jK (b:=j.size::r) (dE hS F.aQ (hl _ bO)) (hd.le F.le) ht).aP λ_ ap⟨dd,e,aE,x3⟩=>?_;subst e;refine⟨x3.eV hl,_,O,?_⟩;intro k aM az;have u2:=F.J x3;let⟨x5,B0,g0,s3,s5⟩:=om (b:=k.size::j.size::r) lz.aP (d:=ap) (a:=k) (c:=aM) (j:=az) O O O;clear_value az;have ae:∀d∈[j.size,u.size],d<ap.size:=λd g=>x3.lt (hl d g);have ax:∀d∈j.size::r,d<ap.size:=λd g=>x3.lt (dE hS F.aQ (hl _ bO) d g);refine nV (R:=λb c z=>∃N L rs,Value.agg #[E.v b,E.v c]=.agg #[E.v N,E.v L]/\iF (dB r z) N L H rs/\CJ H rs False 95/\D u z) lz.aP cD cD hS ⟨V,ae _ bO⟩ u2 s3 aE aH V x5 B0 g0 (λ_ q=>q.aY.length<=3/\q.df.length<=3/\WB H K.length False q.aY.length q.eY/\q.eY.w<=95) (λb o l' m' X Y c f h=>⟨b,o,l',O,⟨X,Y,ht,V⟩,⟨V,λq hq=>by obtain⟨n,l⟩:=cH.1 hq;rw[c];exact f n q l⟩,h⟩) λaa z y l' aC μ aF aP xM av ai aN=>?_
 let⟨q,hq⟩:=dV K aa aF;let⟨aL,aQ⟩:=Z.JS q (aZ hq);have aI:q.1.aY.length<=3:=(Bb _ (Z.gp.eS q.1 (gK.2 ⟨q,aZ hq,O⟩))).1;have Q:=u2.J xM;obtain⟨cs,⟨am,aB,rfl,ha,hk⟩,hr⟩:=hp.kZ aa q hq;have ay:=ha.aT;refine⟨V,V,_,Q.aS (hr 0 _ O),_,Q.aS (hr 1 _ O),_,Q.aS (hr 2 _ O),_,Q.aS (hr 3 _ O),_,Q.aS (hr 4 _ O),?_⟩;intro m7 l;have hy:=av.cJ;have aO:=ai.lt;obtain⟨x8,-,s8⟩:=nG (a:=l) O O O;clear_value l;have P:∀d∈[z.size,j.size,u.size],d<l.size:=λd g=>by
  rcases bo.1 g with e|e
  .omega
  .have:=ae d e;omega
 have w8:=Q.J x8;have ac:∀{o:bg},l.size<=o.size->∀d∈y.bz::k.size::j.size::r,d<o.size:=λaw d g=>by
  simp only[bo]at g;rcases g with e|e|e|e
  .omega
  .omega
  .have:=ax d (by simp[e]);omega
  .have:=ax d (by simp[e]);omega
 have aA:∀{o:bg},D l o->∀{al:aj},(∀w v f,ba f w v->v.length=q.1.aY.length->(∀b∈v,0<=b/\b<(q.1.aY.length:Int))->D o f->al (E.v w) f)->bK dO 189 [vi 0,vi (am.len:Int)] o al:=λ{o} x al hk'=>by
  rw[ay];exact(pE (S:=[]) bO 0 q.1.aY.length V).aP λar f⟨w,v,e,gn,qn,xn⟩=>by
   subst e;exact hk' w v f ((GI.cr gn bO V).le fN) qn.2 (λb hy=>oh (qn.1 b hy)) xn
 have kA:∀{o:bg}{au:ad}{w:E}{v:ab},(∀d∈au,d<o.size)->D l o->ba o w v->v.length=q.1.aY.length->(∀b∈v,0<=b/\b<(q.1.aY.length:Int))->rG 256 [.agg #[E.v N,E.v ah],.agg #[vi q.2.op,vi q.2.cE,E.v aB],E.v w,vi (am.len:Int)] o au λA=>WB H K.length False q.1.aY.length A/\A.w<=3*q.2.n:=λaD x T X Y=>by
  rw[ay];exact HZ (ZV q.2) _ _ q.1.aY.length _ _ N ah aB aD T Y ((X▸aL)) V V (hd.le (w8.J x).le) ht (jz.le (w8.J x).le hk)
 have G:∀{s f:bg}{A U:Nat},l.size<=s.size->D s f->A<l.size->aS f A U=aS s A U:=λaw x hb=>gl x V;have h:z.size<l.size:=V;have B:u.size<l.size:=P _ bO;refine⟨λA o=>∃p bz,A.2=0/\l.size<=A.1/\dF o A.1 fm [.s p,.i bz.bQ]/\iN (dB (y.bz::k.size::j.size::r) o) p bz.bA/\(WB H K.length False q.1.aY.length bz/\bz.w<=3*q.2.n)/\D l o,⟨?_,?_⟩,?_⟩
 .refine aA (D.cU l) λw v I T W ag b=>⟨b.eV P,w,O,G bY b h,G bY b h,G bY b h,G bY b B,G bY b B,?_,?_⟩;all_goals have n:=b.aQ
  .refine(kA (ac n) b T W ag).aP λar C⟨p,bz,e,aq,aG,c⟩=>⟨c.eV λd g=>b.lt (P d g),p,_,e,?_⟩;have AZ:=c.aQ;intro J;have t:=px J;refine⟨G V t h,G V t h,G V t h,G V t B,G V t B,?_⟩;intro ao;let⟨ak,an,aK⟩:=nG (M:=C) (c:=J) (a:=ao) O O O;exact⟨p,bz,O,V,an,iN.le ak.fj aq,aG,(b.J c).J ak⟩
  .intro C;have c:=px C;have ak:dF C I.size fm [.s .nil,.i 0]:=dF.push _ _ _;have AZ:=c.aQ;clear_value C;refine⟨G n c h,G n c h,G n c h,G n c B,G n c B,?_⟩;refine(kA (dE (ac n) AZ ak.lt) (b.J c) (T.ext c) W ag).aP λar J⟨p,bz,e,an,aq,t⟩=>⟨t.eV λd g=>?_,p,_,e,?_⟩
   .rcases bo.1 g with e|e
    .rw[e];exact ak.lt
    .have:=P d e;omega
   intro ao;exact⟨p,bz,O,n,dF.aV (m:=J) (ak.ext t),iN.le (dW bO λd g=>aX _ g) an,aq,((b.J c).J t).aV n _ _⟩
 .intro I;have b:=px I;have B9:dF I l.size fm [.s .nil,.i 0]:=dF.push _ _ _;have n:=b.aQ;clear_value I;refine⟨G bY b h,G bY b h,G bY b h,G bY b B,G bY b B,?_⟩;have sm:∀{s f:bg},I.size<=s.size->D s f->gS [l.size,z.size,j.size,u.size] s f:=λaw x=>x.eV λd g=>by
   rcases bo.1 g with e|e
   .have:=B9.lt;omega
   .have:=P d e;omega
  refine aA b λw v C T W ag c=>⟨sm bY c,w,O,G n c h,G n c h,G n c h,G n c B,G n c B,?_⟩;have AZ:=c.aQ;refine(kA (au:=l.size::y.bz::k.size::j.size::r) (dE (ac (o:=C) V) bY (oh B9.lt)) (b.J c) T W ag).aP λar J⟨p,bz,e,an,aq,t⟩=>⟨sm AZ t,p,_,e,?_⟩;intro ao;exact⟨p,bz,O,bY,dF.aV (m:=J) ((B9.ext c).ext t),iN.le (dW bO λd g=>aX _ g) an,aq,((b.J c).J t).aV bY _ _⟩
 rintro⟨kb,U⟩ s ⟨p,bz,ho,aG,BB,aK,ao,x1⟩;simp only at ho aG BB;subst ho;have bl:=BB.lt;have z1:=x1.aQ;have W:=x8.J x1;refine⟨y,(ai.ext W).dx 1,_,BB.dx 0,_,BB.dx 1,?_⟩;have ag:k.size<l.size:=V;have kH:∀{f:bg}{J b':E},D s f->ba (dB (y.bz::k.size::j.size::r) f) J q.1.aY->ba (dB (y.bz::k.size::j.size::r) f) b' []->aS (f.push (.cells (db [.s J,.s b',.i q.1.bQ,.s p,.i bz.bQ]) mP)) k.size 1=aS f k.size 1/\
  mj (f.push (.cells (db [.s J,.s b',.i q.1.bQ,.s p,.i bz.bQ]) mP)) mP [.s .nil,.s .nil,.i 0,.s .nil,.i 0] 88 y (E.mk f.size 0 1 1) λL t=>gS [z.size,j.size,u.size] (f.push (.cells (db [.s J,.s b',.i q.1.bQ,.s p,.i bz.bQ]) mP)) t/\jb t k.size 1 1/\(gS [z.size,j.size,u.size] t (aV t k.size 1 [.s L])/\(aC (eJ ((aa:Int)+1)) (aV t k.size 1 [.s L])/\μ (eJ ((aa:Int)+1)) (aV t k.size 1 [.s L])<μ aa z)):=λF X Y=>
  Gr.bV (h:=[.s .nil,.s .nil,.i 0,.s .nil,.i 0]) (j:=1) (w:=88) (o:=[.s dd,.s y]) (v:=⟨q.1.aY,[],q.1.bQ,bz⟩) lz.aP cD ((av.ext lz.aP W).ext lz.aP F) (((xM.J W).J F).fz []) ⟨_,_,p,O,X,Y,iN.le F.fj aK⟩ V ((ai.ext W).ext F) bO cD ⟨V,bO⟩ (λd g=>⟨by have:=P d g;have:=F.aQ;omega,by
   rcases bo.1 g with e|e
   .omega
   .have:=ae d e;omega,by
   rcases bo.1 g with e|e
   .omega
   .have:=ae d e;omega⟩) λL m' g' B' f' z' q'=>aN L m' ⟨q.1.aY,[],q.1.bQ,bz⟩ g' B' f'.ext ⟨aI,bO,ao.1,by have:=ao.2;show bz.w<=95;omega⟩
 have an:∀{f:bg},D s f->ba f am q.1.aY:=λx=>ha.ext ((Q.J W).J x);have ak:∀{f:bg},D s f->∀d∈y.bz::k.size::j.size::r,d<f.size:=λx=>ac (oh x.aQ);have g1:∀{f t:bg}{U:Nat},D s f->D f t->aS t kb U=aS f kb U:=λx x'=>gl x' (oh x.aQ);have aq:∀{f t:bg},D s f->D f t->gS [z.size,j.size,u.size] f t:=λx x'=>x'.eV λd g=>by have:=P d g;have:=x.aQ;omega
 refine⟨?_,?_⟩
 .refine(dC (y.bz::k.size::j.size::r) (an cY) V).aP λ_ I⟨J,la,e,ga,ea,b⟩=>⟨aq cY b,J,e,g1 cY b,g1 cY b,G z1 b h,G z1 b ag,?_⟩;subst ea;have n:=b.aQ;intro C;have c:=px C;refine⟨g1 b c,g1 b c,G V c h,G V c h,G V c ag,?_⟩;exact kH (b.J c) ((GI.cr ga (ak cY) V).le c.fj) pX
 .intro I;have b:=px I;have n:=b.aQ;refine⟨g1 cY b,g1 cY b,G z1 b h,G z1 b h,G z1 b ag,?_⟩;refine(dC (y.bz::k.size::j.size::r) (an b) V).aP λ_ C⟨J,la,e,ga,ea,c⟩=>⟨aq b c,J,e,g1 b c,g1 b c,G V c h,G V c ag,?_⟩;subst ea;exact kH (b.J c) (GI.cr ga (ak b) V) pX
section
variable{L:ad}{K:Int->bg->Prop}{v:Int}
def Io(P:Nat->Prop)(l b:List Instr)(n:Nat):Prop:=∃a,b=l++a/\(∀(i:Nat)(x:Instr),a[i]? =some x->Ri (l.length+i) x\/P (l.length+i)/\x.op=22)/\VR a/\a.length<=n
section
variable{P c:Nat->Prop}{l a e:List Instr}{n b k:Nat}{x:Instr}
def qE.w(h:qE l a n):Io P l a n:=let⟨g,b,c,d,e⟩:=h;⟨g,b,λi x f=>bC (c i x f),d,e⟩
def Io.adT(h:Io P l a n)(f:∀q,¬P q)(m:n<=b):qE l a b:=let⟨j,c,d,e,k⟩:=h;⟨j,c,λi x g=>(d i x g).resolve_right λh=>f _ h.1,e,V⟩
def Io.Nx(h:Io P l a n)(g:∀q,P q->c q)(o:n<=b):Io c l a b:=let⟨k,d,e,f,m⟩:=h;⟨k,d,λj x i=>(e j x i).imp id λh=>⟨g _ h.1,h.2⟩,f,V⟩
def Io.aT(h:Io P l a n):l.length<=a.length/\a.length<=l.length+n:=by obtain⟨b,rfl,-,-,d⟩:=h;simp;omega
def Io.cg(h:Io P l a n)(f:qE a e b):Io P l e (n+b):=by
 obtain⟨i,rfl,k,c,o⟩:=h;obtain⟨j,rfl,m,d,p⟩:=f;refine⟨i++j,bO,λr x q=>?_,λx g=>(bU.1 g).elim (c x) (d x),eX⟩;grind [Nat.lt_or_ge,List.length,List.getElem?_append_left,List.getElem?_append_right]
def Io.Oe(h:Io P l a n)(i:P a.length):Io P l (a++[⟨22,0,0,0,[],[]⟩]) (n+1):=by
 obtain⟨d,rfl,e,c,f⟩:=h;refine⟨d++[⟨22,0,0,0,[],[]⟩],bO,λj x g=>?_,λx b=>?_,eX⟩
 .grind [Nat.lt_or_ge,List.length,List.getElem?_append_left,List.getElem?_append_right,br]
 .rcases bU.1 b with h|h
  .exact c x h
  grind
def Io.dY(h:Io P l a n)(b:l.length<=k)(m:Ri k x)(e:x.aO.length<=10^12/\x.gE.length<=10^12):Io (λq=>P q/\q≠k) l (a.set k x) n:=by
 obtain⟨g,rfl,i,c,d⟩:=h;refine⟨g.set (k -l.length) x,by rw[List.set_append_right _ _ b],λo y j=>?_,λy f=>?_,eX⟩
 .grind [List.length]
 .rcases jc f with h|h
  .exact c y h
  .rw[h];exact e
def Io.aim(h:Io P l a n)(c:l.length<=k)(b:a[k]? =some x):Io (λq=>P q/\q≠k) l (a.set k ⟨x.op,0,a.length,0,x.aO,x.gE⟩) n:=by
 have m:=br b;have f:=h;obtain⟨i,rfl,d,e,j⟩:=h;rw[dP c]at b;have g:=d _ x b;rw[show l.length+(k -l.length)=k by omega]at g;refine f.dY c ⟨λ_=>by show(k:Int)<((l++i).length:Nat);omega,λh=>?_⟩ (e x (aZ b));grind [Ri.arg]
end
section
variable{S:ad}{e m a:bg}{b:Nat}{s c:E}{l d:List Instr}
def DM.re{S' Y:ad}(h:DM S e m b s l)(g:Fz Y m a)(f:∀c∈Y,c∈S/\c≠b/\c≠s.bz)(d:∀c∈S',c∈S\/m.size<=c):DM S' e a b s l:=
 by constructor<;>grind [DM.bV,dF.congr,Fz.bG,dF.lt,DM.gr,Gr.re,gG.aP,List.mem_cons_of_mem,List.mem_cons_self,DM.up]
def Mo(k:DM S e m b s l)(z:D e m)(w:∀h∈S,h<m.size)(n:l.length<=10^12)(u:∀f∈L,f<m.size/\f≠b/\f≠s.bz){o i cE:Int}(y:∀c d a,DM S e a b c d->d=l++[⟨o,i,cE,0,[v],[]⟩]->Fz [b,s.bz] m a->(c.bz=s.bz\/m.size<=c.bz)->K (l.length:Nat) a):
 bK dO 191 [vp b 0,.agg #[vi o,vi i,vi cE,vi 0,E.v (.mk m.size 0 1 1),E.v .nil]] (m.push (.cells (db [.i v]) bB)) λr a=>gS L (m.push (.cells (db [.i v]) bB)) a/\∃q:Int,r=vi q/\K q a:=by
 have g:=D.push m (.cells (db [.i v]) bB)
 have F:=k.gr.cJ;have C:=k.bV.lt
 have A:ba (dB (s.bz::b::S) (m.push (.cells (db [.i v]) bB))) (.mk m.size 0 1 1) [v]:=ba.km bB (by
  intro h p;simp only[bo]at p;rcases p with j|j|j
  .omega
  .omega
  .exact w h j) O O bO
 refine(uE (x:=⟨o,i,cE,0,[v],[]⟩) (k.ext g) (z.J g).aQ A xE n).aP λr a⟨p,c,d,t,j,h,B⟩=>⟨Uc.eV h λf n=>?_,_,p,?_⟩
 .have:=u f n;exact⟨g.lt this.1,this.2⟩
 exact y c d a t j.symm (((g.fz [b,s.bz])).J h) (oh g.aQ)
def ZQ(j:DM S e m b s l)(t:D e m)(p:l.length<=10^12)(o:∀f∈L,f<m.size/\f≠b/\f≠s.bz)(q:∀c d a,DM S e a b c d->d=l++[⟨22,0,0,0,[],[]⟩]->Fz [b,s.bz] m a->(c.bz=s.bz\/m.size<=c.bz)->K (l.length:Nat) a):
 bK dO 191 [vp b 0,.agg #[vi 22,vi 0,vi 0,vi 0,E.v .nil,E.v .nil]] m λr a=>gS L m a/\∃n:Int,r=vi n/\K n a:=
 (uE (x:=⟨22,0,0,0,[],[]⟩) j t.aQ xE xE p).aP λr a⟨i,c,d,k,h,f,g⟩=>⟨Uc.eV f o,_,i,q c d a k h.symm f g⟩
def Zd{K:bg->Prop}{k:Nat}{x:Instr}(i:DM S e m b s l)(q:D e m)(p:l[k]? =some x)(n:∀f∈L,f<m.size/\f≠b/\f≠s.bz)(o:∀c d a,DM S e a b c d->d=l.set k ⟨x.op,0,l.length,0,x.aO,x.gE⟩->Fz [b,s.bz] m a->(c.bz=s.bz\/m.size<=c.bz)->K a):
 bK dO 240 [vp b 0,vi k] m λ_ a=>gS L m a/\K a:=
 (WV i q.aQ p).aP λr a⟨c,d,j,h,f,g⟩=>⟨Uc.eV f n,o c d a j h.symm f g⟩
end
def WA{l:List Instr}{d:Int}:qE l (l++[⟨18,d,0,0,[v],[]⟩]) 1:=qE.mM ⟨sx,λ_=>bO⟩ bO
end
section
variable{b:List j7}
def QH{G:af}{h:eN}(ci:h.op=7\/h.op=8)(ih:∀c∈h.dv,acO G b c):adx G b h:=by
 intro C I H d s z cons first cl fl aO aY ay ai j ao cp cz t ha hk
 apply yB (d,0);simp -zeta only[dR];intro ax ag;let⟨x2,hl⟩:=fU (a:=ax) (c:=ag) O O;have s1:=pz ax;have s2:ag.size=H.size+2:=by simp[ag,s1]
 have ct:=j.em.bV.lt;have cJ:=j.em.gr.cJ;have cI:=eN.pP h;have cj:=ha.aT;have cy:=hk.aT;have cx:=xf h.dv;have cC:=ao.iY.mM V;have cq:=j.eB.aT;have fj:∀{g:bg}{f:E},Fz [d,s.bz] H g->(f.bz=s.bz\/H.size<=f.bz)->Le (dB [s.bz,d] H) (dB [f.bz,d] g):=Wc;have st:∀{aN:ad}{g:bg}{f:E}{N:List Instr},DM aN I g d f N->Fz [d,s.bz] H g->(f.bz=s.bz\/H.size<=f.bz)->(∀l∈aN,l<g.size)->Yb aN I g d f N cons first cl fl:=λv K e hS=>⟨v,j.em.kA j.x K,hS,j.eB.le (fj K e),j.first.le (fj K e),j.bG,j.pL⟩
 have LL:∀{g:bg}{f:E},ag.size<=g.size->(f.bz=s.bz\/ag.size<=f.bz)->∀c∈[ax.size,H.size],c<g.size/\c≠d/\c≠f.bz:=λhz e c aQ=>by simp at aQ;omega
 have fr:∀{g r:bg}{f:E},Fz [d,s.bz] H g->(f.bz=s.bz\/ag.size<=f.bz)->Fz [d,f.bz] g r->Fz [d,s.bz] H r:=λK e aa=>K.vV aa λB p=>by simp at p⊢;omega
 have kA:∀{g:bg},H.size<=g.size->∀l∈C,l<g.size:=λi l hc=>by have:=j.kA l hc;omega
 have aw:∀{w:Nat}{c:Bk}{g:bg},h.dv[w]? =some c->D I g->∃L,iN I L c.bA/\aS g ai.bz (ai.off+w*2)=some L.v/\aS g ai.bz (ai.off+w*2+1)=some (vi c.bQ):=λe a6=>let⟨L,h1,h2,h3⟩:=hk.bt e;⟨L,h1,a6.aS h2,a6.aS h3⟩;refine⟨λh7=>?_,λh7=>?_⟩
 .simp only[bP]at h7;have aD:=ao.iY.Nk h7;let⟨F,Q⟩:=dV h.dv 0;let⟨b1,T⟩:=dV h.dv 1;have bJ:bw h.dv=F.w+b1.w:=by
   obtain⟨u,y,m⟩:∃u y,h.dv=[u,y]:=by
    match h.dv,aD with
    |[u,y],_=>exact⟨u,y,O⟩
   rw[m]at Q T⊢;simp at Q T;subst Q T;simp[bw]
  have w0:=F.NP;have w1:=b1.NP;have ac:∀w,Gc G h.op h.cE w=0:=λw=>Py V;have E2:=j.ext x2;refine(dC (s.bz::d::C) (ha.ext E2.x) V).aP λy P⟨a',la,m,ga,ea,Z⟩=>⟨Z.eV hl,a',m,?_⟩;subst ea;have z3:=Z.aQ;have aE:∀l∈s.bz::d::C,l<ag.size:=dE (dE (kA (g:=ag) V) V V) bY V;refine(uE (x:=⟨20,0,0,0,h.aO,[]⟩) (E2.em.ext Z) (E2.x.J Z).aQ (GI.cr ga aE (by show h.aO.length<=_;omega)) xE V).aP λy m4⟨ev,s4,l4,an,p4,f4,b4⟩=>⟨Uc.eV f4 (LL z3 (bC O)),_,ev,?_⟩;subst p4;have z4:=f4.aQ;have F4:Fz [d,s.bz] H m4:=((x2.J Z).fz _).J f4;have w4:Io (λ_=>False) z (z++[⟨20,0,0,0,h.aO,[]⟩]) 1:=(qE.mM ⟨sx,sx⟩ ⟨by show h.aO.length<=_;omega,bO⟩).w;let⟨t0,aF,g0,g1⟩:=aw Q (j.em.kA j.x F4);refine⟨cD,V,_,g0,_,g1,?_⟩;have ae:=ao.dv 0 F Q;rw[ac]at ae;have aI:=w4.aT;refine(ih F (aZ Q) C I m4 d s4 _ cons first cl fl aO aY t0 (st an F4 V (kA V)) (sp ae) V V t aF).aP λy A⟨s5,l5,aP,p5,f5,b5⟩=>⟨Uc.eV f5 (LL V V),?_⟩;have F5:=fr F4 V f5;have z5:=f5.aQ;have w5:=w4.cg p5;have X5:=j.em.kA j.x F5;obtain⟨_,-,-,g5⟩:=aw Q X5;refine⟨cD,V,_,g5,?_⟩;have aJ:=w5.aT;refine Mo aP X5 (kA V) V (LL V V) λs6 R m6 ap e6 f6 b6=>?_;have F6:=fr F5 V f6;have z6:=f6.aQ;have w6:Io (λ_=>False) z R (1+6*(F.w -1)+1):=e6▸w5.cg WA;have aM:=w6.aT;have aR:R.length=l5.length+1:=by rw[e6];simp
  have X6:=j.em.kA j.x F6;refine ZQ ap X6 V (LL V V) λs7 l7 m7 aq e7 f7 b7=>?_;have F7:=fr F6 V f7;have z7:=f7.aQ;have w7:Io (λq=>q=R.length) z l7 (1+6*(F.w -1)+1+1):=e7▸(w6.Nx (λ_ i=>i.elim) bY).Oe O;have aT:l7.length=R.length+1:=by rw[e7];simp
  let⟨J,ak⟩:=dV l7 z.length;refine Zd aq (j.em.kA j.x F7) ak (LL V V) λs8 l8 m8 av e8 f8 b8=>?_;have w8:Io (λq=>q=R.length) z l8 (1+6*(F.w -1)+1+1):=e8▸(w7.aim bY ak).Nx (λ_ i=>i.1) bY;have aU:l8.length=l7.length:=by rw[e8];simp
  have U:=fr F7 V f8;have z8:=f8.aQ;let⟨t1,aH,k0,k1⟩:=aw T (j.em.kA j.x U);refine⟨cD,V,_,k0,_,k1,?_⟩;have ah:=ao.dv 1 b1 T;rw[ac]at ah;refine(ih b1 (aZ T) C I m8 d s8 l8 cons first cl fl aO aY t1 (st av U V (kA V)) (sp ah) V V t aH).aP λy m9⟨s9,l9,aB,p9,W,b9⟩=>⟨Uc.eV W (LL V V),?_⟩;have F9:=fr U V W;have z9:=W.aQ;have w9:=w8.cg p9;have X9:=j.em.kA j.x F9;obtain⟨_,-,-,g9⟩:=aw T X9;refine⟨cD,V,_,g9,?_⟩;have bQ:=w9.aT;have aV:l8.length<=l9.length:=by obtain⟨nw,m,-⟩:=p9;rw[m];simp
  refine Mo aB X9 (kA V) V (LL V V) λbl Y aW al az au bs=>?_;have aL:Io (λq=>q=R.length) z Y (1+6*(F.w -1)+1+1+6*(b1.w -1)+1):=az▸w9.cg WA;have ar:=fr F9 V au;have AZ:=au.aQ;have bT:Y.length=l9.length+1:=by rw[az];simp
  let⟨a4,aj⟩:=dV Y R.length;refine Zd al (j.em.kA j.x ar) aj (LL V V) λaK aC a0 am aG aA bt=>?_;exact⟨aK,aC,am,aG▸(aL.aim V aj).adT (λq i=>i.2 i.1) V,fr ar V aA,V⟩
 .simp only[bd]at h7;have h8:h.op=8:=V;let⟨cw,cv⟩:=ao.iY.lY h8;let⟨B,bf⟩:=dV h.aO 0;let⟨y0,y1⟩:=ao.iY.aO B (aZ bf);obtain⟨yn,rfl⟩:∃bW:Nat,B=bW:=⟨B.toNat,V⟩;have E2:=j.ext x2;refine⟨cD,V,yn,(ha.ext E2.x).bt bf,?_⟩;have bV:∀l∈[s.bz,d],l<ag.size:=λl hc=>by simp at hc;omega
  refine(kQ (e:=[s.bz,d]) bV (t.bS.le E2.x.le) t.dk h.cE).aP λy P⟨aF,cc,ec,hc,qc,Z⟩=>⟨Z.eV hl,aF,ec,?_⟩;subst qc;have cr:=hc.aT;have z3:=Z.aQ;intro m4;refine Mo (E2.em.ext Z) (E2.x.J Z) (kA V) V (LL z3 (bC O)) λs5 l5 A aP e5 f5 b5=>?_;have z5:=f5.aQ;have w5:Io (λ_=>False) z l5 1:=e5▸(qE.mM ⟨sx,sx⟩ ⟨bO,bO⟩).w;have cO:l5.length=z.length+1:=by rw[e5];simp
  intro m6 m7;obtain⟨x6,s6⟩:=pu m6;obtain⟨x7,s7⟩:=pu m7;have bG:GI [] A m7 (.mk A.size 0 0 0) []:=(GI.gN [] A).ext x7;have bE:GI [] A m7 (.mk m6.size 0 0 0) []:=GI.cW (GI.gN [] m6) (λ_ i=>i) x6.aQ;have a7:=x6.J x7;have av:∀{g r:bg}{f:E},Fz [d,s.bz] P g->(f.bz=s.bz\/P.size<=f.bz)->Fz [d,f.bz] g r->Fz [d,s.bz] P r:=λK e aa=>K.vV aa λB p=>by simp at p⊢;omega
  have F0:Fz [d,s.bz] H P:=(x2.J Z).fz _;have a8:∀{g:bg}{f:E}{w:Nat}{l:Int},Fz [d,s.bz] P g->(f.bz=s.bz\/P.size<=f.bz)->(cT G h.cE)[w]? =some l->aS g aF.bz (aF.off+w*1)=some (vi l):=λ{g f w l} K e i=>(iO.1 ((hc.le (tG (c:=[f.bz,d]) (a:=g) λc aQ t=>by
   simp at t;exact⟨by simp;rcases e with m|m<;>omega,K.bG c aQ eX⟩)).bt i)).2
  have bn:∀{g:bg},A.size<=g.size->Fz (List.range A.size) A g:=λi=>⟨i,λc e t=>absurd (qY.2 e) t⟩;have aj:∀{g r:bg}{u:E}{ul:ab}{aE:ad},GI [] A g u ul->Fz aE g r->u.bz∉aE->GI [] A r u ul:=λ{g r u ul aE} aa K i=>GI.jY ((GI.jY (g:=aE) aa).Sn yo.aP K (λ_ i=>i) i);have o7:DM (A.size::m6.size::C) I m7 d s5 l5:=aP.re (a7.fz []) bO λc e=>by
   grind
  refine Bi (j:=(cT G h.cE).length) V (λai L en g=>∃f N tl F,DM (L.bz::en.bz::C) I g d f N/\Io (λq=>(q:Int)∈F) z N (1+6*bw (h.dv.take ai))/\GI [] A g L tl/\tl.length=ai/\GI [] A g en F/\F.length<=ai/\(∀B∈F,∃q:Nat,B=q/\z.length<q/\q<N.length)/\L.bz≠en.bz/\Fz [d,s.bz] P g/\(f.bz=s.bz\/P.size<=f.bz)/\m7.size<=g.size/\z.length<N.length)
   ⟨s5,l5,[],[],o7,w5.Nx (λ_ i=>i.elim) bO,bG,O,bE,bY,bO,by show A.size≠m6.size;omega,f5.cg a7,V,bY,V⟩ ?_
  rintro U L en g ca μ hj ⟨f,N,tl,F,v,a4,gt,cF,ge,cu,aT,cB,K,e,zM,cA⟩ bi
  have b_:=F0.J K;have ty:=gt.cJ;have ey:=ge.cJ;have t1:L.bz≠d:=gt.ne v.bV cD;have t2:L.bz≠f.bz:=gt.Qf v.gr cD;have n1:en.bz≠d:=ge.ne v.bV cD;have n2:en.bz≠f.bz:=ge.Qf v.gr cD;have cE:=v.gr.aT cD;have cH:=a4.aT;have bJ:=Xl h.dv U;have oy:=v.gr.cJ;have cQ:=v.bV.lt;refine dit (λi=>?_) λi=>?_
  .let⟨l,aR⟩:=dV (cT G h.cE) U;let⟨c,aB⟩:=dV h.dv U;have cn:=yP aB;have co:=Xl h.dv (U+1);have cm:=c.NP;have bc:Gc G h.op h.cE U=(cX G l).length:=Px h8 aR;have ck:=V0 t.dk h.op h.cE U;refine⟨f,v.bV.dx 0,?_⟩;intro m8;refine GI.nE gt (bn V) V λt' M1 aH ce z1 q1=>?_;have fa:Fz [L.bz] g M1:=⟨z1.1,λc e t=>q1 c e (sp t)⟩;refine⟨λc e=>by
    simp at e;rw[q1 c V V,(D.push g _).bG c V],?_⟩
   have f1:Fz [d,s.bz] P M1:=K.vV fa λB p=>by simp at p⊢;omega
   have bA:=aj ge fa eX;have o1:DM (t'.bz::en.bz::C) I M1 d f N:=v.re fa (by simp;exact⟨t1,t2⟩) λc e=>by
    rcases bo.1 e with m|m
    .grind
    .exact bC (aX _ m)
   have b7:=aH.cJ;refine⟨V,V,l,a8 f1 e aR,?_⟩;have X1:=j.em.kA j.x (F0.J f1);refine(fV (e:=[]) (t.bS.le (X1.le.J EB)) t.dk l).aP λy M2⟨ff,ch,ef,hf,qf,aD⟩=>⟨aD.eV λc e=>by simp at e;omega,ff,ef,?_⟩;subst qf;have bK:=hf.aT;have z2:=aD.aQ;have f2:=f1.cg aD;refine gP (n:=(cX G l).length) V (λw r=>∃aq ap,DM (t'.bz::en.bz::C) I r d aq ap/\Io (λq=>(q:Int)∈F) z ap (1+6*bw (h.dv.take U)+w)/\Fz [d,f.bz] M2 r/\(aq.bz=f.bz\/M2.size<=aq.bz)/\N.length<=ap.length) ⟨f,N,o1.ext aD,a4,nP,bC O,bY⟩ ?_;rintro w M3 I3 μ3 hi ⟨ae,l3,o3,w3,f3,b3,cL⟩ bX;have cU:=f3.aQ;have F3:=av f2 e f3;have aI:ae.bz=s.bz\/P.size<=ae.bz:=V;have cG:=w3.aT;have X3:=j.em.kA j.x (F0.J F3);have LM:∀{r:bg}{u:E},M3.size<=r.size->(u.bz=s.bz\/P.size<=u.bz)->∀c∈[ax.size,H.size],c<r.size/\c≠d/\c≠u.bz:=λhz e=>LL V V;have aJ:∀{r:bg},M3.size<=r.size->∀l∈t'.bz::en.bz::C,l<r.size:=λi=>dE (dE (kA (g:=M3) V) bY V) i V;refine⟨λaU=>?_,λaU=>?_⟩
   .simp only[bh]at aU;intro m9;refine Mo o3 X3 (aJ bY) V (LM bY aI) λs4 l4 M4 o4 e4 f4 b4=>bX V _ ⟨s4,l4,o4,?_,f3.vV f4 λB p=>by simp at p⊢;omega,V,by rw[e4];simp;omega⟩;rw[e4];exact w3.cg (qE.mM ⟨sx,sx⟩ ⟨bO,bO⟩)
   simp only[dm]at aU;have aV:w=(cX G l).length:=V;subst aV;have y3:=o3.gr.cJ;have cb:=o3.bV.lt;have ac:∀{r:bg},M3.size<=r.size->∀l∈[ae.bz,d],l<r.size:=λi l hc=>by simp at hc;omega
   rw[bK];refine(pE (S:=[ae.bz,d]) (ac bY) 0 (cX G l).length V).aP λy M4⟨s4,l4,e4,g4,q4,x4⟩=>⟨x4.eV λc e=>by simp at e;omega,s4,e4,?_⟩;have z4:=x4.aQ;have h4:=GI.cr g4 (ac bY) V;let⟨tk,bN,k0,k1⟩:=aw aB (X3.J x4);have F4:=F3.cg x4;have T:∀{u y:bg},D M4 u->D u y->∀v,aS y ax.size v=aS u ax.size v/\aS y H.size v=aS u H.size v:=λay c v=>⟨gl c (oh ay.aQ) (o:=v),gl c (oh ay.aQ) (o:=v)⟩;refine⟨V,V,tk,k0,_,k1,V,V,l,a8 F4 aI aR,?_⟩;have S4:=st o3 (F0.J F3) V (aJ bY);have cg:=S4.first.aT;have cR:=S4.bG;refine(zf (S:=[ae.bz,d]) (ac z4) (S4.eB.le x4.fj) V (a:=yn) V l).aP λy M5⟨s5,cN,e5,g5,q5,Q⟩=>⟨Q.eV λc e=>by simp at e;omega,s5,e5,gx Q k0,gx Q k1,(T cY Q _).1,(T cY Q _).2,(T cY Q _).2,?_⟩;have z5:=Q.aQ;have h5:=GI.cr g5 (ac z4) (by rw[<-q5];simp;omega);refine(iL (S:=[ae.bz,d]) (ac V) h5 (h4.le Q.fj) (by rw[<-q5];simp;omega)).aP λy M6⟨a0,R,e6,g6,q6,ak⟩=>⟨ak.eV λc e=>by simp at e;omega,a0,e6,gx ak (Q.aS k0),gx ak (Q.aS k1),(T Q ak _).1,(T Q ak _).2,(T Q ak _).2,?_⟩;have z6:=ak.aQ;have am:=Q.J ak;have h6:=GI.cr g6 (ac V) (by rw[<-q6,<-q5];simp;omega);refine(zf (S:=[ae.bz,d]) (ac V) (S4.first.le ((x4.J am).fj)) V (a:=yn) V cons.len).aP λy M7⟨bZ,l7,e7,g7,q7,ah⟩=>⟨ah.eV λc e=>by simp at e;omega,bZ,e7,gx ah (am.aS k0),gx ah (am.aS k1),(T am ah _).1,(T am ah _).2,(T am ah _).2,?_⟩;have z7:=ah.aQ;have an:=am.J ah;have bH:=GI.cr g7 (ac V) (by rw[<-q7];simp;omega);refine(iL (S:=[ae.bz,d]) (ac V) bH (h4.le an.fj) (by rw[<-q7];simp;omega)).aP λy M8⟨s8,l8,e8,g8,q8,J⟩=>⟨J.eV λc e=>by simp at e;omega,s8,e8,gx J (an.aS k0),gx J (an.aS k1),(T an J _).1,(T an J _).2,(T an J _).2,?_⟩;have z8:=J.aQ;have bI:=GI.cr g8 (ac V) (by rw[<-q8,<-q7];simp;omega);have al:=(x4.J an).J J;have be:R.length=cl.length+Gc G h.op h.cE U:=by rw[<-q6,<-q5,bc];simp;omega
   have bL:l8.length=R.length:=by rw[<-q8,<-q7,be,bc];simp;omega
   have ES:Yb (t'.bz::en.bz::C) I M8 d ae l3 a0 s8 R l8:=⟨o3.ext al,X3.J al,aJ al.aQ,h6.le ((ah.J J).fj),bI,bL,λB p=>by
    rw[<-q8]at p;rcases bU.1 p with p|p
    .rw[<-q7]at p;rcases jc p with p|p
     .exact j.pL B p
     .omega
    .have:=q4.1 B p;omega⟩
   have bS:WB G b.length True R.length c:=by rw[be];exact ao.dv U c aB
   refine(ih c (aZ aB) _ I M8 d ae l3 a0 s8 R l8 aO aY tk ES bS V V t bN).aP λy M9⟨s9,l9,o9,p9,W,b9⟩=>⟨Uc.eV W (LM (oh al.aQ) aI),?_⟩;have z9:=W.aQ;have cV:=al.aQ;have F9:=av (F3.cg al) aI W;have X9:=j.em.kA j.x (F0.J F9);have w9:=w3.cg p9;have bQ:=w9.aT;have cM:l3.length<=l9.length:=by obtain⟨nw,m,-⟩:=p9;rw[m];simp
   obtain⟨_,-,-,g9⟩:=aw aB X9;refine⟨V,V,_,g9,?_⟩;refine Mo o9 X9 (aJ V) V (LM V V) λbl Y a5 aW az au bs=>?_;have AZ:=au.aQ;have ar:=av F9 V au;have aL:Io (λq=>(q:Int)∈F) z Y (1+6*bw (h.dv.take U)+(cX G l).length+6*(c.w -1)+1):=az▸w9.cg WA;have bT:Y.length=l9.length+1:=by rw[az];simp
   have kI:∀{u:E}{ul:ab},GI [] A M1 u ul->u.bz≠d->u.bz≠f.bz->u.bz<M1.size->GI [] A a5 u ul:=λ{u ul} aa a1 a2 a3=>by
    have g2:=aa.ext aD;have g3:=aj g2 f3 (by simp;exact⟨a1,a2⟩);have bv:=g3.ext al;have bx:=aj bv W (by simp;exact⟨a1,by rcases b3 with m|m<;>omega⟩);exact aj bx au (by simp;exact⟨a1,by rcases b9 with m|m<;>omega⟩)
   have bm:t'.bz≠d:=aH.ne o1.bV cD;have b0:t'.bz≠f.bz:=aH.Qf o1.gr cD;have bb:=kI aH bm b0 b7.2;have a9:=kI bA n1 n2 V;rw[de (b:=(aF.len:Int) -1) V V];refine⟨λbM=>?_,λbM=>bi V _ _ _ ⟨bl,Y,tl++[(f.len:Int)],F,aW,aL.Nx (λ_ i=>i) V,bb,eX,a9,V,λB p=>by obtain⟨q,m,h1,h2⟩:=aT B p;exact⟨q,m,h1,V⟩,V,ar,V,V,V⟩⟩;refine ZQ aW (j.em.kA j.x (F0.J ar)) V (LM V V) λaK aC aM bj aG aA bt=>?_;have cS:=aA.aQ;have bq:=av ar V aA;have b8:Io (λq=>(q:Int)∈F++[(Y.length:Int)]) z aC (1+6*bw (h.dv.take U)+(cX G l).length+6*(c.w -1)+1+1):=aG▸(aL.Nx (λq i=>bU.2 (bC i)) bY).Oe bO;have cK:aC.length=Y.length+1:=by rw[aG];simp
   have nx:∀{u:E}{ul:ab},GI [] A a5 u ul->u.bz≠d->GI [] A aM u ul:=λaa ay=>aj aa aA (by simp;exact⟨ay,aa.Qf aW.gr cD⟩);have bF:=nx bb bm;have a_:=nx a9 n1;intro cP;refine GI.nE a_ (bn V) V λcd br bz cf bp bk=>?_;have fb:Fz [en.bz] aM br:=⟨bp.1,λc e t=>bk c e (sp t)⟩;have bu:en.bz≠aK.bz:=a_.Qf bj.gr cD;refine⟨λc e=>by
    simp at e;rw[bk c V V,(D.push aM _).bG c V],bi V _ _ _ ⟨aK,aC,tl++[(f.len:Int)],F++[(Y.length:Int)],?_,b8.Nx (λ_ i=>i) V,aj bF fb eX,eX,bz,eX,λB p=>?_,V,bq.vV fb λB p=>by simp at p⊢;omega,V,V,V⟩⟩
   .exact bj.re fb (by simp;exact⟨n1,bu⟩) λc e=>by
     simp only[bo]at e⊢;rcases e with m|m|m
     .exact bC (bC m)
     .rcases bp.2 with e'|e'
      .exact bC (bR (bC V))
      .exact bR V
     .exact bC (bR (bR m))
   .rcases bU.1 p with p|p
    .let⟨q,m,h1,h2⟩:=aT B p;exact⟨q,m,h1,V⟩
    .simp at p;exact⟨Y.length,p,V,V⟩
  .have ak:U=(cT G h.cE).length:=V;subst ak;refine⟨f,v.bV.dx 0,?_⟩;intro m8;obtain⟨J,s8⟩:=pu m8;have an:ba (dB (f.bz::d::C) m8) (.mk g.size 0 1 1) [(yn:Int)]:=ba.km bB (dE (dE (kA (g:=g) V) bY V) bY V) O O bO;refine⟨gl J V,gl J V,V,V,?_⟩;have Q:DM C I m8 d f N:=(v.ext J).re (Fz.cU [] _) bO λc e=>bC (aX _ (aX _ e));have ar:L.bz∉f.bz::d::C:=by
    simp only[bo,FZ];exact⟨t2,t1,λi=>oh (kA (g:=H) bY _ i)⟩
   have am:ba (dB (f.bz::d::C) m8) L tl:=(GI.jY (g:=f.bz::d::C) (gt.ext J)).rU yo.aP ar cD V;obtain⟨wr,gs,-,Y⟩:=Q.gr.dY gG.aP (X:=List.range I.size) ⟨V,λc e t=>absurd (qY.2 e) t⟩ (k:=z.length) V (a:=⟨21,0,h.cE,0,[(yn:Int)],tl⟩) (cs:=[.i 21,.i 0,.i h.cE,.i 0,.s (.mk g.size 0 1 1),.s L]) ⟨_,_,O,an,am⟩;refine⟨wr,?_⟩;intro m9;have s9:m9.size=m8.size:=bD _ _ _ _;have o9:DM C I m9 d f (N.set z.length ⟨21,0,h.cE,0,[(yn:Int)],tl⟩):=⟨Q.bV.congr (Y d (th Q.ne)),gs,Q.up⟩;have W:Fz [d,f.bz] g m9:=⟨V,λc e t=>by
    simp at t;have e1:m9[c]? =m8[c]? :=Y c t.2;rw[e1,J.bG c e]⟩
   have w9:=(a4.dY (x:=⟨21,0,h.cE,0,[(yn:Int)],tl⟩) (k:=z.length) bY ⟨sx,sx⟩ ⟨bO,by show tl.length<=_;omega⟩).Nx (c:=λq=>(q:Int)∈F) (λ_ i=>i.1) bY;refine⟨λc e=>Y c (by simp at e;omega),?_⟩;have au:=ge.aT cD;refine gP (n:=F.length) V (λw r=>∃aq ap,DM C I r d aq ap/\Io (λq=>(q:Int)∈F.drop w) z ap (1+6*bw (h.dv.take (cT G h.cE).length))/\ap.length=N.length/\GI [] A r en F/\Fz [d,s.bz] P r/\(aq.bz=s.bz\/P.size<=aq.bz)/\m7.size<=r.size) ⟨f,_,o9,sp w9,bO,aj ge W (by simp;exact⟨n1,n2⟩),av K e W,e,V⟩ ?_;rintro w r I2 μ2 hi ⟨aq,l2,o2,w2,al,R,f2,b2,z2⟩ ap;refine dit (λi=>?_) λi=>?_
   .let⟨B,T⟩:=dV F w;obtain⟨q,rfl,az,aA⟩:=aT B (aZ T);have ah:ba (dB [] r) en F:=(GI.jY (g:=[]) R).rU yo.aP bO cD V;have ae:=ah.le fN;let⟨xq,ac⟩:=dV l2 q;refine⟨V,V,q,ae.bt T,?_⟩;refine Zd o2 (j.em.kA j.x (F0.J f2)) ac (LL V V) λs4 l4 M4 o4 e4 f4 b4=>ap V _ ⟨s4,l4,o4,?_,by rw[e4];simp;exact al,aj R f4 (by simp;exact⟨n1,R.Qf o2.gr cD⟩),av f2 b2 f4,oh f2.aQ,oh f4.aQ⟩;rw[e4];refine(w2.aim V ac).Nx (λq' i=>?_) bY;let⟨h1,h2⟩:=i;rw[HJ V]at h1;rcases bo.1 h1 with m|m
    .have:F[w]=(q:Int):=by have:=mQ.1 T;exact this.2
     rw[this]at m;exact absurd V h2
    .exact m
   .have aV:w=F.length:=V;subst aV;rw[List.drop_length]at w2;exact⟨aq,l2,o2,w2.adT bO V,F0.J f2,V⟩
def QN{c:af}:∀a:Bk,acO c b a:=Bk.ind λbA r f=>QM λx e h=>QH h λa d=>f x e a d
end
def qE.eA{l:List Instr}{n:Nat}(h:qE [] l n):Ya l/\VR l/\l.length<=n:=by
 obtain⟨e,rfl,b,c,d⟩:=h;exact⟨λk x a=>by have:=b k x a;simpa using this,c,d⟩
def QQ{d:ad}{t:bg}(hS:∀c∈d,c<t.size){v ac:E}{U:af}{rs:List j7}(I:iF t v ac U rs){ai:Nat}(au:CJ U rs True ai)(hW:ai<=120000000000):VP 128 [.agg #[v.v,ac.v]] t d U DQ:=by
 apply Jl;simp -zeta only[dR];have ht:=I.dk;have hp:=I.lJ;intro b a2;let⟨x2,X⟩:=fU (a:=b) (c:=a2) O O;have s1:=pz b;have aO:=hp.aT;have bf:=I.p7;have be:=au.jw;refine(jK (b:=b.size::d) (dE hS x2.aQ (X _ bO)) (I.bS.le x2.le) ht).aP λ_ aa⟨dd,e,aM,x3⟩=>?_;subst e;refine⟨x3.eV X,_,O,?_⟩;intro l aR aT;have u2:=x2.J x3;let⟨x5,B0,g0,s3,s5⟩:=om (b:=l.size::b.size::d) oJ.aP (d:=aa) (a:=l) (c:=aR) (j:=aT) O O O;have ar:∀c∈[b.size,t.size],c<aa.size:=λc k=>x3.lt (X c k);have ap:∀c∈b.size::d,c<aa.size:=λc k=>x3.lt (dE hS x2.aQ (X _ bO) c k);refine nV (R:=λg h M=>∃v p f,Value.agg #[g.v,h.v]=.agg #[v.v,p.v]/\dA (dB d M) v U/\mh (dB d M) p f/\DQ f/\D t M) oJ.aP cD cD hS ⟨V,ar _ bO⟩ u2 s3 aM aO V x5 B0 g0 (λ_ q=>Y9 q) (λf r' aw m' g h p j m=>⟨f,r',aw,O,g,h,⟨V,V,λq Y=>by obtain⟨o,n⟩:=cH.1 Y;exact j o q n⟩,m⟩) λav M m aw a8 μ aN bd xM an ag aW=>?_
 let⟨q,Y⟩:=dV rs av aN;let⟨q3,a4,a5,qw⟩:=au.eS q (aZ Y);have z:=u2.J xM;obtain⟨cs,⟨a9,j,a6,rfl,c1,c2,c3⟩,J⟩:=hp.kZ av q Y;have aH:=c1.aT;have qp:=q.eY.NP;refine⟨V,V,_,z.aS (J 0 _ O),_,z.aS (J 1 _ O),_,z.aS (J 2 _ O),_,z.aS (J 3 _ O),_,z.aS (J 4 _ O),?_⟩;intro m7 f;have hy:=an.cJ;have ba:=ag.lt;obtain⟨x8,-,s8⟩:=nG (a:=f) O O O;clear_value f;have w8:=z.J x8;have H:∀{B:bg},f.size<=B.size->∀c∈m.bz::l.size::b.size::d,c<B.size:=λh c k=>by
  simp only[bo]at k;rcases k with e|e|e|e
  .omega
  .omega
  .have:=ap c (by simp[e]);omega
  .have:=ap c (by simp[e]);omega
 have bb:b.size<aa.size:=ar _ bO;intro g u;obtain⟨x9,s9⟩:=pu g;obtain⟨aC,bp⟩:=pu u;have g9:GIn (g.size::m.bz::l.size::b.size::d) f g (.mk f.size 0 0 0) []:=Gr.bF _ bY;have aE:dF u g.size vW [.s (.mk f.size 0 0 0)]:=dF.push _ _ _;have aI:DM (m.bz::l.size::b.size::d) f u g.size (.mk f.size 0 0 0) []:=⟨aE,g9.ext gG.aP aC,V⟩;clear_value u g;have aj:=x9.J aC;have ax:∀c∈[f.size,g.size],c<u.size:=λc k=>by simp at k;omega
 have LL:∀{B:bg}{s':E},u.size<=B.size->(s'.bz=f.size\/u.size<=s'.bz)->∀j∈[M.size,b.size,t.size],j<B.size/\j≠g.size/\j≠s'.bz:=λhz s j aK=>by simp at aK;omega
 rw[aH];refine(pE ax 0 q.aY.length V).aP λ_ ay⟨N,Z,e,aJ,aB,P⟩=>⟨P.eV λj s=>by simp at s;omega,N,e,?_⟩;have ao:=GI.cr aJ ax V;have a7:=P.aQ;have aF:Yb (m.bz::l.size::b.size::d) f ay g.size (.mk f.size 0 0 0) [] N N Z Z:=⟨aI.ext P,aj.J P,H V,ao,ao,O,λy hy=>oh (aB.1 y hy)⟩;refine(QN q.eY _ f ay g.size _ [] N N Z Z v ac a6 aF ((aB.2▸a5)) V eX (I.le w8.le) (iN.le w8.le c3)).aP λbr bi⟨bq,bh,ab,aA,W,aG⟩=>⟨Uc.eV W (LL a7 (bC O)),?_⟩;have bu:=W.aQ;simp only[E.lT]at aG W;have ak:=Fz.ext ((((aj.J P).fz [g.size,f.size]).J W).Ij λj s=>bR (by simp at s;omega));have a1:=aA.aT;intro bj;refine Mo ab ak (H V) (by simp at a1;omega) (LL V V) λy L x F al am a_=>?_;have bv:=am.aQ;have bs:=ab.gr.cJ;have Q:=ab.kA ak am;have a3:qE [] L (6*q.eY.w):=al▸(aA.J (qE.mM ⟨sx,λ_=>bO⟩ bO)).iU V;let⟨aY,a0,bn⟩:=a3.eA;have aP:0<L.length:=by rw[al];simp
 have ah:=ag.ext (x8.J Q);refine⟨m,ah.dx 1,y,F.bV.dx 0,y,F.bV.dx 0,?_⟩;have bt:=F.gr.cJ;have aV:=F.ne;have aU:y.bz∉g.size::m.bz::l.size::b.size::d:=by
  simp only[bo,FZ];have k:=λh:y.bz∈m.bz::l.size::b.size::d=>H bY _ h;refine⟨aV,λh=>?_,λh=>?_,λh=>?_,λh=>?_⟩<;>have:=k (by simp[h])<;>omega
 have aq:=F.gr.rU gG.aP aU cD V;have G:∀{r C:bg}{j az:Nat},x.size<=r.size->D r C->j<x.size->aS C j az=aS r j az:=λh ae s=>gl ae V;have sm:∀{r C:bg},x.size<=r.size->D r C->gS [M.size,b.size,t.size] r C:=λh ae=>ae.eV λj s=>by simp at s;omega
 have K:g.size<x.size:=V;have w:M.size<x.size:=V;have i3:l.size<x.size:=V;refine(dC (m.bz::l.size::b.size::d) (c1.ext (w8.J Q)) V).aP λ_ bk⟨a',la,e,ga,ea,n⟩=>⟨sm bY n,a',e,G bY n K,G bY n w,G bY n K,G bY n w,G bY n w,G bY n i3,?_⟩;subst ea;have A:=n.aQ;refine(dC (m.bz::l.size::b.size::d) (c2.ext ((w8.J Q).J n)) V).aP λ_ bl⟨b',lb,e,gb,eb,o⟩=>⟨sm A o,b',e,G A o K,G A o w,G A o K,G A o w,G A o i3,?_⟩;subst eb;have bw:=o.aQ;have aD:=n.J o;refine(RN (je.ext aD (fX.le aq fN λ_ _=>gG.le fN)) (q.aY.length:Nat)).aP λ_ aQ⟨rg,e,_,p⟩=>⟨sm V p,rg,e,G V p K,G V p w,G V p i3,?_⟩;have bx:=p.aQ;have T:=aD.J p;intro bm;have aL:je (dB (m.bz::l.size::b.size::d) aQ) y L:=fX.le aq ((T.fj).J (mS _ λ_ h=>aX _ h)) λ_ _=>gG.le ((T.fj).J (mS _ λ_ h=>aX _ h));have XX:=(x8.J Q).J T;refine Gr.bV (h:=[.s .nil,.s .nil,.i 0,.i 0,.s .nil]) (j:=1) (w:=88) (o:=[.s dd,.s m]) (v:=⟨q.aY,q.df,q.bQ,rg,L⟩) oJ.aP cD (an.ext oJ.aP XX) ((xM.J XX).fz []) ⟨a',b',y,O,(GI.cr ga (H V) V).le ((o.J p).fj),(GI.cr gb (H V) V).le p.fj,aL⟩ V (ah.ext T) bO cD ⟨V,bO⟩ (λc k=>?_) λr' m' g' B' f' z' q'=>aW r' m' _ g' B' f'.ext ⟨q3,a4,aP,by show L.length<=_;omega,aY,a0⟩
 simp at k;omega
section
variable{l:ae}
def Mn{α:Type}(T:bg->E->E->α->Prop):Prop:=∀M a b c x,Le M a->T M b c x->T a b c x
def PP{α:Type}(T:bg->E->E->α->Prop)(U:α->Prop)(S:ad)(d:Nat)(e:E)(m:bg)(P:Nat)(v:Value)(a:bg):Prop:=∃b c x,v=.agg #[b.v,c.v]/\T (dB S a) b c x/\U x/\Rd d e P a/\Fz [d] m a
def NT(m:bg)(a b:E)(x:af×List j7):Prop:=iF m a b x.1 x.2
def IT(m:bg)(a b:E)(x:af×av):Prop:=dA m a x.1/\mh m b x.2
def GT(m:bg)(a b:E)(x:af×aJ):Prop:=dA m a x.1/\acR m b x.2
def UN(c:Prop)(W:Nat)(x:af×List j7):Prop:=CJ x.1 x.2 c W/\x.1∈vA
def UI(x:af×av):Prop:=DQ x.2/\x.1∈vA
def NT.mn:Mn NT:=λ_ _ _ _ _ h t=>iF.le t h
def IT.mn:Mn IT:=λ_ _ _ _ _ h t=>⟨t.1.le h,mh.le h t.2⟩
@[grind cases] structure BS (B:ad) (rb:Nat) (bs:E) (m:bg) (Q:Nat) (M:bg):Prop where
 s:Rs rb bs m Q M
 kA:∀c∈B,m.size<=c/\c<M.size
section
variable{α:Type}{T:bg->E->E->α->Prop}{U:α->Prop}{S B L:ad}{d Q g i k f t:Nat}{e a b:E}{m M c:bg}{x:α}{h:ap}
def BS.hS(h:BS B d e m Q M)(a:∀c∈S,c<m.size):∀c∈B++S,c<M.size:=by grind [BS.kA,BS.s,Rs.f,Fz.aQ]
def BS.to(h:BS B d e m Q M)(f:Fz [d] M c)(r:Rd d e g c):BS B d e m g c:=by constructor<;>grind [BS.s,Rs.to,BS.kA,Fz.aQ]
theorem BS.lw(h:BS B d e m Q M)(a:d<m.size)(c:∀b∈L,b∈B):Lw d L M:=by grind [lw,BS.kA]
def BS.jF(i:BS B d e m Q M)(o:d<m.size)(p:∀b∈L,b∈B)(l:bK dO f h M (PP T U (B++S) d e M g)){K:E->E->bg->Prop}
 (q:∀a b x c,U x->T (dB (B++S) c) a b x->BS B d e m g c->Fz [d] M c->K a b c):bK dO f h M λv c=>gS L M c/\∃j k:E,v=.agg #[j.v,k.v]/\K j k c:=
 l.aP λ_ c⟨a,b,x,n,t,u,r,f⟩=>⟨(i.lw o p).eV f,a,b,n,q a b x c u t (i.to f r) f⟩
def BS.lP(h:BS B d e m Q M)(g:d<m.size)(k:Q<=10^16)(j:∀b∈L,b∈B)(n:Int){K:Int->bg->Prop}
 (l:∀i c,0<=i->(i<n\/i=0)->BS B d e m (Q+1) c->Fz [d] M c->K i c):bK dO 74 [vp d 0,vi n] M λv c=>gS L M c/\∃i:Int,v=vi i/\K i c:=
 (dX h.s.r k n).aP λ_ c⟨i,a,o,p,r,f⟩=>⟨(h.lw g j).eV f,i,a,l i c o p (h.to f r) f⟩
def BS.bV{m1 m2:bg}{z:ae}(h:BS B d e m Q M)(c:m1=M.push (.cells (db z) t))(f:m2=aV m1 M.size 0 l)(i:l.length=z.length):BS (M.size::B) d e m Q m2/\Le (dB (B++S) M) (dB (M.size::B++S) m2)/\dF m2 M.size t l:=by
 let⟨x,a,z⟩:=nG c f i;have n:=h.s.f.aQ;refine⟨⟨h.s.ext x,λj k=>?_⟩,x.dB λb g=>(bo.1 g).elim (λh=>bR V) bC,a⟩;grind [BS.kA]
def BS.cG(h:BS B d e m Q M)(b:Rd d e i m)(a:k∈B)(l:ae):BS B d e m Q (aV M k 0 l)/\Le (dB (B++S) M) (dB (B++S) (aV M k 0 l)):=
 ⟨⟨h.s.cG b (h.kA k a).1 _ _,λc f=>by rw[bD];exact h.kA c f⟩,dW (by simp[a]) λ_ h=>h⟩
def BS.le(a:d∈S)(f:Fz [d] M c):Le (dB (B++S) M) (dB (B++S) c):=f.fj (by simp[a])
def BS.kH(h:BS B d e m Q M)(o:Mn T)(j:Rd d e i m)(p:k∈B)(q:T (dB (B++S) M) a b x)(r:U x)(n:Q<=g):PP T U S d e m g (.agg #[a.v,b.v]) (aV M k 0 l):=
 have⟨c,f⟩:=h.cG (S:=S) j p l
 ⟨a,b,x,O,o _ _ _ _ _ (f.J (mS _ λ_=>mW _)) q,r,c.s.r.aP n,c.s.f⟩
def BS.mM(a:Rd d e Q m){o:Obj}:BS [m.size] d e m Q (m.push o)/\Le (dB S m) (dB ([m.size]++S) (m.push o)):=⟨⟨⟨(D.push m o).fz _,a.ext (D.push m o)⟩,bO⟩,xl (D.push m o) bY⟩
def Qg{a:af}{c:Prop}{W:Nat}(j:zk f h M S a λb=>CJ a b c W)(hd:a∈vA)(r:Rd d e Q M):bK dO f h M (PP NT (UN c W) S d e M Q):=
 j.aP λ_ _⟨g,k,b,i,n,o,x⟩=>⟨g,k,(a,b),i,n,⟨o,hd⟩,r.ext x,x.fz _⟩
def abO{a:af}(g:VP f h M S a DQ)(hd:a∈vA)(r:Rd d e Q M):bK dO f h M (PP IT UI S d e M Q):=
 g.aP λ_ _⟨b,j,k,c,n,i,o,x⟩=>⟨b,j,(a,k),c,⟨n,i⟩,⟨o,hd⟩,r.ext x,x.fz _⟩
end
variable{S:ad}{m:bg}{d P:Nat}{e:E}
def MW(c:∀a∈S,a<m.size)(i:d∈S)(a:Rd d e P m)(D:P+1000+4*(300+40*Cg 18)<=10^16):bK dO 222 [vp d 0] m (PP NT (UN False 95) S d e m (P+11+4*(300+40*Cg 18))):=by
 apply Fy (d,0);simp -zeta only[dR];have b:=a.lt;intro s;obtain⟨b1,-⟩:BS [m.size] d e m P s/\True:=⟨(BS.mM (S:=S) a).1,trivial⟩;refine b1.jF (T:=GT) (U:=λx=>acT x.1 x.2) (S:=S) b (λ_ h=>h) ((Jn (b1.hS c) (by simp[i]) b1.s.r V).aP λv M⟨g,p,f,l,j,k,n,o,q,r⟩=>⟨g,p,(f,l),j,⟨k,n⟩,o,q,r⟩) λg p x F u t b2 A=>?_;refine b2.jF (S:=S) b (λ_ h=>h) (Qg (MR (b2.hS c) (t.1.le fN) (fX.le t.2 fN λ_ _=>FuR.aP.le fN) u) u.gp.ds b2.s.r) λy J L G f t3 b3 B=>?_;intro o q;obtain⟨b5,n,-⟩:=b3.bV (S:=S) (m1:=o) (m2:=q) O O O;have r:=NT.mn _ _ _ _ _ n t3;refine b5.lP b V (λ_ h=>h) 3 λE H _ _ b6 k=>?_;have j:=NT.mn _ _ _ _ _ (BS.le i k) r;refine⟨λ_=>?_,λ_=>b6.kH NT.mn a bO j f V⟩;exact b6.jF (S:=S) b (λ_ h=>h) (Qg (OE (b6.hS c) (j.le fN) V f.1) f.2 b6.s.r) λz K M I w v h C=>h.kH NT.mn a bO v w V
def Jg(i:∀c∈S,c<m.size)(f:d∈S)(a:Rd d e P m)(L:P+1000+4*(300+40*Cg 18)<=10^16):bK dO 193 [vp d 0] m (PP NT (UN True 104500) S d e m (P+12+4*(300+40*Cg 18))):=by
 apply BN (d,0);simp -zeta only[dR];have c:=a.lt;intro t;obtain⟨b1,-⟩:BS [m.size] d e m P t/\True:=⟨(BS.mM (S:=S) a).1,trivial⟩;refine b1.jF (S:=S) c (λ_ h=>h) (MW (b1.hS i) (by simp[f]) b1.s.r V) λH U X Q g t2 b2 J=>?_;intro u v;obtain⟨b4,s,-⟩:=b2.bV (S:=S) (m1:=u) (m2:=v) O O O;have l:=NT.mn _ _ _ _ _ s t2;refine b4.jF (S:=S) c (λ_ h=>h) (Qg (QK (b4.hS i) (l.le fN) g.1) g.2 b4.s.r) λI W Y w F A b5 q=>?_;intro x y;obtain⟨n,k,-⟩:=b5.bV (S:=S) (m1:=x) (m2:=y) O O O;have B:=NT.mn _ _ _ _ _ k A;refine n.lP c V (λ_ h=>h) 4 λM R _ _ b j=>?_;have C:=NT.mn _ _ _ _ _ (BS.le f j) B;refine⟨λ_=>?_,λ_=>b.kH NT.mn a bO C F V⟩;have D:=NT.mn _ _ _ _ _ (((BS.le f q).J k).J (BS.le f j)) l;refine b.jF (S:=S) c (λ_ h=>h) (Qg (Vh (b.hS i) (D.le fN) g.1) g.2 b.s.r) λp z Z T G E o K=>?_;intro N;let⟨h,r⟩:=o.cG (S:=S) a (by simp:w.size∈_) [.s p,.s z];exact h.kH NT.mn a bO (NT.mn _ _ _ _ _ r E) G V
end
section
variable{c:Prop}
@[grind cases] structure BF (S:ad) (rb:Nat) (bs:E) (m:bg) (k Q W:Nat) (M:bg):Prop where
 b:BS [k,m.size] rb bs m Q M
 x:∃d r x,dF M k qU [.s d,.s r]/\NT (dB (k::m.size::S) M) d r x/\UN True W x
def UN.aP{W W':Nat}{x:af×List j7}(h:UN c W x)(f:W<=W'):UN c W' x:=⟨⟨h.1.jw,λq g=>let⟨a,b,d,e⟩:=h.1.eS q g;⟨a,b,d,fD e f⟩⟩,h.2⟩
section
variable{e d:ad}{g k Q Q' W W' i f:Nat}{h:E}{a M b:bg}{K:bg->Prop}{j:E->E->ap}
def BF.aP(b:BF e g h a k Q W M)(j:Q<=Q')(l:W<=W'):BF e g h a k Q' W' M:=⟨⟨⟨b.b.s.f,b.b.s.r.aP j⟩,b.b.kA⟩,let⟨i,r,x,d,f,c⟩:=b.x;⟨i,r,x,d,f,c.aP l⟩⟩
def BF.to(l:BF e g h a k Q W M)(n:g<a.size)(m:g∈e)(f:Fz [g] M b)(i:BS [k,a.size] g h a Q' b):BF e g h a k Q' W b:=
 let⟨j,r,x,d,t,c⟩:=l.x
 ⟨i,j,r,x,d.congr (f.bG k d.lt cB),NT.mn _ _ _ _ _ (BS.le (B:=[k,a.size]) m f) t,c⟩
def BF.lP(j:BF e g h a k Q W M)(l:g<a.size)(q:g∈e)(o:Q<=10^16)(m:∀c∈d,c∈[k,a.size])(n:Int){K:Int->bg->Prop}
 (p:∀i b,BF e g h a k (Q+1) W b->K i b):bK dO 74 [vp g 0,vi n] M λv b=>gS d M b/\∃i:Int,v=vi i/\K i b:=
 j.b.lP l o m n λi b _ _ c f=>p i b (j.to l q f c)
def BF.act(q:BF e g h a k Q W M)(w:Rd g h i a)(G:k≠a.size)(y:∀p∈d,p=a.size)
 (c:∀l n x,NT (dB (k::a.size::e) M) l n x->UN True W x->bK dO f (j l n) M (PP NT (UN True W') (k::a.size::e) g h M Q'))
 (J:∀b,BF e g h a k Q' W' b->K b):∃z:E,aS M k 0=some z.v/\∃A:E,aS M k 1=some A.v/\bK dO f (j z A) M λT b=>gS d M b/\∃t u:E,T=.agg #[t.v,u.v]/\jb b k 0 2/\(gS d b (aV b k 0 [.s t,.s u])/\K (aV b k 0 [.s t,.s u])):=by
 let⟨l,n,x,B,N,P⟩:=q.x
 have H:=w.lt
 have V:=q.b.kA k bO
 refine⟨l,B.dx 0,n,B.dx 1,q.b.jF (S:=e) (L:=d) H (λp s=>by simp[y p s]) (c l n x N P) λp s U b R O C D=>?_⟩
 have v:=B.congr (D.bG k B.lt eX)
 let⟨b2,I⟩:=C.cG (S:=e) w (by simp:k∈_) [.s p,.s s]
 exact⟨v.jb bO,λc F=>cq _ _ _ _ (by rw[y c F];exact th G),J _ ⟨b2,p,s,U,dF.aV (m:=b) (o:=0) (r:=[.s p,.s s]) v,NT.mn _ _ _ _ _ I O,R⟩⟩
def BF.cy(d:BF e g h a k Q W M)(j:Rd g h i a)(l:Q<=Q'):∃b:E,aS M k 0=some b.v/\∃c:E,aS M k 1=some c.v/\PP NT (UN True W) e g h a Q' (.agg #[b.v,c.v]) (aV M a.size 0 [.s b,.s c]):=
 let⟨f,r,_,B,t,u⟩:=d.x
 ⟨f,B.dx 0,r,B.dx 1,d.b.kH NT.mn j bO t u l⟩
end
variable{e:ad}{a:bg}{g P:Nat}{h:E}
def ad8{f:Nat}{d:ap}{M:bg}{Q:Nat}{a:af}{W:Nat}(k:Y2 f d M e g h Q a λb=>CJ a b c W)(hd:a∈vA):bK dO f d M (PP NT (UN c W) e g h M Q):=
 k.aP λ_ _⟨i,l,b,j,n,o,r,x⟩=>⟨i,l,(a,b),j,n,⟨o,hd⟩,r,x⟩
def Xy(i:∀c∈e,c<a.size)(k:g∈e)(b:Rd g h P a)(f:P+4<=10^16){W:Nat}(j:W<=200000000000)(d r:E)(x:af×List j7)(t:NT (dB e a) d r x)(u:UN True W x):bK dO 194 [vp g 0,.agg #[d.v,r.v]] a (PP NT (UN True (W+4)) e g h a (P+4)):=
 ad8 (Vg i k b f t u.1 j) u.2
def GY(y:∀c∈e,c<a.size)(l:g∈e)(f:Rd g h P a)(Z:P+1000+4*(300+40*Cg 18)<=10^16):bK dO 129 [vp g 0] a (PP NT (UN True 98289774148) e g h a (P+24+4*(300+40*Cg 18))):=by
 apply Ax (g,0);simp -zeta only[dR];have k:=f.lt;intro E;have z1:=pz E;obtain⟨b1,-⟩:BS [a.size] g h a P E/\True:=⟨(BS.mM (S:=e) f).1,trivial⟩;refine b1.jF (S:=e) k (λ_ b=>b) (Jg (b1.hS y) (by simp[l]) b1.s.r V) λC F H d G t2 b2 I=>?_;have z2:=I.aQ;intro K L;let⟨b4,J,A⟩:=b2.bV (S:=e) (m1:=K) (m2:=L) O O O;have X:=NT.mn _ _ _ _ _ J t2;have p:d.size≠a.size:=V;have n:∀{M:bg}{Q W:Nat},BF e g h a d.size Q W M->∀c∈d.size::a.size::e,c<M.size:=λb=>b.b.hS y;have D:g∈d.size::a.size::e:=by simp[l]
 refine⟨BF e g h a d.size (P+17+4*(300+40*Cg 18)) 104504,?_,λR U=>?_⟩
 .refine b4.lP k V (λ_ b=>b) 4 λz m5 _ _ b5 s=>?_;have t:=NT.mn _ _ _ _ _ (BS.le (B:=[d.size,a.size]) l s) X;have q:=A.congr (s.bG _ A.lt eX);refine⟨λ_=>b5.jF (S:=e) k (λ_ b=>b) (Xy (b5.hS y) D b5.s.r V V C F H t G) λi j x N Y T b6 v=>?_,λ_=>BF.aP ⟨b5,C,F,H,q,t,G⟩ V V⟩;intro R;let⟨u,w⟩:=b6.cG (S:=e) f (by simp:d.size∈_) [.s i,.s j];exact BF.aP ⟨u,i,j,x,dF.aV (m:=N) (o:=0) (r:=[.s i,.s j]) (q.congr (v.bG _ q.lt eX)),NT.mn _ _ _ _ _ w T,Y⟩ V V
 refine⟨BF e g h a d.size (P+18+4*(300+40*Cg 18)) 10921086016,?_,λY N=>?_⟩
 .refine U.lP k l V bO 4 λz s q=>⟨λ_=>q.act f p bO (λi j x t u=>Qg (MA (n q) (t.le fN) V u.1) u.2 q.b.s.r) λw b=>b.aP V V,λ_=>q.aP V V⟩
 refine N.lP k l V bO 3 λz aa q=>?_;refine⟨BF e g h a d.size (P+19+4*(300+40*Cg 18)) 98289774144,⟨λ_=>q.act f p bO (λi j x t u=>Qg (JC (n q) (t.le fN) V u.1) u.2 q.b.s.r) λw b=>b.aP V V,λ_=>q.aP V V⟩,λab s=>?_⟩;refine⟨BF e g h a d.size (P+19+4*(300+40*Cg 18)) 98289774144,⟨λ_=>s.act f p bO (λi j x t u=>Qg (RO (n s) (t.le fN) V u.1) u.2 s.b.s.r) λw b=>b.aP V V,λ_=>s.aP V V⟩,λac T=>?_⟩;refine T.lP k l V bO 6 λz ad v=>⟨λ_=>v.act f p bO (λi j x t u=>Xy (n v) D v.b.s.r V V i j x t u) λw b=>b.cy f V,λ_=>(v.aP (Q':=P+24+4*(300+40*Cg 18)) (W':=98289774148) V V).cy f V⟩
def MH(j:∀c∈e,c<a.size)(l:g∈e)(d:Rd g h P a)(B:P+1000+4*(300+40*Cg 18)<=10^16):bK dO 73 [vp g 0] a (PP IT UI e g h a (P+25+4*(300+40*Cg 18))):=by
 apply Fe (g,0);simp -zeta only[dR];have f:=d.lt;intro p;obtain⟨b1,-⟩:BS [a.size] g h a P p/\True:=⟨(BS.mM (S:=e) d).1,trivial⟩;refine b1.jF (S:=e) f (λ_ b=>b) (GY (b1.hS j) (by simp[l]) b1.s.r V) λv H K D m t2 b2 y=>?_;refine b2.jF (S:=e) f (λ_ b=>b) (abO (QQ (b2.hS j) (t2.le fN) m.1 V) m.2 b2.s.r) λw I L E i t3 b3 z=>?_;intro q r;obtain⟨b5,o,-⟩:=b3.bV (S:=e) (m1:=q) (m2:=r) O O O;have s:=IT.mn _ _ _ _ _ o t3;refine b5.lP f V (λ_ b=>b) 3 λC F _ _ b6 n=>?_;have k:=IT.mn _ _ _ _ _ (BS.le l n) s;refine⟨λ_=>?_,λ_=>b6.kH IT.mn d bO k i V⟩;exact b6.jF (S:=e) f (λ_ b=>b) (abO (Na (b6.hS j) (k.1.le fN) (xc i.2) (mh.le fN k.2) i.1) i.2 b6.s.r) λx J M G u t b A=>b.kH IT.mn d bO t u V
end
section
variable{b:ae}{x:Instr}
section
variable{S:ad}{m M:bg}{a P Q:Nat}{c:E}
def Ia(h:Rs a c m Q M)(i:Q<=10^16)(d:ab){n:Nat}(j:b=d.map Ce.i)(p:n=d.length)(o:0<d.length/\d.length<=100):
 bK dO 77 [vp a 0,E.v (.mk M.size 0 n n)] (M.push (.cells (db b) bB)) λv e=>∃t:Int,v=vi t/\t∈d/\Rs a c m (Q+1) e/\Fz [a] (M.push (.cells (db b) bB)) e:=by
 have x:=D.push M (.cells (db b) bB)
 have s:=h.r.lt
 refine(og (h.ext x).r i (ba.km bB (l:=d) cB j p V) o.1).aP λv e⟨q,g,k,r,f⟩=>⟨q,g,k,(h.ext x).to f r,f⟩
def _root_.Go.Vc.Gr.P5{b c:bg}{s:E}{l:ab}(h:GI S b M s l)(f:Fz [a] M c)(d:a<b.size):GI S b c s l:=have:=h.cJ;GI.lZ h (f.bG _ this.2 cB)
def AP(j:Rd a c P m)(hP:P+10<=10^16){F:E}{l:ab}(S:ba m F l)(hb:l.length<=10^12):bK dO 133 [vp a 0,F.v] m λaa n=>∃s b,aa=s.v/\GI [] m n s b/\b.length<=l.length+1/\(∀w∈b,w∈l\/-1<=w/\w<=1001)/\Rd a c (P+3) n/\Fz [a] m n:=by
 apply wR (a,0);have g:=j.lt;refine(dC [] S V).aP λ_ W⟨s,b,e,i,J,H⟩=>⟨s,e,?_⟩;subst J;have ac:=i.aT cD;have o:Rs a c m P W:=⟨H.fz _,j.ext H⟩;have kH:∀{M:bg}{Q:Nat},Rs a c m Q M->Q<=P+2->GI [] m M s l->bK dO 77 [vp a 0,E.v (.mk M.size 0 5 5)] (M.push (.cells (db [.i 0,.i 1,.i 2,.i (-1),.i 1000]) bB)) λr q=>∃h:Int,r=vi h/\
  mj (q.push (.cells (db [.i h]) bB)) bB [.i 0] 8 s (.mk q.size 0 1 1) λt p=>∃s b,t.v=s.v/\GI [] m p s b/\b.length<=l.length+1/\(∀w∈b,w∈l\/-1<=w/\w<=1001)/\Rd a c (P+3) p/\Fz [a] m p:=λ{M Q} rM hQ gM=>
  (Ia rM V [0,1,2,-1,1000] O O bO).aP λ_ q⟨t,e,B,f,d⟩=>⟨t,e,by
   have g2:=(gM.ext (D.push M _)).P5 d g;refine GI.nE g2 f.f V λr n L v z' Y=>⟨r,_,O,L,bO,λw C=>?_,?_,v⟩
   .grind
   .exact(j.Bu f.r v (Y a f.r.lt (oh g2.cJ))).aP V⟩
 refine⟨λR=>?_,λ_=>kH o V i⟩;simp only[bh]at R;refine(dX o.r V 2).aP λ_ m2⟨T,e,_,_,u,d⟩=>⟨T,e,λ_=>?_,λ_=>kH (o.to d u) V (i.P5 d g)⟩;have f:=o.to d u;refine(dX f.r V (s.len:Int)).aP λ_ X⟨h,e,U,k1,I,x⟩=>⟨h,e,?_⟩;refine(Ia (f.to x I) V [0,1,-1,7,1000,1001] O O bO).aP λ_ m5⟨t,e,B,G,K⟩=>⟨t,e,U,V,?_⟩;have z:=(((i.P5 d g).P5 x g).ext (D.push X _)).P5 K g;let⟨w,N,y,Z⟩:=z.dY G.f (k:=h.toNat) V t;refine⟨w,s,_,O,N,bO,λw C=>?_,(j.Bu G.r y (Z a (oh z.cJ))).aP V,y⟩;rcases jc C with A|A
 .exact bC A
 .simp at B;exact bR V
def IX(Z:ad)(a:Nat)(c:E)(m:bg)(P:Nat)(U:Instr->Prop)(v:Value)(b:bg):Prop:=∃x d j,v=inV x d j/\ba (dB Z b) d x.aO/\ba (dB Z b) j x.gE/\U x/\Rd a c P b/\Fz [a] m b
def AA(S:ad){o s:E}(u:ba m o x.aO)(v:ba m s x.gE)(r:x.aO.length<=10^12/\x.gE.length<=10^12):
 bK dO 199 [inV x o s] m λy j=>∃c d,y=inV x c d/\GI S m j c x.aO/\GI S m j d x.gE/\c.bz≠d.bz/\D m j:=by
 apply vn
 simp -zeta only[dR]
 intro k l
 let⟨e,i⟩:=fU (a:=k) (c:=l) O O
 have F:=pz k
 have b:∀{M n:bg},D l M->D M n->∀t,aS n m.size t=aS M m.size t:=by grind [bE,D.bG,D.lt]
 refine(dC S (u.ext e) r.1).bL (D.cU l) i λc _ A p g a _=>⟨_,O,b cY a _,b cY a _,b cY a _,b cY a _,b cY a _,?_⟩
 subst g
 refine(dC S (v.ext (e.J a)) r.2).bL a i λd _ B q g f w=>⟨_,O,b a f _,b a f _,b a f _,b a f _,?_⟩
 subst g
 intro C
 have G:=p.cJ;have H:=q.cJ
 have z:=i k.size bO
 exact⟨c,d,O,((p.ext f).lZ (cq _ _ _ _ V)).cW (λ_ h=>h) e.aQ,(q.lZ (cq _ _ _ _ V)).cW (λ_ h=>h) (e.J a).aQ,V,(e.J w).aV V _ _⟩
end
@[grind cases] structure BI (a0:bg) (k rb:Nat) (bs:E) (m:bg) (Q:Nat) (M:bg) (a j:E) (l l':ab):Prop where
 ga:GI [] a0 M a l
 gj:GI [] a0 M j l'
 ne:a.bz≠j.bz
 s:Rs rb bs m Q M
 lo:m.size+2<=a0.size/\l.length<=1000000000001/\l'.length<=1000000000001
 hi:a.bz≠k/\j.bz≠k/\m.size<=k/\k<M.size
section
variable{Z L:ad}{g m M d:bg}{c k P h Q i:Nat}{e a j:E}{l f:ab}
def BI.to(h:BI g k c e m Q M a j l f)(n:c<m.size)(b:Fz [c] M d)(r:Rd c e i d):BI g k c e m i d a j l f:=
 have:=h.lo
 ⟨h.ga.P5 b V,h.gj.P5 b V,h.ne,h.s.to b r,h.lo,h.hi.1,h.hi.2.1,h.hi.2.2.1,cw h.hi.2.2.2 b.aQ⟩
def BI.cG(h:BI g k c e m Q M a j l f)(d:Rd c e P m){o:Nat}{b:ae}:BI g k c e m Q (aV M k o b) a j l f:=
 have:=h.lo;have:=h.hi;have:=h.ga.cJ
 ⟨GI.lZ h.ga (cq _ _ _ _ V),GI.lZ h.gj (cq _ _ _ _ V),h.ne,h.s.cG d V _ _,h.lo,by rw[bD];exact h.hi⟩
def BI.kH{U:Instr->Prop}(d:BI g k c e m Q M a j l f)(v:Rd c e P m)(t:∀i∈Z,i<m.size){o:Nat}(y:o=m.size+1)(w:Q<=h){s p n r:Int}(x:U ⟨s,p,n,r,l,f⟩):IX Z c e m h U (.agg #[vi s,vi p,vi n,vi r,a.v,j.v]) (aV M o 0 b):=by
 have:=d.lo;have:=d.hi;have z:=d.ga.cJ;have A:=d.gj.cJ;have u:=d.s.cG v (k:=o) V 0 b;exact⟨⟨s,p,n,r,l,f⟩,a,j,O,Gr.cr yo.aP (GI.jY (GI.lZ d.ga (cq _ _ _ _ V))) (λi q=>oh (t i q)) cD (fD d.lo.2.1 cD),Gr.cr yo.aP (GI.jY (GI.lZ d.gj (cq _ _ _ _ V))) (λi q=>oh (t i q)) cD (fD d.lo.2.2 cD),x,u.r.aP w,u.f⟩
def BI.lP(h:BI g k c e m Q M a j l f)(r:c<m.size)(t:Q<=10^16)(s:∀b∈L,m.size<=b/\b<=k)(p:Int){K:Int->bg->Prop}
 (v:∀i d,0<=i->(i<p\/i=0)->BI g k c e m (Q+1) d a j l f->(∀o,aS d k o=aS M k o)->Fz [c] M d->K i d):bK dO 74 [vp c 0,vi p] M λz d=>gS L M d/\∃i:Int,z=vi i/\K i d:=
 have:=h.lo;have:=h.hi;have:=h.ga.cJ
 (dX h.s.r t p).aP λ_ d⟨i,q,w,x,y,n⟩=>⟨n.eV λb u=>by have:=s b u;simp;omega,i,q,v i d w x (h.to r n y) (λo=>bE (n.bG k h.hi.2.2.2 cB) o) n⟩
end
def YY(x y:Instr):Prop:=(∀k,Ri k x->Ri k y)/\y.aO.length<=10^12/\y.gE.length<=10^12
def My{Z:ad}{m:bg}{i P:Nat}{s F I:E}(f:∀d∈Z,d<m.size)(a:Rd i s P m)(hP:P+10<=10^16)(S:ba (dB [i] m) F x.aO)(hj:ba m I x.gE)(c:x.aO.length<=10^12/\x.gE.length<=10^12)(hx:∃J,Ri J x):
 bK dO 132 [vp i 0,inV x F I] m (IX Z i s m (P+3) (YY x)):=by
 apply EP (i,0)
 simp(config:={maxSteps:=1000000}) -zeta only[dR]
 have j:=a.lt
 intro t L
 let⟨W,hl⟩:=fU (a:=t) (c:=L) O O
 have n:=pz t
 have s2:L.size=m.size+2:=cB
 refine(AA [] ((S.le fN).ext W) (hj.ext W) c).aP λ_ u⟨G,K,e,ga,gj,T,X⟩=>⟨X.eV hl,_,_,_,_,_,_,e,?_⟩
 intro m4 U
 obtain⟨Q,-,z5⟩:=nG (M:=u) (c:=m4) (a:=U) O O O
 clear_value U
 have ya:=ga.cJ;have yj:=gj.cJ
 have X5:=(W.J X).J Q
 have b5:BI L u.size i s m P U G K x.aO x.gE:=⟨ga.ext Q,gj.ext Q,T,⟨X5.fz _,a.ext X5⟩,⟨V,tf c.1,tf c.2⟩,V,V,V,V⟩
 have q:∀p∈[u.size,t.size,m.size],m.size<=p/\p<=u.size:=cB
 let⟨o,y,B,z,r,A⟩:=x
 have GO:YY ⟨o,y,B,z,r,A⟩ ⟨o,y,B,z,r,A⟩:=⟨λ_ h=>h,c⟩
 refine b5.lP j V q 5 λaf g _ _ b6 _ f6=>?_
 have w:∀{Y:bg}{aa:Nat},BI L u.size i s m aa Y G K r A->aa<=P+3->IX Z i s m (P+3) (YY ⟨o,y,B,z,r,A⟩) (.agg #[vi o,vi y,vi B,vi z,G.v,K.v]) (aV Y t.size 0 [.i o,.i y,.i B,.i z,.s G,.s K]):=λh hQ=>h.kH a f n hQ GO
 have ab:o=16\/o=17->(0:Int)<=0/\(0:Int)<(F.len:Int)/\∃v:Int,aS g F.bz (F.off+Int.toNat 0*1)=some (vi v)/\IX Z i s m (P+3) (YY ⟨o,y,B,z,r,A⟩) (.agg #[vi 15,vi 0,vi 0,vi 0,E.v (.mk g.size 0 1 1),E.v .nil]) (aV (g.push (.cells (db [.i v]) bB)) t.size 0 [.i 15,.i 0,.i 0,.i 0,.s (.mk g.size 0 1 1),.s .nil]):=λe=>by
  have hn:0<r.length:=let⟨_,h⟩:=hx;h.arg cB;have ac:=S.aT;let⟨C,hy⟩:=dV r 0 hn;have z6:=b6.hi;have r7:=(b6.s.ext (D.push g (.cells (db [.i C]) bB))).cG a (k:=t.size) V 0 [.i 15,.i 0,.i 0,.i 0,.s (.mk g.size 0 1 1),.s .nil];have R:GI [] g (g.push (.cells (db [.i C]) bB)) (.mk g.size 0 1 1) [C]:=Gr.km (g:=[[.i C]]) yo.aP bY O O ⟨O,bO,λI b x H N=>by
   cases I with
   |zero=>simp at H N;rw[<-H,<-N];rfl
   |succ I=>simp at H⟩
  exact⟨dT 0,by simp at ac;omega,C,(iO.1 ((S.le (b6.s.f.fj bO)).bt hy)).2,⟨15,0,0,0,[C],[]⟩,_,.nil,O,GI.cr (GI.jY (GI.lZ R (cq _ _ _ _ eX))) (λd N=>oh (f d N)) bO,⟨O,iD _,bO,bO⟩,⟨λ_ _=>⟨sx,sx⟩,bO,bO⟩,r7.r.aP V,r7.f⟩
 refine⟨λ_=>⟨λe=>?_,λ_=>⟨λe=>(b6.cG a).kH a f n V ⟨λ_ _=>⟨sx,sx⟩,c⟩,λ_=>⟨λe=>?_,λ_=>w b6 V⟩⟩⟩,λ_=>⟨λ_=>⟨λH=>?_,λ_=>w b6 V⟩,λ_=>⟨λ_=>?_,λ_=>⟨λ_=>⟨λe=>ab (bC cB),λ_=>⟨λe=>ab (bR cB),λ_=>⟨λe=>b6.lP j V q 4 λv N _ _ d _ _=>(d.cG a).kH a f n V ⟨λ_ h=>⟨h.Oe,h.arg⟩,c⟩,λ_=>w b6 V⟩⟩⟩,λ_=>⟨λ_=>⟨λe=>?_,λ_=>⟨λe=>?_,λ_=>w b6 V⟩⟩,λ_=>w b6 V⟩⟩⟩⟩⟩
 .simp only[bP]at e
  exact(b6.cG a).kH a f n V ⟨λ_ _=>⟨sx,sx⟩,c⟩
 .simp only[bP]at e
  exact(b6.cG a).kH a f n V ⟨λ_ h=>⟨sx,λ_=>h.arg (by simp[e])⟩,c⟩
 .simp only[bh]at H
  have ac:=b6.ga.aT cD
  refine b6.lP j V q (G.len:Int) λJ m7 k0 k1 b7 R f7=>⟨R 4,b7.lP j V q 4 λv N _ _ d g8 f8=>⟨g8 4,k0,V,?_⟩⟩
  let⟨ae,g9,f9,q9⟩:=GI.dY d.ga (((((X.J Q).fz [i]).J f6).J f7).J f8) (k:=J.toNat) cB v
  have yb:=d.hi
  refine⟨ae,λp c=>q9 p cB,BI.kH (k:=u.size) (l:=r.set J.toNat v) (f:=A) ⟨g9,GI.lZ d.gj (q9 _ (th T)),T,⟨d.s.f.aV (bR V) _ _,a.aV d.s.r d.s.f V _ _⟩,⟨V,by simpa using tf c.1,tf c.2⟩,V,V,V,by rw[bD];omega⟩ a f n V ⟨λ_ h=>⟨h.Oe,λe=>by simpa using h.arg e⟩,sp c⟩⟩
 .refine(Cc o g).jY.aP λ_ m7⟨p,e,J⟩=>⟨J.eV λp c=>VI (q p c) b6.hi,p,e,λ_=>?_,λ_=>w (b6.to j (J.fz _) (b6.s.r.ext J)) V⟩
  exact(b6.to j (J.fz _) (b6.s.r.ext J)).lP j V q 4 λv N _ _ d _ _=>(d.cG a).kH a f n V ⟨λ_ h=>⟨h.Oe,h.arg⟩,c⟩
 .simp only[bP]at e
  exact b6.lP j V q 9 λv N _ _ d _ _=>(d.cG a).kH a f n V ⟨λ_ h=>⟨λh=>by simp[e]at h,h.arg⟩,c⟩
 .simp only[bP]at e
  exact b6.lP j V q 3 λv N _ _ d _ _=>(d.cG a).kH a f n V ⟨λ_ h=>⟨λh=>by simp[e]at h,h.arg⟩,c⟩
end
section
def RA(M:bg)(c:ae)(x:eG×E):Prop:=∃a b,c=[.s a,.s b,.i x.1.bQ,.i x.1.aU,.s x.2]/\ba M a x.1.aY/\ba M b x.1.df
def RA.aP:sE 5 RA:=⟨λh⟨a,b,e,c,d⟩=>⟨a,b,e,c.le h,d.le h⟩,λ⟨_,_,e,_⟩=>by rw[e];rfl⟩
def hd(x:eG×E):eG×E:=({x.1 with eA:=[]},x.2)
abbrev Ks(l:aE):ad:=l.map λx=>x.2.bz
@[grind cases] structure ym (S:ad) (m0 M:bg) (dd q:E) (ds:af) (l:aE):Prop where
 d:dA (dB (q.bz::(Ks l++S)) M) dd ds
 g:Gr (Ks l++S) m0 M nW 5 RA q (l.map hd)
 c:∀x∈l,Gr (q.bz::(Ks l++S)) m0 M fA 6 gG x.2 x.1.eA
 nd:(Ks l).Nodup
 lt:∀b∈S,b<M.size
 nq:q.bz∉S
 nc:∀x∈l,x.2.bz∉S
variable{S S' Y:ad}{e k M j:bg}{f q:E}{h:af}{l:aE}
def ym.kq(a:ym S e M f q h l):∀x∈l,x.2.bz≠q.bz:=by grind [ym.c,Gr.Qf,ym.g]
def ym.re(c:ym S e M f q h l)(m:Fz Y M j)(d:∀b∈Y,b∈S)(p:∀b∈S',(b∈S\/M.size<=b)/\b<j.size)(n:k.size<=e.size):ym S' k j f q h l:=by
 have s:=c.g.cJ;have r:∀{b:Nat},b∈Ks l++S'->b∈Ks l++S\/M.size<=b:=λa=>by
  grind [List.mem_append_left,List.mem_append_right]
 have o:∀{b:Nat},b∈q.bz::(Ks l++S')->b∈q.bz::(Ks l++S)\/M.size<=b:=λa=>by
  grind [List.mem_cons_of_mem]
 refine⟨c.d.le (m.dB (λb a=>by simp[d b a]) λb a=>o a),Gr.cW RA.aP (c.g.re RA.aP m (λb a=>by simp[d b a]) (λg=>c.nq (d _ g)) λb a=>r a) (λb a=>bC a) n,λx i=>Gr.cW gG.aP ((c.c x i).re gG.aP m (λb a=>by simp[d b a]) (λg=>c.nc x i (d _ g)) λb a=>o a) (λb a=>bC a) n,c.nd,λb a=>(p b a).2,λg=>?_,λx i g=>?_⟩
 .grind [ym.nq]
 .have:=(c.c x i).cJ;grind [ym.nc]
def ym.eA(a:ym S e M f q h l){y:eG×E}(b:y∈l)(i:y.1.eA.length<=10^12):je (dB (q.bz::S) M) y.2 y.1.eA:=
 have g:=(a.c y b).re gG.aP (Fz.cU [] M) bO bO λc d=>bC cB
 g.rU gG.aP (by simp;exact⟨a.kq y b,a.nc y b⟩) cD V
def ym.gr(g:ym S e M f q h l)(u:∀x∈l,x.1.eA.length<=10^12):Gr S e M nW 5 oJ q (l.map (·.1)):=by
 let⟨v,n,z,r⟩:=g.g;refine⟨v,n,z,sp r.aT,r.aQ,λk m x t b=>?_⟩;rw[eE]at b;cases c:l[k]? with
 |none=>simp[c]at b
 |some y=>
  simp[c]at b;subst b;let⟨j,d,a,o,p⟩:=r.eS k m (hd y) t (by simp[c]);have i:=aZ c;have w:Le (dB (q.bz::(Ks l++S)) M) (dB (q.bz::S) M):=mS M λd s=>by rcases bo.1 s with a|a<;>simp[a]
  exact⟨j,d,y.2,a,o.le w,p.le w,g.eA i (u y i)⟩
def ym.Dh{L:ad}{j G:bg}{t b ks:E}{p:eG}{g tb i:Nat}{bc:ae}{P:bg->Prop}(n:ym S e M f q h l)(x:D M j)(Q:Gr (q.bz::(Ks l++S)) G j fA 6 gG ks p.eA)(h8:M.size<=G.size)
 (ha:ba (dB (ks.bz::q.bz::(Ks l++S)) j) t p.aY)(d:ba (dB (ks.bz::q.bz::(Ks l++S)) j) b p.df)(Z:dF M g tb bc)(hi:i<bc.length)(v:e.size<=g/\g∈S)(R:∀b∈L,b<j.size/\b≠g/\b≠q.bz)(hl:l.length<=1000)(T:D e M)
 (hk:∀r k,ym S e k f r h (l++[(p,ks)])->dF k g tb (kJ bc i [.s r])->D e k->P k):
 aS (j.push (.cells (db [.s t,.s b,.i p.bQ,.i p.aU,.s ks]) nW)) g i=aS j g i/\
 mj (j.push (.cells (db [.s t,.s b,.i p.bQ,.i p.aU,.s ks]) nW)) nW [.s .nil,.s .nil,.i 0,.i 0,.s .nil] 88 q (.mk j.size 0 1 1) λr k=>gS L (j.push (.cells (db [.s t,.s b,.i p.bQ,.i p.aU,.s ks]) nW)) k/\jb k g i 1/\(gS L k (aV k g i [.s r])/\P (aV k g i [.s r])):=by
 have z:=Z.ext x
 have U:=D.push j (.cells (db [.s t,.s b,.i p.bQ,.i p.aU,.s ks]) nW)
 have yk:=Q.cJ
 have yq:=n.g.cJ
 have hq:q.bz≠g:=λc=>n.nq ((c▸v.2))
 have kx:ks.bz∉S:=λo=>by have:=n.lt _ o;omega
 have ck:∀y∈l,y.2.bz<M.size:=λy s=>(n.c y s).cJ.2
 have I:∀b∈Ks (l++[(p,ks)])++S,b∈Ks l++S\/b=ks.bz:=λb d=>by
  simp only[Ks,lI,eM,ji,bU,vX]at d⊢;rcases d with(c|c)|c<;>simp[c]
 have g1:=n.g.re RA.aP (x.fz []) bO bO λb d=>(I b d).imp id λc=>V
 have Y:Le (dB (ks.bz::q.bz::(Ks l++S)) j) (dB (q.bz::(Ks (l++[(p,ks)])++S)) j):=mS j λb d=>by
  rcases bo.1 d with c|c
  .simp[c]
  .rcases I b c with c|c
   .exact aX _ (aX _ c)
   .simp[c]
 refine⟨bE (U.bG g z.lt) i,Gr.nE (m:=hd (p,ks)) RA.aP cD g1 ((T.J x).fz []) ⟨t,b,O,ha.le Y,d.le Y⟩ eX λr k ab aa J F=>?_⟩
 have K:=z.congr (F g z.lt (th hq))
 have hr:r.bz≠g:=by have:=z.lt;omega
 have A:∀b,b≠g->(aV k g i [.s r])[b]? =k[b]? :=λb d=>cq _ _ _ _ d
 have N:Fz [q.bz,g] j (aV k g i [.s r]):=⟨by rw[bD];exact J.1,λb d w=>(A b (by simp at w;omega)).trans (F b d (by simp at w;omega))⟩
 have B:Fz [q.bz,g] M (aV k g i [.s r]):=(x.fz _).J N
 have F0:D e (aV k g i [.s r]):=(aa.aV (bR v.1) _ _).ext
 have W:∀b∈r.bz::(Ks (l++[(p,ks)])++S),(b∈q.bz::(Ks l++S)\/b=ks.bz)\/j.size<=b:=λb d=>by
  rcases bo.1 d with c|c
  .rcases J.2 with u|u
   .exact bC (bC (by simp[c,u]))
   .exact bR V
  .exact bC ((I b c).imp (aX _) id)
 have X:∀b∈r.bz::(Ks (l++[(p,ks)])++S),b∈q.bz::(Ks l++S)\/M.size<=b:=λb d=>(W b d).elim (λc=>c.imp id λc=>V) λc=>bR V
 have H:∀b∈[q.bz,g],b∈q.bz::(Ks l++S):=λb d=>by simp at d;rcases d with c|c<;>simp[c,v.2]
 refine⟨λb d=>?_,K.jb V,λb d=>A b (R b d).2.1,hk r _ ⟨n.d.le (B.dB H X),?_,λy s=>?_,?_,λb d=>?_,λo=>?_,λy s o=>?_⟩ (dF.aV (m:=k) K) F0⟩
 .have C:=R b d
  rw[F b V C.2.2,U.bG b V]
 .rw[lI]
  let⟨g0,C,g1,g2⟩:=ab
  exact⟨g0,C,g1.congr (A _ hr),g2.aP λcs y=>RA.aP.le (tG λb d w=>⟨w,A b λc=>w (by rw[c];simp[v.2])⟩)⟩
 .rcases bU.1 s with c|c
  .exact(n.c y c).re gG.aP B H (by simp;exact⟨n.kq y c,λu=>n.nc y c (u▸v.2)⟩) X
  .simp at c
   subst c
   let⟨ac,C,af,rr⟩:=Q
   have w:Gr (ks.bz::q.bz::(Ks l++S)) G j fA 6 gG ks p.eA:=⟨ac,C,af,rr.aP λcs y=>gG.aP.le (mS j λb d=>by
    rcases bo.1 d with c|c
    .simp[c]
    .exact c)⟩
   exact Gr.cW gG.aP (w.re gG.aP N (λb d=>aX _ (H b d)) (by simp;exact⟨V,λu=>kx (u▸v.2)⟩) λb d=>(W b d).imp (λc=>c.elim (aX _) λc=>by simp[c]) id) (λb d=>bC d) (oh T.aQ)
 .simp only[Ks,lI,eM,ji]
  refine List.nodup_append.2 ⟨n.nd,bO,λb d u o=>?_⟩
  simp at o d
  obtain⟨w,C,s,rfl⟩:=d
  have:=ck _ s
  simp at this;omega
 .have:=n.lt b d
  have:=B.aQ
  omega
 .rcases J.2 with c|c
  .exact n.nq (c▸o)
  .have:=n.lt _ o;omega
 .rcases bU.1 s with c|c
  .exact n.nc y c o
  .simp at c
   subst c
   exact kx o
end
def Az{g:ad}{m:bg}(Q:∀c∈g,c<m.size){ac ak:E}{F:af}{z:av}(hd:dA m ac F)(ht:eR F)(hp:mh m ak z)(ah:DQ z):
 bK dO 131 [.agg #[ac.v,ak.v]] m λK X=>∃s q l,K=.agg #[s.v,q.v]/\ym g m X s q F l/\l.map (·.1)=z/\D m X:=by
 apply EX
 simp -zeta only[dR]
 intro b a2
 let⟨x2,hl⟩:=fU (a:=b) (c:=a2) O O
 have s1:=pz b
 have aE:=hp.aT;have aD:=ah.p7
 refine(jK (b:=b.size::g) (dE Q x2.aQ (hl _ bO)) (hd.le x2.le) ht).aP λ_ y⟨s,e,ar,x3⟩=>?_
 subst e
 refine⟨x3.eV hl,_,O,?_⟩
 intro h ay aj
 have Y:=x2.J x3
 let⟨x5,B0,g0,s3,s5⟩:=om (b:=h.size::b.size::g) RA.aP (d:=y) (a:=h) (c:=ay) (j:=aj) O O O
 have ag:∀c∈[b.size,m.size],c<y.size:=λc d=>x3.lt (hl c d)
 have i1:=ag b.size bO
 have z2:=Y.aQ
 have A0:ym (h.size::b.size::g) y aj s (.mk y.size 0 0 0) F []:=⟨ar.le (x5.dB λf o=>by
  simp only[Ks,ji,iA,bo]at o;rcases o with e|e|e
  .exact bR ((e▸bY))
  .exact bR V
  .exact bC (bo.2 e)),g0,bO,bO,λf o=>by
   simp only[bo]at o;rcases o with e|e|e
   .omega
   .omega
   .have:=Q f e;omega,λd=>by
   simp only[bo]at d;rcases d with e|e|e
   .simp at e;omega
   .simp at e;omega
   .have:=Q _ e;simp at this;omega,bO⟩
 refine gP (n:=z.length) V (λW M=>D y M/\∃j l,ym (h.size::b.size::g) y M s j F l/\dF M h.size uT [.s s,.s j]/\l.map (·.1)=z.take W) ⟨x5,_,[],A0,B0,O⟩ ?_
 rintro W M aB μ hk ⟨Z,j,l,A,B,R⟩ aA
 have zM:=Z.aQ
 refine dit (λw=>?_) λw=>?_
 .let⟨q,hq⟩:=dV z W
  have U:=ah.eS q (aZ hq)
  have q3:=U.aY;have q4:=U.df;have qf:=U.p7
  have v6:=Y.J Z
  let⟨aC,f,c,c1,c2,c3,e0,e1,e2,e3,e4⟩:=hp.bt hq
  have G:∀{K:Value}{f x:Nat},aS m f x=some K->aS M f x=some K:=λw=>v6.aS w
  refine⟨V,V,_,G e0,_,G e1,_,G e2,_,G e3,_,G e4,?_⟩
  intro m7 r
  obtain⟨P,-,s8⟩:=nG (a:=r) O O O
  have T:∀c∈[M.size,b.size,m.size],c<r.size:=λc d=>by
   rcases bo.1 d with e|e
   .omega
   .have:=ag c e;omega
  have w8:=v6.J P
  have hT:∀{v:bg},M.size<=v.size->∀c∈j.bz::(Ks l++(h.size::b.size::g)),c<v.size:=λw c d=>by
   rcases bo.1 d with e|e
   .have:=A.g.cJ;omega
   .rcases bU.1 e with e|e
    .obtain⟨t,k,rfl⟩:=gK.1 e;have:=(A.c t k).cJ;omega
    .have:=A.lt c e;omega
  intro m9
  have x9:=px m9
  have ap:Gr (j.bz::(Ks l++(h.size::b.size::g))) r m9 fA 6 gG (.mk r.size 0 0 0) []:=Gr.bF _ bY
  have aq:=c3.aT
  refine gL (n:=q.eA.length) (aq▸c3.kK) (λab ks t=>D r t/\Gr (j.bz::(Ks l++(h.size::b.size::g))) r t fA 6 gG ks (q.eA.take ab)) ⟨x9,ap⟩ ?_
  rintro ab ks t I2 μ2 hj ⟨k,H⟩ az
  have X2:=w8.J k
  have z2:=k.aQ
  have ax:∀c∈[M.size,b.size,m.size],c<t.size:=λc d=>k.lt (T c d)
  refine dit (λh2=>?_) λh2=>?_
  .let⟨J,C⟩:=dV q.eA ab
   let⟨pa,pj,ha,aw,N,ae,ai,am,an,ao⟩:=(je.ext X2 c3).bt C
   have yk:=H.cJ
   refine⟨V,V,_,N,_,ae,_,ai,_,am,_,an,_,ao,?_⟩
   refine(AB (S:=ks.bz::j.bz::(Ks l++(h.size::b.size::g))) (λc d=>?_) ha aw (U.pL J (aZ C))).aP λK aF⟨a',j',e,aa,au,u⟩=>⟨λc d=>u.bG c (ax c d),_,_,_,_,_,_,e,?_⟩
   .rcases bo.1 d with e|e
    .omega
    .exact hT V c e
   intro aG
   refine Gr.nE (h:=[.i 0,.i 0,.i 0,.i 0,.s .nil,.s .nil]) (m:=J) gG.aP cD (H.ext gG.aP u) ((k.J u).fz []) ⟨a',j',O,aa,au⟩ eX λal M3 g3 I z3 aH=>⟨D.sN ((k.J u).bZ _) I.ext T,az V _ _ ⟨I.ext,?_⟩⟩
   rw[bX C];exact g3
  .rw[eQ V]at H
   have u:∀{M1 t:bg},D r M1->D M1 t->∀f,f<r.size->∀x,aS t f x=aS M1 f x:=λw h' f o x=>bE (h'.bG f (w.lt o)) x
   have I:M.size<r.size:=V
   have i2:h.size<r.size:=cw B.lt P.aQ
   refine⟨j,(B.ext (P.J k)).dx 1,?_⟩
   refine(dC [] (c1.ext X2) V).bL k T λa' _ ao ga e C J=>⟨_,O,u k C _ I _,u k C _ I _,u k C _ I _,u k C _ i2 _,?_⟩
   subst e
   refine(dC [] (c2.ext (w8.J J)) V).bL J T λb' _ ai gb e N am=>⟨_,O,u J N _ I _,u J N _ I _,u J N _ i2 _,?_⟩
   subst e
   intro au
   have aw:=am.aQ
   have yk:=H.cJ
   have ae:∀{v:bg},t.size<=v.size->∀c∈ks.bz::j.bz::(Ks l++(h.size::b.size::g)),c<v.size:=λw c d=>by
    rcases bo.1 d with e|e
    .omega
    .exact hT V c e
   have aa:ba (dB (ks.bz::j.bz::(Ks l++(h.size::b.size::g))) ai) a' q.aY:=(GI.cr (GI.jY ga) (ae bY) V).le N.fj
   have an:ba (dB (ks.bz::j.bz::(Ks l++(h.size::b.size::g))) ai) b' q.df:=GI.cr (GI.jY gb) (ae C.aQ) V
   have ll:l.length=W:=by have:=vw List.length R;simp at this;omega
   have yq:=A.g.cJ
   exact A.Dh (i:=1) (bc:=[.s s,.s j]) (tb:=uT) (p:=⟨q.aY,q.df,q.bQ,q.aU,q.eA⟩) (L:=[M.size,b.size,m.size]) (P.J am) (H.ext gG.aP (C.J N)) V aa an B bO ⟨V,bO⟩ (λc d=>by
    have hn:=A.nq;simp only[bo,FZ]at d hn;have:=P.aQ;have:=B.lt;rcases d with e|e|e|e
    .omega
    .omega
    .omega
    .simp at e) V Z λal X A' B' x'=>aA V X ⟨x',al,_,A',B',by rw[bX hq,lI,R];rfl⟩
 .refine⟨s,B.dx 0,j,B.dx 1,?_⟩
  intro v
  rw[eQ V]at R
  have k:Fz [b.size] M v:=(Fz.cU _ M).aV (bC bO) _ _
  exact⟨s,j,l,O,A.re k bO (λf o=>⟨bC (by simp[o]),VI (Q f o) k.aQ⟩) Y.aQ,R,(Y.J Z).aV V _ _⟩
section
variable{cs:ae}{p:eG}{y:Instr}
theorem Vb{α:Type}{l:List α}{f:Nat}{x:α}(h:l[f]? =some x):l.set f x=l:=by
 apply ft;grind [br]
section
variable{a L B X:ad}{g m M:bg}{d q c:E}{e:af}{l:aE}{b Q f k:Nat}{x:eG×E}
def BS.psh(h:BS B b c m Q M){o:Obj}:BS (M.size::B) b c m Q (M.push o):=⟨h.s.ext (D.push M o),λa d=>by
 have z:=h.s.f.aQ;rw[Array.size_push];rcases bo.1 d with e|e
 .omega
 .have:=h.kA a e;omega⟩
def ym.p7(h:DQ (l.map (·.1)))(a:x∈l):Y9 x.1:=by grind [DQ.eS]
def ym.aT(h:ym a g M d q e l):q.len=l.length:=by grind [ym.g,Gr.aT]
def ym.kZ(o:ym a g M d q e l)(k:l[f]? =some x):∃b c:E,aS M q.bz (q.off+f*5)=some b.v/\aS M q.bz (q.off+f*5+1)=some c.v/\aS M q.bz (q.off+f*5+2)=some (vi x.1.bQ)/\aS M q.bz (q.off+f*5+3)=some (vi x.1.aU)/\aS M q.bz (q.off+f*5+4)=some (E.v x.2)/\ba (dB (q.bz::a) M) b x.1.aY/\ba (dB (q.bz::a) M) c x.1.df:=by
 let⟨z,m,v,r⟩:=o.g;have y:=br k;have t:f<m.length:=by have:=r.aT;simp at this;omega
 let⟨cs,j⟩:=gD t;let⟨b,c,n,p,s⟩:=r.eS f cs (hd x) j (by simp[k]);have kZ:=v.kZ;have w:Le (dB (q.bz::(Ks l++a)) M) (dB (q.bz::a) M):=by grind [mS]
 have bt:∀i h,cs[i]? =some h->aS M q.bz (q.off+f*5+i)=some h.v:=λi h u=>by
  have:=kZ (f*5+i) h (jt r.aQ j u);grind [Nat.add_assoc]
 subst n;exact⟨b,c,bt 0 _ O,bt 1 _ O,bt 2 _ O,bt 3 _ O,bt 4 _ O,p.le w,s.le w⟩
def ym.it(h:ym a g M d q e l)(i:l.length<=1000)(c:∀x∈l,x.1.eA.length<=10^12):IT (dB a M) d q (e,l.map (·.1)):=
 ⟨h.d.le (mS M λf b=>by simp[b]),(h.gr c).rU oJ.aP h.nq cD cB⟩
def ym.afq(h:ym a g M d q e l)(j:Fz X g M)(r:l.length<=1000)(i:∀x∈l,x.1.eA.length<=10^12)(o:k<l.length)(m:oJ (dB (q.bz::a) M) cs p):
 jb M q.bz (q.off+k*5) 5/\∃n,IT (dB a (aV M q.bz (q.off+k*5) cs)) d q (e,n):=by
 obtain⟨w,f,-,-⟩:=(h.gr i).dY oJ.aP j (k:=k) cB m
 have F:Fz [q.bz] M (aV M q.bz (q.off+k*5) cs):=by grind [Fz.cU,Fz.aV]
 exact⟨w,_,h.d.le (F.dB (λc b=>by simp at b;simp[b]) λc b=>bC (by simp[b])),f.rU oJ.aP h.nq cD cB⟩
def ym.wr(h:ym a g M d q e l)(t:Fz X g M)(A:l[f]? =some x)(v:k<x.1.eA.length)(B:gG (dB (q.bz::(Ks l++a)) M) cs y):
 jb M x.2.bz (x.2.off+k*6) 6/\ym a g (aV M x.2.bz (x.2.off+k*6) cs) d q e (l.set f ({x.1 with eA:=x.1.eA.set k y},x.2)):=by
 have p:=aZ A
 have G:x.2.bz∈Ks l:=cB
 have C:∀b∈x.2.bz::q.bz::(Ks l++a),b∈q.bz::(Ks l++a):=λb i=>by
  grind [List.mem_cons_of_mem,List.mem_append_left]
 obtain⟨D,s,-,E⟩:=(h.c x p).dY gG.aP t v (gG.le (mS M C) B)
 have F:Fz [x.2.bz] M (aV M x.2.bz (x.2.off+k*6) cs):=by grind [Fz.cU,Fz.aV]
 have o:∀b∈[x.2.bz],b∈Ks l++a:=by grind [List.mem_append_left]
 have m:Ks (l.set f ({x.1 with eA:=x.1.eA.set k y},x.2))=Ks l:=by
  grind [List.map_set,Vb]
 have u:(l.set f ({x.1 with eA:=x.1.eA.set k y},x.2)).map hd=l.map hd:=by
  grind [List.map_set,Vb,hd]
 have r:∀z∈l.set f ({x.1 with eA:=x.1.eA.set k y},x.2),z=({x.1 with eA:=x.1.eA.set k y},x.2)\/z∈l/\z.2.bz≠x.2.bz:=λz j=>by
  let⟨H,n⟩:=cH.1 j;rw[Il]at n;split at n
  .grind
  .next hne=>
   refine bR ⟨aZ n,λc=>hne ?_⟩;have w:f<(Ks l).length:=by grind [br]
   exact(List.getElem?_inj w h.nd).1 cB
 refine⟨D,?_,?_,λz j=>?_,by rw[m];exact h.nd,λb i=>by rw[bD];exact h.lt b i,h.nq,λz j=>?_⟩
 .rw[m];exact h.d.le (F.fj λb i=>aX _ (o b i))
 .rw[m,u];exact h.g.Sn RA.aP F o (by simp;exactλc=>h.kq x p c.symm)
 .rw[m]
  rcases r z j with c|⟨c,w⟩
  .rw[c];exact s
  .exact(h.c z c).Sn gG.aP F (λb i=>aX _ (o b i)) cB
 .grind [ym.nc]
end
def aaD{c:av}(h:DQ c){f k:Nat}{x:Instr}(g:c[f]? =some p)(i:p.eA[k]? =some x)(d:YY x y):DQ (c.set f {p with eA:=p.eA.set k y}):=by
 have b:=h.eS p (aZ g);refine⟨sp h.jw,sp h.p7,λq j=>?_⟩;rcases jc j with e|e
 .exact h.eS q e
 .subst e;refine⟨b.aY,b.df,sp b.jw,sp b.p7,λl z a=>?_,λz a=>?_⟩
  .simp only[Il]at a;split at a
   .next e=>
    subst e;split at a
    .simp at a;subst a;exact d.1 _ (b.eA _ _ i)
    .simp at a
   .exact b.eA _ _ a
  .rcases jc a with e|e
   .exact b.pL z e
   .rw[e];exact d.2
variable{a:ad}{m:bg}{b P:Nat}{c:E}
def Mz(hS:∀k∈a,k<m.size)(ab:b∈a)(I:Rd b c P m)(hP:P+100<=10^16){aa p:E}{s:af×av}(ae:IT (dB a m) aa p s)(N:UI s):bK dO 75 [vp b 0,.agg #[aa.v,p.v]] m (PP IT UI a b c m (P+11)):=by
 apply EQ (b,0);simp -zeta only[dR];have z:=I.lt;intro i ad;have b2:BS [i.size,m.size] b c m P ad:=BS.psh (BS.mM (S:=a) I).1;have Q:D m ad:=(D.push m _).J (D.push i _);refine(Az (b2.hS hS) ((ae.1.le fN).ext Q) (xc N.2) (fX.aP (mh.le fN ae.2) Q λ_ _=>oJ.le Q.le) N.1).aP λ_ j⟨w,q,l,e,A,hl,Z⟩=>⟨(b2.lw z λ_ h=>h).eV (Z.fz _),w,q,e,?_⟩;have b3:=b2.to (Z.fz _) (b2.s.r.ext Z);intro m4 X;obtain⟨b5,-,-⟩:=b3.bV (S:=a) (m1:=m4) (m2:=X) O O O;obtain⟨x5,-,-⟩:=nG (M:=j) (c:=m4) (a:=X) O O O;have A5:ym ([j.size,i.size,m.size]++a) m X w q s.1 l:=A.re (x5.fz []) bO (λd f=>⟨by
  rcases bo.1 f with e|e
  .exact bR V
  .exact bC e,b5.hS hS d f⟩) Q.aQ
 refine b5.lP z V (λ_ h=>h) 2 λak m6 i0 i1 b6 f6=>?_;have hB:∀d∈[b],d∈[j.size,i.size,m.size]++a:=by simp[ab]
 have L:∀{u M':bg}{l:aE},ym ([j.size,i.size,m.size]++a) m u w q s.1 l->Fz [b] u M'->ym ([j.size,i.size,m.size]++a) m M' w q s.1 l:=λh G=>h.re G hB (λd f=>⟨bC f,cw (h.lt d f) G.aQ⟩) bY;refine⟨λK u=>∃n:Nat,K=n/\n<=2/\BS [j.size,i.size,m.size] b c m (P+11 -5*n) u/\∃l,ym ([j.size,i.size,m.size]++a) m u w q s.1 l/\DQ (l.map (·.1)),λK _=>K.toNat,⟨(ak+1).toNat,by rw[iz];omega,V,⟨⟨b6.s.f,b6.s.r.aP V⟩,b6.kA⟩,l,L A5 f6,hl▸N.1⟩,?_⟩;rintro K u ⟨n,rfl,hk,d,l,A,r⟩;refine⟨λh=>?_,λ_=>d.kH IT.mn I bO (x:=(s.1,l.map (·.1))) (A.it (by have:=r.p7;simp at this;omega) λy g=>(ym.p7 r g).p7) ⟨r,N.2⟩ V⟩;simp only[bh]at h;have ar:=A.aT;have l4:l.length<=4:=sp r.p7;have l0:0<l.length:=sp r.jw;refine d.lP z V (λ_ h=>h) (q.len:Int) λG m7 U f1 b7 f7=>?_;have R:=L A f7;let⟨y,g⟩:=dV l G.toNat;obtain⟨-,-,-,-,-,-,g7,-,-⟩:=R.kZ g;have py:=ym.p7 r (aZ g);have ap:=(R.eA (aZ g) py.p7).aT;have ao:=py.jw;refine⟨U,V,y.2,g7,b7.lP z V (λ_ h=>h) (y.2.len:Int) λal J j0 j1 T f8=>?_⟩;have t:=L R f8;obtain⟨-,-,-,-,-,-,g8,-,-⟩:=t.kZ g;let⟨am,B⟩:=dV y.1.eA al.toNat;let⟨an,jj,ha,hj,e0,e1,e2,e3,e4,e5⟩:=(t.eA (aZ g) py.p7).bt B;have kA:∀{d o:Nat}{ag:Value},aS (dB (q.bz::([j.size,i.size,m.size]++a)) J) d o=some ag->aS J d o=some ag:=λh=>(iO.1 h).2;refine⟨U,V,y.2,g8,U,V,y.2,g8,j0,V,_,kA e0,_,kA e1,_,kA e2,_,kA e3,_,kA e4,_,kA e5,?_⟩;have hZ:∀k∈q.bz::(Ks l++([j.size,i.size,m.size]++a)),k<J.size:=λk W=>by
  rcases bo.1 W with e|e
  .rw[e];exact t.g.cJ.2
  .rcases bU.1 e with e|e
   .obtain⟨Y,v,rfl⟩:=gK.1 e;exact(t.c Y v).cJ.2
   .exact t.lt k e
 refine(My hZ T.s.r V (ha.le (mS _ (by simp[ab]))) (hj.le fN) (py.pL am (aZ B)) ⟨_,py.eA _ _ B⟩).aP λ_ m9⟨C,a',j',e,ai,aj,f,r9,H⟩=>⟨(T.lw z λ_ h=>h).eV H,_,_,_,_,_,_,e,?_⟩;have F:=L t H;have v:=T.to H r9;let⟨Y,ah⟩:=F.wr v.s.f g (br B) (cs:=[.i C.op,.i C.bH,.i C.cE,.i C.dh,.s a',.s j']) (y:=C) ⟨a',j',O,ai,aj⟩;have yc:=(F.c y (aZ g)).cJ;have ac:∀o d,d∈q.bz::([j.size,i.size,m.size]++a)->d≠b->aS m9 d o=aS J d o:=λo d f hn=>bE (H.bG d (hZ d ((bo.1 f).elim (λe=>by simp[e]) λe=>aX _ (mW _ e))) (sp hn)) o;have yq:=F.g.cJ;have aq:=v.kA j.size bO;refine⟨ac _ _ bO V,ac _ _ bO V,j0,V,Y,λd f=>cq _ _ _ _ λe=>(F.nc y (aZ g)) (by rw[<-e];exact dN _ f),⟨n -1,?_,V,⟨⟨v.s.f.aV (bR V) _ _,(I.aV v.s.r v.s.f V _ _).aP V⟩,λk W=>by rw[bD];exact v.kA k W⟩,_,ah,?_⟩,?_⟩
 .rw[iz];omega
 .rw[No];exact aaD r (by simp[g]) B f
 .rw[iz];show((n:Int) -1).toNat<(n:Int).toNat;omega
end
section
variable{m:bg}{b:Nat}{a j:E}
def BI.mM{L:ad}{i M:bg}{k Q:Nat}{l:E}{p q:ab}(h:BI i k b l m Q M a j p q)(o:b<m.size)(u:Q<=10^16)(s:∀e∈L,m.size<=e/\e<=k)(d:ab){g:ae}{n:Nat}(w:g=d.map Ce.i)(A:n=d.length)(z:0<d.length/\d.length<=100){K:Int->bg->Prop}
 (y:∀t c,BI i k b l m (Q+1) c a j p q->K t c):bK dO 77 [vp b 0,E.v (.mk M.size 0 n n)] (M.push (.cells (db g) bB)) λC c=>gS L (M.push (.cells (db g) bB)) c/\∃t:Int,C=vi t/\K t c:=
 have:=h.hi
 have x:=D.push M (.cells (db g) bB)
 have F:=x.aQ
 (Ia h.s u d w A z).aP λ_ c⟨t,r,_,B,f⟩=>⟨f.eV λe v=>by have:=s e v;simp only[vX];omega,t,r,y t c ((h.to o (x.fz _) (h.s.r.ext x)).to o f B.r)⟩
def Lm{Z:ad}{P:Nat}{s:E}{x:Instr}(n:∀c∈Z,c<m.size)(c:Rd b s P m)(hP:P+20<=10^16)(U:ba m a x.aO)(W:ba m j x.gE)(o:x.aO.length<=10^12/\x.gE.length<=10^12):
 bK dO 135 [vp b 0,inV x a j] m (IX Z b s m (P+4) λ_=>True):=by
 apply Dz (b,0)
 simp(config:={maxSteps:=1000000}) -zeta only[dR]
 have p:=c.lt
 intro D q
 let⟨H,B⟩:=fU (a:=D) (c:=q) O O
 have h:=pz D
 have s2:q.size=m.size+2:=by simp[q,h]
 refine(AA [] (U.ext H) (W.ext H) o).aP λ_ r⟨K,N,k,L,F,X,S⟩=>⟨S.eV B,_,_,_,_,_,_,k,?_⟩
 intro Y R
 obtain⟨I,-,z5⟩:=nG (M:=r) (c:=Y) (a:=R) O O O
 have ya:=L.cJ;have yj:=F.cJ
 have J:=(H.J S).J I
 have b5:BI q r.size b s m P R K N x.aO x.gE:=⟨L.ext I,F.ext I,X,⟨J.fz _,c.ext J⟩,⟨V,tf o.1,tf o.2⟩,V,V,V,V⟩
 have u:∀A∈[r.size,D.size,m.size],m.size<=A/\A<=r.size:=eX
 refine b5.lP p V u 6 λae w _ _ b6 _ f6=>?_
 have y6:=b6.hi
 have sp:∀{v:E}{Q:ab},GI [] q w v Q->Q.length<=10^12->bK dO 133 [vp b 0,v.v] w λz f=>gS [r.size,D.size,m.size] w f/\∃e,z=e.v/\∃g,GI [] w f e g/\g.length<=1000000000001/\Rd b s (P+4) f/\Fz [b] w f:=λl B=>
  (AP b6.s.r V (ba.le fN (l.cr bO B)) B).aP λ_ f⟨e,g,k,T,C,_,y,t⟩=>⟨t.eV λA o=>by have:=u A o;simp only[vX];omega,e,k,g,T,V,y,t⟩
 refine⟨λ_=>b6.lP p V u 26 λz G _ _ d _ _=>(d.cG c).kH c n h V trivial,λ_=>⟨λ_=>b6.mM p V u [0,1,-1,99] O O bO λz G d=>(d.cG c).kH c n h V trivial,λ_=>⟨λ_=>b6.mM p V u [0,1,5,-1,1000,2000] O O bO λz G d=>(d.cG c).kH c n h V trivial,λ_=>⟨λ_=>b6.mM p V u [0,1,-1,99] O O bO λz G d=>(d.cG c).kH c n h V trivial,λ_=>⟨λ_=>?_,λ_=>⟨λ_=>?_,λ_=>b6.kH c n h V trivial⟩⟩⟩⟩⟩⟩
 .refine(sp b6.ga o.1).aP λ_ f⟨v,e,k,g,l,C,y,t⟩=>⟨v,e,k,?_⟩
  have aa:=l.cJ
  have ac:=b6.s.f.aQ
  have i:=b6.to p t y
  have d:BI q r.size b s m (P+4) f e N g x.gE:=⟨l.cW bO V,i.gj,oh F.cJ,i.s,⟨V,C,b6.lo.2.2⟩,V,V,i.hi.2.2⟩
  exact(d.cG c).kH c n h V trivial
 .refine(sp b6.gj o.2).aP λ_ f⟨v,e,k,g,l,C,y,t⟩=>⟨v,e,k,?_⟩
  have aa:=l.cJ
  have ac:=b6.s.f.aQ
  have i:=b6.to p t y
  have d:BI q r.size b s m (P+4) f K e x.aO g:=⟨i.ga,l.cW bO V,V,i.s,⟨V,b6.lo.2.1,C⟩,V,V,i.hi.2.2⟩
  exact(d.cG c).kH c n h V trivial
end
section
def AD(a:ad)(b:Nat)(c:E)(m:bg)(P:Nat)(v:Value)(d:bg):Prop:=∃s e,v=s.v/\dA (dB a d) s e/\Rd b c P d/\Fz [b] m d
@[grind cases] structure DD (S:ad) (rb:Nat) (bs:E) (m:bg) (Q:Nat) (M:bg) (s:E) (ds:af):Prop where
 g:GDl S m M s ds
 r:Rs rb bs m Q M
 l:0<ds.length/\ds.length<=100
variable{a:ad}{b P Q n h:Nat}{c s:E}{m M f:bg}{e:af}
def DD.to(h:DD a b c m Q M s e)(g:b∈a/\b<m.size)(d:Fz [b] M f)(r:Rs b c m n f):DD a b c m n f s e:=⟨h.g.fR lg.aP d (by simp;exact g),r,h.l⟩
def DD.ext(h:DD a b c m Q M s e)(x:D M f):DD a b c m Q f s e:=⟨h.g.ext lg.aP x,h.r.ext x,h.l⟩
theorem DD.kA(h:DD a b c m Q M s e)(f:∀d∈a,d<m.size):∀d∈s.bz::a,d<M.size:=by grind [DD.g,Gr.cJ,DD.r,Rs.f,Fz.aQ]
def DD.km(h:DD a b c m Q M s e)(f:∀d∈a,d<m.size)(l:ab){d:ae}{n:Nat}(g:d=l.map Ce.i)(j:n=l.length)(i:l.length<=100):ba (dB (s.bz::a) (M.push (.cells (db d) bB))) (.mk M.size 0 n n) l:=by grind [ba.km,DD.kA]
def DD.kH(d:DD a b c m Q M s e)(g:∀f∈a,f<m.size)(f:Q<=h):AD a b c m h s.v M:=⟨s,e,O,d.g.cr lg.aP g cD (oh d.l),d.r.r.aP f,d.r.f⟩
def DD.dY(f:DD a b c m Q M s e)(o:∀g∈a,g<m.size)(i:Rd b c P m)(n:Q<=h){k:Int}(p:0<=k/\k<(e.length:Int)){cs:ae}{d:cR}(hd:lg (dB (s.bz::a) M) cs d):
 0<=k/\k<(s.len:Int)/\jb M s.bz (s.off+k.toNat*3) 3/\AD a b c m h s.v (aV M s.bz (s.off+k.toNat*3) cs):=by
 have q:=f.g.aT cD
 have y:=f.g.cJ
 let⟨w,l,g,j⟩:=f.g.dY lg.aP f.r.f (k:=k.toNat) V hd
 exact⟨p.1,V,w,s,_,O,l.cr lg.aP o cD cB,(i.Bu f.r.r g (j b (oh i.lt))).aP n,g⟩
def DD.nj(d:DD a b c m Q M s e)(i:∀g∈a,g<m.size)(k:Rd b c P m)(q:Q<=h){g:ae}{n:Nat}(l:List (cR×ae))(hd:∀x∈l,lg (dB (s.bz::a) M) x.2 x.1)(t:g=l.flatMap (·.2))(u:n=l.length)(v:l.length<=100):
 mj (M.push (.cells (db g) mZ)) mZ [.i 0,.i 0,.s .nil] 40 s (.mk M.size 0 n n) λr f=>AD a b c m h r.v f:=by
 have x:=D.push M (.cells (db g) mZ)
 have z:=d.g.cJ
 have H:=(Gi lg.aP (d.kA i) mZ l hd t u).cr lg.aP (d.kA i) cD eX
 have w:=d.l
 refine Gr.lY lg.aP cD (d.ext x).g (d.ext x).r.f H eX λr y p j A o=>⟨r,_,O,p.cr lg.aP i cD eX,(k.Bu (d.ext x).r.r j (o b (d.ext x).r.r.lt (oh k.lt))).aP q,j⟩
def Oj(g:∀y∈a,y<m.size)(L:b∈a)(r:Rd b c P m)(hP:P+100<=10^16):bK dO 134 [vp b 0] m (AD a b c m (P+6)):=by
 apply GU (b,0);have hr:=r.lt;have u:b∈a/\b<m.size:=⟨L,hr⟩;refine(AF g L r V).aP λ_ m1⟨s,e,h,g1,ac,d1,f1⟩=>⟨s,h,?_⟩;have Q:DD a b c m (P+1) m1 s e:=⟨g1,⟨f1,d1⟩,oh (tB e ac)⟩;have sl:=g1.aT cD;have dl:=Q.l;refine(dX d1 V (s.len:Int)).aP λ_ m2⟨I,h,k0,k1,d2,f2⟩=>⟨I,h,?_⟩;have Y:=Q.to u f2 (Q.r.to f2 d2);have K:0<=I/\I<(e.length:Int):=V;refine(dX d2 V 14).aP λ_ J⟨ad,h,_,_,d3,f3⟩=>⟨ad,h,?_⟩;have k:=Y.to u f3 (Y.r.to f3 d3);have N:∀{M:bg},CSl M .nil []:=⟨O,iD _,bO,bO⟩;have v:∀{M f:bg},D M f->Le (dB (s.bz::a) M) (dB (s.bz::a) f):=λW=>W.fj;refine⟨λ_=>?_,λ_=>⟨λ_=>?_,λ_=>⟨λ_=>?_,λ_=>⟨λ_=>?_,λ_=>⟨λ_=>?_,λ_=>⟨λ_=>k.nj g r V [(⟨0,0,[]⟩,[.i 0,.i 0,.s .nil]),(⟨3,0,[]⟩,[.i 3,.i 0,.s .nil])] (by simp;exact⟨⟨.nil,O,N⟩,⟨.nil,O,N⟩⟩) O O bO,λ_=>k.kH g V⟩⟩⟩⟩⟩⟩
 .refine(Ia k.r V [-1,5,0,2] O O bO).aP λ_ p⟨t,h,_,C,q⟩=>⟨t,h,?_⟩;have o:=(k.ext (D.push J _)).to u q C;refine(Ia C V [0,1,5] O O bO).aP λ_ l⟨w,h,_,z,x⟩=>⟨w,h,?_⟩;have n:=(o.ext (D.push p _)).to u x z;exact n.dY g r V K (d:=⟨t,w,[]⟩) ⟨.nil,O,N⟩
 .refine(Ia k.r V [-1,0,4,5] O O bO).aP λ_ p⟨t,h,_,C,q⟩=>⟨t,h,?_⟩;have o:=(k.ext (D.push J _)).to u q C;have H:=o.km g [t] O O bO;refine HQ λl x=>?_;have n:=(o.ext (D.push p _)).ext x;have a2:=n.km g [0,0,0,0] O O bO;refine HQ λw z=>?_;have E:=(n.ext (D.push l _)).ext z;have a3:=E.km g [] O O bO;refine HQ λB A=>?_;have F:=(E.ext (D.push w _)).ext A;have G:=(D.push w (.cells (db []) bB)).J A;have T:=((D.push l (.cells (db [.i 0,.i 0,.i 0,.i 0]) bB)).J z);have y:=Bf (F.kA g) tc [([t],.mk p.size 0 1 1),([0,0,0,0],.mk l.size 0 4 4),([],.mk w.size 0 0 0)] bO (by
   simp only[bo,nh,Ga,forall_eq_or_imp,forall_eq];exact⟨H.le (v ((x.J T).J G)),a2.le (v (z.J G)),a3.le (v A)⟩) O O
  exact(F.ext (D.push B _)).dY g r V K (d:=⟨0,0,_⟩) ⟨_,O,y⟩
 .have H:=k.km g [eJ (I+1)] O O bO;refine HQ λl x=>?_;have n:=(k.ext (D.push J _)).ext x;have y:=Bf (n.kA g) tc [([eJ (I+1)],.mk J.size 0 1 1)] bO (by
   simp only[bo,nh,Ga,forall_eq];exact H.le (v x)) O O
  exact(n.ext (D.push l _)).dY g r V K (d:=⟨0,0,_⟩) ⟨_,O,y⟩
 .refine(Ia k.r V [0,2,1] O O bO).aP λ_ p⟨t,h,_,C,q⟩=>⟨t,h,?_⟩;have o:=(k.ext (D.push J _)).to u q C;exact o.nj g r V [(⟨2,t,[]⟩,[.i 2,.i t,.s .nil])] (by simp;exact⟨.nil,O,N⟩) O O bO
 .refine(dX k.r.r V 2).aP λ_ p⟨t,h,_,_,d4,q⟩=>⟨t,h,?_⟩;have o:=k.to u q (k.r.to q d4);have H:=o.km g [] O O bO;refine HQ λl x=>?_;have n:=(o.ext (D.push p _)).ext x;have a2:=n.km g [2] O O bO;refine HQ λw z=>?_;have E:=(n.ext (D.push l _)).ext z;have a3:=E.km g [] O O bO;refine HQ λB A=>?_;have F:=(E.ext (D.push w _)).ext A;have a4:=F.km g [] O O bO;refine HQ λm8 X=>?_;have Z:=(F.ext (D.push B _)).ext X;have U:=(D.push B (.cells (db []) bB)).J X;have G:=(D.push w (.cells (db []) bB)).J A;have T:=((D.push l (.cells (db [.i 2]) bB)).J z);have y:=Bf (Z.kA g) tc [([],.mk p.size 0 0 0),([2],.mk l.size 0 1 1),([],.mk w.size 0 0 0),([],.mk B.size 0 0 0)] bO (by
   simp only[bo,nh,Ga,forall_eq_or_imp,forall_eq];exact⟨H.le (v (((x.J T).J G).J U)),a2.le (v ((z.J G).J U)),a3.le (v (A.J U)),a4.le (v X)⟩) O O
  have R:=Z.ext (D.push m8 (.cells (db [.s (.mk p.size 0 0 0),.s (.mk l.size 0 1 1),.s (.mk w.size 0 0 0),.s (.mk B.size 0 0 0)]) tc));refine(dX R.r.r V 3).aP λ_ ae⟨aa,h,j0,j1,ab,C⟩=>⟨aa,h,j0,eX,bO,?_⟩;have c':=(fX.le y (C.fj (S:=s.bz::a) (by simp[L])) λcs W=>qD.le (C.fj (by simp[L])) cs W).PG (i:=aa.toNat) (j:=4) V bO;exact(R.to u C (R.r.to C ab)).dY g r V K (d:=⟨t,0,_⟩) ⟨_,O,c'⟩
end
section
def Tr{α:Type}(_:α):Prop:=True
variable{a:ad}{m:bg}{b P:Nat}{c:E}
def y9(hS:∀u∈a,u<m.size)(W:b∈a)(U:Rd b c P m)(hP:P+200<=10^16){al an:E}{x:af×av}(t:IT (dB a m) al an x)(ao:UI x)(ax:Int):bK dO 76 [vp b 0,.agg #[E.v al,E.v an],vi ax] m (PP IT Tr a b c m (P+10)):=by
 apply Dy (b,0);simp(config:={maxSteps:=1000000}) -zeta only[kL];have A:=U.lt;intro d am;have b2:BS [d.size,m.size] b c m P am:=BS.psh (BS.mM (S:=a) U).1;have x2:D m am:=(D.push m _).J (D.push d _);have s1:d.size=m.size+1:=by simp[d]
 have t2:IT (dB ([d.size,m.size]++a) am) al an x:=IT.mn _ _ _ _ _ (x2.dB λf o=>by
  simp at o;rcases o with e|e|e
  .exact bR V
  .exact bR V
  .exact bC e) t
 refine b2.lP A V (λ_ l=>l) ax λaH m3 _ _ b3 f3=>?_;have t3:=IT.mn _ _ _ _ _ (BS.le W f3) t2;refine⟨λ_=>b3.kH IT.mn U bO t3 trivial V,λ_=>?_⟩;refine(Az (b3.hS hS) (t3.1.le fN) (xc ao.2) (mh.le fN t3.2) ao.1).aP λ_ h⟨L,q,F,e,A4,hl,x4⟩=>⟨(b3.lw A λ_ l=>l).eV (x4.fz _),L,q,e,?_⟩;have b4:=b3.to (x4.fz _) (b3.s.r.ext x4);intro m5 m6;obtain⟨b6,-,-⟩:=b4.bV (S:=a) (m1:=m5) (m2:=m6) O O O;obtain⟨x6,-,-⟩:=nG (c:=m5) (a:=m6) O O O;have A6:=A4.re (x6.fz []) bO (λf o=>⟨by
  rcases bo.1 o with e|e
  .exact bR V
  .exact bC e,b6.hS hS f o⟩) b3.s.f.aQ
 have ok:=hl▸ao.1;have aN:=A6.aT;have l4:F.length<=4:=sp ok.p7;have l0:0<F.length:=sp ok.jw;have Y:∀y∈F,y.1.eA.length<=10^12:=λy v=>(ym.p7 ok v).p7;refine b6.lP A V (λ_ l=>l) (q.len:Int) λn i f0 f1 b7 f7=>?_;have A7:=A6.re f7 (by simp[W]) (λf o=>⟨bC o,b7.hS hS f o⟩) bY;let⟨y,v⟩:=dV F n.toNat;let⟨ac,f,g0,g1,g2,g3,g4,aD,aF⟩:=A7.kZ v;refine⟨f0,V,ac,g0,f,g1,_,g2,_,g3,y.2,g4,?_⟩;intro m8 m9;obtain⟨b9,-,-⟩:=b7.bV (S:=a) (m1:=m8) (m2:=m9) O O O;obtain⟨x9,-,-⟩:=nG (c:=m8) (a:=m9) O O O;have A9:=A7.re (x9.fz []) bO (λf o=>⟨by
  rcases bo.1 o with e|e
  .exact bR V
  .exact bC e,b9.hS hS f o⟩) bY
 have kH:∀{M:bg}{J:E}{ap:af×av}{Q:Nat},BS [i.size,h.size,d.size,m.size] b c m Q M->IT (dB ([i.size,h.size,d.size,m.size]++a) M) J q ap->Q<=P+10->PP IT Tr a b c m (P+10) (.agg #[E.v J,E.v q]) (aV M d.size 0 [.s J,.s q]):=λf t l=>f.kH IT.mn U bO t trivial l;refine⟨λ_=>kH b9 (A9.it V Y) V,λhn=>?_⟩;have hB:∀f∈[b],f∈[i.size,h.size,d.size,m.size]++a:=by simp[W]
 have N:∀{M j:bg}{F:aE},ym ([i.size,h.size,d.size,m.size]++a) m M L q x.1 F->Fz [b] M j->ym ([i.size,h.size,d.size,m.size]++a) m j L q x.1 F:=λl n=>l.re n hB (λf o=>⟨bC o,cw (l.lt f o) n.aQ⟩) bY;refine b9.lP A V (λ_ l=>l) 8 λaH B _ _ g aq=>?_;have K:=N A9 aq;have au:Le (dB (q.bz::([h.size,d.size,m.size]++a)) i) (dB (q.bz::([i.size,h.size,d.size,m.size]++a)) B):=(x9.dB λf o=>by
  simp only[eT,iA,bo]at o⊢;rcases o with e|e|e
  .exact bC (bC e)
  .exact bR V
  .exact bC (bR e)).J (aq.fj (by simp[W]))
 have ha:=aD.le au;have o:=aF.le au;have aw:∀{M j:bg},Fz [b] M j->Le (dB (q.bz::([i.size,h.size,d.size,m.size]++a)) M) (dB (q.bz::([i.size,h.size,d.size,m.size]++a)) j):=λn=>n.fj (by simp[W]);have py:=ym.p7 ok (aZ v);have done:∀{M:bg}{Q:Nat}{w:ae}{ay:eG},BS [i.size,h.size,d.size,m.size] b c m Q M->ym ([i.size,h.size,d.size,m.size]++a) m M L q x.1 F->oJ (dB (q.bz::([i.size,h.size,d.size,m.size]++a)) M) w ay->Q<=P+10->
  0<=n/\n<(q.len:Int)/\jb M q.bz (q.off+n.toNat*5) 5/\(gS [i.size,h.size,d.size,m.size] M (aV M q.bz (q.off+n.toNat*5) w)/\PP IT Tr a b c m (P+10) (.agg #[E.v L,E.v q]) (aV (aV M q.bz (q.off+n.toNat*5) w) d.size 0 [.s L,.s q])):=λ{M Q w ay} f G hp hQ=>by
  let⟨R,ps,tt⟩:=G.afq f.s.f V Y (k:=n.toNat) V hp
  have yq:=G.g.cJ
  exact⟨f0,V,R,λu I=>cq _ _ _ _ λe=>G.nq ((e▸dN _ I)),kH ⟨f.s.cG U yq.1 _ _,λu I=>by rw[bD];exact f.kA u I⟩ tt hQ⟩
 have s:∀{M j:bg}{Q:Nat},BS [i.size,h.size,d.size,m.size] b c m Q M->Fz [b] M j->∀p,aS j i.size p=aS M i.size p:=λf n p=>kg n A (f.kA _ bO) p;have T:∀{M j:bg}{Q:Nat},BS [i.size,h.size,d.size,m.size] b c m Q M->Fz [b] M j->∀p,aS j h.size p=aS M h.size p:=λf n p=>kg n A (f.kA _ bO) p;have ak:=K.eA (aZ v) py.p7;have ar:=g.hS hS;have lq:∀u∈q.bz::([i.size,h.size,d.size,m.size]++a),u<B.size:=λu I=>(bo.1 I).elim (λe=>e▸K.g.cJ.2) (ar u);have mM:∀(X:ab){w:ae}{ad:Nat},w=X.map Ce.i->ad=X.length->0<X.length/\X.length<=100->∀{ai:Int->bg->Prop},(∀t j,BS [i.size,h.size,d.size,m.size] b c m (P+4) j->ym ([i.size,h.size,d.size,m.size]++a) m j L q x.1 F->Le (dB (q.bz::([i.size,h.size,d.size,m.size]++a)) B) (dB (q.bz::([i.size,h.size,d.size,m.size]++a)) j)->(∀p,aS j i.size p=aS (B.push (.cells (db w) bB)) i.size p)->(∀p,aS j h.size p=aS (B.push (.cells (db w) bB)) h.size p)->ai t j)->
  bK dO 77 [vp b 0,E.v (.mk B.size 0 ad ad)] (B.push (.cells (db w) bB)) λag j=>gS [i.size,h.size,d.size,m.size] (B.push (.cells (db w) bB)) j/\∃t:Int,ag=vi t/\ai t j:=λX{w ad} h1 h2 h3{ai} hk=>by
  have x:=D.push B (.cells (db w) bB)
  have H:=g.to (x.fz _) (g.s.r.ext x)
  exact(Ia g.s V X h1 h2 h3).aP λ_ j⟨t,e,_,aJ,n⟩=>⟨(H.lw A λ_ l=>l).eV n,t,e,hk t j (H.to n aJ.r) (N K ((x.fz _).J n)) (aw ((x.fz _).J n)) (s H n) (T H n)⟩
 refine⟨λ_=>?_,λ_=>⟨λ_=>?_,λ_=>⟨λ_=>?_,λ_=>⟨λ_=>?_,λ_=>?_⟩⟩⟩⟩
 .refine(AP g.s.r V (o.le fN) (oh py.df)).aP λ_ aa⟨J,C,e,Z,aj,_,ah,r⟩=>⟨(g.lw A λ_ l=>l).eV r,J,e,s g r _,s g r _,s g r _,s g r _,T g r _,?_⟩;exact done (ay:=⟨y.1.aY,C,y.1.bQ,y.1.aU,y.1.eA⟩) (g.to r ah) (N K r) ⟨ac,J,y.2,O,ha.le (aw r),GI.cr (GI.jY Z) lq (by have:=py.df;show C.length<=_;omega),(N K r).eA (aZ v) py.p7⟩ V
 .have x:=(D.push B (.cells (db [.i 0,.i 1,.i (eJ (y.1.aU+1)),.i 2001,.i (-1)]) bB)).fz [b];exact⟨s g x _,s g x _,s g x _,s g x _,T g x _,mM [0,1,eJ (y.1.aU+1),2001,-1] O O bO λt j b' G le C Z=>⟨C _,C _,C _,C _,Z _,done (ay:=⟨y.1.aY,y.1.df,y.1.bQ,t,y.1.eA⟩) b' G ⟨ac,f,y.2,O,ha.le le,o.le le,G.eA (aZ v) py.p7⟩ V⟩⟩
 .have x:=(D.push B (.cells (db [.i 0,.i 1,.i 9]) bB)).fz [b];have Y:=ak.aT;have cc:=ak.ms;have c0:=py.jw;have cf:=py.p7;have ew:eJ ((y.2.len:Int) -1)=((y.2.len -1:Nat):Int):=by rw[de V V];omega
  rw[ew];refine⟨dT 0,V,V,s g x _,s g x _,s g x _,s g x _,s g x _,T g x _,mM [0,1,9] O O bO λt j b' G le C Z=>⟨C _,C _,C _,C _,C _,Z _,done (ay:=⟨y.1.aY,y.1.df,t,y.1.aU,y.1.eA.take (y.2.len -1)⟩) b' G ⟨ac,f,y.2.cut 0 (y.2.len -1) 6,O,ha.le le,o.le le,fX.SZ (G.eA (aZ v) py.p7) V⟩ V⟩⟩
 .refine(Oj ar (by simp[W]) g.s.r V).aP λ_ aa⟨J,C,e,hd,ah,r⟩=>⟨(g.lw A λ_ l=>l).eV r,J,e,T g r _,?_⟩;exact kH (ap:=(C,_)) (g.to r ah) ⟨hd,((N K r).it V Y).2⟩ V
 .have aM:=ak.aT;have aL:=py.jw;refine g.lP A V (λ_ l=>l) (y.2.len:Int) λaI aa j0 j1 H r=>?_;have C:=N K r;obtain⟨-,-,-,-,-,-,aA,-,-⟩:=C.kZ v;let⟨ap,hz⟩:=dV y.1.eA aI.toNat;let⟨a',jj,aB,hj,e0,e1,e2,e3,Z,e5⟩:=(C.eA (aZ v) py.p7).bt hz;have kA:∀{f p:Nat}{ag:Value},aS (dB (q.bz::([i.size,h.size,d.size,m.size]++a)) aa) f p=some ag->aS aa f p=some ag:=λl=>(iO.1 l).2;refine⟨f0,V,y.2,aA,j0,V,_,kA e0,_,kA e1,_,kA e2,_,kA e3,_,kA Z,_,kA e5,?_⟩;have hZ:∀u∈q.bz::(Ks F++([i.size,h.size,d.size,m.size]++a)),u<aa.size:=λu I=>by
   rcases bo.1 I with e|e
   .rw[e];exact C.g.cJ.2
   .rcases bU.1 e with e|e
    .obtain⟨R,hw,rfl⟩:=gK.1 e;exact(C.c R hw).cJ.2
    .exact C.lt u e
  refine(Lm hZ H.s.r V (aB.le fN) (hj.le fN) (py.pL ap (aZ hz))).aP λ_ aO⟨z',a2,j2,e,aC,aG,_,aK,G⟩=>⟨(H.lw A λ_ l=>l).eV G,_,_,_,_,_,_,e,?_⟩;have ah:=N C G;have aj:=H.to G aK;let⟨R,az⟩:=ah.wr aj.s.f v (br hz) ⟨a2,j2,O,aC,aG⟩;have yc:=(ah.c y (aZ v)).cJ;have yq:=C.g.cJ;refine⟨kg G A yq _,T H G _,j0,V,R,λf o=>cq _ _ _ _ λe=>(ah.nc y (aZ v)) ((e▸dN _ o)),kH ⟨aj.s.cG U yc.1 _ _,λu I=>by rw[bD];exact aj.kA u I⟩ (az.it eX λR hw=>?_) V⟩;rcases jc hw with e|e
  .exact Y R e
  .rw[e];simpa using py.p7
def Ok(f:∀d∈a,d<m.size)(k:b∈a)(d:Rd b c P m)(J:P+2000+4*(300+40*Cg 18)<=10^16):bK dO 45 [vp b 0] m (PP IT Tr a b c m (P+50+4*(300+40*Cg 18))):=by
 apply GW (b,0);simp -zeta only[dR];have e:=d.lt;intro w;obtain⟨b1,-⟩:BS [m.size] b c m P w/\True:=⟨(BS.mM (S:=a) d).1,trivial⟩;refine b1.jF e (λ_ h=>h) (MH (b1.hS f) (by simp[k]) b1.s.r V) λG R T n p t2 b2 H=>?_;intro L x;obtain⟨b4,u,-⟩:=b2.bV (m2:=x) O O O;have B:=IT.mn _ _ _ _ _ u t2;have j:b∈[n.size,m.size]++a:=by simp[k]
 refine b4.lP e V (λ_ h=>h) 4 λK M _ _ b5 s=>?_;have o:=IT.mn _ _ _ _ _ (BS.le k s) B;refine⟨λ_=>?_,λ_=>b5.jF e (λ_ h=>h) (y9 (b5.hS f) j b5.s.r V o p 14) λr A F y E l i t=>i.kH IT.mn d bO l trivial V⟩;refine b5.jF e (λ_ h=>h) (Mz (b5.hS f) j b5.s.r V o p) λq z U N D C b6 I=>?_;intro Q;let⟨g,v⟩:=b6.cG (S:=a) d (by simp:n.size∈_) [.s q,.s z];exact g.jF e (λ_ h=>h) (y9 (g.hS f) j g.s.r V (IT.mn _ _ _ _ _ v C) D 14) λr A F y E l i t=>i.kH IT.mn d bO l trivial V
end
section
variable{a:Nat}{c:dq}{l:ab}{x:E}{K:E->bg->Prop}{i:Int}
def RB{l r:ae}{o:Nat}{c:Ce}(h:l.length<=o):(l++r).set o c=l++r.set (o -l.length) c:=by
 grind [List.set_append_right]
theorem oP:∀(a l r:ae)(o:Nat),l.length<=o->kJ (l++r) o a=l++kJ r (o -l.length) a
 |[],l,r,o,_=>O
 |c::a,l,r,o,h=>by
  simp only[kJ];rw[RB h,oP a l _ (o+1) V];congr 2;omega
theorem Ic:∀(a l r:ae)(o:Nat),o+a.length<=l.length->kJ (l++r) o a=kJ l o a++r
 |[],l,r,o,_=>O
 |c::a,l,r,o,h=>by
  simp only[dz]at h;simp only[kJ];rw[aeT _ _ V,Ic a _ _ (o+1) cB]
def Ar{f:Nat}:∀(b:List ae)(a:Nat)(e:ae)(o:Nat)(d:ae),(∀c∈b,c.length=f)->b[a]? =some e->o+d.length<=f->kJ b.flatten (a*f+o) d=(b.set a (kJ e o d)).flatten
 |[],a,e,o,d,_,h,_=>by simp at h
 |x::b,0,e,o,d,g,h,i=>by
  grind [List.mem_cons_self,List.flatten_cons,Ic]
 |x::b,a+1,e,o,d,g,h,i=>by
  have l:=g x cK;rw[td,oP _ _ _ _ cB,vY,td];have j:(a+1)*f+o -x.length=a*f+o:=by grind [Nat.add_mul]
  rw[j,Ar b a e o d (λc k=>g c (aX _ k)) cB i]
def _root_.Go.Vc.iy.dY{α:Type}{b:Nat}{R:ae->α->Prop}{c:List ae}{l:List α}(h:iy b R c l)(a:Nat){cs:ae}{x:α}(d:cs.length=b)(e:R cs x):iy b R (c.set a cs) (l.set a x):=by
 constructor<;>grind [iy.aT,List.mem_or_eq_of_mem_set,iy.aQ,br,List.getElem?_set_self,List.getElem?_set_ne,iy.eS]
def _root_.Go.Vc.iy.Ni{α:Type}{b:Nat}{R:ae->α->Prop}{a:List ae}{l:List α}(h:iy b R a l)(n:Nat):iy b R (a.take n) (l.take n):=by
 constructor<;>grind [iy.aT,iy.aQ,List.mem_of_mem_take,br,List.getElem?_take_of_lt,iy.eS]
def Kf{b:Nat}:∀(a:List ae)(n:Nat),(∀c∈a,c.length=b)->a.flatten.take (n*b)=(a.take n).flatten
 |[],n,_=>bO
 |x::a,0,_=>bO
 |x::a,n+1,h=>by
  have f:=h x cK;rw[td,List.take_append,rO cB,List.take_succ_cons,td];have e:(n+1)*b -x.length=n*b:=by grind [Nat.add_mul]
  rw[e,Kf a n λc d=>h c (aX _ d)]
section
variable{N:Nat}{d:ag}{m:bg}{b:E}{h:ah}
def gC.aT(e:gC N d m b h):b.len=h.length:=by
 obtain⟨f,c,a,_⟩:=e;have:=c.aT;rw[dS a.aQ,a.aT]at this;omega
def gC.dx(q:gC N d m b h)(e:h[a]? =some c):∃f,aS m b.bz (b.off+a*3)=some (vi c.bT)/\aS m b.bz (b.off+a*3+1)=some (vi c.js)/\aS m b.bz (b.off+a*3+2)=some f.v/\ba m f c.bJ/\FN N d m f c.bJ:=by
 obtain⟨l,o,g,_⟩:=q;let⟨k,j⟩:=dV l a cB;obtain⟨f,rfl,p,n⟩:=g.eS a k c j e;have r:=λi c e=>o.kZ (a*3+i) c (jt g.aQ j e);exact⟨f,r 0 (.i c.bT) O,r 1 (.i c.js) O,r 2 (.s f) O,p,n⟩
def gC.jI(g:gC N d m b h)(t:h.length<=9223372036854775807):gA m b h:=by
 have r:=g.aT;obtain⟨l,a,e,_⟩:=g;refine⟨r,a.le,V,λk x q=>?_⟩;let⟨j,f⟩:=dV l k cB;obtain⟨n,rfl,p,s⟩:=e.eS k j x f q;refine⟨_,⟨n,O,p⟩,λi c o=>?_⟩;have:=a.kZ (k*3+i) c (jt e.aQ f o);grind [Nat.add_assoc]
def gC.wr(g:gC N d m b h){a o n:Nat}(f:a<h.length)(j:o+n<=3):jb m b.bz (b.off+a*3+o) n:=by
 obtain⟨i,e,c,_⟩:=g;rw[iv];exact e.wr (by rw[dS c.aQ,c.aT];have:(a+1)*3<=h.length*3:=fE _ f;omega)
def gC.bz(e:gC N d m b h){a:Nat}(i:a<h.length):d b.bz=3/\b.bz<m.size:=by
 have j:=e.aT;obtain⟨f,c,g,_⟩:=e;have:=c.le;have:=c.bz V;exact⟨this.2,this.1⟩
def Yd(N:Nat)(d:ag)(m:bg)(b:E)(h:ah)(f:E)(l:ab):Prop:=
 l≠[]->(d f.bz=0/\N<=f.bz/\FB m f l)/\∀(i:Nat)(g:E),i<h.length->aS m b.bz (b.off+i*3+2)=some g.v->g.len≠0->g.bz≠f.bz
def FB.ju{a:bg}{f:E}(h:jy a m bB 1 f (l.map Ce.i))(d:l≠[]):a.size<=f.bz/\FB m f l:=by
 rcases h.bt with e|⟨b,c,tail,e,h2,h3,_,_⟩
 .grind [jy.aT,List.length_map,E.Tn,List.length_eq_zero_iff]
 .rw[e];exact⟨h2,c,tail,O,h3⟩
def Yd.of{a:bg}{w:ag}{f:E}(q:gC N w a b h)(s:0<h.length->m[b.bz]? =a[b.bz]?)(u:l≠[]->jy a m bB 1 f (l.map Ce.i))(k:l≠[]->d f.bz=0)(A:N<=a.size):Yd N d m b h f l:=λe=>by
 let⟨z,n⟩:=FB.ju (u e) e;refine⟨⟨k e,V,n⟩,λi x r g p=>?_⟩;let⟨c,o⟩:=gD r;obtain⟨y,_,_,v,kf,_⟩:=q.dx o;rw[bE (s V),v]at g;have:=E.LC.1 (sk g);subst this;have t:c.bJ≠[]:=λj=>by have:=kf.aT;rw[j]at this;simp at this;exact p this
 have:=ly kf t;omega
def gC.cG(H:gC N d m b h)(aa:∀g,m.size<=g->d g=0){o:Nat}{l:dq}(D:h[a]? =some c){new:ae}(V:o+new.length<=3)
 (R:∀f,ba m f c.bJ->FN N d m f c.bJ->∃e,kJ [.i c.bT,.i c.js,.s f] o new=[.i l.bT,.i l.js,.s e]/\ba m e l.bJ/\FN N d m e l.bJ/\(e=f\/Yd N d m b h e l.bJ)):
 gC N d (aV m b.bz (b.off+a*3+o) new) b (h.set a l)/\dI (λk=>k=3) d m d (aV m b.bz (b.off+a*3+o) new):=by
 have I:=br D
 have Z:=H.bz I
 have F:dI (λk=>k=3) d m d (aV m b.bz (b.off+a*3+o) new):=by grind [dI.aV]
 let⟨s,z,q,A⟩:=H
 let⟨M,v⟩:=dV s a cB
 obtain⟨f,rfl,S,P⟩:=q.eS a M c v D
 let⟨e,y,G,Q,hd⟩:=R f S P
 have ab:∀(j:Nat)(p:ae)(g:E),s[j]? =some p->p[2]? =some (.s g)->j≠a->e.len≠0->g.len≠0->e.bz≠g.bz:=λj p g r C U t u=>by
  rcases hd with rfl|hd
  .exact A a j _ p e g v r O C (λn=>U n.symm) t u
  .have w:l.bJ≠[]:=λn=>by have:=G.aT;rw[n]at this;simp at this;exact t this
   refine th ((hd w).2 j g cB ?_ u);have:=z.kZ (j*3+2) _ (jt q.aQ r C);rwa[<-iv]at this
 refine⟨⟨s.set a (kJ [.i c.bT,.i c.js,.s f] o new),?_,?_,?_⟩,F⟩
 .rw[<-Ar s a _ o new q.aQ v V,iv]
  exact z.dY (by rw[dS q.aQ,q.aT];have:(a+1)*3<=h.length*3:=fE _ I;omega)
 .rw[y]
  exact(q.dY a O ⟨e,O,G,Q⟩).aP (Cp.fO F cD)
 .rw[y]
  have B:=br v
  intro i j L p x Y w r W X T t u
  by_cases J:i=a
  .subst J
   rw[fu B]at w
   grind [List.getElem?_set_ne]
  .rw[dU (λn=>J n.symm)]at w
   by_cases K:j=a
   .subst K
    rw[fu B]at r
    grind
   .rw[dU (λn=>K n.symm)]at r
    exact A i j L p x Y w r W X T t u
def gC.xI(j:gC N d m b h)(k:∀e,m.size<=e->d e=0)(g:h[a]? =some c)(n:Int):
 gC N d (aV m b.bz (b.off+a*3) [.i n]) b (h.set a {c with bT:=n})/\dI (λe=>e=3) d m d (aV m b.bz (b.off+a*3) [.i n]):=
 j.cG k g (o:=0) (new:=[.i n]) bO λf i e=>⟨f,O,i,e,bC O⟩
def gC.pT(k:gC N d m b h)(q:∀e,m.size<=e->d e=0)(g:a<h.length)(n t:Int){f:E}(j:ba m f l)(e:Yd N d m b h f l):
 gC N d (aV m b.bz (b.off+a*3) [.i n,.i t,.s f]) b (h.set a ⟨n,t,l⟩)/\dI (λi=>i=3) d m d (aV m b.bz (b.off+a*3) [.i n,.i t,.s f]):=by
 let⟨c,i⟩:=gD g
 exact k.cG q i (o:=0) (new:=[.i n,.i t,.s f]) bO λr u s=>⟨f,O,j,λp=>(e p).1,bR e⟩
def gC.ry(j:gC N d m b h){n:Nat}(v:n<=h.length):gC N d m (b.cut 0 n 3) (h.take n):=by
 have u:=j.aT;let⟨f,q,g,r⟩:=j;refine⟨f.take n,((Kf f n g.aQ)▸q.ry V),g.Ni n,λi k o p a l c e=>?_⟩;have s:i<n:=by have:=br c;simp at this;omega
 have t:k<n:=by have:=br e;simp at this;omega
 rw[nm s]at c;rw[nm t]at e;exact r i k o p a l c e
def gC.push(G:gC N d m b h)(R:∀c,m.size<=c->d c=0)(T:x.len=1){p t:Int}{f:E}(S:jG m x.bz x.off [.i p,.i t,.s f])(F:ba m f l)(C:Yd N d m b h f l)(X:h.length<=2000000000)
 (P:∀z y w,gC N z w y (h++[⟨p,t,l⟩])->dI (λk=>k=3) d m z w->K y w):mj m wT [.i (0:Int),.i (0:Int),.s E.nil] 40 b x K:=by
 have W:=G.aT
 let⟨k,D,A,L⟩:=G
 refine iE.fx (f:=[.i 0,.i 0,.s .nil]) (new:=[.i p,.i t,.s f]) D R (by simp[T]) S V λz y w U I=>P z y w ⟨k++[[.i p,.i t,.s f]],sp U,(A.Dh (cs:=[.i p,.i t,.s f]) (x:=⟨p,t,l⟩) O ⟨f,O,F,λe=>(C e).1⟩).aP (Cp.fO I cD),?_⟩ I
 have H:∀(o:Nat)(q:ae)(c:E),k[o]? =some q->q[2]? =some (.s c)->f.len≠0->c.len≠0->f.bz≠c.bz:=λo q c v s e n=>by
  have Q:l≠[]:=λJ=>by have:=F.aT;rw[J]at this;simp at this;exact e this
  refine th ((C Q).2 o c ((A.aT▸br v)) ?_ n);have:=D.kZ (o*3+2) _ (jt A.aQ v s);rwa[<-iv]at this
 have Of:∀{i:Nat}{j:ae}{a:E},(k++[[.i p,.i t,.s f]])[i]? =some j->j[2]? =some (.s a)->k[i]? =some j\/(i=k.length/\a=f):=λ{i j a} g r=>by
  rcases dJ i k.length with e|e
  .rw[dZ e]at g;exact bC g
  .rw[dP e]at g;have n:i -k.length=0:=by have:=br g;simp at this;omega
   rw[n]at g;simp at g;subst g;simp at r;exact bR ⟨V,r.symm⟩
 intro i o j q a c g v r s M e n
 rcases Of g r with B|⟨B,rfl⟩
 .rcases Of v s with u|⟨u,rfl⟩
  .exact L i o j q a c B u r s M e n
  .exact th (H i j a B r n e)
 .rcases Of v s with u|⟨u,rfl⟩
  .exact H o q c u s e n
  .omega
end
@[grind cases] structure rP (ro:ag) (m:bg) (fr:E) (fs:an) (f:bW) (r o h:E) (css:List ae):Prop where
 qB:iE ro m iu 6 4 fr (css.flatten++[.i f.fQ,.i f.pc,.i f.bH,.s r,.s o,.s h])
 aT:css.length=fs.length
 aQ:∀cs∈css,cs.length=6
 eS:∀(i:Nat)(cs:ae)(g:bW),css[i]? =some cs->fs[i]? =some g->Yf ro m i cs g
 aU:iE ro m bB 1 (10+3*fs.length) r (f.aU.map Ce.i)
 bI:iE ro m bB 1 (11+3*fs.length) o (f.bI.map Ce.i)
 cC:iE ro m bB 1 (12+3*fs.length) h (f.cC.map Ce.i)
section
variable{d l:ag}{m k:bg}{b:E}{a:an}{f:bW}{r e h:E}{j:List ae}
theorem rR.jO(l:rR d m b (a++[f])):∃r e h j,rP d m b a f r e h j:=by
 let⟨j,p,w,q,n⟩:=l;have o:j≠[]:=cB;have k:=(nH o).symm;generalize j.dropLast=c0 at k;generalize j.getLast o=cl at k;subst k;have t:c0.length=a.length:=cB;obtain⟨r,e,h,rfl,v,u,l⟩:=n a.length cl f cB bO;refine⟨r,e,h,c0,sp p,t,λc s=>q c (by simp[s]),λi c g x y=>n i c g ?_ ?_,v,u,l⟩
 .grind [List.getElem?_append_left,br]
 .grind [List.getElem?_append_left,br]
def rP.qe(T:rP d m b a f r e h j):rR d m b (a++[f]):=by
 refine⟨j++[[.i f.fQ,.i f.pc,.i f.bH,.s r,.s e,.s h]],sp T.qB,by simp[T.aT],λk p=>?_,λi k o c g=>?_⟩
 .grind [rP.aQ]
 .rcases dJ i a.length with l|l
  .grind [List.getElem?_append_left,rP.aT,rP.eS]
  .have n:i=a.length:=by have:=br g;simp at this;omega
   subst n;rw[dP cB]at c;simp[T.aT]at c g;subst c;subst g;exact⟨r,e,h,O,T.aU,T.bI,T.cC⟩
theorem rP.Eg(T:rP d m b a f r e h j):b.len=a.length+1:=by
 have:=T.qB.aT;simp only[dH,dS T.aQ,T.aT,dz,kU]at this;omega
def rP.kZ(T:rP d m b a f r e h j):aS m b.bz (b.off+a.length*6)=some (vi f.fQ)/\aS m b.bz (b.off+a.length*6+1)=some (vi f.pc)/\aS m b.bz (b.off+a.length*6+2)=some (vi f.bH)/\
 aS m b.bz (b.off+a.length*6+3)=some r.v/\aS m b.bz (b.off+a.length*6+4)=some e.v/\aS m b.bz (b.off+a.length*6+5)=some h.v:=by
 have l:j.flatten.length=a.length*6:=by rw[dS T.aQ,T.aT]
 have g:=λ(i:Nat)(c:Ce)(k:[Ce.i f.fQ,Ce.i f.pc,Ce.i f.bH,Ce.s r,Ce.s e,Ce.s h][i]? =some c)=>T.qB.kZ (a.length*6+i) c (by rw[dP V,l,acI];exact k)
 exact⟨g 0 (.i f.fQ) O,g 1 (.i f.pc) O,g 2 (.i f.bH) O,g 3 (.s r) O,g 4 (.s e) O,g 5 (.s h) O⟩
def rP.fO{p:Nat->Prop}(T:rP d m b a f r e h j)(g:dI p d m l k)(i:∀c,(c=4\/10<=c)->¬p c):rP l k b a f r e h j:=
 by constructor<;>grind [rP.qB,iE.fO,rP.aT,rP.aQ,rP.eS,Yf.fO,rP.aU,rP.bI,rP.cC]
def rP.ext(T:rP d m b a f r e h j)(g:∀c,m.size<=c->d c=0)(c:D m k):rP d k b a f r e h j:=T.fO (dI.fC (p:=λ_=>False) c g) λ_ _=>id
def rP.Cu{p:Nat->Prop}(T:rP d m b a f r e h j)(s:dI p d m l k)(t:∀c,10<=c->c<10+3*a.length->¬p c):∀(i:Nat)(g:ae)(n:bW),j[i]? =some g->a[i]? =some n->Yf l k i g n:=λi g n q o=>
 (T.eS i g n q o).fO s λc u _=>t c V (oh (br o))
def rP.IZ(T:rP d m b a f r e h j)(p:∀c,m.size<=c->d c=0)(n:0<=i)(g:i<f.aU.length)(v:Int):
 rP d (aV m r.bz (r.off+i.toNat*1) [.i v]) b a {f with aU:=gX f.aU i v} r e h j/\dI (λk=>4<=k/\k≠9) d m d (aV m r.bz (r.off+i.toNat*1) [.i v]):=by
 have o:r.cap≠0:=λl=>by have:=(T.aU.zW l).1;simp at this;rw[this]at g;simp at g;omega
 have c:dI (λk=>k=10+3*a.length) d m d (aV m r.bz (r.off+i.toNat*1) [.i v]):=dI.aV p (T.aU.bz o).2 _ _
 exact⟨⟨T.qB.fO c V,T.aT,T.aQ,T.Cu c λk _ q=>V,T.aU.gX n g v,T.bI.fO c V,T.cC.fO c V⟩,c.aP λk q=>V⟩
def rP.tW(T:rP d m b a f r e h j)(p:∀c,m.size<=c->d c=0)(n:0<=i)(g:i<f.bI.length)(v:Int):
 rP d (aV m e.bz (e.off+i.toNat*1) [.i v]) b a {f with bI:=gX f.bI i v} r e h j/\dI (λk=>4<=k/\k≠9) d m d (aV m e.bz (e.off+i.toNat*1) [.i v]):=by
 have o:e.cap≠0:=λl=>by have:=(T.bI.zW l).1;simp at this;rw[this]at g;simp at g;omega
 have c:dI (λk=>k=11+3*a.length) d m d (aV m e.bz (e.off+i.toNat*1) [.i v]):=dI.aV p (T.bI.bz o).2 _ _
 exact⟨⟨T.qB.fO c V,T.aT,T.aQ,T.Cu c λk _ q=>V,T.aU.fO c V,T.bI.gX n g v,T.cC.fO c V⟩,c.aP λk q=>V⟩
def rP.Gl(T:rP d m b a f r e h j)(p:∀c,m.size<=c->d c=0)(n:0<=i)(g:i<f.cC.length)(v:Int):
 rP d (aV m h.bz (h.off+i.toNat*1) [.i v]) b a {f with cC:=gX f.cC i v} r e h j/\dI (λk=>4<=k/\k≠9) d m d (aV m h.bz (h.off+i.toNat*1) [.i v]):=by
 have o:h.cap≠0:=λl=>by have:=(T.cC.zW l).1;simp at this;rw[this]at g;simp at g;omega
 have c:dI (λk=>k=12+3*a.length) d m d (aV m h.bz (h.off+i.toNat*1) [.i v]):=dI.aV p (T.cC.bz o).2 _ _
 exact⟨⟨T.qB.fO c V,T.aT,T.aQ,T.Cu c λk _ q=>V,T.aU.fO c V,T.bI.fO c V,T.cC.gX n g v⟩,c.aP λk q=>V⟩
def rP.bz(T:rP d m b a f r e h j):d b.bz=4/\b.bz<m.size:=by
 have:=T.Eg;have:=T.qB.le;have:=T.qB.bz V;exact⟨this.2,this.1⟩
def rP.Sz(T:rP d m b a f r e h j)(i:∀c,m.size<=c->d c=0)(v:Int):
 rP d (aV m b.bz (b.off+a.length*6+1) [.i v]) b a {f with pc:=v} r e h j/\dI (λk=>4<=k/\k≠9) d m d (aV m b.bz (b.off+a.length*6+1) [.i v]):=by
 have c:dI (λk=>k=4) d m d (aV m b.bz (b.off+a.length*6+1) [.i v]):=dI.aV i T.bz.1 _ _
 refine⟨⟨?_,T.aT,T.aQ,T.Cu c λk l n=>V,T.aU.fO c V,T.bI.fO c V,T.cC.fO c V⟩,c.aP λk p=>V⟩
 have g:j.flatten.length=a.length*6:=by rw[dS T.aQ,T.aT]
 have:=T.qB.dY (o:=a.length*6+1) (new:=[.i v]) (by simp[g])
 rw[oP _ _ _ _ V,g,acI]at this
 rw[iv];exact this
def rP.abh(T:rP d m b a f r e h j):jb m b.bz (b.off+a.length*6+1) 1:=by
 rw[iv];exact T.qB.wr (by simp only[dH,dS T.aQ,T.aT,dz,kU];omega)
end
def rR.pop{d:ag}{m:bg}{c:E}{a:an}{f:bW}(e:rR d m c (a++[f])):rR d m (c.cut 0 a.length 6) a:=by
 let⟨r,o,h,b,T⟩:=e.jO;have g:b.flatten.length=a.length*6:=by rw[dS T.aQ,T.aT]
 have:=T.qB.ry (n:=a.length) cB;rw[rD V,rO V]at this;exact⟨b,this,T.aT,T.aQ,T.eS⟩
def rR.push{b:ag}{m:bg}{e:E}{a:an}(y:rR b m e a)(z:∀c,m.size<=c->b c=0)(B:x.len=1){f:bW}{r o h:E}(A:jG m x.bz x.off [.i f.fQ,.i f.pc,.i f.bH,.s r,.s o,.s h])
 (s:iE b m bB 1 (10+3*a.length) r (f.aU.map Ce.i))(t:iE b m bB 1 (11+3*a.length) o (f.bI.map Ce.i))(u:iE b m bB 1 (12+3*a.length) h (f.cC.map Ce.i))(I:a.length<=1000000)
 (g:∀d r c,rR d c r (a++[f])->dI (λk=>k=4) b m d c->K r c):mj m iu [.i (0:Int),.i (0:Int),.i (0:Int),.s E.nil,.s E.nil,.s E.nil] 96 e x K:=by
 let⟨G,j,l,n,D⟩:=y
 have H:e.len=a.length:=by have:=j.aT;rw[dS n,l]at this;omega
 refine iE.fx j z (by simp[B]) A V λd F c C p2=>g d F c ?_ p2
 exact rP.qe ⟨sp C,l,n,λi p q v w=>(D i p q v w).fO p2 λk g _=>V,s.fO p2 V,t.fO p2 V,u.fO p2 V⟩
end
section
variable{m:bg}{d:ah}{g:ag}{b k N j:Nat}{q r:ab}{c:dq}{i:Int}{e:Nat->Int}
def Eh:∀(d:ah)(k:Nat),k<=d.length->(∀c∈d.take k,c.bT≠0)->k<=fG d
 |[],k,a,_=>by simp at a;simp[a]
 |c::d,0,_,_=>iD _
 |c::d,k+1,a,b=>by
  have f:=b c bO;have:=Eh d k cB (λe hd=>b e (by simp[hd]));grind [fG]
def LU:∀(d:ah)(k:Nat)(c:dq),(∀b∈d.take k,b.bT≠0)->d[k]? =some c->c.bT=0->fG d=k
 |[],k,c,_,a,_=>by simp at a
 |b::d,0,c,_,a,e=>by simp at a;subst a;simp[fG,e]
 |b::d,k+1,c,f,a,e=>by
  have h:=f b bO;have:=LU d k c (λx g=>f x (by simp[g])) cB e;grind [fG]
def KX{i:E}(g:gA m i d):DO dO 213 [i.v] m (vi (fG d)):=by
 apply Fb;have p:=g.aT;refine gP (n:=d.length) (p▸g.kK) (λk a=>D m a/\∀c∈d.take k,c.bT≠0) ⟨cY,bO⟩ ?_;rintro k t I μ o ⟨a,h⟩ q
 refine dit (λl=>?_) λl=>?_
 .let⟨c,f⟩:=dV d k;obtain⟨r,s,j,_⟩:=(gA.ext a g).bt f;refine⟨V,V,c.bT,sp j,λb=>⟨?_,a⟩,λb=>q V _ ⟨a,dK f h (sp b)⟩⟩;rw[LU d k c h f (sp b)]
 .refine⟨?_,a⟩;have:=Eh d k o h;have:=sW d;have e:(i.len:Int)=(fG d:Int):=V;rw[e]
def oH(g:ag)(b k:Nat):Nat->Nat:=λc=>if c=b then k else g c
theorem gU:oH g b k b=k:=bn O
theorem fL{c:Nat}(d:c≠b):oH g b k c=g c:=aW d
def dI.oH{p:Nat->Prop}{m':bg}(e:D m m')(d:∀b,m.size<=b->g b=0)(a:m.size<=b)(c:b<m'.size)(k:Nat):dI p g m (oH g b k) m':=
 by constructor<;>grind [D.aQ,fL,D.bG]
def RL{s:E}(c:gC N g m s d)(n:∀b,m.size<=b->g b=0){a:Nat}(ha:a<=d.length)(v:Int){H:E}(T:ba m H q)(W:d.length<=2000000000)(L:q.length<=1000000000)(J:N<=m.size):
 bK dO 214 [s.v,vi a,vi v,H.v] m λZ S=>∃u M,Z=M.v/\gC N u S M (kD d a ⟨1,v,q⟩)/\HC g m u S:=by
 apply MV
 simp -zeta only[dR]
 refine(oQ T L).cg L λF X o1 Q I=>⟨F,O,?_⟩
 intro m2 f
 obtain⟨l,s3⟩:=pv f
 have t:=I.J l
 have w:HC g m g f:=dI.fC t n
 have B:=w.bF
 have z:gC N g f s d:=c.fO (dI.fC (p:=λ_=>False) t n) id id
 have aa:=c.aT
 have R:=Q.ext l
 have P:q≠[]->g F.bz=0:=λU=>by
  rcases o1.bz with e|e
  .subst e;have:=Q.aT;simp at this;exact absurd (cp.1 this.symm) U
  .exact n _ e
 have K:g X.size=0:=n _ I.aQ
 refine⟨λe=>?_,λe=>?_⟩
 .simp at e
  intro C
  obtain⟨h,s4⟩:=pu C
  have mu:jG C f.size 0 [.i 1,.i v,.s F]:=(dF.push f _ _).kZ
  have G:HC g m g C:=w.J (dI.fC h B)
  refine gC.push (z.fO (dI.fC (p:=λ_=>False) h B) id id) G.bF (x:=.mk f.size 0 1 1) O mu (R.ext h) (Yd.of c (λy=>(t.J h).bG _ (c.bz y).2) (λ_=>o1.ext (l.J h)) P J) W λu r Y D j=>⟨λb i=>?_,u,r,O,?_,G.J (j.aP λk A=>bC A)⟩
  .simp at i;subst i
   exact j.fR _ V (by rw[K];decide)
  .rw[kD,bn V];exact D
 .simp at e
  have h:a<d.length:=V
  have C:Int.toNat (a:Int)=a:=V
  rw[C]
  refine⟨V,V,z.wr (o:=0) h cD,?_⟩
  intro Y
  let⟨D,j⟩:=z.pT B h 1 v R (Yd.of c (λy=>t.bG _ (c.bz y).2) (λ_=>o1.ext l) P J)
  refine⟨λb i=>?_,g,s,O,?_,w.J (j.aP λk A=>bC A)⟩
  .simp at i;subst i
   exact j.fR _ V (by rw[K];decide)
  .rw[kD,aW V];exact D
def Q6(b:d[j]? =some c)(a:c.bT≠0):lL d (j+1)=j+1:=by
 grind [lL]
def Vq(b:d[j]? =some c)(a:c.bT=0):lL d (j+1)=lL d j:=by
 grind [lL]
def Ch{a:E}(b:gA m a d):bK dO 217 [a.v] m λv l=>v=E.v (a.cut 0 (lL d d.length) 3)/\D m l:=by
 apply OU;have w:=b.aT;have t:=b.ms;have x:=b.kK;refine⟨λi l=>D m l/\∃j:Nat,i=j/\j<=d.length/\lL d j=lL d d.length,λi _=>i.toNat,⟨cY,d.length,V,bY,O⟩,?_⟩;rintro i r ⟨h,j,rfl,y,n⟩;have kH:lL d j=j->Value.slice=Value.slice->(0:Int)<=(0:Int)/\(0:Int)<=(j:Int)/\(j:Int)<=(a.cap:Int)/\(E.v (E.cut a (Int.toNat (0:Int)) (Int.toNat (j:Int)) 3)=E.v (a.cut 0 (lL d d.length) 3)/\D m r):=λe _=>by
  refine⟨V,V,V,?_,h⟩;rw[<-n,e];rfl
 refine dit (λq=>?_) λq=>?_
 .obtain⟨k,rfl⟩:∃k,j=k+1:=⟨j -1,V⟩;have o:eJ (((k+1:Nat):Int) -1)=(k:Int):=by rw[iz];omega
  rw[o];let⟨c,g⟩:=dV d k;obtain⟨s,u,p,_⟩:=(gA.ext h b).bt g;refine⟨V,V,c.bT,sp p,λf=>⟨⟨h,k,O,V,?_⟩,by show(k:Int).toNat<((k+1:Nat):Int).toNat;omega⟩,λf=>kH (Q6 g (sp f)) O⟩;rw[<-n,Vq g (sp f)]
 .have:j=0:=V;subst this;exact kH O O
def iE.pop{s:E}(d:iE g m bB 1 k s ((q++[i]).map Ce.i)):s.len=q.length+1/\aS m s.bz (s.off+q.length*1)=some (vi i)/\iE g m bB 1 k (s.cut 0 q.length 1) (q.map Ce.i):=by
 have a:s.len=q.length+1:=by have:=d.aT;simp at this;omega
 refine⟨a,?_,?_⟩
 .have:=d.kZ q.length (.i i) bO;rw[nu];exact this
 .have:=d.ry (n:=q.length) V;grind [List.take_of_length_le]
def jd.Xp(h:jd d (λb=>e b+iW (i::r) b))(c:∀b,0<=e b)(a:iH d i)(f:(bu d i).bT=1):jd (d.set (ix i) kX) (λb=>e b+iW ((bu d i).bJ.reverse++r) b):=by
 let⟨g,j⟩:=dy a;refine jd.Wq h g f ?_ cD cD O (by simp[kX]) (by simp[kX]) (λ_=>O) λb=>?_
 .simp only[lC a.1,bn];have:=c (ix i);have:=lD r (ix i);omega
 .simp only[lC a.1,pB,ED];omega
def jd.Uw(c:jd d (λb=>e b+iW (i::r) b))(g:∀b,0<=e b)(f:iH d i)(j:(bu d i).bT≠1):jd (iU d i) (λb=>e b+iW r b):=by
 let⟨a,h⟩:=dy f;have k:=(c.gZ _ (aZ a)).hi;refine jd.O2 c a h V V (λb=>?_) ?_
 .simp only[lC f.1];split<;>omega
 .have:=g (ix i);have:=lD r (ix i);omega
def jd.Xo(a:jd d (λb=>e b+iW (i::r) b))(c:i<1000):jd d (λb=>e b+iW r b):=
 by grind [jd.congr,iW]
def jd.Uv(f:jd d (λb=>e b+iW (i::r) b))(c:∀b,0<=e b)(a:1000<=i):iH d i:=
 ⟨a,f.lv _ (by simp only[lC a,bn];have:=c (ix i);have:=lD r (ix i);omega)⟩
def Gy:ah->Nat
 |[]=>0
 |c::d=>c.bJ.length+Gy d
def Ei:∀{d:ah}{e:Nat}{c:dq}(b:dq),d[e]? =some c->Gy (d.set e b)+c.bJ.length=Gy d+b.bJ.length
 |[],e,c,b,d=>by simp at d
 |g::d,0,c,b,f=>by simp at f;subst f;simp only[ni,Gy];omega
 |g::d,e+1,c,b,f=>by
  have:=Ei (d:=d) (e:=e) b (sp f);grind [Gy]
def Th:∀{d:ah},(∀c∈d,c.bJ.length<=3)->Gy d<=3*d.length
 |[],_=>by simp[Gy]
 |c::d,a=>by
  have:=Th (λb hd=>a b (aX _ hd));have:=a c cK;grind [Gy,List.length_cons]
def KV{D:E}(hh:gC N g m D d)(hn:∀b,m.size<=b->g b=0){ws:E}(hw:ba m ws [i])(hI:jd d (λb=>e b+iW [i] b))(U:∀b,0<=e b)(aD:d.length<=2000000000):
 bK dO 183 [D.v,ws.v] m λax v=>∃y al,ax=al.v/\gC N y v al (pG (jL d [i]))/\HC g m y v:=by
 apply Fa
 refine(oQ hw bO).cg bO λs M o1 i1 h1=>⟨s,O,?_⟩
 have an:s≠.nil:=λe=>by subst e;have:=i1.aT;simp at this
 have H:m.size<=s.bz/\s.bz<M.size:=by
  rcases o1.bz with e|e
  .exact absurd e an
  .rcases o1.lt with z|z
   .exact absurd z an
   .exact⟨e,z⟩
 have c1:HC g m (oH g s.bz 6) M:=dI.oH h1 hn H.1 H.2 6
 have a1:iE (oH g s.bz 6) M bB 1 6 s ([i].map Ce.i):=iE.ju o1 λ_=>gU
 have ar:gC N (oH g s.bz 6) M D d:=hh.fO (dI.oH (p:=λ_=>False) h1 hn H.1 H.2 6) id id
 have aA:=Th λc a=>(hI.gZ c a).fl
 have aB:=hh.aT
 refine Pg (γ:=ah×ab) (λh F v=>∃y,gC N y v D h.1/\iE y v bB 1 6 F (h.2.reverse.map Ce.i)/\HC g m y v/\jd h.1 (λb=>e b+iW h.2 b)/\jL h.1 h.2=jL d [i]/\h.1.length=d.length/\h.2.length+Gy h.1<=1+Gy d) (λh=>D0 h.1+h.2.length) (d,[i])
  ⟨_,ar,a1,c1,hI,O,O,bO⟩ ?_
 rintro⟨a,st⟩ F m2 ay μ ⟨q,A,a2,h,t,u,K,ae⟩ aa
 simp only[]at A a2 t u K ae
 have ao:F.len=st.length:=by have:=a2.aT;simp at this;omega
 refine dit (λh3=>?_) λh3=>?_
 .cases st with
  |nil=>simp at ao;omega
  |cons x r=>
   simp only[VC]at a2
   let⟨p1,p2,p3⟩:=a2.pop
   simp only[dz,qC]at ao p1 p2 p3 ae
   have e1:eJ ((F.len:Int) -1)=(r.length:Int):=by rw[iz];omega
   have az:=a2.le
   rw[e1]
   have z:Int.toNat (0:Int)=0:=rfl
   have e3:Int.toNat (r.length:Int)=r.length:=V
   rw[z,e3]
   refine⟨V,V,x,p2,V,V,V,(jm).cg λb P hb j=>⟨b,O,λaq=>?_,λap=>?_⟩⟩
   .have Z:=hb.1 aq
    have C:=t.Uv U Z
    let⟨n,am⟩:=dy C
    have ai:=br n
    have av:ix x=(x -1000).toNat:=rfl
    have aC:=(t.gZ _ (aZ n)).hi
    have e4:eJ (x -1000)=x -1000:=iz
    rw[e4,<-av]
    have I:HC q m2 q P:=dI.fC j h.bF
    have X:gC N q P D a:=A.fO (dI.fC (p:=λ_=>False) j h.bF) id id
    have a3:=p3.fO (dI.fC (p:=λ_=>False) j h.bF) id
    obtain⟨f0,g0,_,_,_,_⟩:=X.dx n
    refine⟨V,V,_,g0,V,V,X.wr (o:=0) ai cD,?_⟩
    have e5:eJ ((bu a x).bT -1)=(bu a x).bT -1:=iz
    rw[e5]
    intro m4
    let⟨Y,c4⟩:=X.xI I.bF n ((bu a x).bT -1)
    have a4:=a3.fO c4 cD
    have Q:HC g m q m4:=(h.J I).J (c4.aP λk B=>bC B)
    have T:=mr (d:=kX) n
    simp only[bn am,kX]at T
    simp at T
    have aw:(a.set (ix x) {bu a x with bT:=(bu a x).bT -1})[ix x]? =some {bu a x with bT:=(bu a x).bT -1}:=lA n
    obtain⟨f1,k0,_,k2,kf,kr⟩:=Y.dx aw
    refine⟨V,V,_,k0,λR=>?_,λR=>?_⟩
    .simp only[bP]at R
     have ak:(bu a x).bT=1:=V
     have W:=kf.aT
     simp only[]at W kf kr
     have J:=Ei kX n
     simp only[kX,kU]at J
     refine⟨V,V,f1,k2,iE.fx (f:=[.i 0]) (new:=(bu a x).bJ.map Ce.i) a4 Q.bF (by simp[W]) kf.Ms ?_ λac aE m5 q1 q2=>?_⟩
     .have:(F.cut 0 r.length 1).len=r.length:=by have:=a4.aT;simp at this;omega
      rw[this,W];omega
     have au:=Y.fO q2 cD cD
     have G:HC g m ac m5:=Q.J (q2.aP λk B=>bR (bR B))
     intro m6
     have S:=px m6
     have af:=au.fO (dI.fC (p:=λ_=>False) S G.bF) id id
     have a6:=q1.fO (dI.fC (p:=λ_=>False) S G.bF) id
     have ad:HC g m ac m6:=G.J (dI.fC S G.bF)
     have aj:ix x<(a.set (ix x) {bu a x with bT:=(bu a x).bT -1}).length:=sp ai
     refine⟨V,V,af.wr (o:=0) aj cD,?_⟩
     intro m7
     let⟨ag,c7⟩:=af.pT ad.bF aj 0 0 (f:=.mk m5.size 0 0 0) (l:=[]) ⟨O,bO,bO,bO⟩ (λL=>absurd O L)
     rw[ado]at ag
     refine aa (a.set (ix x) kX,(bu a x).bJ.reverse++r) _ _ ⟨ac,ag,?_,ad.J (c7.aP λk B=>bC B),t.Xp U C ak,?_,sp K,?_⟩ ?_
     .have:=a6.fO c7 cD
      simpa using this
     .rw[<-uv C ak];exact u
     .simp only[dH,qC]
      have B:Gy (a.set (ix x) kX)+(bu a x).bJ.length=Gy a:=by simpa[kX]using J
      omega
     .simp only[dH,qC,dz]
      have B:D0 (a.set (ix x) kX)+((bu a x).bT.toNat+(bu a x).bJ.length)=D0 a:=by simpa[kX]using T
      omega
    .simp only[bd]at R
     have L:(bu a x).bT≠1:=V
     have B:=mr (d:={bu a x with bT:=(bu a x).bT -1}) n
     simp only[bn am]at B
     rw[bn V]at B
     have J:=Ei {bu a x with bT:=(bu a x).bT -1} n
     refine aa (iU a x,r) _ _ ⟨q,Y,a4,Q,t.Uw U C L,?_,by simpa[iU]using K,?_⟩ ?_
     .rw[<-sG C L];exact u
     .simp only[iU];simp only[]at J;omega
     .simp only[iU,dz];omega
   .have Z:=fb hb ap
    have I:HC q m2 q P:=dI.fC j h.bF
    refine aa (a,r) _ _ ⟨q,A.fO (dI.fC (p:=λ_=>False) j h.bF) id id,p3.fO (dI.fC (p:=λ_=>False) j h.bF) id,h.J I,t.Xo V,?_,K,by simp only[];omega⟩ bO
    rw[<-sH (w:=x) (λn=>Z n.1)];exact u
 .have n:st=[]:=cp.1 V
  subst n
  rw[ur]at u
  subst u
  refine(Ch (A.jI V)).aP ?_
  rintro _ P ⟨rfl,j⟩
  refine⟨_,O,q,_,O,?_,h.J (dI.fC j h.bF)⟩
  exact(A.fO (dI.fC (p:=λ_=>False) j h.bF) id id).ry (yd _ _)
end
section
variable{i:Int}
@[grind cases] structure ST (m0:bg) (ro:ag) (m:bg) (mb e:Nat) (bx:ae) (cy hp fr:E) (lo:ab) (lh:ah) (fs:an) (f:bW) (r o h:E) (css:List ae):Prop where
 eI:wU m0 ro m mb e bx cy hp fr lo lh (fs++[f])
 jO:rP ro m fr fs f r o h css
section
variable{l:bg}{a w:ag}{m v:bg}{j e:Nat}{n:ae}{cy g c:E}{s:ab}{o:ah}{k:an}{f:bW}{r q h:E}{t:List ae}
def ST.ext(S:ST l a m j e n cy g c s o k f r q h t)(b:D m v):ST l a v j e n cy g c s o k f r q h t/\To a m a v:=
 ⟨⟨(S.eI.ext b).1,S.jO.ext S.eI.bF b⟩,(S.eI.ext b).2⟩
def ST.IZ(S:ST l a m j e n cy g c s o k f r q h t){i:Int}(d:0<=i)(p:i<f.aU.length)(v:Int):ST l a (aV m r.bz (r.off+i.toNat*1) [.i v]) j e n cy g c s o k {f with aU:=gX f.aU i v} r q h t/\To a m a (aV m r.bz (r.off+i.toNat*1) [.i v]):=by
 let⟨b,u⟩:=S.jO.IZ S.eI.bF d p v;let⟨w,x⟩:=S.eI.mE u b.qe;exact⟨⟨w,b⟩,x⟩
def ST.tW(S:ST l a m j e n cy g c s o k f r q h t){i:Int}(d:0<=i)(p:i<f.bI.length)(v:Int):ST l a (aV m q.bz (q.off+i.toNat*1) [.i v]) j e n cy g c s o k {f with bI:=gX f.bI i v} r q h t/\To a m a (aV m q.bz (q.off+i.toNat*1) [.i v]):=by
 let⟨b,u⟩:=S.jO.tW S.eI.bF d p v;let⟨w,x⟩:=S.eI.mE u b.qe;exact⟨⟨w,b⟩,x⟩
def ST.Gl(S:ST l a m j e n cy g c s o k f r q h t){i:Int}(d:0<=i)(p:i<f.cC.length)(v:Int):ST l a (aV m h.bz (h.off+i.toNat*1) [.i v]) j e n cy g c s o k {f with cC:=gX f.cC i v} r q h t/\To a m a (aV m h.bz (h.off+i.toNat*1) [.i v]):=by
 let⟨b,u⟩:=S.jO.Gl S.eI.bF d p v;let⟨w,x⟩:=S.eI.mE u b.qe;exact⟨⟨w,b⟩,x⟩
def ST.Sz(S:ST l a m j e n cy g c s o k f r q h t)(v:Int):ST l a (aV m c.bz (c.off+k.length*6+1) [.i v]) j e n cy g c s o k {f with pc:=v} r q h t/\To a m a (aV m c.bz (c.off+k.length*6+1) [.i v]):=by
 let⟨b,d⟩:=S.jO.Sz S.eI.bF v;let⟨i,p⟩:=S.eI.mE d b.qe;exact⟨⟨i,b⟩,p⟩
def ST.lW(S:ST l a m j e n cy g c s o k f r q h t)(i:Nat)(b:ae):ST l a (aV m j i b) j e (kJ n i b) cy g c s o k f r q h t/\To a m a (aV m j i b):=by
 let⟨u,v⟩:=S.eI.lW i b;exact⟨⟨u,S.jO.fO (dI.aV (p:=λd=>d=1) S.eI.bF S.eI.YL i b) λd w=>V⟩,v⟩
def ST.jU(S:ST l a m j e n cy g c s o k f r q h t)(b:HC a m w v){d:E}{i:ah}(x:gC l.size w v d i):ST l w v j e n cy d c s i k f r q h t/\To a m w v:=by
 let⟨p,u⟩:=S.eI.jU b x;exact⟨⟨p,S.jO.fO b λz y=>V⟩,u⟩
def ST.QE(S:ST l a m j e n cy g c s o k f r q h t)(b:dI (λd=>d=2) a m w v){p:E}{i:ab}(y:iE w v bB 1 2 p (i.map Ce.i)):ST l w v j e n p g c i o k f r q h t/\To a m w v:=by
 let⟨u,x⟩:=S.eI.QE b y;exact⟨⟨u,S.jO.fO b λd z=>V⟩,x⟩
end
def dI.WK{a d:ag}{m c:bg}(h:To a m d c){b:Nat}(f:b<m.size)(e:a b=0):gS [b] m c:=by grind [dI.eV]
abbrev SB(d u:E)(b:St)(cy g c:E):ae:=[.s d,.s u,.i b.eC,.i b.iQ,.i b.dg,.i b.dL,.s cy,.s g,.s c]
def CK(l:bg)(a:ag)(m:bg)(j:Nat)(d u:E)(b:St)(e:bg):Prop:=
 ∃f cy g c,wU l f e j dD (SB d u b cy g c) cy g c b.cy b.aR b.bq/\To a m f e
def CK.from{l:bg}{a i:ag}{m f e:bg}{j:Nat}{d u:E}{b:St}(h:CK l i f j d u b e)(o:To a m i f):CK l a m j d u b e:=
 let⟨p,cy,g,c,k,n⟩:=h
 ⟨p,cy,g,c,k,o.J n⟩
variable{l:bg}{a:ag}{m:bg}{j:Nat}{d u cy g c:E}{b:St}{k:an}{f:bW}{r q h:E}{t:List ae}
def mX(S:ST l a m j dD (SB d u b cy g c) cy g c b.cy b.aR k f r q h t)(s:k.length<=100000)(v:Int):
 bK dO 182 [vp j 0,vi v] m λw i=>ST l a i j dD (SB d u b cy g c) cy g c b.cy b.aR k {f with pc:=v} r q h t/\To a m a i:=by
 apply ta (j,0)
 have e:aS m j 8=some c.v:=S.eI.bV.dx 8
 have p:=S.jO.Eg
 have n:eJ ((c.len:Int) -1)=(k.length:Int):=by rw[iz];omega
 have o:Int.toNat (k.length:Int)=k.length:=V
 refine⟨c,e,c,e,?_⟩
 rw[n,o]
 exact⟨V,V,S.jO.abh,S.Sz v⟩
def FF(S:ST l a m j dD (SB d u b cy g c) cy g c b.cy b.aR k f r q h t)(N:k.length<=100000)(e:0<=i)(x:i<f.aU.length)(y:i<f.bI.length)(w:Int)(R:0<=f.pc/\f.pc<=100000):
 bK dO 175 [vp j 0,vi i,vi w] m λ_ A=>ST l a A j dD (SB d u b cy g c) cy g c b.cy b.aR k (bW.cG {f with pc:=f.pc+1} i w 0) r q h t/\To a m a A:=by
 apply yG (j,0)
 simp -zeta only[dR]
 have z:aS m j 8=some c.v:=S.eI.bV.dx 8
 have P:=S.jO.Eg
 have G:eJ ((c.len:Int) -1)=(k.length:Int):=by rw[iz];omega
 have H:Int.toNat (k.length:Int)=k.length:=V
 let⟨J,g1,g2,K,L,M⟩:=S.jO.kZ
 have T:r.len=f.aU.length:=by have:=S.jO.aU.aT;simp at this;omega
 have Q:q.len=f.bI.length:=by have:=S.jO.bI.aT;simp at this;omega
 refine⟨c,z,c,z,?_⟩
 rw[G,H]
 refine⟨V,V,_,J,_,g1,_,g2,r,K,q,L,h,M,?_⟩
 intro U o
 obtain⟨O,X⟩:=pv o
 have n:a m.size=0:=S.eI.bF _ bY
 let⟨s,t2⟩:=S.ext O
 refine⟨e,V,s.jO.aU.SE e x,?_⟩
 intro p
 let⟨v,t3⟩:=s.IZ e x w
 have Y:p.size=o.size:=bD _ _ _ _
 refine⟨t3.WK (show m.size<o.size by omega) n,e,V,v.jO.bI.SE e y,?_⟩
 intro B
 let⟨E,C⟩:=v.tW e (sp y) 0
 have Z:B.size=p.size:=bD _ _ _ _
 have I:eJ (f.pc+1)=f.pc+1:=iz
 rw[I]
 refine⟨C.WK (show m.size<p.size by omega) n,(mX E N (f.pc+1)).aP ?_⟩
 rintro _ W ⟨F,D⟩
 exact⟨D.WK (show m.size<B.size by omega) n,F,((t2.J t3).J C).J D⟩
def xS(S:ST l a m j dD (SB d u b cy g c) cy g c b.cy b.aR k f r q h t)(ac:k.length<=100000)(e:0<=i)(C:i<f.aU.length)(U:i<f.bI.length)(w:Int):
 bK dO 185 [vp j 0,vi i,vi w] m λ_ G=>ST l a G j dD (SB d u b cy g c) cy g c b.cy b.aR k (f.cG i w (iV w)) r q h t/\To a m a G:=by
 apply yF (j,0)
 simp -zeta only[dR]
 have F:aS m j 8=some c.v:=S.eI.bV.dx 8
 have ab:=S.jO.Eg
 have L:eJ ((c.len:Int) -1)=(k.length:Int):=by grind [de]
 have M:Int.toNat (k.length:Int)=k.length:=V
 let⟨P,g1,g2,Q,R,T⟩:=S.jO.kZ
 have ae:r.len=f.aU.length:=by have:=S.jO.aU.aT;simp at this;omega
 have ad:q.len=f.bI.length:=by have:=S.jO.bI.aT;simp at this;omega
 refine⟨c,F,c,F,?_⟩
 rw[L,M]
 refine⟨V,V,_,P,_,g1,_,g2,r,Q,q,R,h,T,?_⟩
 intro m1 n
 have W:D m n:=by grind [D.cU,D.bZ,D.aV]
 have s2:n.size=m.size+1:=by grind [bD]
 have o:a m.size=0:=S.eI.bF _ bY
 let⟨z,t2⟩:=S.ext W
 clear_value n
 refine⟨e,V,z.jO.aU.SE e C,?_⟩
 intro v
 let⟨A,t3⟩:=z.IZ e C w
 have s3:v.size=n.size:=bD _ _ _ _
 refine⟨t3.WK (show m.size<n.size by omega) o,e,V,A.jO.bI.SE e U,?_⟩
 intro H
 let⟨J,x⟩:=A.tW e cB 0
 have s4:H.size=v.size:=bD _ _ _ _
 refine⟨x.WK (show m.size<v.size by omega) o,(jm).aP ?_⟩
 rintro _ X ⟨K,rfl,Y,E⟩
 let⟨p,y⟩:=J.ext E
 have s5:=E.aQ
 refine⟨y.WK (show m.size<H.size by omega) o,K,O,λaa=>?_,λZ=>?_⟩
 .refine⟨e,V,p.jO.bI.SE e cB,?_⟩
  intro m6
  let⟨B,I⟩:=p.tW e cB 1
  refine⟨I.WK (show m.size<X.size by omega) o,?_,(((t2.J t3).J x).J y).J I⟩
  have N:gX (gX f.bI i 0) i 1=gX f.bI i 1:=by simp[gX,ado]
  have s:iV w=1:=by grind [iV]
  simp only[N]at B
  rw[s];exact B
 .refine⟨?_,((t2.J t3).J x).J y⟩
  have s:iV w=0:=by grind [iV]
  rw[s];exact p
def Ap:∀(a:ab)(g:ah),(kW g a).length=g.length
 |[],g=>O
 |w::a,g=>by rw[kW,Ap a];simp[qv]
def IV:∀(a:ab)(g:ah)(w:Int),kW g (a++[w])=qv (kW g a) w
 |[],g,w=>O
 |v::a,g,w=>by rw[eT,kW,IV a,kW]
def EG:∀(a:ab)(g:ah)(n:Int),(∀c∈g,-10<=c.bT/\c.bT<=n)->∀c∈kW g a,-10<=c.bT/\c.bT<=n+a.length
 |[],g,n,h,c,b=>by have:=h c b;simp;omega
 |w::a,g,n,h,c,b=>by
  have:=EG a (qv g w) (n+1) (λd hd=>by
   rcases rX hd with rfl|⟨i,_,f⟩
   .simp only[bu];cases e:g[ix w]? with
    |none=>
     unfold qv at hd;rw[abq (aaw.1 e)]at hd;have:=h _ hd;simp only[bu,e]at this⊢;omega
    |some x=>have:=h x (aZ e);simp only[uj];omega
   .have:=h d (aZ f);omega) c b
  simp only[dz];omega
def Ie(L:wU l a m j dD (SB d u b cy g c) cy g c b.cy b.aR k){t:E}{e:ab}(v:ba m t e)(P:e≠[]->a t.bz=0)(M:∀w∈e,1000<=w/\ix w<b.aR.length)(I:∀h∈b.aR,-10<=h.bT/\h.bT<=999999)(Z:e.length<=1000000)(W:b.aR.length<=2000000000):
 bK dO 181 [vp j 0,t.v] m λ_ r=>gC l.size a r g (kW b.aR e)/\dI (λf=>f=3) a m a r:=by
 apply zK (j,0)
 have aa:=v.aT
 have J:aS m j 7=some g.v:=L.bV.dx 7
 refine gP (n:=e.length) V (λf r=>gC l.size a r g (kW b.aR (e.take f))/\dI (λf=>f=3) a m a r) ⟨L.aR,dI.cU _ L.bF⟩ ?_
 rintro f A S μ X ⟨i,p⟩ R
 refine dit (λG=>?_) λG=>?_
 .let⟨x,q⟩:=dV e f
  let⟨ac,z⟩:=M x (aZ q)
  have y:e≠[]:=λB=>by rw[B]at q;simp at q
  have Q:ba A t e:=ku v λ_=>p.fR _ (ly v y) (by rw[P y];decide)
  have w:aS A j 7=some g.v:=by rw[bE (p.fR _ L.bV.lt (by rw[L.YL];decide))];exact J
  have O:=i.aT
  rw[Ap]at O
  let⟨h,s⟩:=dV (kW b.aR (e.take f)) (ix x) (by rw[Ap];exact z)
  obtain⟨T,F,_⟩:=i.dx s
  have N:ix x=(x -1000).toNat:=rfl
  have C:eJ (x -1000)=x -1000:=iz
  have U:=EG (e.take f) b.aR 999999 I h (aZ s)
  have Y:((e.take f).length:Int)<=1000000:=eX
  have D:eJ (h.bT+1)=h.bT+1:=iz
  refine⟨V,V,x,by simpa using Q.bt q,g,w,g,w,?_⟩
  rw[C,<-N]
  refine⟨V,V,h.bT,F,V,V,i.wr (o:=0) (by rw[Ap];exact z) cD,?_⟩
  rw[D]
  let⟨K,H⟩:=i.xI p.bF s (h.bT+1)
  refine R V _ ⟨?_,p.J H⟩
  rw[bX q,IV]
  have:bu (kW b.aR (e.take f)) x=h:=by simp[bu,s]
  unfold qv
  rw[this];exact K
 .rw[eQ V]at i
  exact⟨i,p⟩
def FJ(L:wU l a m j dD (SB d u b cy g c) cy g c b.cy b.aR k){w:Int}(z:iH b.aR w){h:Nat->Int}(p:jd b.aR h)(M:b.aR.length<=2000000000):
 bK dO 216 [vp j 0,vi w] m λD r=>∃f:Bool,D=vb f/\(f=true<->(bu b.aR w).bT=1)/\dI (λx=>x=3) a m a r/\(f=true->gC l.size a r g b.aR)/\(f=false->gC l.size a r g (kW (iU b.aR w) (oC (bu b.aR w).bJ))):=by
 apply yH (j,0)
 let⟨e,ad⟩:=dy z
 have P:=br e
 have ab:=L.aR.aT
 have N:ix w=(w -1000).toNat:=rfl
 have aa:=z.1
 have G:eJ (w -1000)=w -1000:=iz
 have q:aS m j 7=some g.v:=L.bV.dx 7
 have ac:=(p.gZ _ (aZ e)).hi
 have H:eJ ((bu b.aR w).bT -1)=(bu b.aR w).bT -1:=iz
 let⟨U,v,g1,g2,W,X⟩:=L.aR.dx e
 rw[G,<-N]
 refine⟨g,q,V,V,_,v,λn=>⟨true,O,sp n,dI.cU _ L.bF,λ_=>L.aR,sx⟩,λn=>?_⟩
 simp only[bd]at n
 refine⟨g,q,g,q,V,V,_,v,V,V,L.aR.wr (o:=0) P cD,?_⟩
 rw[H]
 intro m1
 let⟨y,i⟩:=L.aR.xI L.bF e ((bu b.aR w).bT -1)
 let⟨I,k0,k1,T,kf,kr⟩:=y.dx (lA e)
 let⟨t,t1⟩:=L.jU (i.aP λx A=>bC A) y
 have Z:=(p.gZ _ (aZ e)).fl
 refine⟨g,t.bV.dx 7,V,V,I,T,?_⟩
 refine(sO kf (by simp only[];omega)).cg (by have:=sa (bu b.aR w).bJ;simp only[];omega) λC m2 o2 B x=>⟨C,O,?_⟩
 let⟨E,t2⟩:=t.ext x
 have R:oC (bu b.aR w).bJ≠[]->a C.bz=0:=λQ=>by
  rcases o2.bz with h|h
  .subst h;have:=B.aT;simp at this;exact absurd (cp.1 this.symm) Q
  .exact i.bF _ h
 have:=sa (bu b.aR w).bJ
 refine(Ie (b:={b with aR:=iU b.aR w}) (k:=k) E B R (λD S=>?_) (λF J=>?_) (by simp only[];omega) (by simpa[iU]using M)).aP ?_
 .let⟨K,A⟩:=nT.1 S
  exact⟨A,by simpa[iU]using br (dy (p.qd (aZ e) K A)).1⟩
 .rcases rX J with rfl|⟨f,_,A⟩
  .simp only[];omega
  .have:=p.gZ F (aZ A);have K:=this.lo;have Y:=this.hi;omega
 .rintro _ Y ⟨K,A⟩
  exact⟨false,O,sp n,(i.J (dI.fC x i.bF)).J A,sx,λ_=>K⟩
end
section
variable{F:ag}{y:bg}{e:Nat}{C:ae}{x:Instr}{a j:E}{t:Int}
def A2(k:ag)(g:bg)(a:ad):Prop:=∀b∈a,b<g.size/\k b=0
def A2.to{p:Nat->Prop}{k:ag}{g:bg}{c:ad}(h:A2 k g c)(t:dI p k g F y):A2 F y c:=λb a=>⟨cw (h b a).1 t.aQ,((t.jv b (h b a).1)▸(h b a).2)⟩
theorem dI.fS{k:ag}{g:bg}(t:To k g F y){a:ad}(h:A2 k g a):gS a g y:=t.eV h
def A2.ql{k:ag}{g:bg}{a:ad}(h:A2 k g a){b:Nat}(c:b∈a):b<g.size/\k b=0:=h b c
def A2.Nk{k:ag}{g a c:bg}(h:∀b,g.size<=b->k b=0)(d:a.size=g.size+1)(e:c.size=g.size+2):A2 k c [a.size,g.size]:=λb f=>by
 grind
noncomputable def rH (c:St) (u:an) (b:bW) (x:Instr) (t:Int):St:=
 open Classical in
 if x.dh≠0/\bt b.cC (x.dh -1)≠0 then
  {c with aR:=c.aR.set (ix (bt b.cC (x.dh -1))) ⟨1,t,dQ b x.aO⟩,bq:=u++[bW.cG {b with pc:=b.pc+1,cC:=gX b.cC (x.dh -1) 0} x.bH (bt b.cC (x.dh -1)) 1]}
 else{c with aR:=kD c.aR (fG c.aR) ⟨1,t,dQ b x.aO⟩,bq:=u++[bW.cG {b with pc:=b.pc+1} x.bH (1000+fG c.aR) 1]}
variable{A:bg}{k:ag}{g:bg}{z:Nat}{d p cy q v:E}{c:St}{u:an}{b:bW}{r l h:E}{B:List ae}
def ST.EI{c:ab}{a:ah}(S:ST A k g z e C cy q v c a u b r l h B)(d:b.aU.length<=1000000):ba g r b.aU:=S.jO.aU.oN V
def ST.NH{c:ab}{a:ah}(S:ST A k g z e C cy q v c a u b r l h B)(d:b.bI.length<=1000000):ba g l b.bI:=S.jO.bI.oN V
def ST.Ws{c:ab}{a:ah}(S:ST A k g z e C cy q v c a u b r l h B)(d:b.cC.length<=1000000):ba g h b.cC:=S.jO.cC.oN V
def yY(S:ST A k g z dD (SB d p c cy q v) cy q v c.cy c.aR u b r l h B)(ha:ba A a x.aO)(ad:∀e∈x.aO,0<=e/\e<b.aU.length)(am:x.aO.length<=4)(t:Int)
 (aq:b.aU.length=b.bI.length/\b.cC.length=b.bI.length/\b.bI.length<=2000)(ae:0<=x.bH/\x.bH<b.bI.length)(ap:0<=x.dh/\x.dh<=b.cC.length)(ar:0<=b.pc/\b.pc<=100000)(Y:u.length<=100000)(an:c.aR.length<=1000000000)
 (ag:∀w∈b.cC,w≠0->1000<=w/\ix w<c.aR.length):
 bK dO 177 [vp z 0,fv b r l h,xv x a j,vi t] g λ_ y=>CK A k g z d p (rH c u b x t) y:=by
 apply vS (z,0)
 simp -zeta only[dR]
 intro H I
 have aj:D g I:=((D.cU g).bZ _).bZ _
 have Z:=pz H
 have s2:I.size=g.size+2:=by simp[I,Z]
 have P:=A2.Nk S.eI.bF Z s2
 let⟨F,t2⟩:=S.ext aj
 have ao:h.len=b.cC.length:=by have:=S.jO.cC.aT;simp at this;omega
 have C:∀{k g b},ST A k g z dD (SB d p c cy q v) cy q v c.cy c.aR u b r l h B->aS g z 7=some q.v:=λS=>S.eI.bV.dx 7
 refine⟨q,C F,(KX (F.eI.aR.jI V)).aP ?_⟩
 rintro _ J ⟨rfl,aa⟩
 let⟨w,t3⟩:=F.ext aa
 have E:=P.to t3
 refine⟨t3.fS P,_,O,λX y=>∃(e:Nat)(f:bW),X=e/\ST A k y z dD (SB d p c cy q v) cy q v c.cy c.aR u f r l h B/\To k g k y/\A2 k y [H.size,g.size]/\e<=c.aR.length/\
  f.aU=b.aU/\f.bI=b.bI/\f.pc=b.pc/\rH c u b x t={c with aR:=kD c.aR e ⟨1,t,dQ b x.aO⟩,bq:=u++[bW.cG {f with pc:=b.pc+1} x.bH (1000+e) 1]},?_,?_⟩
 .have none:¬(x.dh≠0/\bt b.cC (x.dh -1)≠0)->∃(e:Nat)(f:bW),((fG c.aR:Nat):Int)=e/\ST A k J z dD (SB d p c cy q v) cy q v c.cy c.aR u f r l h B/\To k g k J/\A2 k J [H.size,g.size]/\e<=c.aR.length/\
   f.aU=b.aU/\f.bI=b.bI/\f.pc=b.pc/\rH c u b x t={c with aR:=kD c.aR e ⟨1,t,dQ b x.aO⟩,bq:=u++[bW.cG {f with pc:=b.pc+1} x.bH (1000+e) 1]}:=λQ=>
   ⟨_,b,O,w,t2.J t3,E,sW _,O,O,O,by rw[rH,aW Q]⟩
  refine⟨λG=>?_,λG=>none λL=>by simp at G;omega⟩
  simp at G
  have M:eJ (x.dh -1)=x.dh -1:=iz
  rw[M]
  have i:0<=x.dh -1/\x.dh -1<b.cC.length:=V
  have K:=(w.Ws V).tC i.1 i.2
  refine⟨V,V,_,K,λn=>?_,λn=>none λL=>by simp at n;exact L.2 n⟩
  simp at n
  let⟨R,U⟩:=ag _ (iS i.1 i.2) n
  refine⟨V,V,_,K,V,V,w.jO.cC.SE i.1 i.2,?_⟩
  intro m4
  let⟨m,o⟩:=w.Gl i.1 i.2 0
  have T:ix (bt b.cC (x.dh -1))=(bt b.cC (x.dh -1) -1000).toNat:=rfl
  have N:eJ (bt b.cC (x.dh -1) -1000)=((ix (bt b.cC (x.dh -1)):Nat):Int):=by rw[iz];omega
  refine⟨o.fS E,ix (bt b.cC (x.dh -1)),_,N,m,(t2.J t3).J o,E.to o,V,O,O,O,?_⟩
  rw[rH,bn ⟨V,n⟩,kD,aW V,lE R]
 .rintro X m4 ⟨e,f,rfl,m,o,Q,ac,n,eo,ep,ec⟩
  have ak:=m.eI.cW
  have ah:=n▸m.EI (by rw[n];omega)
  refine⟨q,C m,(vU ah (ha.ext ak) ad V).aP ?_⟩
  rintro _ m5 ⟨ws,rfl,ow,ab⟩
  let⟨i,K⟩:=m.ext ab
  have R:=Q.to K
  have ai:(dQ b x.aO).length<=1000000000:=by simp[dQ];omega
  have iw:=ba.ju ow V
  refine⟨K.fS Q,ws,O,by rw[C i,C m],(RL i.eI.aR i.eI.bF ac t iw V ai i.eI.cW.aQ).aP ?_⟩
  rintro _ m6 ⟨al,G,rfl,af,c6⟩
  let⟨W,L⟩:=i.jU c6 af
  have T:=R.to L
  refine⟨L.fS R,G,O,W.eI.pQ bO,?_⟩
  intro m7
  let⟨S7,M⟩:=W.lW 7 [.s G]
  have U:=T.to M
  have e3:eJ (1000+(e:Int))=1000+(e:Int):=iz
  have e4:eJ (b.pc+1)=b.pc+1:=iz
  rw[e3,e4]
  refine⟨M.fS T,(xS (b:={c with aR:=kD c.aR e ⟨1,t,dQ b x.aO⟩}) S7 Y ae.1 (by rw[n];omega) (by rw[eo];omega) (1000+e)).aP ?_⟩
  rintro _ m8 ⟨S8,N⟩
  refine⟨N.fS U,(mX S8 Y (b.pc+1)).aP ?_⟩
  rintro _ m9 ⟨S9,t9⟩
  refine⟨t9.fS (U.to N),al,cy,G,v,?_,((((o.J K).J L).J M).J N).J t9⟩
  rw[ec]
  have e5:iV (1000+(e:Int))=1:=by rw[iV,bn V]
  have:=S9.eI
  rw[e5]at this
  exact this
theorem wB:∀(a bI:ab)(r:Int),fe bI (a++[r])=gX (fe bI a) r (bt (fe bI a) r+1)
 |[],bI,r=>O
 |q::a,bI,r=>by rw[eT,fe,wB a,fe]
def J2{a:ab}{i:Int}(h:∀l∈a,0<=l/\l<=t)(d:0<=t):0<=bt a i/\bt a i<=t:=by
 rcases dJ i.toNat a.length with b|b
 .let⟨y,c⟩:=gD b;rw[Pv c];exact h y (aZ c)
 .grind [bt,List.getElem?_eq_none]
def uJ:∀(b bI:ab)(t:Int),0<=t->(∀l∈bI,0<=l/\l<=t)->∀l∈fe bI b,0<=l/\l<=t+b.length
 |[],bI,t,d,h,l,c=>by have:=h l c;simp;omega
 |r::b,bI,t,d,h,l,c=>by
  have:=uJ b (gX bI r (bt bI r+1)) (t+1) V (λq a=>by
   have:=J2 (i:=r) h d;rcases tP a with a|a
   .omega
   .have:=h q a;omega) l c
  simp only[dz];omega
noncomputable def xF (c:St) (u:an) (b:bW) (x:Instr):St:=
 open Classical in
 if(bu c.aR (bt b.aU (bt x.aO 0))).bT=1/\x.op=17 then
  {c with aR:=c.aR.set (ix (bt b.aU (bt x.aO 0))) ⟨-1,0,eP (bu c.aR (bt b.aU (bt x.aO 0))).bJ.length⟩,bq:=u++[{b with bI:=fe b.bI (x.aO.drop 1),pc:=b.pc+1,cC:=gX b.cC (bt x.aO 0) (bt b.aU (bt x.aO 0))}]}
 else{c with aR:=iZ c.aR (bt b.aU (bt x.aO 0)),bq:=u++[{b with bI:=fe b.bI (x.aO.drop 1),pc:=b.pc+1}]}
theorem pI(t:Nat):na [.i (0:Int)] t=(eP t).map Ce.i:=by
 induction t with
 |zero=>rfl
 |succ t a=>
  have:na [.i 0] (t+1)=.i 0::na [.i 0] t:=by simp[na,mC]
  rw[this,a];simp[eP,mC]
def uS{g:bg}(a:0<=t)(b:t<=1000000):bK dO 153 [vi t] g λv y=>v=E.v (.mk g.size 0 t.toNat t.toNat)/\y=g.push (.cells (db ((eP t.toNat).map Ce.i)) bB):=by
 apply Nd;refine⟨a,dT _,V,V,?_⟩;rw[pI];exact⟨O,O⟩
def SG{g:bg}(t:Nat):jy g (g.push (.cells (db ((eP t).map Ce.i)) bB)) bB 1 (.mk g.size 0 t t) ((eP t).map Ce.i):=by grind [jy.bF,D.cU,lH]
def MS(S:ST A k g z dD (SB d p c cy q v) cy q v c.cy c.aR u b r l h B)(ha:ba A a x.aO)(am:∀C∈x.aO,0<=C/\C<b.aU.length)(aw:1<=x.aO.length/\x.aO.length<=4)
 (aD:b.aU.length=b.bI.length/\b.cC.length=b.bI.length/\b.bI.length<=2000)(aG:0<=b.pc/\b.pc<=100000)(ae:u.length<=100000)(az:c.aR.length<=1000000000)(au:∀N∈b.bI,0<=N/\N<=999999)
 (ag:iH c.aR (bt b.aU (bt x.aO 0))){e:Nat->Int}(hI:jd c.aR e):
 bK dO 184 [vp z 0,fv b r l h,xv x a j] g λ_ y=>CK A k g z d p (xF c u b x) y:=by
 apply wQ (z,0)
 simp -zeta only[dR]
 intro m1 m2
 have av:D g m2:=((D.cU g).bZ _).bZ _
 have s1:=pz m1
 have s2:m2.size=g.size+2:=cB
 have B2:=A2.Nk S.eI.bF s1 s2
 let⟨S2,t2⟩:=S.ext av
 have aI:r.len=b.aU.length:=by have:=S.jO.aU.aT;simp at this;omega
 have aF:l.len=b.bI.length:=by have:=S.jO.bI.aT;simp at this;omega
 have aA:h.len=b.cC.length:=by have:=S.jO.cC.aT;simp at this;omega
 have ax:=ha.aT
 have E:0<=bt x.aO 0/\bt x.aO 0<b.aU.length:=by grind [iS]
 have ga:∀{y},D A y->∀{t:Nat}{C},x.aO[t]? =some C->aS y a.bz (a.off+Int.toNat (t:Int)*1)=some (vi C):=λhx t C Z=>by simpa using(ha.ext hx).bt Z
 refine⟨V,V,bt x.aO 0,(ha.ext S2.eI.cW).tC V V,E.1,V,bt b.aU (bt x.aO 0),(S2.EI V).tC E.1 E.2,?_⟩
 refine⟨λab y=>∃t:Nat,ab=t/\1<=t/\t<=x.aO.length/\ST A k y z dD (SB d p c cy q v) cy q v c.cy c.aR u {b with bI:=fe b.bI ((x.aO.take t).drop 1)} r l h B/\To k g k y/\A2 k y [m1.size,g.size],λab _=>((x.aO.length:Int) -ab).toNat,⟨1,O,V,V,?_,t2,B2⟩,?_⟩
 .have e1:(x.aO.take 1).drop 1=[]:=bO
  rw[e1];exact S2
 rintro ab m3 ⟨t,rfl,aB,aC,F,t3,U⟩
 have aq:∀N∈fe b.bI ((x.aO.take t).drop 1),0<=N/\N<=1000010:=λN hq=>by
  have:=uJ _ b.bI 999999 V au N hq;have h3:((x.aO.take t).drop 1).length<=4:=cB;omega
 refine dit (λh1=>?_) λh1=>?_
 .let⟨C,Z⟩:=dV x.aO t
  have H:=am C (aZ Z)
  have K:C<(fe b.bI ((x.aO.take t).drop 1)).length:=by rw[uX];omega
  have hb:=J2 (i:=C) aq V
  refine⟨V,V,C,ga F.eI.cW Z,V,V,C,ga F.eI.cW Z,H.1,V,_,(F.NH cB).tC H.1 K,H.1,V,F.jO.bI.SE H.1 K,?_⟩
  intro I
  have M:eJ (bt (fe b.bI ((x.aO.take t).drop 1)) C+1)=bt (fe b.bI ((x.aO.take t).drop 1)) C+1:=iz
  let⟨G,J⟩:=F.tW H.1 K (bt (fe b.bI ((x.aO.take t).drop 1)) C+1)
  have L:I=aV m3 l.bz (l.off+C.toNat*1) [.i (bt (fe b.bI ((x.aO.take t).drop 1)) C+1)]:=cB
  clear_value I
  subst L
  refine⟨J.fS U,?_,?_⟩
  .rw[nt (n:=x.aO.length) V V]
   refine⟨t+1,O,V,V,?_,t3.J J,U.to J⟩
   have e4:(x.aO.take (t+1)).drop 1=(x.aO.take t).drop 1++[C]:=by
    grind [bX]
   grind [wB]
  .rw[nt (n:=x.aO.length) V V]
   show((x.aO.length:Int) -((t+1:Nat):Int)).toNat<((x.aO.length:Int) -(t:Int)).toNat
   omega
 .have e1:(x.aO.take t).drop 1=x.aO.drop 1:=by grind [eQ]
  rw[e1]at F
  have aJ:=lE ag.1
  let⟨ad,aH⟩:=dy ag
  have aa:=br ad
  have aE:=F.eI.aR.aT
  have e4:eJ (b.pc+1)=b.pc+1:=iz
  have ap:ix (bt b.aU (bt x.aO 0))=(bt b.aU (bt x.aO 0) -1000).toNat:=rfl
  have e5:eJ (bt b.aU (bt x.aO 0) -1000)=bt b.aU (bt x.aO 0) -1000:=iz
  rw[e4,e5,<-ap]
  generalize hw:bt b.aU (bt x.aO 0)=w at*
  have gw:∀{k g lh own' held'},ST A k g z dD (SB d p c cy q v) cy q v c.cy lh u {b with bI:=own',cC:=held'} r l h B->aS g r.bz (r.off+Int.toNat (bt x.aO 0)*1)=some (vi w):=λS=>(hw▸(S.EI cB).tC E.1 E.2)
  refine⟨E.1,V,w,gw F,(FJ F.eI ag hI V).aP ?_⟩
  rintro _ I ⟨ak,rfl,hb,c4,ao,an⟩
  refine⟨(c4.aP λt L=>by omega:To k m3 k I).fS U,ak,O,λai=>?_,λah=>?_⟩
  .have ar:=hb.1 ai
   let⟨G,J⟩:=F.jU (c4.aP λt L=>bC L) (ao ai)
   have B4:=U.to J
   have g7:=G.eI.bV.dx 7
   refine⟨λac=>?_,λac=>?_⟩
   .simp at ac
    let⟨f0,k0,k1,k2,kf,kr⟩:=G.eI.aR.dx ad
    have al:=(hI.gZ _ (aZ ad)).fl
    have ay:=kf.aT
    refine⟨q,g7,q,g7,V,V,f0,k2,(uS V V).aP ?_⟩
    rintro _ m5 ⟨rfl,rfl⟩
    have e6:Int.toNat (f0.len:Int)=(bu c.aR w).bJ.length:=V
    rw[e6]
    have Y:D I (I.push (.cells (db ((eP (bu c.aR w).bJ.length).map Ce.i)) bB)):=D.push _ _
    have oz:=SG (g:=I) (bu c.aR w).bJ.length
    let⟨H,K⟩:=G.ext Y
    have W:=B4.to K
    have aj:k I.size=0:=G.eI.bF _ bY
    generalize I.push (.cells (db ((eP (bu c.aR w).bJ.length).map Ce.i)) bB)=m5 at*
    let⟨af,c6⟩:=H.eI.aR.pT H.eI.bF aa (-1) 0 (ba.ju oz (by rw[lH];omega)) (Yd.of G.eI.aR (λE=>Y.bG _ (G.eI.aR.bz E).2) (λ_=>oz) (λ_=>aj) G.eI.cW.aQ)
    refine⟨K.fS B4,_,O,Y.da g7,V,V,H.eI.aR.wr (o:=0) aa cD,?_⟩
    intro m6
    let⟨M,P⟩:=H.jU (c6.aP λt L=>bC L) af
    have X:=W.to P
    refine⟨P.fS W,E.1,V,w,gw M,E.1,V,M.jO.cC.SE E.1 cB,?_⟩
    intro m7
    let⟨R,Q⟩:=M.Gl E.1 cB w
    refine⟨Q.fS X,(mX (b:={c with aR:=c.aR.set (ix w) ⟨-1,0,eP (bu c.aR w).bJ.length⟩}) R ae (b.pc+1)).aP ?_⟩
    rintro _ m8 ⟨S8,T⟩
    refine⟨T.fS (X.to Q),k,cy,q,v,?_,(((((t3.J J).J K).J P).J Q).J T)⟩
    grind [xF,ST.eI]
   .simp at ac
    refine⟨q,g7,?_⟩
    intro m5
    have Y:=px m5
    let⟨H,K⟩:=G.ext Y
    have W:=B4.to K
    refine⟨V,V,H.eI.aR.wr (o:=0) aa cD,?_⟩
    intro m6
    let⟨af,c6⟩:=H.eI.aR.pT H.eI.bF aa 0 0 (f:=.mk I.size 0 0 0) ⟨O,bO,bO,bO⟩ (λaj=>absurd O aj)
    let⟨M,P⟩:=H.jU (c6.aP λt L=>bC L) af
    have X:=W.to P
    refine⟨P.fS W,q,M.eI.bV.dx 7,(Ch (M.eI.aR.jI cB)).aP ?_⟩
    rintro _ m7 ⟨rfl,al⟩
    let⟨R,Q⟩:=M.ext al
    have B7:=X.to Q
    refine⟨Q.fS X,_,O,R.eI.pQ bO,?_⟩
    intro m8
    obtain⟨aj,ay⟩:=R.jU (dI.cU _ R.eI.bF) (R.eI.aR.ry (yd _ _))
    obtain⟨S8,T⟩:=aj.lW 7 [.s (q.cut 0 (lL (c.aR.set (ix w) kX) (c.aR.set (ix w) kX).length) 3)]
    refine⟨T.fS B7,(mX (b:={c with aR:=pG (c.aR.set (ix w) kX)}) S8 ae (b.pc+1)).aP ?_⟩
    rintro _ m9 ⟨S9,t9⟩
    refine⟨t9.fS (B7.to T),k,cy,q.cut 0 (lL (c.aR.set (ix w) kX) (c.aR.set (ix w) kX).length) 3,v,?_,((((((t3.J J).J K).J P).J Q).J T).J t9)⟩
    grind [xF,iZ,ST.eI]
  .have ar:(bu c.aR w).bT≠1:=λe=>by have:=hb.2 e;rw[ah]at this;simp at this
   let⟨G,J⟩:=F.jU (c4.aP λt L=>bC L) (an ah)
   refine(mX (b:={c with aR:=kW (iU c.aR w) (oC (bu c.aR w).bJ)}) G ae (b.pc+1)).aP ?_
   rintro _ m5 ⟨H,K⟩
   refine⟨K.fS (U.to J),k,cy,q,v,?_,(t3.J J).J K⟩
   grind [xF,iZ,ST.eI]
end
section
variable{j:cZ}{e:Instr}{A:E}{l:ab}{v b1 b2 b3 k:Nat}{c:bg}
def k8(j:cZ)(e:Instr):Nat->ab->ab
 |_,[]=>[]
 |k,w::A=>(if(e.op=9\/e.op=24)/\lB j e k=true then 0 else iV w)::k8 j e (k+1) A
def Ib(j:cZ)(e:Instr):∀(l z:ab)(k:Nat),k8 j e k (l++z)=k8 j e k l++k8 j e (k+l.length) z
 |[],z,k=>by simp[k8]
 |b::l,z,k=>by
  have:=Ib j e l z (k+1);simp only[eT,k8,this,dz];have a:k+(l.length+1)=k+1+l.length:=V;rw[a]
def IP(j:cZ)(e:Instr):∀(l:ab)(k:Nat),(k8 j e k l).length=l.length
 |[],k=>O
 |a::l,k=>by simp only[k8,dz,IP j e l]
def NG{j:cZ}{e:Instr}(a:e.op=9\/e.op=24):∀(l:ab)(k:Nat),k8 j e k l=fJ (dG j e.cE).df k l
 |[],k=>O
 |c::l,k=>by
  simp only[k8,fJ,NG a l];congr 1;unfold lB;by_cases h:((dG j e.cE).df.any λy=>y==(k:Int))=true
  .rw[bn ⟨a,h⟩,bn h]
  .rw[aW (λb=>h b.2),aW h]
def KE{j:cZ}{e:Instr}(a:¬(e.op=9\/e.op=24)):∀(l:ab)(k:Nat),k8 j e k l=fJ [] k l
 |[],k=>O
 |c::l,k=>by
  simp only[k8,fJ,KE a l,VA,oT,nv];rw[aW (λb=>a b.1)]
def Jx{b:bg}{w:Nat}{d y:E}(aa:gY b d y j)(U:aS b w 0=some d.v)(g1:aS b w 1=some y.v)(Z:DL j e)(G Q:E)(L:ba b A l)(ac:l.length<=1000000):
 sD 218 [vp w 0,xv e G Q,A.v] b (k8 j e 0 l):=by
 apply vt (w,0)
 simp -zeta only[dR]
 intro a R
 have x:=px a
 have W:=px R
 have ho:jy a R bB 1 (.mk a.size 0 0 0) []:=jy.bF (D.cU a) bB 1 [] 0 bO
 have g:∀q∈[b.size],q<a.size:=by simp[a]
 have ad:=L.aT
 refine gL (n:=l.length) V (λk s c=>D a c/\jy a c bB 1 s ((k8 j e 0 (l.take k)).map Ce.i)) ⟨W,by simpa[k8]using ho⟩ ?_
 rintro k s m3 ab μ hk ⟨M,i⟩ C
 have N:=x.J M
 refine dit (λh=>?_) λh=>?_
 .let⟨F,P⟩:=dV l k
  have K:(l.take k).length=k:=eX
  have v:k8 j e 0 (l.take (k+1))=k8 j e 0 (l.take k)++[if(e.op=9\/e.op=24)/\lB j e k=true then 0 else iV F]:=by
   rw[bX P,Ib,K];simp[k8]
  have u:(k8 j e 0 (l.take k)).length<1000000000:=by rw[IP,K];omega
  refine⟨V,V,F,by simpa using N.aS (L.bt P),(jm).bL M g λq m4 I r o=>⟨q,O,λY=>?_,λX=>?_⟩⟩
  .have B:=x.J o
   refine⟨d,B.aS U,y,B.aS g1,(vR (aa.ext B) Z G Q k).bL o g λb2 m5 J H p=>⟨b2,O,λt=>?_,λt=>?_⟩⟩
   .intro S
    refine rZ ((i.ext r).ext H) p u λz T m f=>⟨D.wK (p.bZ _) f g,C V _ _ ⟨f,?_⟩⟩
    rw[v,aW (nb J t),iV,bn (I.1 Y)];exact m
   .intro S
    refine rZ ((i.ext r).ext H) p u λz T m f=>⟨D.wK (p.bZ _) f g,C V _ _ ⟨f,?_⟩⟩
    rw[v,bn (yb J t)];exact m
  .intro S
   refine rZ (i.ext r) o u λz T m f=>⟨D.wK (o.bZ _) f g,C V _ _ ⟨f,?_⟩⟩
   rw[v]
   have p:(if(e.op=9\/e.op=24)/\lB j e k=true then 0 else iV F)=0:=by
    rw[iV,aW (fb I X)];split<;>rfl
   rw[p];exact m
 .rw[eQ V]at i
  exact⟨s,O,i.cW x.aQ,N⟩
@[grind cases] structure tw (m m':bg) (b1 b2 b3 n:Nat) (aU bI cC:ab):Prop where
 ext:D m m'
 lo:m.size<=b1/\m.size<=b2/\m.size<=b3/\b1≠b2/\b1≠b3/\b2≠b3/\b1<m'.size/\b2<m'.size/\b3<m'.size
 kr:dF m' b1 bB (aU.map Ce.i)
 ko:dF m' b2 bB (bI.map Ce.i)
 kh:dF m' b3 bB (cC.map Ce.i)
 aT:aU.length=n/\bI.length=n/\cC.length=n
def PO{b:bg}{a:Nat}(d:dF b a bB ((eP v).map Ce.i))(f:l.length<=v):dF (aV b a 0 (l.map Ce.i)) a bB ((l++eP (v -l.length)).map Ce.i):=by
 have:=dF.aV (m:=b) (o:=0) (r:=l.map Ce.i) d;have e:kJ ((eP v).map Ce.i) 0 (l.map Ce.i)=(l++eP (v -l.length)).map Ce.i:=by
  have c:=Gm [] (l.map Ce.i) ((eP v).map Ce.i) (by simp[lH];omega);simp only[iA,kU]at c;rw[c];simp[eP,List.drop_replicate]
 rw[e]at this;exact this
def CA{b:bg}{d y:E}(L:gY b d y j){r:Int}(S:0<=r){q:eG}(N:j.di[r.toNat]? =some q)(F:0<=q.aU/\q.aU<=2000)(K:Int){J:E}{f i:ab}(P:ba b A f)(M:ba b J i)(ag:(f.length:Int)<=q.aU)(ae:i.length=f.length):
 bK dO 107 [.agg #[d.v,y.v],vi r,vi K,A.v,J.v] b λac c=>∃b1 b2 b3,ac=.agg #[vi r,vi 0,vi K,E.v (.mk b1 0 q.aU.toNat q.aU.toNat),E.v (.mk b2 0 q.aU.toNat q.aU.toNat),E.v (.mk b3 0 q.aU.toNat q.aU.toNat)]/\
  tw b c b1 b2 b3 q.aU.toNat (f++eP (q.aU.toNat -f.length)) (i++eP (q.aU.toNat -i.length)) (eP q.aU.toNat):=by
 apply Jm
 simp -zeta only[dR]
 intro G a
 have w:D b a:=((D.cU b).bZ _).bZ _
 have s1:=pz G
 have s2:a.size=b.size+2:=by simp[a,s1]
 have k:∀g∈[G.size,b.size],g<a.size:=eX
 have af:=L.di.aT
 have ad:=br N
 have X:=P.aT
 have W:=M.aT
 obtain⟨a',l',c',_,_,_,_,_,_,k3,_⟩:=(L.ext w).di.bt N
 refine⟨S,V,q.aU,k3,(uS F.1 V).aP ?_⟩
 rintro _ e ⟨rfl,n⟩
 have z:D a e:=(n▸D.push _ _)
 have s3:e.size=a.size+1:=by rw[n];simp
 have Q:dF e a.size bB ((eP q.aU.toNat).map Ce.i):=(n▸dF.push _ _ _)
 clear n
 refine⟨z.eV k,_,O,(uS F.1 V).aP ?_⟩
 rintro _ x ⟨rfl,o⟩
 have u:D e x:=(o▸D.push _ _)
 have s4:x.size=e.size+1:=by rw[o];simp
 have Z:dF x e.size bB ((eP q.aU.toNat).map Ce.i):=(o▸dF.push _ _ _)
 clear o
 have B:=z.J u
 have T:min A.len q.aU.toNat=f.length:=(X▸mH V)
 have U:min J.len q.aU.toNat=i.length:=(W▸mH V)
 refine⟨u.eV (λg C=>z.lt (k g C)),_,O,f.map Ce.i,by simp only[E.kv];rw[T];simp,(P.ext (w.J B)).Ms,(Q.ext u).jb (by simp[lH];omega),?_⟩
 intro l
 have k5:dF l a.size bB ((f++eP (q.aU.toNat -f.length)).map Ce.i):=PO (Q.ext u) V
 have R:dF l e.size bB ((eP q.aU.toNat).map Ce.i):=Z.congr (cq _ _ _ _ (show e.size≠a.size by omega))
 have s:D a l:=B.aV bY _ _
 have s5:l.size=x.size:=bD _ _ _ _
 refine⟨D.wK B s k,i.map Ce.i,by simp only[E.kv];rw[U];simp,(M.ext (w.J s)).Ms,R.jb (by simp[lH];omega),?_⟩
 intro h
 have k6:dF h e.size bB ((i++eP (q.aU.toNat -i.length)).map Ce.i):=PO R V
 have aa:dF h a.size bB ((f++eP (q.aU.toNat -f.length)).map Ce.i):=k5.congr (cq _ _ _ _ (show a.size≠e.size by omega))
 have t:D a h:=s.aV (show a.size<=e.size by omega) _ _
 have s6:h.size=l.size:=bD _ _ _ _
 refine⟨D.wK s t k,(uS F.1 V).aP ?_⟩
 rintro _ m ⟨rfl,p⟩
 have v:D h m:=(p▸D.push _ _)
 have s7:m.size=h.size+1:=by rw[p];simp
 have k7:dF m h.size bB ((eP q.aU.toNat).map Ce.i):=(p▸dF.push _ _ _)
 clear p
 refine⟨D.wK t (t.J v) k,_,O,?_⟩
 intro H
 have Y:D b H:=(w.J (t.J v)).aV V _ _
 have s8:H.size=m.size:=bD _ _ _ _
 have I:∀g,g≠G.size->H[g]? =m[g]? :=λg C=>cq _ _ _ _ C
 refine⟨a.size,e.size,h.size,O,Y,V,(aa.ext v).congr (I _ V),(k6.ext v).congr (I _ V),k7.congr (I _ V),by simp[lH];omega⟩
def qx(q:ag)(b1 b2 b3 v:Nat):Nat->Nat:=oH (oH (oH q b1 (10+3*v)) b2 (11+3*v)) b3 (12+3*v)
def tw.fO{y:Nat->Prop}{q:ag}{b:bg}{aU bI cC:ab}(N:tw b c b1 b2 b3 k aU bI cC)(e:∀a,b.size<=a->q a=0):dI y q b (qx q b1 b2 b3 v) c:=by
 have f:=N.lo;refine⟨N.ext.aQ,λa d=>?_,λa d=>?_,λa d _=>N.ext.bG a d⟩
 .unfold qx;rw[fL V,fL V,fL V]
 .unfold qx;rw[fL V,fL V,fL V];exact e a (oh N.ext.aQ)
def tw.qB{q:ag}{b:bg}{aU bI cC:ab}(N:tw b c b1 b2 b3 k aU bI cC):
 iE (qx q b1 b2 b3 v) c bB 1 (10+3*v) (.mk b1 0 k k) (aU.map Ce.i)/\iE (qx q b1 b2 b3 v) c bB 1 (11+3*v) (.mk b2 0 k k) (bI.map Ce.i)/\iE (qx q b1 b2 b3 v) c bB 1 (12+3*v) (.mk b3 0 k k) (cC.map Ce.i):=by
 have f:=N.lo
 let⟨a,d,e⟩:=N.aT
 refine⟨⟨by simp[a],bO,bR ⟨b1,k,[],O,?_,by rw[fP];exact N.kr,by simp[a]⟩⟩,⟨by simp[d],bO,bR ⟨b2,k,[],O,?_,by rw[fP];exact N.ko,by simp[d]⟩⟩,⟨by simp[e],bO,bR ⟨b3,k,[],O,?_,by rw[fP];exact N.kh,by simp[e]⟩⟩⟩
 .unfold qx;rw[fL V,fL V,gU]
 .unfold qx;rw[fL V,gU]
 .unfold qx;rw[gU]
def tw.bV{b:bg}{aU bI cC:ab}(N:tw b c b1 b2 b3 k aU bI cC){m1:bg}(e:D m1 b){nb:Nat}(d:m1.size<=nb)(f:nb<b.size)(i:Nat)(a:ae):tw m1 (aV c nb i a) b1 b2 b3 k aU bI cC:=by
 have g:=N.lo;exact⟨(e.J N.ext).aV d _ _,by rw[bD];omega,N.kr.congr (cq _ _ _ _ V),N.ko.congr (cq _ _ _ _ V),N.kh.congr (cq _ _ _ _ V),N.aT⟩
def tw.LQ{b d:bg}{aU bI cC:ab}(N:tw b c b1 b2 b3 k aU bI cC)(a:D c d):tw b d b1 b2 b3 k aU bI cC:=by
 have e:=N.lo;have:=a.aQ;exact⟨N.ext.J a,V,N.kr.ext a,N.ko.ext a,N.kh.ext a,N.aT⟩
variable{F:bg}{q:ag}{b:bg}{w:Nat}{d y cy B t:E}{s:St}{g:an}{u:bW}{z G h:E}{C:List ae}
def rP.replace{d:ag}(T:rP q b t g u z G h C)(r:dI (λ_=>False) q b d c){a:bW}{j i e:E}(s:iE d c bB 1 (10+3*g.length) j (a.aU.map Ce.i))(n:iE d c bB 1 (11+3*g.length) i (a.bI.map Ce.i))(p:iE d c bB 1 (12+3*g.length) e (a.cC.map Ce.i)):
 jb c t.bz (t.off+g.length*6) 6/\rR d (aV c t.bz (t.off+g.length*6) [.i a.fQ,.i a.pc,.i a.bH,.s j,.s i,.s e]) t (g++[a])/\dI (λk=>k=4) d c d (aV c t.bz (t.off+g.length*6) [.i a.fQ,.i a.pc,.i a.bH,.s j,.s i,.s e]):=by
 have l:rP d c t g u z G h C:=T.fO r λ_ _=>id
 have m:C.flatten.length=g.length*6:=by rw[dS T.aQ,T.aT]
 have f:dI (λk=>k=4) d c d (aV c t.bz (t.off+g.length*6) [.i a.fQ,.i a.pc,.i a.bH,.s j,.s i,.s e]):=dI.aV r.bF l.bz.1 _ _
 refine⟨l.qB.wr (by simp[m]),rP.qe ⟨?_,T.aT,T.aQ,l.Cu f λk n p=>V,s.fO f V,n.fO f V,p.fO f V⟩,f⟩
 have:=l.qB.dY (o:=g.length*6) (new:=[.i a.fQ,.i a.pc,.i a.bH,.s j,.s i,.s e]) (by simp[m])
 rw[oP _ _ _ _ V,m,VE]at this
 exact this
def RU(w nb:Nat)(d:ad)(k n f:Int)(g g1 g2:Int)(l j h:E)(e:bg)(R:aj):Prop:=
 ((k==(24:Int))=true->
 let b:bg:=aV e nb 2 [.i f]
 ∃a:E,aS b w 8=some a.v/\
 ∃c:E,aS b w 8=some c.v/\
 (0:Int)<=(eJ ((c.len:Int) -(1:Int)))/\(eJ ((c.len:Int) -(1:Int)))<(a.len:Int)/\
 jb b a.bz (a.off+Int.toNat (eJ ((c.len:Int) -(1:Int)))*6) 6/\
 let i:bg:=aV b a.bz (a.off+Int.toNat (eJ ((c.len:Int) -(1:Int)))*6) [.i g,.i g1,.i f,.s l,.s j,.s h]
 gS (nb::d) b i/\
 R (.tuple #[]) i)/\
 ((k==(24:Int))=false->
 bK dO 182 [vp w 0,vi (eJ (n+(1:Int)))] e λ_ a=>
 gS (nb::d) e a/\
 ∃m:E,aS a w 8=some m.v/\
 let c:bg:=a.push (.cells (db [.i g,.i g1,.i g2,.s l,.s j,.s h]) iu)
 aS c w 8=aS a w 8/\
 mj c iu [.i (0:Int),.i (0:Int),.i (0:Int),.s E.nil,.s E.nil,.s E.nil] 96 m (E.mk a.size 0 1 1) λo b=>
 gS (nb::d) c b/\
 jb b w 8 1/\
 let i:bg:=aV b w 8 [.s o]
 gS (nb::d) b i/\
 R (.tuple #[]) i)
def Tb(S:ST F q b w dD (SB d y s cy B t) cy B t s.cy s.aR g u z G h C){W:ad}(H:A2 q b W){nb:Nat}{A:bg}{j:bW}(N:tw b A b1 b2 b3 k j.aU j.bI j.cC)(ai:b.size<=nb/\nb<A.size)(v:nb≠b1/\nb≠b2/\nb≠b3)
 (ay:g.length<=100000)(aA:0<=u.pc/\u.pc<=100000){R:aj}
 (ar:e.op=24->∀c,CK F q b w d y {s with bq:=g++[{j with bH:=u.bH}]} c->R (.tuple #[]) c)
 (au:e.op≠24->∀c,CK F q b w d y {s with bq:=g++[{u with pc:=u.pc+1},j]} c->R (.tuple #[]) c):
 RU w nb W e.op u.pc u.bH j.fQ j.pc j.bH (.mk b1 0 k k) (.mk b2 0 k k) (.mk b3 0 k k) A R:=by
 have az:=N.lo
 have ax:=S.jO.Eg
 have D:eJ ((t.len:Int) -1)=(g.length:Int):=by rw[iz];omega
 have e2:Int.toNat (g.length:Int)=g.length:=V
 have e4:eJ (u.pc+1)=u.pc+1:=iz
 have ak:q nb=0:=S.eI.bF _ ai.1
 refine⟨λL=>?_,λL=>?_⟩
 .intro I
  have Q:tw b I b1 b2 b3 k j.aU j.bI j.cC:=⟨N.ext.aV ai.1 _ _,by simp only[I,bD];omega,N.kr.congr (cq _ _ _ _ (λD=>v.1 D.symm)),N.ko.congr (cq _ _ _ _ (λD=>v.2.1 D.symm)),N.kh.congr (cq _ _ _ _ (λD=>v.2.2 D.symm)),N.aT⟩
  have ab:I.size=A.size:=bD _ _ _ _
  have r:dI (λ_=>False) q b (qx q b1 b2 b3 g.length) I:=Q.fO S.eI.bF
  let⟨U,a2,a3⟩:=Q.qB (q:=q) (v:=g.length)
  let⟨Z,w2,K⟩:=S.jO.replace r (a:={j with bH:=u.bH}) U a2 a3
  let⟨M,X⟩:=S.eI.jU (r.aP λ_=>False.elim) (S.eI.aR.fO r id id)
  have J:=M.bV.dx 8
  refine⟨t,J,t,J,?_⟩
  rw[D,e2]
  refine⟨V,V,Z,?_⟩
  intro aa
  let⟨T,Y⟩:=M.mE (K.aP λk P=>V) w2
  refine⟨?_,ar (sp L) _ ⟨_,cy,B,t,T,X.J Y⟩⟩
  intro o m
  rcases bo.1 m with rfl|m
  .refine K.fR _ V ?_
   unfold qx;rw[fL v.2.2,fL v.2.1,fL v.1,ak];decide
  .refine K.fR _ (oh ((H o m).1)) ?_
   rw[r.jv o (H o m).1,(H o m).2];decide
 .simp only[bd]at L
  rw[e4]
  have r:dI (λ_=>False) q b (qx q b1 b2 b3 (g.length+1)) A:=N.fO S.eI.bF
  let⟨U,a2,a3⟩:=N.qB (q:=q) (v:=g.length+1)
  let⟨ap,aw⟩:=S.eI.jU (r.aP λ_=>False.elim) (S.eI.aR.fO r id id)
  have I:ST F (qx q b1 b2 b3 (g.length+1)) A w dD (SB d y s cy B t) cy B t s.cy s.aR g u z G h C:=⟨ap,S.jO.fO r λ_ _=>id⟩
  have ah:A2 (qx q b1 b2 b3 (g.length+1)) A (nb::W):=λo m=>by
   rcases bo.1 m with rfl|m
   .refine⟨V,?_⟩;unfold qx;rw[fL v.2.2,fL v.2.1,fL v.1,ak]
   .exact⟨by have:=(H o m).1;omega,((r.jv o (H o m).1)▸(H o m).2)⟩
  apply ta (w,0)
  have J:=I.eI.bV.dx 8
  refine⟨t,J,t,J,?_⟩
  rw[D,e2]
  refine⟨V,V,I.jO.abh,?_⟩
  intro Q
  let⟨K,aa⟩:=I.Sz (u.pc+1)
  have aq:dI (λk=>k=4) (qx q b1 b2 b3 (g.length+1)) A (qx q b1 b2 b3 (g.length+1)) Q:=dI.aV I.eI.bF I.jO.bz.1 _ _
  refine⟨aa.fS ah,t,K.eI.bV.dx 8,?_⟩
  intro Z
  have Y:=px Z
  let⟨T,an⟩:=K.ext Y
  have ac:=(ah.to aa).to an
  have mu:jG Z Q.size 0 [.i j.fQ,.i j.pc,.i j.bH,.s (.mk b1 0 k k),.s (.mk b2 0 k k),.s (.mk b3 0 k k)]:=(dF.push Q _ _).kZ
  have M:(g++[{u with pc:=u.pc+1}]).length=g.length+1:=bO
  have X:=λ{k:Nat}{s:E}{l:ae}(a:iE (qx q b1 b2 b3 (g.length+1)) A bB 1 k s l)(P:k≠4)=>(a.fO aq P).fO (dI.fC (p:=λ_=>False) Y K.eI.bF) id
  refine⟨Y.da (K.eI.bV.dx 8),rR.push T.eI.bq T.eI.bF (x:=.mk Q.size 0 1 1) O (f:=j) mu (by rw[M];exact X U V) (by rw[M];exact X a2 V) (by rw[M];exact X a3 V) (by rw[M];omega) λam al av q1 q2=>?_⟩
  have ab:To _ Z am av:=q2.aP λk P=>V
  let⟨af,aC⟩:=T.eI.mE (q2.aP λk P=>V) q1
  refine⟨ab.fS ac,af.pQ (i:=8) bO,?_⟩
  intro aB
  let⟨ag,ao⟩:=af.lW 8 [.s al]
  refine⟨ao.fS (ac.to ab),au L _ ⟨am,cy,B,al,?_,(((aw.J aa).J an).J ab).J ao⟩⟩
  have e9:g++[{u with pc:=u.pc+1}]++[j]=g++[{u with pc:=u.pc+1},j]:=bO
  rw[e9]at ag
  exact ag
end
end Go.Proofs.YtbbbdejieenniaaGreat
