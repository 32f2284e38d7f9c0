/- Part of a proof. -/
import Derived.Carry
import Derived.ChangeSame
import Derived.ChangeSlices
import Derived.Deep.Slices
import Derived.OpenShut
import Derived.RowKit
import Derived.WideShapes
import Derived.Test.YtkicoahejfbjhaaGreatSA01
import Derived.Test.YtkicoahejfbjhaaGreatSA10
import Derived.Test.YtkicoahejfbjhaaGreatSA12
import Derived.Test.YtkicoahejfbjhaaGreatSA14
import Derived.Test.YtkicoahejfbjhaaGreatSA15
import Derived.Test.YtkicoahejfbjhaaGreatSA16
import Derived.Test.YtkicoahejfbjhaaGreatSA17
import Derived.Test.YtkicoahejfbjhaaGreatSA18
set_option linter.all false
set_option maxHeartbeats 8000000
set_option maxRecDepth 100000
namespace Go.Proofs.YtkicoahejfbjhaaGreat
open Go.Vc
section
variable{n e:Nat}{m2 mx M a:E}
def tP:St:=⟨0,0,0,0,[],[],[]⟩
structure Zh where
 s:St
 ok:Bool
open Classical in
noncomputable def xU (b:cN) (s:St) (a:Int):Zh:=if cU b s/\0<=a/\a<=100000 then⟨aD b a.toNat s,true⟩else⟨tP,false⟩
def Va(a:cN)(s:St):lC a s=aD a 1 s:=rfl
def NJ{a:cN}{s:St}:xU a s 1=(open Classical in if cU a s then⟨lC a s,true⟩else⟨tP,false⟩):=by
 unfold xU;rcases dQ (cU a s)with h|h
 .rw[an ⟨h,bh,bh⟩,an h];rfl
 .rw[ae λb=>h b.1,ae h]
def cU.je{j:cN}{s:St}(h:cU j s)(b:Sm n s)(o:n<=900000000):zo s:=by
 refine⟨by have:=b.aT;omega,λc e=>(h.heap.cell c e).fl,oh b.heap,?_,λf g=>?_⟩
 .have:=h.depth;have:=h.bu;have:=h.dR;omega
 .have a:=h.ao f g;obtain⟨p,_,i,d,_⟩:=a.Jd h.fy;have k:=a.lr;have l:=a.lo;have m:=a.lh;rw[i]at k l m;have:=d.ak;omega
def zk.sm{s:St}(h:zk s)(a:s.heap.length<=n)(b:s.aT.length<=n):Sm n s:=⟨a,b,λg c w d=>((h.ao g c).1 w d).2⟩
section
variable{b:E}{c:Nat->Nat}{m:E}{aT f d:O}{s:St}
def pd.Ea(h:pd b c m aT f d s)(a:zo s):gD m aT f d s:=
 ⟨h.aT.nH (oh a.aT),h.heap.cells (oh a.heap),h.ao.Ea (oh a.depth) a.ao⟩
def pd.cQ(h:pd b c m aT f d s)(j:J m m2){a:Nat}{g:List Ce}(i:m.size<=a)(kb:cE m2 a e g):vw b (nX c a 1) m2 a e g aT f d s.aT s.heap s.ao:=by
 have C:dp (λ_=>False) c m (nX c a 1) m2:=dp.nX j h.bs.new i kb.lt 1;have B:=h.bs.eH C;exact⟨B.cx,B.jQ,B.new,kb,fH _ _ _,h.aT.eH C id,h.heap.eH C id id,h.ao.eH C λ_ _=>id⟩
def pd.nil{b m:E}(a:J b m):pd b (λ_=>0) m .nil .nil .nil tP:=
 ⟨⟨a,λ_ _=>rfl,λ_ _=>rfl⟩,⟨by simp[tP],aL,Or.inl rfl⟩,⟨[],⟨aL,aL,Or.inl rfl⟩,by simpa[tP]using gP.nil _ _,Xq.nil⟩,nE.none⟩
def vw.Ea{h e:Nat}{a:List Ce}(L:vw b c m h e a aT f d s.aT s.heap s.ao)(g:zo s):gD m aT f d s:=
 pd.Ea (c:=c) ⟨⟨L.cx,L.jQ,L.new⟩,L.aT,L.heap,L.ao⟩ g
end
def WM(m:E)(x:Zh)(v:Value)(c:E):Prop:=∃d aT b a,v=.tuple #[MY x.s aT b a,vb x.ok]/\pd m d c aT b a x.s
def iF.up{a:Nat->Nat}{m d:E}{f k:Nat}{s:O}{l:List Ce}(h:iF a m e f k s l)(j:k≠0)(g:∀b,b<mx.size->a b=0)(i:∀b,mx.size<=b->b<m.size->d[b]? =m[b]?):iF a d e f k s l:=
 h.eA (λc=>i _ (Hi λn=>j (by rw[<-(h.D c).2];exact g _ n)) (h.D c).1) λ_=>rfl
def pd.QX{m:E}{q:Nat->Nat}{aT p n:O}{s:St}(h:pd mx q M aT p n s)(y:m.size<=mx.size)(z:M.size<=a.size)(c:∀b,mx.size<=b->b<M.size->a[b]? =M[b]?)(w:J m a):pd m q a aT p n s:=by
 have d:=h.bs.jQ;refine⟨⟨w,λb f=>d b V,λb f=>h.bs.new b V⟩,h.aT.up bh d c,?_,?_⟩
 .let⟨g,r,a2,a3⟩:=h.heap;refine⟨g,r.up bh d c,a2.mono λj x⟨i,u,k,l⟩=>⟨i,u,iP k λf=>c _ (l f).2.1 (iE k f),λf=>?_⟩,a3⟩;let⟨g1,g2,t,tail,v,o⟩:=l f;exact⟨g1,V,t,tail,v,o.congr (c _ g2 o.lt)⟩
 .let⟨g,f⟩:=h.ao;exact⟨g,f.pY.up bh d c,f.len,f.size,λr j i k l=>by
   let⟨u,t,o,e,b1,b2,b3⟩:=f.dz r j i k l;exact⟨u,t,o,e,b1.up V d c,b2.up V d c,b3.up V d c⟩⟩
def pd.box{m:E}{d:Nat->Nat}{aT b a:O}{s:St}(h:pd mx d M aT b a s)(c:J m mx){nb:Nat}(e:m.size<=nb)(g:nb<mx.size)(o:Nat)(l:List Ce):pd m d (ah M nb o l) aT b a s:=
 h.QX c.size (tU (aw _ _ _ _).symm) (λf i _=>bd _ _ _ _ V) ((c.trans h.bs.cx).ah e _ _)
def pd.ext{e:E}{f:Nat->Nat}{aT d c:O}{s:St}(h:pd e f M aT d c s)(b:J M a):pd e f a aT d c s:=h.QX (ad _) b.size (λg _ i=>b.same g i) (h.bs.cx.trans b)
def Bs.yB(m:E):Bs m (λ_=>0) m:=⟨J.az _,λ_ _=>rfl,λ_ _=>rfl⟩
section
variable{m:E}{d p aT j i:O}{h:cN}{s:St}
def RT{m:E}{nb:Nat}(c:J m m2)(a:J m2 M)(b:m.size<=nb){x:Zh}(d:x=⟨tP,false⟩)(l:List Ce):WM m x (.tuple #[.agg #[vi (0:Int),vi (0:Int),vi (0:Int),vi (0:Int),O.v O.nil,O.v O.nil,O.v O.nil],vb false]) (ah M nb 0 l):=by
 subst d;exact⟨_,.nil,.nil,.nil,rfl,pd.nil ((c.trans a).ah b _ _)⟩
variable(c:fw m d p h)(f:gD m aT j i s)(b:zk s)(g:s.aT.length<=10000000)
include c f b g
omit c f in
def TE:Sm 10000000 s:=b.sm b.lh g
omit c f in
def PU(c:Int):zo (xU h s c).s:=by
 unfold xU;split
 .rename_i a;exact(wC _ a.1).je (wD _ a.1 (b.sm b.lh g) V) V
 .exact⟨by simp[tP],by simp[tP],by simp[tP],by simp[tP],by simp[tP]⟩
def Gf:aN cg 16 [.agg #[O.v d,O.v p],MY s aT j i] m (WM m (xU h s 1)):=by
 apply Ak;simp -zeta only[aC,aB];rw[NJ];intro u m2 r;have s1:u.size=m.size+1:=by simp[u]
 have s2:m2.size=m.size+2:=by simp[m2,s1]
 have s3:r.size=m.size+3:=by simp[r,s2]
 have w:J m r:=(((J.az m).aK _).aK _).aK _;clear_value r;have o:∀e∈[m2.size,u.size,m.size],e<r.size:=bE;refine(EU (c.ext w) (f.ext w) b).aH (J.az _) o λb4 W I k _=>⟨b4,rfl,λA=>RT w k V (by rw[ae (nb I A)]) _,λA=>?_⟩;have q:=yb I A;rw[an q];have t:=w.trans k;have z5:=t.size;have ac:=k.size;have n:=TE b g;refine(pO (Bs.yB W) (λ_=>dL _) (f.ext t) (q.je n V)).mono ?_;rintro _ D ⟨aa,o6,H,G,rfl,Q,M⟩;have x:=M.uN;have z6:=x.size;refine⟨x.dv λe l=>k.lt (o e l),_,_,_,_,o6,H,G,rfl,aJ (x.same _ V) 0,aJ (x.same _ V) 1,?_⟩;intro v;have kb:cE v D.size bJ (SB d p s o6 H G):=cE.push D _ _;have y:=Q.cQ (m2:=v) (J.push D _) (ad _) kb;have L:zi _ v [m2.size,u.size,m.size]:=λe l=>⟨y.cx.lt (k.lt (o e l)),y.jQ e (k.lt (o e l))⟩;clear_value v;refine(GU y (c.ext t) q n.ur (oh n.heap) (oh n.aT)).mono ?_;rintro _ X ⟨ab,Y,U,T,a,t8⟩;have K:=wC 1 q;have C:=K.je (wD 1 q n V) V;rw[<-Va]at K C;generalize lC h s=S at*;refine⟨t8.dH L,_,a.box.bZ 2,_,a.box.bZ 3,_,a.box.bZ 4,_,a.box.bZ 5,Y,a.box.bZ 6,U,a.box.bZ 7,T,a.box.bZ 8,(pO (Bs.yB X) (λ_=>dL _) (a.Ea C) C).mono ?_⟩;rintro _ m9 ⟨Z,E,B,z,rfl,R,N⟩;have F:=a.cx;have z8:=F.size;refine⟨N.uN.dv λe l=>F.lt (k.lt (o e l)),_,_,_,_,E,B,z,rfl,?_⟩;have P:=R.box (t.trans F) (nb:=m2.size) V V 0 [.i S.cz,.i S.value,.i S.bu,.i S.dR,.s E,.s B,.s z];exact⟨Z,E,B,z,rfl,P⟩
end
end
section
section
variable{m:E}{s t:O}
def FU{x y:bM}{q r:O}(h:ap m q x.aE)(k:ap m r y.aE):dt cg 75 [.agg #[vi x.aP,vi x.j8,O.v q],.agg #[vi y.aP,vi y.j8,O.v r]] m (x=y):=by
 apply zT;simp -zeta only[aC,aB];intro i d;let⟨a,g⟩:=dD (a:=i) (c:=d) rfl rfl;clear_value d;refine⟨λb=>⟨λc=>?_,λc=>bV (λh=>by simp[h]at c) a⟩,λb=>bV (λh=>by simp[h]at b) a⟩;refine(kM (h.ext a) (k.ext a)).aH (J.az _) g λe l f j _=>⟨e,rfl,eT ?_ (a.trans j)⟩;rw[f];cases x;cases y;simp at b c;simp[b,c]
def FV{l r:List bM}(f:cX m s l)(j:cX m t r):dt cg 39 [O.v s,O.v t] m (l=r):=by
 apply zU;have y:=f.len;have D:=j.len;refine⟨λh=>bV (λe=>?_) (J.az _),λh=>?_⟩
 .subst e;simp at h;omega
 have C:l.length=r.length:=by simp at h;omega
 refine dU (n:=l.length) (y▸f.gS) (λk a=>J m a/\l.take k=r.take k) ⟨J.az _,aL⟩ ?_;rintro k E I μ B ⟨b,d⟩ A
 refine dit (λx=>?_) λx=>?_
 .let⟨K,g⟩:=cG l k;let⟨L,c⟩:=cG r k;let⟨G,a,w,g1,g2⟩:=(cX.ext b f).aF g;let⟨H,z,q,u,v⟩:=(cX.ext b j).aF c;refine⟨V,V,_,w,_,g1,_,g2,V,V,_,q,_,u,_,v,(FU a z).mono ?_⟩;rintro _ F ⟨p,rfl,i,o⟩;refine⟨p,rfl,λa=>bV (λe=>nb i a ?_) (b.trans o),λa=>A V _ ⟨b.trans o,?_⟩⟩
  .subst e;rw[g]at c;simpa using c
  .rw[aU g,aU c,d,yb i a]
 .rw[bX V,bX V]at d;exact iN d b
def DX{x y:aX}{r s t u v w:O}(C:ap m r (x.ak))(D:ap m s (x.aR))(E:ap m t (x.ba))(F:ap m u (y.ak))(G:ap m v (y.aR))(H:ap m w (y.ba)):
 dt cg 20 [.agg #[vi x.fE,vi x.pc,vi x.dst,O.v r,O.v s,O.v t],.agg #[vi y.fE,vi y.pc,vi y.dst,O.v u,O.v v,O.v w]] m (x=y):=by
 apply yz
 simp -zeta only[aC,aB]
 intro I q
 let⟨a,i⟩:=dD (a:=I) (c:=q) rfl rfl
 clear_value q
 refine⟨λc=>⟨λd=>⟨λe=>?_,λe=>bV (λh=>by simp[h]at e) a⟩,λd=>bV (λh=>by simp[h]at d) a⟩,λc=>bV (λh=>by simp[h]at c) a⟩
 refine(kM (C.ext a) (F.ext a)).aH (J.az _) i λz N o f L=>⟨z,rfl,λk=>?_,λk=>bV (λh=>fb o k (by rw[h])) (a.trans f)⟩
 have b:=a.trans f
 refine(kM (D.ext b) (G.ext b)).aH f i λA P p j M=>⟨A,rfl,λl=>?_,λl=>bV (λh=>fb p l (by rw[h])) (b.trans j)⟩
 have g:=b.trans j
 refine(kM (E.ext g) (H.ext g)).aH (f.trans j) i λB Q hd K _=>⟨B,rfl,eT ?_ (g.trans K)⟩
 rw[hd];have h:=o.1 k;have n:=p.1 l;cases x;cases y;simp at c d e h n;simp[c,d,e,h,n]
def Ck{l r:List aX}(f:jx m s l)(j:jx m t r):dt cg 40 [O.v s,O.v t] m (l=r):=by
 apply wT;have H:=f.len;have R:=j.len;refine⟨λh=>bV (λe=>?_) (J.az _),λh=>?_⟩
 .subst e;simp at h;omega
 have Q:l.length=r.length:=by simp at h;omega
 refine dU (n:=l.length) (H▸f.gS) (λk a=>J m a/\l.take k=r.take k) ⟨J.az _,aL⟩ ?_;rintro k S N μ P ⟨a,d⟩ M
 refine dit (λD=>?_) λD=>?_
 .let⟨aa,g⟩:=cG l k;let⟨ab,b⟩:=cG r k;let⟨U,W,X,E,F,G,z,g1,g2,A,B,C⟩:=(jx.ext a f).aF g;let⟨Y,Z,r5,I,K,L,q,u,v,w,x,y⟩:=(jx.ext a j).aF b;refine⟨V,V,_,z,_,g1,_,g2,_,A,_,B,_,C,V,V,_,q,_,u,_,v,_,w,_,x,_,y,(DX E F G I K L).mono ?_⟩;rintro _ T ⟨p,rfl,i,o⟩;refine⟨p,rfl,λc=>bV (λe=>nb i c ?_) (a.trans o),λc=>M V _ ⟨a.trans o,?_⟩⟩
  .subst e;rw[g]at b;simpa using b
  .rw[aU g,aU b,d,yb i c]
 .rw[bX V,bX V]at d;exact iN d a
def th{x y:St}{A h s B u t:O}(k:gD m A h s x)(l:gD m B u t y):dt cg 17 [MY x A h s,MY y B u t] m (x=y):=by
 apply yA;simp -zeta only[aC,aB];intro F z;let⟨a,j⟩:=dD (a:=F) (c:=z) rfl rfl;clear_value z;refine⟨λc=>⟨λd=>⟨λe=>⟨λf=>?_,λf=>bV (λh=>by simp[h]at f) a⟩,λe=>bV (λh=>by simp[h]at e) a⟩,λd=>bV (λh=>by simp[h]at d) a⟩,λc=>bV (λh=>by simp[h]at c) a⟩;refine(kM (k.aT.ext a) (l.aT.ext a)).aH (J.az _) j λC K v g H=>⟨C,rfl,λo=>?_,λo=>bV (λh=>fb v o (by rw[h])) (a.trans g)⟩;have b:=a.trans g;refine(FV (cX.ext b k.heap) (cX.ext b l.heap)).aH g j λD L w n I=>⟨D,rfl,λp=>?_,λp=>bV (λh=>fb w p (by rw[h])) (b.trans n)⟩;have i:=b.trans n;refine(Ck (jx.ext i k.ao) (jx.ext i l.ao)).aH (g.trans n) j λE M hd G _=>⟨E,rfl,eT ?_ (i.trans G)⟩;rw[hd];have q:=v.1 o;have r:=w.1 p;cases x;cases y;simp at c d e f q r;simp[c,d,e,f,q,r]
end
end
section
variable{M:E}
def RJ{k b:Nat}(a:b<k)(h:k<=M.size):(M.extract 0 k)[b]? =M[b]? :=((J.MI h).same b (by rw[me h];exact a)).symm
def pd.old{mx M':E}{f:Nat->Nat}{aT c a:O}{s:St}(h:pd mx f M aT c a s)(d:M.size<=M'.size)(g:∀b,mx.size<=b->b<M.size->M'[b]? =M[b]?):pd (M'.extract 0 mx.size) f M' aT c a s:=
 have e:=bH h.bs.cx.size d
 h.QX (by rw[me e];exact ad _) d g (J.MI e)
def vw.old{a M M':E}{i:Nat->Nat}{c e:Nat}{d:List Ce}{aT h f:O}{s:St}(L:vw a i M c e d aT h f s.aT s.heap s.ao)(j:a.size<=c)(k:M.size<=M'.size)(g:∀b,a.size<=b->b<M.size->M'[b]? =M[b]?):vw (M'.extract 0 a.size) i M' c e d aT h f s.aT s.heap s.ao:=
 have N:=pd.old (s:=s) ⟨⟨L.cx,L.jQ,L.new⟩,L.aT,L.heap,L.ao⟩ k g
 ⟨N.bs.cx,N.bs.jQ,N.bs.new,L.box.congr (g _ j L.box.lt),L.Qm,N.aT,N.heap,N.ao⟩
def Xd{Y:List Nat}{m:E}(f:Fz Y m M):Le (bG Y m) (M.extract 0 m.size):=λc o v e=>by
 let⟨d,a⟩:=eP.1 e;have b:=lZ a;rw[aJ ((RJ b f.size).trans (f.same c b d))];exact a
def GSt(f:cN)(d:Nat)(e:O)(m:E)(P:Nat)(v:Value)(a:E):Prop:=∃n g aT c b s,v=MY s aT c b/\pd (a.extract 0 n) g a aT c b s/\m.size<=n/\n<=a.size/\cU f s/\Sm 100000 s/\Rd d e P a/\Fz [d] m a
section
variable{f:List Nat}{a:E}{b P:Nat}{e d p:O}{c:cN}
def Io(H:Rd b e P a)(hP:P+100<=10^16)(hd:cw (bG [b] a) d c.bo)(hp:iG (bG [b] a) p c.cF)(K:nj c):aN cg 57 [vp b 0,.agg #[O.v d,O.v p]] a (GSt c b e a (P+6)):=by
 apply AI (b,0);simp -zeta only[aC,aB];have hr:=H.lt;intro l t;let⟨x2,r⟩:=dD (a:=l) (c:=t) rfl rfl;have s1:l.size=a.size+1:=by simp[l]
 have B2:cE t a.size vk [.s d,.s p]:=(cE.push a _ _).ext (J.push l _);clear_value t;have r2:Rs b e a P t:=⟨x2.fz _,H.ext x2⟩;intro N;have x3:J t N:=J.push _ _;have G3:∀o,af N a.size o=af t a.size o:=λo=>aJ (x3.same _ B2.lt) o;refine⟨G3 _,G3 _,G3 _,G3 _,?_⟩;refine(zY r2 V [40,40,12,3,0,20] rfl rfl aL).mono λ_ j⟨dR,h,aE,r4,w⟩=>?_;have z3:=x3.size;have z2:=x2.size;have w:Fz [b] N j:=w;have z4:=w.size;have aY:=r l.size aL;have Z:0<=dR/\dR<=40:=by simp at aE;omega
 have A:∀o,af j a.size o=af N a.size o:=λo=>aJ (w.same _ V bE) o;refine⟨w.dv λf g=>by have:=r f g;simp at g⊢;omega,dR,h,A _,A _,A _,A _,?_⟩;have aG:∀{M:E},Fz [b] a M->fw M d p c:=λG=>have aq:=(G.df (S:=[b]) aL).trans (bA _ _);⟨hd.le aq,iG.le aq hp⟩;refine(EM (aG r4.f) K dR).mono ?_;rintro _ u ⟨aT,aF,fr,rfl,x,b1,b2,b3,b4,aZ,q1,q2,q3,q4,q5,au,q6,k4⟩;have z5:=x.size;have G5:∀o,af u a.size o=af j a.size o:=λo=>aJ (x.same _ V) o;refine⟨x.dv λf g=>oh (r f g),_,_,_,_,_,_,_,rfl,G5 _,G5 _,?_⟩;intro n;have x6:J u n:=J.push _ _;have kb:cE n u.size bJ (SB d p (lM c dR) aT aF fr):=cE.push u _ _;have L6:=T0 (m:=j) (MI:=[.s d,.s p]) ⟨q1,q2,q3,q4,q5⟩ au q6 k4 x6 (ad _) kb;have s6:n.size=u.size+1:=by simp[n]
 clear_value n;have r6:=(r4.ext x).ext x6;have L:∀{M:E},n.size<=M.size->Lw b [u.size,l.size,a.size] M:=λaX=>lw hr bE;refine(cp r6.r V 60).mono λ_ m7⟨B,h,aO,aP,d7,U⟩=>⟨(L (ad _)).dv U,B,h,?_⟩;have z7:=U.size;refine(cp d7 V 200).mono λ_ m8⟨C,h,aQ,aR,d8,W⟩=>⟨(L z7).dv W,C,h,?_⟩;have z8:=W.size;refine(cp d8 V 20).mono λ_ m9⟨D,h,aS,aU,d9,X⟩=>⟨(L V).dv X,D,h,?_⟩;have z9:=X.size;refine(cp d9 V 100).mono λ_ aa⟨F,h,aV,aW,ax,Q⟩=>⟨(L V).dv Q,F,h,?_⟩;have vu:=Q.size;have ai:=((U.trans W).trans X).trans Q;have ae:=J.push aa (.cells (bt [.i B,.i C,.i D,.i 100000,.i 0,.i F]) aA);have a2:=ae.size;refine(zY (r6.to ai ax) V [B,C,D,100000,0,F] rfl rfl aL).mono λ_ y⟨ab,h,aj,am,v⟩=>?_;have v:Fz [b] (aa.push (.cells (bt [.i B,.i C,.i D,.i 100000,.i 0,.i F]) aA)) y:=v;refine⟨(L (bH (by omega:n.size<=aa.size) ae.size)).dv v,ab,h,?_⟩;have a3:=v.size;obtain⟨q,rfl⟩:∃q:Nat,ab=q:=⟨ab.toNat,by simp at aj;omega⟩;have hn:q<=100000:=by simp at aj;omega
 have T:=(ai.trans (ae.fz _)).trans v;have ah:=L6.old (s:=lM c dR) (M':=y) V T.size λf h1 h2=>T.same f h2 bE;have e0:(y.extract 0 j.size).size=j.size:=me V;have w4:Le (bG [b] a) (y.extract 0 j.size):=(r4.f.df aL).trans (Xd (((x.trans x6).fz [b]).trans T));refine(P3 (s:=lM c dR) ah ⟨hd.le w4,iG.le w4 hp⟩ (LX K Z) (P5 c dR) q hn V).mono ?_;rintro _ z ⟨⟨nn,rfl⟩,a1,aH,az,ay,i,ap⟩;have ak:=wC q (LX K Z);have I:=wD q (LX K Z) (P5 c dR) V;have al:=ak.je I V;generalize aD c q (lM c dR)=st at*;have a4:=ap.size;have ao:∀f,f<j.size->z[f]? =y[f]? :=λf g=>(i.cx.same f V).trans (RJ g V);have aI:Rs b e a (P+6) z:=by
  have G:Fz [b] a z:=⟨V,λf g hn=>(ao f V).trans (am.f.same f g hn)⟩;exact⟨G,(H.MD am.r G (ao b V)).mono V⟩
 refine⟨ap.dH λf g=>⟨by have:=r f g;omega,ah.jQ f (oh (r f g))⟩,nn,rfl,_,i.box.bZ 2,_,i.box.bZ 3,_,i.box.bZ 4,_,i.box.bZ 5,aH,i.box.bZ 6,az,i.box.bZ 7,ay,i.box.bZ 8,(pO (Bs.yB z) (λ_=>dL _) (i.Ea al) al).mono ?_⟩;rintro _ a0 ⟨aK,ac,Y,R,rfl,av,ar⟩;have ag:=ar.uN;have aM:=ag.size;refine⟨ag.dv λf g=>oh (r f g),_,_,_,_,ac,Y,R,rfl,?_⟩;have an:=(aI.ext ag).put H (k:=l.size) V 0 [.i st.cz,.i st.value,.i st.bu,.i st.dR,.s ac,.s Y,.s R];exact⟨z.size,aK,ac,Y,R,st,rfl,av.old (tU (aw _ _ _ _).symm) λf g _=>bd _ _ _ _ V,V,by rw[aw];exact aM,ak,⟨by have:=I.heap;omega,oh I.aT,I.ur⟩,an.r,an.f⟩
end
end
section
variable{q:O}
def cU.Yp{q:cN}{s:St}{n:Nat}(h:cU q s)(c:Sm n s)(x:n<=10000000):zk s:=by
 have l:=h.je c V;have i:=h.bu;have v:=h.dR;have u:=c.heap;have C:=Oi h;have t:=l.depth;refine⟨⟨V,V⟩,λd i w a=>?_,λf b=>?_,V,V,λf b=>oh (l.ao f b)⟩
 .have k:=h.heap.cell d i;rcases IZ d.aP 1 with e|e
  .have:=(k.wL e).2.1 w a;exact⟨V,V⟩
  .rcases(k.oL V).1 w a with e|⟨e,j,g,_⟩
   .exact⟨by have:=e.1;omega,oh e.2⟩
   .have:=av g;have:=ij e;exact⟨V,V⟩
 .let⟨k,o⟩:=List.mem_iff_getElem?.1 b;have F:=C.ao k f o;refine⟨λw a=>⟨?_,c.ur f b w a⟩,λr p=>?_,λw a=>?_⟩
  .rcases(h.ao f b).RL w a with e|e
   .have:=e.1;omega
   .omega
  .let⟨m,j⟩:=List.mem_iff_getElem?.1 p;have:=F.lr;have:=F.lo;have:=av j;let⟨w,a⟩:=cG f.ak m;have:=(F.ak.dz m w r a j).2.1;exact⟨V,V⟩
  .rcases C.ba.cL f b w a with e|⟨e,g⟩
   .exact⟨V,V⟩
   .have:=ij e;exact⟨V,V⟩
structure Mv(n:Nat)(ro:Nat->Nat)(M:E)(ro':Nat->Nat)(M':E):Prop where
 size:M.size<=M'.size
 eA:∀b,b<M.size->n<=b->M'[b]? =M[b]?
 gT:∀b,b<M.size->ro' b=ro b
 new:∀b,M'.size<=b->ro' b=0
 jQ:∀b,b<n->ro b=0
section
variable{n:Nat}{a d:Nat->Nat}{M b:E}
def iF.mv{e f k:Nat}{s:O}{l:List Ce}(h:iF a M e f k s l)(v:Mv n a M d b)(g:k≠0):iF d b e f k s l:=
 h.eA (λc=>v.eA _ (h.D c).1 (Hi λe=>g (by rw[<-(h.D c).2];exact v.jQ _ e))) λc=>v.gT _ (h.D c).1
def dJ.mv{i:O}{h:List bM}(q:dJ n a M i h)(v:Mv n a M d b):dJ n d b i h:=by
 let⟨l,j,a2,a3⟩:=q;refine⟨l,j.mv v bh,a2.mono λs r⟨o,m,f,g⟩=>⟨o,m,iP f λc=>v.eA _ (iE f c) (g c).2.1,λc=>?_⟩,a3⟩;let⟨g1,g2,k,tail,p,e⟩:=g c;exact⟨(v.gT _ e.lt).trans g1,g2,k,tail,p,e.congr (v.eA _ e.lt g2)⟩
def SJ.mv{i:Nat}{c:List Ce}{f:aX}(v:Mv n a M d b):SJ a M i c f->SJ d b i c f:=λ⟨r,o,k,j,e,g,h⟩=>⟨r,o,k,j,e.mv v V,g.mv v V,h.mv v V⟩
def sU.mv{e:O}{g:List aX}{f:aX}{r o h:O}{c:List (List Ce)}(T:sU a M e g f r o h c)(v:Mv n a M d b):sU d b e g f r o h c:=
 ⟨T.pY.mv v bh,T.len,T.size,λm i j k l=>(T.dz m i j k l).mv v,T.ak.mv v V,T.aR.mv v V,T.ba.mv v V⟩
def nE.mv{c:O}{e:List aX}(l:nE a M c e)(v:Mv n a M d b):nE d b c e:=by
 let⟨g,h⟩:=l;exact⟨g,h.pY.mv v bh,h.len,h.size,λm f i j k=>(h.dz m f i j k).mv v⟩
def sU.put{d:O}{b:List aX}{f g:aX}{s o p n m j:O}{h:List (List Ce)}(T:sU a M d b f s o p h)(v:∀e,M.size<=e->a e=0){i:Nat}(w:i<6){c:Ce}
 (u:iZ [.i f.fE,.i f.pc,.i f.dst,.s s,.s o,.s p] i [c]=[.i g.fE,.i g.pc,.i g.dst,.s n,.s m,.s j])(t:iF a M aA 1 (10+3*b.length) n (g.ak.map Ce.i))(q:iF a M aA 1 (11+3*b.length) m (g.aR.map Ce.i))(r:iF a M aA 1 (12+3*b.length) j (g.ba.map Ce.i)):
 fJ M d.D (d.off+b.length*6+i) 1/\sU a (ah M d.D (d.off+b.length*6+i) [c]) d b g n m j h/\dp (λk=>4<=k/\k≠9) a M a (ah M d.D (d.off+b.length*6+i) [c]):=by
 have e:dp (λk=>k=4) a M a (ah M d.D (d.off+b.length*6+i) [c]):=dp.ah v T.D.1 _ _
 have l:h.flatten.length=b.length*6:=by rw[cv T.size,T.len]
 refine⟨by rw[dj];exact T.pY.wr (by simp only[be,l,aZ,eV];omega),⟨?_,T.len,T.size,T.xS e λk q r=>V,t.eH e V,q.eH e V,r.eH e V⟩,e.mono λk x=>V⟩
 have:=T.pY.set (o:=b.length*6+i) (new:=[c]) (by simp[l];omega)
 rw[lB _ _ _ _ V,l,Hh,u]at this
 rw[dj];exact this
end
structure SO(n:Nat)(ro:Nat->Nat)(M:E)(aT hp fr:O)(s:St):Prop where
 le:n<=M.size
 jQ:∀b,b<n->ro b=0
 new:∀b,M.size<=b->ro b=0
 aT:iF ro M aA 1 2 aT (s.aT.map Ce.i)
 heap:dJ n ro M hp s.heap
 ao:nE ro M fr s.ao
structure FS(s:St):Prop where
 ur:zk s
 je:zo s
 lo:s.aT.length<=1000000/\s.heap.length<=1000000
section
variable{n:Nat}{a e:Nat->Nat}{M b:E}{aT d c:O}{s:St}
def SO.of(N:pd (M.extract 0 n) a M aT d c s)(h:n<=M.size):SO n a M aT d c s:=⟨h,λb e=>N.bs.jQ b (by rw[me h];exact e),N.bs.new,N.aT,by have:=N.heap;rwa[me h]at this,N.ao⟩
def SO.mv(w:SO n a M aT d c s)(v:Mv n a M e b):SO n e b aT d c s:=⟨bH w.le v.size,λf g=>(v.gT f (aO g w.le)).trans (w.jQ f g),v.new,w.aT.mv v bh,w.heap.mv v,w.ao.mv v⟩
def SO.mvF(w:SO n a M aT d c s){h:Nat}(f:Fz [h] M b)(j:h<n):Mv n a M a b:=⟨f.size,λe g i=>f.same e g bE,λ_ _=>rfl,λe g=>w.new e (bH f.size g),w.jQ⟩
def SO.eH{p:Nat->Prop}(w:SO n a M aT d c s)(C:dp p a M e b):n<=b.size/\(∀f,f<n->e f=0)/\∀f,b.size<=f->e f=0:=⟨bH w.le C.size,λf g=>(C.gT f (aO g w.le)).trans (w.jQ f g),C.new⟩
def SO.box(w:SO n a M aT d c s){b:Nat}(g:a b=1)(o:Nat)(l:List Ce):SO n a (ah M b o l) aT d c s:=by
 have C:dp (λk=>k=1) a M a (ah M b o l):=dp.ah w.new g _ _;let⟨e,b,f⟩:=w.eH C;exact⟨e,b,f,w.aT.eH C bh,w.heap.eH C bh bh,w.ao.eH C λk h=>V⟩
def SO.H9(w:SO n a M aT d c s)(C:dp (λk=>k=2) a M e b){l:List Int}(A:iF e b aA 1 2 q (l.map Ce.i)):SO n e b q d c {s with aT:=l}:=
 let⟨f,g,h⟩:=w.eH C
 ⟨f,g,h,A,w.heap.eH C bh bh,w.ao.eH C λk i=>V⟩
def SO.gA(w:SO n a M aT d c s)(C:dp (λk=>k=3) a M e b){h:List bM}(A:dJ n e b q h):SO n e b aT q c {s with heap:=h}:=
 let⟨f,g,i⟩:=w.eH C
 ⟨f,g,i,w.aT.eH C bh,A,w.ao.eH C λk j=>V⟩
def SO.jI(w:SO n a M aT d c s)(C:dp (λk=>4<=k/\k≠9) a M e b){l:List aX}(A:nE e b q l):SO n e b aT d q {s with ao:=l}:=
 let⟨f,g,h⟩:=w.eH C
 ⟨f,g,h,w.aT.eH C bh,w.heap.eH C bh bh,A⟩
def SO.Ea(w:SO n a M aT d c s)(h:zo s):gD M aT d c s:=⟨w.aT.nH (oh h.aT),w.heap.cells (oh h.heap),w.ao.Ea (oh h.depth) h.ao⟩
end
end
section
variable{K:Int->E->Prop}{p:Nat->Prop}
def SP(n h:Nat)(f:O)(g:E)(P:Nat)(v:Value)(a:E):Prop:=∃aT e d s,v=MY s aT e d/\(∀c,a.size<=c.size->(∀b,b<a.size->n<=b->c[b]? =a[b]?)->gD c aT e d s)/\zk s/\(s.aT.length<=1000000/\s.heap.length<=1000000)/\Rs h f g P a
structure SQ(n rb:Nat)(bs:O)(ma:E)(k1 k2 Q:Nat)(ro:Nat->Nat)(M:E)(aT hp fr:O)(s:St):Prop where
 w:SO n ro M aT hp fr s
 r:Rs rb bs ma Q M
 k1:ro k1=1/\k1<M.size/\n<=k1
 k2:ro k2=1/\k2<M.size/\n<=k2
 fs:FS s
section
variable{n b m q Q w P t:Nat}{j aT h f:O}{e M d:E}{r u:Nat->Nat}{s v:St}{L:List Nat}
def SQ.fz(a:SQ n b j e m q Q r M aT h f s)(g:b<n)(c:Fz [b] M d)(i:Rs b j e w d):SQ n b j e m q w r d aT h f s:=
 ⟨a.w.mv (a.w.mvF c g),i,⟨a.k1.1,aO a.k1.2.1 c.size,a.k1.2.2⟩,⟨a.k2.1,aO a.k2.2.1 c.size,a.k2.2.2⟩,a.fs⟩
def SQ.ext(a:SQ n b j e m q Q r M aT h f s)(c:b<n)(x:J M d):SQ n b j e m q Q r d aT h f s:=a.fz c (x.fz _) (a.r.ext x)
def SQ.gF(c:SQ n b j e m q Q r M aT h f s)(o:b<n)(k:∀a∈L,a=m\/a=q)(i:Fz [b] M d):eF L M d:=i.dv λa l=>by
 have:=c.k1;have:=c.k2;rcases k a l with g|g<;>simp only[lF]<;>omega
def SQ.gk(a:SQ n b j e m q Q r M aT h f s)(g:b<n)(c:Fz [b] M d)(o:Nat):af d q o=af M q o:=aJ (c.same _ a.k2.2.1 (by have:=a.k2;simp only[lF];omega)) o
def SQ.done(a:SQ n b j e m q Q r M aT h f s)(v:Rd b j t e)(C:e.size<=n)(x:Q<=P){o c g p:Int}(A:Hm g)(l:List Ce):SP n b j e P (.agg #[vi o,vi c,vi g,vi p,O.v aT,O.v h,O.v f]) (ah M m 0 l):=by
 have w:=a.w.box a.k1.1 0 l;have u:=a.r.put v (k:=m) (oh a.k1) 0 l;exact⟨aT,h,f,⟨o,c,g,p,s.aT,s.heap,s.ao⟩,rfl,λd z B=>have i:=(w.mv ⟨z,B,λ_ _=>rfl,λc y=>w.new c (bH z y),w.jQ⟩).Ea a.fs.je;⟨i.aT,i.heap,i.ao⟩,⟨A,a.fs.ur.heap,a.fs.ur.ao,a.fs.ur.lh,a.fs.ur.lf,a.fs.ur.lr⟩,a.fs.lo,u.f,u.r.mono x⟩
def SQ.box(a:SQ n b j e m q Q r M aT h f s)(c:Rd b j t e)(d:e.size<=n)(o:Nat)(l:List Ce):SQ n b j e m q Q r (ah M q o l) aT h f s:=
 ⟨a.w.box a.k2.1 o l,a.r.put c (oh a.k2) o l,by rw[aw];exact a.k1,by rw[aw];exact a.k2,a.fs⟩
def SQ.lJ(l:SQ n b j e m q Q r M aT h f s)(g:b<n)(u:Q<=10^16)(p:∀a∈L,a=m\/a=q)(a:List Int){c:List Ce}{i:Nat}(w:c=a.map Ce.i)(v:i=a.length)(z:0<a.length/\a.length<=100)
 (y:∀t d,t∈a->SQ n b j e m q (Q+1) r d aT h f s->Fz [b] (M.push (.cells (bt c) aA)) d->K t d):aN cg 43 [vp b 0,O.v (.mk M.size 0 i i)] (M.push (.cells (bt c) aA)) λC d=>eF L (M.push (.cells (bt c) aA)) d/\∃t:Int,C=vi t/\K t d:=
 have x:=J.push M (.cells (bt c) aA)
 (zY l.r u a w v z).mono λ_ d⟨t,o,A,B,k⟩=>⟨(l.ext g x).gF g p k,t,o,y t d A ((l.ext g x).fz g k B) k⟩
def SQ.pick(c:SQ n b j e m q Q r M aT h f s)(i:b<n)(o:Q<=10^16)(l:∀a∈L,a=m\/a=q)(g:Int)
 (p:∀t d,0<=t->(t<g\/t=0)->SQ n b j e m q (Q+1) r d aT h f s->Fz [b] M d->K t d):aN cg 44 [vp b 0,vi g] M λw d=>eF L M d/\∃t:Int,w=vi t/\K t d:=
 (cp c.r.r o g).mono λ_ d⟨t,k,v,t1,u,a⟩=>⟨c.gF i l a,t,k,p t d v t1 (c.fz i a (c.r.to a u)) a⟩
def SQ.eH(a:SQ n b j e m q Q r M aT h f s)(l:Rd b j t e)(E:e.size<=n)(C:dp p r M u d)(h:∀k,p k->2<=k){x o k:O}(B:SO n u d x o k v)(z:FS v):SQ n b j e m q Q u d x o k v:=
 have D:=l.lt
 have w:∀c,c<n->d[c]? =M[c]? :=λc g=>C.eA c (aO g a.w.le) λy=>by have:=h _ y;have:=a.w.jQ c g;omega
 have i:Fz [b] e d:=⟨bH a.r.f.size C.size,λc g A=>(w c V).trans (a.r.f.same c g A)⟩
 ⟨B,⟨i,l.MD a.r.r i (w b V)⟩,⟨(C.gT _ a.k1.2.1).trans a.k1.1,aO a.k1.2.1 C.size,a.k1.2.2⟩,⟨(C.gT _ a.k2.2.1).trans a.k2.1,aO a.k2.2.1 C.size,a.k2.2.2⟩,z⟩
def SQ.dv(g:SQ n b j e m q Q r M aT h f s)(i:∀a∈L,a=m\/a=q)(C:dp p r M u d)(h:∀k,p k->2<=k):eF L M d:=λa k=>by
 have l:=g.k1;have a2:=g.k2;rcases i a k with c|c<;>subst c<;>exact C.eA _ V λc=>by have:=h _ c;omega
def SQ.fS(t:SQ n b j e m q Q r M aT h f s)(u:cT ((f.len:Int) -1)>=0):∃a g l o k d,s.ao=a++[g]/\sU r M f a g l o k d/\cT ((f.len:Int) -1)=(a.length:Int)/\f.len=a.length+1:=by
 have F:=t.w.ao;have p:=t.fs.je.depth;rcases List.eq_nil_or_concat s.ao with c|⟨a,g,c⟩
 .rw[c]at F;let⟨d,i⟩:=F;have:=i.pY.len;rw[cv i.size,i.len]at this;simp only[eV]at this;rw[aQ V V]at u;omega
 .rw[List.concat_eq_append]at c;rw[c]at F p;let⟨l,o,k,d,T⟩:=F.fS;have:=T.xO;simp at p;exact⟨a,g,l,o,k,d,c,T,by rw[aQ V V];omega,this⟩
def FS.fS(h:FS s){d:List aX}{j g:aX}(i:s.ao=d++[j])(k:RX g)(l:g.ak.length<=1000000/\g.aR.length<=1000000/\g.ba.length<=1000000):FS {s with ao:=d++[g]}:=by
 have b:=h.ur;have c:=h.je;have e:∀x∈d,x∈s.ao:=λx a=>by rw[i];simp[a]
 have f:=c.depth;rw[i]at f;simp at f;refine⟨⟨b.bu,b.heap,λx a=>?_,b.lh,bE,λx a=>?_⟩,⟨c.aT,c.fl,c.heap,bE,λx a=>?_⟩,h.lo⟩<;>rcases List.mem_append.1 a with a|a
 .exact b.ao x (e x a)
 .simp at a;rw[a];exact k
 .exact b.lr x (e x a)
 .simp at a;rw[a];omega
 .exact c.ao x (e x a)
 .simp at a;rw[a];exact l
def SQ.sS(c:SQ n b j e m q Q r M aT h f s)(o:Rd b j t e)(p:e.size<=n){l:List aX}{z g:aX}(y:s.ao=l++[z]){J H I:O}{w:List (List Ce)}(T:sU r d f l g J H I w)(C:dp (λk=>4<=k/\k≠9) r M r d)(E:RX g)(G:g.ak.length<=1000000/\g.aR.length<=1000000/\g.ba.length<=1000000)
 (A:∀a∈L,a=m\/a=q)(B:Q<=P){v a i x:Int}(D:Hm i)(u:List Ce):eF L M d/\SP n b j e P (.agg #[vi v,vi a,vi i,vi x,O.v aT,O.v h,O.v f]) (ah d m 0 u):=
 ⟨c.dv A C λk F=>V,(c.eH o p C (λk F=>V) (c.w.jI C T.sS) (c.fs.fS y E G)).done o p B D u⟩
def GO{im:cN}(I:Rd b j t e)(Q:e.size<=n)(aa:SO n r M aT h f s)(ae:Rs b j e P M)(hP:P+100<=10^16)(ok:cU im s)(hS:Sm 100000 s):aN cg 56 [vp b 0,MY s aT h f] M (SP n b j e (P+6)):=by
 apply yW (b,0);simp(config:={maxSteps:=1000000}) -zeta only[aC,aB];have k:b<n:=by have:=I.lt;omega
 have le:=aa.le;intro S m2;have s1:S.size=M.size+1:=by simp[S]
 have s2:m2.size=M.size+2:=by simp[m2,s1]
 have x2:J M m2:=(J.push M _).trans (J.push S _);clear_value m2;clear_value S;have q2:SQ n b j e S.size M.size P (nX (nX r M.size 1) S.size 1) m2 aT h f s:=⟨aa.mv ⟨x2.size,λW hb _=>x2.same W hb,λW hb=>by rw[eU V,eU V],λW hb=>by rw[eU V,eU V];exact aa.new W V,aa.jQ⟩,ae.ext x2,⟨fH _ _ _,V,V⟩,⟨by rw[eU V];exact fH _ _ _,V,V⟩,⟨ok.Yp hS V,ok.je hS V,oh hS.aT,oh hS.heap⟩⟩;generalize nX (nX r M.size 1) S.size 1=ro2 at q2;have D:∀W∈[S.size,M.size],W=S.size\/W=M.size:=aL;have hc:=q2.fs.ur.bu;have ay:=ok.dR;refine q2.pick k V D 30 λaz y _ _ m f3=>?_;have ai:SP n b j e (P+6) (.agg #[vi s.cz,vi s.value,vi s.bu,vi s.dR,O.v aT,O.v h,O.v f]) (ah y S.size 0 [.i s.cz,.i s.value,.i s.bu,.i s.dR,.s aT,.s h,.s f]):=m.done I Q V hc _;have FW:∀p∈s.ao,(1<=p.ak.length/\p.ak.length<=2000)/\p.aR.length<=2000/\1<=p.ba.length:=λp hf=>by
  have hG:=ok.ao p hf;obtain⟨pg,_,au,ao,_⟩:=hG.Jd ok.fy;have R:=hG.lr;have W:=hG.lo;have X:=hG.lh;rw[au]at R W X;have:=ao.ak;omega
 have Ka:∀(R:O)(fb H:Nat)(ls:List Int){C:List Ce}{X:Nat},ro2 fb=4->fb<y.size->C=ls.map Ce.i->X=ls.length->0<ls.length/\ls.length<=100->∀{ak:Int->Int->E->Prop},(∀F x d,0<=F->(F<(R.len:Int)\/F=0)->x∈ls->SQ n b j e S.size M.size (P+3) ro2 d aT h f s->Mv n ro2 y ro2 d->ak F x d)->
  (aN cg 44 [vp b 0,vi (R.len:Int)] y λK v=>eF [S.size,M.size] y v/\∃F:Int,K=vi F/\af v fb H=af y fb H/\af v M.size 6=af y M.size 6/\(af (v.push (.cells (bt C) aA)) fb H=af v fb H/\af (v.push (.cells (bt C) aA)) M.size 6=af v M.size 6/\af (v.push (.cells (bt C) aA)) fb H=af v fb H/\af (v.push (.cells (bt C) aA)) M.size 6=af v M.size 6/\
   aN cg 43 [vp b 0,O.v (.mk v.size 0 X X)] (v.push (.cells (bt C) aA)) λK G=>eF [S.size,M.size] (v.push (.cells (bt C) aA)) G/\∃x:Int,K=vi x/\af G fb H=af (v.push (.cells (bt C) aA)) fb H/\af G M.size 6=af (v.push (.cells (bt C) aA)) M.size 6/\ak F x G))/\
  (af (y.push (.cells (bt C) aA)) fb H=af y fb H/\af (y.push (.cells (bt C) aA)) M.size 6=af y M.size 6/\af (y.push (.cells (bt C) aA)) fb H=af y fb H/\af (y.push (.cells (bt C) aA)) M.size 6=af y M.size 6/\
   aN cg 44 [vp b 0,vi (R.len:Int)] (y.push (.cells (bt C) aA)) λK v=>eF [S.size,M.size] (y.push (.cells (bt C) aA)) v/\∃F:Int,K=vi F/\af v fb H=af (y.push (.cells (bt C) aA)) fb H/\af v M.size 6=af (y.push (.cells (bt C) aA)) M.size 6/\
    aN cg 43 [vp b 0,O.v (.mk y.size 0 X X)] v λK G=>eF [S.size,M.size] v G/\∃x:Int,K=vi x/\af G fb H=af v fb H/\af G M.size 6=af v M.size 6/\ak F x G):=λR fb H ls C X h4 aw h1 h2 h3{ak} hX=>by
  have nb:fb∉[b]:=λw=>by simp at w;have:=q2.w.jQ b k;rw[w]at h4;omega
  have ge:∀{M1 M2:E},y.size<=M1.size->Fz [b] M1 M2->af M2 fb H=af M1 fb H:=λav p=>aJ (p.same fb V nb) H
  refine⟨?_,?_⟩
  .refine m.pick k V D (R.len:Int) λF v k0 ab A Z=>?_
   have T:=J.push v (.cells (bt C) aA)
   have z4:=Z.size
   refine⟨ge (ad _) Z,m.gk k Z _,ge z4 (T.fz _),A.gk k (T.fz _) _,ge z4 (T.fz _),A.gk k (T.fz _) _,A.lJ k V D ls h1 h2 h3 λx G z q N=>⟨ge (bH z4 T.size) N,(A.ext k T).gk k N _,hX F x G k0 ab z q (m.w.mvF ((Z.trans (T.fz _)).trans N) k)⟩⟩
  .have U:=J.push y (.cells (bt C) aA)
   have A:=m.ext k U
   have z4:=U.size
   have L:ap (bG [b] (y.push (.cells (bt C) aA))) (.mk y.size 0 X X) ls:=ap.lit aA ls (by simp;exact m.r.r.lt) h1 h2 V
   refine⟨ge (ad _) (U.fz _),m.gk k (U.fz _) _,ge (ad _) (U.fz _),m.gk k (U.fz _) _,A.pick k V D (R.len:Int) λF m5 k0 ab B f5=>⟨ge z4 f5,A.gk k f5 _,?_⟩⟩
   refine(kv B.r.r V (ap.le (f5.df aL) L) h3.1).mono λ_ G⟨x,w,z,Y,N⟩=>⟨B.gF k D N,x,w,ge (bH z4 f5.size) N,B.gk k N _,hX F x G k0 ab z (B.fz k N (B.r.to N Y)) (m.w.mvF (((U.fz _).trans f5).trans N) k)⟩
 refine⟨λ_=>m.lJ k V D [0,1,2,3,4,-1] rfl rfl aL λx v _ A _=>(A.box I Q _ _).done I Q V hc _,λ_=>⟨λ_=>?_,λ_=>⟨λ_=>m.lJ k V D [5,1000,0] rfl rfl aL λx v _ A _=>(A.box I Q _ _).done I Q V hc _,λ_=>⟨λ_=>?_,λ_=>⟨λ_=>?_,λ_=>⟨λ_=>⟨λz=>?_,λ_=>ai⟩,λ_=>⟨λ_=>⟨λz=>?_,λ_=>ai⟩,λ_=>⟨λ_=>⟨λz=>?_,λ_=>ai⟩,λ_=>⟨λ_=>⟨λz=>?_,λ_=>ai⟩,λ_=>⟨λ_=>⟨λz=>?_,λ_=>ai⟩,λ_=>ai⟩⟩⟩⟩⟩⟩⟩⟩⟩⟩
 .refine m.lJ k V D [0,41,-1,cT (s.dR+1)] rfl rfl aL λx v z A _=>(A.box I Q _ _).done I Q V ?_ _;rw[aQ V V]at z;simp at z;exact⟨V,V⟩
 .have U:=J.push y (.cells (bt [.i 5,.i 1000]) aA);refine⟨m.gk k (U.fz _) _,m.lJ k V D [5,1000] rfl rfl aL λx m5 _ B f5=>⟨(m.ext k U).gk k f5 _,?_⟩⟩;intro G;have Y:J m5 G:=J.push _ _;have iA:fP G m5.size 0 [.i x]:=(cE.push m5 [.i x] aA).iA;clear_value G;have q:=B.ext k Y;have ol:=q.w.aT.len;have os:=hS.aT;simp at ol;refine⟨B.gk k (Y.fz _) _,q.w.aT.append (zs:=[.i 0]) q.w.new rfl iA bE λu ag m7 ac L=>⟨q.dv D L λF hk=>V,?_⟩⟩;have q7:=q.eH I Q L (λF hk=>V) (q.w.H9 (l:=s.aT++[x]) L (by rw[ft];exact ac)) ⟨⟨q.fs.ur.bu,q.fs.ur.heap,q.fs.ur.ao,q.fs.ur.lh,q.fs.ur.lf,q.fs.ur.lr⟩,⟨bE,q.fs.je.fl,q.fs.je.heap,q.fs.je.depth,q.fs.je.ao⟩,bE,q.fs.lo.2⟩;exact(q7.box I Q _ _).done I Q V hc _
 .have ax:=m.w.heap.len;refine⟨λh1=>?_,λ_=>ai⟩;simp only[kD,ar]at h1;refine m.pick k V D (h.len:Int) λR v a0 a1 A Z=>?_;let⟨X,al⟩:=cG s.heap R.toNat;obtain⟨_,g0,-⟩:=A.w.heap.bZ al;have hb:=A.w.heap.D (a:=R.toNat) V;have nb:h.D≠b:=λw=>by have:=A.w.jQ b k;rw[w]at hb;omega
  have T:=J.push v (.cells (bt [.i 1,.i (-1)]) aA);have e5:=λac=>aJ (T.same _ hb.2) ac;refine⟨a0,V,_,g0,e5 _,A.gk k (T.fz _) _,A.gk k (T.fz _) _,A.lJ k V D [1,-1] rfl rfl aL λx G _ q N=>?_⟩;have e6:=λac=>aJ (N.same h.D (aO hb.2 T.size) (by simpa using nb)) ac;have B:=A.ext k T;refine⟨e6 _,B.gk k N _,B.gk k N _,a0,V,q.w.heap.wr (o:=0) V V,?_⟩;let⟨an,L⟩:=q.w.heap.rj q.w.new al (cT (X.aP+x));have Y:=q.fs.ur;have aj:=q.fs.je;refine⟨q.dv D L λF hk=>V,SQ.done (q.eH I Q L (λF hk=>V) (q.w.gA L an) ⟨⟨Y.bu,λam hx=>?_,Y.ao,by simpa using Y.lh,Y.lf,Y.lr⟩,⟨aj.aT,λam hx=>?_,by simpa using aj.heap,aj.depth,aj.ao⟩,by simpa using q.fs.lo⟩) I Q V hc _⟩
  .rcases cB hx with w|w
   .exact Y.heap am w
   .rw[w];exact Y.heap X (aq al)
  .rcases cB hx with w|w
   .exact aj.fl am w
   .rw[w];exact aj.fl X (aq al)
 .simp only[nY,ar]at z;have U:=J.push y (.cells (bt [.i 0,.i 1,.i 99,.i (-1)]) aA);refine⟨m.gk k (U.fz _) _,m.lJ k V D [0,1,99,-1] rfl rfl aL λx m5 _ B f5=>⟨(m.ext k U).gk k f5 _,?_⟩⟩;let⟨fs,p,ae,ac,ag,aj,w,T,ew,el⟩:=B.fS z;have N:p∈s.ao:=by rw[w];simp
  have Y:=B.fs.ur.ao p N;have fl:=B.fs.je.ao p N;rw[ew];let⟨wr,T',L⟩:=T.put (i:=1) (g:={p with pc:=x}) (c:=.i x) B.w.new bh rfl T.ak T.aR T.ba;exact⟨V,V,wr,B.sS I Q w T' L Y fl D V hc _⟩
 .simp only[nY,ar]at z;let⟨fs,p,ae,ac,ag,aj,w,T,ew,el⟩:=m.fS z;have N:p∈s.ao:=by rw[w];simp
  have Y:=m.fs.ur.ao p N;have fl:=m.fs.je.ao p N;rw[ew];obtain⟨_,_,_,_,g4,_⟩:=T.iA;have hl:=FW p N;refine⟨V,V,ac,g4,(qF m.r.r V (T.aR.nH V) V).mono λ_ v⟨R,l',e',am,an,hm,r4,Z⟩=>⟨m.gF k D Z,R,e',m.gk k Z _,V,V,?_⟩⟩;have ax:=am.bn;have K:Mv n ro2 y (nX ro2 R.D (11+3*fs.length)) v:=⟨Z.size,λW hb al=>Z.same W hb bE,λW hb=>eU V,λW hb=>by rw[eU V];exact m.w.new W (bH Z.size hb),m.w.jQ⟩;have z4:=Z.size;have ab:=m.k1;have al:=m.k2;have A:SQ n b j e S.size M.size (P+4) (nX ro2 R.D (11+3*fs.length)) v aT h f s:=⟨m.w.mv K,m.r.to Z r4,⟨(K.gT _ ab.2.1).trans ab.1,V,ab.2.2⟩,⟨(K.gT _ al.2.1).trans al.1,V,al.2.2⟩,m.fs⟩;have T4:=T.mv K;let⟨wr,T',L⟩:=T4.put (i:=4) (g:={p with aR:=l'}) (c:=.s R) A.w.new bh rfl T4.ak (iF.fZ (GI.aT am) λ_=>fH _ _ _) T4.ba;exact⟨wr,A.sS I Q w T' L ⟨Y.1,λaa hw=>(hm aa hw).elim (Y.2.1 aa) λw=>⟨V,V⟩,Y.2.2⟩ ⟨fl.1,by show l'.length<=_;omega,fl.2.2⟩ D V hc _⟩
 .simp only[nY,ar]at z;let⟨fs,p,ae,ac,ag,aj,w,T,ew,el⟩:=m.fS z;have N:p∈s.ao:=by rw[w];simp
  have Y:=m.fs.ur.ao p N;have fl:=m.fs.je.ao p N;have hl:=FW p N;rw[ew];obtain⟨_,_,_,g3,_⟩:=T.iA;have Z:=T.ak.len;simp at Z;refine⟨V,V,ae,g3,V,V,ae,g3,Ka ae f.D _ [0,5,1000,1003,-1000] T.D.1 T.D.2 rfl rfl aL λF x G k0 ab z q K=>?_⟩;let⟨T',L⟩:=(T.mv K).Ah q.w.new k0 V x;exact⟨k0,V,(T.mv K).ak.NP k0 V,q.sS I Q w T' L ⟨λaa hw=>(cB hw).elim (Y.1 aa) λw=>by simp at z;exact⟨V,V⟩,Y.2⟩ ⟨by show(p.ak.set _ _).length<=_;simp;omega,fl.2⟩ D V hc _⟩
 .simp only[nY,ar]at z;let⟨fs,p,ae,ac,ag,aj,w,T,ew,el⟩:=m.fS z;have N:p∈s.ao:=by rw[w];simp
  have Y:=m.fs.ur.ao p N;have fl:=m.fs.je.ao p N;have hl:=FW p N;rw[ew];obtain⟨_,_,_,_,_,g5⟩:=T.iA;have Z:=T.ba.len;simp at Z;refine⟨V,V,ag,g5,V,V,ag,g5,Ka ag f.D _ [1000,1,1001] T.D.1 T.D.2 rfl rfl aL λF x G k0 ab z q K=>?_⟩;let⟨T',L⟩:=(T.mv K).wX q.w.new k0 V x;exact⟨k0,V,(T.mv K).ba.NP k0 V,q.sS I Q w T' L ⟨Y.1,Y.2.1,λaa hw=>(cB hw).elim (Y.2.2 aa) λw=>by simp at z;exact⟨V,V⟩⟩ ⟨fl.1,fl.2.1,by show(p.ba.set _ _).length<=_;simp;omega⟩ D V hc _⟩
 .simp only[nY,ar]at z;have U:=J.push y (.cells (bt [.i 0,.i 1,.i 99,.i (-1)]) aA);refine⟨m.gk k (U.fz _) _,m.lJ k V D [0,1,99,-1] rfl rfl aL λx m5 _ B f5=>⟨(m.ext k U).gk k f5 _,?_⟩⟩;let⟨fs,p,ae,ac,ag,aj,w,T,ew,el⟩:=B.fS z;have N:p∈s.ao:=by rw[w];simp
  have Y:=B.fs.ur.ao p N;have fl:=B.fs.je.ao p N;rw[ew];let⟨wr,T',L⟩:=T.put (i:=2) (g:={p with dst:=x}) (c:=.i x) B.w.new bh rfl T.ak T.aR T.ba;exact⟨V,V,wr,B.sS I Q w T' L Y fl D V hc _⟩
end
end
section
def TJ(S:List Nat)(m:E):(Vc.bG S m).size=m.size:=by simp[Vc.bG]
def TH{S:List Nat}{m:E}{b:Nat}(h:b∉S):(Vc.bG S m)[b]? =m[b]? :=by
 unfold Vc.bG;rw[Xz];cases m[b]? <;>simp[h]
def AR(S:List Nat)(v:Value)(c:E):Prop:=∃d p e aT b a s,v=.tuple #[.agg #[O.v d,O.v p],MY s aT b a]/\fw (bG S c) d p e/\gD (bG S c) aT b a s/\zk s/\s.aT.length<=1000000/\s.heap.length<=1000000
section
variable{a:List Nat}{m:E}{b P:Nat}{c:O}
def Gh(D:∀d∈a,d<m.size)(q:b∈a)(k:Rd b c P m)(hP:P+3000+4*(300+40*Cg 18)<=10^16):aN cg 31 [vp b 0] m λO I=>AR a O I/\Fz [b] m I/\Rd b c (P+3000+4*(300+40*Cg 18)) I:=by
 apply yG (b,0);simp -zeta only[aC,aB];have v:=k.lt;intro e W;have b2:BS [e.size,m.size] b c m P W:=BS.psh (BS.lJ (S:=a) k _).1 _;have s1:e.size=m.size+1:=by simp[e]
 clear_value W;refine b2.call (S:=a) v (λ_ d=>d) (JF (b2.hS D) (by simp[q]) b2.s.r V) λt w x h _ t3 b3 f3=>?_;intro m4 X;obtain⟨b5,l5,-⟩:=b3.box (S:=a) (m1:=m4) (m2:=X) rfl rfl rfl;clear_value X;have N:=IT.mn _ _ _ _ _ l5 t3;refine(tF (b:=⟨x.1,x.2⟩) ⟨N.1.le (bA _ _),iG.le (bA _ _) N.2⟩).mono λ_ f⟨O,l,hv,A⟩=>⟨(b5.lw v λ_ d=>d).dv (A.fz _),O,l,λp=>?_,λhy=>?_⟩;all_goals
  have b6:=b5.to (A.fz _) (b5.s.r.ext A)
  have z:=IT.mn _ _ _ _ _ (BS.le (B:=[h.size,e.size,m.size]) q (A.fz [b])) N
  have g:=b6.gF
 .intro j K L;have u:J f j:=J.push _ _;have G:cE j f.size dO [.i 0,.i 0,.i 0,.s .nil,.s .nil,.s .nil]:=cE.push _ _ _;have R:=b6.to (u.fz _) (b6.s.r.ext u);have Z:=IT.mn _ _ _ _ _ (BS.le (B:=[h.size,e.size,m.size]) q (u.fz [b])) z;clear_value j;let⟨T,Y⟩:=R.put (S:=a) k (by simp:m.size∈_) [.s t,.s w];let⟨s,H⟩:=T.put (S:=a) k (by simp:e.size∈_) [.i 3,.i 0,.i 0,.i 0,.s .nil,.s .nil,.s (.mk f.size 0 1 1)];have C:=IT.mn _ _ _ _ _ ((Y.trans H).trans (iR _ λ_=>eD _)) Z;have ha:=g m.size aL;have i:=g e.size aL;have M:cE L f.size dO [.i 0,.i 0,.i 0,.s .nil,.s .nil,.s .nil]:=(G.congr (bd _ _ _ _ V)).congr (bd _ _ _ _ V);have U:f.size∉a:=λF=>by have:=D _ F;omega
  have o:∀{Q:E},ap Q .nil []:=⟨rfl,dL _,aL,aL⟩;refine⟨⟨t,w,⟨x.1,x.2⟩,.nil,.nil,.mk f.size 0 1 1,⟨3,0,0,0,[],[],[⟨0,0,0,[],[],[]⟩]⟩,rfl,⟨C.1,C.2⟩,⟨o,⟨rfl,dL _,aL,aL⟩,⟨rfl,ad _,aL,λy aa r=>?_⟩⟩,⟨⟨aL,aL⟩,by simp[RY],by simp[RX],aL,aL,aL⟩,aL⟩,s.s.f,s.s.r.mono V⟩;cases y with
  |zero=>
   simp at r;subst r;exact⟨_,⟨.nil,.nil,.nil,rfl,o,o,o⟩,Kd U M.iA⟩
  |succ y=>simp at r
 .have ok:nj ⟨x.1,x.2⟩:=hv.1 (by simpa using hy);have U:Le (bG ([h.size,e.size,m.size]++a) f) (bG [b] f):=iR _ (by simp[q]);refine(Io b6.s.r V (z.1.le U) (iG.le U z.2) ok).mono λ_ j⟨ak,ro,aT,hp,fr,ao,l,aa,p,ae,al,ab,r7,u⟩=>?_;have R:∀o,af j h.size o=af f h.size o:=λo=>kg u v (g _ aL) o;refine⟨(b6.lw v λ_ d=>d).dv u,_,_,_,_,aT,hp,fr,l,R _,R _,?_⟩;have an:b<f.size:=b6.s.r.lt;refine(GO (n:=ak) b6.s.r p (SO.of aa ae) ⟨u,r7⟩ V al ab).mono λ_ K⟨M,G,C,r,l,ah,ac,ag,y⟩=>?_;have Y:∀d,d<f.size->d≠b->K[d]? =j[d]? :=λd i p=>(y.f.same d i (by simpa using p)).trans (u.same d i (by simpa using p)).symm;have T:∀o,af K h.size o=af j h.size o:=λo=>aJ (Y _ (g _ aL).2 (oh (g h.size aL))) o;refine⟨λd i=>Y d (g d i).2 (oh (g d i)),_,_,_,_,M,G,C,l,T _,T _,?_⟩;intro L aj;have t8:=IT.mn _ _ _ _ _ (BS.le (B:=[h.size,e.size,m.size]) q y.f) z;let⟨s,H⟩:=(b6.to y.f y.r).put (S:=a) k (by simp:m.size∈_) [.s t,.s w];let⟨Q,ai⟩:=s.put (S:=a) k (by simp:e.size∈_) [.i r.cz,.i r.value,.i r.bu,.i r.dR,.s M,.s G,.s C];have Z:=IT.mn _ _ _ _ _ ((H.trans ai).trans (iR _ λ_=>eD _)) t8;have ha:=g m.size aL;have i:=g e.size aL;refine⟨⟨t,w,⟨x.1,x.2⟩,M,G,C,r,rfl,⟨Z.1,Z.2⟩,ah _ (by rw[TJ];simp[aj,L,aw]) λd _ am=>?_,ac,ag⟩,Q.s.f,Q.s.r.mono V⟩;rw[TH λF=>O6 (D d F) b6.s.f.size];exact(bd _ _ _ _ V).trans (bd _ _ _ _ V)
end
end
section
def Rj(f:Nat->Nat):∀n,∃B,∀i,i<n->f i<=B
 |0=>⟨0,aL⟩
 |n+1=>let⟨B,h⟩:=Rj f n;⟨B+f n,λi a=>by
  rcases aW i n with e|e
  .have:=h i e;omega
  .have:i=n:=V;subst this;omega⟩
def cU.Dj{w:cN}{s:St}(e:cU w s)(m:s.cz=0):s.heap=[]:=by
 have g:=e.done.1 m;let⟨l,t⟩:=e.heap.Mp;let⟨B,n⟩:=Rj l s.heap.length;apply dP;intro q;have y:0<s.heap.length:=List.length_pos_iff.2 q;have fX:∀k,∃(b:Nat)(c:bM),s.heap[b]? =some c/\0<c.aP/\k<=l b:=λk=>by
  induction k with
  |zero=>
   let⟨c,d⟩:=cG s.heap (s.heap.length -1);refine⟨_,c,d,?_,dL _⟩;have i:=e.jy c d;rcases IZ c.aP 0 with f|f
   .have:=e.kZ _ ⟨c,d,f⟩;rw[g]at this;simp[holds]at this
   .omega
  |succ k v=>
   let⟨b,c,d,r,p⟩:=v;have:=e.heap.ex b c d r;rw[g]at this;simp only[fA]at this;let⟨f,o,i⟩:=Lk (h:=s.heap) (f:=b) V;let⟨j,hd⟩:=List.mem_iff_getElem?.1 o;have u:=t j f hd _ i V;rw[ly]at u;refine⟨j,f,hd,?_,V⟩;apply dP;intro x;have:=((e.heap.cell f (aq hd)).wL V).2.1 _ i;omega
 obtain⟨b,c,d,_,p⟩:=fX (B+1);have:=n b (av d);omega
def cU.gX{a:cN}{s:St}(h:cU a s):cU a {s with dR:=40}:=⟨h.fy,h.cz,h.done,h.value,h.tO,aL,⟨h.bu.1,by have:=h.bu;have:=h.dR;show s.bu<=40;omega⟩,h.depth,h.aT,h.heap,h.jy,h.ao,h.first,h.chain,h.kZ,h.ng⟩
def gD.le{m f:E}{aT d c:O}{s:St}(b:gD m aT d c s)(a:Le m f):gD f aT d c s:=⟨b.aT.le a,eS.le b.heap a λk j⟨n,e,h⟩=>⟨n,e,h.le a⟩,eS.le b.ao a λk j⟨r,o,h,e,g,i,l⟩=>⟨r,o,h,e,g.le a,i.le a,l.le a⟩⟩
def LwR(m:E)(v:Value)(a:E):Prop:=v=vb true/\J m a
section
variable{m:E}{d p aT b a:O}{c:cN}{s:St}
end
end
section
section
variable{f:Nat->Bool}
end
section
variable{m:E}{d p aT b a:O}{c:cN}{s:St}
end
end
section
variable{c:E}{a:Nat->Nat}{b e:Nat}{f:List Ce}
def pd.VM{m:E}{aT i d:O}{s:St}(h:pd c a m aT i d s)(g:a b=1)(l:List Ce)(kb:cE (ah m b 0 l) b e f):vw c a (ah m b 0 l) b e f aT i d s.aT s.heap s.ao:=by
 have C:dp (λk=>k=1) a m a (ah m b 0 l):=dp.ah h.bs.new g _ _;let⟨b1,b2⟩:=(C.mono λk j=>by omega:To a m a _).cx h.bs.cx h.bs.jQ;exact⟨b1,b2,C.new,kb,g,h.aT.eH C bh,h.heap.eH C bh bh,h.ao.eH C λk j=>V⟩
def vw.aaf{m:E}{aT g d:O}{s:St}(L:vw c a m b e f aT g d s.aT s.heap s.ao):pd c a m aT g d s:=⟨⟨L.cx,L.jQ,L.new⟩,L.aT,L.heap,L.ao⟩
section
variable{g:E}{d p aT j i:O}{h:cN}{s:St}
def MkL(b:E)(d p:O)(h:cN)(s:St)(o:Nat×Nat)(M:E):Prop:=o.2=0/\∃a aT j i,vw b a M o.1 bR (IB d p (cq h) s aT j i) aT j i s.aT s.heap s.ao
abbrev vu:List Ce:=[.s O.nil,.s O.nil,.i 0,.i 0,.i 0,.i 0,.i 0,.s O.nil,.s O.nil,.s O.nil]
variable(k:fw g d p h)(n:gD g aT j i s)(l:zk s)(q:s.aT.length<=10000000)
include k n l q
def FD:aN cg 15 [.agg #[O.v d,O.v p],MY s aT j i] g (WM g (xU h s 1)):=by
 apply zJ;simp -zeta only[aC,aB];rw[NJ];intro R S I;have s1:R.size=g.size+1:=by simp[R]
 have s2:S.size=g.size+2:=by simp[S,s1]
 have s3:I.size=g.size+3:=by simp[I,s2]
 have U:J g I:=(((J.az g).aK _).aK _).aK _;clear_value I;have H:∀u∈[S.size,R.size,g.size],u<I.size:=bE;refine(td (k.ext U) (n.ext U) l).aH (J.az _) H λb4 B ai F _=>⟨b4,rfl,λh1=>RT U F V (by rw[ae (nb ai h1)]) _,λh1=>?_⟩;have P:=yb ai h1;rw[an P];have L:=U.trans F;have z4:=F.size;have N:=TE l q;have ao:=P.je N V;have ht:=P.fy.nN.types;have cc:∀{M:E},J B M->Hl cg 33 [O.v d] M (vi (cq h)):=λG=>qv (k.ext (L.trans G)).bo ht.len (λc hd=>Oj ht c hd);have c:∀{M w:E}{u:Nat},J M w->u<M.size->∀Q,af w u Q=af M u Q:=λG al Q=>aJ (G.same _ al) Q;have Z:∀{a:Nat->Nat}{M:E}{ag:Value->E->Prop},Bs B a M->(∀u,a u<=1)->(∀T z y x w,pd B T w z y x s->dp (λ_=>False) a M T w->J M w->M.size<=w.size->ag (MY s z y x) w)->aN cg 34 [MY s aT j i] M ag:=λac am hK=>
  (DQ ac am (n.ext (L.trans ac.cx)) ao).mono λ_ w⟨T,z,y,x,e,ak,W⟩=>by rw[e];exact hK T z y x w ak W W.uN W.size
 have aj:∀{M w:E},J B M->w=M.push (.cells (bt vu) bR)->Bs B (nX (λ_=>0) M.size 1) w/\(∀u,nX (λ_=>0) M.size 1 u<=1)/\cE w M.size bR vu:=λG e=>by
  have hz:=G.size;subst e;refine⟨⟨G.aK _,λu C=>eU V,λu C=>eU (by simp at C;omega)⟩,λu=>?_,cE.push _ _ _⟩;unfold nX;split
  .omega
  .exact dL _
 refine⟨MkL B d p h s,⟨?_,?_⟩,?_⟩
 .refine(cc (J.az _)).mono ?_;rintro _ A ⟨rfl,r⟩;have z5:=r.size;refine⟨r.dv λu C=>F.lt (H u C),_,rfl,c r V _,c r V _,c r V _,c r V _,c r V _,c r V _,c r V _,c r V _,c r V _,?_,?_⟩
  .refine Z (a:=λ_=>0) ⟨r,λ_ _=>rfl,λ_ _=>rfl⟩ (λ_=>dL _) λaa z y x v K Y f z6=>?_;refine⟨f.dv λu C=>r.lt (F.lt (H u C)),_,_,_,_,z,y,x,rfl,c f V _,c f V _,?_⟩;intro D;have t:J v D:=J.push v _;have kb:cE D v.size bR vu:=cE.push v _ _;refine⟨c t V _,c t V _,c t V _,c t V _,c t V _,c t V _,c t V _,c t V _,c t V _,c t V _,rfl,nX aa v.size 1,z,y,x,?_⟩;have X:J v (ah D v.size 0 [.s d,.s p,.i (cq h),.i s.cz,.i s.value,.i s.bu,.i s.dR,.s z,.s y,.s x]):=t.ah (ad _) _ _;exact K.cQ X (ad _) (cE.ah (m:=D) (o:=0) kb)
  .intro v;have f:J A v:=J.push A _;have s6:v.size=A.size+1:=by simp[v]
   let⟨K,ap,kb⟩:=aj (w:=v) r rfl;clear_value v;refine⟨c f V _,c f V _,c f V _,c f V _,c f V _,c f V _,c f V _,c f V _,c f V _,c f V _,Z K ap λab z y x D Y X t z7=>?_⟩;refine⟨t.dv bE,_,_,_,_,z,y,x,rfl,c t V _,c t V _,rfl,ab,z,y,x,?_⟩;exact Y.VM (by rw[X.gT _ V];exact fH _ _ _) _ (cE.ah (m:=D) (o:=0) (kb.ext t))
 .intro A;have r:J B A:=J.push B _;have s5:A.size=B.size+1:=by simp[A]
  let⟨K,ap,kb⟩:=aj (w:=A) (J.az B) rfl;clear_value A;refine⟨c r V _,c r V _,c r V _,c r V _,c r V _,c r V _,c r V _,c r V _,c r V _,c r V _,(cc r).mono ?_⟩;rintro _ v ⟨rfl,f⟩;have z6:=f.size;refine⟨f.dv bE,_,rfl,c f V _,c f V _,c f V _,c f V _,c f V _,c f V _,c f V _,c f V _,c f V _,Z (K.eH (dp.eG _ f K.new)) ap λab z y x D Y X t z7=>?_⟩;refine⟨t.dv bE,_,_,_,_,z,y,x,rfl,c t V _,c t V _,rfl,ab,z,y,x,?_⟩;exact Y.VM (by rw[X.gT _ V];exact fH _ _ _) _ (cE.ah (m:=D) (o:=0) (kb.ext (f.trans t)))
 .rintro⟨b,mo⟩ A ⟨rfl,X,o5,h5,f5,r⟩;simp only[]at r;have K:zi X A [S.size,R.size,g.size]:=λu C=>⟨r.cx.lt (F.lt (H u C)),r.jQ u (F.lt (H u C))⟩;refine(OA r (k.ext L) P N.ur (oh N.heap) (oh N.aT)).mono ?_;rintro _ v ⟨aa,o6,D,t,f,Y⟩;refine⟨Y.dH K,_,f.box.bZ 3,_,f.box.bZ 4,_,f.box.bZ 5,_,f.box.bZ 6,o6,f.box.bZ 7,D,f.box.bZ 8,t,f.box.bZ 9,aa,o6,D,t,rfl,f.aaf.box L V V _ _⟩
end
end
section
def St.gS(s:St)(n:Int):St:={s with dR:=n}
section
variable{a:cN}{s:St}{f:aX}{x:Instr}{o:List Int}{b:List aX}
def kT.gS{n:Int}(h:kT a s f x o):kT a (s.gS n) f x o:=⟨h.nn,h.dst,h.nH,h.jc,h.cR,h.zero,h.ret,h.apply,h.WT,h.drop,h.Ny,h.load,h.E8⟩
def W3{P:St->Prop}{c:Prop}{i:Decidable c}{a b:St}(d:P a)(e:P b):P (ite c a b):=by split<;>assumption
structure Vn(s t:St):Prop where
 dR:t.dR=s.dR
 bu:s.bu<=t.bu
 aT:s.aT<+:t.aT
 cz:t.cz=s.cz\/t.cz=0
def OG:Vn s (fj a s b f x o):=by
 unfold fj;simp only[];repeat' refine W3 (P:=Vn s) ?_ ?_
 all_goals first|exact⟨rfl,dg _,Rb _,Or.inl rfl⟩|exact⟨rfl,dg _,List.prefix_append _ _,Or.inl rfl⟩|exact⟨rfl,by simp only[];omega,Rb _,Or.inl rfl⟩|(cases b.getLast?<;>exact⟨rfl,dg _,Rb _,aL⟩)
end
end
structure XS where
 aD:Int
 Qu:Int
 QZ:Int
 WU:Int
 Tp:Int
 YB:Int
 depth:Int
 Q4:Int
def mx(a b:Int):Int:=if b>a then b else a
def VO:List bM->Int
 |[]=>0
 |c::h=>(if 0<c.aP then 1 else 0)+VO h
def Za(n:Int):List bM->Int
 |[]=>n
 |c::h=>Za (mx n c.aP) h
def UO(a:cN)(s:St):Instr:=
 match s.ao.getLast? with
 |some f=>eu a f
 |none=>⟨0,0,0,0,[],[]⟩
def fO.nm{h:List bM}{b:Nat}(d:fO (nm h) b):fO h b:=by
 let⟨c,a,e⟩:=d;unfold Go.Proofs.YtkicoahejfbjhaaGreat.nm at a;rw[lE]at a;split at a
 .exact⟨c,a,e⟩
 .simp at a
def fO.Ge{h:List bM}{w:Int}(e:fX h w)(c:bM){b:Nat}(d:fO (h.set (ix w) c) b):fO h b:=by
 by_cases a:b=ix w
 .subst a;exact e.2
 .exact(fO.ne a).1 d
def fO.jd:∀(a:List Int)(h:List bM)(b:Nat),(∀w∈a,fX h w)->fO (jd h a) b->fO h b
 |[],_,_,_,c=>c
 |w::a,h,b,d,c=>by
  have e:=d w bg;exact(fO.mO e b).1 (fO.jd a _ b (λv f=>⟨(d v (ai _ f)).1,(fO.mO e _).2 (d v (ai _ f)).2⟩) c)
def fO.gY:∀(n:Nat)(h:List bM)(j:List Int),Ca h+j.length<=n->∀b,fO (gY h j) b->fO h b
 |n,h,[],_,b,a=>by rw[sQ]at a;exact a
 |0,h,w::r,d,b,_=>by simp at d
 |n+1,h,w::r,d,b,a=>by
  simp only[aZ]at d;rcases dQ (fX h w)with c|c
  .let⟨g,i⟩:=bS c;by_cases e:(aM h w).aP=1
   .have f:=kj (d:=iY) g;simp only[an i,iY]at f;simp at f;rw[sR c e]at a;exact fO.Ge c _ (fO.gY n _ _ (by simp[iY];omega) b a)
   .have f:=kj (d:={aM h w with aP:=(aM h w).aP -1}) g;simp only[an i]at f;rw[an V]at f;rw[qe c e]at a;exact fO.Ge c _ (fO.gY n _ _ (by simp only[Go.Proofs.YtkicoahejfbjhaaGreat.fg];omega) b a)
  .rw[qj c]at a;exact fO.gY n _ _ V b a
def fO.apart{h:List bM}{e:Nat->Int}(g:fL h e){w:Int}(b:fX h w){c:Nat}(a:fO (apart h w) c):fO h c:=by
 let⟨d,l⟩:=bS b;unfold Go.Proofs.YtkicoahejfbjhaaGreat.apart at a;split at a
 .exact fO.Ge b _ (fO.nm a)
 .rename_i k;refine fO.Ge b {aM h w with aP:=(aM h w).aP -1} (fO.jd _ _ _ (λv i=>?_) a);let⟨j,f⟩:=lA.1 i;have:=g.field (iv d) j f;refine⟨f,?_⟩;by_cases e:ix v=ix w
  .rw[e,fO.yB d];show 0<(aM h w).aP -1;omega
  .rw[fO.ne e];exact this.2
def Q9{a:cN}{s:St}(i:cU a s)(e:s.cz=3):(∃k,(k=1\/k=2)/\lC a s={s with cz:=k})\/
 ∃b f aR,s.ao=b++[f]/\kT a s f (UO a s) aR/\lC a s=fj a s b f (UO a s) aR:=by
 let⟨b,f,c⟩:=i.split e
 have d:s.ao.getLast?=some f:=by rw[c];simp
 have g:s.ao.dropLast=b:=by rw[c];simp
 have h:UO a s=eu a f:=by unfold UO;rw[d]
 unfold lC
 rw[ae (by simpa using e),d,g,h]
 simp only[]
 split
 .exact Or.inl ⟨1,Or.inl rfl,rfl⟩
 .split
  .rename_i j;exact Or.inr ⟨b,f,_,c,j,rfl⟩
  .exact Or.inl ⟨2,Or.inr rfl,rfl⟩
structure aak(c:XS)(s:St):Prop where
 YB:VO s.heap<=c.YB
 depth:(s.ao.length:Int)<=c.depth
 Q4:Za c.Q4 s.heap=c.Q4
structure aal(n:Nat)(c:XS):Prop where
 aD:0<=c.aD/\c.aD<=n
 Qu:0<=c.Qu/\c.Qu<=n
 QZ:0<=c.QZ/\c.QZ<=n
 WU:0<=c.WU/\c.WU<=n
 Tp:0<=c.Tp/\c.Tp<=n
section
section
variable{a:cN}{s:St}{f:aX}{x:Instr}{aR:List Int}{b:List aX}
section
variable(h:cU a s)(e:s.cz=3)(c:(lC a s).cz=3)(d:s.ao=b++[f])
include h e c d
end
end
end
section
variable{m e a:E}{h:List bM}{d:Nat}
structure NY(m:E)(hp:O)(h:List bM):Prop where
 len:hp.len=h.length
 iA:∀(k:Nat)(c:bM),h[k]? =some c->∃f,af m hp.D (hp.off+k*3)=some (vi c.aP)/\af m hp.D (hp.off+k*3+1)=some (vi c.j8)/\af m hp.D (hp.off+k*3+2)=some (O.v f)
def NY.eA{b:O}(H:NY m b h)(k:h≠[]->e[b.D]? =m[b.D]?):NY e b h:=
 ⟨H.len,λl d c=>by
  let⟨f,g,i,j⟩:=H.iA l d c;have a:=k (λa=>by subst a;simp at c);exact⟨f,by rw[aJ a];exact g,by rw[aJ a];exact i,by rw[aJ a];exact j⟩⟩
def NY.lt{a:O}(H:NY m a h)(d:h≠[]):a.D<m.size:=by
 cases h with
 |nil=>exact absurd rfl d
 |cons c r=>
  obtain⟨f,b,_⟩:=H.iA 0 c rfl;exact lZ b
def NY.ext{a:O}(H:NY m a h)(c:J m e):NY e a h:=H.eA λb=>c.same _ (H.lt b)
def dJ.jt{N:Nat}{g:Nat->Nat}{a:O}(H:dJ N g m a h):NY m a h:=
 ⟨H.len,λ_ _ e=>let⟨f,b,c,d,_⟩:=H.bZ e;⟨f,b,c,d⟩⟩
structure oZ(d:Nat)(m e:E):Prop where
 size:m.size<=e.size
 same:∀b,b<m.size->b≠d->e[b]? =m[b]?
def oZ.az(d:Nat)(m:E):oZ d m m:=⟨ad _,λ_ _ _=>rfl⟩
def oZ.ext(h:oZ d a m)(f:J m e):oZ d a e:=⟨bH h.size f.size,λb c g=>by rw[f.same b (aO c h.size)];exact h.same b c g⟩
def oZ.trans(h:oZ d a m)(g:oZ d m e):oZ d a e:=⟨bH h.size g.size,λb c f=>by rw[g.same b (aO c h.size) f];exact h.same b c f⟩
def oZ.ah(h:oZ d a m)(o:Nat)(l:List Ce):oZ d a (ah m d o l):=⟨by rw[aw];exact h.size,λb e c=>by rw[bd l m d o c];exact h.same b e c⟩
def oZ.dv(h:oZ d m e){l:List Nat}(c:∀b∈l,b<m.size/\b≠d):eF l m e:=λb a=>h.same b (c b a).1 (c b a).2
end
section
section
variable{m:E}{a:O}{h:List bM}
end
section
variable{a:cN}{s:St}
def Xg{k:Int}(h:(xU a s k).ok=true):(cU a s/\0<=k/\k<=100000)/\xU a s k=⟨aD a k.toNat s,true⟩:=by
 have b:cU a s/\0<=k/\k<=100000:=by
  apply dP;intro c;rw[xU,ae c]at h;simp at h
 exact⟨b,an b⟩
def U8(h:(xU a s 1).ok=true):cU a s/\xU a s 1=⟨lC a s,true⟩:=let⟨b,e⟩:=Xg h;⟨b.1,e⟩
def NM(c:cU a s)(d:zk s)(b:s.aT.length<=1000000/\s.heap.length<=1000000){k:Nat}(e:k<=100000):zk (aD a k s)/\cU a (aD a k s)/\Sm (1000000+k) (aD a k s):=
 have h:=wC k c
 have S:=wD k c (d.sm b.2 b.1) V
 ⟨h.Yp S V,h,S⟩
def Sw(h:cU a s):(lC a s).dR=s.dR:=by
 by_cases b:s.cz=3
 .rcases Q9 h b with⟨k,-,e⟩|⟨c,f,aR,g,d,e⟩
  .rw[e]
  .rw[e];exact OG.dR
 .rw[pQ b]
end
section
variable{a:E}
def Aj{dq:O}(h:I6 a dq):aN cg 14 [O.v dq] a λv u=>AR [] v u/\J a u:=by
 apply uY;simp -zeta only[aC,aB];intro d c;let⟨e,g⟩:=dD (a:=d) (c:=c) rfl rfl;have P:d.size=a.size+1:=by simp[d]
 clear_value c;refine(Iy (m:=c) ⟨h.1,λk i=>let⟨v,f,b,l⟩:=h.2 k i;⟨v,f,b,e.af l⟩⟩).mono λ_ M⟨H,j,y,p⟩=>⟨p.dv g,(c.size,0),j,?_⟩;have L:=y.lt;have I:=g a.size aL;have K:=g d.size aL;refine(Gh (a:=[d.size,a.size,c.size]) bE aL y (by simp[Cg])).mono λ_ i⟨⟨q,x,E,aT,t,r,G,j,s,D,C⟩,k,_⟩=>?_;refine⟨k.dv λb f=>by have:=g b f;simp only[lF];omega,q,x,_,_,_,_,aT,t,r,j,?_⟩;intro N w;have Q:=k.size;have F:∀{b o:Nat}{v:Value},af (bG [d.size,a.size,c.size] i) b o=some v->af (bG [] w) b o=some v:=λh=>by
  let⟨A,B⟩:=eP.1 h;simp at A;refine eP.2 ⟨aL,?_⟩;rw[aJ ((bd _ _ _ _ V).trans (bd _ _ _ _ V))];exact B
 have n:Le (bG [d.size,a.size,c.size] i) (bG [] w):=λb o v h=>F h;refine⟨⟨q,x,E,aT,t,r,G,rfl,⟨s.bo.le n,iG.le n s.cF⟩,gD.le D n,C⟩,?_⟩;have z:Fz [c.size] c i:=(p.fz _).trans k;have l:J a i:=⟨by have:=e.size;have:=p.size;omega,λb f=>(z.same b (e.lt f) (by have:=e.size;simp;omega)).trans (e.same b f)⟩;exact(l.ah V _ _).ah V _ _
end
end
section
section
open Tryz
variable{m:E}{R:Value->E->Prop}
def wS(a:O):=cY m R A0 [a] func3
end
section
variable{m:E}
def Cj{dq:O}(h:I6 m dq):aN cg 3 [O.v dq] m (LwR m):=by
 apply wS;simp(config:={maxSteps:=1000000}) -zeta only[aC,aB];refine⟨λ_=>⟨rfl,J.az _⟩,λ_=>?_⟩;refine(Aj h).mono λ_ c⟨⟨G,L,j,aT,hp,X,A,f,H,hs,i,I⟩,N⟩=>⟨G,L,_,_,_,_,aT,hp,X,f,?_⟩;have x:fw c G L j:=⟨H.bo.le (bA _ _),iG.le (bA _ _) H.cF⟩;have K:=hs.le (bA _ _);intro e a2 a3 a4;have z1:e.size=c.size+1:=by simp[e]
 have B:J c a4:=(((J.push c _).trans (J.push e _)).ah (ad _) _ _).ah V _ _;have z4:a4.size=c.size+2:=by simp[a4,a3,a2,e,aw]
 clear_value a4;have M:=PU i V 1 (h:=j);refine(FD (x.ext B) (K.ext B) i V).mono λ_ l⟨aa,o5,Y,U,f,n⟩=>⟨n.bs.cx.dv bE,_,_,_,_,o5,Y,U,_,f,?_⟩;have P:=n.bs.cx;have p:=n.Ea M;have u5:=P.size;intro S q;have Q:J l q:=(J.push l _).ah (ad _) _ _;have z7:q.size=l.size+1:=by simp[q,S,aw]
 clear_value q;have v:=(B.trans P).trans Q;refine(Gf (x.ext v) (K.ext v) i V).mono λ_ r⟨ab,o8,Z,W,f,o⟩=>⟨o.bs.cx.dv bE,_,_,_,_,o8,Z,W,_,f,?_⟩;have C:=o.bs.cx;have u:=o.Ea M;have u8:=C.size;intro T a;have t:J r a:=(J.push r _).ah (ad _) _ _;have z0:a.size=r.size+1:=by simp[a,T,aw]
 clear_value a;have E:J l a:=(Q.trans C).trans t;clear n o;have y:∀b∈[r.size,l.size,e.size,c.size],b<a.size:=bE;refine(th (p.ext E) (u.ext t)).aH (J.az _) y λb mA g d _=>⟨b,rfl,?_⟩;obtain rfl:=g.2 rfl;have w:=((v.trans C).trans t).trans d;refine⟨sx,λ_=>⟨sx,λ_=>⟨λhn=>(th (p.ext (E.trans d)) (u.ext (t.trans d))).aH d y λb mB g D _=>⟨b,rfl,λ_=>⟨aL,(N.trans w).trans D⟩,λh=>by rw[g.2 rfl]at h;simp at h⟩,λhy=>?_⟩⟩⟩;let⟨z,R⟩:=U8 (a:=j) (s:=A) (by simpa using hy);have F:(xU j A 1).s=lC j A:=pV Zh.s R;rw[F]at p u;try rw[F]
 exact(td (x.ext w) (p.ext (E.trans d)) (NM z i I (k:=1) V).1).aH d y λb mB g D _=>⟨b,rfl,λ_=>⟨by simp[Sw z],(N.trans w).trans D⟩,λh=>by rw[g.2 (NM z i I (k:=1) V).2.1]at h;simp at h⟩
end
end
end Go.Proofs.YtkicoahejfbjhaaGreat
section
namespace Go.Vc
variable{t:TypeId}{a:Addr}
open Go.ChangeShapes Go.WideShapes Go.RowKit
section
variable{H:Type}{b:TypeId×Value->H}{P:Program}{w:World}
def SY(b:TypeId×Value->H)(P:Program)(w:World)(t:TypeId)(Q:List Ce->Prop):Prop:=
 ∀(n:Nat)(a:List Value)(x:DataW H×List MemPlace),DataW.trod b P w 0 (λ_=>true) true n t a=some x->∃c,a=c.map Ce.v/\Q c
def SY.mono{Q Q':List Ce->Prop}(h:SY b P w t Q)(f:∀a,Q a->Q' a):SY b P w t Q':=λn a x g=>
 let⟨c,d,e⟩:=h n a x g
 ⟨c,d,f _ e⟩
def Sa{v:Value}(h:w.cell? a=some v):a.spot=none:=by
 unfold World.cell? at h;split at h
 .split at h
  .cases h
  .rename_i b;simpa using b
 .cases h
def R8(h:a.spot=none)(i:Nat):a.add i=⟨a.block,a.off+i,none⟩:=by
 obtain⟨c,o,s⟩:=a;simp only at h;subst h;unfold Addr.add;by_cases b:i=0
 .subst b;simp
 .simp[b]
end
section
variable{H:Type}{b:TypeId×Value->H}{P:Program}
def DA(l:laidOutB P=true){W j:World}(k:Below W.heap.size W j):∀{f:List TypeId}{i:List Value}{g:List (DataW H)}{d:List MemPlace},
 (f.all λt=>P.readableRec t&&decide (t<P.types.size))=true->DataW.TrodAll b P W 0 (λ_=>true) true f i g d->(∀x∈d,x.block<W.heap.size)->∀e:Nat->Bool,(∀p∈d,e p.block=true)->
 DataW.TrodAll b P j 0 e true f i g d
 |[],_,_,_,_,h,_,_,_=>by
  obtain⟨rfl,rfl,rfl⟩:=trodAll_nil h;exact trodAll_mk0
 |t::f,_,_,_,c,h,m,e,n=>by
  obtain⟨v,i,s,g,p,r,rfl,rfl,rfl,o,q⟩:=trodAll_cons h;simp only[NU,bK,ar]at c;exact⟨p,r,WideElems.Trod_stays l c.1.1 c.1.2 o (λx a=>k.same (m x (by simp[a]))) (λx a=>n x (by simp[a])),DA l k (by simpa using c.2) q (λx a=>m x (by simp[a])) e (λx a=>n x (by simp[a])),rfl⟩
def MH{f:Func}{s:ChangeSpec}{W g:World}{i:Array Value}{d:List (DataW H)}{o:List MemPlace}
 (J:laidOutB P=true)(L:(f.params.toList.all λt=>P.readableRec t&&decide (t<P.types.size))=true)(z:f.resultTypes=#[t])(v:P.underlying t=some .bool)(B:s.vars=[])
 (j:DataW.Whole b P f.params.toList s.vars false W i.toList d [] o)(F:(s.fn H (d++[])).args=d)(G:(s.fn H (d++[])).results=[.lit (.bool true)])(I:(s.fn H (d++[])).vars=[])
 (k:Below W.heap.size W g):s.post b P f false true false false W i (.bool true) g:=by
 have h:∀a∈o,a.block<W.heap.size:=λa l=>by simpa using j.lt a l
 have r:=j
 obtain⟨a,N,E,q,rfl,C,M⟩:=j
 rw[B]at q
 obtain⟨_,rfl⟩:=trodVars_none q
 simp only[dX]at h C r
 have u:∀c:Nat->Bool,(∀x∈a,c x.block=true)->DataW.TrodAll b P g 0 c true f.params.toList i.toList (s.fn H (d++[])).args a:=λc K=>by
  rw[F];exact DA J k L E h c K
 have A:∀c:Nat->Bool,DataW.TrodVars b P g c s.vars (s.fn H (d++[])).vars []:=λc=>by rw[B,I];rfl
 have y:∀(e:Nat)(c:Nat->Bool)(hd:Bool),DataW.TrodAll b P g e c hd f.resultTypes.toList ((Value.bool true).resultList f.resultTypes.size) (s.fn H (d++[])).results []:=λe c hd=>by
  rw[G,z];exact trodAll_cons_mk (shut_bool v _) trodAll_mk0
 refine⟨d,[],a,[],a,[],r,y _ _ _,u _ (λx m=>by simpa using h x m),A _,k.frame _,λ_=>?_⟩
 refine⟨ok_one z rfl (okWide_bool_mk v _),_,_,([]++a)++[],⟨[]++a,[],trodAll_append (u _ (λ_ _=>rfl)) (y _ _ _),A _,rfl,?_,λD=>by cases D⟩,?_⟩
 .intro e n l
  have w:MemPlace.cell e n∈a:=by simpa using l
  rw[k.frozen (p:=⟨e,n,none⟩) (h _ w)]
  exact C e n w
 .intro x m _
  simpa using m
end
end Go.Vc
end
section
namespace Go.Proofs.YtkicoahejfbjhaaGreat
open Go.Vc Go.ChangeShapes
def Sq{H:Type}{x:TypeId×Value->H}{P:Program}{w:World}{t e r:Nat}{v:Value}{u:DataW H}{I:List MemPlace}(p:P.underlying t=some (.slice e))(B:P.underlying e=some (.int .u8))(A:P.cellsOf e=1)
 (E:Value.okWide P w .any r t v)(y:DataW.Trod x P w 0 (λ_=>true) true t v u I):∃s,v=O.v s/\I6 w.heap s:=by
 obtain⟨J,q,h,rfl⟩:=Go.WideShapes.okWide_slice p E
 obtain⟨L,C⟩:=y
 rcases open_ints p B A C with⟨b,_⟩|⟨d,N,K,g,b,_,D,M,G,_,l,F⟩
 .simp[Value.cells]at b
  obtain⟨rfl,rfl,rfl⟩:=b
  exact⟨.nil,rfl,ad _,λk a=>by simp at a⟩
 .simp[Value.cells]at b
  obtain⟨rfl,rfl,rfl⟩:=b
  simp only[Mm]at G
  rcases jX h with i|i
  .subst i
   have:q=0:=V
   subst this
   obtain⟨c,o,s⟩:=d
   cases s with
   |none=>exact⟨.mk c o 0 0,rfl,ad _,λk a=>by simp at a⟩
   |some f=>exact⟨.zD c o f,rfl,ad _,λk a=>by simp at a⟩
  .have z:=l 0 V
   have n:d.spot=none:=by
    have:=Sa z;simpa[Addr.add]using this
   obtain⟨c,o,s⟩:=d
   simp only at n
   subst n
   refine⟨.mk c o q h,rfl,D,λk a=>?_⟩
   simp only[O.gE]at a
   have m:k<g.length:=V
   have j:=l k m
   have f:=F (g.getD k 0) (by rw[fR,List.getElem?_eq_getElem m];simp)
   rw[Lit.wf,bK,ar,ar]at f
   refine⟨g.getD k 0,f.1,f.2,?_⟩
   .rw[R8 rfl,zA]at j
    simpa using j
end Go.Proofs.YtkicoahejfbjhaaGreat
end
