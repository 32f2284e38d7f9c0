/- Part of a proof. -/
import Derived.Carry
import Derived.ChangeSame
import Derived.ChangeSlices
import Derived.Deep.Slices
import Derived.OpenShut
import Derived.RowKit
import Derived.WideShapes
import Derived.Test.YtdalfjkmdekijaaGreatUG00
import Derived.Test.YtdalfjkmdekijaaGreatUG03
import Derived.Test.YtdalfjkmdekijaaGreatUG04
set_option linter.all false
set_option maxHeartbeats 8000000
set_option maxRecDepth 100000
namespace Go.Proofs.YtdalfjkmdekijaaGreat
open Go.Vc
section
variable{a:E}{l:List Int}
def _root_.Go.Vc.fZ.Vj{m:E}{s:O}{w:Int}(h:fZ a m ay 1 s ((l++[w]).map Ce.i)):s.len=l.length+1/\s.len<=s.cap/\af m s.az (s.off+l.length*1)=some (vi w)/\fZ a m ay 1 (s.cut 0 l.length 1) (l.map Ce.i)/\a.size<=(s.cut 0 l.length 1).az:=by
 have b:s.len=l.length+1:=by have:=h.len;simp at this;omega
 have f:=h.jC l.length (.i w) aH;rcases h.aO with e|⟨c,d,tail,e,h1,h2,h3,h4⟩
 .rw[e]at b;simp at b
 .refine⟨b,by rw[e];exact h4,by rw[cO];exact f,?_⟩;rw[e,b];refine⟨⟨by simp[O.cut],Or.inr ⟨c,d,.i w::tail,?_,h1,?_,?_,by simp[O.cut];omega⟩⟩,h1⟩
  .simp[O.cut]
  .simpa using h2
  .simpa using h3
def AL{X:List Nat}{m:E}{s x:O}{f:List Int}{K:O->E->Prop}(i:fZ a m ay 1 s (l.map Ce.i))(g:Fz X a m)(j:ap m x f)(y:l.length+f.length<=10^12)
 (t:∀r c,fZ a c ay 1 r ((l++f).map Ce.i)->Fz X a c->m.size<=c.size->(∀b,b<a.size->c[b]? =m[b]?)->(∀b,b<m.size->(s≠.nil->b≠s.az)->c[b]? =m[b]?)->(r=.nil\/r.az=s.az\/m.size<=r.az)->K r c):jb m ay [.i (0:Int)] 8 s x K:=by
 have e:=g.size
 have z:s.len=l.length:=by have:=i.len;simp at this;omega
 have v:=j.len
 refine fZ.append (g:=m.extract 0 a.size) (zs:=[.i 0]) (d:=f.map Ce.i) (i.cG (by rw[jF e];exact ad _)) (J.N4 e) (by simp[v]) j.sJ V λr c k n w o p q=>?_
 have d:∀b,b<a.size->c[b]? =m[b]? :=λb d=>(n.same b (by rw[jF e];exact d)).trans (N6 d e)
 exact t r c (by rw[eW];exact k.cG (by rw[jF e];exact ad _)) ⟨V,λb h u=>(d b h).trans (g.same b h u)⟩ o d p (q.elim (λh=>Or.inl h.2) λh=>h.elim (λh=>Or.inr (Or.inl h.2.1)) λh=>Or.inr (Or.inr (pC h.symm)))
def ap.iy{m a:E}{s:O}(h:ap m s l)(f:a[s.az]? =m[s.az]?):ap a s l:=
 ⟨h.len,h.cap,h.fu,λk x i=>let⟨b,d,e⟩:=h.jC k x i;⟨b,d,λj c g=>(aK f _).trans (e j c g)⟩⟩
section
variable{m:E}{c s:O}{h:List bS}{b:List Int}
open Classical in
def Jo(E:cT m c h)(ab:Nt h)(ao:h.length<=10000000)(ac:∀o∈h,o.aL.length<=3)(hs:ap m s b)(hw:∀w∈b,ug w)(ar:b.length<=100000000):qW 25 [O.v c,O.v s] m (jE (λq=>decide (CP h b q)) h.length):=by
 apply DL;have ai:=E.len;have en:Int.toNat (c.len:Int)=h.length:=V;rw[en];refine⟨V,V,V,V,?_⟩;intro d;have W:cz d m.size fj (jS h.length λ_=>false):=Ep m _;have U:J m d:=J.push m _;have z1:d.size=m.size+1:=by simp[d]
 clear_value d;refine(fE (hs.ext U) V).then V λs0 m2 o2 i2 L=>⟨s0,rfl,?_⟩;have i:=Qv (λ_=>false) h 0 ac;refine AW (γ:=(Nat->Bool)×List Int) (λg sa M=>J m M/\Fz [m.size] d M/\cz M m.size fj (jS h.length g.1)/\fZ d M ay 1 sa (g.2.map Ce.i)/\RI h b g.1 g.2/\(∀w∈g.2,ug w)/\g.2.length+Rl g.1 h 0<=200000000) (λg=>g.2.length+Rl g.1 h 0) (λ_=>false,b)
  ⟨U.trans L,L.fz _,W.ext L,o2,.nil h b,hw,by simp only;omega⟩ ?_
 rintro⟨k,l⟩ sa j Y μ ⟨A,D,B,o3,R,F,N⟩ p
 simp only at B o3 R F N;have Q:sa.len=l.length:=by have:=o3.len;simp at this;omega
 refine⟨λu=>?_,λu=>?_⟩
 .simp only[gJ,an]at u;rcases Jy l with e|⟨r,w,e⟩
  .subst e;simp at Q;omega
  rw[Jx]at e;subst e;let⟨p1,p4,p2,p3,p5⟩:=o3.Vj;simp only[aT,aW,cD]at Q N;have Z:cQ ((sa.len:Int) -1)=(r.length:Int):=by rw[aQ V V];omega
  rw[Z];have e2:Int.toNat (0:Int)=0:=rfl;have e3:Int.toNat (r.length:Int)=r.length:=V;rw[e2,e3];have S:=F w aH;have H:∀v∈r,ug v:=λv I=>F v (bu _ I);refine⟨V,V,w,p2,V,V,V,(gR (cT.ext A E) S).then λt y i a=>⟨t,rfl,λhy=>?_,λhn=>p (k,r) _ _ ⟨A.trans a,D.trans (a.fz _),B.ext a,p3.ext a,R.skip λo=>absurd o (fb i hn),H,by simp only;omega⟩ (by simp only[aT,aW,cD];omega)⟩⟩;have G:=i.1 hy;let⟨x,aj⟩:=cw G;have af:=ax x;have e4:cQ (w -1000)=(ix w:Nat):=by have:=G.1;have:=S.2;unfold ix;rw[aQ V V];omega
  have e5:Int.toNat ((ix w:Nat):Int)=ix w:=V;rw[e4,e5];simp -zeta only[O.dS,O.fG,O.iY,bE,cO];have C:=B.ext a;refine⟨V,V,k (ix w),tK C af,λg=>?_,λg=>p (k,r) _ _ ⟨A.trans a,D.trans (a.fz _),C,p3.ext a,R.skip λ_=>by simpa using g,H,by simp only;omega⟩ (by simp only[aT,aW,cD];omega)⟩;have aa:k (ix w)=false:=by simpa using g
  refine⟨V,V,C.fg (by rw[mg];omega),?_⟩;intro o;have X:cz o m.size fj (jS h.length (jV k (ix w))):=JA C (ix w);have f5:Fz [m.size] y o:=⟨by simp[o,aA],λt _ i=>bd _ _ _ _ (by simpa using i)⟩;have K:J m o:=(A.trans a).ai (ad _) _ _;have ag:(sa.cut 0 r.length 1).az≠m.size:=V;have o5:fZ d o ay 1 (sa.cut 0 r.length 1) (r.map Ce.i):=(p3.ext a).congr (bd _ _ _ _ ag);clear_value o;obtain⟨z,P,g0,g1,g2⟩:=cT.aO (cT.ext K E) x;have al:=P.len;have am:=NU aa h 0 _ (dE _) (by simpa using x);have ah:(sa.cut 0 r.length 1).len=r.length:=by have:=o5.len;simp at this;omega
  refine⟨V,V,z,by simpa using g2,AL o5 ((D.trans (a.fz _)).trans f5) P V λau m6 o6 f6 z6 T _ _=>p (jV k (ix w),r++(aZ h w).aL) _ _ ⟨⟨by have:=K.size;omega,λt i=>(T t V).trans (K.same t i)⟩,f6,X.congr (T _ V),o6,R.Wx G x,λv I=>?_,by simp only[aT];omega⟩ (by simp only[aT,aW,cD];omega)⟩;rcases List.mem_append.1 I with e|e
  .exact H v e
  .exact ab _ (aq x) v e
 .simp only[gJ,br]at u;have e:l=[]:=List.length_eq_zero_iff.1 V;subst e;obtain rfl:=R.done;intro y;have t:fZ j y ay 1 (.mk j.size 0 0 0) []:=fZ.new (J.aF j) ay 1 [] 0 aH;have a:J j y:=J.push j _;clear_value y;refine dx (n:=h.length) V (λo z M=>J j M/\fZ j M ay 1 z ((jE (λq=>decide (CP h b q)) o).map Ce.i)) ⟨a,by simpa[jE]using t⟩ ?_;rintro o z m6 Y μ w ⟨r,o6⟩ p
  have G:=j8 (f:=λq=>decide (CP h b q)) o;refine dit (λu=>?_) λu=>?_
  .refine⟨V,by simp only[O.dS];omega,decide (CP h b o),by simpa using tK (B.ext r) (show o<h.length by omega),λg=>?_,λg=>?_⟩
   .intro x;refine ms o6 r V λH C q v=>p V _ _ ⟨v,?_⟩
    rw[jE,ak g];exact q
   .refine p V _ _ ⟨r,?_⟩
    rw[jE,ae (by simp[g]),dD];exact o6
  .have e:o=h.length:=V;subst e;exact⟨z,rfl,ap.fP o6 V,A.trans r⟩
def GH(f:cT m c h)(d:Nt h)(g:h.length<=1000000000):dz cq 32 [O.v c] m (Gq h):=by
 apply yJ;exact(rD f d g).mono λ_ i⟨s,b,e,a,_,x⟩=>⟨s,b,e,b,rfl,a,x⟩
open Classical in
def wR(B:cT m c h)(L:Nt h)(ak:h.length<=10000000)(W:Gq h)(hs:ap m s b)(hw:∀w∈b,ug w)(al:b.length<=100000000):qW 16 [O.v c,O.v s] m (jE (λy=>decide (CP h b y)) h.length):=by
 apply CW;refine(GH B L V).mono λ_ a⟨j,e,f,I⟩=>⟨j,e,λp=>absurd W (nb f p),λ_=>?_⟩;have ab:∀o∈h,o.aL.length<=3:=λo k=>(W.cells o k).fl;have ah:=B.len;have en:Int.toNat (c.len:Int)=h.length:=V;rw[en];refine⟨V,V,V,V,?_⟩;intro i;have Y:cz i a.size fj (jS h.length λ_=>false):=Ep a _;have X:J a i:=J.push a _;have z1:i.size=a.size+1:=by simp[i]
 clear_value i;refine(rE (hs.ext (I.trans X)) V).then V λs0 m2 o2 i2 K=>⟨s0,rfl,?_⟩;have f:=Qv (λ_=>false) h 0 ab;have N:=cT.ext I B;refine AW (γ:=(Nat->Bool)×List Int) (λg sa M=>J a M/\Fz [a.size] i M/\cz M a.size fj (jS h.length g.1)/\fZ i M ay 1 sa (g.2.map Ce.i)/\RI h b g.1 g.2/\(∀w∈g.2,ug w)/\g.2.length+Rl g.1 h 0<=200000000) (λg=>g.2.length+Rl g.1 h 0) (λ_=>false,b)
  ⟨X.trans K,K.fz _,Y.ext K,o2,.nil h b,hw,by simp only;omega⟩ ?_
 rintro⟨g,l⟩ sa m3 ag μ ⟨q,z,t,o3,R,C,M⟩ H
 simp only at t o3 R C M;have S:sa.len=l.length:=by have:=o3.len;simp at this;omega
 refine⟨λp=>?_,λp=>?_⟩
 .simp only[gJ,an]at p;rcases Jy l with e|⟨r,w,e⟩
  .subst e;simp at S;omega
  rw[Jx]at e;subst e;let⟨p1,p4,p2,p3,p5⟩:=o3.Vj;simp only[aT,aW,cD]at S M;have e1:cQ ((sa.len:Int) -1)=(r.length:Int):=by rw[aQ V V];omega
  rw[e1];have e2:Int.toNat (0:Int)=0:=rfl;have e3:Int.toNat (r.length:Int)=r.length:=V;rw[e2,e3];have af:=C w aH;have E:∀v∈r,ug v:=λv F=>C v (bu _ F);refine⟨V,V,w,p2,(mo (cT.ext q N) af.2).mono λ_ m4⟨y,j,e,f,ha,d⟩=>⟨y,j,e,V,V,V,λT=>?_,λQ=>H (g,r) _ _ ⟨q.trans d,z.trans (d.fz _),t.ext d,p3.ext d,R.skip λo=>by rw[f.2 o]at Q;exact absurd Q bh,E,by simp only;omega⟩ (by simp only[aT,aW,cD];omega)⟩⟩;have P:=f.1 T;let⟨k,ai⟩:=cw P;have ac:=ax k;have e5:Int.toNat ((ix w:Nat):Int)=ix w:=V;rw[ha T,e5];simp -zeta only[O.dS,O.fG,O.iY,bE,cO];have u:=t.ext d;refine⟨V,V,g (ix w),tK u ac,λA=>?_,λA=>H (g,r) _ _ ⟨q.trans d,z.trans (d.fz _),u,p3.ext d,R.skip λ_=>by simpa using A,E,by simp only;omega⟩ (by simp only[aT,aW,cD];omega)⟩;have aa:g (ix w)=false:=by simpa using A
  refine⟨V,V,u.fg (by rw[mg];omega),?_⟩;intro n;have Z:cz n a.size fj (jS h.length (jV g (ix w))):=JA u (ix w);have f5:Fz [a.size] m4 n:=⟨by simp[n,aA],λj _ f=>bd _ _ _ _ (by simpa using f)⟩;have G:J a n:=(q.trans d).ai (ad _) _ _;have ae:(sa.cut 0 r.length 1).az≠a.size:=V;have o5:fZ i n ay 1 (sa.cut 0 r.length 1) (r.map Ce.i):=(p3.ext d).congr (bd _ _ _ _ ae);clear_value n;obtain⟨x,D,g0,g1,g2⟩:=cT.aO (cT.ext G N) k;have aj:=NU aa h 0 _ (dE _) (by simpa using k);refine⟨V,V,x,by simpa using g2,AL o5 ((z.trans (d.fz _)).trans f5) D V λam m6 o6 f6 z6 U _ _=>H (jV g (ix w),r++(aZ h w).aL) _ _ ⟨⟨by have:=G.size;omega,λj f=>(U j V).trans (G.same j f)⟩,f6,Z.congr (U _ V),o6,R.Wx P k,λv F=>?_,by simp only[aT];omega⟩ (by simp only[aT,aW,cD];omega)⟩;rcases List.mem_append.1 F with e|e
  .exact E v e
  .exact L _ (aq k) v e
 .simp only[gJ,br]at p;have e:l=[]:=List.length_eq_zero_iff.1 V;subst e;obtain rfl:=R.done;exact(EK t V).mono λ_ n⟨x,e,D,d⟩=>⟨x,e,x,rfl,D,(I.trans q).trans d⟩
end
end
section
variable{r:Int}{k:Nat}{l b:List Int}
open Classical in
noncomputable def Rn (bn:List Instr) (B k:Nat):List Int:=jE (λr=>decide (Cm bn r k)) B
def Vq(x:Instr):List Int:=if x.op=14\/x.op=15 then[]else Mu [] x.args
structure LH(bn:List Instr)(B:Nat):Prop where
 args:∀(k:Nat)(x:Instr),bn[k]? =some x->∀a∈x.args,0<=a/\a<(B:Int)
 Xu:∀(k:Nat)(x:Instr),bn[k]? =some x->∀n∈mr x k,(k:Int)<n/\n<bn.length
 dst:∀(k:Nat)(x:Instr),bn[k]? =some x->0<=x.dst/\x.dst<(B:Int)
 len:∀(k:Nat)(x:Instr),bn[k]? =some x->x.args.length<=100/\x.di.length<=100
 eC:∀(k:Nat)(x:Instr),bn[k]? =some x->x.op≠7/\x.op≠8
 fu:B<=1000000/\bn.length<=1000000
section
variable{bn:List Instr}{B:Nat}
def TN(C:LH bn B)(h:Cm bn r k):0<=r/\r<(B:Int):=by
 induction h with
 |use a b _=>exact C.args _ _ a _ b
 |Xu _ _ _ _ a=>exact a
def TM(C:LH bn B):r∈Rn bn B k<->Cm bn r k:=by
 unfold Rn;rw[mu];constructor
 .rintro⟨j,_,rfl,h⟩;simpa using h
 .intro h;have:=TN C h;refine⟨r.toNat,V,V,?_⟩;rw[show((r.toNat:Nat):Int)=r by omega];simpa using h
def TL(k:Nat):(Rn bn B k).length<=B:=j8 B
def Yt(C:LH bn B)(a:l.Pairwise (·<·))(h:∀r,r∈l<->Cm bn r k):l=Rn bn B k:=NE a (KD B) λr=>by rw[h,<-TM C]
noncomputable def Vp (bn:List Instr) (B:Nat) (b:List Int):List Int:=b.foldl (λa n=>Mu a (Rn bn B n.toNat)) []
def Ug{n:Int}(h:b[k]? =some n):Vp bn B (b.take (k+1))=Mu (Vp bn B (b.take k)) (Rn bn B n.toNat):=by
 unfold Vp;rw[bC h,List.foldl_append];rfl
def Oq(C:LH bn B):∀(b a:List Int)(r:Int),r∈b.foldl (λa n=>Mu a (Rn bn B n.toNat)) a<->r∈a\/∃n∈b,Cm bn r n.toNat
 |[],a,r=>aH
 |n::b,a,r=>by
  rw[List.foldl_cons,Oq C b,AU,TM C];constructor
  .rintro((h|h)|⟨m,d,c⟩)
   .exact Or.inl h
   .exact Or.inr ⟨n,aX,h⟩
   .exact Or.inr ⟨m,ah _ d,c⟩
  .rintro(h|⟨m,d,c⟩)
   .exact Or.inl (Or.inl h)
   .rcases List.mem_cons.1 d with e|e
    .subst e;exact Or.inl (Or.inr c)
    .exact Or.inr ⟨m,e,c⟩
def Oo:∀(b a:List Int),a.Pairwise (·<·)->(b.foldl (λa n=>Mu a (Rn bn B n.toNat)) a).Pairwise (·<·)
 |[],_,h=>h
 |n::b,a,h=>Oo b _ (Ou h)
def UL:∀{l:List Int}{B:Nat},l.Pairwise (·<·)->(∀r∈l,0<=r/\r<(B:Int))->l.length<=B:=λ{l B} ha hr=>by
 have:l=jE (λk=>decide ((k:Int)∈l)) B:=Vk ha hr λk _=>aH;rw[this];exact j8 B
def RB(C:LH bn B)(b:List Int):(Vp bn B b).length<=B:=UL (Oo b [] List.Pairwise.nil) λr a=>by
 obtain⟨n,_,h⟩:=((Oq C b [] r).1 a).resolve_left aH;exact TN C h
def Vs{x:Instr}:r∈Vq x<->r∈x.args/\¬(x.op=14\/x.op=15):=by
 unfold Vq;split
 .simp[*]
 .rw[AU];simp[*]
def Vr(x:Instr):(Vq x).length<=x.args.length:=by
 unfold Vq;split
 .simp
 .have:=wP x.args [];simpa using this
open Classical in
def WY(C:LH bn B){x:Instr}(g:bn[k]? =some x)(e:∀n,n∈b<->n∈mr x k){W:List Int}(f:W=(Vp bn B b).filter (λr=>!decide (jD x.op/\r=x.dst))):Mu W (Vq x)=Rn bn B k:=by
 subst f;refine Yt C (Ou ((Oo b [] List.Pairwise.nil).sublist List.filter_sublist)) λr=>?_;rw[AU,Vs,List.mem_filter,Qw g,Vp,Oq C];simp only[iW,false_or,gC,br];constructor
 .rintro(⟨⟨n,a,c⟩,d⟩|h)
  .exact Or.inr ⟨⟨n,(e n).1 a,c⟩,λh=>d ⟨h.1,h.2.symm⟩⟩
  .exact Or.inl h
 .rintro(h|⟨⟨n,a,c⟩,d⟩)
  .exact Or.inr h
  .exact Or.inl ⟨⟨n,(e n).2 a,c⟩,λh=>d ⟨h.1,h.2.symm⟩⟩
end
def JF{m M:E}(h:J m M){S:List Nat}(c:∀b∈S,m.size<=b):Le m (bG S M):=λb o v a=>dY.2 ⟨λd=>by have:=c b d;have:=lH a;omega,h.af a⟩
def iU.YD{f:Nat}{a:List Value}{m:E}(h:iU f a m [] (l=·))(b:l.length<=10^12):qW f a m l:=h.mono λ_ d⟨s,c,e,g,q,x⟩=>by
 subst q;exact⟨s,e,(GI.done g aH b).le (bz _ _),x⟩
section
variable{m:E}{d:List Nat}{x:Instr}{a j c:O}{bn:List Instr}{B:Nat}
def Ms(A:∀c∈d,c<m.size)(u:ap (bG d m) a x.args)(G:x.args.length<=100):iU 97 [.agg #[vi x.op,vi x.dst,vi x.bK,vi x.bW,O.v a,O.v j]] m d (Vq x=·):=by
 apply FV;simp -zeta only[aE,aD];intro b;have e:J m b:=J.push m _;have z1:b.size=m.size+1:=by simp[b]
 clear_value b;have t:∀c∈d,c<b.size:=λc f=>by have:=A c f;omega
 intro p;have g2:GI d b p (.mk b.size 0 0 0) []:=GI.nil d b;have q:J b p:=J.push b _;clear_value p;have E:=u.len;refine⟨λi=>⟨λl=>?_,λl=>?_⟩,λi=>?_⟩
 .refine dx (n:=x.args.length) V (λk s M=>J b M/\GI d b M s (Mu [] (x.args.take k))) ⟨q,g2⟩ ?_;rintro k s K I μ F ⟨g,o⟩ C
  have B:=wP (x.args.take k) [];simp only[eJ,cD]at B;have X:=e.trans g;refine dit (λh=>?_) λh=>?_
  .let⟨y,v⟩:=cg x.args k;refine⟨V,V,y,u.Ke X v,?_⟩;refine(nm (λc f=>aJ (t c f) g.size) (o.done t V) y V).then λr H L z D w=>⟨w.da λc f=>by have:=g.size;simp at f;omega,_,rfl,C V _ _ ⟨g.trans w,?_⟩⟩;rw[Ly v,D];exact z.cG (λ_ h=>h) g.size
  .rw[dk V]at o;refine⟨s,_,rfl,o.cG (λ_ h=>h) e.size,?_,X⟩;unfold Vq;rw[ae];simp at i l;omega
 .refine⟨_,_,rfl,g2.cG (λ_ h=>h) e.size,?_,e.trans q⟩;unfold Vq;rw[ak];simp at l;omega
 .refine⟨_,_,rfl,g2.cG (λ_ h=>h) e.size,?_,e.trans q⟩;unfold Vq;rw[ak];simp at i;omega
def MQ(m:E)(n:Int):ap (m.push (.cells (bD [.i n]) ay)) (.mk m.size 0 1 1) [n]:=ap.fP (fZ.new (J.aF m) ay 1 [.i n] 1 rfl) aH
def Lg(q:eu m c bn)(B:bn[k]? =some x)(ab:bn.length<=1000000)(hj:x.di.length<=100):aN cq 94 [O.v c,vi k] m λY F=>∃s l,Y=O.v s/\ap F s l/\(∀i,i∈l<->i∈mr x k)/\J m F:=by
 apply FI;simp -zeta only[aE,aD];let⟨a,j,ha,A,N,g1,g2,P,R,T⟩:=q.aO B;have ad:=ax B;have aa:=q.len;have L:Int.toNat (k:Int)=k:=V;rw[L];refine⟨V,V,_,N,_,g1,_,g2,_,P,_,R,_,T,?_⟩;intro U b;obtain⟨o,-,z2⟩:=iN (M:=m) (d:=U) (c:=b) rfl rfl rfl;clear_value b;have K:cQ ((k:Int)+1)=(k:Int)+1:=aQ V V;rw[K];unfold mr;refine⟨λg=>?_,λg=>⟨λe=>?_,λe=>⟨λh=>?_,λh=>⟨λp=>?_,λp=>?_⟩⟩⟩⟩
 .simp at g;intro d;refine⟨_,[],rfl,ap.fP (fZ.new (J.aF b) ay 1 [] 0 rfl) aH,λi=>?_,o.trans (J.push _ _)⟩;rw[ae V,ae V,ae V,ak g]
 .simp at g e;intro d;refine⟨_,[x.bK],rfl,MQ b _,λi=>?_,o.trans (J.push _ _)⟩;rw[ak e]
 .simp at g e h;intro d;have w:ap d (.mk b.size 0 1 1) [(k:Int)+1]:=MQ b _;have u:J b d:=J.push _ _;clear_value d;refine(nm (S:=[]) aH (w.le (JF (J.aF _) aH)) x.bK aH).then λr E W v t f=>⟨f.da λI y=>by have:=u.size;simp at y;omega,_,rfl,r,E,rfl,(v.done aH (by subst t;have:=JE [(k:Int)+1] x.bK;simp at this;omega)).le (bz _ _),λi=>?_,(o.trans u).trans f⟩;rw[ae e,ak h,<-t,EP];simp;omega
 .simp at g e h p;intro d;have Q:GI [] b d (.mk b.size 0 0 0) []:=GI.nil [] b;have u:J b d:=J.push _ _;clear_value d;have ac:=A.len;refine dx (n:=x.di.length) V (λk s w=>J b w/\GI [] b w s (Mu [] (x.di.take k))) ⟨u,Q⟩ ?_;rintro D s W Z μ hi ⟨f,z⟩ X
  have q:=wP (x.di.take D) [];simp only[eJ,cD]at q;refine dit (λw=>?_) λw=>?_
  .let⟨H,C⟩:=cg x.di D;refine⟨V,V,H,by simpa using(A.ext (o.trans f)).aO C,?_⟩;refine(nm (S:=[]) aH (z.done aH V) H V).then λr E m5 v t G=>⟨G.da λI y=>by have:=f.size;simp at y;omega,_,rfl,X V _ _ ⟨f.trans G,?_⟩⟩;rw[Ly C,t];exact v.cG (λ_ w=>w) f.size
  .rw[dk V]at z;refine⟨s,_,rfl,(z.done aH (by have:=wP x.di [];simp at this;omega)).le (bz _ _),λi=>?_,o.trans f⟩;rw[ae e,ae h,ak p,AU];simp
 .simp at g e h p;intro d;refine⟨_,[(k:Int)+1],rfl,MQ b _,λi=>?_,o.trans (J.push _ _)⟩;rw[ae e,ae h,ae p,ae V]
end
end
section
section
variable{a:E}{c:O}{bn:List Instr}{b:Nat}
def Ot(C:LH bn b)(a:List Int)(k:Nat):(Vp bn b (a.take k)).length<=b:=RB C _
open Classical in
def Hy(hc:eu a c bn)(C:LH bn b){w:Nat}(aw:w<=bn.length):aN cq 52 [O.v c,vi w] a λv m'=>∃d h,v=O.v (.mk d 0 bn.length bn.length)/\cz m' d qD h/\h.length=bn.length/\
 (∀k,w<=k->k<bn.length->∃s,h[k]? =some (.s s)/\ap m' s (Rn bn b k))/\J a m':=by
 apply BN
 have aC:=hc.len
 have fu:=C.fu
 have en:Int.toNat (c.len:Int)=bn.length:=V
 rw[en]
 refine⟨V,V,V,V,?_⟩
 intro F
 have B1:cz F a.size qD (me [.s .nil] bn.length):=cz.push a _ _
 have x1:J a F:=J.push a _
 have z1:F.size=a.size+1:=by simp[F]
 clear_value F
 have e0:cQ ((c.len:Int) -1)=(bn.length:Int) -1:=by rw[aQ V V];omega
 rw[e0]
 refine AW (γ:=Nat) (λi D M=>D=(i:Int) -1/\w<=i/\i<=bn.length/\J a M/\a.size<M.size/\∃h,cz M a.size qD h/\h.length=bn.length/\∀k,i<=k->k<bn.length->∃s,h[k]? =some (.s s)/\ap (bG [a.size] M) s (Rn bn b k)) id bn.length
  ⟨rfl,aw,ad _,x1,V,_,B1,by simp[mF],λk h1 h2=>V⟩ ?_
 rintro i D j an μ ⟨rfl,aD,aE,G,z2,h,Q,aj,sJ⟩ am
 refine dit (λh1=>?_) λh1=>?_
 .obtain⟨k,rfl⟩:∃k,i=k+1:=⟨i -1,V⟩
  have ek:(((k+1:Nat):Int) -1)=(k:Int):=V
  rw[ek]at am⊢
  have ar:Int.toNat (k:Int)=k:=V
  have au:cQ ((k:Int) -1)=(k:Int) -1:=aQ V V
  rw[ar,au]
  let⟨x,A⟩:=cg bn k
  have al:=C.len k x A
  intro m3
  have g3:GI [a.size] j m3 (.mk j.size 0 0 0) []:=GI.nil _ j
  have x3:J j m3:=J.push _ _
  clear_value m3
  have X3:=G.trans x3
  refine(Lg (eu.ext X3 hc) A fu.2 al.2).mono λ_ m4⟨az,u,ao,ht,hn,x4⟩=>⟨az,ao,?_⟩
  have X4:=x3.trans x4
  have aG:=ht.len
  have aI:=ht.fu
  have B4:=Q.ext X4
  refine dx (n:=u.length) V (λK s M=>J m4 M/\GI [a.size] j M s (Vp bn b (u.take K))) ⟨J.aF _,g3.ext x4⟩ ?_
  rintro K gZ m5 aB ν hj ⟨P,I⟩ ay
  have t:=X4.trans P
  have ul:=Ot C u K
  have z:∀d∈[a.size],d<j.size:=bN
  have ag:∀d∈[a.size],d<m5.size:=λd g=>aJ (z d g) t.size
  have f:∀{o v},af a c.az o=some v->af m5 c.az o=some v:=λy=>(G.trans t).af y
  refine dit (λh2=>?_) λh2=>?_
  .let⟨l,p⟩:=cg u K
   have U:=C.Xu k x A l ((hn l).1 (aq p))
   obtain⟨s,q,ab⟩:=sJ l.toNat V V
   have H:=B4.ext P
   have T:Int.toNat (l:Int)=l.toNat:=rfl
   refine⟨V,V,l,by simpa using(ht.ext P).aO p,V,by simp only[O.dS];omega,s,?_,?_⟩
   .simp -zeta only[O.fG,O.iY,bE,cO]
    rw[H.cJ,q];rfl
   have ll:=TL (bn:=bn) (B:=b) l.toNat
   refine(wJ ag (I.done z V) (ab.le (t.cR _)) V).then λL W m6 R N e=>⟨_,rfl,ay V _ _ ⟨P.trans e,?_⟩⟩
   rw[Ug p,N];exact R.cG (λ_ y=>y) t.size
  .rw[dk V]at I
   let⟨T,jj,ha,aF,U,Y,c2,c3,c4,c5⟩:=hc.aO A
   have ul:=RB C u
   have hO:∀(M:E)(L:O)(W:List Int),J m5 M->GI [a.size] j M L W->W.length<=b->W=(Vp bn b u).filter (λac=>!decide (jD x.op/\ac=x.dst))->
    aN cq 97 [.agg #[vi x.op,vi x.dst,vi x.bK,vi x.bW,O.v T,O.v jj]] M λv m8=>∃N:O,v=O.v N/\aN cq 95 [O.v L,O.v N] m8 λv p=>∃l:O,v=O.v l/\
     0<=(k:Int)/\(k:Int)<((O.mk a.size 0 bn.length bn.length).len:Int)/\fg p ((O.mk a.size 0 bn.length bn.length).az) ((O.mk a.size 0 bn.length bn.length).off+k*1) 1/\(an ((k:Int) -1) (ai p ((O.mk a.size 0 bn.length bn.length).az) ((O.mk a.size 0 bn.length bn.length).off+k*1) [.s l])/\μ ((k:Int) -1) (ai p ((O.mk a.size 0 bn.length bn.length).az) ((O.mk a.size 0 bn.length bn.length).off+k*1) [.s l])<μ (k:Int) j):=λM L W xM gM wl hW=>by
    have R:=t.trans xM
    have aa:∀d∈[a.size],d<M.size:=λd g=>aJ (z d g) R.size
    refine(Ms (d:=[a.size]) aa (ha.le (JF (G.trans R) aH)) al.1).then λN aL m8 g8 e8 x8=>⟨N,rfl,?_⟩
    subst e8
    have aO:=Vr x
    have ah:∀d∈[a.size],d<m8.size:=λd g=>aJ (aa d g) x8.size
    refine(wJ ah ((gM.ext x8).done z V) (g8.done aa V) V).then λl aM p g9 e9 x9=>⟨l,rfl,?_⟩
    rw[WY C A hn hW]at e9
    subst e9
    have H:=(R.trans x8).trans x9
    have B9:=Q.ext H
    simp -zeta only[O.dS,O.fG,O.iY,bE,cO]
    have ll:=TL (bn:=bn) (B:=b) k
    have i9:=g9.done ah V
    have f9:Le (bG [a.size] p) (bG [a.size] (ai p a.size k [.s l])):=(Fz.cR (X:=[a.size]) ⟨by rw[aA];exact ad _,λd _ g=>bd _ _ _ _ (by simpa using g)⟩ aH)
    refine⟨V,V,B9.fg V,am k _ _ ⟨rfl,V,V,(G.trans H).ai (ad _) _ _,by rw[aA];have:=H.size;omega,_,cz.ai (m:=p) (o:=k) (r:=[.s l]) B9,by simp[lp,aj],λD h3 Z=>?_⟩ (Nat.lt_succ_self k)⟩
    by_cases ei:D=k
    .subst ei
     refine⟨l,?_,i9.le f9⟩
     rw[kV,ak ⟨ad _,aH,V⟩];simp
    .obtain⟨s,q,ab⟩:=sJ D V Z
     refine⟨s,?_,(ab.le (H.cR _)).le f9⟩
     rw[kV,ae bN];exact q
   refine⟨V,V,_,f U,(rX _ _).then λd m6 g e=>⟨d,rfl,λhy=>?_,λax=>?_⟩⟩
   .have hs:=g.1 hy
    refine⟨V,V,_,e.af (f Y),?_⟩
    have av:∀d∈[a.size],d<m6.size:=λd g=>aJ (ag d g) e.size
    refine(sW av ((I.ext e).done z V) x.dst V).then λab aK m7 g7 e7 q=>⟨ab,rfl,V,V,_,q.af (e.af (f U)),_,q.af (e.af (f Y)),_,q.af (e.af (f c2)),_,q.af (e.af (f c3)),_,q.af (e.af (f c4)),_,q.af (e.af (f c5)),?_⟩
    subst e7
    refine hO m7 ab _ (e.trans q) (g7.cG (λ_ y=>y) (by have:=t.size;have:=e.size;omega)) (bH (il _ _) ul) (List.filter_congr λac _=>by simp[hs])
   .have hs:=fb g ax
    refine⟨V,V,_,e.af (f U),_,e.af (f Y),_,e.af (f c2),_,e.af (f c3),_,e.af (f c4),_,e.af (f c5),?_⟩
    refine hO m6 gZ _ e (I.ext e) ul ?_
    rw[List.filter_eq_self.2 λac _=>by simp[hs]]
 .have:i=w:=V
  subst this
  exact⟨a.size,h,rfl,Q,aj,λk h3 Z=>let⟨s,T,d⟩:=sJ k h3 Z;⟨s,T,d.le (bz _ _)⟩,G⟩
end
section
variable{m:E}{d p bB c b:O}{a:cp}{s:St}
def XY{a:cp}(g:El a){n:Nat}{q:cZ}(w:a.cv[n]? =some q):LH q.bn q.av.toNat:=by
 have P:=g.de q (aq w);have y:=P.av;have v:∀t,(bY a.bt t).length<=3:=λt=>by
  unfold bY;split
  .let⟨d,hd⟩:=cg a.bt (t.toNat -1);rw[hd];simp only[lF,pE,dO,List.length_range];rcases iS d.cons.length with e|e
   .omega
   .exact((g.pB.types.de _ d hd).gS e).1
  .simp
 refine⟨λk x c s u=>?_,λk x c n f=>?_,λk x c=>?_,λk x c=>?_,λk x c=>?_,V,by have:=P.len;omega⟩
 .have:=(P.de k x c).args s u;omega
 .have I:=P.de k x c;have b:=I.op;unfold kM at b;unfold mr at f;split at f
  .rename_i e;rw[ae V,ae V,ae V,ae V,ae V,ae V,ae V,ae V,ae V,ak e]at b;simp at f;subst f;omega
  rename_i j;have yP:¬(x.op=23\/x.op=24)->k+1<q.bn.length:=λi=>by
   have l:=ax c;rcases aU (k+1) q.bn.length with h|h
   .exact h
   .have e:k=q.bn.length -1:=V;rw[e]at c;exact absurd (P.yP x c) i
  split at f
  .rename_i e;rw[ae V,ae V,ae V,ae V,ae V,ae V,ae V,ae V,ak e]at b;have:=yP V;simp at f;omega
  split at f
  .rename_i e;rw[ae V,ae V,ae V,ae V,ae V,ae V,ae V,ae V,ae V,ae V,ak e]at b;have:=b.2.2.2 n f;omega
  split at f
  .simp at f
  .rename_i e;have:=yP e;simp at f;omega
 .have:=(P.de k x c).dst;omega
 .have I:=P.de k x c;have b:=I.op;unfold kM at b;refine⟨?_,?_⟩
  .by_cases j:x.op=0
   .rw[ak j]at b;omega
   rw[ae j]at b;by_cases l:x.op=1\/x.op=2\/x.op=3\/x.op=4\/x.op=11
   .rw[ak l]at b;omega
   rw[ae l]at b;by_cases a2:x.op=5\/x.op=14\/x.op=15\/x.op=18\/x.op=23
   .rw[ak a2]at b;omega
   rw[ae a2]at b;by_cases a3:x.op=6
   .rw[ak a3]at b;have:=yG g.pB.types x.bK;omega
   rw[ae a3]at b;by_cases a4:x.op=9\/x.op=24
   .rw[ak a4]at b;obtain⟨i,_,h,e⟩:=b;have:=(g.pB.de i (aq h)).1;omega
   rw[ae a4]at b;by_cases m:x.op=10
   .rw[ak m]at b;obtain⟨⟨i,_,h,e⟩,_⟩:=b;have:=(g.pB.de i (aq h)).1;omega
   rw[ae m]at b;by_cases i:x.op=16\/x.op=17
   .rw[ak i]at b;omega
   rw[ae i]at b;by_cases o:x.op=19
   .rw[ak o]at b;omega
   rw[ae o]at b;by_cases p:x.op=20
   .rw[ak p]at b;omega
   rw[ae p]at b;by_cases r:x.op=22
   .rw[ak r]at b;omega
   rw[ae r]at b;by_cases h:x.op=21
   .rw[ak h]at b;have:=b.1;omega
   rw[ae h]at b;exact b.elim
  .rcases I.di with e|e
   .rw[ae V,ae V,ae V,ae V,ae V,ae V,ae V,ae V,ae V,ae V,ak e]at b;have:=b.2.2.1;have:=v x.bK;omega
   .omega
 .have b:=(P.de k x c).op;unfold kM at b;refine⟨λe=>?_,λe=>?_⟩;all_goals
   rw[ae V,ae V,ae V,ae V,ae V,ae V,ae V,ae V,ae V,ae V,ae V]at b
   exact b
end
end
section
variable{k:Nat}{a:be}
section
variable{c:E}{d p bB e g:O}{b:cp}{s:St}
def PL{c:List be}(d:c[k]? =some a)(h:c.length<=k+1):Aw b c k=dB a (jU b a):=by
 unfold Aw;rw[d,bT V];rfl
def PM{c:List be}{g:be}(d:c[k]? =some a)(e:c[k+1]? =some g):Aw b c k=dB a ((jU b a).filter λr=>!decide (r=g.dst)):=by
 unfold Aw;rw[d,e];rfl
def MS{b:cp}{q:cZ}(c:gF b a)(e:dm b a.dV=q):jU b a=Rn q.bn q.av.toNat a.pc.toNat:=by
 have:=c.lr;unfold jU Rn;rw[e]at this⊢;rw[show a.av.length=q.av.toNat by omega]
def GW{b:cp}:∀r∈jU b a,0<=r/\r<a.av.length:=λr c=>by
 obtain⟨k,d,rfl,_⟩:=mu.1 c;omega
def Vu{b:cp}{c:List be}(e:∀a∈c,a.av.length<=2000)(k:Nat):(Aw b c k).length<=2000:=by
 unfold Aw;cases d:c[k]? with
 |none=>simp
 |some a=>
  have f:=e a (aq d);have h:(jU b a).length<=a.av.length:=j8 _;cases c[k+1]? with
  |none=>simp;omega
  |some g=>have:=il (λr=>!decide (r=g.dst)) (jU b a);simp at this⊢;omega
def JG{b:cp}{c:List be}(d:∀a∈c,a.av.length<=2000):∀k,(Qy b c k).length<=k*2000
 |0=>by simp[Qy]
 |k+1=>by have:=JG (b:=b) d k;have:=Vu (b:=b) d k;rw[Qy,aT];omega
def Vv{b:cp}{c:List be}{w:Int}(h:w∈Aw b c k):∃a∈c,w∈a.av:=by
 unfold Aw at h;cases e:c[k]? with
 |none=>rw[e]at h;simp at h
 |some a=>
  rw[e]at h;refine⟨a,aq e,?_⟩;have:∃r∈jU b a,aO a.av r=w:=by
   cases f:c[k+1]? with
   |none=>rw[f]at h;simpa using h
   |some i=>rw[f]at h;obtain⟨r,d,g⟩:=List.mem_map.1 h;exact⟨r,(List.mem_filter.1 d).1,g⟩
  obtain⟨r,d,rfl⟩:=this;have:=GW r d;exact iL this.1 this.2
def NY{b:cp}{c:List be}{w:Int}:∀{k:Nat},w∈Qy b c k->∃a∈c,w∈a.av
 |0,h=>by simp[Qy]at h
 |k+1,h=>by rw[Qy,lE]at h;exact h.elim NY Vv
def Ll{r o e:O}(g:ap c r a.av){q:O}{l:List Int}(f:ap c q l)(b:∀y∈l,0<=y/\y<a.av.length)(h:l.length<=1000000):qW 54 [fv a r o e,O.v q] c (dB a l):=
 (nC g f b V).mono λ_ i⟨s,e,d,x⟩=>⟨s,e,ap.fP d (by simp[dB];omega),x⟩
def FG(aa:eX c d p b)(R:fO c bB e g s)(q:iT b s):qW 26 [.agg #[O.v d,O.v p],OC s bB e g] c (qG b s.aj):=by
 apply zQ;simp -zeta only[aE,aD];intro C j;let⟨x2,hl⟩:=dj (a:=C) (c:=j) rfl rfl;clear_value j;intro U;have o3:fZ j U ay 1 (.mk j.size 0 0 0) []:=fZ.new (J.aF j) ay 1 [] 0 aH;have x3:J j U:=J.push j _;clear_value U;have hd:s.aj.length<=41:=by have:=q.depth;have:=q.bL;have:=q.eD;omega
 have aJ:=R.aj.len;have ae:∀a∈s.aj,a.av.length<=2000:=λa o=>by
  have u:=(q.aj a o).lr;have v:=q.aj a o;let⟨r,hq⟩:=cg b.cv a.dV.toNat (by have:=v.dV;omega);have f:dm b a.dV=r:=by simp[dm,hq]
  have:=(q.eS.de r (aq hq)).av;rw[f]at u;omega
 have nl:=λk=>JG (b:=b) ae k;refine dx (n:=s.aj.length) V (λk r l=>J j l/\fZ j l ay 1 r ((Qy b s.aj k).map Ce.i)) ⟨x3,by simpa[Qy]using o3⟩ ?_;rintro k r w al μ hk ⟨I,X⟩ aB
 refine dit (λh1=>?_) λh1=>?_
 .let⟨a,o⟩:=cg s.aj k;have v:=q.aj a (aq o);let⟨pr,P⟩:=cg b.cv a.dV.toNat (by have:=v.dV;omega);have ep:dm b a.dV=pr:=by simp[dm,P]
  have ak:=XY q.eS P;have t:=x2.trans I;let⟨ah,ag,eh,hr,ho,he,g0,g1,g2,g3,g4,g5⟩:=R.aj.aO o;let⟨aF,h,am,ha,i,hc,c0,c1,c2,c3,c4⟩:=aa.cv.aO P;have aL:=aa.cv.len;have ek:Int.toNat (k:Int)=k:=V;rw[ek];refine⟨V,V,_,t.af g0,_,t.af g1,_,t.af g2,ah,t.af g3,ag,t.af g4,eh,t.af g5,?_⟩;intro m5 W;obtain⟨Z,B6,z6⟩:=iN (M:=w) (d:=m5) (c:=W) rfl rfl rfl;clear_value W;have L:=t.trans Z;have aw:=v.pc;rw[ep]at aw;have e1:a.pc=(a.pc.toNat:Int):=V;have ab:∀h∈[w.size,C.size,c.size],h<W.size:=λh i=>by
   rcases List.mem_cons.1 i with f|f
   .omega
   .exact(I.trans Z).lt (hl h f)
  have aM:=v.dV;refine⟨V,V,am,by simpa using L.af c4,?_⟩;rw[e1];refine(Hy (eu.ext L hc) ak (w:=a.pc.toNat) V).mono λ_ F⟨lb,aG,f,Bl,aI,sJ,z⟩=>⟨z.da ab,_,f,?_⟩;obtain⟨rs,ax,Q⟩:=sJ a.pc.toNat (ad _) V;rw[<-MS v ep]at Q;have X7:=L.trans z;have ac:∀h∈[w.size,C.size,c.size],h<F.size:=λh i=>z.lt (ab h i);refine⟨gl z V _,V,by simp only[O.dS];omega,rs,?_,?_⟩
  .simp -zeta only[O.fG,O.iY,bE,cO,ov];rw[Bl.cJ,ax];rfl
  have e2:cQ ((g.len:Int) -1)=(s.aj.length:Int) -1:=by rw[aQ V V];omega
  have e3:cQ ((k:Int)+1)=((k+1:Nat):Int):=by rw[aQ V V];omega
  rw[e2,e3,<-e1];have af:(jU b a).length<=2000:=bH (j8 _) (ae a (aq o));have aA:=nl k;have hO:∀(l:E)(Y:O)(B:List Int),J F l->ap l Y B->(∀y∈B,y∈jU b a)->B.length<=2000->Aw b s.aj k=dB a B->aN cq 54 [fv a ah ag eh,O.v Y] l λaC x=>eG [w.size,C.size,c.size] l x/\∃G:O,aC=O.v G/\
   jb x ay [.i (0:Int)] 8 r G λH D=>eG [w.size,C.size,c.size] x D/\(al H ((k+1:Nat):Int) D/\μ H ((k+1:Nat):Int) D<μ r k w):=λl Y B K ht av aK hw=>by
   have XM:=X7.trans K
   refine(Ll (hr.ext XM) ht (λy T=>GW y (av y T)) V).mono λ_ x⟨G,f,au,A⟩=>⟨A.da λh i=>K.lt (ac h i),G,f,?_⟩
   have aj:=((Z.trans z).trans K).trans A
   refine AL (X.ext aj) ((I.trans aj).fz []) au (by simp[dB];omega) λH D o9 f9 z9 k9 j9 _=>⟨λh i=>?_,?_⟩
   .rcases List.mem_cons.1 i with f|i
    .subst f
     refine j9 _ (by have:=((z.trans K).trans A).size;omega) λN f=>?_
     rcases X.lt with u|u
     .exact N u
     .omega
    .exact k9 h (hl h i)
   have nx:=aB V H D ⟨f9.ext,by rw[Qy,hw];exact o9⟩
   rw[aQ V V]at nx
   exact nx
  refine dit (λh2=>?_) λh2=>?_
  .let⟨N,hg⟩:=cg s.aj (k+1);let⟨r',o',e',_,_,_,_,_,ao,_,_,_⟩:=R.aj.aO hg;have an:Int.toNat ((k+1:Nat):Int)=k+1:=V;rw[an];refine⟨V,V,N.dst,X7.af ao,?_⟩;have az:=(sW (S:=[]) (d:=F) aH (Q.le (JF (J.aF _) aH)) N.dst V).YD (by have:=il (λy=>!decide (y=N.dst)) (jU b a);omega);refine az.mono λ_ x⟨ai,f,ar,A⟩=>⟨A.da ac,ai,f,?_⟩;exact hO x ai _ A ar (λy T=>(List.mem_filter.1 T).1) (bH (il _ _) af) (PM o hg)
  .exact hO F rs _ (J.aF _) Q (λ_ u=>u) af (PL o V)
 .have f:k=s.aj.length:=V;subst f;have aA:=nl s.aj.length;exact⟨r,rfl,ap.fP X (by show(Qy b s.aj s.aj.length).length<=_;omega),x2.trans I⟩
def TR(d:vJ s):∀w∈qG b s.aj,ug w:=λw e=>let⟨a,c,h⟩:=NY e;(d.aj a c).1 w h
def RX(c:iT b s):(qG b s.aj).length<=100000:=by
 have hd:s.aj.length<=41:=by have:=c.depth;have:=c.bL;have:=c.eD;omega
 have:=JG (b:=b) (c:=s.aj) (λa d=>by
  have h:=(c.aj a d).lr;have g:=c.aj a d;let⟨q,e⟩:=cg b.cv a.dV.toNat (by have:=g.dV;omega);have f:dm b a.dV=q:=by simp[dm,e]
  have:=(c.eS.de q (aq e)).av;rw[f]at h;omega) s.aj.length
 unfold qG;omega
open Classical in
def wV(N:eX c d p b)(v:fO c bB e g s)(z:vJ s):qW 14 [.agg #[O.v d,O.v p],OC s bB e g] c (Ql b s):=by
 apply Dg;simp -zeta only[aE,aD];intro A R;let⟨D,u⟩:=dj (a:=A) (c:=R) rfl rfl;have s1:A.size=c.size+1:=by simp[A]
 clear_value R;refine(DW (N.ext D) (v.ext D) z).aI (J.aF _) u λh m3 l q _=>⟨h,rfl,λj=>⟨.nil,rfl,?_,D.trans q⟩,λj=>?_⟩
 .rw[Ql,ae (nb l j)];exact⟨rfl,dE _,aH,aH⟩
 have C:=yb l j;have x:=D.trans q;have fu:=z.lh;have af:=v.heap.len;refine(FG (N.ext x) (v.ext x) C).mono λ_ m4⟨ac,o,ht,r⟩=>⟨r.da (λh l=>q.lt (u h l)),ac,o,gl r (q.lt (u _ aH)) _,?_⟩;have nl:=RX C;refine(Jo (v.heap.ext (x.trans r)) z.heap fu (λt i=>(C.heap.cell t i).fl) ht (TR z) V).mono λ_ m⟨ab,o,Z,K⟩=>⟨K.da (λh l=>(q.trans r).lt (u h l)),ab,o,?_⟩;have L:=(x.trans r).trans K;have Q:∀h∈[A.size,c.size],h<m.size:=λh l=>((q.trans r).trans K).lt (u h l);intro F;have o6:fZ m F ay 1 (.mk m.size 0 0 0) []:=fZ.new (J.aF m) ay 1 [] 0 aH;have x6:J m F:=J.push m _;clear_value F;rw[Ql,ak C];refine dx (n:=s.heap.length) V (λk H M=>J m M/\fZ m M ay 1 H ((jE (λi=>decide (ib s.heap i/\¬CP s.heap (qG b s.aj) i)) k).map Ce.i)) ⟨x6,by simpa[jE]using o6⟩ ?_;rintro k H m7 ad μ hk ⟨w,B⟩ G
 have pl:=j8 (f:=λi=>decide (ib s.heap i/\¬CP s.heap (qG b s.aj) i)) k;refine dit (λW=>?_) λW=>?_
 .let⟨t,E⟩:=cg s.heap k;let⟨a,hF,U,g1,g2⟩:=cT.aO (cT.ext (L.trans w) v.heap) E;have Y:¬0<t.aS->jE (λi=>decide (ib s.heap i/\¬CP s.heap (qG b s.aj) i)) (k+1)=jE (λi=>decide (ib s.heap i/\¬CP s.heap (qG b s.aj) i)) k:=λX=>by
   rw[jE,ae,dD];simp only[an];rintro⟨⟨c',M,e⟩,_⟩;rw[E]at M;cases M;exact X e
  refine⟨V,V,t.aS,by simpa using U,λi=>?_,λi=>?_⟩
  .simp only[gJ,an]at i;refine(dg (Z.ext w) k).aI w Q λh m8 l T I=>⟨h,rfl,λy=>?_,λy=>?_⟩;all_goals
    have P:h=true<->CP s.heap (qG b s.aj) k:=by
     rw[l,mu];constructor
     .rintro⟨S,_,o,j⟩;have:S=k:=V;subst this;simpa using j
     .exactλj=>⟨k,V,rfl,by simpa using j⟩
   .intro m9;refine ms (B.ext T) I V λq' ag aa S=>⟨J.Bc (I.aP _) S Q,G V _ _ ⟨S,?_⟩⟩;rw[jE,ak];exact aa;simp only[an];exact⟨⟨t,E,i⟩,λj=>by rw[P.2 j]at y;simp at y⟩
   .refine G V _ _ ⟨I,?_⟩
    rw[jE,ae,dD];exact B.ext T;simp only[an];exactλj=>j.2 (P.1 (by simpa using y))
  .simp only[gJ,br]at i;exact G V _ _ ⟨w,by rw[Y i];exact B⟩
 .have o:k=s.heap.length:=V;subst o;exact⟨H,rfl,ap.fP B V,L.trans w⟩
end
end
section
variable{f:Nat->Bool}{c:E}{b:Nat}
open Classical in
noncomputable def tB (p:Prop):Bool:=decide p
def Ol{p:Prop}:tB p=true<->p:=by unfold tB;simp
def V6{p:Prop}(h:¬p):tB p=false:=by unfold tB;simpa using h
def vG{p q:Prop}(h:p<->q):tB p=tB q:=by rw[lD,Ol,Ol];exact h
def Sb(f:Nat->Bool)(a:Nat)(v:Bool):Nat->Bool:=λx=>if x=a then v else f x
def kv{n:Nat}{g:Nat->Bool}(h:∀x,x<n->f x=g x):jS n f=jS n g:=by
 unfold jS;exact Zt λx a=>by rw[h x (by simpa using a)]
def Ta{n:Nat}(a:Nat)(v:Bool):iO (jS n f) a [.t v]=jS n (Sb f a v):=by
 apply eL;intro i;rw[kV];unfold jS Sb;simp only[aW,cD,dO,List.length_range,bR];rcases aU i n with h|h
 .rw[xu h];by_cases e:i=a
  .subst e;rw[ak ⟨ad _,V,h⟩];simp
  .rw[ae V];simp[e]
 .have e:(List.range n)[i]? =none:=bT (by simpa using h);rw[e,ae V];rfl
def NG{n:Nat}(B:cz c b fj (jS n f))(a:Nat)(v:Bool):cz (ai c b a [.t v]) b fj (jS n (Sb f a v)):=by
 have:=cz.ai (m:=c) (o:=a) (r:=[.t v]) B;rw[Ta]at this;exact this
def WT{o:Nat}{l:List Ce}:Fz [b] c (ai c b o l):=⟨by rw[aA];exact ad _,λ_ _ a=>bd _ _ _ _ (by simpa using a)⟩
section
variable{m:E}{S:List Nat}{x:Instr}{a j d:O}{bn:List Instr}{B:Nat}
def Qs(a:∀b∈S,b<m.size)(l:List Int)(c:l.length<=9223372036854775807):ap (bG S (m.push (.cells (bD (l.map Ce.i)) ay))) (.mk m.size 0 l.length l.length) l:=ap.N3 a (fZ.new (J.aF m) ay 1 (l.map Ce.i) l.length aH) c
def LX(p:∀b∈S,b<m.size)(r:ap (bG S m) j x.di){k:Nat}(t:k<=1000000):aN cq 86 [.agg #[vi x.op,vi x.dst,vi x.bK,vi x.bW,O.v a,O.v j],vi k] m λv l=>∃s,v=O.v s/\ap (bG S l) s (mr x k)/\J m l:=by
 apply vU;simp -zeta only[aE,aD];intro i;have f:J m i:=J.push m _;clear_value i;have h:∀b∈S,b<i.size:=λb q=>f.lt (p b q);have o:cQ ((k:Int)+1)=(k:Int)+1:=aQ V V;rw[o];unfold mr;refine⟨λc=>?_,λc=>⟨λd=>?_,λd=>⟨λe=>?_,λe=>⟨λg=>?_,λg=>?_⟩⟩⟩⟩
 .simp at c;intro n;rw[ak c];exact⟨_,rfl,Qs h [x.bK] aH,f.trans (J.push _ _)⟩
 .simp at c d;intro n;rw[ae c,ak d];exact⟨_,rfl,Qs h [(k:Int)+1,x.bK] aH,f.trans (J.push _ _)⟩
 .simp at c d e;rw[ae c,ae d,ak e];exact⟨_,rfl,r.le (f.cR _),f⟩
 .simp at c d e g;rw[ae c,ae d,ae e,ak g];exact⟨.nil,rfl,⟨rfl,dE _,aH,aH⟩,f⟩
 .simp at c d e g;intro n;rw[ae c,ae d,ae e,ae V];exact⟨_,rfl,Qs h [(k:Int)+1] aH,f.trans (J.push _ _)⟩
end
section
variable{h:E}{d p:O}{j:cp}{e:cZ}{a i:Nat}
def GN(ay:eX h d p j)(az:j.cv[a]? =some e)(aa:LH e.bn e.av.toNat)(hr:0<=e.av)(aX:i<e.bn.length):mQ 43 [.agg #[O.v d,O.v p],vi a,vi i] h (Rn e.bn e.av.toNat i):=by
 apply Ba;simp -zeta only[aE,aD];intro ag;have x1:J h ag:=J.push h _;have z1:ag.size=h.size+1:=by simp[ag]
 clear_value ag;have fu:=aa.fu;have a5:=ay.cv.len;have a4:=ax az;let⟨pa,pl,pc,ha,hb,P,c0,c1,c2,c3,c4⟩:=ay.cv.aO az;have en:Int.toNat (a:Int)=a:=V;rw[en];refine⟨V,V,pa,x1.af c0,pl,x1.af c1,_,x1.af c2,_,x1.af c3,pc,x1.af c4,?_⟩;intro aN G;obtain⟨x3,-,z3⟩:=iN (M:=ag) (d:=aN) (c:=G) rfl rfl rfl;clear_value G;have X3:=x1.trans x3;have aZ:=P.len;have el:Int.toNat (pc.len:Int)=e.bn.length:=V;rw[el];refine⟨V,V,V,V,?_⟩;intro m4;have B4:∃w,cz m4 G.size w (me [.s .nil] e.bn.length):=⟨_,cz.push G _ _⟩;have x4:J G m4:=J.push G _;have z4:m4.size=G.size+1:=by simp[m4]
 clear_value m4;have e0:cQ ((pc.len:Int) -1)=(e.bn.length:Int) -1:=by rw[aQ V V];omega
 rw[e0];generalize hB:e.av.toNat=B at aa fu;have eB:Int.toNat e.av=B:=hB;have aU:e.av=(B:Int):=V;generalize a0:e.bn=bn at*;generalize hL:G.size=L at*;refine AW (γ:=Nat) (λz q c=>q=(z:Int) -1/\i<=z/\z<=bn.length/\Fz [L] m4 c/\∃ac w,cz c L w ac/\ac.length=bn.length/\∀k,z<=k->k<bn.length->∃b,ac[k]? =some (.s (.mk b 0 B B))/\b≠L/\cz c b fj (jS B λl=>tB (Cm bn l k))) id bn.length
  ⟨rfl,V,ad _,Fz.aF _ _,_,_,B4.choose_spec,by simp[mF],λk D A=>V⟩ ?_
 rintro z q W av μ ⟨rfl,a1,a2,f5,ac,ce,B5,aL,sJ⟩ aB
 have z5:=f5.size;have E5:J G W:=⟨V,λb hb=>(f5.same b V bN).trans (x4.same b hb)⟩;have R:=X3.trans E5;refine dit (λD=>?_) λD=>?_
 .obtain⟨k,rfl⟩:∃k,z=k+1:=⟨z -1,V⟩;have ek:(((k+1:Nat):Int) -1)=(k:Int):=V;rw[ek]at aB⊢
  have aG:Int.toNat (k:Int)=k:=V;have aI:cQ ((k:Int) -1)=(k:Int) -1:=aQ V V;rw[aG,aI];let⟨x,T⟩:=cg bn k;have a3:=aa.len k x T;let⟨aF,jj,ha,aM,g0,g1,g2,g3,g4,g5⟩:=P.aO T;refine⟨V,V,_,R.af g0,_,R.af g1,_,R.af g2,_,R.af g3,aF,R.af g4,jj,R.af g5,?_⟩;intro m6 C;obtain⟨x7,-,z7⟩:=iN (M:=W) (d:=m6) (c:=C) rfl rfl rfl;clear_value C;refine⟨V,V,V,V,?_⟩;intro X;have R8:cz X C.size fj (jS B λ_=>false):=Ep C _;have x8:J C X:=J.push C _;have z8:X.size=C.size+1:=by simp[X]
  clear_value X;have aC:=x7.trans x8;have B8:=B5.ext aC;simp -zeta only[O.dS,O.fG,O.iY,bE,cO];refine⟨V,V,B8.fg V,?_⟩;intro Q;have B9:cz Q L ce (iO ac k [.s (.mk C.size 0 B B)]):=cz.ai (m:=X) (o:=k) (r:=[.s (.mk C.size 0 B B)]) B8;have f9:Fz [L] X Q:=WT;have aV:L<W.size:=B5.lt;have R9:cz Q C.size fj (jS B λ_=>false):=R8.congr (bd _ _ _ _ V);have z9:Q.size=X.size:=by simp[Q,aA]
  clear_value Q;have F9:Fz [L] W Q:=(aC.fz _).trans f9;have E9:J G Q:=⟨V,λb hb=>(F9.same b (by have:=E5.size;omega) bN).trans (E5.same b hb)⟩;have X9:=X3.trans E9;refine⟨λb hb=>f9.same b (by simp at hb;omega) (by simp at hb⊢;omega),?_⟩;generalize aY:C.size=b at*;have aJ:∀t∈[b],t<Q.size:=bN;refine(LX aJ (aM.le (JF X9 bN)) V).mono λ_ aj⟨aR,w,ht,I⟩=>⟨I.da bN,aR,w,?_⟩;have a7:=ht.len;have a8:=ht.fu;have a9:=I.size;have am:∀{c:E},Fz [b] aj c->(∀q,k<q->q<bn.length->∃u,af c L q=some (O.v (.mk u 0 B B))/\cz c u fj (jS B λl=>tB (Cm bn l q))/\u≠b)/\af c L k=some (O.v (.mk b 0 B B)):=λ{c} fM=>by
   have BM:cz c L ce (iO ac k [.s (.mk b 0 B B)]):=(B9.ext I).congr (fM.same L V bN);refine⟨λq A F=>?_,?_⟩
   .obtain⟨u,r1,Z,H⟩:=sJ q V F;refine⟨u,?_,?_,by have:=H.lt;omega⟩
    .rw[BM.cJ,kV,ae bN,r1];rfl
    .have ap:=H.lt;exact((H.congr (F9.same u ap (by simpa using Z))).ext I).congr (fM.same u V bN)
   .rw[BM.cJ,kV,ak ⟨ad _,aH,V⟩];simp[Ce.v]
  have da:∀{c M':E},Fz [b] aj c->Fz [b] c M'->eG [W.size,ag.size,h.size] c M':=λf f' t P=>f'.same t (by have:=f.size;simp at P;omega) (by simp at P⊢;omega);refine dZ (n:=(mr x k).length) V (λU c=>Fz [b] aj c/\cz c b fj (jS B λl=>tB (∃a∈(mr x k).take U,Cm bn l a.toNat))) ⟨Fz.aF _ _,by rw[kv (g:=λ_=>false) λy _=>V6 aH];exact R9.ext I⟩ ?_;rintro U au aS ν hj ⟨S,al⟩ aO;have aT:J h au:=⟨by have:=X9.size;have:=S.size;omega,λt P=>((S.same t V bN).trans (I.same t V)).trans (X9.same t P)⟩;refine dit (λA=>?_) λA=>?_
  .let⟨Y,ar⟩:=cg (mr x k) U;have aW:=aa.Xu k x T Y (aq ar);obtain⟨u,r1,Z,aK⟩:=(am S).1 Y.toNat V V;refine⟨V,V,Y,by simpa using(ht.le (S.cR aH)|>.le (bz _ _)).aO ar,V,V,_,by simpa using r1,?_⟩;refine dZ (n:=B) V (λq c=>Fz [b] au c/\cz c b fj (jS B λl=>tB (∃a∈(mr x k).take U,Cm bn l a.toNat)||(decide (l<q)&&tB (Cm bn l Y.toNat)))) ⟨Fz.aF _ _,by rw[kv (g:=λl=>tB (∃a∈(mr x k).take U,Cm bn l a.toNat)) λy _=>aH];exact al⟩ ?_;rintro q ah aw ξ hi ⟨ao,v⟩ aP;have ab:=S.trans ao;refine dit (λF=>?_) λF=>?_
   .simp only[O.dS]at F;have ei:Int.toNat (q:Int)=q:=V;have H:cz ah u fj (jS B λl=>tB (Cm bn l Y.toNat)):=Z.congr (ao.same u Z.lt (by simpa using aK));obtain⟨-,q1⟩:=am ab;simp -zeta only[O.dS,O.fG,O.iY,bE,cO];rw[ei];refine⟨V,V,_,tK H V,V,V,_,q1,V,V,_,q1,V,by simp only[O.dS];omega,_,by simpa using tK v (show q<B by omega),?_⟩;have oD:∀s:Bool,s=(tB (∃a∈(mr x k).take U,Cm bn q a.toNat)||tB (Cm bn q Y.toNat))->eG [W.size,ag.size,h.size] ah (ai ah b q [.t s])/\(aw (cQ ((q:Int)+1)) (ai ah b q [.t s])/\ξ (cQ ((q:Int)+1)) (ai ah b q [.t s])<ξ (q:Int) ah):=λs hv=>by
     refine⟨da ab WT,aP V _ ⟨ao.trans WT,?_⟩⟩;have:=NG v q s;rw[kv (g:=λl=>tB (∃a∈(mr x k).take U,Cm bn l a.toNat)||(decide (l<q+1)&&tB (Cm bn l Y.toNat)))]at this
     .exact this
     intro y _;unfold Sb;by_cases K:y=q
     .subst K;rw[ak rfl,hv];simp
     .rw[ae K];have w:decide (y<q)=decide (y<q+1):=by rw[decide_eq_decide];omega
      simp only[w]
    simp -zeta only[O.dS,O.fG,O.iY,bE,cO];refine⟨λN=>⟨V,V,v.fg (by rw[mg];omega),oD true ?_⟩,λN=>⟨V,V,v.fg (by rw[mg];omega),oD _ ?_⟩⟩
    .rw[N];rfl
    .rw[N];rfl
   .simp only[O.dS]at F;have ei:q=B:=V;subst ei;refine aO V _ ⟨ab,?_⟩;rw[kv (g:=λl=>tB (∃a∈(mr x k).take (U+1),Cm bn l a.toNat))]at v
    .exact v
    intro y hy;rw[lD,bC ar];simp only[cB,bI,an,Ol,lE,fN];constructor
    .rintro(⟨a,D,A⟩|⟨_,s⟩)
     .exact⟨a,Or.inl D,A⟩
     .exact⟨Y,Or.inr rfl,s⟩
    .rintro⟨a,D|D,A⟩
     .exact Or.inl ⟨a,D,A⟩
     .subst D;exact Or.inr ⟨hy,A⟩
  .rw[dk V]at al;refine⟨λc=>Fz [b] aj c/\cz c b fj (jS B λl=>tB ((∃a∈mr x k,Cm bn l a.toNat)/\¬(jD x.op/\x.dst=l))),?_,?_⟩
   .refine(qF x.op au (aa.eC k x T)).mono λ_ ah⟨sb,w,ao,Y⟩=>⟨Y.da (by have:=S.size;simp;omega),sb,w,λhy=>?_,λhn=>?_⟩
    .have hs:=ao.1 hy;have ab:=S.trans (Y.fz [b]);obtain⟨-,q1⟩:=am ab;have hd:=aa.dst k x T;have v:=al.ext Y;refine⟨V,V,_,q1,V,by simp only[O.dS];omega,?_⟩;simp -zeta only[O.fG,O.iY,bE,cO];refine⟨v.fg (by rw[mg];omega),da ab WT,ab.trans WT,?_⟩;have:=NG v x.dst.toNat false;rw[kv (g:=λl=>tB ((∃a∈mr x k,Cm bn l a.toNat)/\¬(jD x.op/\x.dst=l)))]at this
     .exact this
     intro y _;unfold Sb;by_cases K:y=x.dst.toNat
     .rw[ak K];symm;exact V6 λs=>s.2 ⟨hs,V⟩
     .rw[ae K];exact vG ⟨λs=>⟨s,λt=>K V⟩,λs=>s.1⟩
    .have hs:¬jD x.op:=fb ao hn;refine⟨S.trans (Y.fz _),?_⟩;have v:=al.ext Y;rw[kv (g:=λl=>tB ((∃a∈mr x k,Cm bn l a.toNat)/\¬(jD x.op/\x.dst=l)))]at v
     .exact v
     intro y _;exact vG ⟨λs=>⟨s,λt=>hs t.1⟩,λs=>s.1⟩
   .rintro ao ⟨ah,Y⟩;have hO:∀{c:E},Fz [b] aj c->cz c b fj (jS B λl=>tB (Cm bn l k))->av ((k:Int) -1) c/\μ ((k:Int) -1) c<μ (k:Int) W:=λ{c} fM RM=>by
     have zM:=fM.size;refine aB k _ _ ⟨rfl,V,V,⟨V,λt D A=>?_⟩,iO ac k [.s (.mk b 0 B B)],ce,(B9.ext I).congr (fM.same L V bN),by simp[lp,aL],λq F N=>?_⟩ (Nat.lt_succ_self k)
     .exact((fM.same t V bN).trans (I.same t V)).trans ((F9.same t V A).trans (f5.same t D A))
     .by_cases ei:q=k
      .subst ei;exact⟨b,by rw[kV,ak ⟨ad _,aH,V⟩];simp,V,RM⟩
      .obtain⟨u,r1,Z,H⟩:=sJ q V N;have ap:=H.lt;exact⟨u,by rw[kV,ae bN];exact r1,Z,((H.congr (F9.same u ap (by simpa using Z))).ext I).congr (fM.same u V bN)⟩
    have ap:(x.op=14\/x.op=15)->av ((k:Int) -1) ao/\μ ((k:Int) -1) ao<μ (k:Int) W:=λho=>by
     refine hO ah ?_;rw[kv (g:=λl=>tB (Cm bn l k))]at Y
     .exact Y
     intro y _;refine vG ?_;rw[Qw T];exact⟨λs=>Or.inr s,λs=>s.resolve_left λt=>t.2 ho⟩
    refine⟨λF=>⟨λN=>?_,λN=>ap (Or.inr (by simpa using N))⟩,λF=>ap (Or.inl (by simpa using F))⟩;have ho:¬(x.op=14\/x.op=15):=by simp at F N;omega
    have aW:=ha.len;refine dZ (n:=x.args.length) V (λq c=>Fz [b] aj c/\cz c b fj (jS B λl=>tB ((l:Int)∈x.args.take q\/(∃a∈mr x k,Cm bn l a.toNat)/\¬(jD x.op/\x.dst=l)))) ⟨ah,by rw[kv (g:=λl=>tB ((∃a∈mr x k,Cm bn l a.toNat)/\¬(jD x.op/\x.dst=l))) λy _=>vG aH];exact Y⟩ ?_;rintro q aK aw ξ hi ⟨u,v⟩ aP;have ar:J h aK:=⟨by have:=X9.size;have:=u.size;omega,λt P=>((u.same t V bN).trans (I.same t V)).trans (X9.same t P)⟩;refine dit (λh5=>?_) λh5=>?_
    .let⟨l,ab⟩:=cg x.args q;have a6:=aa.args k x T l (aq ab);obtain⟨-,q1⟩:=am u;refine⟨V,V,l,by simpa using(ha.ext ar).aO ab,V,V,_,q1,V,by simp only[O.dS];omega,?_⟩;simp -zeta only[O.fG,O.iY,bE,cO];refine⟨v.fg (by rw[mg];omega),da u WT,aP V _ ⟨u.trans WT,?_⟩⟩;have:=NG v l.toNat true;rw[kv (g:=λy=>tB ((y:Int)∈x.args.take (q+1)\/(∃a∈mr x k,Cm bn y a.toNat)/\¬(jD x.op/\x.dst=y)))]at this
     .exact this
     intro y _;unfold Sb;rw[bC ab];by_cases K:y=l.toNat
     .rw[ak K];symm;refine Ol.2 (Or.inl ?_);simp;right;omega
     .rw[ae K];refine vG ?_;simp only[lE,fN];constructor
      .exactλs=>s.imp Or.inl id
      .exactλs=>s.imp (λs=>s.resolve_right V) id
    .rw[dk V]at v;refine hO u ?_;rw[kv (g:=λl=>tB (Cm bn l k))]at v
     .exact v
     intro y _;refine vG ?_;rw[Qw T];exact or_congr ⟨λs=>⟨s,ho⟩,λs=>s.1⟩ CI
 .have:z=i:=V;subst this;obtain⟨b,r1,Z,H⟩:=sJ z (ad _) V;have t:Int.toNat (z:Int)=z:=V;rw[t];simp -zeta only[O.dS,O.fG,O.iY,bE,cO];refine⟨V,V,.mk b 0 B B,by rw[B5.cJ,r1];rfl,?_⟩;exact(pQ H V).mono λ_ m6⟨l,w,u,s⟩=>⟨s.da bN,l,w,l,rfl,u.cG R.size,R.trans s⟩
end
end
section
def _root_.Go.Vc.fZ.ne{j m:E}{e d k:Nat}{s:O}{l f:List Ce}{c:Nat}(h:fZ j m e k s l)(B:cz m c d f)(g:d≠e)(i:s≠.nil):c≠s.az:=λb=>by
 rcases h.aO with a|⟨n,o,tail,a,h2,h3,h4,h5⟩
 .exact i a
 .rw[a]at b;simp only[O.fG]at b;subst b;have:=B.symm.trans h3;injection this with this
  injection this with _ this
  exact g this
section
variable{m:E}{d p bB b c:O}{a:cp}{s:St}
def MN{P:Int->Bool}{l:List Int}{k:Nat}{x:Int}(h:l[k]? =some x):(l.take (k+1)).filter P=(l.take k).filter P++if P x=true then[x]else[]:=by
 rw[bC h,Oy];congr 1;cases h:P x<;>simp[h]
open Classical in
def Bb(af:eX m d p a)(R:fO m bB b c s)(aa:vJ s)(q:iT a s):qW 23 [.agg #[O.v d,O.v p],OC s bB b c] m (jE (λe=>decide (CP s.heap (qG a s.aj) e)) s.heap.length):=by
 apply vW;simp -zeta only[aE,aD];intro v D;let⟨x2,F⟩:=dj (a:=v) (c:=D) rfl rfl;have s1:v.size=m.size+1:=by simp[v]
 clear_value D;have an:=CQ q;have hd:s.aj.length<=41:=by have:=q.depth;have:=q.bL;have:=q.eD;omega
 have aC:=R.aj.len;have aG:=af.cv.len;have ag:∀f∈s.aj,f.av.length<=2000:=λf o=>by
  have l:=(q.aj f o).lr;have B:=q.aj f o;let⟨I,hq⟩:=cg a.cv f.dV.toNat (by have:=B.dV;omega);have g:dm a f.dV=I:=by simp[dm,hq]
  have:=(q.eS.de I (aq hq)).av;rw[g]at l;omega
 have nl:=λk=>JG (b:=a) ag k;refine dx (n:=s.aj.length) V (λk I e=>J D e/\fZ D e ay 1 I ((Qy a s.aj k).map Ce.i)) ⟨J.aF _,by simpa[Qy]using fZ.nil _ _ _ _⟩ ?_;rintro k I x aB μ hk ⟨E,o4⟩ aA
 have e2:cQ ((c.len:Int) -1)=(s.aj.length:Int) -1:=by rw[aQ V V];omega
 rw[e2];refine dit (λh1=>?_) λh1=>?_
 .let⟨f,o⟩:=cg s.aj k;have B:=q.aj f (aq o);let⟨pr,Q⟩:=cg a.cv f.dV.toNat (by have:=B.dV;omega);have ep:dm a f.dV=pr:=by simp[dm,Q]
  have CD:=XY q.eS Q;have aI:=(q.eS.de pr (aq Q)).av;have j:=x2.trans E;let⟨al,ai,eh,hr,ho,he,g0,g1,g2,g3,g4,g5⟩:=R.aj.aO o;have ek:Int.toNat (k:Int)=k:=V;have e3:cQ ((k:Int)+1)=((k+1:Nat):Int):=by rw[aQ V V];omega
  have ar:Int.toNat ((k+1:Nat):Int)=k+1:=V;rw[ek,e3,ar];refine⟨V,V,_,j.af g0,_,j.af g1,_,j.af g2,al,j.af g3,ai,j.af g4,eh,j.af g5,?_⟩;intro m5 W;obtain⟨Z,B6,z6⟩:=iN (M:=x) (d:=m5) (c:=W) rfl rfl rfl;clear_value W;have X6:=j.trans Z;have aw:=B.pc;have aJ:=B.dV;rw[ep]at aw;have e1:f.pc=(f.pc.toNat:Int):=V;have e4:f.dV=(f.dV.toNat:Int):=V;have av:∀r∈[x.size,v.size,m.size],r<W.size:=λr u=>by
   rcases List.mem_cons.1 u with g|g
   .omega
   .exact(E.trans Z).lt (F r g)
  rw[e1,e4];refine(GN (af.ext X6) Q CD V V).mono λ_ X⟨t,g,Y,x7⟩=>⟨x7.da av,t,g,?_⟩;rw[<-MS B ep]at Y;have aN:(jU a f).length<=2000:=bH (j8 _) (ag f (aq o));have S:ap X t (jU a f):=ap.fP Y V;have X7:=X6.trans x7;have aL:=S.len;have az:=nl k;obtain⟨P,hP,hw⟩:∃P:Int->Bool,(∀y,P y=match s.aj[k+1]? with|none=>true|some A=>!decide (y=A.dst))/\Aw a s.aj k=dB f ((jU a f).filter P):=by
   refine⟨λy=>match s.aj[k+1]? with|none=>true|some A=>!decide (y=A.dst),λy=>rfl,?_⟩;cases C:s.aj[k+1]? with
   |none=>
    rw[PL o (List.getElem?_eq_none_iff.1 C),List.filter_eq_self.2 λ_ _=>rfl]
   |some A=>rw[PM o C]
  have B7:=B6.ext x7;have am:=Z.trans x7;refine dx (n:=(jU a f).length) V (λi h e=>J D e/\X.size<=e.size/\ap e t (jU a f)/\cz e x.size eF [.i f.dV,.i f.pc,.i f.dst,.s al,.s ai,.s eh]/\(h=.nil\/h.az<x.size\/X.size<=h.az)/\fZ D e ay 1 h ((Qy a s.aj k++dB f (((jU a f).take i).filter P)).map Ce.i)) ⟨E.trans am,ad _,S,B7,o4.lt.imp id Or.inl,by simpa[dB]using o4.ext am⟩ ?_;rintro i h e ac ν hi ⟨L,z8,t8,K,n8,H⟩ ah;have X8:=x2.trans L;have ax:t=.nil\/W.size<=t.az/\t.az<X.size:=by
   rcases Y.az with l|l
   .exact Or.inl l
   .rcases Y.lt with w|w
    .exact Or.inl w
    .exact Or.inr ⟨l,w⟩
  refine dit (λh2=>?_) λh2=>?_
  .let⟨y,T⟩:=cg (jU a f) i;have U:=GW y (aq T);have aK:=hr.len;have aF:(dB f (((jU a f).take i).filter P)).length<=2000:=by
    have:=il P ((jU a f).take i);simp only[eJ]at this;simp only[dB,dO];omega
   have aj:P y=true->jb (e.push (.cells (bD [.i (aO f.av y)]) ay)) ay [.i (0:Int)] 8 h (.mk e.size 0 1 1) λab G=>eG [x.size,v.size,m.size] (e.push (.cells (bD [.i (aO f.av y)]) ay)) G/\(ac ab (cQ ((i:Int)+1)) G/\ν ab (cQ ((i:Int)+1)) G<ν h (i:Int) e):=λb=>by
    have z:J e (e.push (.cells (bD [.i (aO f.av y)]) ay)):=J.push _ _;refine AL (H.ext z) ((L.trans z).fz []) (MQ e (aO f.av y)) (by simp only[aT,aW,cD];omega) λab G o9 f9 z9 k9 j9 i9=>?_;have zp:(e.push (.cells (bD [.i (aO f.av y)]) ay)).size=e.size+1:=aH;have sm:eG [x.size,v.size,m.size] (e.push (.cells (bD [.i (aO f.av y)]) ay)) G:=λr u=>by
     rcases List.mem_cons.1 u with g|u
     .subst g;exact j9 _ ((K.ext z).lt) ((H.ext z).ne (K.ext z) bh)
     .exact k9 r (F r u)
    refine⟨sm,ah V _ _ ⟨f9.ext,V,?_,(K.ext z).congr (sm x.size aH),?_,?_⟩⟩
    .refine ap.iy (t8.ext z) ?_;rcases ax with l|l
     .rw[l];exact k9 0 (by have:=F v.size aH;omega)
     .refine j9 _ V λN u=>?_;rcases n8 with w|w|w
      .exact N w
      .have:=Z.size;omega
      .omega
    .rcases i9 with N|N|N
     .exact Or.inl N
     .rw[N];rcases n8 with w|w
      .subst w;exact Or.inr (Or.inl (by show 0<_;have:=F v.size aH;have:=E.size;omega))
      .exact Or.inr w
     .exact Or.inr (Or.inr V)
    .rw[MN T,ak b];simpa[dB]using o9
   have skip:P y=false->ac h (cQ ((i:Int)+1)) e/\ν h (cQ ((i:Int)+1)) e<ν h (i:Int) e:=λb=>ah V _ _ ⟨L,z8,t8,K,n8,by rw[MN T,ae (by simp[b]),dD];exact H⟩;have ey:Int.toNat y=y.toNat:=rfl;refine⟨V,V,y,by simpa using t8.aO T,λw=>?_,λw=>?_⟩
   .simp only[aM]at w;refine⟨V,V,aO f.av y,by simpa using(hr.ext X8).aO (pJ U.1 U.2),aj ?_⟩;rw[hP,bT V]
   .simp only[ao,ne_eq]at w;let⟨A,C⟩:=cg s.aj (k+1);let⟨r',o',e',_,_,_,_,_,au,_,_,_⟩:=R.aj.aO C;refine⟨V,V,A.dst,X8.af au,λN=>⟨V,V,aO f.av y,by simpa using(hr.ext X8).aO (pJ U.1 U.2),aj ?_⟩,λN=>skip ?_⟩
    .rw[hP,C];simpa using N
    .rw[hP,C];simpa using N
  .rw[dk V,<-hw]at H;have w:=aA V h e ⟨L,H⟩
   rw[e3]at w;exact w
 .have g:k=s.aj.length:=V;subst g;have az:=nl s.aj.length;have j:=x2.trans E;refine(wR (R.heap.ext j) aa.heap aa.lh an.heap (ap.fP o4 V) (λw hw=>let⟨f,o,l⟩:=NY hw;(aa.aj f o).1 w l) V).mono λ_ m5⟨t,g,S,e⟩=>⟨e.da λr u=>E.lt (F r u),t,g,t,rfl,S,j.trans e⟩
end
end
section
variable{B:Nat}
def Ve{i:cp}{p:cZ}{t:List Nat}{o:Nat}{x:Instr}(h:Uu i.bt t B o x)(g:Tg (p.bn.length -1) x)(A:0<p.bn.length)(C:x.dst<p.av)(y:x.op<=23)(n:∀(s r:Nat),t[s]? =some r->∃q,i.cv[s]? =some q/\q.params.length=r/\q.df=[]):kM i p o x:=by
 have a:=h.op;have z:=h.bW;have hd:=h.dst.1;unfold Sp at a;rcases mU x.op 12 with l|l
 .rw[ak l]at a;obtain⟨b,k,u,v⟩:=a;have j:x.op=0\/(x.op=1\/x.op=2\/x.op=3\/x.op=4\/x.op=11)\/x.op=5\/x.op=6\/x.op=9\/x.op=10:=V;unfold Ar at b;unfold kM;rcases j with e|e|e|e|e|e
  .rw[ak e]at b⊢;exact b
  .rw[ae V,ak e]at b⊢;exact b
  .rw[ae V,ae V,ak e]at b;rw[ae V,ae V,ak (Or.inl e)];exact b
  .rw[ae V,ae V,ae V,ak e]at b;rw[ae V,ae V,ae V,ak e];exact⟨b.1,b.2,V⟩
  .rw[ae V,ae V,ae V,ae V,ak e]at b;rw[ae V,ae V,ae V,ae V,ak (Or.inl e)];let⟨q,c,d,_⟩:=n _ _ b.2;exact⟨q,b.1,c,d⟩
  .rw[ae V,ae V,ae V,ae V,ae V,ak e]at b;rw[ae V,ae V,ae V,ae V,ae V,ak e];let⟨q,c,d,m⟩:=n _ _ b.2;exact⟨⟨q,b.1,c,d⟩,λw f=>by rw[c]at f;cases f;rw[m];rfl⟩
 .rw[ae V]at a;unfold kM;rw[ae V,ae V];by_cases e:x.op=14\/x.op=15\/x.op=18\/x.op=23
  .rw[ak e]at a;rw[ak (Or.inr e)];exact a
  rw[ae e]at a;rw[ae V,ae V,ae V,ae V];by_cases j:x.op=16\/x.op=17
  .rw[ak j]at a⊢;exact a
  rw[ae j]at a⊢;by_cases k:x.op=19
  .rw[ak k]at a⊢;exact a
  rw[ae k]at a⊢;by_cases b:x.op=20
  .rw[ak b]at a⊢;have:=g.1 (Or.inl b);exact⟨a.1,V⟩
  rw[ae b]at a⊢;by_cases f:x.op=22
  .rw[ak f]at a⊢;have:=g.1 (Or.inr f);exact⟨a.1,V⟩
  rw[ae f]at a⊢;obtain⟨v,c,d,m,w⟩:=a;rw[ak v];exact⟨c,d,V,λu h=>by have:=w u h;have:=g.2 u h;omega⟩
def TB{f:List bo}{t:List (cZ×Ex)}{i:List eP}{e:List cZ}{W:Nat}(l:GP f (t.map (·.1)))(U:i.length=t.length)(O:∀(k:Nat)(q:eP),i[k]? =some q->Zf t k q)(Y:e.length=i.length)(Z:B<=1000000)(hW:6*W<=1000000)(C:yw e)
 (w:∀(k:Nat)(p:cZ),e[k]? =some p->∃q,i[k]? =some q/\PX f (pc i) B q p/\p.bn.length<=6*W):qV 1000000 ⟨f,e⟩:=by
 have u:∀(k:Nat)(p:cZ),e[k]? =some p->∃y,(t.map (·.1))[k]? =some y/\p.params=y.params/\p.df=[]/\p.aR=y.aR:=λk p g=>by
  obtain⟨q,m,a,-⟩:=w k p g;obtain⟨S,b,c,d,N⟩:=O k q m;exact⟨S.1,by rw[bR,b];rfl,a.params.trans c,a.df.trans d,a.aR.trans N⟩
 have P:∀(n E:Nat),(pc i)[n]? =some E->∃q,e[n]? =some q/\q.params.length=E/\q.df=[]:=λn E z=>by
  have Q:=ax z;rw[KC]at Q;let⟨p,D⟩:=cg e n;obtain⟨q,m,a,-⟩:=w n p D;obtain⟨_,_,_,v,_⟩:=u n p D;rw[Iw m]at z;exact⟨p,D,by rw[a.params];exact lG z,v⟩
 refine⟨⟨pI l.ds,⟨C.gS,C.nA⟩,λp h=>?_,λp h=>?_⟩,λp h=>?_,dh _⟩
 .obtain⟨k,g⟩:=List.mem_iff_getElem?.1 h
  obtain⟨y,r,c,-,d⟩:=u k p g
  have j:=tH _ (l.de y (aq r))
  have hd:=na f l.ds
  refine⟨by rw[c];exact j.1,λs o=>?_,?_⟩
  .rw[c]at o;have:=j.2.1 s o;exact⟨this.1,by show s<=(f.length:Int);omega⟩
  .rw[d];exact⟨j.2.2.1,by show y.aR<=(f.length:Int);omega⟩
 .obtain⟨y,r,c,-,d⟩:=u 0 p h
  have:=l.first y r
  exact⟨by rw[c,this.1];rfl,by rw[d,this.2]⟩
 .obtain⟨k,g⟩:=List.mem_iff_getElem?.1 h
  obtain⟨q,m,a,hw⟩:=w k p g
  obtain⟨y,r,c,d,-⟩:=u k p g
  have L:=(C.de p h).gS
  let⟨G,K⟩:=cg p.bn (p.bn.length -1)
  have X:=a.yP G K
  obtain⟨⟨M,-⟩,-,T⟩:=a.bn _ G K
  have R:1<=p.av:=by
   have A:=M.ok.arg V;let⟨F,J⟩:=cg G.args 0;have:=T F (aq J);have:=M.args F (aq J);omega
  have I:=a.av
  rw[<-a.params]at I
  refine⟨by rw[d];intro k F h;simp at h,⟨I.1,R,V⟩,⟨L,V⟩,λk s x=>?_,λs x=>Or.inl (a.yP s x)⟩
  obtain⟨⟨b,o⟩,hd,j⟩:=a.bn k s x
  refine⟨λH h=>⟨(b.args H h).1,by have:=j H h;omega⟩,⟨b.dst.1,V⟩,b.U1,b.bW.imp id And.left,b.di.imp id λv=>by rw[v];rfl,Ve b o L hd ?_ P⟩
  have A:=b.op
  unfold Sp at A
  rcases mU s.op 24 with h|h
  .omega
  .rw[ae V,ae V,ae V,ae V,ae V,ae V]at A
   omega
end
section
section
variable{a:List Nat}{m:E}{b P:Nat}{c:O}
def xV(i:∀d∈a,d<m.size)(x:b∈a)(q:Rd b c P m)(hP:P+3000+4*(300+40*Cg 18)<=10^16):aN cq 21 [vp b 0] m λal z=>AR a al z/\Fz [b] m z/\Rd b c (P+3000+4*(300+40*Cg 18)) z:=by
 apply tE (b,0);simp -zeta only[aE,aD];have f:=q.lt;intro d K;have b2:BS [d.size,m.size] b c m P K:=BS.Zo (BS.ln (S:=a) q _).1 _;have s1:d.size=m.size+1:=by simp[d]
 clear_value K;refine(sO (b2.hS i) (by simp[x]) b2.s.r V).mono λ_ m3⟨R,ai,o,ap,e,hd,j,H,r3,F⟩=>⟨(b2.lw f λ_ h=>h).da F,R,ai,e,?_⟩;have b3:=b2.to F r3;refine(vB (b3.hS i) (hd.le (bz _ _)) (eN.le j (bz _ _) λ_ _=>XJ.mono.le (bz _ _)) H).mono λ_ m4⟨T,r4,rs,e,n4,⟨ae,aq,aj⟩,C⟩=>⟨(b3.lw f λ_ h=>h).da (C.fz _),T,r4,e,?_⟩;have b4:=b3.to (C.fz _) (b3.s.r.ext C);refine(zt (b4.hS i) (n4.le (bz _ _)) ae).mono λ_ m5⟨U,r5,av,e,n5,⟨ag,ar,ak⟩,D⟩=>⟨(b4.lw f λ_ h=>h).da (D.fz _),U,r5,e,?_⟩;have b5:=b4.to (D.fz _) (b4.s.r.ext D);refine(zA (b5.hS i) (n5.le (bz _ _)) ag (C:=418003) ⟨V,V⟩).mono λ_ k⟨n,u,v,e,X,Z,⟨pk,ac,px⟩,E⟩=>⟨(b5.lw f λ_ h=>h).da (E.fz _),n,u,e,?_⟩;have b6:=b5.to (E.fz _) (b5.s.r.ext E);have ah:qV 1000000 ⟨o,v⟩:=TB H.gp V (λg A t=>by
  obtain⟨G,w,p,r,s⟩:=ak g A t;obtain⟨I,y,l,a2,a3⟩:=aj g G w;exact⟨I,y,p.trans l,r.trans a2,s.trans a3⟩) ac bh bh pk px
 have t6:IT (bG ([d.size,m.size]++a) k) n u (o,v):=⟨X,Z⟩;intro m7 l;obtain⟨g,l8,-⟩:=b6.box (S:=a) (m1:=m7) (m2:=l) rfl rfl rfl;clear_value l;have A:=IT.mn _ _ _ _ _ l8 t6;have y:=g.fR;have I:Le (bG ([k.size,d.size,m.size]++a) l) (bG [b] l):=gN _ (by simp[x]);refine(vt (c:=⟨o,v⟩) g.s.r V (A.1.le I) (gK.le I A.2) ah).mono λ_ m9⟨au,ro,bB,j,w,s,e,N,hn,Y,L,r,r9,p⟩=>?_;have G:∀t,af m9 k.size t=af l k.size t:=λt=>kg p f (y _ aH) t;refine⟨(g.lw f λ_ h=>h).da p,_,_,_,_,bB,j,w,e,G _,G _,?_⟩;intro ad J;have t9:=IT.mn _ _ _ _ _ (BS.le (B:=[k.size,d.size,m.size]) x p) A;let⟨Q,aa⟩:=(g.to p r9).put (S:=a) q (by simp:m.size∈_) [.s n,.s u];let⟨h,ab⟩:=Q.put (S:=a) q (by simp:d.size∈_) [.i s.cW,.i s.value,.i s.bL,.i s.eD,.s bB,.s j,.s w];have M:=IT.mn _ _ _ _ _ ((aa.trans ab).trans (gN _ λ_=>dv _)) t9;have ha:=y m.size aH;have hb:=y d.size aH;have ao:=jF Y;refine⟨⟨n,u,⟨o,v⟩,bB,j,w,s,rfl,⟨M.1,M.2⟩,?_,L.Yn r bh,by have:=r.bB;omega,by have:=r.heap;omega⟩,h.s.f,h.s.r.mono V⟩;refine(N.old (M':=bG a J) (by rw[Pe];simp[J,ad,aA]) λO am an=>?_).IQ (L.jg r bh);rw[Pc λW=>by have:=i O W;have:=g.s.f.size;omega];exact(bd _ _ _ _ V).trans (bd _ _ _ _ V)
end
section
variable{m:E}
def wg{S:List Nat}(U:∀h∈S,h<m.size){bn:O}(z:Ei m bn):aN cq 5 [O.v bn] m λv N=>AR S v N/\J m N:=by
 apply sN;simp -zeta only[aE,aD];intro b c;let⟨d,l⟩:=dj (a:=b) (c:=c) rfl rfl;have s1:b.size=m.size+1:=by simp[b]
 clear_value c;refine(HG (z.ext d)).mono λ_ m3⟨bs,e,Q,u⟩=>⟨u.da l,(c.size,0),e,?_⟩;have hr:=Q.lt;have hm:=l m.size aH;have ac:=l b.size aH;have da:∀{M C:E},m3.size<=M.size->Fz [c.size] M C->eG [b.size,m.size] M C:=λhz f=>f.da λg k=>by have:=l g k;have:=u.size;simp only[fN];omega
 refine(bV Q bh 2).mono λ_ B⟨Z,e,i,j,R,x⟩=>⟨da (ad _) x,Z,e,?_⟩;have z4:=x.size;have hO:∀(v:Value)(a:E),AR ([b.size,m.size,c.size]++S) v a->Fz [c.size] B a->eG [b.size,m.size] B a/\∃s t:O,∃i j n o:Int,∃p q r:O,v=.tuple #[.agg #[O.v s,O.v t],.agg #[vi i,vi j,vi n,vi o,O.v p,O.v q,O.v r]]/\
  (AR S (.tuple #[.agg #[O.v s,O.v t],.agg #[vi i,vi j,vi n,vi o,O.v p,O.v q,O.v r]]) (ai (ai a m.size 0 [.s s,.s t]) b.size 0 [.i i,.i j,.i n,.i o,.s p,.s q,.s r])/\J m (ai (ai a m.size 0 [.s s,.s t]) b.size 0 [.i i,.i j,.i n,.i o,.s p,.s q,.s r])):=λv a⟨D,P,im,bB,L,F,ab,e,K,Y,X⟩ y=>by
  refine⟨da z4 y,D,P,_,_,_,_,bB,L,F,e,?_⟩
  have z5:=y.size
  have A:∀{aa l':List Ce},Le (bG ([b.size,m.size,c.size]++S) a) (bG S (ai (ai a m.size 0 aa) b.size 0 l')):=λg ae v z=>by
   let⟨G,H⟩:=dY.1 z;simp at G;refine dY.2 ⟨G.2.2.2,?_⟩;rw[aK ((bd _ _ _ _ V).trans (bd _ _ _ _ V))];exact H
  refine⟨⟨D,P,im,bB,L,F,ab,rfl,⟨K.bt.le A,gK.le A K.cv⟩,Y.le A,X⟩,?_⟩
  have f:Fz [c.size] c a:=((u.fz _).trans x).trans y
  have T:J m a:=⟨by have:=d.size;have:=u.size;omega,λg k=>(f.same g (d.lt k) (by have:=d.size;simp;omega)).trans (d.same g k)⟩
  exact(T.ai V _ _).ai V _ _
 have I:∀h∈[b.size,m.size,c.size]++S,h<B.size:=λh W=>by
  have H:=d.size;rcases List.mem_append.1 W with e|e
  .simp at e;omega
  .have:=U h e;omega
 refine⟨λ_=>?_,λ_=>?_⟩
 .exact(xV I aH R (by simp[Cg])).mono λv a⟨w,f,_⟩=>hO v a w f
 .exact(Fj I aH R (by simp[Cg])).mono λv a⟨w,f,_⟩=>hO v a w f
def Df{bn:O}(h:Ei m bn):aN cq 13 [O.v bn] m λv i=>AR [] v i/\J m i:=by
 apply we;simp -zeta only[aE,aD];intro a j;let⟨k,f⟩:=dj (a:=a) (c:=j) rfl rfl;have B:a.size=m.size+1:=by simp[a]
 clear_value j;refine(wg (S:=[a.size,m.size]) f (h.ext k)).mono λ_ u⟨⟨d,p,t,bB,g,c,x,n,e,s,r⟩,l⟩=>⟨l.da f,d,p,_,_,_,_,bB,g,c,n,?_⟩;intro z w;have b:Le (bG [a.size,m.size] u) (bG [] w):=λy A v h=>by
  let⟨o,q⟩:=dY.1 h;simp at o;refine dY.2 ⟨aH,?_⟩;rw[aK ((bd _ _ _ _ V).trans (bd _ _ _ _ V))];exact q
 exact⟨⟨d,p,t,bB,g,c,x,rfl,⟨e.bt.le b,gK.le b e.cv⟩,s.le b,r⟩,((k.trans l).ai (ad _) _ _).ai V _ _⟩
end
end
section
section
variable{m:E}{s a:O}{l:List Int}{h:List bS}
def NR(c:ap m s l)(e:Int):dz cq 11 [O.v s,vi e] m (e∈l):=by
 apply IP;have i:=c.len;refine dZ (n:=l.length) (i▸c.fu) (λk M=>J m M/\e∉l.take k) ⟨J.aF _,aH⟩ ?_;rintro k p I μ o ⟨x,b⟩ j
 refine dit (λg=>?_) λg=>?_
 .let⟨y,d⟩:=cg l k;refine⟨V,V,y,by simpa using(c.ext x).aO d,λa=>jr ?_ x,λa=>j V _ ⟨x,?_⟩⟩
  .simp at a;exact a▸aq d
  .simp at a;rw[bC d,lE];simp only[fN];exactλh=>h.elim b λf=>a f.symm
 .rw[cy V]at b;exact cr b x
end
section
variable{m:E}
end
end
section
section
open Tryz
variable{m:E}{R:Value->E->Prop}
def um(a:O):=cV m R ⟨[(10,[(6,.S),(8,.I)])],[],[(10,[74,73])]⟩ [a] func4
end
section
variable{m:E}{d p bB b c:O}{a:cp}{s:St}
open Classical in
def IM(P:eX m d p a)(v:fO m bB b c s)(C:vJ s):qW 10 [.agg #[O.v d,O.v p],OC s bB b c] m (Ql a s):=by
 apply CV;simp -zeta only[aE,aD];intro R S;let⟨x,u⟩:=dj (a:=R) (c:=S) rfl rfl;clear_value S;refine(nK (P.ext x) (v.ext x) C).aI (J.aF _) u λg m3 h o _=>⟨g,rfl,λi=>⟨.nil,rfl,?_,x.trans o⟩,λi=>?_⟩
 .rw[Ql,ae (nb h i)];exact⟨rfl,dE _,aH,aH⟩
 have X:=yb h i;have A:=x.trans o;have fu:=C.lh;have aj:=v.heap.len;refine(Bb (P.ext A) (v.ext A) C X).mono λ_ T⟨ag,j,ht,y⟩=>⟨y.da λg h=>o.lt (u g h),ag,j,?_⟩;have K:=A.trans y;have al:=j8 (f:=λe=>decide (CP s.heap (qG a s.aj) e)) s.heap.length;rw[Ql,ak X];refine dx (n:=s.heap.length) V (λk F l=>J T l/\fZ T l ay 1 F ((jE (λe=>decide (ib s.heap e/\¬CP s.heap (qG a s.aj) e)) k).map Ce.i)) ⟨J.aF _,by simpa[jE]using fZ.nil _ _ _ _⟩ ?_;rintro k F U ah μ hk ⟨G,o5⟩ E
 have pl:=j8 (f:=λe=>decide (ib s.heap e/\¬CP s.heap (qG a s.aj) e)) k;refine dit (λh1=>?_) λh1=>?_
 .let⟨L,B⟩:=cg s.heap k;let⟨ai,hF,g0,g1,g2⟩:=cT.aO (cT.ext (K.trans G) v.heap) B;have Z:Int.toNat (k:Int)=k:=V;rw[Z];refine⟨V,V,_,g0,_,g1,_,g2,?_⟩;intro m6 D;obtain⟨z,Y,z7⟩:=iN (M:=U) (d:=m6) (c:=D) rfl rfl rfl;clear_value D;have q:=G.trans z;have l7:∀g∈[U.size,R.size,m.size],g<D.size:=λg h=>by
   rcases List.mem_cons.1 h with j|j
   .omega
   .exact((o.trans y).trans q).lt (u g j)
  have ab:¬0<L.aS->jE (λe=>decide (ib s.heap e/\¬CP s.heap (qG a s.aj) e)) (k+1)=jE (λe=>decide (ib s.heap e/\¬CP s.heap (qG a s.aj) e)) k:=λhn=>by
   rw[jE,ae,dD];simp only[an];rintro⟨⟨c',N,b⟩,_⟩;rw[B]at N;cases N;exact hn b
  refine⟨λe=>?_,λe=>?_⟩
  .simp only[gJ,an]at e;refine(wc (ht.ext q) k).aI (J.aF _) l7 λg w h r _=>⟨g,rfl,λt=>?_,λt=>?_⟩;all_goals
    have Q:g=true<->CP s.heap (qG a s.aj) k:=by
     rw[h,mu];constructor
     .rintro⟨l,_,j,i⟩;have:l=k:=V;subst this;simpa using i
     .exactλi=>⟨k,V,rfl,by simpa using i⟩
   .intro l;have H:J w l:=J.push _ _;have i9:ap l (.mk w.size 0 1 1) [(k:Int)]:=MQ w k;have z9:l.size=w.size+1:=by simp[l]
    clear_value l;have W:=((o5.ext z).ext r).ext H;have I:=(Y.ext r).ext H;refine AL W (((q.trans r).trans H).fz []) i9 (by simp only[aW,cD];omega) λao am af aa aq ad ac _=>⟨λg h=>?_,E V _ _ ⟨aa.ext,?_⟩⟩
    .rcases List.mem_cons.1 h with j|h
     .subst j;exact ac _ I.lt (W.ne I bh)
     .exact ad g ((o.trans y).lt (u g h))
    .rw[jE,ak];exact af;simp only[an];exact⟨⟨L,B,e⟩,λi=>by rw[Q.2 i]at t;simp at t⟩
   .refine E V _ _ ⟨q.trans r,?_⟩
    rw[jE,ae,dD];exact(o5.ext z).ext r;simp only[an];exactλi=>i.2 (Q.1 (by simpa using t))
  .simp only[gJ,br]at e;exact E V _ _ ⟨q,by rw[ab e];exact o5.ext z⟩
 .have j:k=s.heap.length:=V;subst j;exact⟨F,rfl,ap.fP o5 V,K.trans G⟩
end
section
variable{m:E}{a b c:O}{d e:List Int}{h:List bS}
def Kr(c:ap m a d)(k:ap m b e)(o:∀x∈d,x∈e):dz cq 18 [O.v a,O.v b] m True:=by
 apply ET;have j:=c.len;refine dZ (n:=d.length) (j▸c.fu) (λ_ M=>J m M) (J.aF _) ?_;rintro p t I μ s x q
 refine⟨λi=>?_,λ_=>jr trivial x⟩;simp only[an]at i;let⟨y,g⟩:=cg d p;refine⟨V,V,y,by simpa using(c.ext x).aO g,(NR (k.ext x) y).then λh u l r=>⟨h,rfl,λf=>?_,λ_=>q V _ (x.trans r)⟩⟩;rw[l.2 (o y (aq g))]at f;simp at f
open Classical in
def yR(j:cT m c h)(z:h.length<=10000000):qW 17 [O.v c] m (jE (λa=>decide (ib h a)) h.length):=by
 apply ER;have x:=j.len;intro i;have o1:fZ m i ay 1 (.mk m.size 0 0 0) []:=fZ.new (J.aF m) ay 1 [] 0 aH;have t:J m i:=J.push m _;clear_value i;refine dx (n:=h.length) V (λk q M=>J m M/\fZ m M ay 1 q ((jE (λa=>decide (ib h a)) k).map Ce.i)) ⟨t,by simpa[jE]using o1⟩ ?_;rintro k q A I μ y ⟨d,o2⟩ o
 have D:=j8 (f:=λa=>decide (ib h a)) k;refine dit (λr=>?_) λr=>?_
 .let⟨e,g⟩:=cg h k;let⟨v,w,p,g1,g2⟩:=cT.aO (cT.ext d j) g;have l:ib h k<->0<e.aS:=⟨λ⟨s,b,c⟩=>by rw[g]at b;cases b;exact c,λh=>⟨e,g,h⟩⟩;refine⟨V,V,e.aS,by simpa using p,λb=>?_,λb=>?_⟩
  .simp only[gJ,an]at b;intro B;refine ms o2 d V λE C s u=>o V _ _ ⟨u,?_⟩
   rw[jE,ak (by simpa using l.2 b)];exact s
  .simp only[gJ,br]at b;refine o V _ _ ⟨d,?_⟩
   rw[jE,ae (by simpa usingλh=>b (l.1 h)),dD];exact o2
 .have e:k=h.length:=V;subst e;exact⟨q,rfl,ap.fP o2 V,d⟩
end
section
variable{m:E}
open Classical in
def xF{bn:O}(h:Ei m bn):aN cq 4 [O.v bn] m (LwR m):=by
 apply um;simp(config:={maxSteps:=1000000}) -zeta only[aE,aD];refine⟨λ_=>⟨rfl,J.aF _⟩,λ_=>?_⟩;refine(Df h).mono λ_ c⟨⟨aa,ac,g,bB,hp,fr,s,e,hi,hs,q,_⟩,x1⟩=>⟨aa,ac,_,_,_,_,bB,hp,fr,e,?_⟩;have v:eX c aa ac g:=⟨hi.bt.le (bz _ _),gK.le (bz _ _) hi.cv⟩;have f:=hs.le (bz _ _);intro j a2 a3 a4;have z1:j.size=c.size+1:=by simp[j]
 have W:J c a4:=(((J.push c _).trans (J.push j _)).ai (ad _) _ _).ai V _ _;have z4:a4.size=c.size+2:=by simp[a4,a3,a2,j,aA]
 clear_value a4;have hl:∀b∈[j.size,c.size],b<a4.size:=bN;refine(IM (v.ext W) (f.ext W) q).mono λ_ m5⟨A,e,P,X⟩=>⟨X.da hl,A,e,?_⟩;have d:=W.trans X;have p:∀b∈[j.size,c.size],b<m5.size:=λb a=>X.lt (hl b a);refine(wV (v.ext d) (f.ext d) q).mono λ_ m6⟨w,e,k,Y⟩=>⟨Y.da p,w,e,?_⟩;refine(oV (P.ext Y) k).aI Y p λb m7 a x7 u7=>⟨b,rfl,?_⟩;obtain rfl:=a.2 rfl;have X7:=d.trans u7;refine⟨sx,λ_=>?_⟩;refine(nK (v.ext X7) (f.ext X7) q).aI u7 p λaj l hc aL i=>⟨aj,rfl,λhn=>?_,λhy=>?_⟩;all_goals have N:=d.trans i
 .exact(wV (v.ext N) (f.ext N) q).mono λ_ t⟨w,e,k,o⟩=>⟨o.da (λb a=>i.lt (p b a)),w,e,(oV (P.ext (i.trans o)) k).aI (i.trans o) p λb u a x r=>⟨b,rfl,by rw[a.2 rfl],(x1.trans d).trans r⟩⟩
 have F:=yb hc hy;have ah:=CQ F;have ax:=f.heap.len;have fu:=q.lh;intro r;have ao:fZ l r ay 1 (.mk l.size 0 0 0) []:=fZ.new (J.aF l) ay 1 [] 0 aH;have T:J l r:=J.push _ _;have av:(O.mk l.size 0 0 0).az<r.size:=by simp[r]
 clear_value r;have G:=i.trans T;refine(EG (v.ext (d.trans G)) (f.ext (d.trans G)) q).mono λ_ E⟨u,e,Q,I⟩=>⟨I.da (λb a=>G.lt (p b a)),u,e,?_⟩;have aK:=G.trans I;have o:∀b∈[j.size,c.size],b<l.size:=λb a=>i.lt (p b a);have az:=Vg g s;have ht:ap E u (Pl g s):=ap.fP Q V;have al:u=.nil\/r.size<=u.az/\u.az<E.size:=by
  rcases Q.az with h|h
  .exact Or.inl h
  .rcases Q.lt with t|t
   .exact Or.inl t
   .exact Or.inr ⟨h,t⟩
 have ab:∀H∈Pl g s,0<=H/\H<s.heap.length:=λH x=>by
  rw[Pl,ak F]at x;obtain⟨D,C,rfl,_⟩:=mu.1 x;omega
 have aB:=ht.len;refine dx (n:=(Pl g s).length) V (λD A M=>ap M u (Pl g s)/\E.size<=M.size/\(A.az<r.size\/E.size<=A.az)/\J l M/\fZ l M ay 1 A ((((Pl g s).take D).map (1000+·)).map Ce.i)) ⟨ht,ad _,Or.inl av,T.trans I,by simpa using ao.ext I⟩ ?_;rintro D q1 z aw μ hk ⟨ae,aP,am,K,M⟩ an
 refine dit (λC=>?_) λC=>?_
 .let⟨y,B⟩:=cg (Pl g s) D;have ar:=ab y (aq B);have S:cQ (1000+y)=1000+y:=aQ V V;refine⟨V,V,y,by simpa using ae.aO B,?_⟩;rw[S];intro t;have L:J z t:=J.push _ _;have aF:t.size=z.size+1:=by simp[t]
  have Z:ap t (.mk z.size 0 1 1) [1000+y]:=MQ z _;clear_value t;refine AL (M.ext L) ((K.trans L).fz []) Z bN λaC au ai U aG R ag af=>⟨λb a=>R b (o b a),an V _ _ ⟨?_,V,?_,U.ext,by rw[bC B];simpa using ai⟩⟩
  .refine ap.iy (ae.ext L) ?_;rcases al with h|h
   .rw[h];exact R 0 (by have:=o c.size aH;omega)
   .exact ag _ V λ_ a=>V
  .rcases af with h|h|h
   .rw[h];exact Or.inl (by show 0<_;have:=o c.size aH;have:=T.size;omega)
   .rw[h];exact am
   .exact Or.inr V
 .rw[dk V]at M;have Z:=d.trans (i.trans K);have L:∀b∈[j.size,c.size],b<z.size:=λb a=>K.lt (o b a);refine(wR (f.heap.ext Z) q.heap fu ah.heap (ap.fP M bN) (λw k=>?_) bN).mono λ_ aC⟨w,e,k,B⟩=>⟨B.da L,w,e,?_⟩
  .obtain⟨y,t,rfl⟩:=List.mem_map.1 k;have:=ab y t;unfold ug;omega
  have er:jE (λt=>decide (CP s.heap ((Pl g s).map (1000+·)) t)) s.heap.length=jE (λt=>decide (ib s.heap t)) s.heap.length:=by
   congr 1;funext t;rw[lD,Az,Az];exact⟨λh=>h.lv,λh=>Pn F h⟩
  rw[er]at k;have ai:=Z.trans B;refine⟨gl B (L _ aH) _,?_⟩;refine(yR (f.heap.ext ai) fu).mono λ_ aF⟨S,e,y,U⟩=>⟨U.da (λb a=>B.lt (L b a)),S,e,?_⟩;have ar:=(K.trans B).trans U;refine(oV (k.ext U) y).aI ar o λb aG a aM R=>⟨b,rfl,λ_=>?_,λh=>by rw[a.2 rfl]at h;simp at h⟩;refine(yR (f.heap.ext (N.trans R)) fu).mono λ_ aI⟨S,e,y,ag⟩=>⟨ag.da (λb a=>R.lt (o b a)),S,e,?_⟩;have af:=R.trans ag;refine(Kr (P.ext (i.trans af)) y λH x=>?_).aI af o λb aJ a aO au=>⟨b,rfl,by rw[a.2 trivial],((x1.trans d).trans i).trans au⟩;rw[Ql,ak F]at x;obtain⟨t,C,rfl,h2⟩:=mu.1 x;exact mu.2 ⟨t,C,rfl,by rw[Az]at h2⊢;exact h2.1⟩
end
end
end Go.Proofs.YtdalfjkmdekijaaGreat
section
namespace Go.Vc
variable{t:TypeId}{a:Addr}
open Go.ChangeShapes Go.WideShapes Go.RowKit
section
variable{H:Type}{b:TypeId×Value->H}{P:Program}{w:World}
def SI(b:TypeId×Value->H)(P:Program)(w:World)(t:TypeId)(Q:List Ce->Prop):Prop:=
 ∀(n:Nat)(a:List Value)(x:DataW H×List MemPlace),DataW.trod b P w 0 (λ_=>true) true n t a=some x->∃c,a=c.map Ce.v/\Q c
def SI.mono{Q Q':List Ce->Prop}(h:SI b P w t Q)(f:∀a,Q a->Q' a):SI b P w t Q':=λn a x g=>
 let⟨c,d,e⟩:=h n a x g
 ⟨c,d,f _ e⟩
def RL{v:Value}(h:w.cell? a=some v):a.spot=none:=by
 unfold World.cell? at h;split at h
 .split at h
  .cases h
  .rename_i b;simpa using b
 .cases h
def RJ(h:a.spot=none)(i:Nat):a.add i=⟨a.block,a.off+i,none⟩:=by
 obtain⟨c,o,s⟩:=a;simp only at h;subst h;unfold Addr.add;by_cases b:i=0
 .subst b;simp
 .simp[b]
end
section
variable{H:Type}{b:TypeId×Value->H}{P:Program}
def CE(l:laidOutB P=true){W j:World}(k:Below W.heap.size W j):∀{f:List TypeId}{i:List Value}{g:List (DataW H)}{d:List MemPlace},
 (f.all λt=>P.readableRec t&&decide (t<P.types.size))=true->DataW.TrodAll b P W 0 (λ_=>true) true f i g d->(∀x∈d,x.block<W.heap.size)->∀e:Nat->Bool,(∀p∈d,e p.block=true)->
 DataW.TrodAll b P j 0 e true f i g d
 |[],_,_,_,_,h,_,_,_=>by
  obtain⟨rfl,rfl,rfl⟩:=trodAll_nil h;exact trodAll_mk0
 |t::f,_,_,_,c,h,m,e,n=>by
  obtain⟨v,i,s,g,p,r,rfl,rfl,rfl,o,q⟩:=trodAll_cons h;simp only[No,bI,an]at c;exact⟨p,r,WideElems.Trod_stays l c.1.1 c.1.2 o (λx a=>k.same (m x (by simp[a]))) (λx a=>n x (by simp[a])),CE l k (by simpa using c.2) q (λx a=>m x (by simp[a])) e (λx a=>n x (by simp[a])),rfl⟩
def Mc{f:Func}{s:ChangeSpec}{W g:World}{i:Array Value}{d:List (DataW H)}{o:List MemPlace}
 (J:laidOutB P=true)(L:(f.params.toList.all λt=>P.readableRec t&&decide (t<P.types.size))=true)(z:f.resultTypes=#[t])(v:P.underlying t=some .bool)(B:s.vars=[])
 (j:DataW.Whole b P f.params.toList s.vars false W i.toList d [] o)(F:(s.fn H (d++[])).args=d)(G:(s.fn H (d++[])).results=[.lit (.bool true)])(I:(s.fn H (d++[])).vars=[])
 (k:Below W.heap.size W g):s.post b P f false true false false W i (.bool true) g:=by
 have h:∀a∈o,a.block<W.heap.size:=λa l=>by simpa using j.lt a l
 have r:=j
 obtain⟨a,N,E,q,rfl,C,M⟩:=j
 rw[B]at q
 obtain⟨_,rfl⟩:=trodVars_none q
 simp only[dD]at h C r
 have u:∀c:Nat->Bool,(∀x∈a,c x.block=true)->DataW.TrodAll b P g 0 c true f.params.toList i.toList (s.fn H (d++[])).args a:=λc K=>by
  rw[F];exact CE J k L E h c K
 have A:∀c:Nat->Bool,DataW.TrodVars b P g c s.vars (s.fn H (d++[])).vars []:=λc=>by rw[B,I];rfl
 have y:∀(e:Nat)(c:Nat->Bool)(hd:Bool),DataW.TrodAll b P g e c hd f.resultTypes.toList ((Value.bool true).resultList f.resultTypes.size) (s.fn H (d++[])).results []:=λe c hd=>by
  rw[G,z];exact trodAll_cons_mk (shut_bool v _) trodAll_mk0
 refine⟨d,[],a,[],a,[],r,y _ _ _,u _ (λx m=>by simpa using h x m),A _,k.frame _,λ_=>?_⟩
 refine⟨ok_one z rfl (okWide_bool_mk v _),_,_,([]++a)++[],⟨[]++a,[],trodAll_append (u _ (λ_ _=>rfl)) (y _ _ _),A _,rfl,?_,λD=>by cases D⟩,?_⟩
 .intro e n l
  have w:MemPlace.cell e n∈a:=by simpa using l
  rw[k.frozen (p:=⟨e,n,none⟩) (h _ w)]
  exact C e n w
 .intro x m _
  simpa using m
end
end Go.Vc
end
section
namespace Go.Proofs.YtdalfjkmdekijaaGreat
open Go.Vc Go.ChangeShapes
def R1{H:Type}{x:TypeId×Value->H}{P:Program}{w:World}{t e r:Nat}{v:Value}{u:DataW H}{I:List MemPlace}(p:P.underlying t=some (.slice e))(B:P.underlying e=some (.int .u8))(A:P.cellsOf e=1)
 (E:Value.okWide P w .any r t v)(y:DataW.Trod x P w 0 (λ_=>true) true t v u I):∃s,v=O.v s/\Ei w.heap s:=by
 obtain⟨J,q,h,rfl⟩:=Go.WideShapes.okWide_slice p E
 obtain⟨L,C⟩:=y
 rcases open_ints p B A C with⟨b,_⟩|⟨d,N,K,g,b,_,D,M,G,_,l,F⟩
 .simp[Value.cells]at b
  obtain⟨rfl,rfl,rfl⟩:=b
  exact⟨.nil,rfl,ad _,λk a=>by simp at a⟩
 .simp[Value.cells]at b
  obtain⟨rfl,rfl,rfl⟩:=b
  simp only[LG]at G
  rcases iS h with i|i
  .subst i
   have:q=0:=V
   subst this
   obtain⟨c,o,s⟩:=d
   cases s with
   |none=>exact⟨.mk c o 0 0,rfl,ad _,λk a=>by simp at a⟩
   |some f=>exact⟨.CT c o f,rfl,ad _,λk a=>by simp at a⟩
  .have z:=l 0 V
   have n:d.spot=none:=by
    have:=RL z;simpa[Addr.add]using this
   obtain⟨c,o,s⟩:=d
   simp only at n
   subst n
   refine⟨.mk c o q h,rfl,D,λk a=>?_⟩
   simp only[O.dS]at a
   have m:k<g.length:=V
   have j:=l k m
   have f:=F (g.getD k 0) (by rw[jk,List.getElem?_eq_getElem m];simp)
   rw[Lit.wf,bI,an,an]at f
   refine⟨g.getD k 0,f.1,f.2,?_⟩
   .rw[RJ rfl,yD]at j
    simpa using j
end Go.Proofs.YtdalfjkmdekijaaGreat
end
