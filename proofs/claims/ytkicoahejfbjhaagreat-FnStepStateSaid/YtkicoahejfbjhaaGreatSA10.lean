/- Part of a proof. -/
import Derived.Test.YtkicoahejfbjhaaGreatSA07
import Derived.Test.YtkicoahejfbjhaaGreatSA09
set_option linter.all false
set_option maxHeartbeats 8000000
set_option maxRecDepth 100000
namespace Go.Proofs.YtkicoahejfbjhaaGreat
open Go.Vc
section
variable{k:Nat}{m:E}
def lP{b:List bz}{d:bz}:Hk b k d<->((zm b.length d.sS/\zm b.length d.to/\d.cons.length<=3/\(0<d.cons.length->d.sS=0/\d.to=0))/\
 (∀h∈d.cons,h.length<=3/\Fe b.length h)/\∀e∈b.take k,¬(d.cons.length=0/\e.cons.length=0/\e.sS=d.sS/\e.to=d.to)):=by
 constructor
 .intro l
  rcases jX d.cons.length with a|a
  .let⟨c,f,g⟩:=l.RH a
   refine⟨⟨f,g,V,λl=>V⟩,λh m=>?_,λe i j=>c e i j.2⟩
   rw[List.length_eq_zero_iff.1 a]at m;cases m
  .let⟨c,f,g,h⟩:=l.iV a
   exact⟨⟨by unfold zm;omega,by unfold zm;omega,c,λ_=>⟨f,g⟩⟩,h,λe i j=>V⟩
 .rintro⟨⟨c,f,g,h⟩,l,m⟩
  exact⟨λa=>⟨g,(h a).1,(h a).2,l⟩,λa=>⟨λe i j=>m e i ⟨a,j⟩,c,f⟩⟩
def DO{bo:O}{c:List bz}(hd:cw m bo c):dt cg 194 [O.v bo] m (dT c):=by
 apply yp;simp -zeta only[aC,aB];have v:=hd.len;have ao:=hd.cap;refine dit (λaa=>?_) λaa=>?_
 .exact bV (λa=>oh a.len) (J.az _)
 refine dU (n:=c.length) V (λk f=>J m f/\∀(j:Nat)(d:bz),j<k->c[j]? =some d->Hk c j d) ⟨J.az _,aL⟩ ?_;rintro j w al μ hj ⟨H,S⟩ ak
 refine dit (λh1=>?_) λh1=>?_
 .let⟨d,D⟩:=cG c j;let⟨A,F,g0,g1,g2⟩:=(cw.ext H hd).aF D;have ar:=F.len;refine⟨V,V,_,g0,_,g1,A,g2,?_⟩;intro m2 q;have I:J w q:=((J.az w).aK _).ah (ad _) _ _;have G:∀r∈[w.size],r<q.size:=by simp[q,m2,aw]
  clear_value q;have K:=H.trans I;have i:∀{f:E},J q f->¬Hk c j d->∃M:Bool,vb false=.bool M/\(M=true<->dT c)/\J m f:=λag af=>bV (λa=>af (a.dz j d D)) (K.trans ag);refine⟨λf=>J q f/\zm c.length d.sS/\zm c.length d.to/\d.cons.length<=3/\(0<d.cons.length->d.sS=0/\d.to=0),?_,?_⟩
  .refine(pB _ _ _).aH (J.az _) G λr m4 g N s=>⟨_,rfl,λe=>i s λa=>nb g e (v▸(lP.1 a).1.1),λe=>?_⟩;have p:=yb g e;refine(pB _ _ _).aH s G λr u g t b=>⟨_,rfl,λh=>i b λa=>nb g h (v▸(lP.1 a).1.2.1),λh=>?_⟩;have x:=yb g h;rw[v]at p x;refine dit (λy=>?_) λy=>?_
   .exact i b λa=>by have:=(lP.1 a).1.2.2.1;omega
   refine dit (λz=>?_) λz=>?_
   .refine⟨λl=>?_,λl=>?_⟩
    .simp only[vr]at l;exact i b λa=>l ((lP.1 a).1.2.2.2 V).1
    simp only[iJ]at l;refine⟨λo=>?_,λo=>?_⟩
    .simp only[vr]at o;exact i b λa=>o ((lP.1 a).1.2.2.2 V).2
    simp only[iJ]at o;exact⟨b,p,x,V,λ_=>⟨l,o⟩⟩
   .exact⟨b,p,x,V,λl=>V⟩
  .rintro m4 ⟨W,ae⟩;have ap:=oX.ext (I.trans W) F;refine dU (n:=d.cons.length) V (λk f=>J q f/\∀A∈d.cons.take k,A.length<=3/\Fe c.length A) ⟨W,aL⟩ ?_;rintro L u I2 μ2 hi ⟨l,T⟩ ah;refine dit (λN=>?_) λN=>?_
   .let⟨B,o⟩:=cG d.cons L;let⟨P,C,Q⟩:=(oX.ext (I.trans l) F).aF o;have U:=C.len;refine⟨V,V,P,Q,?_⟩;intro x y;have p:J u y:=((J.az u).aK _).ah (ad _) _ _;have R:∀r∈[u.size,w.size],r<y.size:=by
     have:=l.lt (G w.size aL);simp[y,x,aw];omega
    clear_value y;refine dit (λs=>?_) λs=>?_
    .exact i (l.trans p) λa=>by have:=((lP.1 a).2.1 B (aq o)).1;omega
    exact(vF (C.ext p) _).aH (J.az _) R λr z g e t=>⟨_,rfl,λb=>i ((l.trans p).trans e) λa=>nb g b (v▸((lP.1 a).2.1 B (aq o)).2),λb=>ah V _ ⟨(l.trans p).trans e,bB o T ⟨V,v▸yb g b⟩⟩⟩
   .have ab:=db V T;refine⟨V,V,V,?_⟩;have P:cw u (bo.cut 0 j 3) (c.take j):=eS.Tl (cw.ext (K.trans l) hd) V;have am:(bo.cut 0 j 3).len=j:=by rw[P.len];simp;omega
    simp -zeta only[tR,Int.toNat_zero];refine dU (n:=j) V (λk f=>J u f/\∀g∈c.take k,¬(d.cons.length=0/\g.cons.length=0/\g.sS=d.sS/\g.to=d.to)) ⟨J.az _,aL⟩ ?_;rintro p x Y μ3 ax ⟨C,U⟩ ai;refine dit (λs=>?_) λs=>?_
    .let⟨g,Q⟩:=cG c p;have R:(c.take j)[p]? =some g:=by rw[lE,an V];exact Q
     let⟨Z,ac,q0,q1,q2⟩:=(cw.ext C P).aF R;have au:=ac.len;refine⟨V,V,_,q0,_,q1,Z,q2,?_⟩;intro y z;have X:J x z:=((J.az x).aK _).ah (ad _) _ _;clear_value z;have B:¬(d.cons.length=0/\g.cons.length=0/\g.sS=d.sS/\g.to=d.to)->Y (cT ((p:Int)+1)) z/\μ3 (cT ((p:Int)+1)) z<μ3 p x:=λo=>ai V _ ⟨C.trans X,bB Q U o⟩;refine⟨λe=>?_,λe=>?_⟩
     .simp only[aG]at e;refine⟨λt=>?_,λt=>?_⟩
      .simp only[aG]at t;refine⟨λb=>?_,λb=>?_⟩
       .simp only[aG]at b;refine⟨λh=>?_,λh=>?_⟩
        .simp only[aG]at h;exact i ((l.trans C).trans X) λa=>(lP.1 a).2.2 g (aq R) ⟨V,V,b,h⟩
        .simp only[aj]at h;exact B λo=>h o.2.2.2
       .simp only[aj]at b;exact B λo=>b o.2.2.1
      .simp only[aj]at t;exact B λo=>t V
     .simp only[aj]at e;exact B λo=>e V
    .have:p=j:=V;subst this;refine ak V _ ⟨(K.trans l).trans C,λb e h a=>?_⟩
     by_cases g:b=p
     .subst g;rw[D]at a;simp at a;subst a;exact lP.2 ⟨ae,ab,U⟩
     .exact S b e V a
 .exact iN ⟨V,λL d bG=>S L d (oh (av bG)) bG⟩ H
def Ob(m:E)(b:List Ce)(p:dy):Prop:=∃a l,b=[.s a,.s l,.i p.aS]/\ap m a p.params/\ap m l p.cR
def Ob.ext{m d:E}(b:J m d)(a:List Ce)(c:dy):Ob m a c->Ob d a c:=λ⟨f,g,e,h,i⟩=>⟨f,g,e,h.ext b,i.ext b⟩
abbrev pt(m:E)(s:O)(l:List dy):Prop:=eS m 3 (Ob m) s l
def pt.ext{m b:E}(a:J m b){s:O}{l:List dy}(h:pt m s l):pt b s l:=h.mono a (Ob.ext a)
def pt.aF{s:O}{l:List dy}(h:pt m s l){x:dy}(f:l[k]? =some x):
 ∃a b,ap m a x.params/\ap m b x.cR/\af m s.D (s.off+k*3)=some (O.v a)/\af m s.D (s.off+k*3+1)=some (O.v b)/\af m s.D (s.off+k*3+2)=some (vi x.aS):=by
 obtain⟨g,⟨a,b,rfl,d,e⟩,c⟩:=h.iA k x f
 exact⟨a,b,d,e,c 0 (.s a) rfl,c 1 (.s b) rfl,c 2 (.i x.aS) rfl⟩
def FQ{Y Z:O}{q:List bz}{c:List dy}(hd:cw m Y q)(P:pt m Z c):
 dt cg 149 [O.v Y,O.v Z] m (Kp q c/\∀p∈c,DI p.params p.cR):=by
 apply zR
 simp -zeta only[aC,aB]
 have N:=hd.len
 have aA:=P.len
 refine(DO hd).then λu m1 e f=>⟨_,rfl,λG=>bV (λa=>nb e G a.1.types) f,λG=>?_⟩
 have ht:=yb e G
 refine dit (λh2=>?_) λh2=>?_
 .exact bV (λa=>oh a.1.len) f
 refine dit (λh3=>?_) λh3=>?_
 .exact bV (λa=>oh a.1.len) f
 let⟨p0,A⟩:=cG c 0
 let⟨a0,l0,al,aD,g0,g1,g2⟩:=(pt.ext f P).aF A
 have ay:=al.len
 refine⟨V,V,a0,g0,dit (λh4=>?_) λh4=>?_⟩
 .exact bV (λa=>oh ((a.1.first p0 A).1)) f
 refine⟨V,V,_,g2,λs=>?_,λs=>?_⟩
 .simp only[vr]at s
  exact bV (λa=>s (a.1.first p0 A).2) f
 simp only[iJ]at s
 refine dU (n:=c.length) V (λj U=>J m U/\∀p∈c.take j,(p.params.length<=3/\Fe q.length p.params/\zm q.length p.aS)/\DI p.params p.cR) ⟨f,aL⟩ ?_
 rintro j C au μ hj ⟨l,hn⟩ ap
 refine dit (λh6=>?_) λh6=>?_
 .let⟨p,i⟩:=cG c j
  let⟨ah,ao,M,z,q0,q1,q2⟩:=(pt.ext l P).aF i
  have az:=M.len
  have aF:=z.len
  have aE:=z.gS
  refine⟨V,V,ah,q0,ao,q1,_,q2,?_⟩
  intro m3 D
  have o:J C D:=((J.az C).aK _).ah (ad _) _ _
  have aa:∀u∈[C.size],u<D.size:=by simp[D,m3,aw]
  clear_value D
  refine dit (λh7=>?_) λh7=>?_
  .exact bV (λa=>oh ((a.1.dz p (aq i)).1)) (l.trans o)
  refine(vF (M.ext o) _).aH (J.az _) aa λu m5 e h8 h9=>⟨_,rfl,λH=>bV (λa=>nb e H (N▸(a.1.dz p (aq i)).2.1)) ((l.trans o).trans h8),λH=>?_⟩
  have ac:=yb e H
  refine(pB _ _ _).aH h9 aa λu W e ax I=>⟨_,rfl,λK=>bV (λa=>nb e K (N▸(a.1.dz p (aq i)).2.2)) ((l.trans o).trans I),λK=>?_⟩
  have ab:=yb e K
  rw[N]at ac ab
  have ae:J m W:=(l.trans o).trans I
  have S:J C W:=o.trans I
  refine dU (n:=p.cR.length) V (λk U=>U=W/\∀(j:Nat)(v:Int),j<k->p.cR[j]? =some v->(∃t,0<=v/\p.params[v.toNat]? =some t/\t≠0)/\(∀E:Int,0<j->p.cR[j -1]? =some E->E<v)) ⟨rfl,aL⟩ ?_
  rintro k m7 I2 μ2 hk ⟨rfl,Q⟩ af
  have w:¬DI p.params p.cR->∃X:Bool,vb false=.bool X/\(X=true<->Kp q c/\∀p∈c,DI p.params p.cR)/\J m m7:=λan=>bV (λa=>an (a.2 p (aq i))) ae
  refine dit (λai=>?_) λai=>?_
  .let⟨x,g⟩:=cG p.cR k
   refine⟨V,V,x,by simpa using S.af (z.aF g),dit (λak=>?_) λak=>?_⟩
   .exact w λa=>by obtain⟨⟨t,y,_⟩,_⟩:=a k x g;omega
   refine⟨λy=>?_,λy=>?_⟩
   .simp only[nY,ar]at y
    refine w λa=>?_
    obtain⟨⟨t,_,d,_⟩,_⟩:=a k x g
    have:=av d;omega
   simp only[nY,bL]at y
   let⟨t,B⟩:=cG p.params x.toNat
   refine⟨V,V,t,by simpa using S.af (M.aF B),λd=>?_,λd=>?_⟩
   .simp only[aG]at d
    refine w λa=>?_
    obtain⟨⟨b,_,r,L⟩,_⟩:=a k x g
    rw[B]at r;simp at r;exact L (r▸d)
   simp only[aj]at d
   refine dit (λr=>?_) λr=>?_
   .have e2:cT ((k:Int) -1)=((k -1:Nat):Int):=by rw[aQ V V];omega
    let⟨ag,T⟩:=cG p.cR (k -1)
    rw[e2]
    refine⟨V,V,ag,by simpa using S.af (z.aF T),dit (λL=>?_) λL=>?_⟩
    .exact w λa=>by have:=(a k x g).2 ag V T;omega
    .refine af V _ ⟨rfl,λh v am b=>?_⟩
     by_cases F:h=k
     .subst F
      rw[g]at b;simp at b;subst b
      refine⟨⟨t,V,B,d⟩,λE _ R=>?_⟩
      rw[T]at R;simp at R;subst R;omega
     .exact Q h v V b
   .refine af V _ ⟨rfl,λh v am b=>?_⟩
    by_cases F:h=k
    .subst F
     rw[g]at b;simp at b;subst b
     exact⟨⟨t,V,B,d⟩,λE L _=>V⟩
    .exact Q h v V b
  .exact ap V _ ⟨ae,bB i hn ⟨⟨V,ac,ab⟩,λh v b=>Q h v (oh (av b)) b⟩⟩
 .have b:=db V hn
  refine iN ⟨⟨ht,V,λp a=>(b p a).1,λp a=>?_⟩,λp a=>(b p a).2⟩ l
  rw[A]at a;simp at a;subst a
  exact⟨V,s⟩
end
section
variable{c:E}{d f a j:O}{b:cN}{i:Instr}
def FK{H:O}(D:fw c d H b):
 aN cg 76 [.agg #[O.v d,O.v H]] c λan t=>∃T f e,an=.tuple #[.agg #[O.v T,O.v f],vb e]/\(e=true<->Kp b.bo b.cF/\∀H∈b.cF,DI H.params H.cR)/\
  (e=true->T=d/\pt t f b.cF)/\J c t:=by
 apply zQ
 simp -zeta only[aC,aB]
 intro G h
 have aq:=D.cF.len
 have s1:G.size=c.size+1:=by simp[G]
 have s2:h.size=c.size+2:=by simp[h,G]
 have ab:J c h:=((J.az c).aK _).aK _
 refine dit (λh1=>?_) λh1=>?_
 .intro g
  exact⟨_,_,_,rfl,⟨sx,λD=>oh D.1.len⟩,sx,ab.ah V _ _⟩
 intro m4 C
 have s5:C.size=c.size+3:=by simp[C,m4,aw,s2]
 have al:J c C:=(ab.aK _).ah V _ _
 have ah:cE C h.size lX [.s d,.s .nil]:=cE.ah (m:=m4) (o:=0) (r:=[.s d,.s .nil]) (cE.push h _ _)
 clear_value C
 refine dU (n:=b.cF.length) V (λM t=>J c t/\C.size<=t.size/\∃g w,cE t h.size lX [.s d,.s g]/\gV c t pS 3 g w.flatten/\gP 3 (Ob c) w (b.cF.take M)/\(g≠.nil->h.size<g.D)/\g.len=M)
  ⟨al,ad _,.nil,[],ah,gV.nil _ _ _ _,by simpa using gP.nil 3 (Ob c),aL,rfl⟩ ?_
 rintro M i ao μ hk ⟨l,ar,g,w,s,K,L,Q,aa⟩ am
 refine dit (λh2=>?_) λh2=>?_
 .let⟨N,Y⟩:=cG b.cF M
  let⟨a,e,ac,ha,p,y,g0,g1,g2,g3,g4⟩:=D.cF.aF Y
  refine⟨V,V,a,by simpa using l.af g0,e,by simpa using l.af g1,_,by simpa using l.af g2,_,by simpa using l.af g3,ac,by simpa using l.af g4,?_⟩
  intro S j
  have F:J i j:=((J.az i).aK _).ah (ad _) _ _
  have s8:j.size=i.size+1:=by simp[j,S,aw]
  clear_value j
  refine⟨g,(s.ext F).bZ 1,?_⟩
  intro u
  have R:J i u:=F.aK _
  have s9:u.size=i.size+2:=by simp[u,s8]
  have jt:fP u j.size 0 [.s a,.s e,.i N.aS]:=(cE.push j _ _).iA
  clear_value u
  refine gV.append (zs:=[.s .nil,.s .nil,.i 0]) (d:=[.s a,.s e,.i N.aS]) (K.ext R) (l.trans R) rfl jt (by simp[aa];omega) ?_
  intro v A h7 h8 U ap ae af
  have Z:v≠.nil->h.size<v.D:=by
   intro z;rcases af with⟨_,x⟩|⟨aj,x,_⟩|x
   .exact absurd x z
   .have:=Q aj;omega
   .omega
  have I:∀k,k<u.size->k<=h.size\/k=i.size/\(g=.nil\/g.D<i.size)->A[k]? =u[k]? :=by
   intro k q y;refine ae k q λz=>?_;have:=Q z;rcases y with y|⟨rfl,y|y⟩
   .omega
   .exact absurd y z
   .omega
  have ai:g=.nil\/g.D<i.size:=K.lt
  have W:cE A h.size lX [.s d,.s g]:=(s.ext R).congr (I _ V (Or.inl (ad _)))
  refine⟨λk q=>?_,W.fJ aL,?_⟩
  .simp at q
   rcases q with rfl|rfl|rfl
   .exact I _ V (Or.inr ⟨rfl,ai⟩)
   .exact I _ V (Or.inl V)
   .exact I _ V (Or.inl V)
  intro B
  have au:B.size=A.size:=by simp[B,aw]
  have ag:cE B h.size lX [.s d,.s v]:=cE.ah (m:=A) (o:=1) (r:=[.s v]) W
  have X:∀e,e≠h.size->B[e]? =A[e]? :=λe p=>bd _ _ _ _ p
  have ak:J c B:=h8.ah V _ _
  clear_value B
  refine⟨λk q=>?_,?_⟩
  .simp at q
   rcases q with rfl|rfl|rfl<;>exact X _ V
  refine am V _ ⟨ak,V,v,w++[[.s a,.s e,.i N.aS]],ag,?_,?_,Z,by simp[U,aa]⟩
  .rw[qH]
   have P:gV c A pS 3 v (w.flatten++[[.s a,.s e,.i N.aS]].flatten):=by simpa using h7
   rcases P.lt with x|x
   .subst x;exact⟨P.len,Or.inl rfl⟩
   .refine P.congr (X _ λe2=>?_)
    by_cases E:v=.nil
    .subst E
     have:=U
     simp at this
    .have:=Z E;omega
  .rw[aU Y]
   exact L.yD rfl ⟨a,e,rfl,ha,p⟩
 .rw[bX V]at L
  have x:pt i g b.cF:=(eS.fZ K L V V).mono (J.az _) (Ob.ext l)
  refine⟨d,s.bZ 0,g,s.bZ 1,g,s.bZ 1,?_⟩
  have u:∀e∈[G.size,c.size],e<i.size:=bE
  refine(FQ (cw.ext l D.bo) x).aH (J.az _) u λe S p k _=>⟨_,rfl,k.da (s.bZ 0),k.da (s.bZ 1),?_⟩
  intro j
  have z:∀e,e≠G.size->j[e]? =S[e]? :=λe p=>bd _ _ _ _ p
  have F:J c j:=(l.trans k).ah V _ _
  refine⟨d,g,e,rfl,p,λ_=>⟨rfl,?_⟩,F⟩
  have q:=K.ext k
  have v:gV c j pS 3 g w.flatten:=by
   by_cases E:g=.nil
   .subst E;exact⟨q.len,Or.inl rfl⟩
   .exact q.congr (z _ (oh (Q E)))
  exact(eS.fZ v L V V).mono (J.az _) (Ob.ext F)
def gJ(b:cN)(i:Instr)(a:Int->Prop):Prop:=
 if i.op=0 then -999<=i.bP/\i.bP<=999
 else if i.op=6 then 0<=i.bP/\i.bP<(eR b.bo).length
 else if i.op=9\/i.op=24 then 0<=i.bP/\i.bP<b.cF.length
 else if i.op=10 then 0<=i.bP/\∃q,b.cF[i.bP.toNat]? =some q/\q.cR.length=0
 else if i.op=19 then 0<=i.bP/\i.bP<3
 else if i.op=20\/i.op=22 then a i.bP
 else if i.op=21 then 0<(cy b.bo i.bP).length/\i.eL.length=(cy b.bo i.bP).length
 else i.bP=0
def HJ(hd:cw c d b.bo)(x:dT b.bo)(A:pt c f b.cF)(N:ap c a i.args)(E:ap c j i.eL)(t:Nat)(v u:Array Value)(D:GL.elem t=true)(l:Int->Prop)
 (G:∀e,J c e->dt cg t (v.toList++[vi i.bP]++u.toList) e (l i.bP)):
 dt cg 152 [.agg #[O.v d,O.v f],.agg #[vi i.op,vi i.dst,vi i.bP,vi i.bY,O.v a,O.v j],.func (.func t) v u] c (gJ b i l):=by
 apply qx d f i.op i.dst i.bP i.bY a j (.func t,v,u)
 simp -zeta only[aC,aB]
 intro y r
 have e:J c r:=((J.az c).aK _).aK _
 have w:∀z∈[y.size,c.size],z<r.size:=by simp[r,y];omega
 have Q:=A.len
 have R:=E.len
 have C:cE r y.size dW [.i i.op,.i i.dst,.i i.bP,.i i.bY,.s a,.s j]:=cE.push _ _ _
 clear_value r
 refine⟨λk=>?_,λk=>?_⟩
 .simp only[aG]at k
  rw[show gJ b i l<->-999<=i.bP/\i.bP<=999 by rw[gJ,an k]]
  refine⟨λh=>eT ?_ e,λh=>bV ?_ e⟩<;>simp at h
  .simp;omega
  .omega
 simp only[aj]at k
 refine⟨λm=>?_,λm=>?_⟩
 .simp only[aG]at m
  rw[show gJ b i l<->0<=i.bP/\i.bP<(eR b.bo).length by rw[gJ,ae k,an m]]
  refine⟨λh=>?_,λh=>bV ?_ e⟩<;>simp at h
  .refine(qv (cw.ext e hd) x.len (Oj x)).aH (J.az _) w λB g _=>⟨_,rfl,g.da (C.bZ 2),eT ?_ (e.trans g)⟩
   simp;omega
  .omega
 simp only[aj]at m
 refine⟨λn=>?_,λn=>?_⟩
 .simp only[bQ,aG]at n
  rw[show gJ b i l<->0<=i.bP/\i.bP<b.cF.length by rw[gJ,ae k,ae m,an n]]
  refine⟨λh=>eT ?_ e,λh=>bV ?_ e⟩<;>simp at h
  .simp;omega
  .omega
 simp only[br,aj]at n
 replace n:¬(i.op=9\/i.op=24):=V
 refine⟨λo=>?_,λo=>?_⟩
 .simp only[aG]at o
  rw[show gJ b i l<->0<=i.bP/\∃q,b.cF[i.bP.toNat]? =some q/\q.cR.length=0 by rw[gJ,ae k,ae m,ae n,an o]]
  refine⟨λh=>⟨λp=>?_,λp=>?_⟩,λh=>bV ?_ e⟩<;>simp at h
  .simp at p
   let⟨q,s⟩:=cG b.cF i.bP.toNat
   let⟨I,H,P,F,K,g1,g2⟩:=(pt.ext e A).aF s
   have:=F.len
   refine⟨V,V,H,g1,eT ?_ e⟩
   simp only[aG]
   refine⟨λL=>⟨h,q,s,V⟩,λ⟨_,S,g,M⟩=>?_⟩
   rw[s]at g;simp at g;subst g;omega
  .simp at p
   exact bV (λ⟨_,q,g,_⟩=>oh (av g)) e
  .omega
 simp only[aj]at o
 refine⟨λp=>?_,λp=>?_⟩
 .simp only[aG]at p
  rw[show gJ b i l<->0<=i.bP/\i.bP<3 by rw[gJ,ae k,ae m,ae n,ae o,an p]]
  refine⟨λh=>eT ?_ e,λh=>bV ?_ e⟩<;>simp at h
  .simp;omega
  .omega
 simp only[aj]at p
 refine⟨λq=>?_,λq=>?_⟩
 .simp only[bQ,aG]at q
  rw[show gJ b i l<->l i.bP by rw[gJ,ae k,ae m,ae n,ae o,ae p,an q]]
  exact⟨t,rfl,D,(G r e).aH (J.az _) w λz B s g _=>⟨_,rfl,eT s (e.trans g)⟩⟩
 simp only[br,aj]at q
 replace q:¬(i.op=20\/i.op=22):=V
 refine⟨λs=>?_,λs=>?_⟩
 .simp only[aG]at s
  rw[show gJ b i l<->0<(cy b.bo i.bP).length/\i.eL.length=(cy b.bo i.bP).length by rw[gJ,ae k,ae m,ae n,ae o,ae p,ae q,an s]]
  refine(tf (cw.ext e hd) x _).aH (J.az _) w ?_
  rintro _ B ⟨H,rfl,F,g⟩
  have:=F.len
  refine⟨g,_,rfl,λh=>eT ?_ (e.trans g),λh=>bV ?_ (e.trans g)⟩<;>simp at h
  .simp only[aG];omega
  .omega
 .simp only[aj]at s
  rw[show gJ b i l<->i.bP=0 by rw[gJ,ae k,ae m,ae n,ae o,ae p,ae q,ae s]]
  exact eT aL e
def gW(b:cN)(i:Instr)(c a:Int):Prop:=
 if i.op=0\/i.op=22 then c=0/\a=0
 else if i.op=1\/i.op=2\/i.op=3\/i.op=4\/i.op=11 then c=2/\a=2
 else if i.op=6 then c=(cD b.bo i.bP).length/\a=(cD b.bo i.bP).length
 else if i.op=9\/i.op=24 then∃q,b.cF[i.bP.toNat]? =some q/\c=q.params.length/\a=q.params.length
 else if i.op=10 then∃q,b.cF[i.bP.toNat]? =some q/\c=(q.params.length:Int) -1/\a=(q.params.length:Int) -1
 else if i.op=16\/i.op=17 then c=1/\a=4
 else c=1/\a=1
def KT(hd:cw c d b.bo)(A:dT b.bo)(x:pt c f b.cF){H:Int->Prop}(t:gJ b i H):
 aN cg 153 [.agg #[O.v d,O.v f],.agg #[vi i.op,vi i.dst,vi i.bP,vi i.bY,O.v a,O.v j]] c λK I=>∃B z:Int,K=.tuple #[vi B,vi z]/\gW b i B z/\J c I:=by
 apply rP
 simp -zeta only[aC,aB]
 intro C u
 have g:J c u:=((J.az c).aK _).aK _
 have E:∀D∈[C.size,c.size],D<u.size:=by simp[u,C];omega
 have M:=x.len
 clear_value u
 refine⟨λh=>?_,λh=>?_⟩
 .simp only[bQ,aG]at h
  exact⟨_,_,rfl,by rw[gW,an h];exact⟨rfl,rfl⟩,g⟩
 simp only[br,aj]at h
 have l:¬(i.op=0\/i.op=22):=V
 refine⟨λq=>?_,λq=>?_⟩
 .simp only[bQ,aG]at q
  exact⟨_,_,rfl,by rw[gW,ae l,an q];exact⟨rfl,rfl⟩,g⟩
 simp only[br,aj]at q
 have n:¬(i.op=1\/i.op=2\/i.op=3\/i.op=4\/i.op=11):=V
 refine⟨λe=>?_,λe=>?_⟩
 .simp only[aG]at e
  rw[gJ,ae h.1,an e]at t
  have m:=qW A b.bo.length
  rw[mP _ _ (ad _)]at m
  refine(HB (cw.ext g hd) A _ V).aH (J.az _) E ?_
  rintro _ p ⟨s,rfl,o,k⟩
  have:=o.len
  exact⟨k,_,rfl,_,_,rfl,by rw[gW,ae l,ae n,an e];omega,g.trans k⟩
 simp only[aj]at e
 refine⟨λo=>?_,λo=>?_⟩
 .simp only[bQ,aG]at o
  rw[gJ,ae h.1,ae e,an o]at t
  let⟨v,m⟩:=cG b.cF i.bP.toNat
  let⟨p,G,s,F,w,g1,g2⟩:=(pt.ext g x).aF m
  have:=s.len
  exact⟨V,V,p,w,_,_,rfl,by rw[gW,ae l,ae n,ae e,an o];exact⟨v,m,V,V⟩,g⟩
 simp only[br,aj]at o
 have r:¬(i.op=9\/i.op=24):=V
 refine⟨λk=>?_,λk=>?_⟩
 .simp only[aG]at k
  rw[gJ,ae h.1,ae e,ae r,an k]at t
  obtain⟨L,v,m,_⟩:=t
  let⟨p,G,s,F,w,g1,g2⟩:=(pt.ext g x).aF m
  have:=s.len
  have:=s.gS
  have:=av m
  have y:cT ((p.len:Int) -1)=(v.params.length:Int) -1:=by rw[aQ V V];omega
  exact⟨V,V,p,w,_,_,rfl,by rw[gW,ae l,ae n,ae e,ae r,an k];exact⟨v,m,y,y⟩,g⟩
 simp only[aj]at k
 refine⟨λm=>?_,λm=>?_⟩
 .simp only[bQ,aG]at m
  exact⟨_,_,rfl,by rw[gW,ae l,ae n,ae e,ae r,ae k,an m];exact⟨rfl,rfl⟩,g⟩
 .simp only[br,aj]at m
  have p:¬(i.op=16\/i.op=17):=V
  exact⟨_,_,rfl,by rw[gW,ae l,ae n,ae e,ae r,ae k,ae p];exact⟨rfl,rfl⟩,g⟩
end
section
variable{m:E}{x k:Int}{a b1:Nat}{c:O}
def xQ(b:af m a 0=some (vi k))(d:af m b1 4=some (O.v c)):
 dt cg 150 [vi x,vp a 0,vp b1 0] m (k+1<=x/\x<=(c.len:Int) -1):=by
 apply oB (a,0) (b1,0)
 refine⟨k,b,λh=>⟨c,d,eT ?_ (J.az _)⟩,λh=>bV ?_ (J.az _)⟩<;>simp at h
 .simp;omega
 .omega
def JC{b2:Nat}(b:af m a 0=some (vi k))(d:af m b1 4=some (O.v c))
 (e:af m b2 0=some (.func (.func 150) #[] #[vp a 0,vp b1 0])):
 dt cg 151 [vi x,vp b2 0] m (¬(k+1<=x/\x<=(c.len:Int) -1)):=by
 apply oC (b2,0)
 refine⟨(.func 150,#[],#[vp a 0,vp b1 0]),e,_,rfl,rfl,?_⟩
 refine(xQ b d).then λh i f g=>⟨_,rfl,eT ?_ g⟩
 rw[<-f];simp
def Je{u:cN}{p:dy}{k:Nat}{i:Instr}(N:p.ak<=2000)(L:u.cF.length<=4)(F:∀q∈u.cF,q.params.length<=3):
 iO u p k i<->((0<=i.op/\i.op<=24/\i.op≠7/\i.op≠8/\i.op≠12/\i.op≠13)/\(0<=i.dst/\i.dst<p.ak/\(i.dst=0\/lO i.op)/\0<=i.bY/\i.bY<=p.ak/\(i.bY=0\/i.op=6))/\
  (∀n∈i.args,0<=n/\n<p.ak)/\(i.eL.length=0\/i.op=21)/\(∀t∈i.eL,(k:Int)+1<=t/\t<=(p.dq.length:Int) -1)/\
  gJ u i (λt=>(k:Int)+1<=t/\t<=(p.dq.length:Int) -1)/\∀j h,gW u i j h->j<=i.args.length/\(i.args.length:Int)<=h):=by
 have M:(0<=i.dst/\i.dst<p.ak)->0<p.ak:=λw=>V
 constructor
 .intro w
  have b:=w.op
  have hd:=w.dst
  have C:∀n∈i.args,0<=n/\n<p.ak:=λn f=>by have:=w.args n f;omega
  have s:i.op≠21->∀t∈i.eL,(k:Int)+1<=t/\t<=(p.dq.length:Int) -1:=λH t I=>by
   rcases w.eL with o|o
   .exact absurd o H
   .rw[List.length_eq_zero_iff.1 o]at I;cases I
  have D:i.eL.length=0\/i.op=21:=w.eL.symm
  have G:0<=i.dst/\i.dst<p.ak:=V
  have iH:∀(_:0<=i.op/\i.op<=24/\i.op≠7/\i.op≠8/\i.op≠12/\i.op≠13)(_:0<=i.bY/\i.bY<=p.ak)(_:∀t∈i.eL,(k:Int)+1<=t/\t<=(p.dq.length:Int) -1)
   (_:gJ u i (λt=>(k:Int)+1<=t/\t<=(p.dq.length:Int) -1))(_:∀j h,gW u i j h->j<=i.args.length/\(i.args.length:Int)<=h),_:=
   λE B F K o=>(⟨E,⟨G.1,G.2,w.Ye,B.1,B.2,w.bY⟩,C,D,F,K,o⟩:(0<=i.op/\i.op<=24/\i.op≠7/\i.op≠8/\i.op≠12/\i.op≠13)/\(0<=i.dst/\i.dst<p.ak/\(i.dst=0\/lO i.op)/\0<=i.bY/\i.bY<=p.ak/\(i.bY=0\/i.op=6))/\
   (∀n∈i.args,0<=n/\n<p.ak)/\(i.eL.length=0\/i.op=21)/\(∀t∈i.eL,(k:Int)+1<=t/\t<=(p.dq.length:Int) -1)/\
   gJ u i (λt=>(k:Int)+1<=t/\t<=(p.dq.length:Int) -1)/\∀j h,gW u i j h->j<=i.args.length/\(i.args.length:Int)<=h)
  have r:i.op≠6->0<=i.bY/\i.bY<=p.ak:=λH=>by rcases w.bY with o|o<;>omega
  unfold lY at b
  by_cases c:i.op=0
  .rw[an c]at b
   refine iH V (r V) (s V) (by rw[gJ,an c];exact b.2) (λj h f=>?_)
   rw[gW,an (Or.inl c)]at f;omega
  rw[ae c]at b
  by_cases g:i.op=1\/i.op=2\/i.op=3\/i.op=4\/i.op=11
  .rw[an g]at b
   refine iH V (r V) (s V) ?_ (λj h f=>?_)
   .rw[gJ,ae c,ae V,ae V,ae V,ae V,ae V,ae V];exact b.2
   .rw[gW,ae V,an g]at f;omega
  rw[ae g]at b
  by_cases A:i.op=5\/i.op=14\/i.op=15\/i.op=18\/i.op=23
  .rw[an A]at b
   refine iH V (r V) (s V) ?_ (λj h f=>?_)
   .rw[gJ,ae c,ae V,ae V,ae V,ae V,ae V,ae V];exact b.2
   .rw[gW,ae V,ae g,ae V,ae V,ae V,ae V]at f;omega
  rw[ae A]at b
  by_cases a:i.op=6
  .rw[an a]at b
   refine iH V b.2.2 (s V) ?_ (λj h f=>?_)
   .rw[gJ,ae c,an a];exact b.1
   .rw[gW,ae V,ae g,an a]at f;omega
  rw[ae a]at b
  by_cases d:i.op=9\/i.op=24
  .rw[an d]at b
   let⟨q,o,x,v⟩:=b
   have:=av x
   refine iH V (r V) (s V) ?_ (λj h f=>?_)
   .rw[gJ,ae c,ae a,an d];omega
   .rw[gW,ae V,ae g,ae a,an d]at f
    let⟨J,l,y,m⟩:=f
    rw[x]at l;simp at l;subst l;omega
  rw[ae d]at b
  by_cases e:i.op=10
  .rw[an e]at b
   let⟨⟨q,o,x,v⟩,l⟩:=b
   have:=av x
   refine iH V (r V) (s V) ?_ (λj h f=>?_)
   .rw[gJ,ae c,ae a,ae d,an e];exact⟨o,q,x,l q x⟩
   .rw[gW,ae V,ae g,ae a,ae d,an e]at f
    let⟨J,l,y,m⟩:=f
    rw[x]at l;simp at l;subst l;omega
  rw[ae e]at b
  by_cases l:i.op=16\/i.op=17
  .rw[an l]at b
   refine iH V (r V) (s V) ?_ (λj h f=>?_)
   .rw[gJ,ae c,ae a,ae d,ae e,ae V,ae V,ae V];exact b.2
   .rw[gW,ae V,ae g,ae a,ae d,ae e,an l]at f;omega
  rw[ae l]at b
  by_cases m:i.op=19
  .rw[an m]at b
   refine iH V (r V) (s V) ?_ (λj h f=>?_)
   .rw[gJ,ae c,ae a,ae d,ae e,an m];omega
   .rw[gW,ae V,ae g,ae a,ae d,ae e,ae l]at f;omega
  rw[ae m]at b
  by_cases z:i.op=20
  .rw[an z]at b
   refine iH V (r V) (s V) ?_ (λj h f=>?_)
   .rw[gJ,ae c,ae a,ae d,ae e,ae m,an (Or.inl z)];exact b.2
   .rw[gW,ae V,ae g,ae a,ae d,ae e,ae l]at f;omega
  rw[ae z]at b
  by_cases v:i.op=22
  .rw[an v]at b
   refine iH V (r V) (s V) ?_ (λj h f=>?_)
   .rw[gJ,ae c,ae a,ae d,ae e,ae m,an (Or.inr v)];exact b.2
   .rw[gW,an (Or.inr v)]at f;omega
  rw[ae v]at b
  by_cases y:i.op=21
  .rw[an y]at b
   refine iH V (r V) b.2.2.2 ?_ (λj h f=>?_)
   .rw[gJ,ae c,ae a,ae d,ae e,ae m,ae V,an y]
    have:=b.2.2.1
    exact⟨b.2.1,V⟩
   .rw[gW,ae V,ae g,ae a,ae d,ae e,ae l]at f;omega
  rw[ae y]at b
  exact b.elim
 .rintro⟨E,B,C,D,s,b,h⟩
  refine⟨λn f=>oh (C n f),V,B.2.2.1,B.2.2.2.2.2,D.symm,?_⟩
  unfold lY
  by_cases c:i.op=0
  .rw[an c]
   rw[gJ,an c]at b
   have:=h 0 0 (by rw[gW,an (Or.inl c)];exact⟨rfl,rfl⟩)
   exact⟨V,b⟩
  rw[ae c]
  by_cases g:i.op=1\/i.op=2\/i.op=3\/i.op=4\/i.op=11
  .rw[an g]
   rw[gJ,ae c,ae V,ae V,ae V,ae V,ae V,ae V]at b
   have:=h 2 2 (by rw[gW,ae V,an g];exact⟨rfl,rfl⟩)
   exact⟨V,b⟩
  rw[ae g]
  by_cases A:i.op=5\/i.op=14\/i.op=15\/i.op=18\/i.op=23
  .rw[an A]
   rw[gJ,ae c,ae V,ae V,ae V,ae V,ae V,ae V]at b
   have:=h 1 1 (by rw[gW,ae V,ae g,ae V,ae V,ae V,ae V];exact⟨rfl,rfl⟩)
   exact⟨V,b⟩
  rw[ae A]
  by_cases a:i.op=6
  .rw[an a]
   rw[gJ,ae c,an a]at b
   have:=h _ _ (by rw[gW,ae V,ae g,an a];exact⟨rfl,rfl⟩)
   exact⟨b,V,V⟩
  rw[ae a]
  by_cases d:i.op=9\/i.op=24
  .rw[an d]
   rw[gJ,ae c,ae a,an d]at b
   let⟨q,j⟩:=cG u.cF i.bP.toNat
   have:=h _ _ (by rw[gW,ae V,ae g,ae a,an d];exact⟨q,j,rfl,rfl⟩)
   exact⟨q,b.1,j,V⟩
  rw[ae d]
  by_cases e:i.op=10
  .rw[an e]
   rw[gJ,ae c,ae a,ae d,an e]at b
   let⟨o,q,j,x⟩:=b
   have:=h _ _ (by rw[gW,ae V,ae g,ae a,ae d,an e];exact⟨q,j,rfl,rfl⟩)
   refine⟨⟨q,o,j,V⟩,λJ r=>?_⟩
   rw[j]at r;simp at r;subst r;exact x
  rw[ae e]
  by_cases l:i.op=16\/i.op=17
  .rw[an l]
   rw[gJ,ae c,ae a,ae d,ae e,ae V,ae V,ae V]at b
   have:=h 1 4 (by rw[gW,ae V,ae g,ae a,ae d,ae e,an l];exact⟨rfl,rfl⟩)
   exact⟨V,b⟩
  have j:i.op≠22->∀(c:¬i.op=0)(g:¬(i.op=1\/i.op=2\/i.op=3\/i.op=4\/i.op=11))(a:¬i.op=6)(d:¬(i.op=9\/i.op=24))(e:¬i.op=10)(l:¬(i.op=16\/i.op=17)),i.args.length=1:=λo c g a d e l=>by
   have:=h 1 1 (by rw[gW,ae V,ae g,ae a,ae d,ae e,ae l];exact⟨rfl,rfl⟩);omega
  rw[ae l]
  by_cases m:i.op=19
  .rw[an m]
   rw[gJ,ae c,ae a,ae d,ae e,an m]at b
   exact⟨j V c g a d e l,V,V⟩
  rw[ae m]
  by_cases z:i.op=20
  .rw[an z]
   rw[gJ,ae c,ae a,ae d,ae e,ae m,an (Or.inl z)]at b
   exact⟨j V c g a d e l,b⟩
  rw[ae z]
  by_cases v:i.op=22
  .rw[an v]
   rw[gJ,ae c,ae a,ae d,ae e,ae m,an (Or.inr v)]at b
   have:=h 0 0 (by rw[gW,an (Or.inr v)];exact⟨rfl,rfl⟩)
   exact⟨V,b⟩
  rw[ae v]
  by_cases y:i.op=21
  .rw[an y]
   rw[gJ,ae c,ae a,ae d,ae e,ae m,ae V,an y]at b
   exact⟨j V c g a d e l,b.1,V,s⟩
  rw[ae y]
  omega
end
section
variable{b:E}{d:O}{c:cN}
def DT{W ah ax Q:O}(hd:cw b d c.bo)(ht:dT c.bo)(hf:pt b W c.cF)(aI:c.cF.length<=4)(h3:∀q∈c.cF,q.params.length<=3)
 {q:dy}(hc:fe b Q q.dq)(hr:q.ak<=2000){l:Nat}{e:Instr}{K P:O}(X:ap b K e.args)(hj:ap b P e.eL):
 dt cg 77 [.agg #[O.v d,O.v W],.agg #[O.v ah,O.v ax,vi q.aS,vi q.ak,O.v Q],vi l,.agg #[vi e.op,vi e.dst,vi e.bP,vi e.bY,O.v K,O.v P]] b (iO c q l e):=by
 apply pC
 simp -zeta only[aC,aB]
 intro B A E w
 have s1:B.size=b.size+1:=by simp[B]
 have s2:A.size=b.size+2:=by simp[A,s1]
 have s3:E.size=b.size+3:=by simp[E,s2]
 have s4:w.size=b.size+4:=by simp[w,s3]
 have z:J b w:=((((J.az b).aK _).aK _).aK _).aK _
 have am:cE w A.size aA [.i l]:=(cE.push A _ _).ext (J.push _ _)
 have an:cE w B.size jz [.s ah,.s ax,.i q.aS,.i q.ak,.s Q]:=(cE.push B _ _).ext ((J.push A _).aK _)
 have u:=Je (u:=c) (p:=q) (k:=l) (i:=e) hr aI h3
 have aE:=hc.len
 have aR:=X.len
 have aS:=hj.len
 clear_value w
 clear_value E
 clear_value A
 clear_value B
 refine⟨λh=>bV (λf=>?_) z,λc0=>⟨λh=>bV (λf=>?_) z,λc1=>⟨λh=>bV (λf=>?_) z,λc2=>⟨λh=>bV (λf=>?_) z,λc3=>⟨λh=>bV (λf=>?_) z,λc4=>⟨λh=>bV (λf=>?_) z,λc5=>?_⟩⟩⟩⟩⟩⟩
 any_goals (have:=(u.1 f).1;simp at h;omega)
 simp at c0 c1 c2 c3 c4 c5
 have f1:0<=e.op/\e.op<=24/\e.op≠7/\e.op≠8/\e.op≠12/\e.op≠13:=V
 refine⟨λx=>J w x/\(0<=e.dst/\e.dst<q.ak/\(e.dst=0\/lO e.op)/\0<=e.bY/\e.bY<=q.ak/\(e.bY=0\/e.op=6)),?_,?_⟩
 .refine⟨λh=>bV (λf=>?_) z,λG=>⟨λh=>bV (λf=>?_) z,λI=>?_⟩⟩
  .have:=(u.1 f).2.1;simp at h;omega
  .have:=(u.1 f).2.1;simp at h;omega
  simp at G I
  have tail:∀x,J w x->(e.dst=0\/lO e.op)->((decide (e.bY<(0:Int)))=true->∃g:Bool,Value.bool false=.bool g/\(g=true<->iO c q l e)/\J b x)/\((decide (e.bY<(0:Int)))=false->
   ((decide (e.bY>q.ak))=true->∃g:Bool,Value.bool false=.bool g/\(g=true<->iO c q l e)/\J b x)/\((decide (e.bY>q.ak))=false->
   ((e.bY !=(0:Int))=true->((e.op !=(6:Int))=true->∃g:Bool,Value.bool false=.bool g/\(g=true<->iO c q l e)/\J b x)/\((e.op !=(6:Int))=false->J w x/\(0<=e.dst/\e.dst<q.ak/\(e.dst=0\/lO e.op)/\0<=e.bY/\e.bY<=q.ak/\(e.bY=0\/e.op=6))))/\
   ((e.bY !=(0:Int))=false->J w x/\(0<=e.dst/\e.dst<q.ak/\(e.dst=0\/lO e.op)/\0<=e.bY/\e.bY<=q.ak/\(e.bY=0\/e.op=6))))):=by
   intro x H N
   have L:=z.trans H
   refine⟨λh=>bV (λf=>?_) L,λC=>⟨λh=>bV (λf=>?_) L,λF=>⟨λt=>⟨λh=>bV (λf=>?_) L,λM=>⟨H,?_⟩⟩,λt=>⟨H,?_⟩⟩⟩⟩
   .have:=(u.1 f).2.1;simp at h;omega
   .have:=(u.1 f).2.1;simp at h;omega
   .have:=(u.1 f).2.1.2.2.2.2.2;simp at h t;omega
   .simp at C F M;exact⟨G,I,N,C,F,Or.inr M⟩
   .simp at C F t;exact⟨G,I,N,C,F,Or.inl t⟩
  refine⟨λh=>?_,λh=>tail w (J.az _) (Or.inl (by simpa using h))⟩
  refine(rc e.op w ⟨V,V⟩).aH (J.az _) bE λv x D H _=>⟨v,rfl,λy=>bV (λf=>?_) (z.trans H),λy=>tail x H (Or.inr (yb D y))⟩
  have:=(u.1 f).2.1.2.2.1
  simp at h
  rcases this with s|s
  .exact h s
  .exact nb D y s
 .rintro x ⟨H,f2⟩
  refine dU (n:=e.args.length) (oh X.gS) (λae R=>J w R/\∀G∈e.args.take ae,0<=G/\G<q.ak) ⟨H,aL⟩ ?_
  rintro ae I aQ μ hn ⟨y,aj⟩ aO
  have aa:=z.trans y
  refine dit (λh=>?_) λh=>?_
  .let⟨G,t⟩:=cG e.args ae
   refine⟨V,V,G,by simpa using(X.ext aa).aF t,λs=>bV (λf=>?_) aa,λs=>⟨λC=>bV (λf=>?_) aa,λC=>aO V _ ⟨y,bB t aj ?_⟩⟩⟩
   .have:=(u.1 f).2.2.1 G (aq t);simp at s;omega
   .have:=(u.1 f).2.2.1 G (aq t);simp at C;omega
   .simp at s C;omega
  .have ay:∀G∈e.args,0<=G/\G<q.ak:=db V aj
   intro m7 F
   have s8:F.size=I.size+1:=by simp[F,m7,aw]
   have C:J I F:=((J.az I).aK _).ah (ad _) _ _
   have ac:=aa.trans C
   have al:af F I.size 0=some (.func (.func 150) #[] #[vp A.size 0,vp B.size 0]):=
    (cE.ah (m:=m7) (o:=0) (r:=[.fn (.func 150) #[] #[vp A.size 0,vp B.size 0]]) (cE.push I _ _)).bZ 0
   have aT:=y.size
   clear_value F
   have aK:∀N,J F N->∀t,dt cg 150 [vi t,vp A.size 0,vp B.size 0] N ((l:Int)+1<=t/\t<=(q.dq.length:Int) -1):=λN s t=>by
    rw[<-aE];exact xQ (am.ext (y.trans (C.trans s))|>.bZ 0) (an.ext (y.trans (C.trans s))|>.bZ 4)
   have jM:(e.eL.length=0\/e.op=21)->aN cg 80 [O.v P,.func (.func 151) #[] #[vp I.size 0]] F λaP U=>
    eF [E.size,b.size] F U/\∃ag:Bool,aP=vb ag/\(ag=true->∃g:Bool,Value.bool false=.bool g/\(g=true<->iO c q l e)/\J b U)/\
    (ag=false->∃L:Fn×Array Value×Array Value,af U I.size 0=some (.func L.1 L.2.1 L.2.2)/\
    aN cg 152 [.agg #[O.v d,O.v W],.agg #[vi e.op,vi e.dst,vi e.bP,vi e.bY,O.v K,O.v P],.func L.1 L.2.1 L.2.2] U λab M=>
    eF [E.size,b.size] U M/\∃T:Bool,ab=vb T/\((!T)=true->∃g:Bool,Value.bool false=.bool g/\(g=true<->iO c q l e)/\J b M)/\
    ((!T)=false->aN cg 153 [.agg #[O.v d,O.v W],.agg #[vi e.op,vi e.dst,vi e.bP,vi e.bY,O.v K,O.v P]] M λai S=>
    eF [E.size,b.size] M S/\∃Y:Int,∃Z:Int,ai=.tuple #[vi Y,vi Z]/\
    ((decide ((K.len:Int)>=Y))=true->∃g:Bool,Value.bool (decide ((K.len:Int)<=Z))=.bool g/\(g=true<->iO c q l e)/\J b S)/\
    ((decide ((K.len:Int)>=Y))=false->∃g:Bool,Value.bool false=.bool g/\(g=true<->iO c q l e)/\J b S))):=by
    intro aF
    have hl:∀v∈[E.size,b.size],v<F.size:=bE
    refine(iU (hj.ext ac) 151 #[] #[vp I.size 0] bh (λt=>¬((l:Int)+1<=t/\t<=(Q.len:Int) -1)) (λt _ N s=>JC (am.ext (y.trans (C.trans s))|>.bZ 0) (an.ext (y.trans (C.trans s))|>.bZ 4) (s.af al))).aH (J.az _) hl ?_
    intro v N D s _
    have M:=ac.trans s
    refine⟨v,rfl,λaD=>bV (λf=>?_) M,λaz=>?_⟩
    .let⟨t,ab,g⟩:=D.1 aD
     have:=(u.1 f).2.2.2.2.1 t ab
     exact g V
    have aG:∀t∈e.eL,(l:Int)+1<=t/\t<=(q.dq.length:Int) -1:=λt ab=>by
     rcases dQ ((l:Int)+1<=t/\t<=(Q.len:Int) -1)with h|h
     .omega
     .exact absurd (D.2 ⟨t,ab,h⟩) (by simp[az])
    refine⟨(.func 150,#[],#[vp A.size 0,vp B.size 0]),s.af al,?_⟩
    have ao:∀v∈[E.size,b.size],v<N.size:=λv D=>s.lt (hl v D)
    refine(HJ (cw.ext M hd) ht (pt.ext M hf) (X.ext M) (hj.ext M) 150 #[] #[vp A.size 0,vp B.size 0] bh (λt=>(l:Int)+1<=t/\t<=(q.dq.length:Int) -1) (λR g=>by simpa using aK R (s.trans g) e.bP)).aH (J.az _) ao ?_
    intro b2 aM ak L _
    have Z:=M.trans L
    refine⟨b2,rfl,λh=>bV (λf=>nb ak h (u.1 f).2.2.2.2.2.1) Z,λh=>?_⟩
    have au:=yb ak h
    have aH:∀v∈[E.size,b.size],v<aM.size:=λv D=>L.lt (ao v D)
    refine(KT (cw.ext Z hd) ht (pt.ext Z hf) (a:=K) (j:=P) au).aH (J.az _) aH ?_
    rintro _ aU ⟨lo,Y,rfl,R,ai⟩
    have av:=Z.trans ai
    have aJ:∀T S,gW c e T S->T=lo/\S=Y:=λT S g=>by
     unfold gW at R g;repeat' (split at R)
     all_goals simp_all
     all_goals (obtain⟨q1,e1,e2,e3⟩:=R;simp_all)
    refine⟨ai,lo,Y,rfl,λh=>eT ?_ av,λh=>bV (λf=>?_) av⟩
    .rw[u]
     simp only[ar]at h⊢
     refine⟨λg=>⟨f1,f2,ay,aF,aG,au,λT S h2=>?_⟩,λg=>?_⟩
     .obtain⟨rfl,rfl⟩:=aJ T S h2;omega
     .have:=g.2.2.2.2.2.2 lo Y R;omega
    .have:=(u.1 f).2.2.2.2.2.2 lo Y R
     simp at h;omega
   refine⟨λs=>⟨λL=>bV (λf=>?_) ac,λL=>jM (Or.inr (by simpa using L))⟩,λs=>jM (Or.inl (by simp at s;omega))⟩
   have:=(u.1 f).2.2.2.1
   simp at s L;omega
def DN{ah:O}(v:fw b d ah c):dt cg 41 [.agg #[O.v d,O.v ah]] b (nj c):=by
 apply ym;simp -zeta only[aC,aB];intro F;have ac:J b F:=(J.az b).aK _;have s1:F.size=b.size+1:=by simp[F]
 clear_value F;refine(FK (v.ext ac)).aH (J.az _) bE ?_;rintro _ M ⟨d',aj,ai,rfl,Y,an,H⟩;refine⟨H,d',aj,ai,rfl,?_⟩;intro m3 t;have s4:t.size=M.size+1:=by simp[t,m3,aw]
 have W:J M t:=((J.az M).aK _).ah (ad _) _ _;have af:J b t:=(ac.trans H).trans W;have:=H.size;have aI:=v.cF.len;have aJ:=v.cF.gS;clear_value t;refine⟨λhn=>bV (λf=>nb Y hn ⟨f.nN,λq x=>(f.dz q x).cR⟩) af,λhy=>?_⟩;let⟨D,am⟩:=yb Y hy;obtain⟨rfl,hf⟩:=an (by simpa using hy);refine dU (n:=c.cF.length) V (λQ z=>J t z/\∀q∈c.cF.take Q,Hr c q) ⟨J.az _,aL⟩ ?_;rintro Q N ay μ hn ⟨A,X⟩ ax
 have K:=af.trans A;refine dit (λaG=>?_) λaE=>?_
 .let⟨q,x⟩:=cG c.cF Q;let⟨R,ag,S,ha,hl,w,g0,g1,g2,g3,g4⟩:=(v.ext K).cF.aF x;refine⟨V,V,R,by simpa using g0,ag,by simpa using g1,_,by simpa using g2,_,by simpa using g3,S,by simpa using g4,?_⟩;intro m6 u;have s7:u.size=N.size+1:=by simp[u,m6,aw]
  have r:J N u:=((J.az N).aK _).ah (ad _) _ _;have s:=K.trans r;have az:=ha.len;have aA:=w.len;have aD:=w.gS;have o:=aq x;clear_value u;refine⟨λe=>bV (λf=>?_) s,λT=>⟨λe=>bV (λf=>?_) s,λe2=>⟨λe=>bV (λf=>?_) s,λe3=>⟨λe=>bV (λf=>?_) s,λe4=>?_⟩⟩⟩⟩
  .have:=(f.dz q o).ak;simp at e;split at e<;>omega
  .have:=(f.dz q o).ak;simp at e;omega
  .have:=(f.dz q o).len;simp at e;omega
  .have:=(f.dz q o).len;simp at e;omega
  have ab:(q.params.length:Int)<=q.ak/\1<=q.ak/\q.ak<=2000:=by
   simp at T e2;split at T<;>omega
  have al:1<=q.dq.length/\q.dq.length<=2000:=by simp at e3 e4;omega
  let⟨E,I⟩:=cG q.dq (q.dq.length -1);obtain⟨a0,j0,_,_,L,_⟩:=(fe.ext r w).aF I;refine⟨λz=>J u z/\(E.op=23\/E.op=24),?_,?_⟩
  .have e:cT ((S.len:Int) -1)=((q.dq.length -1:Nat):Int):=by rw[aQ V V];omega
   rw[e];refine⟨V,V,E.op,by simpa using L,λg=>⟨λh=>bV (λf=>?_) s,λh=>⟨J.az _,Or.inr (by simpa using h)⟩⟩,λg=>⟨J.az _,Or.inl (by simpa using g)⟩⟩;have:=(f.dz q o).MF E I;simp at g h;omega
  .rintro m8 ⟨h8,ak⟩;refine dU (n:=q.dq.length) V (λy z=>J u z/\∀(j:Nat)(h:Instr),j<y->q.dq[j]? =some h->iO c q j h) ⟨h8,λj h C=>V⟩ ?_;rintro y P I2 μ2 hk ⟨m,aa⟩ au;refine dit (λaH=>?_) λaF=>?_
   .let⟨h,g⟩:=cG q.dq y;let⟨xa,xj,ao,ap,L,k1,k2,k3,k4,k5⟩:=(fe.ext (r.trans m) w).aF g;refine⟨V,V,_,by simpa using L,_,by simpa using k1,_,by simpa using k2,_,by simpa using k3,xa,by simpa using k4,xj,by simpa using k5,?_⟩;intro ar G;have aM:G.size=P.size+1:=by simp[G,ar,aw]
    have p:J P G:=((J.az P).aK _).ah (ad _) _ _;have ae:=(s.trans m).trans p;have q1:=m.size;have q2:=A.size;clear_value G;refine(DT (ah:=R) (ax:=ag) (cw.ext ae v.bo) D.types (pt.ext (W.trans (A.trans (r.trans (m.trans p)))) hf) D.len.2 (λU B=>(D.dz U B).1) (fe.ext (r.trans (m.trans p)) w) ab.2.2 (l:=y) (e:=h) (ao.ext p) (ap.ext p)).aH (J.az _) bE ?_;intro b' aK Z U _;refine⟨b',rfl,λe=>bV (λf=>nb Z e ((f.dz q o).dz y h g)) (ae.trans U),λe=>au V _ ⟨m.trans (p.trans U),λj i' C B=>?_⟩⟩;rcases Nat.lt_succ_iff_lt_or_eq.1 C with C|rfl
    .exact aa j i' C B
    .rw[g]at B;simp at B;subst B;exact yb Z e
   .refine ax V _ ⟨A.trans (r.trans m),bB x X ⟨am q o,ab,al,λj h g=>aa j h (oh (av g)) g,λh g=>?_⟩⟩
    rw[I]at g;simp at g;subst g;exact ak
 .exact iN ⟨D,db V X⟩ K
end
section
variable{m:E}{s:O}{k:Nat}{γ σ:Type}
def Pb(m:E)(a:List Ce)(c:bM):Prop:=∃f,a=[.i c.aP,.i c.j8,.s f]/\ap m f c.aE
def Ki(m:E)(a:List Ce)(f:aX):Prop:=∃r o h,a=[.i f.fE,.i f.pc,.i f.dst,.s r,.s o,.s h]/\ap m r f.ak/\ap m o f.aR/\ap m h f.ba
abbrev cX(m:E)(s:O)(l:List bM):Prop:=eS m 3 (Pb m) s l
abbrev jx(m:E)(s:O)(l:List aX):Prop:=eS m 6 (Ki m) s l
def Pb.ext{m b:E}(g:J m b)(a:List Ce)(c:bM):Pb m a c->Pb b a c:=λ⟨f,d,e⟩=>⟨f,d,e.ext g⟩
def cX.ext{m b:E}(a:J m b){s:O}{l:List bM}(h:cX m s l):cX b s l:=h.mono a (Pb.ext a)
def Ki.ext{m d:E}(a:J m d)(b:List Ce)(c:aX):Ki m b c->Ki d b c:=λ⟨r,o,h,e,f,g,i⟩=>⟨r,o,h,e,f.ext a,g.ext a,i.ext a⟩
def jx.ext{m b:E}(a:J m b){s:O}{l:List aX}(h:jx m s l):jx b s l:=h.mono a (Ki.ext a)
def cX.aF{l:List bM}(h:cX m s l){x:bM}(c:l[k]? =some x):
 ∃f,ap m f x.aE/\af m s.D (s.off+k*3)=some (vi x.aP)/\af m s.D (s.off+k*3+1)=some (vi x.j8)/\af m s.D (s.off+k*3+2)=some (O.v f):=by
 obtain⟨d,⟨f,rfl,b⟩,a⟩:=h.iA k x c
 exact⟨f,b,a 0 (.i x.aP) rfl,a 1 (.i x.j8) rfl,a 2 (.s f) rfl⟩
def jx.aF{l:List aX}(h:jx m s l){x:aX}(b:l[k]? =some x):
 ∃r o e,ap m r x.ak/\ap m o x.aR/\ap m e x.ba/\af m s.D (s.off+k*6)=some (vi x.fE)/\af m s.D (s.off+k*6+1)=some (vi x.pc)/\af m s.D (s.off+k*6+2)=some (vi x.dst)/\
  af m s.D (s.off+k*6+3)=some (O.v r)/\af m s.D (s.off+k*6+4)=some (O.v o)/\af m s.D (s.off+k*6+5)=some (O.v e):=by
 obtain⟨f,⟨r,o,e,rfl,d,c,a⟩,jt⟩:=h.iA k x b
 exact⟨r,o,e,d,c,a,jt 0 (.i x.fE) rfl,jt 1 (.i x.pc) rfl,jt 2 (.i x.dst) rfl,jt 3 (.s r) rfl,jt 4 (.s o) rfl,jt 5 (.s e) rfl⟩
def _root_.Go.Vc.eS.pv{l:List Int}(h:eS m 1 Ux s l){i:Int}(a:0<=i)(b:i<l.length):af m s.D (s.off+i.toNat*1)=some (vi (aF l i)):=ap.aF h (ou a b)
structure RV(m:E)(mb o:Nat)(d p aT hp fr:O)(im:cN)(s:St):Prop where
 fy:fw m d p im
 bo:af m mb 0=some (O.v d)
 cF:af m mb 1=some (O.v p)
 cz:af m mb o=some (vi s.cz)
 value:af m mb (o+1)=some (vi s.value)
 bu:af m mb (o+2)=some (vi s.bu)
 dR:af m mb (o+3)=some (vi s.dR)
 aab:af m mb (o+4)=some (O.v aT)
 qX:af m mb (o+5)=some (O.v hp)
 Ou:af m mb (o+6)=some (O.v fr)
 aT:ap m aT s.aT
 heap:cX m hp s.heap
 ao:jx m fr s.ao
def RV.ext{m f:E}{g o:Nat}{d p aT c b:O}{e:cN}{s:St}(h:RV m g o d p aT c b e s)(a:J m f):RV f g o d p aT c b e s:=
 ⟨h.fy.ext a,a.af h.bo,a.af h.cF,a.af h.cz,a.af h.value,a.af h.bu,a.af h.dR,a.af h.aab,a.af h.qX,a.af h.Ou,h.aT.ext a,cX.ext a h.heap,jx.ext a h.ao⟩
def W7(P:Nat->Prop):∀(n:Nat),P n->∃k,P k/\∀j,P j->k<=j:=by
 intro n;induction n using Nat.strongRecOn with
 |_ n e=>
  intro b;rcases dQ (∃j,j<n/\P j)with⟨j,a,d⟩|c
  .exact e j a d
  .exact⟨n,b,λj a=>dP λh=>c ⟨j,V,a⟩⟩
def OX{p:σ}{j:(σ->E->Prop)->(σ->E->Nat)->σ->E->Prop}(J:γ->σ->E->Prop)(ν:γ->Nat)(l:γ)(r:J l p m)
 (q:∀(g:γ)(s:σ)(a:E)(I:σ->E->Prop)(μ:σ->E->Nat),J g s a->(∀b d c,J b d c->ν b<ν g->I d c/\μ d c<μ s a)->j I μ s a):
 ∃(I:σ->E->Prop)(μ:σ->E->Nat),I p m/\∀s a,I s a->j I μ s a:=by
 classical
 let I:σ->E->Prop:=λs m=>∃g,J g s m
 have h:∀s m,I s m->∃k,(∃g,J g s m/\ν g=k)/\∀o,(∃g,J g s m/\ν g=o)->k<=o:=λs m⟨g,i⟩=>W7 _ (ν g) ⟨g,i,rfl⟩
 let μ:σ->E->Nat:=λs m=>if e:I s m then Classical.choose (h s m e)else 0
 refine⟨I,μ,⟨l,r⟩,λs a e=>?_⟩
 let⟨g,i,u⟩:=(fK (h s a e)).1
 refine q g s a I μ i λb d c f t=>⟨⟨b,f⟩,?_⟩
 have n:I d c:=⟨b,f⟩
 simp only[μ,SF e,SF n]
 exact nC ((fK (h d c n)).2 _ ⟨b,f,rfl⟩) (u▸t)
def RS{τ:Type}{i:σ}{j:τ}{h:(σ->τ->E->Prop)->(σ->τ->E->Nat)->σ->τ->E->Prop}(J:γ->σ->τ->E->Prop)(ν:γ->Nat)(k:γ)(n:J k i j m)
 (l:∀(g:γ)(s:σ)(t:τ)(a:E)(I:σ->τ->E->Prop)(μ:σ->τ->E->Nat),J g s t a->(∀f d e c,J f d e c->ν f<ν g->I d e c/\μ d e c<μ s t a)->h I μ s t a):
 ∃(I:σ->τ->E->Prop)(μ:σ->τ->E->Nat),I i j m/\∀s t a,I s t a->h I μ s t a:=by
 let⟨I,μ,o,p⟩:=OX (σ:=σ×τ) (p:=(i,j)) (j:=λI μ b a=>h (λs t=>I (s,t)) (λs t=>μ (s,t)) b.1 b.2 a) (λg b m=>J g b.1 b.2 m) ν k n (λg b a I μ q r=>l g b.1 b.2 a (λs t=>I (s,t)) (λs t=>μ (s,t)) q λf d e c=>r f (d,e) c)
 exact⟨λs t=>I (s,t),λs t=>μ (s,t),o,λs t=>p (s,t)⟩
end
section
variable{m g:E}{s d p a j t o e:O}{b r:List Int}{f:Nat}{K:Value->E->Prop}{c:cN}{x:Instr}
def _root_.Go.Vc.eS.HY(h:eS m 1 Ux s b):fP m s.D s.off (b.map Ce.i):=λi d a=>by
 rw[cJ]at a;obtain⟨x,c,rfl⟩:=Option.map_eq_some_iff.1 a;have:=ap.aF h c;rw[eQ]at this;exact this
def od(f:Nat)(c:List Value)(m:E)(b:List Int):Prop:=aN cg f c m λv a=>∃s,v=O.v s/\gV m a aA 1 s (b.map Ce.i)/\J m a
def od.then{c:List Value}(h:od f c m b)(i:b.length<=1000000000)(e:∀s a,gV m a aA 1 s (b.map Ce.i)->ap a s b->J m a->K (O.v s) a):aN cg f c m K:=
 h.mono λ_ _⟨s,d,a,g⟩=>d▸e s _ a (ap.fZ a V) g
def od.aH{c:List Value}{d:List Nat}(h:od f c m b)(l:b.length<=1000000000)(i:∀a∈d,a<m.size)(k:∀s a,gV m a aA 1 s (b.map Ce.i)->ap a s b->J m a->K (O.v s) a):aN cg f c m λv a=>eF d m a/\K v a:=
 h.mono λ_ _⟨s,j,e,g⟩=>⟨g.dv i,j▸k s _ e (ap.fZ e V) g⟩
def dV(w:Int)(m:E):dt cg 121 [vi w] m (1000<=w):=by
 apply AN;exact eT aL (J.az _)
def iW{a:O}{h:List bM}(j:cX m a h){w:Int}(C: -9223372036854775808<=w/\w<=9223372036854775807):dt cg 132 [O.v a,vi w] m (fX h w):=by
 apply Gx;have z:=j.len;have A:=j.gS;have o:cT ((a.len:Int) -1)=(a.len:Int) -1:=aQ V V;rw[o];have x:cT (w -1000)=w -1000\/(w<1000/\¬(0<=cT (w -1000)/\cT (w -1000)<=(a.len:Int) -1))\/(w<1000/\cT (w -1000)=w -1000+18446744073709551616):=by
  rcases dQ (-9223372036854775808<=w -1000)with b|b
  .exact Or.inl (aQ b V)
  .refine Or.inr (Or.inr ⟨V,?_⟩);simp only[cT,IntKind.wrap,IntKind.signed,IntKind.bits];simp;omega
 refine(aY _ _ _ _).then λn D i b=>⟨n,rfl,λu=>?_,λt=>?_⟩
 .refine(dV _ _).then λb2 E l g=>⟨b2,rfl,λs=>?_,λr=>bV (λc=>fb l r c.1) (b.trans g)⟩;have k:=l.1 s;have p:cT (w -1000)=w -1000:=aQ V V;rw[p]at i⊢;have B:=i.1 u;let⟨e,c⟩:=cG h ((w -1000).toNat);obtain⟨f,y,q,_⟩:=(cX.ext (b.trans g) j).aF c;refine⟨V,V,e.aP,q,eT ?_ (b.trans g)⟩;simp only[kD,ar];refine⟨λa=>⟨k,e,c,a⟩,λ⟨_,v,d,a⟩=>?_⟩;unfold ix at d;rw[c]at d;simp at d;subst d;exact a
 .refine bV (λ⟨k,e,c,_⟩=>fb i t ?_) b;have:=av c;unfold ix at this;rw[aQ V V];omega
def LJ(a:Int)(m:E):dt cg 70 [vi a] m (mS a):=by
 apply Gw;refine⟨λh=>iN ?_ (J.az _),λh=>⟨λb=>iN ?_ (J.az _),λb=>eT ?_ (J.az _)⟩⟩<;>simp[mS]at* <;>omega
def KY{q:dy}(a:c.cF[x.bP.toNat]? =some q)(k:Nat):nu c x k=true<->(k:Int)∈q.cR:=by
 simp[nu,dN,a,List.any_eq_true]
def zj(c:cN)(x:Instr):Prop:=(x.op=9\/x.op=24)->0<=x.bP/\∃q,c.cF[x.bP.toNat]? =some q
def iO.call{p:dy}{k:Nat}(h:iO c p k x):zj c x:=λe=>by
 have a:=h.op;unfold lY at a;rw[ae V,ae V,ae V,ae V,an e]at a;obtain⟨q,b,d,_⟩:=a;exact⟨b,q,d⟩
def rR(h:fw m d p c)(z:zj c x)(a j:O)(k:Nat):
 dt cg 124 [.agg #[O.v d,O.v p],.agg #[vi x.op,vi x.dst,vi x.bP,vi x.bY,O.v a,O.v j],vi k] m ((x.op=9\/x.op=24)/\nu c x k=true):=by
 apply EC
 simp -zeta only[aC,aB]
 intro o b
 have n:J m b:=((J.az m).aK _).aK _
 have A:∀f∈[o.size,m.size],f<b.size:=by simp[b,o];omega
 have L:=h.cF.len
 clear_value b
 have q:∀e:x.op=9\/x.op=24,(0:Int)<=x.bP/\x.bP<(p.len:Int)/\∃u:O,af b p.D (p.off+Int.toNat x.bP*5+1)=some (O.v u)/\
  aN cg 135 [O.v u,vi k] b λr s=>eF [o.size,m.size] b s/\∃t:Bool,r=vb t/\∃f:Bool,vb t=.bool f/\(f=true<->((x.op=9\/x.op=24)/\nu c x k=true))/\J m s:=λe=>by
  let⟨v,N,l⟩:=z e
  let⟨D,C,E,I,B,K,F,g1,g2,G,H⟩:=(h.ext n).cF.aF l
  have:=av l
  refine⟨v,V,C,g1,(dw B _).aH (J.az _) A λf M y w _=>⟨f,rfl,eT ?_ (n.trans w)⟩⟩
  rw[y,KY l]
  exact⟨λh=>⟨e,h⟩,λh=>h.2⟩
 refine⟨λi=>q (Or.inl (by simpa using i)),λi=>⟨λg=>q (Or.inr (by simpa using g)),λg=>bV (λ⟨e,_⟩=>?_) n⟩⟩
 simp at i g;omega
def Ih(a:Int)(m:E):dt cg 123 [vi a] m (a=6\/a=9\/a=10\/a=11):=by
 apply rZ;refine⟨λh=>iN ?_ (J.az _),λh=>⟨λb=>iN ?_ (J.az _),λb=>⟨λc=>iN ?_ (J.az _),λc=>eT ?_ (J.az _)⟩⟩⟩<;>simp at* <;>omega
def jq(c:cN)(x:Instr)(n:Nat):List Int:=iD c x 0 (x.args.take n)
def vm(c:cN)(x:Instr):∀(b r:List Int)(k:Nat),iD c x k (b++r)=iD c x k b++iD c x (k+b.length) r
 |[],r,k=>by simp[iD]
 |a::b,r,k=>by
  have:=vm c x b r (k+1);simp only[cZ,iD,this,aZ];have e:k+(b.length+1)=k+1+b.length:=V;rw[e];split<;>simp
def tL(c:cN)(x:Instr):∀(b:List Int)(k:Nat),(iD c x k b).length<=b.length
 |[],k=>ad _
 |a::b,k=>by
  have:=tL c x b (k+1);simp only[iD];split<;>simp<;>omega
def IU(c:cN)(x:Instr):(bU c x).length<=x.args.length:=by
 unfold bU;split
 .exact ad _
 split
 .simp;omega
 split
 .exact tL _ _ _ _
 .simp
def J.tv{a c:E}(f:J g a)(h:J g c){b:List Nat}(d:∀x∈b,x<g.size):eF b a c:=λx e=>by rw[f.same x (d x e),h.same x (d x e)]
def nL{v:Int}{K:O->E->Prop}(c:gV g m aA 1 s (b.map Ce.i))(h:J g m)(n:b.length<1000000000)
 (f:∀r a,gV g a aA 1 r ((b++[v]).map Ce.i)->J g a->K r a):
 jK (m.push (.cells (bt [.i v]) aA)) aA [.i (0:Int)] 8 s (O.mk m.size 0 1 1) K:=by
 have o:s.len=b.length:=by have:=c.len;simp at this;omega
 refine gV.append (zs:=[.i 0]) (d:=[.i v]) (c.ext (J.push _ _)) (h.aK _) rfl (cE.push m _ _).iA bE λr a d e i j k l=>?_
 exact f r a (by simpa using d) e
def J8(aa:fw m d p c)(hc:zj c x)(I:ap m a x.args)(ak:x.args.length<=1000000)(ab:(x.op=16\/x.op=17)->1<=x.args.length):
 od 72 [.agg #[O.v d,O.v p],.agg #[vi x.op,vi x.dst,vi x.bP,vi x.bY,O.v a,O.v j]] m (bU c x):=by
 apply EO
 simp -zeta only[aC,aB]
 intro C f Q
 have B:J m f:=((J.az m).aK _).aK _
 have s2:f.size=m.size+2:=by simp[f,C]
 have h3:J f Q:=(J.az f).aK _
 have u:gV f Q aA 1 (.mk f.size 0 0 0) []:=gV.new (J.az f) aA 1 [] 0 aL
 have s1:C.size=m.size+1:=by simp[C]
 have ah:=I.len
 have w:∀v∈[C.size,m.size],v<f.size:=λv t=>by simp at t;omega
 clear_value Q
 clear_value f
 have K:∀{o s b},gV f o aA 1 s b->gV m o aA 1 s b:=λu=>u.cx B.size
 refine⟨λZ o=>J f o/\gV f o aA 1 (.mk f.size 0 0 0) []/\(Z=true<->(x.op=15\/x.op=6\/x.op=10\/x.op=11\/x.op=18\/x.op=23\/x.op=9\/x.op=24)),?_,?_⟩
 .refine(Ih _ _).aH h3 w λv D t g i=>⟨v,rfl,λM=>⟨i,u.ext g,by have:=t.1 M;simp;omega⟩,λL=>?_⟩
  have h:=fb t L
  refine⟨λe=>⟨i,u.ext g,by simp at e;simp;omega⟩,λH=>⟨λe=>⟨i,u.ext g,by simp at e;simp;omega⟩,λq=>⟨λe=>⟨i,u.ext g,by simp at e;simp;omega⟩,λA=>⟨i,u.ext g,by simp at H q A;simp;omega⟩⟩⟩⟩
 .rintro Z D ⟨g,N,W⟩
  refine⟨λad=>?_,λac=>?_⟩
  .have hT:=W.1 ad
   refine ez (n:=x.args.length) V (λk s o=>J f o/\gV f o aA 1 s ((if x.op=9\/x.op=24 then jq c x k else x.args.take k).map Ce.i)) ⟨g,by simpa[jq,iD]using N⟩ ?_
   rintro k s m5 ag μ hk ⟨R,P⟩ Y
   have X:=B.trans R
   refine dit (λaj=>?_) λai=>?_
   .let⟨y,h⟩:=cG x.args k
    have U:jq c x (k+1)=jq c x k++iD c x k [y]:=by
     unfold jq;rw[aU h,vm];simp;congr 2;omega
    refine(rR (aa.ext X) hc a j k).aH R w λv m6 t S F=>⟨v,rfl,λM=>?_,λL=>?_⟩
    .have G:=nb t M
     refine⟨V,V,y,by simpa using(I.ext (B.trans F)).aF h,?_⟩
     intro m7
     have T:(if x.op=9\/x.op=24 then jq c x k else x.args.take k).length<=k:=by
      split
      .refine bH (tL _ _ _ _) ?_;simp;omega
      .simp;omega
     refine nL (P.ext S) F V λr m8 z E=>?_
     refine⟨J.tv (F.aK _) E w,Y V _ _ ⟨E,?_⟩⟩
     by_cases e:x.op=9\/x.op=24
     .rw[an e]at z⊢
      rw[U]
      have:iD c x k [y]=[y]:=by
       simp only[iD];rw[ae (λw=>G ⟨e,w⟩)]
      rw[this];exact z
     .rw[ae e]at z⊢
      rw[aU h];exact z
    .have G:=yb t L
     refine Y V _ _ ⟨F,?_⟩
     have T:=P.ext S
     rw[an G.1]at T⊢
     rw[U]
     have:iD c x k [y]=[]:=by
      simp only[iD];rw[an G.2]
     rw[this,dX];exact T
   .refine⟨s,rfl,?_,X⟩
    have q:bU c x=if x.op=9\/x.op=24 then jq c x k else x.args.take k:=by
     have A:x.args.take k=x.args:=bX V;unfold bU jq;rw[A];by_cases e:x.op=9\/x.op=24
     .rw[ae V,ae V,an e,an e]
     .rw[an V,ae e]
    rw[q];exact K P
  .have hT:¬(x.op=15\/x.op=6\/x.op=10\/x.op=11\/x.op=18\/x.op=23\/x.op=9\/x.op=24):=λe=>by have:=W.2 e;rw[ac]at this;simp at this
   have i:=B.trans g
   have lJ:∀e:x.op=16\/x.op=17,(0:Int)<=(0:Int)/\(0:Int)<(a.len:Int)/\∃F:Int,af D a.D (a.off+Int.toNat (0:Int)*1)=some (vi F)/\
    jK (D.push (.cells (bt [.i F]) 3)) 3 [.i (0:Int)] 8 (O.mk f.size 0 0 0) (O.mk D.size 0 1 1) λL k=>eF [C.size,m.size] (D.push (.cells (bt [.i F]) 3)) k/\∃s,O.v L=O.v s/\gV m k aA 1 s ((bU c x).map Ce.i)/\J m k:=λe=>by
    have M:=ab e
    let⟨y,h⟩:=cG x.args 0
    refine⟨V,V,y,by simpa using(I.ext i).aF h,nL (b:=[]) N g aL λr m8 z E=>⟨J.tv (g.aK _) E w,r,rfl,?_,B.trans E⟩⟩
    have q:bU c x=[y]:=by
     unfold bU;rw[ae V,an e];cases G:x.args with
     |nil=>rw[G]at h;simp at h
     |cons P b=>rw[G]at h;simp at h;subst h;rfl
    rw[q];exact K z
   refine⟨λe=>lJ (Or.inl (by simpa using e)),λH=>⟨λe=>lJ (Or.inr (by simpa using e)),λq=>⟨_,rfl,?_,i⟩⟩⟩
   have A:bU c x=[]:=by
    simp at H q;unfold bU;rw[ae V,ae V,ae V]
   rw[A];exact K N
def gR(c:ap m s b)(l:b.length<=1000000000):od 68 [O.v s] m b:=by
 apply ny;intro d;have a:J m d:=(J.az m).aK _;have g:gV m d aA 1 (.mk m.size 0 0 0) []:=gV.new (J.az m) aA 1 [] 0 aL;have f:=c.len;refine gV.append (zs:=[.i 0]) (d:=b.map Ce.i) g a (by simp[f]) (c.ext a).HY bE λr n a e h i j k=>⟨r,rfl,by simpa using a,e⟩
def LF(h:ap m s b)(c:ap m t r)(p:b.length+r.length<=1000000000):od 189 [O.v s,O.v t] m (b++r):=by
 apply uE;refine(gR h V).then V λq w d e a=>⟨q,rfl,?_⟩;have i:=c.len;have o:=e.len;refine gV.append (zs:=[.i 0]) (d:=r.map Ce.i) d a (by simp[i]) (c.ext a).HY V λu v f g j k l n=>⟨u,rfl,by simpa using f,g⟩
def mg(d:ap m s b):dt cg 130 [O.v s] m (R1 b):=by
 apply Ei;have g:=d.len;refine dU (n:=b.length) (g▸d.gS) (λk a=>J m a/\∀y∈b.take k,y=0) ⟨J.az _,aL⟩ ?_;rintro k o I μ l ⟨a,f⟩ j
 refine⟨λh=>?_,λh=>iN (db (by simp at h;omega) f) a⟩;simp only[ar]at h;let⟨x,e⟩:=cG b k;refine⟨V,V,x,by simpa using a.af (d.aF e),λc=>bV (λi=>?_) a,λc=>j V _ ⟨a,bB e f (by simpa using c)⟩⟩;have:=i x (aq e);simp at c;omega
def AZ(d:ap m s b):dt cg 125 [O.v s] m (∀o∈b,0<=o):=by
 apply wu;have g:=d.len;refine dU (n:=b.length) (g▸d.gS) (λk a=>J m a/\∀y∈b.take k,0<=y) ⟨J.az _,aL⟩ ?_;rintro k p I μ l ⟨a,f⟩ j
 refine⟨λh=>?_,λh=>iN (db (by simp at h;omega) f) a⟩;simp only[ar]at h;let⟨x,e⟩:=cG b k;refine⟨V,V,x,by simpa using a.af (d.aF e),λc=>bV (λi=>?_) a,λc=>j V _ ⟨a,bB e f (by simpa using c)⟩⟩;have:=i x (aq e);simp at c;omega
def qE(f:ap m s b)(j:ap m t r):dt cg 184 [O.v s,O.v t] m (b=r):=by
 apply CX;have l:=f.len;have q:=j.len;refine⟨λh=>bV (λe=>by subst e;simp at h;omega) (J.az _),λh=>?_⟩;simp at h;refine dU (n:=b.length) (l▸f.gS) (λk a=>J m a/\b.take k=r.take k) ⟨J.az _,aL⟩ ?_;rintro k u I μ p ⟨c,i⟩ o
 refine⟨λh=>?_,λh=>iN (by simp at h;rwa[bX V,bX V]at i) c⟩;simp only[ar]at h;let⟨x,g⟩:=cG b k;let⟨y,d⟩:=cG r k;refine⟨V,V,x,by simpa using c.af (f.aF g),V,V,y,by simpa using c.af (j.aF d),λa=>bV (λe=>?_) c,λa=>o V _ ⟨c,?_⟩⟩
 .subst e;rw[g]at d;simp at d;simp at a;exact a d
 .rw[aU g,aU d,i];simp at a;rw[a]
abbrev fv(f:aX)(r o h:O):Value:=.agg #[vi f.fE,vi f.pc,vi f.dst,O.v r,O.v o,O.v h]
abbrev xv(x:Instr)(a j:O):Value:=.agg #[vi x.op,vi x.dst,vi x.bP,vi x.bY,O.v a,O.v j]
def Eh{f:aX}{r:O}(t:ap m r f.ak)(g:ap m a x.args)(C:∀y∈x.args,0<=y/\y<f.ak.length):
 dt cg 127 [fv f r o e,xv x a j] m (∀y∈x.args,aF f.ak y<1000):=by
 apply yF
 simp -zeta only[aC,aB]
 intro w b
 have v:J m b:=((J.az m).aK _).aK _
 have D:∀d∈[w.size,m.size],d<b.size:=by simp[b,w];omega
 have z:=g.len
 have K:=t.len
 clear_value b
 refine dU (n:=x.args.length) (z▸g.gS) (λl c=>J b c/\∀y∈x.args.take l,aF f.ak y<1000) ⟨J.az _,aL⟩ ?_
 rintro l L I μ H ⟨u,s⟩ F
 have i:=v.trans u
 refine⟨λh=>?_,λh=>iN (db (by simp at h;omega) s) i⟩
 simp only[ar]at h
 let⟨y,c⟩:=cG x.args l
 have k:=C y (aq c)
 refine⟨V,V,y,by simpa using i.af (g.aF c),k.1,V,aF f.ak y,by simpa using i.af (t.pv k.1 k.2),?_⟩
 refine(dV _ _).aH u D λd M q G p=>⟨d,rfl,λB=>bV (λE=>?_) (v.trans p),λA=>F V _ ⟨p,bB c s ?_⟩⟩
 .have:=E y (aq c);have:=q.1 B;omega
 .have:=fb q A;omega
def oQ(b r:List Int):kU (b++r)=kU b++kU r:=by simp[kU]
def nM(b:List Int):(kU b).length<=b.length:=List.length_filter_le _ _
def oF(f:ap m s b)(A:b.length<=100000000):od 183 [O.v s] m (kU b):=by
 apply yR;intro g;have p:J m g:=(J.az m).aK _;have u:gV m g aA 1 (.mk m.size 0 0 0) []:=gV.new (J.az m) aA 1 [] 0 aL;have z:=f.len;clear_value g;refine ez (n:=b.length) V (λk s a=>J m a/\gV m a aA 1 s ((kU (b.take k)).map Ce.i)) ⟨p,by simpa[kU]using u⟩ ?_;rintro k s B I μ y ⟨d,c⟩ j
 refine dit (λo=>?_) λo=>?_
 .let⟨x,e⟩:=cG b k;refine⟨V,V,x,by simpa using d.af (f.aF e),?_⟩;refine(dV _ _).then λl C h a=>⟨l,rfl,λt=>?_,λq=>?_⟩
  .have i:=d.trans a;refine⟨V,V,x,by simpa using i.af (f.aF e),?_⟩;intro D;refine nL (c.ext a) i (by have:=nM (b.take k);simp at this;omega) λr E v w=>j V _ _ ⟨w,?_⟩
   rw[aU e,oQ];have:kU [x]=[x]:=by simp[kU,h.1 t]
   rw[this];exact v
  .refine j V _ _ ⟨d.trans a,?_⟩
   rw[aU e,oQ];have:kU [x]=[]:=by simp[kU];have:=fb h q;omega
   rw[this,dX];exact c.ext a
 .rw[bX V]at c;exact⟨s,rfl,c,d⟩
def rU{f:aX}{r:O}(l:ap m r f.ak)(p:ap m s b)(x:∀y∈b,0<=y/\y<f.ak.length)(G:b.length<=100000000):
 od 185 [fv f r o e,O.v s] m (cL f b):=by
 apply EY
 simp -zeta only[aC,aB]
 intro a j
 have q:J m a:=(J.az m).aK _
 have w:J a j:=(J.az a).aK _
 have A:gV a j aA 1 (.mk a.size 0 0 0) []:=gV.new (J.az a) aA 1 [] 0 aL
 have z:∀u∈[m.size],u<a.size:=by simp[a]
 have F:=p.len
 have E:=l.len
 clear_value j
 clear_value a
 refine ez (n:=b.length) V (λk s c=>J a c/\gV a c aA 1 s ((cL f (b.take k)).map Ce.i)) ⟨w,by simpa[cL]using A⟩ ?_
 rintro k s H I μ D ⟨d,c⟩ B
 have g:=q.trans d
 refine dit (λv=>?_) λv=>?_
 .let⟨y,h⟩:=cG b k
  have i:=x y (aq h)
  refine⟨V,V,y,by simpa using g.af (p.aF h),i.1,V,aF f.ak y,by simpa using g.af (l.pv i.1 i.2),?_⟩
  intro K
  refine nL c d (by simp[cL];omega) λM L C t=>⟨J.tv (d.aK _) t z,B V _ _ ⟨t,?_⟩⟩
  rw[aU h]
  simpa[cL]using C
 .rw[bX V]at c
  exact⟨s,rfl,c.cx q.size,g⟩
end
section
variable{g:E}{b:aX}{t v d p h u j:O}{s:St}{c:List Int}{q:Nat}{k:cN}{w:Int}{e:Nat->Int}{x:Instr}
def ID{e:O}(Q:ap g t b.ak)(ho:ap g v b.aR){s:O}(D:ap g s c)(ad:∀y∈c,0<=y/\y<b.ak.length)(am:b.ak.length=b.aR.length)(ay:b.aR.length<=1000000)(aw:c.length<=1000000)
 (M:∀w∈b.aR,-1000000000<=w/\w<=1000000000):od 71 [fv b t v e,O.v s] g (bD b.ak b.aR c):=by
 apply CS
 simp -zeta only[aC,aB]
 intro p
 have E:J g p:=(J.az g).aK _
 have H:∀G∈[g.size],G<p.size:=by simp[p]
 have ax:=D.len
 have av:=Q.len
 clear_value p
 refine(gR (ho.ext E) V).aH V H λx m2 o2 i2 Y=>⟨x,rfl,?_⟩
 have P:=i2.len
 have kH:∀(d F aR:List Int),bD b.ak aR (d++F)=bD b.ak (bD b.ak aR d) F:=by
  intro d;induction d with
  |nil=>intro F aR;rfl
  |cons y d k=>intro F aR;simp only[cZ,bD,k]
 have lo:∀(d aR:List Int)(A:Int),(∀w∈aR,A<=w)->∀w∈bD b.ak aR d,A -d.length<=w:=by
  intro d;induction d with
  |nil=>intro aR A h w q;have:=h w q;simp;omega
  |cons y d k=>
   intro aR A h w q;simp only[bD]at q;have:=k _ (A -1) (λu j=>by
    split at j
    .rcases dQ (y.toNat<aR.length)with B|B
     .rcases pD j with j|j
      .have:=h _ (iv (i:=y.toNat) (a:=aF aR y) (by obtain⟨C,z⟩:=dB B;rw[Hv z];exact z));omega
      .have:=h u j;omega
     .have z:gQ aR y (aF aR y -1)=aR:=by unfold gQ;rw[rE V]
      rw[z]at j;have:=h u j;omega
    .have:=h u j;omega) w q
   simp only[aZ];omega
 refine dU (n:=c.length) V (λk j=>J p j/\gV p j aA 1 x ((bD b.ak b.aR (c.take k)).map Ce.i)) ⟨Y,o2⟩ ?_
 rintro k m3 aj μ hk ⟨R,C⟩ U
 have K:=E.trans R
 refine dit (λh=>?_) λh=>?_
 .let⟨y,u⟩:=cG c k
  have j:=ad y (aq u)
  have ao:=jZ b.ak (c.take k) b.aR
  refine⟨V,V,y,by simpa using K.af (D.aF u),j.1,V,aF b.ak y,by simpa using K.af (Q.pv j.1 j.2),?_⟩
  refine(dV _ _).aH R H λG T N L B=>⟨G,rfl,λab=>?_,λZ=>?_⟩
  .have S:=E.trans B
   have I:=C.ext L
   have i4:ap T x (bD b.ak b.aR (c.take k)):=ap.fZ I V
   refine⟨V,V,y,by simpa using S.af (D.aF u),V,V,y,by simpa using S.af (D.aF u),j.1,V,aF (bD b.ak b.aR (c.take k)) y,i4.pv j.1 V,j.1,V,?_⟩
   have au:=lo (c.take k) b.aR (-1000000000) (λw q=>(M w q).1) _ (fx (l:=bD b.ak b.aR (c.take k)) j.1 V)
   have ak:aF (bD b.ak b.aR (c.take k)) y<=1000000000:=by
    let⟨q',ai,al⟩:=kX (c.take k) b.aR y.toNat _ (ou (l:=bD b.ak b.aR (c.take k)) j.1 V);have:=(M q' (aq ai)).2;omega
   have ar:(c.take k).length<=1000000:=bE
   rw[aQ V V]
   rcases I.aF with ag|⟨q,X,tail,z,e2,e3,e4,e5⟩
   .rw[ag]at P;simp at P;omega
   .have ah:x.off=0:=by rw[z];rfl
    have aa:x.D=q:=by rw[z];rfl
    rw[ah,aa]
    have ac:0+y.toNat*1=y.toNat:=V
    rw[ac]
    have af:y.toNat<((bD b.ak b.aR (c.take k)).map Ce.i).length:=bE
    refine⟨e3.fJ (by simp only[be];omega),?_⟩
    intro m5
    have W:J p m5:=B.ah e2 _ _
    refine⟨J.tv B W H,U V _ ⟨W,?_⟩⟩
    rw[aU u,kH]
    simp only[bD,an (N.1 ab)]
    refine⟨by rw[dY,jR,<-dY (f:=Ce.i)];exact I.len,Or.inr ⟨q,X,tail,z,e2,?_,?_,e5⟩⟩
    .have:=cE.ah (m:=T) (o:=y.toNat) (r:=[.i (aF (bD b.ak b.aR (c.take k)) y -1)]) e3
     have z:iZ ((bD b.ak b.aR (c.take k)).map Ce.i++tail) y.toNat [.i (aF (bD b.ak b.aR (c.take k)) y -1)]=(gQ (bD b.ak b.aR (c.take k)) y (aF (bD b.ak b.aR (c.take k)) y -1)).map Ce.i++tail:=by
      simp only[iZ,gQ,tT];rw[Mi _ _ af]
     rw[z]at this;exact this
    .simp only[be,dY,jR]at e4⊢;exact e4
  .refine U V _ ⟨B,?_⟩
   rw[aU u,kH]
   simp only[bD,ae (fb N Z)]
   exact C.ext L
 .rw[bX V]at C
  exact⟨x,rfl,C.cx E.size,K⟩
def fQ{aT t x:O}(a:RV g q 2 d p aT t x k s)(L:1000<=w){c:bM}(j:s.heap[ix w]? =some c):
 aN cg 133 [vp q 0,vi w] g λD v=>∃b,D=.agg #[vi c.aP,vi c.j8,O.v b]/\ap v b c.aE/\J g v:=by
 apply uc (q,0)
 simp -zeta only[aC,aB]
 intro B
 have f:J g B:=(J.az g).aK _
 have l:=cX.ext f a.heap
 let⟨b,G,r,g1,g2⟩:=l.aF j
 have I:=l.len
 have K:=l.gS
 have A:=av j
 unfold ix at A r g1 g2
 have e:cT (w -1000)=w -1000:=aQ V V
 rw[e]
 refine⟨t,f.af a.qX,V,V,c.aP,r,c.j8,g1,b,g2,?_⟩
 intro C
 have m:J g C:=f.ah (ad _) _ _
 let⟨o,y,M,N,u⟩:=(cX.ext m a.heap).aF j
 unfold ix at u
 have z:o=b:=by
  have F:=f.af (a.qX);obtain⟨E,H,_,_,n⟩:=a.heap.aF j;unfold ix at n;have h:=f.af n;have i:=m.af n;rw[g2]at h;rw[u]at i;simp at h i;rw[O.Bz]at h i;rw[h,i]
 subst z
 exact⟨o,rfl,y,m⟩
def uD{aT L D:O}(C:RV g q 2 d p aT L D k s)(G:fL s.heap e){B:O}(o:ap g B c)(I:∀w∈c,fX s.heap w)(Y:c.length<=1000000):
 dt cg 182 [vp q 0,O.v B] g (lg s.heap c):=by
 apply rT (q,0)
 have X:=o.len
 refine dU (n:=c.length) V (λr a=>J g a/\∀w∈c.take r,1000<=w->(aM s.heap w).aP+eB c (ix w)<=999999) ⟨J.az _,aL⟩ ?_
 rintro r Z P μ T ⟨y,v⟩ N
 refine⟨λh=>?_,λh=>iN (db (by simp at h;omega) v) y⟩
 simp only[ar]at h
 let⟨x,l⟩:=cG c r
 have m:=I x (aq l)
 have M:=ij m.1
 refine ez (n:=c.length) V (λj(z:Int) a=>J g a/\z=eB (c.take j) (ix x)) ⟨y,by simp[eB]⟩ ?_
 rintro j z m2 Q μ2 S ⟨f,rfl⟩ A
 refine dit (λE=>?_) λE=>?_
 .let⟨u,t⟩:=cG c j
  have K:=km (c.take j) (ix x)
  have H:=iC (c.take j) (ix x)
  have F:(c.take j).length<=1000000:=bE
  have i:eB (c.take (j+1)) (ix x)=eB (c.take j) (ix x)+if u=x then 1 else 0:=by
   rw[aU t,lR];simp only[eB,M];omega
  refine⟨V,V,u,by simpa using f.af (o.aF t),V,V,x,by simpa using f.af (o.aF l),λa=>A V _ _ ⟨f,?_⟩,λa=>A V _ _ ⟨f,?_⟩⟩
  .simp at a;rw[i,an a];exact aQ V V
  .simp at a;rw[i,ae a];omega
 .rw[bX V]
  have K:=km c (ix x)
  have H:=iC c (ix x)
  let⟨u,W⟩:=bS m
  have U:=(G.cell _ (aq u)).hi
  refine⟨V,V,x,by simpa using f.af (o.aF l),?_⟩
  refine(fQ (C.ext f) m.1 u).mono ?_
  rintro _ m3 ⟨b,rfl,R,a⟩
  have t:cT ((aM s.heap x).aP+eB c (ix x))=(aM s.heap x).aP+eB c (ix x):=aQ V V
  refine⟨_,_,_,rfl,λi=>bV (λF=>?_) (f.trans a),λi=>N V _ ⟨f.trans a,bB l v λ_=>?_⟩⟩
  .have:=F x (aq l) m.1
   rw[t]at i;simp at i;omega
  .rw[t]at i;simp at i;omega
def sW{h:List bM}:lg h (kU c)<->lg h c:=by
 unfold lg;constructor
 .intro b w d a;have:=b w (lA.2 ⟨d,a⟩) a;rwa[vS]at this
 .intro b w d a;rw[vS];exact b w (lA.1 d).1 a
def UP{s:O}(h:ap g s c)(p:1<=c.length):ap g (O.cut s 1 s.len 1) (c.drop 1):=by
 have b:=h.len;have i:=h.cap;have l:=h.gS;cases s with
 |nil=>simp at b;omega
 |zD d v a=>simp at b;omega
 |mk d v r o=>
  simp at b i l;refine⟨by simp[O.cut];omega,by simp[O.cut];omega,by simp[O.cut];omega,λn x a=>?_⟩;rw[rW]at a;have q:=av a;let⟨f,j,jt⟩:=h.iA (1+n) x a;refine⟨f,j,λm e k=>?_⟩;have:=jt m e k;simp only[O.cut,O.jA,O.mT]at this⊢;rw[ae V];rw[<-this];congr 1;omega
def iz.pH(h:iz k b){t:Int}(d:0<=t)(e:t<b.ak.length)(f:∀w∈b.ak,w<=9223372036854775807): -9223372036854775808<=aF b.ak t/\aF b.ak t<=9223372036854775807:=by
 have c:=fx (l:=b.ak) d e;refine⟨?_,f _ c⟩;rcases h.RL _ c with a|a
 .have:=a.1;omega
 .omega
def JX{aT hp fr:O}(z:RV g q 2 d p aT hp fr k s)(M:fL s.heap e)(P:ap g t b.ak)(N:ap g h b.ba)(r:ap g u x.args)
 (L:iz k b)(ai:∀w∈b.ak,w<=9223372036854775807)(Z:∀l∈x.args,0<=l/\l<b.ak.length)(ax:1<=x.args.length/\x.args.length<=4)(ay:x.op=16\/x.op=17):
 dt cg 134 [vp q 0,fv b t v h,xv x u j] g (Fi s.heap b x):=by
 apply tC (q,0)
 simp -zeta only[aC,aB]
 intro m1 F
 have a:J g F:=((J.az g).aK _).aK _
 have m:∀i∈[m1.size,g.size],i<F.size:=by simp[F,m1];omega
 have ar:=r.len
 have aA:=P.len
 have aw:=N.len
 have ao:=r.cap
 clear_value F
 have c:0<=aF x.args 0/\aF x.args 0<b.ak.length:=Z _ (fx V V)
 have R:aF x.args 0<b.ba.length:=by have:=L.lr;have:=L.lh;omega
 have al:=L.pH c.1 c.2 ai
 refine⟨V,V,aF x.args 0,(r.ext a).pv V V,c.1,V,aF b.ak (aF x.args 0),(P.ext a).pv c.1 c.2,hp,a.af z.qX,?_⟩
 unfold Fi
 simp only[]
 generalize aD:aF b.ak (aF x.args 0)=w at*
 refine(iW (cX.ext a z.heap) al).aH (J.az _) m λi m3 y B _=>⟨i,rfl,λah=>bV (λf=>nb y ah f.1) (a.trans B),λag=>?_⟩
 have n:=yb y ag
 let⟨C,az⟩:=bS n
 have au:=(M.cell _ (aq C)).fl
 have am:=a.trans B
 refine((fQ (z.ext am) n.1 C)).aH B m ?_
 rintro _ m4 ⟨fl,rfl,ak,U⟩
 have S:=B.trans U
 refine⟨U,_,_,_,rfl,(oF ak V).aH (oh (nM (aM s.heap w).aE)) (λi y=>S.lt (m i y)) λps m5 o5 i5 h5=>⟨ps,rfl,V,V,V,?_⟩⟩
 have G:=S.trans h5
 have aa:=a.trans G
 have e1:(Int.toNat (1:Int))=1:=rfl
 have e2:(Int.toNat (u.len:Int))=u.len:=V
 rw[e1,e2]
 refine(rU (P.ext aa) (UP (r.ext aa) V) (λl o=>Z l (wF o)) bE).aH (by simp[cL];omega) (λi y=>G.lt (m i y)) λqs m6 o6 i6 I=>⟨qs,rfl,?_⟩
 have ab:=G.trans I
 refine(qE (i5.ext I) i6).aH ab m λb2 m7 W h7 A=>⟨b2,rfl,λad=>?_,λac=>bV (λf=>fb W ac f.2.1) (a.trans A)⟩
 have D:=W.1 ad
 refine(fQ (z.ext (a.trans A)) n.1 C).aH A m ?_
 rintro _ m8 ⟨an,rfl,av,K⟩
 have H:=A.trans K
 refine⟨K,_,_,_,rfl,λo=>?_,λo=>?_⟩
 .simp at o
  have E:=a.trans H
  refine⟨λl=>iN ⟨n,D,Or.inl o,λe=>by simp at l;omega⟩ E,λl=>⟨V,V,aF x.args 0,(r.ext E).pv V V,c.1,V,aF b.ba (aF x.args 0),(N.ext E).pv c.1 R,eT ?_ E⟩⟩
  simp only[aG,aj,ne_eq]at l⊢
  exact⟨λQ=>⟨n,D,Or.inl o,λ_=>Q⟩,λf=>f.2.2.2 V⟩
 .simp at o
  refine(uD (z.ext (a.trans H)) M (i5.ext ((I.trans h7).trans K)) (λT E=>M.field (aq C) (lA.1 E).1 (lA.1 E).2) (oh (nM (aM s.heap w).aE))).aH H m λb3 m9 X h9 T=>⟨b3,rfl,λaf=>?_,λae=>bV (λf=>?_) (a.trans T)⟩
  .have Y:=sW.1 (X.1 af)
   have E:=a.trans T
   refine⟨λl=>iN ⟨n,D,Or.inr Y,λe=>by simp at l;omega⟩ E,λl=>⟨V,V,aF x.args 0,(r.ext E).pv V V,c.1,V,aF b.ba (aF x.args 0),(N.ext E).pv c.1 R,eT ?_ E⟩⟩
   simp only[aG,aj,ne_eq]at l⊢
   exact⟨λQ=>⟨n,D,Or.inr Y,λ_=>Q⟩,λf=>f.2.2.2 V⟩
  .rcases f.2.2.1 with l|l
   .exact o l
   .exact fb X ae (sW.2 l)
def Iu{aT P Z:O}(b:RV g q 2 d p aT P Z k s)(G:nj k)(D:fL s.heap e)(hw: -9223372036854775808<=w/\w<=9223372036854775807):
 dt cg 131 [vp q 0,vi w] g (vx k s.heap w):=by
 apply sJ (q,0)
 simp -zeta only[aC,aB]
 refine⟨P,b.qX,(iW b.heap hw).then λi m1 x C=>⟨i,rfl,λai=>bV (λa=>nb x ai a.1) C,λah=>?_⟩⟩
 have z:=yb x ah
 let⟨F,al⟩:=bS z
 have K:=D.cell _ (aq F)
 have aE:=(K.oL al).2
 refine(fQ (b.ext C) z.1 F).mono ?_
 rintro _ f ⟨B,rfl,N,j⟩
 refine⟨_,_,_,rfl,?_⟩
 intro T h
 have an:=C.trans j
 have H:J f h:=((J.az f).aK _).ah (ad _) _ _
 have s4:h.size=f.size+1:=by simp[h,T,aw]
 have hB:af h f.size 1=some (vi (aM s.heap w).j8):=(cE.ah (m:=T) (o:=0) (r:=[.i (aM s.heap w).aP,.i (aM s.heap w).j8,.s B]) (cE.push f _ _)).bZ 1
 have y:∀i∈[f.size],i<h.size:=by simp[s4]
 clear_value h
 have c:=an.trans H
 have L:=b.ext c
 have aD:=b.fy.cF.len
 have aA:=G.nN.len
 have ar:(eR k.bo).length<=12:=by
  have:=qW G.nN.types k.bo.length;rw[mP _ _ (ad _)]at this;exact this
 refine⟨d,L.bo,(qC L.fy.bo G.nN.types).aH (J.az _) y λm5 t _=>⟨_,rfl,t.da hB,p,(b.ext (c.trans t)).cF,?_⟩⟩
 have aF:=c.trans t
 have W:cT ((aM s.heap w).j8 -((eR k.bo).length:Int))=(aM s.heap w).j8 -cq k:=aQ V V
 have X:cT ((p.len:Int) -1)=(p.len:Int) -1:=aQ V V
 rw[W,X]
 refine(aY _ _ _ _).aH t y λb2 m6 M h6 l=>⟨b2,rfl,λae=>?_,λac=>bV (λa=>fb M ac ⟨a.2.1,oh a.2.2.1⟩) (c.trans l)⟩
 have R:=M.1 ae
 have A:=c.trans l
 have E:=b.ext A
 let⟨ao,Q⟩:=cG k.cF (((aM s.heap w).j8 -cq k).toNat)
 have am:dN k ((aM s.heap w).j8 -cq k)=ao:=by simp[dN,Q]
 obtain⟨U,l',c',ab,ak,av,g0,g1,_⟩:=E.fy.cF.aF Q
 have au:=ab.len
 have az:=ak.len
 have ay:=N.len
 have ax:=K.fl
 have Y:cT ((B.len:Int)+1)=(B.len:Int)+1:=aQ V V
 rw[Y]
 unfold vx
 rw[am]
 refine⟨p,E.cF,V,V,U,g0,λu=>⟨p,E.cF,V,V,l',g1,λv=>⟨λn=>?_,λn=>?_⟩,λv=>bV (λa=>?_) A⟩,λu=>bV (λa=>?_) A⟩
 .simp at u v n
  exact iN ⟨z,R.1,V,V,V,Or.inl n⟩ A
 .simp at u v n
  refine(oF (N.ext (H.trans l)) V).aH (oh (nM (aM s.heap w).aE)) (λi x=>l.lt (y i x)) λps m7 o7 i7 aa=>⟨ps,rfl,?_⟩
  have I:=l.trans aa
  refine(uD (b.ext (c.trans I)) D i7 (λag S=>D.field (aq F) (lA.1 S).1 (lA.1 S).2) (oh (nM (aM s.heap w).aE))).aH I y λb3 m8 ag ap S=>⟨b3,rfl,eT ?_ (c.trans S)⟩
  rw[ag,sW]
  refine⟨λaj=>⟨z,R.1,V,V,V,Or.inr aj⟩,λa=>?_⟩
  rcases a.2.2.2.2.2 with j|j
  .exact absurd j n
  .exact j
 .have:=a.2.2.2.2.1;simp at v;omega
 .have:=a.2.2.2.1;simp at u;omega
def Iv{aT M E:O}(C:RV g q 2 d p aT M E k s)(B:ap g h b.ba)(G:ap g u x.args)(T:0<=x.bY/\x.bY<=b.ba.length)(U:b.ba.length<=1000000)
 (K:∀w∈b.ba,w≠0->1000<=w/\∃o,s.heap[ix w]? =some o):
 dt cg 128 [vp q 0,fv b t v h,xv x u j] g (Fj s.heap b x):=by
 apply sK (q,0)
 simp -zeta only[aC,aB]
 intro n f
 have c:J g f:=((J.az g).aK _).aK _
 have L:∀D∈[n.size,g.size],D<f.size:=by simp[f,n];omega
 have F:af f n.size 4=some (O.v u):=(cE.push n _ _).bZ 4
 have Q:=G.len
 have S:=B.len
 clear_value f
 unfold Fj
 refine⟨λm=>iN (λr=>absurd (by simpa using m) r) c,λm=>?_⟩
 simp at m
 have e:cT (x.bY -1)=x.bY -1:=aQ V V
 rw[e]
 have A:=(B.ext c).pv (i:=x.bY -1) V V
 refine⟨V,V,aF b.ba (x.bY -1),A,λa=>iN (λ_ r=>absurd (by simpa using a) r) c,λa=>?_⟩
 simp at a
 let⟨N,o,z⟩:=K _ (fx (l:=b.ba) (i:=x.bY -1) V V) a
 refine⟨V,V,aF b.ba (x.bY -1),A,(fQ (C.ext c) N z).aH (J.az _) L ?_⟩
 rintro _ W ⟨P,rfl,I,r⟩
 have R:=I.len
 have H:aM s.heap (aF b.ba (x.bY -1))=o:=by simp[aM,z]
 refine⟨r,_,_,_,rfl,r.da F,eT ?_ (c.trans r)⟩
 rw[H]
 simp
 exact⟨λy _ _=>V,λy=>oh (y m a)⟩
def qO(k:cN)(x:Instr):∀(c t:List Int)(a:Nat),fG k x a (c++t)=fG k x a c++fG k x (a+c.length) t
 |[],t,a=>by simp[fG]
 |u::c,t,a=>by
  have:=qO k x c t (a+1);simp only[cZ,fG,this,aZ];have e:a+(c.length+1)=a+1+c.length:=V;rw[e];split<;>simp
def wm{aT l Y:O}(o:RV g q 2 d p aT l Y k s)(R:ap g t b.ak)(D:ap g u x.args)(Z:iz k b)(af:∀w∈b.ak,w<=9223372036854775807)
 (ag:∀y∈x.args,0<=y/\y<b.ak.length)(hc:zj k x)(ai:x.op=9\/x.op=24):
 dt cg 129 [vp q 0,fv b t v h,xv x u j] g (Ko k s.heap b x):=by
 apply sI (q,0)
 simp -zeta only[aC,aB]
 intro W i
 have G:J g i:=((J.az g).aK _).aK _
 have F:∀r∈[W.size,g.size],r<i.size:=by simp[i,W];omega
 have aa:=D.len
 have ak:=R.len
 clear_value i
 refine dU (n:=x.args.length) (aa▸D.gS) (λa c=>J i c/\∀y∈fG k x 0 (x.args.take a),1000<=aF b.ak y->fX s.heap (aF b.ak y)) ⟨J.az _,by simp[fG]⟩ ?_
 rintro a m3 aj μ hk ⟨T,Q⟩ I
 have m:=G.trans T
 refine⟨λh=>?_,λh=>iN (by simp at h;rwa[bX V]at Q) m⟩
 simp only[ar]at h
 let⟨y,H⟩:=cG x.args a
 have f:=ag y (aq H)
 have C:=o.ext m
 have S:fG k x 0 (x.args.take (a+1))=fG k x 0 (x.args.take a)++fG k x a [y]:=by
  rw[aU H,qO];congr 2;simp;omega
 have E:(nu k x a=true->1000<=aF b.ak y->fX s.heap (aF b.ak y))->∀z∈fG k x 0 (x.args.take (a+1)),1000<=aF b.ak z->fX s.heap (aF b.ak z):=λhh z c=>by
  rw[S]at c;rcases List.mem_append.1 c with c|c
  .exact Q z c
  .simp only[fG]at c;split at c
   .rename_i e;simp at c;subst c;exact hh e
   .simp at c
 have ah:nu k x a=true->y∈fG k x 0 x.args:=λe=>by
  have X:x.args=x.args.take (a+1)++x.args.drop (a+1):=(dm _ _).symm;rw[X,qO,S];refine bI _ (eD _ ?_);simp only[fG];rw[an e];simp
 refine⟨V,V,y,by simpa using m.af (D.aF H),f.1,V,aF b.ak y,by simpa using m.af (R.pv f.1 f.2),d,C.bo,p,C.cF,?_⟩
 refine(rR C.fy hc u j a).aH T F λr m4 M h4 K=>⟨r,rfl,λae=>?_,λad=>I V _ ⟨K,E λe=>absurd ⟨ai,e⟩ (fb M ad)⟩⟩
 have e:=(M.1 ae).2
 refine(dV _ _).aH K F λb2 m5 N h5 A=>⟨b2,rfl,λac=>?_,λab=>I V _ ⟨A,E λ_ l=>absurd l (fb N ab)⟩⟩
 have U:=G.trans A
 refine⟨l,(o.ext U).qX,(iW (cX.ext U o.heap) (Z.pH f.1 f.2 af)).aH A F λb3 m6 P h6 L=>⟨b3,rfl,λB=>bV (λhM=>nb P B (hM y (ah e) (N.1 ac))) (G.trans L),λB=>I V _ ⟨L,E λ_ _=>yb P B⟩⟩⟩
end
section
structure zh(im:cN)(s:St)(fs:List aX)(f:aX)(x:Instr):Prop where
 ok:cU im s
 run:s.cz=3
 fr:s.ao=fs++[f]
 cur:eu im f=x
 ur:∀g∈s.ao,∀w∈g.ak,w<=9223372036854775807
section
variable{b:cN}{s:St}{c:List aX}{f:aX}{x:Instr}
def zh.F(a:zh b s c f x):iz b f:=a.ok.ao f (by rw[a.fr];simp)
def zh.Mu(a:zh b s c f x):∀w∈f.ak,w<=9223372036854775807:=a.ur f (by rw[a.fr];simp)
def zh.I(a:zh b s c f x):∃p,b.cF[f.fE.toNat]? =some p/\dN b f.fE=p/\Hr b p/\p.dq[f.pc.toNat]? =some x/\iO b p f.pc.toNat x:=by
 have:=a.F.Jd a.ok.fy;rwa[a.cur]at this
def zh.FW(a:zh b s c f x):f.ak.length=f.aR.length/\f.ba.length=f.aR.length/\1<=f.aR.length/\f.aR.length<=2000:=by
 obtain⟨p,_,e,i,_,_⟩:=a.I;have d:=a.F.lr;have g:=a.F.lo;have h:=a.F.lh;rw[e]at d g h;have:=i.ak;omega
def zh.arg(a:zh b s c f x):∀y∈x.args,0<=y/\y<f.ak.length:=λy h=>by
 obtain⟨p,_,e,_,_,g⟩:=a.I;have d:=a.F.lr;rw[e]at d;have:=g.args y h;omega
def zh.dst(a:zh b s c f x):0<=x.dst/\x.dst<f.aR.length:=by
 obtain⟨p,_,e,_,_,g⟩:=a.I;have d:=a.F.lo;rw[e]at d;have:=g.dst;omega
def zh.call(a:zh b s c f x):zj b x:=let⟨_,_,_,_,_,d⟩:=a.I;d.call
def zh.Zq(a:zh b s c f x):0<=x.op/\x.op<=24/\x.op≠7/\x.op≠8/\x.op≠12/\x.op≠13:=by
 obtain⟨p,_,_,e,_,d⟩:=a.I;exact((Je e.ak.2.2 a.ok.fy.nN.len.2 λq g=>(a.ok.fy.nN.dz q g).1).1 d).1
def zh.ln(g:zh b s c f x):x.args.length<=4/\((x.op=5\/x.op=14\/x.op=15\/x.op=18\/x.op=23\/x.op=19\/x.op=20\/x.op=21)->x.args.length=1)/\((x.op=1\/x.op=2\/x.op=3\/x.op=4\/x.op=11)->x.args.length=2)/\
 ((x.op=16\/x.op=17)->1<=x.args.length)/\(x.op=6->0<=x.bY/\x.bY<=f.ba.length/\0<=x.bP/\x.bP<12/\x.args.length<=3)/\(x.op=10->0<=x.bP/\x.bP<4/\x.args.length<=3)/\(x.op=0->-999<=x.bP/\x.bP<=999):=by
 obtain⟨z,_,r,y,_,u⟩:=g.I
 have a:=u.op
 have t:=g.F.lh
 rw[r]at t
 have d:=g.ok.fy.nN
 have v:(eR b.bo).length<=12:=by
  have:=qW d.types b.bo.length;rw[mP _ _ (ad _)]at this;exact this
 have w:=I9 d.types x.bP
 unfold lY at a
 by_cases h:x.op=0
 .rw[an h]at a;omega
 rw[ae h]at a
 by_cases i:x.op=1\/x.op=2\/x.op=3\/x.op=4\/x.op=11
 .rw[an i]at a;omega
 rw[ae i]at a
 by_cases j:x.op=5\/x.op=14\/x.op=15\/x.op=18\/x.op=23
 .rw[an j]at a;omega
 rw[ae j]at a
 by_cases k:x.op=6
 .rw[an k]at a;omega
 rw[ae k]at a
 by_cases l:x.op=9\/x.op=24
 .rw[an l]at a
  let⟨q,n,e,o⟩:=a
  have:=(d.dz q (aq e)).1;omega
 rw[ae l]at a
 by_cases m:x.op=10
 .rw[an m]at a
  obtain⟨⟨q,n,e,o⟩,_⟩:=a
  have:=(d.dz q (aq e)).1
  have:=av e
  have:=d.len;omega
 rw[ae m]at a
 by_cases n:x.op=16\/x.op=17
 .rw[an n]at a;omega
 rw[ae n]at a
 by_cases o:x.op=19
 .rw[an o]at a;omega
 rw[ae o]at a
 by_cases p:x.op=20
 .rw[an p]at a;omega
 rw[ae p]at a
 by_cases q:x.op=22
 .rw[an q]at a;omega
 rw[ae q]at a
 by_cases e:x.op=21
 .rw[an e]at a
  have:=a.1;omega
 rw[ae e]at a;exact a.elim
def zh.KX(d:zh b s c f x):∀w∈f.ba,w≠0->1000<=w/\∃e,s.heap[ix w]? =some e/\e.aP<0:=λw h k=>by
 have g:1000<=w:=by have:=d.F.ba w h;omega
 refine⟨g,?_⟩;have j:0<holds s.ao (ix w):=by
  rw[d.fr,eJ,iX];have:=vE c (ix w);have:=uy (l:=f.ba) (f:=ix w) (by rw[ij g];exact h);omega
 exact dP λi=>by have:=d.ok.ng (ix w) i;omega
def zh.OF(d:zh b s c f x):∀o∈f.aR,0<=o/\o<=999999:=λo h=>by
 refine⟨(d.F.PK o h),?_⟩;rcases dQ (0<o)with i|i
 .let⟨k,e⟩:=List.mem_iff_getElem?.1 h;have:=d.FW;let⟨w,j⟩:=cG f.ak k (oh (av e));have m:=Lg d.F.PK j e (d:=ix w) (by rw[ij ((d.F.aR k o w e j).2 i)]);have n:o<=fA s.ao (ix w):=by
   rw[d.fr,fW,kN];have:=Kf (b:=c) (λg l=>d.ok.ao g (by rw[d.fr];exact bI _ l)) (ix w);omega
  let⟨g,hd,l⟩:=d.ok.heap.lv (ix w) V;have p:=d.ok.heap.ex _ g hd l;have q:=qR s.heap (ix w);have r:=(d.ok.heap.cell g (aq hd)).hi;omega
 .omega
def zh.Kh(a:zh b s c f x):∀r∈bU b x,0<=r/\r<f.ak.length:=λr d=>a.arg r (BW d)
end
def LP{o:E}{mb:Nat}{ah aw aT d fr:O}{M:cN}{K:St}(Q:RV o mb 2 ah aw aT d fr M K){fs:List aX}{m:aX}{x:Instr}(C:zh M K fs m x){Z ac h S am ow:O}(R:ap o Z m.ak)(U:ap o h m.ba)(L:ap o S x.args){aR:List Int}(X:ap o ow aR)(aA:aR.length=m.aR.length):
 dt cg 73 [vp mb 0,fv m Z ac h,xv x S am,O.v ow] o (kT M K m x aR):=by
 apply ud (mb,0)
 simp -zeta only[aC,aB]
 intro Y P
 have b:J o P:=((J.az o).aK _).aK _
 have i:∀g∈[Y.size,o.size],g<P.size:=by simp[P,Y];omega
 have ai:cE P Y.size dW [.i x.op,.i x.dst,.i x.bP,.i x.bY,.s S,.s am]:=cE.push Y _ _
 have ao:cE P o.size dO [.i m.fE,.i m.pc,.i m.dst,.s Z,.s ac,.s h]:=(cE.push o _ _).ext (J.push Y _)
 have ax:=L.len
 have aE:=R.len
 have ay:=U.len
 have aD:=X.len
 have hd:=C.dst
 have az:=C.FW
 have G:=C.ln
 have hI:=C.ok.heap
 clear_value P
 refine⟨λN=>J P N/\(∀ac∈aR,0<=ac)/\(lO x.op->aF aR x.dst<=0),?_,?_⟩
 .refine(AZ (X.ext b)).aH (J.az _) i λg m3 c n _=>⟨g,rfl,λu=>bV (λl=>nb c u l.nn) (b.trans n),λz=>?_⟩
  refine(xC _ _).aH n i λb2 A y w a=>⟨b2,rfl,λu=>?_,λv=>⟨a,yb c z,λe=>absurd e (fb y v)⟩⟩
  refine⟨hd.1,V,aF aR x.dst,(X.ext (b.trans a)).pv hd.1 V,λk=>bV (λl=>?_) (b.trans a),λk=>⟨a,yb c z,λ_=>by simpa using k⟩⟩
  have:=l.dst (y.1 u);simp at k;omega
 .rintro m3 ⟨n,q,p⟩
  have f:=b.trans n
  have t:=Q.ext f
  have mk:∀{ad:Prop},(kT M K m x aR->ad)->(ad->kT M K m x aR)->(kT M K m x aR<->ad):=λI h2=>⟨I,h2⟩
  have B:1<=x.args.length->0<=aF x.args 0/\aF x.args 0<m.ak.length:=λI=>C.arg _ (fx V V)
  have D:∀{N},J o N->1<=x.args.length->af N S.D (S.off+Int.toNat (0:Int)*1)=some (vi (aF x.args 0)):=λhx I=>(L.ext hx).pv V V
  have F:∀{N},J o N->1<=x.args.length->af N Z.D (Z.off+Int.toNat (aF x.args 0)*1)=some (vi (aF m.ak (aF x.args 0))):=λhx I=>(R.ext hx).pv (B I).1 (B I).2
  refine⟨λe=>?_,λe1=>?_⟩
  .simp only[bQ,aG]at e
   refine(Eh (R.ext f) (L.ext f) C.arg).aH n i λg A c w a=>⟨g,rfl,eT (c.trans ?_) (b.trans a)⟩
   refine⟨λd=>?_,λh=>h.nH V⟩
   refine⟨q,p,?_,?_,?_,?_,?_,?_,?_,?_,?_,?_,?_⟩<;>intro r<;>first|(exfalso;omega)|exact d
  simp only[br,aj]at e1
  refine⟨λe=>?_,λe2=>?_⟩
  .simp only[aG]at e
   have j:=G.2.2.2.2.1 e
   refine(Iv t (U.ext f) (L.ext f) ⟨j.1,j.2.1⟩ V (λaa W T=>by obtain⟨I,s,H,_⟩:=C.KX aa W T;exact⟨I,s,H⟩)).aH n i λg A c w a=>⟨g,rfl,eT (c.trans ?_) (b.trans a)⟩
   refine⟨λd=>?_,λh=>h.jc e⟩
   refine⟨q,p,?_,?_,?_,?_,?_,?_,?_,?_,?_,?_,?_⟩<;>intro r<;>first|(exfalso;omega)|exact d
  simp only[aj]at e2
  refine⟨λe=>?_,λe3=>?_⟩
  .simp only[aG]at e
   refine(wm t (R.ext f) (L.ext f) C.F C.Mu C.arg C.call (Or.inl e)).aH n i λg A c w a=>⟨g,rfl,eT (c.trans ?_) (b.trans a)⟩
   refine⟨λd=>?_,λh=>h.cR (Or.inl e)⟩
   refine⟨q,p,?_,?_,?_,?_,?_,?_,?_,?_,?_,?_,?_⟩<;>intro r<;>first|(exfalso;omega)|exact d
  simp only[aj]at e3
  refine⟨λe=>?_,λe4=>?_⟩
  .simp only[aG]at e
   refine(wm t (R.ext f) (L.ext f) C.F C.Mu C.arg C.call (Or.inr e)).aH n i λg A c w a=>⟨g,rfl,λu=>?_,λz=>bV (λl=>fb c z (l.cR (Or.inr e))) (b.trans a)⟩
   refine(mg (X.ext (b.trans a))).aH a i λb2 m5 y k s=>⟨b2,rfl,λag=>?_,λv=>bV (λl=>fb y v (l.zero (Or.inl e)).1) (b.trans s)⟩
   refine(mg (U.ext (b.trans s))).aH s i λb3 m6 H T j=>⟨b3,rfl,eT (H.trans ?_) (b.trans j)⟩
   refine⟨λd=>?_,λh=>(h.zero (Or.inl e)).2⟩
   refine⟨q,p,?_,?_,?_,?_,?_,?_,?_,?_,?_,?_,?_⟩<;>intro r<;>first|(exfalso;omega)|exact c.1 u|exact⟨y.1 ag,d⟩
  simp only[aj]at e4
  refine⟨λe=>?_,λe5=>?_⟩
  .simp only[aG]at e
   have W:=G.2.1 V
   refine(mg (X.ext f)).aH n i λb2 m5 y k s=>⟨b2,rfl,λag=>?_,λv=>bV (λl=>fb y v (l.zero (Or.inr e)).1) (b.trans s)⟩
   refine(mg (U.ext (b.trans s))).aH s i λb3 m6 H T j=>⟨b3,rfl,λau=>?_,λaq=>bV (λl=>fb H aq (l.zero (Or.inr e)).2) (b.trans j)⟩
   have ab:=b.trans j
   have ak:=Q.ext ab
   have aa:=ak.ao.len
   have iH:∀d:1<K.ao.length\/aF m.ak (aF x.args 0)<1000,kT M K m x aR:=λd=>by
    refine⟨q,p,?_,?_,?_,?_,?_,?_,?_,?_,?_,?_,?_⟩<;>intro r<;>first|(exfalso;omega)|exact⟨y.1 ag,H.1 au⟩|exact d
   refine⟨fr,ak.Ou,λh8=>iN (iH (Or.inl (by simp at h8;omega))) ab,λh8=>?_⟩
   refine⟨V,V,_,D ab V,(B V).1,oh ((B V).2),_,F ab V,(dV _ _).aH j i λb4 m7 al h9 ae=>⟨b4,rfl,eT ?_ (b.trans ae)⟩⟩
   simp at h8
   constructor
   .intro an
    exact iH (Or.inr (oh (nb al an)))
   .intro l
    rcases l.ret e with an|an
    .omega
    .have:¬b4=true:=λav=>by have:=al.1 av;omega
     simpa using this
  simp only[aj]at e5
  refine⟨λe=>?_,λe6=>?_⟩
  .simp only[aG]at e
   have W:=G.2.2.1 V
   have j:=B V
   refine⟨V,V,_,D f V,j.1,V,_,F f V,(Iu t C.ok.fy hI (C.F.pH j.1 j.2 C.Mu)).aH n i λg A c w a=>⟨g,rfl,eT (c.trans ?_) (b.trans a)⟩⟩
   refine⟨λd=>?_,λh=>h.apply e⟩
   refine⟨q,p,?_,?_,?_,?_,?_,?_,?_,?_,?_,?_,?_⟩<;>intro r<;>first|(exfalso;omega)|exact d
  simp only[aj]at e6
  refine⟨λe=>?_,λe7=>?_⟩
  .simp only[aG]at e
   have W:=G.2.1 V
   have j:=B V
   refine⟨V,V,_,D f V,j.1,V,_,F f V,d,t.qX,(iW t.heap (C.F.pH j.1 j.2 C.Mu)).aH n i λg A c w a=>⟨g,rfl,λu=>?_,λz=>bV (λl=>fb c z (l.WT e).1) (b.trans a)⟩⟩
   have v:=c.1 u
   refine(fQ (Q.ext (b.trans a)) v.1 (bS v).1).aH a i ?_
   rintro _ m5 ⟨fl,rfl,aa,k⟩
   refine⟨k,_,_,_,rfl,eT ?_ (b.trans (a.trans k))⟩
   simp only[ar]
   refine⟨λd=>?_,λh=>(h.WT e).2⟩
   refine⟨q,p,?_,?_,?_,?_,?_,?_,?_,?_,?_,?_,?_⟩<;>intro r<;>first|(exfalso;omega)|exact⟨v,d⟩
  simp only[aj]at e7
  refine⟨λe=>?_,λe8=>?_⟩
  .simp only[aG]at e
   have W:=G.2.1 V
   have j:=B V
   refine⟨V,V,_,D f V,j.1,V,_,F f V,(dV _ _).aH n i λg A c w a=>⟨g,rfl,eT (c.trans ?_) (b.trans a)⟩⟩
   refine⟨λd=>?_,λh=>h.drop e⟩
   refine⟨q,p,?_,?_,?_,?_,?_,?_,?_,?_,?_,?_,?_⟩<;>intro r<;>first|(exfalso;omega)|exact d
  simp only[aj]at e8
  refine⟨λe=>?_,λe9=>?_⟩
  .simp only[bQ,aG]at e
   refine(JX t hI (R.ext f) (U.ext f) (L.ext f) C.F C.Mu C.arg ⟨G.2.2.2.1 e,G.1⟩ e).aH n i λg A c w a=>⟨g,rfl,eT (c.trans ?_) (b.trans a)⟩
   refine⟨λd=>?_,λh=>h.Ny e⟩
   refine⟨q,p,?_,?_,?_,?_,?_,?_,?_,?_,?_,?_,?_⟩<;>intro r<;>first|(exfalso;omega)|exact d
  simp only[br,aj]at e9
  refine⟨λe=>?_,λab=>?_⟩
  .simp only[aG]at e
   have W:=G.2.1 V
   have j:=B V
   refine⟨d,t.qX,V,V,_,D f V,j.1,V,_,F f V,(iW t.heap (C.F.pH j.1 j.2 C.Mu)).aH n i λg A c w a=>⟨g,rfl,λu=>?_,λz=>bV (λl=>fb c z (l.load e).1) (b.trans a)⟩⟩
   have v:=c.1 u
   have H:=b.trans a
   refine⟨V,V,_,D H V,j.1,V,_,F H V,(fQ (Q.ext H) v.1 (bS v).1).aH a i ?_⟩
   rintro _ m5 ⟨fl,rfl,aa,k⟩
   have ag:=aa.len
   refine⟨k,_,_,_,rfl,k.da ((ai.ext a).bZ 2),eT ?_ (b.trans (a.trans k))⟩
   simp only[ar]
   refine⟨λd=>?_,λh=>oh ((h.load e).2)⟩
   refine⟨q,p,?_,?_,?_,?_,?_,?_,?_,?_,?_,?_,?_⟩<;>intro r<;>first|(exfalso;omega)|exact⟨v,V⟩
  simp only[aj]at ab
  refine⟨λe=>?_,λag=>?_⟩
  .simp only[aG]at e
   have W:=G.2.1 V
   have j:=B V
   refine⟨d,t.qX,V,V,_,D f V,j.1,V,_,F f V,(iW t.heap (C.F.pH j.1 j.2 C.Mu)).aH n i λg A c w a=>⟨g,rfl,λu=>?_,λz=>bV (λl=>fb c z (l.E8 e).1) (b.trans a)⟩⟩
   have v:=c.1 u
   have H:=b.trans a
   have l:=Q.ext H
   refine⟨ah,l.bo,V,V,_,D H V,j.1,V,_,F H V,(Au l.fy.bo C.ok.fy.nN.types _).aH a i ?_⟩
   rintro _ m5 ⟨cs,rfl,ak,k⟩
   have s:=a.trans k
   refine⟨k,cs,rfl,k.da (F H V),k.da (D H V),k.da ((ai.ext a).bZ 4),k.da ((ao.ext a).bZ 3),(fQ (Q.ext (b.trans s)) v.1 (bS v).1).aH s i ?_⟩
   rintro _ m6 ⟨fl,rfl,aa,T⟩
   refine⟨T,_,_,_,rfl,(dw (ak.ext T) _).aH (s.trans T) i λb2 m7 y h8 ae=>⟨b2,rfl,eT (y.trans ?_) (b.trans ae)⟩⟩
   refine⟨λd=>?_,λh=>(h.E8 e).2⟩
   refine⟨q,p,?_,?_,?_,?_,?_,?_,?_,?_,?_,?_,?_⟩<;>intro r<;>first|(exfalso;omega)|exact⟨v,d⟩
  .simp only[aj]at ag
   refine iN ?_ f
   refine⟨q,p,?_,?_,?_,?_,?_,?_,?_,?_,?_,?_,?_⟩<;>intro r<;>exfalso<;>omega
end
section
variable{p:Nat->Prop}{o n:Nat}{i:Int}{f:O}
structure dp(p:Nat->Prop)(ro:Nat->Nat)(m:E)(ro':Nat->Nat)(m':E):Prop where
 size:m.size<=m'.size
 gT:∀b,b<m.size->ro' b=ro b
 new:∀b,m'.size<=b->ro' b=0
 eA:∀b,b<m.size->¬p (ro b)->m'[b]? =m[b]?
def dp.az(p:Nat->Prop){a:Nat->Nat}{m:E}(h:∀b,m.size<=b->a b=0):dp p a m a m:=⟨ad _,λ_ _=>rfl,h,λ_ _ _=>rfl⟩
def dp.trans{g i j:Nat->Nat}{d e f:E}(h:dp p g d i e)(k:dp p i e j f):dp p g d j f:=
 ⟨bH h.size k.size,λb a=>by rw[k.gT b (aO a h.size),h.gT b a],k.new,λb a c=>by
  rw[k.eA b (aO a h.size) (by rw[h.gT b a];exact c),h.eA b a c]⟩
def dp.mono{q:Nat->Prop}{b c:Nat->Nat}{m a:E}(h:dp p b m c a)(g:∀k,p k->q k):dp q b m c a:=⟨h.size,h.gT,h.new,λd e i=>h.eA d e λf=>i (g _ f)⟩
def dp.eG(p:Nat->Prop){c:Nat->Nat}{m d:E}(h:J m d)(e:∀b,m.size<=b->c b=0):dp p c m c d:=⟨h.size,λ_ _=>rfl,λb a=>e b (bH h.size a),λb a _=>h.same b a⟩
def dp.ah{a:Nat->Nat}{m:E}(g:∀b,m.size<=b->a b=0){b:Nat}(f:p (a b))(o:Nat)(l:List Ce):dp p a m a (ah m b o l):=
 ⟨tU (aw _ _ _ _).symm,λ_ _=>rfl,λc d=>g c (by rw[aw]at d;exact d),λc _ h=>bd _ _ _ _ λe=>h (e▸f)⟩
abbrev HC:=dp (λk=>k=3\/k=5\/k=6)
abbrev To:=dp (λk=>k≠0/\k≠9)
def dp.cx{g i:Nat->Nat}{c m f:E}(h:To g m i f)(e:J c m)(d:∀b,b<c.size->g b=0):J c f/\∀b,b<c.size->i b=0:=by
 have j:=e.size;exact⟨⟨bH j h.size,λb a=>by rw[h.eA b V (by simp[d b a]),e.same b a]⟩,λb a=>by rw[h.gT b V,d b a]⟩
def dp.dv{e f:Nat->Nat}{m d:E}(h:To e m f d){l:List Nat}(c:∀b∈l,b<m.size/\e b=0):eF l m d:=λb a=>h.eA b (c b a).1 (by simp[(c b a).2])
structure iF(ro:Nat->Nat)(m:E)(e sz k:Nat)(s:O)(l:List Ce):Prop where
 len:l.length=s.len*sz
 le:s.len<=s.cap
 aF:s.cap=0\/∃b c tail,s=.mk b 0 s.len c/\ro b=k/\cE m b e (l++tail)/\(l++tail).length=c*sz
section
variable{c g:Nat->Nat}{b d:E}{e a k:Nat}{s:O}{l:List Ce}
def iF.Dj(h:iF c b e a k s l)(f:s.cap=0):l=[]/\s.len=0:=by
 have:=h.le;have d:s.len=0:=V;exact⟨List.length_eq_zero_iff.1 (by rw[h.len,d];simp),d⟩
def iF.iA(h:iF c b e a k s l):fP b s.D s.off l:=by
 rcases h.aF with f|⟨j,d,tail,h1,h2,h3,h4⟩
 .rw[(h.Dj f).1];intro i d g;simp at g
 .rw[h1];exact h3.iA.MI
def iF.wr(h:iF c b e a k s l)(d:o+n<=l.length):fJ b s.D (s.off+o) n:=by
 rcases h.aF with f|⟨g,i,tail,h1,h2,h3,h4⟩
 .rw[(h.Dj f).1]at d;intro m j;simp at d;omega
 .rw[h1];simp only[O.jA,O.mT,bT];exact h3.fJ bE
def iF.eA(h:iF c b e a k s l)(p:s.cap≠0->d[s.D]? =b[s.D]?)(q:s.cap≠0->g s.D=c s.D):iF g d e a k s l:=by
 refine⟨h.len,h.le,?_⟩;rcases h.aF with o|⟨m,n,tail,h1,h2,h3,h4⟩
 .exact Or.inl o
 .by_cases f:s.cap=0
  .exact Or.inl f
  .have i:=p f;have j:=q f;rw[h1]at i j;exact Or.inr ⟨m,n,tail,h1,j.trans h2,h3.congr i,h4⟩
def iF.D(h:iF c b e a k s l)(f:s.cap≠0):s.D<b.size/\c s.D=k:=by
 rcases h.aF with d|⟨g,i,tail,h1,h2,h3,h4⟩
 .exact absurd d f
 .rw[h1];exact⟨h3.lt,h2⟩
def iF.eH(h:iF c b e a k s l)(i:dp p c b g d)(j:¬p k):iF g d e a k s l:=
 h.eA (λf=>i.eA _ (h.D f).1 (by rw[(h.D f).2];exact j)) (λf=>i.gT _ (h.D f).1)
def iF.set(h:iF c b e a k s l){new:List Ce}(w:o+new.length<=l.length):iF c (ah b s.D (s.off+o) new) e a k s (iZ l o new):=by
 refine⟨by rw[kO];exact h.len,h.le,?_⟩;rcases h.aF with u|⟨j,n,tail,h1,h2,h3,h4⟩
 .exact Or.inl u
 .refine Or.inr ⟨j,n,tail,h1,h2,?_,by simp only[be,kO]at h4⊢;exact h4⟩;have p:s.D=j:=by rw[h1];rfl
  have q:s.off=0:=by rw[h1];rfl
  rw[p,q,bT];have:=cE.ah (m:=b) (o:=o) (r:=new) h3;have t:iZ (l++tail) o new=iZ l o new++tail:=by
   have f:(iZ l o new).length=l.length:=kO _ _ _;apply gU;intro i;rcases aW i l.length with d|d
   .have g:(iZ l o new++tail)[i]? =(iZ l o new)[i]? :=ax (by rw[f];exact d);rw[g,vV,vV];simp only[be];by_cases v:o<=i/\i<o+new.length
    .rw[an V,an V]
    .rw[ae V,ae V,ax d]
   .have g:(iZ l o new++tail)[i]? =tail[i -l.length]? :=by rw[aI (by rw[f];exact d),f]
    rw[g,vV,ae V,aI d]
  rw[t]at this;exact this
def iF.cut(h:iF c b e a k s l){n:Nat}(m:n<=s.len):iF c b e a k (s.cut 0 n a) (l.take (n*a)):=by
 have j:=h.le;have q:=h.len;rcases h.aF with i|⟨f,g,tail,h1,h2,h3,h4⟩
 .have d:n=0:=V;cases s with
  |nil=>exact⟨by simp[d,O.cut],by simp[O.cut],Or.inl rfl⟩
  |zD f o p=>exact⟨by simp[d,O.cut],by simp[O.cut],Or.inl rfl⟩
  |mk f o r p=>simp at i;subst i;exact⟨by simp[d,O.cut],by simp[d,O.cut],Or.inl (by simp[O.cut])⟩
 .rw[h1];have d:s.len<=g:=by rw[h1]at j;exact j
  refine⟨?_,by simp[O.cut];omega,Or.inr ⟨f,g,l.drop (n*a)++tail,?_,h2,?_,?_⟩⟩
  .simp only[O.cut,O.gE,gH,Xo];have:n*a<=s.len*a:=dh _ m;omega
  .simp[O.cut]
  .rw[<-fC,dm];exact h3
  .rw[<-fC,dm];exact h4
end
def iF.append{g:Nat->Nat}{f:E}{j l:Nat}{zs:List Ce}{u:Nat}{s x:O}{n c:List Ce}{K:O->E->Prop}(h:iF g f j zs.length l s n)(t:∀a,f.size<=a->g a=0)
 (k:c.length=x.len*zs.length)(B:fP f x.D x.off c)(i:(s.len+x.len)*u<=140737488355328)
 (q:∀v p d,iF v d j zs.length l p (n++c)->dp (λy=>y=l) g f v d->K p d):jK f j zs u s x K:=by
 have G:=h.le
 refine⟨c,k,B,λD=>?_,λF=>⟨i,n,h.len,h.iA,λd v=>?_⟩⟩
 .rcases h.aF with C|⟨a,d,tail,h1,h2,h3,h4⟩
  .have w:x.len=0:=V
   have A:c=[]:=List.length_eq_zero_iff.1 (by rw[k,w];simp)
   subst A
   refine⟨λy z=>by simp at z,?_⟩
   have p:=q g s _ (by rw[dX];exact h) (dp.az _ t)
   cases s with
   |nil=>exact p
   |zD a o H=>exact p
   |mk a o H d=>simp only[w,jE];exact p
  .have w:=h.len
   have A:s.cap=d:=by rw[h1];rfl
   rw[h1]
   simp only[O.jA,O.mT,O.gE,bT]
   simp only[be]at h4
   have z:c.length<=tail.length:=by
    have y:(s.len+x.len)*zs.length<=d*zs.length:=dh _ V;rw[gL]at y;omega
   refine⟨h3.fJ (by simp only[be];omega),?_⟩
   have p:=cE.ah (m:=f) (b:=a) (e:=j) (r:=c) (o:=s.len*zs.length) h3
   rw[<-w,BU n c tail z]at p
   refine q g _ _ ⟨?_,?_,Or.inr ⟨a,d,tail.drop c.length,rfl,h2,?_,?_⟩⟩ (dp.ah t h2 _ _)
   .simp only[be,O.gE,gL];omega
   .simp only[O.gE,O.Oh];omega
   .rw[<-w];exact p
   .simp only[be,List.length_drop];omega
 .refine q (λa=>if a=f.size then l else g a) _ _ ⟨?_,?_,Or.inr ⟨f.size,d,mF zs (d -(s.len+x.len)),rfl,aL,cE.push _ _ _,?_⟩⟩ ⟨aL,λa i=>ae V,λa i=>?_,λa i _=>by rw[mK,ae V]⟩
  .simp only[be,O.gE,gL,h.len,k]
  .simpa using v
  .simp only[be,rD,h.len,k]
   rw[Nat.sub_mul,<-gL]
   have:(s.len+x.len)*zs.length<=d*zs.length:=dh _ v
   omega
  .simp at i;rw[ae V];exact t a V
def iF.fZ{d:Nat->Nat}{i m:E}{e f k:Nat}{s:O}{l:List Ce}(h:gV i m e f s l)(g:s≠.nil->d s.D=k):iF d m e f k s l:=by
 refine⟨h.len,?_,?_⟩
 .rcases h.aF with a|⟨b,c,tail,a,h2,h3,h4,h5⟩
  .rw[a];exact ad _
  .rw[a];exact h5
 .rcases h.aF with a|⟨b,c,tail,a,h2,h3,h4,h5⟩
  .rw[a];exact Or.inl rfl
  .refine Or.inr ⟨b,c,tail,a,?_,h3,h4⟩;have:=g (by rw[a];simp);rw[a]at this;exact this
def iF.nH{e:Nat->Nat}{m:E}{k:Nat}{s:O}{l:List Int}(h:iF e m aA 1 k s (l.map Ce.i))(g:l.length<=9223372036854775807):ap m s l:=by
 have d:s.len=l.length:=by have:=h.len;simp at this;omega
 refine⟨d,h.le,V,λj x c=>⟨[.i x],rfl,λi f a=>?_⟩⟩;have b:i=0:=by have:=av a;simp at this;omega
 subst b;simp at a;subst a;have:=h.iA j (.i x) (by simp[c]);simpa using this
def Ag(l:List Int)(i:Nat)(v:Int):iZ (l.map Ce.i) i [.i v]=(l.set i v).map Ce.i:=by simp[iZ,tT]
def iF.gQ{a:Nat->Nat}{m:E}{k:Nat}{s:O}{l:List Int}(h:iF a m aA 1 k s (l.map Ce.i))(b:0<=i)(c:i<l.length)(v:Int):iF a (ah m s.D (s.off+i.toNat*1) [.i v]) aA 1 k s ((Go.Proofs.YtkicoahejfbjhaaGreat.gQ l i v).map Ce.i):=by
 have:=h.set (o:=i.toNat) (new:=[.i v]) bE;rw[Ag]at this;rw[eQ];exact this
def iF.NP{a:Nat->Nat}{m:E}{k:Nat}{s:O}{l:List Int}(h:iF a m aA 1 k s (l.map Ce.i))(b:0<=i)(c:i<l.length):fJ m s.D (s.off+i.toNat*1) 1:=by
 rw[eQ];exact h.wr bE
def FB(m:E)(f:O)(l:List Int):Prop:=∃c tail,f=.mk f.D 0 f.len c/\cE m f.D aA (l.map Ce.i++tail)
def FN(N:Nat)(a:Nat->Nat)(m:E)(f:O)(l:List Int):Prop:=l≠[]->a f.D=0/\N<=f.D/\FB m f l
def xN(N:Nat)(b:Nat->Nat)(m:E)(a:List Ce)(c:bM):Prop:=∃f,a=[.i c.aP,.i c.j8,.s f]/\ap m f c.aE/\FN N b m f c.aE
def Xq(e:List (List Ce)):Prop:=∀(i j:Nat)(c d:List Ce)(a b:O),e[i]? =some c->e[j]? =some d->c[2]? =some (.s a)->d[2]? =some (.s b)->i≠j->a.len≠0->b.len≠0->a.D≠b.D
def Xq.nil:Xq []:=λi j c d a b h=>by simp at h
def dJ(N:Nat)(b:Nat->Nat)(m:E)(c:O)(h:List bM):Prop:=∃a,iF b m lW 3 3 c a.flatten/\gP 3 (xN N b m) a h/\Xq a
def SJ(a:Nat->Nat)(m:E)(i:Nat)(b:List Ce)(f:aX):Prop:=
 ∃r o h,b=[.i f.fE,.i f.pc,.i f.dst,.s r,.s o,.s h]/\iF a m aA 1 (10+3*i) r (f.ak.map Ce.i)/\iF a m aA 1 (11+3*i) o (f.aR.map Ce.i)/\iF a m aA 1 (12+3*i) h (f.ba.map Ce.i)
structure ZB(ro:Nat->Nat)(m:E)(fr:O)(fs:List aX)(css:List (List Ce)):Prop where
 pY:iF ro m dO 6 4 fr css.flatten
 len:css.length=fs.length
 size:∀cs∈css,cs.length=6
 dz:∀(i:Nat)(cs:List Ce)(f:aX),css[i]? =some cs->fs[i]? =some f->SJ ro m i cs f
def nE(d:Nat->Nat)(m:E)(b:O)(c:List aX):Prop:=∃a,ZB d m b c a
def iP{m b:E}{l:List Int}(h:ap m f l)(j:l≠[]->b[f.D]? =m[f.D]?):ap b f l:=by
 by_cases a:l=[]
 .subst a;exact⟨h.len,h.cap,h.gS,aL⟩
 .exact⟨h.len,h.cap,h.gS,λo x n=>let⟨d,e,g⟩:=h.iA o x n;⟨d,e,λi c k=>by rw[aJ (j a)];exact g i c k⟩⟩
def iE{m:E}{l:List Int}(h:ap m f l)(a:l≠[]):f.D<m.size:=by
 cases l with
 |nil=>exact absurd rfl a
 |cons b l=>exact lZ (h.aF (k:=0) (x:=b) rfl)
def xN.eH{N:Nat}{k l:Nat->Nat}{m j:E}(c:dp p k m l j)(h:¬p 0)(e:List Ce)(d:bM):xN N k m e d->xN N l j e d:=λ⟨f,q,b,i⟩=>
 ⟨f,q,iP b λa=>c.eA _ (iE b a) (by rw[(i a).1];exact h),λa=>by
  let⟨g1,g2,n,tail,o,g⟩:=i a;exact⟨by rw[c.gT _ (iE b a)];exact g1,g2,n,tail,o,g.congr (c.eA _ g.lt (by rw[g1];exact h))⟩⟩
def dJ.eH{N:Nat}{p:Nat->Prop}{d e:Nat->Nat}{m c:E}{b:O}{h:List bM}(n:dJ N d m b h)(a:dp p d m e c)(g:¬p 0)(k:¬p 3):dJ N e c b h:=by
 let⟨f,i,j,l⟩:=n;exact⟨f,i.eH a k,j.mono (xN.eH a g),l⟩
def SJ.eH{p:Nat->Prop}{e g:Nat->Nat}{m d:E}(a:dp p e m g d){i:Nat}(b:∀k,10+3*i<=k->k<=12+3*i->¬p k){c:List Ce}{f:aX}:SJ e m i c f->SJ g d i c f:=λ⟨r,o,h,j,k,l,n⟩=>
 ⟨r,o,h,j,k.eH a (b _ V V),l.eH a (b _ V V),n.eH a (b _ V V)⟩
def nE.eH{p:Nat->Prop}{g j:Nat->Nat}{m e:E}{a:O}{b:List aX}(r:nE g m a b)(c:dp p g m j e)(d:∀k,(k=4\/10<=k)->¬p k):nE j e a b:=by
 let⟨n,h⟩:=r;exact⟨n,h.pY.eH c (d 4 V),h.len,h.size,λi l f o q=>(h.dz i l f o q).eH c λk s _=>d k V⟩
structure vw(m0:E)(ro:Nat->Nat)(m:E)(mb e:Nat)(bx:List Ce)(aT hp fr:O)(lo:List Int)(lh:List bM)(lf:List aX):Prop where
 cx:J m0 m
 jQ:∀b,b<m0.size->ro b=0
 new:∀b,m.size<=b->ro b=0
 box:cE m mb e bx
 Qm:ro mb=1
 aT:iF ro m aA 1 2 aT (lo.map Ce.i)
 heap:dJ m0.size ro m hp lh
 ao:nE ro m fr lf
section
variable{j:E}{b g:Nat->Nat}{a c:E}{d e:Nat}{h:List Ce}{aT l k:O}{r:List Int}{q:List bM}{o:List aX}
def vw.ext(L:vw j b a d e h aT l k r q o)(g:J a c):vw j b c d e h aT l k r q o/\To b a b c:=by
 have f:∀p,dp p b a b c:=λp=>dp.eG p g L.new;exact⟨⟨L.cx.trans g,L.jQ,(f (λ_=>False)).new,L.box.ext g,L.Qm,L.aT.eH (f (λ_=>False)) id,L.heap.eH (f (λ_=>False)) id id,L.ao.eH (f (λ_=>False)) λ_ _=>id⟩,f _⟩
def vw.jv(L:vw j b a d e h aT l k r q o)(i:Nat)(c:List Ce):vw j b (ah a d i c) d e (iZ h i c) aT l k r q o/\To b a b (ah a d i c):=by
 have f:dp (λg=>g=1) b a b (ah a d i c):=dp.ah L.new L.Qm _ _;have n:To b a b (ah a d i c):=f.mono λg p=>V;let⟨b1,b2⟩:=n.cx L.cx L.jQ;exact⟨⟨b1,b2,f.new,cE.ah (m:=a) L.box,L.Qm,L.aT.eH f bh,L.heap.eH f bh bh,L.ao.eH f λg p=>V⟩,n⟩
def vw.ms(L:vw j b a d e h aT l k r q o){i:Nat}(c:i+n<=h.length):fJ a d i n:=L.box.fJ c
def vw.gA(L:vw j b a d e h aT l k r q o)(f:dp (λi=>i=3\/i=5\/i=6) b a g c){m:O}{p:List bM}(s:dJ j.size g c m p):vw j g c d e h aT m k r p o/\To b a g c:=by
 have n:To b a g c:=f.mono λi t=>V;let⟨b1,b2⟩:=n.cx L.cx L.jQ;exact⟨⟨b1,b2,f.new,L.box.congr (f.eA _ L.box.lt (by rw[L.Qm];decide)),by rw[f.gT _ L.box.lt];exact L.Qm,L.aT.eH f bh,s,L.ao.eH f λi t=>V⟩,n⟩
def vw.H9(L:vw j b a d e h aT l k r q o)(f:dp (λi=>i=2) b a g c){p:O}{n:List Int}(s:iF g c aA 1 2 p (n.map Ce.i)):vw j g c d e h p l k n q o/\To b a g c:=by
 have m:To b a g c:=f.mono λi t=>V;let⟨b1,b2⟩:=m.cx L.cx L.jQ;exact⟨⟨b1,b2,f.new,L.box.congr (f.eA _ L.box.lt (by rw[L.Qm];decide)),by rw[f.gT _ L.box.lt];exact L.Qm,s,L.heap.eH f bh bh,L.ao.eH f λi t=>V⟩,m⟩
def vw.jI(L:vw j b a d e h aT l k r q o)(f:dp (λi=>4<=i/\i≠9) b a g c){m:O}{p:List aX}(s:nE g c m p):vw j g c d e h aT l m r q p/\To b a g c:=by
 have n:To b a g c:=f.mono λi t=>V;let⟨b1,b2⟩:=n.cx L.cx L.jQ;exact⟨⟨b1,b2,f.new,L.box.congr (f.eA _ L.box.lt (by rw[L.Qm];decide)),by rw[f.gT _ L.box.lt];exact L.Qm,L.aT.eH f bh,L.heap.eH f bh bh,s⟩,n⟩
end
end
end Go.Proofs.YtkicoahejfbjhaaGreat
