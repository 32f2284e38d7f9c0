/- Part of a proof. -/
import Derived.Test.YtkoifinbblcbiaaGreatTA03
import Derived.Test.YtkoifinbblcbiaaGreatTA04
set_option linter.all false
set_option maxHeartbeats 8000000
set_option maxRecDepth 100000
namespace Go.Proofs.YtkoifinbblcbiaaGreat
open Go.Vc
section
def Ut(l a:List Int)(h:a.length=l.length):js (l.map Ce.i) 0 (a.map Ce.i)=a.map Ce.i:=by
 have:=BY [] (a.map Ce.i) (l.map Ce.i) bI;simp only[dX,eU]at this;rw[this,IY bI,dN]
section
variable{p:E}{b:Nat->Nat}{m:E}{q e:Nat}{i:List Ce}{aW j g:O}{l:List Int}{k:List bP}{c:List aU}{f:aU}{r a h:O}{d:List (List Ce)}
def ST.Vi(S:ST p b m q e i aW j g l k c f r a h d){aR:List Int}(t:aR.length=f.aR.length)(w:0<aR.length):eC m a.D a.off (aR.map Ce.i).length/\ST p b (ag m a.D a.off (aR.map Ce.i)) q e i aW j g l k c {f with aR:=aR} r a h d/\To b m b (ag m a.D a.off (aR.map Ce.i)):=by
 have T:=S.fZ;have B:a.cap≠0:=λe=>by have:=(T.aR.Dk e).1;simp at this;rw[this]at t;simp at t;rw[t]at w;simp at w
 have A:=T.aR.D B;have s:dz (λu=>u=11+3*c.length) b m b (ag m a.D a.off (aR.map Ce.i)):=dz.ag S.cQ.new A.2 _ _;have x:=T.aR.set (o:=0) (new:=aR.map Ce.i) bI;rw[Ut _ _ t,jG]at x;have v:tm b (ag m a.D a.off (aR.map Ce.i)) g c {f with aR:=aR} r a h d:=⟨T.pD.eY s V,T.len,T.size,T.yo s λu _ y=>V,T.an.eY s V,x,T.aY.eY s V⟩;let⟨y,z⟩:=S.cQ.jK (s.mono λu C=>V) v.uK;refine⟨?_,⟨y,v⟩,z⟩;have:=T.aR.wr (o:=0) (n:=(aR.map Ce.i).length) bI;rw[jG]at this;exact this
end
section
variable{h:E}{e:Nat->Nat}{b:E}{g:Nat}{d p aW c a:O}{s:St}
def OZ{k:cp}(M:qD h e b g bS (SB d p s aW c a) aW c a s.aW s.heap s.av)(I:eW h d p k)(z:de k s)(aN:∀P∈s.av,∀A∈P.an,A<=9223372036854775807)(aQ:s.heap.length<=900000000)(aV:s.aW.length<=900000000):
 aM cq 36 [vp g 0] b λ_ m'=>Cd h e b g d p (my k s) m':=by
 apply wO (g,0)
 simp -zeta only[aC,aB]
 refine⟨s.bJ,M.box.bV 2,λT=>?_,λT=>?_⟩
 .simp at T
  rw[th T]
  exact⟨e,aW,c,a,M,dz.aA _ M.new⟩
 have ab:s.bJ=3:=by simpa using T
 let⟨n,j,u⟩:=z.split ab
 have aS:s.av.getLast?=some j:=by rw[u];simp
 have aK:s.av.dropLast=n:=by rw[u];simp
 have C:yE k s n j (dt k j):=⟨z,ab,u,rfl,aN⟩
 have a1:my k s=(open Classical in if na (dt k j).op/\s.bC=s.bq then{s with bJ:=1}else if kD k s j (dt k j) (bB j.an j.aR (bW k (dt k j)))then eJ k s n j (dt k j) (bB j.an j.aR (bW k (dt k j)))else{s with bJ:=2}):=by
  unfold my;rw[ae (by simpa using ab),aS,aK]
 rw[a1]
 generalize dt k j=x at*
 have L':qD h e b g bS (SB d p s aW c a) aW c a s.aW s.heap (n++[j]):=by rw[<-u];exact M
 let⟨U,L,R,aA,Z⟩:=L'.av.fZ
 have S:ST h e b g bS (SB d p s aW c a) aW c a s.aW s.heap n j U L R aA:=⟨L',Z⟩
 have a9:=Z.vU
 have an:=z.depth
 have a8:=z.bC
 have ba:=z.bq
 rw[u]at an
 have a_:n.length<=1000:=by simp at an;omega
 have e1:cR ((a.len:Int) -1)=(n.length:Int):=by rw[aP V V];omega
 have e2:Int.toNat (n.length:Int)=n.length:=V
 have Q:af b g 8=some (O.v a):=S.cQ.box.bV 8
 let⟨g0,g1,g2,g3,g4,g5⟩:=Z.iF
 refine⟨a,Q,a,Q,?_⟩
 rw[e1,e2]
 refine⟨V,V,_,g0,_,g1,_,g2,U,g3,L,g4,R,g5,?_⟩
 intro m1
 have v:J b m1:=(J.aA b).aH _
 refine⟨v.cr g0,v.cr g1,v.cr g2,v.cr g3,v.cr g4,v.cr g5,v.cr Q,v.cr Q,?_⟩
 intro t
 have a2:J b t:=v.ag (ad _) _ _
 have s2:t.size=b.size+1:=by simp[t,m1,aw]
 have kF:cx t b.size cL [.i j.eg,.i j.pc,.i j.dst,.s U,.s L,.s R]:=cx.ag (m:=m1) (o:=0) (r:=[.i j.eg,.i j.pc,.i j.dst,.s U,.s L,.s R]) (cx.push b _ _)
 let⟨N,t2⟩:=S.ext a2
 clear_value t
 let⟨bh,hq,aZ,hP,aI,hI⟩:=C.I
 let⟨pa,pl,pc,bb,bd,ap,k0,k1,k2,k3,k4⟩:=I.cB.aG hq
 let⟨az,a3,ha,hj,i0,i1,i2,i3,i4,i5⟩:=ap.aG aI
 have be:=I.cB.len
 have bc:=ap.len
 have hF:=C.F
 have aY:=hF.eg
 have ao:=hF.pc
 rw[aZ]at ao
 have l:=N.cQ.cv
 refine⟨p,N.cQ.box.bV 1,aY.1,V,pc,l.af k4,ao.1,V,_,l.af i0,_,l.af i1,_,l.af i2,_,l.af i3,az,l.af i4,a3,l.af i5,?_⟩
 intro m3
 have q:J t m3:=(J.aA t).aH _
 refine⟨q.cr (l.af i0),q.cr (l.af i1),q.cr (l.af i2),q.cr (l.af i3),q.cr (l.af i4),q.cr (l.af i5),q.cr (kF.bV 1),q.cr (l.af k4),q.cr (kF.bV 0),q.cr (N.cQ.box.bV 1),?_⟩
 intro K
 have ag:J t K:=q.ag (ad _) _ _
 have s4:K.size=t.size+1:=by simp[K,m3,aw]
 let⟨S4,t4⟩:=N.ext ag
 have a4:=kF.ext ag
 have B4:zy e K [t.size,b.size]:=λac H=>by
  simp at H;rcases H with rfl|rfl
  .exact⟨V,S.cQ.new _ V⟩
  .exact⟨V,S.cQ.new _ (ad _)⟩
 clear_value K
 have a7:=t2.trans t4
 refine(Me _ _).mono ?_
 rintro _ m5 ⟨ac,rfl,H,ah⟩
 let⟨w,t5⟩:=S4.ext ah
 have W:=B4.to t5
 have B:=a4.ext ah
 have ar:=a7.trans t5
 have aR:=C.Lg
 have h4:=C.lx
 have aa:(bB j.an j.aR (bW k x)).length=j.aR.length:=kd _ _ _
 refine⟨t5.dK B4,ac,rfl,λaG=>⟨s.bC,w.cQ.box.bV 4,s.bq,w.cQ.box.bV 5,λG=>?_,λG=>?_⟩,λaF=>?_⟩
 .simp at G
  refine⟨w.cQ.mE (i:=2) aJ,?_⟩
  intro m6
  let⟨F,D⟩:=w.jw 2 [.i 1]
  refine⟨D.dK W,e,aW,c,a,?_,ar.trans D⟩
  rw[aj ⟨H.1 aG,G⟩]
  have:=F.cQ
  rw[<-u]at this
  exact this
 all_goals
  have aH:¬(na x.op/\s.bC=s.bq):=by
   first
   |exactλy=>by simp at G;exact G y.2
   |exactλy=>fb H aF y.1
  rw[ae aH]
  have am:=w.cQ.cv
  refine⟨d,w.cQ.box.bV 0,p,w.cQ.box.bV 1,(Kf (I.ext am) C.call (ha.ext am) V h4.2.2.2.1).mono ?_⟩
  rintro _ m6 ⟨ts,rfl,ot,y⟩
  let⟨F,D⟩:=w.ext y
  have B6:=W.to D
  have bf:=IQ k x
  have it:aq m6 ts (bW k x):=aq.gK ot V
  refine⟨D.dK W,ts,rfl,y.cr (B.bV 0),y.cr (B.bV 1),y.cr (B.bV 2),y.cr (B.bV 3),y.cr (B.bV 4),y.cr (B.bV 5),?_⟩
  refine(Iz (b:=j) (F.Am V) (F.Jl V) it C.Kp aR.1 V V (λA E=>oh (C.OM A E))).mono ?_
  rintro _ m7 ⟨os,rfl,oo,aE⟩
  let⟨A,t7⟩:=F.ext aE
  have B7:=B6.to t7
  have io:aq m7 os (bB j.an j.aR (bW k x)):=aq.gK oo V
  have aO:lS m7 a (n++[j]):=A.cQ.av.JH bI (λP Y=>by
   have E:=z.av P (by rw[u];exact Y);obtain⟨pg,_,ai,X,_⟩:=E.Ja z.fy;have q1:=E.lr;have q2:=E.lo;have q3:=E.lh;rw[ai]at q1 q2 q3;have:=X.an;omega)
  have ak:=A.rv I V V aO
  have a0:({s with av:=n++[j]}:St)=s:=by rw[<-u]
  rw[a0]at ak
  refine⟨t7.dK B6,os,rfl,(Mg ak C (A.Am V) (A.Q9 V) (ha.ext A.cQ.cv) io aa).mono ?_⟩
  rintro _ m8 ⟨b2,rfl,al,ai⟩
  let⟨P,t8⟩:=A.ext ai
  have X:=B7.to t8
  have au:=((ar.trans D).trans t7).trans t8
  refine⟨t8.dK B7,b2,rfl,λh9=>?_,λh9=>?_⟩
  .rw[ae (nb al h9)]
   refine⟨P.cQ.mE (i:=2) aJ,?_⟩
   intro m9
   let⟨Y,E⟩:=P.jw 2 [.i 2]
   refine⟨E.dK X,e,aW,c,a,?_,au.trans E⟩
   have:=Y.cQ
   rw[<-u]at this
   exact this
  .have hM:=yb al h9
   rw[aj hM]
   have aU:=io.len
   have aT:L.len=j.aR.length:=by have:=P.fZ.aR.len;simp at this;omega
   let⟨w1,Y,E⟩:=P.Vi aa V
   refine⟨(bB j.an j.aR (bW k x)).map Ce.i,by rw[aU,aT,aa];simp[Nat.min_def];omega,(io.ext ai).HY,w1,?_⟩
   intro m9
   have B9:=X.to E
   refine⟨E.dK X,(J6 C rfl hM Y I ha hj aQ aV).mono ?_⟩
   rintro _ bg aL
   let⟨a6,a5,aX,aD,ay,ax⟩:=aL
   exact⟨ax.dK B9,a6,a5,aX,aD,ay,(au.trans E).trans ax⟩
end
end
section
variable{a:cp}{s:St}{n:Nat}
structure Sm(n:Nat)(s:St):Prop where
 heap:s.heap.length<=n
 aW:s.aW.length<=n
 Dl:∀g∈s.av,∀w∈g.an,w<=9223372036854775807
def BN:∀(n:Nat)(h:List bP)(g:List Int),Cf h+g.length<=n->(gS h g).length=h.length
 |n,h,[],_=>by rw[tn]
 |0,h,w::r,b=>by simp at b
 |n+1,h,w::r,b=>by
  simp only[aV]at b;rcases dI (gC h w)with a|a
  .let⟨e,f⟩:=bZ a;by_cases c:(aI h w).aQ=1
   .have d:=kE (d:=jb) e;simp only[aj f,jb]at d;simp at d;rw[tp a c,BN n _ _ (by simp[jb];omega)];simp
   .have d:=kE (d:={aI h w with aQ:=(aI h w).aQ -1}) e;simp only[aj f]at d;rw[aj V]at d;rw[qH a c,BN n _ _ (by simp only[fu];omega)];simp[fu]
  .rw[qI a,BN n _ _ V]
def Qw(h:List bP):(nt h).length<=h.length:=by unfold nt;simp;omega
def Ly:∀(a:List Int)(g:List bP),(jf g a).length=g.length
 |[],g=>rfl
 |w::a,g=>by rw[jf,Ly a];simp[mQ]
def Nt(h:List bP)(w:Int):(apart h w).length<=h.length:=by
 unfold apart;split
 .exact bX (Qw _) aJ
 .rw[Ly];simp[fu]
def NL(h:List bP)(a:Nat)(c:bP):(je h a c).length<=h.length+1:=by
 unfold je;split<;>simp
def Rj{k:List aU}{f:aU}{x:Instr}(C:yE a s k f x)(B:Sm n s)(hn:n<=900000000)(aR:List Int)(Z:kD a s f x aR):Sm (n+1) (eJ a s k f x aR):=by
 have hh:=B.heap;have ho:=B.aW;have v:=B.Dl;rw[C.fr]at v;have hF:=C.F;have Y:=C.lx;have hd:=C.dst;have af:=C.Lg;have t:∀r,aG f.an r<=9223372036854775807:=λr=>by
  rcases aZ r.toNat f.an.length with m|m
  .let⟨y,b⟩:=dZ m;rw[DM b];exact v f aJ y (ar b)
  .rw[aG,fS,cZ m];simp
 have yo:∀g∈k,∀w∈g.an,w<=9223372036854775807:=λg p=>v g (by simp[p]);have c:∀{g:aU},(∀w∈g.an,w<=9223372036854775807)->∀q∈k++[g],∀w∈q.an,w<=9223372036854775807:=λp q d=>by
  rcases List.mem_append.1 d with d|d
  .exact yo q d
  .simp at d;subst d;exact p
 have e:∀w∈f.an,w<=9223372036854775807:=v f aJ;have j:∀(H:Int),H<=9223372036854775807->∀w∈gQ f.an x.dst H,w<=9223372036854775807:=λH hv w b=>by
  rcases pT b with rfl|b
  .exact hv
  .exact e w b
 have ab:∀{w},iJ w\/gC s.heap w->w<=9223372036854775807:=λh=>by
  rcases h with h|h
  .have:=h.2;omega
  .have m:=az (bZ h).1;unfold ix at m;omega
 have G:∀(g K:Int)(I:List Int),(∀w∈I,w<=9223372036854775807)->∀w∈(br a g K I).an,w<=9223372036854775807:=λg K I b w h=>by
  simp only[br]at h;rcases List.mem_append.1 h with h|h
  .exact b w h
  .rw[qN h];omega
 have Kh:∀{g q:aU},(∀w∈g.an,w<=9223372036854775807)->(∀w∈q.an,w<=9223372036854775807)->∀J∈k++[g,q],∀w∈J.an,w<=9223372036854775807:=λp d J o=>by
  rcases List.mem_append.1 o with o|o
  .exact yo J o
  .simp at o;rcases o with rfl|rfl
   .exact p
   .exact d
 have aa:∀w∈cN f x.args,w<=9223372036854775807:=λw b=>by
  obtain⟨r,_,rfl⟩:=List.mem_map.1 b;exact t r
 have ac:=qK s.heap;unfold eJ;simp only[];by_cases y:x.op=0
 .rw[aj y];exact⟨by simp only[];omega,by simp only[];omega,c (j _ (oh (Y.2.2.2.2.2.2 y)))⟩
 rw[ae y];by_cases L:x.op=1\/x.op=2\/x.op=3\/x.op=4
 .rw[aj L];exact⟨by simp only[];omega,by simp only[];omega,c (j _ (oh ((Qc x.op (aG f.an (aG x.args 0)) (aG f.an (aG x.args 1))).2)))⟩
 rw[ae L];by_cases W:x.op=5
 .rw[aj W];exact⟨by simp only[];omega,bI,c (j _ (t _))⟩
 rw[ae W];by_cases A:x.op=6
 .rw[aj A];split
  .refine⟨bI,by simp only[];omega,c (j _ ?_)⟩;rename_i u;have E:=Y.2.2.2.2.1 A;obtain⟨F,D,z,_⟩:=C.Lf _ (fq (l:=f.aY) (i:=x.bM -1) V V) u.2;have:=az z;unfold ix at this;omega
  .refine⟨?_,by simp only[];omega,c (j _ V)⟩;have:=NL s.heap (dF s.heap) ⟨1,x.bQ,cN f x.args⟩;simp only[];omega
 rw[ae A];by_cases M:x.op=10
 .rw[aj M];refine⟨?_,by simp only[];omega,c (j _ V)⟩;have:=NL s.heap (dF s.heap) ⟨1,bH a+x.bQ,cN f x.args⟩;simp only[];omega
 rw[ae M];by_cases N:x.op=14
 .rw[aj N];exact⟨by simp[mQ];omega,by simp only[];omega,c e⟩
 rw[ae N];by_cases O:x.op=15
 .rw[aj O];refine⟨?_,by simp only[];omega,c e⟩;have m:=Qw (gS s.heap [aG f.an (aG x.args 0)]);rw[BN _ _ _ (ad _)]at m;simp only[];omega
 rw[ae O];by_cases P:x.op=16\/x.op=17
 .rw[aj P];split
  .exact⟨bI,by simp only[];omega,c e⟩
  .refine⟨?_,by simp only[];omega,c e⟩;have:=Nt s.heap (aG f.an (aG x.args 0));simp only[];omega
 rw[ae P];by_cases Q:x.op=18
 .rw[aj Q];exact⟨by simp only[];omega,by simp only[];omega,c (j _ (t _))⟩
 rw[ae Q];by_cases u:x.op=19
 .rw[aj u];refine⟨by simp only[];omega,by simp only[];omega,c (j _ ?_)⟩;let⟨E,S⟩:=Z.load u;obtain⟨T,_,_,_,_,R⟩:=C.I;have z:=R.op;unfold lT at z;rw[ae V,ae V,ae V,ae V,ae V,ae V,ae V,aj u]at z;let⟨D,F⟩:=bZ E;exact ab (((C.ok.heap.cell _ (ar D)).ry F).1 _ (fq z.2.1 S))
 rw[ae u];by_cases R:x.op=20
 .rw[aj R];exact⟨by simp only[];omega,by simp only[];omega,c e⟩
 rw[ae R];by_cases S:x.op=21
 .rw[aj S];exact⟨by simp only[];omega,by simp only[];omega,c e⟩
 rw[ae S];by_cases T:x.op=22
 .rw[aj T];exact⟨by simp only[];omega,by simp only[];omega,c e⟩
 rw[ae T];by_cases X:x.op=9
 .rw[aj X];exact⟨by simp only[];omega,by simp only[];omega,Kh e (G _ _ _ aa)⟩
 rw[ae X];by_cases U:x.op=24
 .rw[aj U];exact⟨by simp only[];omega,by simp only[];omega,c (G _ _ _ aa)⟩
 rw[ae U];by_cases z:x.op=11
 .rw[aj z];refine⟨?_,by simp only[];omega,Kh e (G _ _ _ λw b=>?_)⟩
  .have:=Nt s.heap (aG f.an (aG x.args 0));simp only[];omega
  .rcases List.mem_append.1 b with b|b
   .obtain⟨E,_⟩:=Z.apply z;let⟨D,F⟩:=bZ E;exact ab (((C.ok.heap.cell _ (ar D)).ry F).1 _ b)
   .simp at b;subst b;exact t _
 rw[ae z];split
 .exact⟨by simp only[];omega,by simp only[];omega,aJ⟩
 .rename_i D E;refine⟨by simp only[];omega,by simp only[];omega,λq d=>?_⟩;have F:D∈k:=List.mem_of_getLast? E;rcases List.mem_append.1 d with d|d
  .exact yo q ((List.dropLast_sublist k).subset d)
  .simp at d;subst d;intro w b;rcases pT b with rfl|b
   .exact t _
   .exact yo D F w b
def VA(h:de a s)(c:Sm n s)(l:n<=900000000):Sm (n+1) (my a s):=by
 have b:Sm (n+1) s:=⟨by have:=c.heap;omega,oh c.aW,c.Dl⟩;by_cases d:s.bJ=3
 .let⟨g,f,e⟩:=h.split d;have k:s.av.getLast?=some f:=by rw[e];simp
  have j:s.av.dropLast=g:=by rw[e];simp
  have C:yE a s g f (dt a f):=⟨h,d,e,rfl,c.Dl⟩;unfold my;rw[ae (by simpa using d),k,j];simp only[];split
  .exact⟨b.heap,b.aW,b.Dl⟩
  split
  .rename_i i;exact Rj C c l _ i
  .exact⟨b.heap,b.aW,b.Dl⟩
 .rw[th d];exact b
def rV{a:cp}:∀(k:Nat){s:St}{n:Nat},de a s->Sm n s->n+k<=900000000->Sm (n+k) (ap a k s)
 |0,s,n,_,b,_=>b
 |k+1,s,n,h,b,c=>by
  have:=rV k (O2 h) (VA h b V) V;rw[ap];have e:n+(k+1)=n+1+k:=V;rw[e];exact this
def rU(a:cp)(bq:Int):Sm 0 (cF a bq):=⟨by simp[cF],by simp[cF],λg b w c=>by
 simp[cF]at b;subst b;simp only[br,dX]at c;rw[qN c];omega⟩
end
section
variable{a:cp}
section
variable{e:E}{g:Nat->Nat}{m:E}{f:Nat}{d p aW c b:O}{s:St}
end
def EW{m:E}{t C:O}(I:eW m t C a)(x:iE a)(bq:Int):
 aM cq 87 [.agg #[O.v t,O.v C],vi bq] m λS f=>∃aW l u,S=.agg #[vi 3,vi 0,vi 0,vi bq,O.v aW,O.v l,O.v u]/\J m f/\∃b1 b2 b3 b4 k,aW.cap=0/\aW.len=0/\l.cap=0/\l.len=0/\u=.mk b4 0 1 1/\
  pG m f b1 b2 b3 k (br a 0 0 []).an (br a 0 0 []).aR (br a 0 0 []).aY/\(b4≠b1/\b4≠b2/\b4≠b3/\m.size<=b4/\b4<f.size)/\cx f b4 cL [.i 0,.i 0,.i 0,.s (.mk b1 0 k k),.s (.mk b2 0 k k),.s (.mk b3 0 k k)]:=by
 apply zm
 simp -zeta only[aC,aB]
 intro g z A p r e
 have v:J m e:=((((((J.aA m).aH _).aH _).aH _).aH _).aH _).aH _
 have L:g.size=m.size+1:=by simp[g]
 have M:z.size=m.size+2:=by simp[z,L]
 have P:A.size=m.size+3:=by simp[A,M]
 have Q:p.size=m.size+4:=by simp[p,P]
 have R:r.size=m.size+5:=by simp[r,Q]
 have Y:e.size=m.size+6:=by simp[e,R]
 clear_value e
 have T:=x.nj.len
 let⟨q,n⟩:=cK a.cB 0
 have W:=(x.dx q (ar n)).an
 have o:dC a 0=q:=by simp[dC,n]
 have B:∀b,aq e (.mk b 0 0 0) []:=λb=>⟨rfl,aJ,aJ,aJ⟩
 refine(yx (I.ext v) (cX 0) n V 0 (B p.size) (B r.size) bI rfl).mono ?_
 rintro _ c ⟨b1,b2,b3,rfl,N⟩
 have j:=N.ext
 have U:=N.lo
 refine⟨j.dv bI,_,_,_,_,_,_,rfl,?_⟩
 intro d s
 have w:J c d:=(J.aA c).aH _
 have Z:d.size=c.size+1:=by simp[d]
 have s9:s.size=d.size:=aw _ _ _ _
 have X:=j.size
 have K:cx d c.size cL [.i 0,.i 0,.i 0,.s (.mk b1 0 q.an.toNat q.an.toNat),.s (.mk b2 0 q.an.toNat q.an.toNat),.s (.mk b3 0 q.an.toNat q.an.toNat)]:=cx.push c _ _
 have i:=N.PQ w
 have y:J m s:=(v.trans (j.trans w)).ag (show m.size<=g.size by omega) _ _
 have h:∀b,b≠g.size->s[b]? =d[b]? :=λb H=>bo _ _ _ _ H
 have G:(br a 0 0 []).an=[]++df (q.an.toNat -([]:List Int).length):=by simp[br,o]
 have F:(br a 0 0 []).aR=[]++df (q.an.toNat -([]:List Int).length):=by simp[br,o,dH]
 have D:(br a 0 0 []).aY=df q.an.toNat:=by simp[br,o]
 refine⟨_,_,_,rfl,y,b1,b2,b3,c.size,q.an.toNat,rfl,rfl,rfl,rfl,rfl,?_,V,K.congr (h _ V)⟩
 rw[G,F,D]
 exact⟨y,V,i.kr.congr (h _ V),i.ko.congr (h _ V),i.kh.congr (h _ V),N.len⟩
def Uv{m j g:E}{u:Nat}{MA:List Ce}{aW i l:O}{bq:Int}{b1 b2 b3 b4 k e:Nat}(c:aW.cap=0/\aW.len=0/\i.cap=0/\i.len=0/\l=.mk b4 0 1 1)
 (N:pG m j b1 b2 b3 k (br a 0 0 []).an (br a 0 0 []).aR (br a 0 0 []).aY)(C:b4≠b1/\b4≠b2/\b4≠b3/\m.size<=b4/\b4<j.size)(B:cx j b4 cL [.i 0,.i 0,.i 0,.s (.mk b1 0 k k),.s (.mk b2 0 k k),.s (.mk b3 0 k k)])
 (d:J j g)(F:j.size<=e)(kb:cx g e u (MA++[.i 3,.i 0,.i 0,.i bq,.s aW,.s i,.s l])):
 qD m (pw (pw (mK (λ_=>0) b1 b2 b3 0) b4 4) e 1) g e u (MA++[.i 3,.i 0,.i 0,.i bq,.s aW,.s i,.s l]) aW i l [] [] [br a 0 0 []]:=by
 have D:=N.lo
 have A:J m g:=N.ext.trans d
 have G:=kb.lt
 have H:=N.ext.size
 have t:∀b,b≠e->b≠b4->(pw (pw (mK (λ_=>0) b1 b2 b3 0) b4 4) e 1) b=mK (λ_=>0) b1 b2 b3 0 b:=λb p q=>by rw[ez p,ez q]
 let⟨y,a2,a3⟩:=(N.PQ d).pD (a:=λ_=>0) (g:=0)
 have conv:∀{v:Nat}{s:O}{w:List Ce},iz (mK (λ_=>0) b1 b2 b3 0) g aD 1 v s w->s.D≠e->s.D≠b4->iz (pw (pw (mK (λ_=>0) b1 b2 b3 0) b4 4) e 1) g aD 1 v s w:=λx p q=>x.dP (λ_=>rfl) (λ_=>t _ p q)
 refine⟨A,λb z=>?_,λb z=>?_,kb,fR _ _ _,⟨by simp[c.2.1],by rw[c.1,c.2.1];exact ad _,Or.inl c.1⟩,⟨[],⟨by simp[c.2.2.2.1],by rw[c.2.2.1,c.2.2.2.1];exact ad _,Or.inl c.2.2.1⟩,gE.nil _ _,Xr.nil⟩,?_⟩
 .rw[t b V V];unfold mK;rw[ez V,ez V,ez V]
 .rw[t b (oh d.size) (oh d.size)];unfold mK;rw[ez (oh d.size),ez (oh d.size),ez (oh d.size)]
 .refine tm.uK (a:=[]) (f:=br a 0 0 []) (r:=.mk b1 0 k k) (e:=.mk b2 0 k k) (h:=.mk b3 0 k k) (j:=[]) ⟨?_,rfl,aJ,aJ,conv y (by simp only[O.jC];omega) (by simp only[O.jC];omega),conv a2 (by simp only[O.jC];omega) (by simp only[O.jC];omega),conv a3 (by simp only[O.jC];omega) (by simp only[O.jC];omega)⟩
  rw[c.2.2.2.2]
  refine⟨rfl,ad _,Or.inr ⟨b4,1,[],rfl,?_,?_,rfl⟩⟩
  .rw[ez V,fR]
  .rw[dN];exact B.ext d
end
def Sn(a:cp)(bq:Int):∃s,s=ap a 100000 (cF a bq):=⟨_,rfl⟩
noncomputable def O6 (a:cp) (bq:Int):St:=Classical.choose (Sn a bq)
def IP(a:cp)(bq:Int):O6 a bq=ap a 100000 (cF a bq):=eB (Sn a bq)
def So{a:cp}{bq:Int}(h:iE a)(c:0<=bq/\bq<=40):de a (O6 a bq)/\Sm 100000 (O6 a bq)/\(O6 a bq).bJ≠3:=by
 have b:=By h c;rw[IP];refine⟨wW _ b,?_,Ml _ b (oh (Rw h c))⟩;have:=rV 100000 b (rU a bq) V;rw[cD]at this;exact this
structure Exe where
 bJ:Int
 value:Int
 bC:Int
 aW:List Int
 ok:Bool
section
variable{m:E}{s:O}{l:List Int}{h:List bP}{w:Int}{a:Nat}
def eL(c:aq m s l)(n:l.length<=1000000000):oI 56 [O.v s] m l:=by
 apply tQ;have b:=c.len;refine⟨λh=>?_,λh=>?_⟩
 .cases s with
  |nil=>simp at b;have:l=[]:=List.length_eq_zero_iff.1 b.symm;subst this;exact⟨.nil,rfl,gY.nil _ _ _ _,J.aA _⟩
  |mk a o e d=>simp at h
  |zP a o d=>simp at h
 .intro d;have a:J m d:=(J.aA m).aH _;have f:gY m d aD 1 (.mk m.size 0 0 0) []:=gY.new (J.aA m) aD 1 [] 0 aJ;refine gY.append (c:=[.i 0]) (h:=l.map Ce.i) f a (by simp[b]) (c.ext a).HY bI λr o a e g i j k=>⟨r,rfl,by simpa using a,e⟩
def sJ(g:aq m s l)(b:Int):aM cq 110 [O.v s,vi b] m λv i=>∃r:Int,v=vi r/\J m i/\((r= -1/\b∉l)\/(b∈l/\r=rG l b)):=by
 apply tS;have j:=g.len;refine fm (n:=l.length) (j▸g.iB) (λk i=>J m i/\b∉l.take k) ⟨J.aA _,aJ⟩ ?_;rintro k u I μ t ⟨f,e⟩ p
 refine dit (λh=>?_) λh=>?_
 .let⟨x,d⟩:=cK l k;refine⟨V,V,x,by simpa using f.af (g.aG d),λc=>?_,λc=>p V _ ⟨f,?_⟩⟩
  .simp at c;subst c;refine⟨_,rfl,f,Or.inr ⟨ar d,?_⟩⟩;have:rG l b=k:=by
    unfold rG;rw[List.findIdx_eq (az d)];refine⟨by have:=(List.getElem?_eq_some_iff.1 d).2;simp[this],λo q=>?_⟩;simp;intro a;apply e;rw[<-a];exact List.mem_take_iff_getElem.2 ⟨o,V,rfl⟩
   rw[this]
  .rw[bd d];simp at c;intro a;rcases List.mem_append.1 a with a|a
   .exact e a
   .simp at a;exact c a
 .rw[cJ V]at e;exact⟨_,rfl,f,Or.inl ⟨rfl,e⟩⟩
def mf(c:aq m s l)(n:Int):dT cq 169 [O.v s,vi n] m (n∈l):=by
 apply rO;refine(sJ c n).mono ?_;rintro _ f ⟨r,rfl,d,h⟩;refine⟨_,rfl,fJ ?_ d⟩;simp only[Hl,au];rcases h with⟨rfl,h⟩|⟨b,e⟩
 .exact⟨λa=>V,λa=>absurd a h⟩
 .exact⟨λ_=>b,λ_=>V⟩
def Cp{t:O}{r:List Int}(d:aq m s l)(i:aq m t r):dT cq 172 [O.v s,O.v t] m (l=r):=by
 apply tR;have j:=d.len;have q:=i.len;refine⟨λh=>cT (λe=>by subst e;simp at h;omega) (J.aA _),λh=>?_⟩;simp at h;refine fm (n:=l.length) (j▸d.iB) (λk a=>J m a/\l.take k=r.take k) ⟨J.aA _,aJ⟩ ?_;rintro k u I μ p ⟨b,g⟩ o
 refine⟨λh=>?_,λh=>jV (by simp at h;rwa[cJ V,cJ V]at g) b⟩;simp only[au]at h;let⟨x,f⟩:=cK l k;let⟨y,c⟩:=cK r k;refine⟨V,V,x,by simpa using b.af (d.aG f),V,V,y,by simpa using b.af (i.aG c),λa=>cT (λe=>?_) b,λa=>o V _ ⟨b,?_⟩⟩
 .subst e;rw[f]at c;simp at c;simp at a;exact a c
 .rw[bd f,bd c,g];simp at a;rw[a]
def hO{a:O}(i:dR m a h)(u:w<=9223372036854775807):
 aM cq 153 [O.v a,vi w] m λv p=>∃(j:Int)(e:Bool),v=.tuple #[vi j,vb e]/\(e=true<->gC h w)/\(e=true->j=ix w)/\J m p:=by
 apply FX
 have k:=i.len
 have t:=i.iB
 refine⟨λc=>?_,λc=>?_⟩
 .simp at c
  have l:cR (w -1000)=w -1000:=aP V V
  have o:(ix w:Int)=w -1000:=by unfold ix;omega
  rw[l]
  refine⟨λg=>?_,λg=>?_⟩
  .simp at g
   let⟨f,b⟩:=cK h ((w -1000).toNat)
   obtain⟨r,s,n,_⟩:=i.aG b
   refine⟨V,V,f.aQ,n,_,_,rfl,?_,λ_=>o.symm,J.aA _⟩
   simp only[ly,au]
   refine⟨λa=>⟨c,f,b,a⟩,λ⟨_,q,d,a⟩=>?_⟩
   unfold ix at d
   rw[b]at d;simp at d;subst d;exact a
  .simp at g
   refine⟨_,_,rfl,⟨sx,λ⟨_,f,b,_⟩=>?_⟩,sx,J.aA _⟩
   have:=az b
   omega
 .simp at c
  exact⟨_,_,rfl,⟨sx,λk=>oh k.1⟩,sx,J.aA _⟩
def Lb{b:O}(f:af m a 8=some (O.v b))(g:dR m b h)(i:w<=9223372036854775807):dT cq 97 [vp a 0,vi w] m (gC h w):=by
 apply uq (a,0);refine⟨b,f,(hO g i).mono ?_⟩;rintro _ k ⟨c,d,rfl,e,_,j⟩;exact⟨c,d,rfl,fJ e j⟩
def Ea(e:aq m s l)(q:l.length<=100000000):oI 173 [O.v s] m (kZ l):=by
 apply yO;have p:=e.len;refine dV (n:=l.length) V (λk s a=>J m a/\gY m a aD 1 s ((kZ (l.take k)).map Ce.i)) ⟨J.aA _,by simpa[kZ]using gY.nil m m aD 1⟩ ?_;rintro k s r I μ o ⟨b,a⟩ f
 refine dit (λh=>?_) λh=>?_
 .let⟨x,c⟩:=cK l k;refine⟨V,V,x,by simpa using b.af (e.aG c),λd=>?_,λg=>?_⟩
  .intro t;refine nY a b (by have:=od (l.take k);simp at this;omega) λv u i j=>f V _ _ ⟨j,?_⟩
   rw[bd c,pt];have:kZ [x]=[x]:=by simp at d;simp[kZ,d]
   rw[this];exact i
  .refine f V _ _ ⟨b,?_⟩
   rw[bd c,pt];have:kZ [x]=[]:=by simp at g;simp[kZ];omega
   rw[this,dN];exact a
 .rw[cJ V]at a;exact⟨s,rfl,a,b⟩
def yi(g:aq m s l):dT cq 99 [O.v s] m (Sx l):=by
 apply DV;refine(iX g 170 #[] #[] be (λx=>x≠0) (λx _ i d=>?_)).then λb j f d=>⟨b,rfl,fJ ?_ d⟩
 .simp only[dX,dN];apply zW;exact fJ aJ (J.aA _)
 .have e:(!b)=true<->¬(b=true):=aJ;rw[e,f];unfold Sx;constructor
  .intro h n c;exact dB λa=>h ⟨n,c,a⟩
  .rintro h ⟨n,c,a⟩;exact a (h n c)
def wa{am U:O}{b:cp}(ac:eW m am U b)(g1:af m a 1=some (O.v U)){x:Instr}(hc:zA b x){o j:O}(z:aq m o x.args)(aQ:x.args.length<=1000000)(ao:(x.op=16\/x.op=17)->1<=x.args.length):
 aM cq 95 [vp a 0,xv x o j] m λaF T=>∃s l,aF=.tuple #[O.v s,O.v l]/\aq T s (bW b x)/\aq T l (if x.op=9\/x.op=24 then fH b x 0 x.args else[])/\J m T/\(s=.nil\/s.D=o.D\/m.size<=s.D)/\(l=.nil\/m.size<=l.D):=by
 apply sT (a,0)
 simp -zeta only[aC,aB]
 intro c
 have v:J m c:=(J.aA m).aH _
 have Q:∀p∈[m.size],p<c.size:=by simp[c]
 have s1:c.size=m.size+1:=by simp[c]
 have ab:=z.len
 have aI:=z.cap
 have N:aq c .nil []:=⟨rfl,aJ,aJ,aJ⟩
 clear_value c
 refine⟨λe=>?_,λq=>⟨λe=>?_,λt=>⟨λe=>?_,λr=>?_⟩⟩⟩
 .simp only[bU,aE]at e
  refine⟨o,.nil,rfl,?_,by rw[ae V];exact N,v,Or.inr (Or.inl rfl),Or.inl rfl⟩
  unfold bW;rw[aj V];exact z.ext v
 .simp only[bU,aE]at e
  simp only[bu,ak]at q
  refine⟨V,V,V,_,.nil,rfl,?_,by rw[ae V];exact N,v,Or.inr (Or.inl ?_),Or.inl rfl⟩
  .unfold bW;rw[ae V,aj e]
   exact eR.TP (z.ext v) (ao e)
  .cases o with
   |nil=>simp at ab;omega
   |zP p d f=>simp at ab;omega
   |mk p d l f=>rfl
 .simp only[bU,aE]at e
  simp only[bu,ak]at q t
  let⟨h0,aR,K⟩:=hc e
  have aP:=ac.cB.len
  have aO:=az K
  have aA:∃(w:O->O->Int->E->Prop)(μ0:O->O->Int->E->Nat),w O.nil O.nil (0:Int) c/\(∀(an:O)(cO:O)(i:Int)(d:E),w an cO i d->∃k:Nat,i=k/\k<=x.args.length/\J c d/\gY c d aD 1 an ((jt b x k).map Ce.i)/\gY c d aD 1 cO ((fH b x 0 (x.args.take k)).map Ce.i)/\(an≠.nil->cO≠.nil->an.D≠cO.D))/\
   (∀(an cO:O)(k:Nat)(d:E),k<=x.args.length->J c d->gY c d aD 1 an ((jt b x k).map Ce.i)->gY c d aD 1 cO ((fH b x 0 (x.args.take k)).map Ce.i)->(an≠.nil->cO≠.nil->an.D≠cO.D)->w an cO k d)/\(∀o p i m,μ0 o p i m=((x.args.length:Int) -i).toNat):=
   ⟨λan cO i d=>∃k:Nat,i=k/\k<=x.args.length/\J c d/\gY c d aD 1 an ((jt b x k).map Ce.i)/\gY c d aD 1 cO ((fH b x 0 (x.args.take k)).map Ce.i)/\(an≠.nil->cO≠.nil->an.D≠cO.D),λ_ _ i _=>((x.args.length:Int) -i).toNat,
    ⟨0,rfl,eO _,J.aA _,by simpa[jt,iC]using gY.nil c c aD 1,by simpa[fH]using gY.nil c c aD 1,λh=>absurd rfl h⟩,λ_ _ _ _ h=>h,λan cO k d f g u y A=>⟨k,rfl,f,g,u,y,A⟩,λ_ _ _ _=>rfl⟩
  let⟨w,μ0,ap,ax,ag,hμ⟩:=aA
  refine⟨w,μ0,ap,?_⟩
  intro an cO i d hI
  obtain⟨k,rfl,hk,aa,o1,o2,I⟩:=ax an cO i d hI
  have L:=v.trans aa
  refine dit (λh=>?_) λh=>?_
  .let⟨y,R⟩:=cK x.args k
   obtain⟨a',l',c',aH,av,aK,k0,k1,_⟩:=(ac.ext L).cB.aG K
   have ai:(x.args.take k).length=k:=bI
   have al:jt b x (k+1)=jt b x k++iC b x k [y]:=by
    unfold jt;rw[bd R,vG,ai,cD]
   have ah:fH b x 0 (x.args.take (k+1))=fH b x 0 (x.args.take k)++fH b x k [y]:=by
    rw[bd R,rf,ai,cD]
   have aL:(jt b x k).length<=k:=bX (uc _ _ _ _) bI
   have aN:(fH b x 0 (x.args.take k)).length<=k:=by
    have:∀(l:List Int)(j:Nat),(fH b x j l).length<=l.length:=by
     intro l;induction l with
     |nil=>intro j;exact ad _
     |cons aG l S=>intro j;have:=S (j+1);simp only[fH];split<;>simp<;>omega
    have:=this (x.args.take k) 0;omega
   have Z:cR ((k:Int)+1)=((k+1:Nat):Int):=kX (n:=x.args.length) V V
   refine⟨V,V,y,by simpa using L.af (z.aG R),U,L.af g1,h0,V,l',k1,(mf av _).aK aa Q λp M hb u F=>⟨p,rfl,λau=>?_,λar=>?_⟩⟩
   .have A:=(Lh K k).2 (hb.1 au)
    intro g
    have s4:g.size=M.size+1:=by simp[g]
    have P:=o1.ext u
    have aw:cO.len=(fH b x 0 (x.args.take k)).length:=by have:=o2.len;simp at this;omega
    refine gY.append (c:=[.i 0]) (h:=[.i y]) ((o2.ext u).ext (J.push _ _)) (F.aH _) rfl (cx.push M _ _).iF bI λs m5 W D q3 q4 X Y=>⟨J.tO (F.aH _) D Q,?_⟩
    rw[Z]
    have ay:=u.size
    refine⟨ag _ _ _ _ V D ?_ ?_ ?_,by rw[hμ,hμ];omega⟩
    .rw[al]
     have:iC b x k [y]=[]:=by simp only[iC];rw[aj A]
     rw[this,dN]
     rcases P.lt with e|e
     .subst e;exact⟨P.len,Or.inl rfl⟩
     .refine P.congr ?_
      rw[X _ (show _<g.size by omega) (λC=>?_),mR,ae V]
      by_cases B:an=.nil
      .subst B
       rcases o2.D with r|r
       .exact absurd r C
       .simp;omega
      .exact I B C
    .rw[ah]
     have:fH b x k [y]=[y]:=by simp only[fH];rw[aj A]
     rw[this];simpa using W
    .intro G H
     rcases Y with⟨_,e⟩|⟨q,t,_⟩|e
     .exact absurd e H
     .rw[t];exact I G q
     .rw[e]
      rcases P.lt with f|f
      .exact absurd f G
      .show an.D≠g.size;omega
   .have A:¬nJ b x k=true:=λhh=>fb hb ar ((Lh K k).1 hh)
    intro g
    have s4:g.size=M.size+1:=by simp[g]
    have P:=o2.ext u
    have aw:an.len=(jt b x k).length:=by have:=o1.len;simp at this;omega
    refine gY.append (c:=[.i 0]) (h:=[.i y]) ((o1.ext u).ext (J.push _ _)) (F.aH _) rfl (cx.push M _ _).iF bI λs m5 W D q3 q4 X Y=>⟨J.tO (F.aH _) D Q,?_⟩
    rw[Z]
    have ay:=u.size
    refine⟨ag _ _ _ _ V D ?_ ?_ ?_,by rw[hμ,hμ];omega⟩
    .rw[al]
     have:iC b x k [y]=[y]:=by simp only[iC];rw[ae A]
     rw[this];simpa using W
    .rw[ah]
     have:fH b x k [y]=[]:=by simp only[fH];rw[ae A]
     rw[this,dN]
     rcases P.lt with e|e
     .subst e;exact⟨P.len,Or.inl rfl⟩
     .refine P.congr ?_
      rw[X _ (show _<g.size by omega) (λC=>?_),mR,ae V]
      by_cases B:cO=.nil
      .subst B
       rcases o1.D with r|r
       .exact absurd r C
       .simp;omega
      .exactλe5=>I C B e5.symm
    .intro G H
     rcases Y with⟨_,e⟩|⟨q,t,_⟩|e
     .exact absurd e G
     .rw[t];exact I q H
     .rw[e]
      rcases P.lt with f|f
      .exact absurd f H
      .show g.size≠cO.D;omega
  .have g:x.args.take k=x.args:=cJ V
   rw[g]at o2
   unfold jt at o1
   rw[g]at o1
   have A:=uc b x x.args 0
   have u:∀(l:List Int)(j:Nat),(fH b x j l).length<=l.length:=by
    intro l;induction l with
    |nil=>intro j;exact ad _
    |cons aG l S=>intro j;have:=S (j+1);simp only[fH];split<;>simp<;>omega
   have y:=u x.args 0
   refine⟨an,cO,rfl,?_,?_,L,?_,?_⟩
   .unfold bW;rw[ae V,ae V,aj e];exact aq.gK o1 V
   .rw[aj e];exact aq.gK o2 V
   .rcases o1.D with f|f
    .exact Or.inl f
    .exact Or.inr (Or.inr V)
   .rcases o2.D with f|f
    .exact Or.inl f
    .exact Or.inr V
 .simp only[bu,ak]at q t r
  refine⟨.nil,.nil,rfl,?_,by rw[ae V];exact N,v,Or.inl rfl,Or.inl rfl⟩
  unfold bW;rw[ae V,ae V,ae V];exact N
end
section
variable{b:E}{i e:Nat}{d p g k h a j:O}{c:cp}{s:St}{l:List aU}{f:aU}{x:Instr}
def HM:∀(l:List (Int×Int))(k v j:Int),vt (JG l k v) j=if j=k then v else vt l j
 |[],k,v,j=>by simp[JG,vt]
 |(a,c)::g,k,v,j=>by
  simp only[JG];split
  .rename_i h;subst h;simp only[vt];split<;>simp_all
  .rename_i h;simp only[vt];split
   .rename_i b;subst b;rw[ae (λe=>h e.symm)]
   .exact HM g k v j
def P6(l:List Int)(k:Nat)(a:Nat):eQ (l.take k) a<=eQ l a:=by
 have:eQ l a=eQ (l.take k) a+eQ (l.drop k) a:=by rw[<-lY,dm]
 have:=iU (l.drop k) a;omega
def wi{m:O}{h:List bP}(Y:af b i 8=some (O.v m))(L:dR b m h){t:Nat->Int}(H:fN h t){c:bP}(W:c∈h){f:O}(X:aq b f c.aN)(aD:h.length<=2000000000):
 dT cq 171 [vp i 0,.agg #[vi c.aQ,vi c.kH,O.v f]] b (c.aQ=1\/lA h c.aN):=by
 apply sW (i,0)
 unfold nT
 simp -zeta only[aC,aB]
 intro e
 have z:J b e:=(J.aA b).aH _
 have s1:e.size=b.size+1:=by simp[e]
 have Z:∀g∈[b.size],g<e.size:=by simp[s1]
 have ay:=(H.cell c W).fl
 have aA:=X.len
 have aE:=L.len
 clear_value e
 refine⟨λu=>jV (Or.inl (by simpa using u)) z,λu=>?_⟩
 simp only[ak]at u
 intro B
 have ah:J e B:=(J.aA e).aH _
 have ap:Ds B e.size []:=⟨#[],0,by simp[B],rfl⟩
 clear_value B
 refine fm (n:=c.aN.length) V (λk d=>J e d/\∃l,Ds d e.size l/\(∀a:Nat,vt l a=eQ (c.aN.take k) a)/\∀w∈c.aN.take k,1000<=w->(aI h w).aQ+eQ (c.aN.take k) (ix w)<=999999) ⟨ah,[],ap,λa=>by simp[vt,eQ],aJ⟩ ?_
 rintro k m3 ax μ hk ⟨D,l,ab,N,x⟩ ag
 have A:=z.trans D
 refine dit (λh2=>?_) λh2=>?_
 .let⟨w,o⟩:=cK c.aN k
  have ac:1000<=w->gC h w:=λm=>H.field W (ar o) m
  have aw:w<=9223372036854775807:=by
   rcases dI (1000<=w)with q|q
   .have:=az (bZ (ac q)).1;unfold ix at this;omega
   .omega
  refine⟨V,V,w,by simpa using A.af (X.aG o),m,A.af Y,(hO (dR.ext A L) aw).aK D Z ?_⟩
  rintro _ m4 ⟨a,g,rfl,v,ai,F⟩
  have p:=D.trans F
  have aN:=z.trans p
  have ao:e.size<m3.size:=by obtain⟨T,S,G,_⟩:=ab;exact(Array.getElem?_eq_some_iff.1 G).1
  have P:Ds m4 e.size l:=by obtain⟨T,S,G,r⟩:=ab;exact⟨T,S,by rw[F.same _ ao];exact G,r⟩
  have j:∀a:Nat,eQ (c.aN.take (k+1)) a=eQ (c.aN.take k) a+(if w=1000+(a:Int)then 1 else 0):=λa=>by
   rw[bd o,lY];simp[eQ]
  refine⟨F,a,g,rfl,λU=>?_,λal=>?_⟩
  .have M:=v.1 U
   have I:=ai U
   subst I
   have ad:=iV M.1
   have aL:=iU (c.aN.take k) (ix w)
   have aK:=lZ (c.aN.take k) (ix w)
   have aF:(c.aN.take k).length<=3:=bI
   have e1:cR (vt l (ix w)+1)=eQ (c.aN.take (k+1)) (ix w):=by
    rw[N,j,aj ad.symm];exact aP V V
   refine⟨l,P,l,P,?_⟩
   rw[e1]
   intro m5 aa av an
   have E:J e m5:=⟨by rw[av];exact p.size,λg v=>by rw[an g V,p.same g v]⟩
   have R:=z.trans E
   let⟨K,aM⟩:=bZ M
   obtain⟨f5,_,k0,_⟩:=(dR.ext R L).aG K
   have aG:=az K
   have aH:=(H.cell _ (ar K)).hi
   have am:vt (JG l (ix w) (eQ (c.aN.take (k+1)) (ix w))) (ix w)=eQ (c.aN.take (k+1)) (ix w):=by rw[HM,aj rfl]
   have au:=j (ix w)
   rw[aj ad.symm]at au
   have e2:cR ((aI h w).aQ+eQ (c.aN.take (k+1)) (ix w))=(aI h w).aQ+eQ (c.aN.take (k+1)) (ix w):=aP V V
   refine⟨J.tO p E Z,m,R.af Y,V,V,_,by simpa using k0,_,aa,trivial,trivial,?_⟩
   rw[am,e2]
   refine⟨λr=>cT (λs=>?_) R,λr=>ag V _ ⟨E,_,aa,λa=>?_,λC d y=>?_⟩⟩
   .rcases s with s|s
    .exact u s
    .have:=s w (ar o) M.1
     have:=P6 c.aN (k+1) (ix w)
     simp at r;omega
   .rw[HM]
    by_cases I:(a:Int)=ix w
    .have:a=ix w:=V
     subst this;rw[aj rfl]
    .rw[ae I,N,j,ae V];omega
   .by_cases Q:C=w
    .subst Q;simp at r;omega
    .rw[j,ae (λt=>Q (by rw[iV y]at t;exact t.symm))]
     rw[bd o]at d
     rcases List.mem_append.1 d with d|d
     .have:=x C d y;omega
     .simp at d;exact absurd d Q
  .have s:¬gC h w:=fb v al
   have E:w<1000:=by
    rcases dI (1000<=w)with q|q
    .exact absurd (ac q) s
    .omega
   refine ag V _ ⟨p,l,P,λa=>by rw[N,j,ae V];omega,λC d y=>?_⟩
   rw[j,ae V]
   rw[bd o]at d
   rcases List.mem_append.1 d with d|d
   .have:=x C d y;omega
   .simp at d;omega
 .rw[cJ V]at x
  exact jV (Or.inr x) A
structure FP(b:E)(fb e:Nat)(f:aU)(g k h:O):Prop where
 g3:af b fb (e+3)=some (O.v g)
 g4:af b fb (e+4)=some (O.v k)
 g5:af b fb (e+5)=some (O.v h)
 an:aq b g f.an
 aR:aq b k f.aR
 aY:aq b h f.aY
def FP.ext{b c:E}{fb e:Nat}{f:aU}{g k h:O}(F:FP b fb e f g k h)(a:J b c):FP c fb e f g k h:=⟨a.af F.g3,a.af F.g4,a.af F.g5,F.an.ext a,F.aR.ext a,F.aY.ext a⟩
def HG{fb:Nat}{aW L fr:O}(m:RV b i 3 d p aW L fr c s)(ai:af b i 2=some (vi (bH c)))(C:yE c s l f x)(N:FP b fb e f g k h)(y:aq b a x.args)(aJ:x.op=11)(aj:s.heap.length<=2000000000):
 dT cq 100 [vp i 0,vp fb e,xv x a j] b (vP c s.heap (aG f.an (aG x.args 0))):=by
 apply sV (i,0) (fb,e)
 simp -zeta only[aC,aB]
 intro v
 have t:J b v:=(J.aA b).aH _
 have s1:v.size=b.size+1:=by simp[v]
 clear_value v
 have hl:∀D∈[b.size],D<v.size:=by simp[s1]
 have au:=y.len
 have aM:=N.an.len
 have h2:=C.lx.2.2.1 V
 have r:0<=aG x.args 0/\aG x.args 0<f.an.length:=C.arg _ (fq V V)
 have an:=C.F.pX r.1 r.2 C.MI
 have P:=N.ext t
 have T:=C.ok.heap
 have Y:=C.ok.fy
 refine⟨L,t.af m.rE,g,P.g3,V,V,_,(y.ext t).pN V V,r.1,V,_,P.an.pN r.1 r.2,?_⟩
 generalize aG f.an (aG x.args 0)=w at*
 refine(hO (dR.ext t m.heap) an.2).aK (J.aA _) hl ?_
 rintro _ M ⟨aa,D,rfl,U,ag,F⟩
 have A:=t.trans F
 refine⟨F,aa,D,rfl,λah=>cT (λn=>nb U ah n.1) A,λW=>?_⟩
 have Z:=yb U W
 have y:=ag (by simpa using W)
 subst y
 let⟨z,al⟩:=bZ Z
 have S:=T.cell _ (ar z)
 have aO:=(S.ry al).2
 have aH:=az z
 have aE:=m.heap.len
 let⟨E,X,k0,k1,k2⟩:=(dR.ext A m.heap).aG z
 refine⟨L,A.af m.rE,V,V,_,by simpa using k0,_,by simpa using k1,E,by simpa using k2,?_⟩
 intro m3 q
 have Q:J M q:=((J.aA M).aH _).ag (ad _) _ _
 have s4:q.size=M.size+1:=by simp[q,m3,aw]
 clear_value q
 have o:=A.trans Q
 have ap:(eP c.bn).length<=12:=by
  have:=rD Y.nj.types c.bn.length;rw[mV _ _ (ad _)]at this;exact this
 have ay:(bH c)=((eP c.bn).length:Int):=rfl
 have aL:=m.fy.cB.len
 have aK:=Y.nj.len
 have e1:cR ((aI s.heap w).kH -bH c)=(aI s.heap w).kH -bH c:=aP V V
 refine⟨bH c,o.af ai,?_⟩
 rw[e1]
 refine⟨λG=>cT (λn=>by have:=n.2.1;simp at G;omega) o,λG=>⟨p,o.af m.cB,λH=>cT (λn=>by have:=n.2.2.1;simp at H;omega) o,λH=>?_⟩⟩
 simp at G H
 let⟨ao,hq⟩:=cK c.cB (((aI s.heap w).kH -bH c).toNat)
 have am:dC c ((aI s.heap w).kH -bH c)=ao:=by simp[dC,hq]
 let⟨a',l',c',ac,ak,ax,j0,j1,j2,j3,j4⟩:=(m.fy.ext o).cB.aG hq
 have av:=ac.len
 have aF:=ak.len
 have aD:=X.len
 have aA:=S.fl
 refine⟨p,o.af m.cB,V,V,a',j0,l',j1,_,j2,_,j3,c',j4,?_⟩
 intro m5 B
 have R:J q B:=((J.aA q).aH _).ag (ad _) _ _
 have s6:B.size=q.size+1:=by simp[B,m5,aw]
 clear_value B
 have u:=o.trans R
 have e3:cR ((E.len:Int)+1)=(E.len:Int)+1:=aP V V
 rw[e3]
 unfold vP
 rw[am]
 have aN:=F.size
 refine⟨λI=>⟨λK=>?_,λK=>cT (λn=>by have:=n.2.2.2.1;simp at K;omega) u⟩,λI=>cT (λn=>by have:=n.2.2.2.2.1;simp at I;omega) u⟩
 simp at I K
 refine(wi (u.af m.rE) (dR.ext u m.heap) T (ar z) (X.ext (Q.trans R)) aj).aK (J.aA _) bI λb2 m7 ae ab _=>⟨b2,rfl,fJ (ae.trans ?_) (u.trans ab)⟩
 exact⟨λhs=>⟨Z,V,V,V,V,hs⟩,λn=>n.2.2.2.2.2⟩
def D0{fb:Nat}{aW hp fr:O}(B:RV b i 3 d p aW hp fr c s)(C:yE c s l f x)(I:FP b fb e f g k h)(M:aq b a x.args)(aO:x.op=14\/x.op=19\/x.op=21\/x.op=16\/x.op=17)(aL:s.heap.length<=2000000000):
 dT cq 101 [vp i 0,vp fb e,xv x a j] b ((x.op=14->gC s.heap (aG f.an (aG x.args 0))/\(aI s.heap (aG f.an (aG x.args 0))).aQ<999999)/\(x.op=19->gC s.heap (aG f.an (aG x.args 0))/\x.bQ<(aI s.heap (aG f.an (aG x.args 0))).aN.length)/\
  (x.op=21->gC s.heap (aG f.an (aG x.args 0))/\(aI s.heap (aG f.an (aG x.args 0))).kH∈cw c.bn x.bQ)/\((x.op=16\/x.op=17)->Fu s.heap f x)):=by
 apply rH (i,0) (fb,e)
 simp -zeta only[aC,aB]
 intro R
 have P:J b R:=(J.aA b).aH _
 have s1:R.size=b.size+1:=by simp[R]
 clear_value R
 have hl:∀D∈[b.size],D<R.size:=by simp[s1]
 have aZ:=M.len
 have aY:=M.cap
 have a8:=I.an.len
 have a2:=I.aY.len
 have h4:=C.lx
 have a5:=C.Lg
 have aN:1<=x.args.length:=V
 have aU:=h4.1
 clear h4
 have E:0<=aG x.args 0/\aG x.args 0<f.an.length:=C.arg _ (fq V V)
 have aP:=C.F.pX E.1 E.2 C.MI
 have F1:=I.ext P
 have hI:=C.ok.heap
 have aF:Fu s.heap f x<->(gC s.heap (aG f.an (aG x.args 0))/\kZ (aI s.heap (aG f.an (aG x.args 0))).aN=cN f (x.args.drop 1)/\((aI s.heap (aG f.an (aG x.args 0))).aQ=1\/lA s.heap (aI s.heap (aG f.an (aG x.args 0))).aN)/\(x.op=17->aG f.aY (aG x.args 0)=0)):=Tj
 rw[aF]
 refine⟨hp,P.af B.rE,g,F1.g3,V,V,_,(M.ext P).pN V V,E.1,V,_,F1.an.pN E.1 E.2,?_⟩
 generalize aG f.an (aG x.args 0)=w at*
 refine(hO (dR.ext P B.heap) aP.2).aK (J.aA _) hl ?_
 rintro _ F ⟨au,D,rfl,U,aJ,aa⟩
 have Y:=P.trans aa
 refine⟨aa,au,D,rfl,λaK=>cT (λv=>?_) Y,λak=>?_⟩
 .have t:=nb U aK
  rcases aO with q|q|q|q
  .exact t (v.1 q).1
  .exact t (v.2.1 q).1
  .exact t (v.2.2.1 q).1
  .exact t (v.2.2.2 q).1
 have H:=yb U ak
 have aH:=aJ (by simpa using ak)
 subst aH
 let⟨X,a7⟩:=bZ H
 have aj:=hI.cell _ (ar X)
 have a6:=az X
 have a3:=B.heap.len
 let⟨Z,ag,k0,k1,k2⟩:=(dR.ext Y B.heap).aG X
 refine⟨hp,Y.af B.rE,V,V,_,by simpa using k0,_,by simpa using k1,Z,by simpa using k2,?_⟩
 intro m3 A
 have ab:J F A:=((J.aA F).aH _).ag (ad _) _ _
 have s4:A.size=F.size+1:=by simp[A,m3,aw]
 have kB:af A F.size 1=some (vi (aI s.heap w).kH):=(cx.ag (m:=m3) (o:=0) (r:=[.i (aI s.heap w).aQ,.i (aI s.heap w).kH,.s Z]) (cx.push F _ _)).bV 1
 clear_value A
 have z:=Y.trans ab
 have a9:=aa.size
 have G:∀D∈[F.size,b.size],D<A.size:=bI
 have a1:=ag.len
 refine⟨λq=>?_,λav=>⟨λq=>?_,λax=>⟨λq=>?_,λay=>?_⟩⟩⟩
 .simp at q
  refine fJ ?_ z
  simp
  exact⟨λu=>⟨λ_=>⟨H,u⟩,λt=>V,λt=>V,λt=>V⟩,λu=>(u.1 q).2⟩
 .simp at q
  refine fJ ?_ z
  simp
  exact⟨λu=>⟨λt=>V,λ_=>⟨H,V⟩,λt=>V,λt=>V⟩,λu=>oh ((u.2.1 q).2)⟩
 .simp at q
  refine⟨d,z.af B.bn,(tB (B.fy.ext z).bn C.ok.fy.nj.types _).aK (J.aA _) G ?_⟩
  rintro _ m5 ⟨K,rfl,L,y⟩
  refine⟨y,K,rfl,y.cr kB,(mf L _).aK y G λb2 m6 W ae ac=>⟨b2,rfl,fJ (W.trans ?_) (z.trans ac)⟩⟩
  exact⟨λu=>⟨λt=>V,λt=>V,λ_=>⟨H,u⟩,λt=>V⟩,λu=>(u.2.2.1 q).2⟩
 .simp at av ax ay
  have S:x.op=16\/x.op=17:=V
  have e1:(Int.toNat (1:Int))=1:=rfl
  have e2:(Int.toNat (a.len:Int))=a.len:=V
  rw[e1,e2]
  have am:=Vk (M.ext z) aN
  have a4:=am.len
  have a0:(x.args.drop 1).length<=4:=bI
  refine⟨V,V,V,?_⟩
  refine dV (n:=(x.args.drop 1).length) V (λai s' K=>J A K/\gY A K aD 1 s' ((cN f ((x.args.drop 1).take ai)).map Ce.i)) ⟨J.aA _,by simpa[cN]using gY.nil A A aD 1⟩ ?_
  rintro ai s' m5 aT μ hk ⟨y,o5⟩ aR
  have aQ:=z.trans y
  refine dit (λu=>?_) λu=>?_
  .let⟨T,K⟩:=cK (x.args.drop 1) ai
   have L:=C.arg T (xc (ar K))
   have N:=I.ext aQ
   refine⟨V,V,T,by simpa using(am.ext y).aG K,g,N.g3,L.1,V,_,N.an.pN L.1 L.2,?_⟩
   intro m6
   refine nY o5 y (by simp[cN];omega) λah m7 q1 Q=>⟨J.tO (y.aH _) Q G,aR V _ _ ⟨Q,?_⟩⟩
   rw[bd K]
   simpa[cN]using q1
  .rw[cJ V]at o5
   have i5:aq m5 s' (cN f (x.args.drop 1)):=aq.gK o5 (by simp[cN];omega)
   refine(Ea (ag.ext (ab.trans y)) (oh aj.fl)).aK (P7 (od (aI s.heap w).aN) aj.fl) (λD U=>y.lt (G D U)) λps m6 o6 i6 ae=>⟨ps,rfl,?_⟩
   have ac:=y.trans ae
   refine(Cp i6 (i5.ext ae)).aK ac G λb2 m7 W aV T=>⟨b2,rfl,λh8=>cT (λv=>nb W h8 (v.2.2.2 S).2.1) (z.trans T),λh8=>?_⟩
   have al:=yb W h8
   have Q:=z.trans T
   have ap:aM cq 171 [vp i 0,.agg #[vi (aI s.heap w).aQ,vi (aI s.heap w).kH,O.v Z]] m7 λaS an=>dY [F.size,b.size] m7 an/\∃ao:Bool,aS=vb ao/\((ao=true<->((aI s.heap w).aQ=1\/lA s.heap (aI s.heap w).aN))/\J b an):=
    (wi (Q.af B.rE) (dR.ext Q B.heap) hI (ar X) (ag.ext (ab.trans T)) aL).aK T G λb3 m8 N aX aE=>⟨b3,rfl,N,z.trans aE⟩
   have F7:=I.ext Q
   have aA:aG x.args 0<f.aY.length:=V
   refine⟨λK=>⟨h,F7.g5,V,V,_,(M.ext Q).pN V V,E.1,V,_,F7.aY.pN E.1 aA,λL=>cT (λv=>?_) Q,λL=>ap.mono ?_⟩,λK=>ap.mono ?_⟩
   .simp at K L;exact L ((v.2.2.2 S).2.2.2 K)
   .rintro _ m8 ⟨hs,b3,rfl,N,ah⟩
    refine⟨hs,b3,rfl,fJ (N.trans ?_) ah⟩
    simp at L
    exact⟨λhf=>⟨λt=>V,λt=>V,λt=>V,λ_=>⟨H,al,hf,λ_=>L⟩⟩,λv=>(v.2.2.2 S).2.2.1⟩
   .rintro _ m8 ⟨hs,b3,rfl,N,ah⟩
    refine⟨hs,b3,rfl,fJ (N.trans ?_) ah⟩
    simp at K
    exact⟨λhf=>⟨λt=>V,λt=>V,λt=>V,λ_=>⟨H,al,hf,λt=>absurd t K⟩⟩,λv=>(v.2.2.2 S).2.2.1⟩
end
section
variable{b:E}{c:Nat}{a:aU}{d e h:O}
def ve(an:List Int):∀(b a aR:List Int),bB an aR (b++a)=bB an (bB an aR b) a
 |[],a,aR=>rfl
 |y::b,a,aR=>by simp only[cH,bB,ve an b a]
def MP{f fb:Nat}(i:af b f 0=some (vp fb c))(F:FP b fb c a d e h){x:Int}(g:0<=x/\x<a.an.length):dT cq 98 [vi x,vp f 0] b (1000<=aG a.an x):=by
 apply vn (f,0);have j:=F.an.len;exact⟨(fb,c),i,d,F.g3,g.1,V,_,F.an.pN g.1 g.2,fJ aJ (J.aA _)⟩
def P1{mb fb:Nat}{a4 bp aW u fr:O}{g:cp}{N:St}(R:RV b mb 3 a4 bp aW u fr g N)(bc:af b mb 2=some (vi (bH g))){fs:List aU}{x:Instr}(C:yE g N fs a x){ap bl:O}(Q:FP b fb c a d e h)(Z:aq b ap x.args)(a1:N.heap.length<=2000000000):
 dT cq 59 [vp mb 0,vp fb c,xv x ap bl] b (kD g N a x (bB a.an a.aR (bW g x))):=by
 apply xz (mb,0) (fb,c)
 simp -zeta only[aC,aB]
 intro m1 L
 have w:J b L:=((J.aA b).aH _).aH _
 have s1:m1.size=b.size+1:=by simp[m1]
 have s2:L.size=b.size+2:=by simp[L,s1]
 have P:∀j∈[m1.size,b.size],j<L.size:=bI
 have kP:af L b.size 0=some (vp fb c):=((cx.push b [.p fb c] _).ext (J.push m1 _)).bV 0
 clear_value L
 have bt:=Z.len
 have bK:=Q.an.len
 have bE:=Q.aR.len
 have bw:=Q.aY.len
 have bA:=C.Lg
 have hd:=C.dst
 have bh:=C.ZK
 refine⟨e,w.af Q.g4,(eL (Q.aR.ext w) V).aK V P λB m3 oq iq aK=>⟨B,rfl,?_⟩⟩
 have ax:=iq.len
 have aN:=w.trans aK
 refine(wa (R.fy.ext aN) (aN.af R.cB) C.call (Z.ext aN) (oh C.lx.1) C.lx.2.2.2.1).aK aK P ?_
 rintro _ U ⟨rs,ls,rfl,aA,aO,aL,a3,a2⟩
 have a8:=aK.trans aL
 have bn:=oq.ext aL
 refine⟨aL,rs,ls,rfl,?_⟩
 have bM:=IQ g x
 have bs:=C.lx.1
 have bL:=aA.len
 have a_:=C.Kp
 have bi:∀ac∈a.aR,0<=ac:=λac T=>(C.OM ac T).1
 have bG:L.size<=B.D:=by
  rcases oq.D with k|k
  .subst k;simp at ax;omega
  .exact k
 have bJ:B.D<m3.size:=by
  rcases oq.lt with k|k
  .subst k;simp at ax;omega
  .exact k
 have aM:=C.arg
 have bD:=w.size
 have kr:∀{v:E},(∀j,j<U.size->j≠B.D->v[j]? =U[j]?)->aq v rs (bW g x):=λhk=>iO aA λG=>hk _ (iP aA G) λk=>by
  have bb:x.args≠[]:=λS=>by
   let⟨y,s⟩:=UW _ G;have:=Ca s;rw[S]at this;simp at this
  rcases a3 with W|W|W
  .subst W;have:=aA.len;simp at this;exact G (List.length_eq_zero_iff.1 this.symm)
  .rw[W]at k;have:=iP Z bb;omega
  .omega
 have kl:∀{v:E},(∀j,j<U.size->j≠B.D->v[j]? =U[j]?)->aq v ls (if x.op=9\/x.op=24 then fH g x 0 x.args else[]):=λhk=>iO aO λG=>hk _ (iP aO G) λk=>by
  rcases a2 with W|W
  .subst W;have:=aO.len;simp at this;exact G (List.length_eq_zero_iff.1 this.symm)
  .omega
 refine fm (n:=(bW g x).length) V (λp v=>J L v/\(∀j,j<U.size->j≠B.D->v[j]? =U[j]?)/\gY L v aD 1 B ((bB a.an a.aR ((bW g x).take p)).map Ce.i)/\∀ac∈bB a.an a.aR ((bW g x).take p),0<=ac) ⟨a8,λ_ _ _=>rfl,bn,bi⟩ ?_
 rintro p m5 bq μ hk ⟨ad,am,aF,K⟩ aT
 have F5:=Q.ext (w.trans ad)
 have bf:=kd a.an ((bW g x).take p) a.aR
 have ay:aq m5 B (bB a.an a.aR ((bW g x).take p)):=aq.gK aF V
 refine dit (λh6=>?_) λh6=>?_
 .let⟨y,s⟩:=cK (bW g x) p
  have q:=a_ y (ar s)
  have D:bB a.an a.aR ((bW g x).take (p+1))=if 1000<=aG a.an y then gQ (bB a.an a.aR ((bW g x).take p)) y (aG (bB a.an a.aR ((bW g x).take p)) y -1)else bB a.an a.aR ((bW g x).take p):=by
   rw[bd s,ve];rfl
  have H:y<(bB a.an a.aR ((bW g x).take p)).length:=V
  have aV:=K _ (fq q.1 H)
  have aY:aG (bB a.an a.aR ((bW g x).take p)) y<=999999:=by
   let⟨q',M,al⟩:=ln ((bW g x).take p) a.aR y.toNat _ (oK q.1 H);have:=(C.OM q' (ar M)).2;omega
  refine⟨V,V,y,by simpa using(kr am).aG s,d,F5.g3,q.1,V,_,F5.an.pN q.1 q.2,λA=>?_,λA=>aT V _ ⟨ad,am,by rw[D,ae (by simpa using A)];exact aF,by rw[D,ae (by simpa using A)];exact K⟩⟩
  simp at A
  rw[aj A]at D
  refine⟨q.1,V,_,ay.pN q.1 H,q.1,V,?_⟩
  have e1:cR (aG (bB a.an a.aR ((bW g x).take p)) y -1)=aG (bB a.an a.aR ((bW g x).take p)) y -1:=aP V V
  rw[e1]
  rcases aF.aG with aH|⟨X,an,tail,z1,z2,z3,z4,z5⟩
  .rw[aH]at ax;simp at ax;omega
  .have a5:B.off=0:=by rw[z1];rfl
   have aa:B.D=X:=by rw[z1];rfl
   have ah:B.off+y.toNat*1=y.toNat:=V
   rw[ah,aa]
   have aw:y.toNat<((bB a.an a.aR ((bW g x).take p)).map Ce.i).length:=bI
   refine⟨z3.eC (by simp only[ba];omega),?_⟩
   intro m6
   have F:J L m6:=ad.ag V _ _
   have ao:∀j,j<U.size->j≠B.D->m6[j]? =U[j]? :=λj t G=>by rw[bo _ _ _ _ V];exact am j t G
   have o6:gY L m6 aD 1 B ((bB a.an a.aR ((bW g x).take (p+1))).map Ce.i):=by
    rw[D];refine⟨by rw[dW,jW,<-dW (f:=Ce.i)];exact aF.len,Or.inr ⟨X,an,tail,z1,z2,?_,?_,z5⟩⟩
    .have:=cx.ag (m:=m5) (o:=y.toNat) (r:=[.i (aG (bB a.an a.aR ((bW g x).take p)) y -1)]) z3;have e6:js ((bB a.an a.aR ((bW g x).take p)).map Ce.i++tail) y.toNat [.i (aG (bB a.an a.aR ((bW g x).take p)) y -1)]=(gQ (bB a.an a.aR ((bW g x).take p)) y (aG (bB a.an a.aR ((bW g x).take p)) y -1)).map Ce.i++tail:=by
      simp only[js,gQ,ug];rw[Mx _ _ aw]
     rw[e6]at this;exact this
    .simp only[ba,dW,jW]at z4⊢;exact z4
   have a0:=kd a.an ((bW g x).take (p+1)) a.aR
   have aS:aq m6 B (bB a.an a.aR ((bW g x).take (p+1))):=aq.gK o6 V
   have Y:aG (bB a.an a.aR ((bW g x).take (p+1))) y=aG (bB a.an a.aR ((bW g x).take p)) y -1:=by rw[D,U9 q.1 H y q.1,aj rfl]
   have ag:=aS.pN (i:=y) q.1 V
   rw[Y,ah,aa]at ag
   refine⟨J.tO ad F P,q.1,V,_,ag,λh8=>cT (λz=>?_) (w.trans F),λh8=>aT V _ ⟨F,ao,o6,λac T=>?_⟩⟩
   .simp at h8
    have ab:bB a.an a.aR (bW g x)=bB a.an (bB a.an a.aR ((bW g x).take (p+1))) ((bW g x).drop (p+1)):=by rw[<-ve,dm]
    have av:y<(bB a.an a.aR (bW g x)).length:=by rw[kd];omega
    have I:=oK (l:=bB a.an a.aR (bW g x)) q.1 av
    have aZ:=z.nn _ (ar I)
    rw[ab]at I
    let⟨q',M,al⟩:=ln _ _ _ _ I
    have aQ:=DM M
    rw[Y]at aQ
    rw[<-ab]at al
    omega
   .rw[D]at T
    rcases pT T with T|T
    .simp at h8;omega
    .exact K ac T
 .have bj:(bW g x).take p=bW g x:=cJ V
  rw[bj]at ay K bf
  have aQ:=kl am
  generalize bF:bB a.an a.aR (bW g x)=aR at*
  have bg:=aQ.len
  refine⟨λv=>J m5 v/\(lU x.op->aG aR x.dst<=0),?_,?_⟩
  .refine(rJ _ _ ⟨V,V⟩).aK ad P λj m6 t ag F=>⟨j,rfl,λH=>⟨hd.1,V,_,(ay.ext ag).pN hd.1 V,λA=>cT (λz=>?_) (w.trans F),λA=>⟨ag,λ_=>by simpa using A⟩⟩,λD=>⟨ag,λI=>absurd I (Go.Vc.fb t D)⟩⟩
   have:=z.dst (t.1 H);simp at A;omega
  .rintro m6 ⟨ag,aa⟩
   have bm:∀(ao:List Int)(jj:Nat)(y:Int),y∈fH g x jj ao->y∈ao:=by
    intro ao;induction ao with
    |nil=>intro jj y h;simp[fH]at h
    |cons D ao A=>
     intro jj y h;simp only[fH]at h;split at h
     .rcases List.mem_cons.1 h with rfl|h
      .exact aX
      .exact ai _ (A _ _ h)
     .exact ai _ (A _ _ h)
   generalize aw:(if x.op=9\/x.op=24 then fH g x 0 x.args else[])=LL at*
   have a9:∀y∈LL,0<=y/\y<a.an.length:=λy s=>by
    rw[<-aw]at s;split at s
    .exact aM y (bm _ _ _ s)
    .simp at s
   refine fm (n:=LL.length) (bg▸aQ.iB) (λp v=>J m5 v/\∀y∈LL.take p,1000<=aG a.an y->gC N.heap (aG a.an y)) ⟨ag,aJ⟩ ?_
   rintro k2 m7 I2 μ2 bz ⟨ah,an⟩ aS
   have Y:=ad.trans ah
   have A:=w.trans Y
   have H:=Q.ext A
   refine dit (λh8=>?_) λh8=>?_
   .let⟨y,s⟩:=cK LL k2
    have q:=a9 y (ar s)
    refine⟨V,V,y,by simpa using(aQ.ext ah).aG s,d,H.g3,q.1,V,_,H.an.pN q.1 q.2,λF=>?_,λF=>aS V _ ⟨ah,bY s an λu=>by simp at F;omega⟩⟩
    simp at F
    refine(Lb (A.af R.rE) (dR.ext A R.heap) (C.F.pX q.1 q.2 C.MI).2).aK Y P λj m8 t al I=>⟨j,rfl,λD=>cT (λz=>?_) (w.trans I),λD=>aS V _ ⟨ah.trans al,bY s an λ_=>yb t D⟩⟩
    have M:=ar s
    rw[<-aw]at M
    split at M
    .rename_i e9;exact nb t D (z.cO e9 y M F)
    .simp at M
   .rw[cJ V]at an
    have ab:(x.op=9\/x.op=24)->Kz g N.heap a x:=λe9=>by rw[aj e9]at aw;rw[<-aw]at an;exact an
    have bk:=ay.ext ah
    have hV:=R.ext A
    have aV:1<=x.args.length->0<=aG x.args 0/\aG x.args 0<a.an.length:=λX=>aM _ (fq V V)
    have ga:∀{v},J b v->1<=x.args.length->af v ap.D (ap.off+Int.toNat (0:Int)*1)=some (vi (aG x.args 0)):=λhx X=>(Z.ext hx).pN V V
    clear aT aS am kr kl bh a3 a2
    refine⟨λk=>?_,λe1=>?_⟩
    .simp only[bU,aE]at k
     refine(iX (Z.ext A) 98 #[] #[vp b.size 0] be (λy=>1000<=aG a.an y) (λy s v av=>?_)).aK Y (λj t=>P j (by simp at t;simp[t])) λj m8 t al I=>⟨j,rfl,fJ ?_ (w.trans I)⟩
     .simpa using MP (av.af (Y.af kP)) (H.ext av) (aM y s)
     .have aH:(!j)=true<->¬(j=true):=aJ
      rw[aH,t]
      constructor
      .intro aY
       have u:∀y∈x.args,aG a.an y<1000:=λy s=>by
        rcases dI (1000<=aG a.an y)with X|X
        .exact absurd ⟨y,s,X⟩ aY
        .omega
       have M:x.op≠6/\x.op≠24/\x.op≠23/\x.op≠11/\x.op≠14/\x.op≠15/\x.op≠16/\x.op≠17/\x.op≠19/\x.op≠21:=by rcases k with k|k|k|k|k|k<;>rw[k]<;>decide
       exact⟨K,aa,λ_=>u,λq=>absurd q M.1,ab,λq=>q.elim (λh=>absurd h M.2.1) (λh=>absurd h M.2.2.1),λq=>absurd q M.2.2.1,λq=>absurd q M.2.2.2.1,λq=>absurd q M.2.2.2.2.1,λq=>absurd q M.2.2.2.2.2.1,λq=>q.elim (λh=>absurd h M.2.2.2.2.2.2.1) (λh=>absurd h M.2.2.2.2.2.2.2.1),λq=>absurd q M.2.2.2.2.2.2.2.2.1,λq=>absurd q M.2.2.2.2.2.2.2.2.2⟩
      .rintro z ⟨y,s,X⟩
       have:=z.nU V y s;omega
    simp only[bu,ak]at e1
    refine⟨λk=>?_,λe6=>?_⟩
    .simp only[aE]at k
     have bx:=C.lx.2.2.2.2.1 k
     have iy:Fv N.heap a x->kD g N a x aR:=λu=>by
      refine⟨K,aa,?_,?_,ab,?_,?_,?_,?_,?_,?_,?_,?_⟩<;>intro q<;>first|(exfalso;omega)|exact u
     refine⟨λF=>?_,λF=>jV (iy λG=>absurd (by simpa using F) G) A⟩
     simp at F
     have aZ:cR (x.bM -1)=x.bM -1:=aP V V
     rw[aZ]
     have M:0<=x.bM -1/\x.bM -1<a.aY.length:=V
     refine⟨h,H.g5,V,V,_,H.aY.pN M.1 M.2,λD=>?_,λD=>jV (iy λ_ G=>absurd (by simpa using D) G) A⟩
     simp at D
     obtain⟨T,dd,aH,_⟩:=C.Lf _ (fq M.1 M.2) D
     have bC:=az aH
     have a6:ix (aG a.aY (x.bM -1))=(aG a.aY (x.bM -1) -1000).toNat:=rfl
     have a0:cR (aG a.aY (x.bM -1) -1000)=aG a.aY (x.bM -1) -1000:=aP V V
     have bv:=R.heap.len
     let⟨f9,a5,k0,k1,a7⟩:=(dR.ext A R.heap).aG aH
     have br:=a5.len
     have aY:aI N.heap (aG a.aY (x.bM -1))=dd:=by simp[aI,aH]
     refine⟨u,hV.rE,h,H.g5,V,V,_,H.aY.pN M.1 M.2,?_⟩
     rw[a0,<-a6]
     refine⟨V,V,f9,a7,fJ ?_ A⟩
     simp only[aE]
     refine⟨λav=>iy λ_ _=>by rw[aY];omega,λz=>?_⟩
     have:=z.je k F D
     rw[aY]at this;omega
    simp only[ak]at e6
    refine⟨λk=>?_,λa6=>?_⟩
    .simp only[bU,aE]at k
     refine(yi bk).aK Y P λj m8 t al I=>⟨j,rfl,λF=>cT (λz=>nb t F (z.zero k).1) (w.trans I),λF=>?_⟩
     have F8:=Q.ext (w.trans I)
     refine⟨h,F8.g5,(yi F8.aY).aK I P λb2 m9 a0 br aZ=>⟨b2,rfl,λD=>cT (λz=>nb a0 D (z.zero k).2) (w.trans aZ),λD=>?_⟩⟩
     have M:=w.trans aZ
     have F9:=Q.ext M
     have iy:(x.op=23->1<N.av.length\/aG a.an (aG x.args 0)<1000)->kD g N a x aR:=λu=>by
      refine⟨K,aa,?_,?_,ab,?_,?_,?_,?_,?_,?_,?_,?_⟩<;>intro q<;>first|exact u q|(exfalso;omega)|exact⟨(yb t F),(yb a0 D)⟩
     have bv:=R.av.len
     refine⟨λav=>jV (iy λq=>by simp at av;omega) M,λav=>⟨fr,M.af R.Oz,λaH=>jV (iy λ_=>Or.inl (by simp at aH;omega)) M,λaH=>?_⟩⟩
     simp at av aH
     have a5:x.op=23:=V
     have X:=C.lx.2.1 V
     have S:=aV V
     refine⟨d,F9.g3,V,V,_,ga M V,S.1,V,_,F9.an.pN S.1 S.2,fJ ?_ M⟩
     simp
     refine⟨λa7=>iy λ_=>Or.inr a7,λz=>?_⟩
     rcases z.ret a5 with aY|aY
     .omega
     .exact aY
    simp only[bu,ak]at a6
    refine⟨λk=>?_,λz=>?_⟩
    .simp only[aE]at k
     refine(HG hV (A.af bc) C H (Z.ext A) k a1).aK Y P λj m8 t al I=>⟨j,rfl,fJ (t.trans ?_) (w.trans I)⟩
     refine⟨λu=>?_,λh=>h.apply k⟩
     refine⟨K,aa,?_,?_,ab,?_,?_,?_,?_,?_,?_,?_,?_⟩<;>intro q<;>first|(exfalso;omega)|exact u
    simp only[ak]at z
    refine⟨λk=>?_,λF=>?_⟩
    .simp only[aE]at k
     have X:=C.lx.2.1 V
     have S:=aV V
     refine⟨d,H.g3,V,V,_,ga A V,S.1,V,_,H.an.pN S.1 S.2,fJ ?_ A⟩
     simp only[Hl,au]
     refine⟨λu=>?_,λh=>h.drop k⟩
     refine⟨K,aa,?_,?_,ab,?_,?_,?_,?_,?_,?_,?_,?_⟩<;>intro q<;>first|(exfalso;omega)|exact u
    simp only[ak]at F
    refine⟨λk=>?_,λD=>?_⟩
    .simp only[bU,aE]at k
     refine(D0 hV C H (Z.ext A) V a1).aK Y P λj m8 t al I=>⟨j,rfl,fJ (t.trans ?_) (w.trans I)⟩
     refine⟨λu=>?_,λh=>⟨h.VS,h.load,h.BC,h.Jj⟩⟩
     refine⟨K,aa,?_,?_,ab,?_,?_,?_,u.1,?_,u.2.2.2,u.2.1,u.2.2.1⟩<;>intro q<;>exfalso<;>omega
    .simp only[bu,ak]at D
     refine jV ?_ A
     refine⟨K,aa,?_,?_,ab,?_,?_,?_,?_,?_,?_,?_,?_⟩<;>intro q<;>exfalso<;>omega
end
section
variable{N c:Nat}{b:Nat->Nat}{a:E}{h:List bP}
def mZ(w:Int)(a:E):vO cq 109 [vi w] a (vi (gF w)):=by
 apply wm;unfold gF;exact⟨λh=>by simp at h;rw[aj h];exact⟨rfl,J.aA _⟩,λh=>by simp at h;rw[ae V];exact⟨rfl,J.aA _⟩⟩
def uL{d:O}(s:dQ N b a d h)(A:∀e,a.size<=e->b e=0)(kb:cx a c eu [.s d])(C:b c=5)(H:h.length<=2000000000):
 aM cq 176 [vp c 0] a λ_ g=>dQ N b g (d.cut 0 (ji h h.length) 3) (nt h)/\cx g c eu [.s (d.cut 0 (ji h h.length) 3)]/\HC b a b g:=by
 apply Aa (c,0)
 have G:=s.len
 have t:=s.cells V
 have E:=t.cap
 have j:af a c 0=some (O.v d):=kb.bV 0
 refine⟨d,j,λl g=>g=a/\∃n:Nat,l=n/\n<=h.length/\ji h n=ji h h.length,λl _=>l.toNat,⟨rfl,h.length,V,ad _,rfl⟩,?_⟩
 rintro l e ⟨rfl,n,rfl,B,u⟩
 have x:Int.toNat (0:Int)=0:=rfl
 have en:Int.toNat (n:Int)=n:=V
 have iy:ji h n=n->dQ N b (ag e c 0 [.s (d.cut 0 n 3)]) (d.cut 0 (ji h h.length) 3) (nt h)/\cx (ag e c 0 [.s (d.cut 0 n 3)]) c eu [.s (d.cut 0 (ji h h.length) 3)]/\HC b e b (ag e c 0 [.s (d.cut 0 n 3)]):=λw=>by
  have f:dz (λk=>k=5) b e b (ag e c 0 [.s (d.cut 0 n 3)]):=dz.ag A C _ _;have i:ji h h.length=n:=by rw[<-u,w]
  rw[i];refine⟨?_,cx.ag (m:=e) (o:=0) (r:=[.s (d.cut 0 n 3)]) kb,f.mono λk z=>Or.inr (Or.inl z)⟩;have:=(s.eY f be be).cut B;unfold nt;rw[i];exact this
 refine⟨λp=>?_,λp=>?_⟩
 .simp only[ly,au]at p
  obtain⟨k,rfl⟩:∃k,n=k+1:=⟨n -1,V⟩
  have i:cR (((k+1:Nat):Int) -1)=(k:Int):=by rw[aP V V];omega
  let⟨v,f⟩:=cK h k
  obtain⟨D,F,y,_⟩:=t.aG f
  refine⟨d,j,?_⟩
  rw[i]
  refine⟨V,V,v.aQ,by simpa using y,λq=>⟨⟨rfl,k,rfl,V,?_⟩,by show(k:Int).toNat<((k+1:Nat):Int).toNat;omega⟩,λq=>⟨d,j,V,V,V,kb.eC aJ,?_⟩⟩
  .rw[<-u,Qv f (by simpa using q)]
  .rw[x,en];exact iy (Mr f (by simpa using q))
 .simp only[ly,bG]at p
  have q:n=0:=V
  subst q
  exact⟨d,j,V,V,V,kb.eC aJ,iy rfl⟩
def FU{e:O}(hh:dQ N b a e h)(hn:∀g,a.size<=g->b g=0)(kb:cx a c eu [.s e])(hr:b c=5){v:Int}{W:Nat->Int}(hI:fN h (λg=>W g+eQ [v] g))(he:∀g,0<=W g)(a5:h.length<=2000000000):
 aM cq 107 [vp c 0,vi v] a λ_ q=>∃u av,dQ N u q av (nt (gS h [v]))/\cx q c eu [.s av]/\HC b a u q:=by
 apply zZ (c,0)
 intro r
 have X:J a r:=(J.aA a).aH _
 have s1:r.size=a.size+1:=by simp[r]
 have o1:gY a r aD 1 (.mk a.size 0 1 1) ([v].map Ce.i):=gY.new (J.aA a) aD 1 _ 1 aJ
 have c1:HC b a (pw b a.size 6) r:=dz.pw X hn (ad _) V 6
 have a1:iz (pw b a.size 6) r aD 1 6 (.mk a.size 0 1 1) ([v].map Ce.i):=iz.gK o1 λ_=>fR _ _ _
 have aN:dQ N (pw b a.size 6) r e h:=hh.eY (dz.pw (p:=λ_=>False) X hn (ad _) V 6) id id
 have aT:=kb.ext X
 have aO:pw b a.size 6 c=5:=by rw[ez (oh kb.lt)];exact hr
 clear_value r
 have aY:=OA λaF d=>(hI.cell aF d).fl
 have aZ:=hh.len
 refine Kr (γ:=List bP×List Int) (λi G q=>∃u,dQ N u q e i.1/\iz u q aD 1 6 G (i.2.reverse.map Ce.i)/\HC b a u q/\fN i.1 (λg=>W g+eQ i.2 g)/\gS i.1 i.2=gS h [v]/\i.1.length=h.length/\i.2.length+Ch i.1<=1+Ch h/\cx q c eu [.s e]/\u c=5) (λi=>Cf i.1+i.2.length) (h,[v])
  ⟨_,aN,a1,c1,hI,rfl,rfl,aJ,aT,aO⟩ ?_
 rintro⟨d,st⟩ G m2 aU μ ⟨m,B,a2,i,t,y,K,al,P,z⟩ ae
 simp only[]at B a2 t y K al
 have ay:G.len=st.length:=by have:=a2.len;simp at this;omega
 refine⟨λY=>?_,λY=>?_⟩
 .simp only[ly,au]at Y
  cases st with
  |nil=>simp at ay;omega
  |cons x s=>
   simp only[QF]at a2
   let⟨p1,p2,p3⟩:=a2.Vx
   simp only[aV,mS]at ay p1 p2 p3 al
   have e1:cR ((G.len:Int) -1)=(s.length:Int):=by rw[aP V V];omega
   have aW:=a2.le
   have e2:Int.toNat (0:Int)=0:=rfl
   have e3:Int.toNat (s.length:Int)=s.length:=V
   have aA:1000<=x->gC d x:=λM=>t.PJ he M
   have aS:x<=9223372036854775807:=by
    rcases dI (1000<=x)with k|k
    .have:=az (bZ (aA k)).1;unfold ix at this;omega
    .omega
   refine⟨e,P.bV 0,?_⟩
   rw[e1,e2,e3]
   refine⟨V,V,x,p2,(hO (B.cells V) aS).mono ?_⟩
   rintro _ Q ⟨aC,g,rfl,ah,aK,n⟩
   refine⟨aC,g,rfl,V,V,V,λaL=>?_,λai=>?_⟩
   .have M:=nb ah aL
    have H:HC m m2 m Q:=dz.eT _ n i.new
    refine ae (d,s) _ _ ⟨m,B.eY (dz.eT (λ_=>False) n i.new) id id,p3.eY (dz.eT (λ_=>False) n i.new) id,i.trans H,t.RN ?_,?_,K,by simp only[];omega,P.ext n,z⟩ aJ
    .rcases dI (1000<=x)with k|k
     .exact absurd (aA k) M
     .omega
    .rw[<-qI (w:=x) M];exact y
   .have E:=yb ah ai
    have aH:=aK (by simpa using ai)
    subst aH
    let⟨j,aw⟩:=bZ E
    have ao:=az j
    have a0:=(t.cell _ (ar j)).hi
    have aG:Int.toNat ((ix x:Nat):Int)=ix x:=V
    have H:HC m m2 m Q:=dz.eT _ n i.new
    have C:dQ N m Q e d:=B.eY (dz.eT (λ_=>False) n i.new) id id
    have a3:=p3.eY (dz.eT (λ_=>False) n i.new) id
    have F:=P.ext n
    obtain⟨f0,g0,_,_,_,_⟩:=C.bV j
    refine⟨e,F.bV 0,?_⟩
    rw[aG]
    refine⟨V,V,_,g0,V,V,C.wr (o:=0) ao be,?_⟩
    have e5:cR ((aI d x).aQ -1)=(aI d x).aQ -1:=aP V V
    rw[e5]
    intro m4
    let⟨ab,T⟩:=C.tP H.new j ((aI d x).aQ -1)
    have a4:=a3.eY T be
    have A:cx m4 c eu [.s e]:=F.congr (T.dP _ F.lt (by rw[z];decide))
    have S:HC b a m m4:=(i.trans H).trans (T.mono λaB D=>Or.inl D)
    have Z:=kE (d:=jb) j
    simp only[aj aw,jb]at Z
    simp at Z
    have aR:(d.set (ix x) {aI d x with aQ:=(aI d x).aQ -1})[ix x]? =some {aI d x with aQ:=(aI d x).aQ -1}:=eH j
    obtain⟨f1,k0,_,k2,kf,kr⟩:=ab.bV aR
    refine⟨e,A.bV 0,V,V,_,k0,λk=>?_,λk=>?_⟩
    .simp only[aE]at k
     have aq:(aI d x).aQ=1:=V
     have aX:=(t.cell _ (ar j)).fl
     have aa:=kf.len
     simp only[]at aa kf kr
     have I:=zS jb j
     simp only[jb,eU]at I
     refine⟨e,A.bV 0,V,V,f1,k2,iz.append (c:=[.i 0]) (d:=(aI d x).aN.map Ce.i) a4 S.new (by simp[aa]) kf.HY ?_ λaf a6 m5 q1 R=>?_⟩
     .have:(G.cut 0 s.length 1).len=s.length:=by have:=a4.len;simp at this;omega
      rw[this,aa];omega
     have am:=ab.eY R be be
     have ag:HC b a af m5:=S.trans (R.mono λaB D=>Or.inr (Or.inr D))
     have ac:cx m5 c eu [.s e]:=A.congr (R.dP _ A.lt (by rw[z];decide))
     have ax:af c=5:=by rw[R.jc _ A.lt];exact z
     have ap:ix x<(d.set (ix x) {aI d x with aQ:=(aI d x).aQ -1}).length:=by simpa using ao
     refine⟨e,ac.bV 0,V,V,am.wr (o:=0) ap be,?_⟩
     intro m7
     let⟨an,U⟩:=am.setCell ag.new ap 0 0 (f:=.nil) (l:=[]) ⟨rfl,aJ,aJ,aJ⟩ (λL=>absurd rfl L)
     rw[XS]at an
     refine ae (d.set (ix x) jb,(aI d x).aN.reverse++s) _ _ ⟨af,an,?_,ag.trans (U.mono λaB D=>Or.inl D),t.RO he E aq,?_,by simpa using K,?_,ac.congr (U.dP _ ac.lt (by rw[ax];decide)),ax⟩ ?_
     .have:=q1.eY U be
      simpa using this
     .rw[<-tp E aq];exact y
     .simp only[ba,mS]
      have D:Ch (d.set (ix x) jb)+(aI d x).aN.length=Ch d:=by simpa[jb]using I
      omega
     .simp only[ba,mS,aV]
      have D:Cf (d.set (ix x) jb)+((aI d x).aQ.toNat+(aI d x).aN.length)=Cf d:=by simpa[jb]using Z
      omega
    .simp only[ak]at k
     have L:(aI d x).aQ≠1:=V
     have D:=kE (d:={aI d x with aQ:=(aI d x).aQ -1}) j
     simp only[aj aw]at D
     rw[aj V]at D
     have I:=zS {aI d x with aQ:=(aI d x).aQ -1} j
     refine ae (fu d x,s) _ _ ⟨m,ab,a4,S,t.PK he E L,?_,by simpa[fu]using K,?_,A,z⟩ ?_
     .rw[<-qH E L];exact y
     .simp only[fu];simp only[]at I;omega
     .simp only[fu,aV];omega
 .simp only[ly,bG]at Y
  have j:st=[]:=List.length_eq_zero_iff.1 V
  subst j
  rw[tn]at y
  subst y
  refine(uL B i.new P z V).mono ?_
  rintro _ Q ⟨C,F,g⟩
  exact⟨m,_,C,F,i.trans g⟩
def PT{i:O}(f:dR a i h):aM cq 216 [O.v i,.func (.func 217) #[] #[]] a λB j=>∃r:Int,B=vi r/\J a j/\(if dF h=h.length then r= -1 else r=dF h):=by
 apply mg i (.func 217,#[],#[]);have y:=f.len;refine fm (n:=h.length) (y▸f.iB) (λk j=>J a j/\∀b∈h.take k,b.aQ≠0) ⟨J.aA _,aJ⟩ ?_;rintro k o I μ x ⟨e,g⟩ A
 refine dit (λs=>?_) λs=>?_
 .let⟨b,d⟩:=cK h k;let⟨l,C,q,g1,g2⟩:=(dR.ext e f).aG d;refine⟨V,V,b.aQ,by simpa using q,_,by simpa using g1,l,by simpa using g2,217,rfl,be,?_⟩;have v:dT cq 217 [.agg #[vi b.aQ,vi b.kH,O.v l]] o (b.aQ=0):=by
   apply wc;simp -zeta only[aC,aB];intro z;exact fJ aJ ((J.aA o).aH _)
  refine aM.mono v ?_;rintro _ z ⟨p,rfl,c,m⟩;refine⟨p,rfl,λu=>⟨_,rfl,e.trans m,?_⟩,λt=>A V _ ⟨e.trans m,bY d g (fb c t)⟩⟩;have w:=Hz h k b g d (c.1 u);have:=az d;rw[ae V,w]
 .refine⟨_,rfl,e,?_⟩;have:=zR h k x g;have:=qK h;rw[aj V]
def DY{e:O}(l:dQ N b a e h)(B:∀s,a.size<=s->b s=0)(kb:cx a c eu [.s e])(P:b c=5)(G:Int){Y:O}{E:List Int}(hf:aq a Y E)(ap:h.length<=1000000000)(hl:E.length<=1000000000)(hN:N<=a.size):
 aM cq 175 [vp c 0,vi G,O.v Y] a λal S=>∃i aa,al=vi (1000+dF h)/\dQ N i S aa (je h (dF h) ⟨1,G,E⟩)/\cx S c eu [.s aa]/\HC b a i S:=by
 apply yM (c,0)
 simp -zeta only[aC,aB]
 refine(eL hf hl).then hl λW y o1 i1 Z=>⟨W,rfl,?_⟩
 intro m2 F
 have z:J y F:=((J.aA y).aH _).ag (ad _) _ _
 have s3:F.size=y.size+1:=by simp[F,m2,aw]
 have Q:=Z.trans z
 clear_value F
 have ab:E≠[]->b W.D=0:=λah=>by
  rcases o1.D with j|j
  .subst j;have:=i1.len;simp at this;exact absurd (List.length_eq_zero_iff.1 this.symm) ah
  .exact B _ j
 have L:b y.size=0:=B _ Z.size
 have an:=l.len
 have am:=qK h
 refine⟨e,Q.af (kb.bV 0),(PT (dR.ext Q (l.cells V))).mono ?_⟩
 rintro _ g ⟨ak,rfl,q,C⟩
 have w:=Q.trans q
 have t:HC b a b g:=dz.eT _ w B
 have M:dQ N b g e h:=l.eY (dz.eT (λ_=>False) w B) id id
 have n:=kb.ext w
 have i4:=i1.ext (z.trans q)
 have ao:=q.size
 refine⟨q.dv bI,ak,rfl,λj=>?_,λj=>?_⟩
 .simp at j
  have A:dF h=h.length:=by
   rcases dI (dF h=h.length)with u|u
   .exact u
   .rw[ae u]at C;omega
  refine⟨e,n.bV 0,e,n.bV 0,?_⟩
  intro p
  have k:J g p:=(J.aA g).aH _
  have s5:p.size=g.size+1:=by simp[p]
  have jm:fX p g.size 0 [.i 1,.i G,.s W]:=(cx.push g _ _).iF
  have X:HC b a b p:=t.trans (dz.eT _ k t.new)
  clear_value p
  refine⟨k.cr (n.bV 0),dQ.push (M.eY (dz.eT (λ_=>False) k t.new) id id) X.new (x:=.mk g.size 0 1 1) rfl jm (i4.ext k) (Sv.of l (λK=>(w.trans k).same _ (l.D K).2) (λ_=>o1.ext ((z.trans q).trans k)) ab hN) V λi af T U d=>?_⟩
  have R:=n.ext k
  have ac:cx T c eu [.s e]:=R.congr (d.dP _ R.lt (by rw[P];decide))
  have ai:i c=5:=by rw[d.jc _ R.lt];exact P
  have ag:i y.size=0:=by rw[d.jc _ V];exact L
  refine⟨λs f=>?_,ac.eC aJ,?_⟩
  .simp at f;subst f
   exact d.dP _ V (by rw[L];decide)
  intro m7
  have H:dz (λD=>D=5) i T i m7:=dz.ag d.new ai _ _
  have I:cR (1000+(e.len:Int))=1000+(dF h:Int):=by rw[aP V V];omega
  rw[I]
  refine⟨λs f=>?_,i,af,rfl,?_,cx.ag (m:=T) (o:=0) (r:=[.s af]) ac,(X.trans (d.mono λD v=>Or.inl v)).trans (H.mono λD v=>Or.inr (Or.inl v))⟩
  .simp at f;subst f
   exact H.dP _ (oh d.size) (by rw[ag];decide)
  .rw[je,aj A];exact U.eY H be be
 .simp at j
  have A:dF h≠h.length:=λu=>by rw[aj u]at C;omega
  rw[ae A]at C
  subst C
  have k:dF h<h.length:=V
  have H:Int.toNat ((dF h:Nat):Int)=dF h:=V
  have I:cR (1000+(dF h:Int))=1000+(dF h:Int):=aP V V
  refine⟨e,n.bV 0,?_⟩
  rw[H,I]
  refine⟨V,V,M.wr (o:=0) k be,?_⟩
  intro p
  let⟨U,d⟩:=M.setCell t.new k 1 G i4 (Sv.of l (λK=>w.same _ (l.D K).2) (λ_=>o1.ext (z.trans q)) ab hN)
  refine⟨λs f=>?_,b,e,rfl,?_,n.congr (d.dP _ n.lt (by rw[P];decide)),t.trans (d.mono λD v=>Or.inl v)⟩
  .simp at f;subst f
   exact d.dP _ V (by rw[L];decide)
  .rw[je,ae A];exact U
end
section
variable{l:List Int}
def OE{i a b:Int}(l:iJ a)(m:iJ b)(o:E):vO cq 174 [vi i,vi a,vi b] o (vi (OO i a b)):=by
 unfold iJ at l m;have s: -2000000<=a*b/\a*b<=2000000:=by
  have c:(a*b).natAbs<=999*999:=by rw[Int.natAbs_mul];exact Mz V V
  omega
 have k:∀n:Int,(if(999:Int)<(if(-999:Int)>n then(-999:Int)else n)then(999:Int)else(if(-999:Int)>n then(-999:Int)else n))=FC n:=λn=>by
  unfold FC;repeat' split
  all_goals omega
 have p:cR (a+b)=a+b:=aP V V;have q:cR (a -b)=a -b:=aP V V;have r:cR (a*b)=a*b:=aP V V;apply JC;rw[p,q,r,k,k,k];unfold OO;refine⟨λh=>by simp at h;omega,λ_=>⟨λh=>by simp at h;omega,λ_=>⟨λh=>by simp at h;omega,λ_=>⟨λh=>by simp at h;omega,λ_=>⟨λc=>?_,λc=>⟨λd=>?_,λd=>⟨λe=>?_,λe=>⟨λf=>⟨λj=>?_,λj=>?_⟩,λf=>?_⟩⟩⟩⟩⟩⟩⟩⟩
 .simp at c;rw[aj c];exact⟨rfl,J.aA _⟩
 .simp at c d;rw[ae c,aj d];exact⟨rfl,J.aA _⟩
 .simp at c d e;rw[ae c,ae d,aj e];exact⟨rfl,J.aA _⟩
 .simp at c d e f j;have g:i=4/\a<b:=⟨f,j⟩;rw[ae c,ae d,ae e,aj g];exact⟨rfl,J.aA _⟩
 .simp at c d e f j;have g:¬(i=4/\a<b):=V;rw[ae c,ae d,ae e,ae g];exact⟨rfl,J.aA _⟩
 .simp at c d e f;have g:¬(i=4/\a<b):=V;rw[ae c,ae d,ae e,ae g];exact⟨rfl,J.aA _⟩
def vo{a:E}{fb e:Nat}{f:aU}{j:O}(w:af a fb (e+3)=some (O.v j))(p:aq a j f.an){s:O}(q:aq a s l)(A:∀y∈l,0<=y/\y<f.an.length)(L:l.length<=100000000):
 oI 106 [vp fb e,O.v s] a (cN f l):=by
 apply xu (fb,e)
 have K:=q.len
 have H:=p.len
 have t:Int.toNat (s.len:Int)=l.length:=V
 rw[t]
 refine⟨V,cX _,V,V,?_⟩
 intro d
 have z:J a d:=(J.aA a).aH _
 have C:cx d a.size aD ((df l.length).map Ce.i):=by rw[<-ud];exact cx.push a _ _
 have M:d.size=a.size+1:=by simp[d]
 clear_value d
 simp only[O.jC,O.tH,O.iS,cD]
 refine fm (n:=l.length) V (λk b=>J a b/\cx b a.size aD ((cN f (l.take k)++df (l.length -k)).map Ce.i)) ⟨z,by simpa[cN]using C⟩ ?_
 rintro k D I μ G ⟨b,c⟩ F
 refine dit (λx=>?_) λx=>?_
 .let⟨y,h⟩:=cK l k
  have i:=A y (ar h)
  have v:Int.toNat (k:Int)*1=k:=V
  refine⟨V,V,y,by simpa using b.af (q.aG h),j,b.af w,i.1,V,_,b.af (p.pN i.1 i.2),V,V,?_⟩
  rw[v]
  have g:(cN f (l.take k)).length=k:=by simp[cN];omega
  refine⟨c.eC (by simp[g,kv];omega),?_⟩
  refine F V _ ⟨b.ag (ad _) _ _,?_⟩
  have:=cx.ag (m:=D) (o:=k) (r:=[.i (aG f.an y)]) c
  have u:js ((cN f (l.take k)++df (l.length -k)).map Ce.i) k [.i (aG f.an y)]=(cN f (l.take (k+1))++df (l.length -(k+1))).map Ce.i:=by
   have B:df (l.length -k)=0::df (l.length -(k+1)):=by
    have:l.length -k=(l.length -(k+1))+1:=V;rw[this];rfl
   rw[B,fO,lH _ _ _ _ (by simp[g])];simp only[dW,g,QH,cG,js,il];rw[bd h];simp[cN]
  rw[u]at this;exact this
 .have g:k=l.length:=V
  subst g
  rw[fx,QH]at c
  simp only[df,Nl,dN]at c
  refine⟨_,rfl,⟨by simp[cN],Or.inr ⟨a.size,l.length,[],rfl,ad _,by rw[dN];exact c,by simp[cN],ad _⟩⟩,b⟩
abbrev IB(d p:O)(c:Int)(s:St)(aW b a:O):List Ce:=[.s d,.s p,.i c,.i s.bJ,.i s.value,.i s.bC,.i s.bq,.s aW,.s b,.s a]
def DI(g:E)(i:Nat->Nat)(m:E)(h:Nat)(f p:O)(e:Int)(s:St)(c:E):Prop:=
 ∃d aW b a,qD g d c h bg (IB f p e s aW b a) aW b a s.aW s.heap s.av/\To i m d c
def DI.from{b:E}{g h:Nat->Nat}{m e a:E}{f:Nat}{d p:O}{c:Int}{s:St}(j:DI b h e f d p c s a)(o:To g m h e):DI b g m f d p c s a:=
 let⟨q,aW,n,i,k,l⟩:=j
 ⟨q,aW,n,i,k,o.trans l⟩
section
variable{p:E}{c s:Nat->Nat}{m d:E}{q e:Nat}{g:List Ce}{aW j a:O}{n:List Int}{k:List bP}{b:List aU}{f:aU}{r o h:O}{i:List (List Ce)}
def ST.Z8(S:ST p c m q e g aW j a n k b f r o h i)(l:dz (λ_=>False) c m s d):ST p s d q e g aW j a n k b f r o h i/\To c m s d:=by
 let⟨L,t⟩:=S.cQ.gD (l.mono λ_=>False.elim) (S.cQ.heap.eY l id id);exact⟨⟨L,S.fZ.eY l λ_ _=>id⟩,t⟩
def ST.fp(S:ST p c m q e g aW j a n k b f r o h i)(d:f.an.length<=1000000/\f.aR.length<=1000000/\f.aY.length<=1000000):FP m a.D (a.off+b.length*6) f r o h:=by
 obtain⟨_,_,_,l,s,t⟩:=S.fZ.iF;exact⟨l,s,t,S.Am d.1,S.Jl d.2.1,S.Q9 d.2.2⟩
def rI(S:ST p c m q e g aW j a n k b f r o h i){s:Int}(l:0<=s)(u:s<f.an.length)(v:s<f.aR.length)(w aR:Int):
 aM cq 103 [vp a.D (a.off+b.length*6),vi s,vi w,vi aR] m λ_ d=>ST p c d q e g aW j a n k b (f.put s w aR) r o h i/\To c m c d:=by
 apply zU (a.D,a.off+b.length*6)
 obtain⟨_,_,_,y,z,A⟩:=S.fZ.iF
 have C:r.len=f.an.length:=by have:=S.fZ.an.len;simp at this;omega
 have B:o.len=f.aR.length:=by have:=S.fZ.aR.len;simp at this;omega
 let⟨t,t1⟩:=S.El l u w
 let⟨x,t2⟩:=t.pZ l (by simpa using v) aR
 exact⟨r,y,o,z,l,V,S.fZ.an.Pk l u,l,V,t.fZ.aR.Pk l v,x,t1.trans t2⟩
end
section
variable{n:E}{g:Nat->Nat}{a:E}{k:Nat}{d p aW b e:O}{c:Int}{s:St}{j:List aU}{f:aU}{u t h:O}{q:List (List Ce)}
def ST.OC{d:Nat}{c:List Ce}{l:List Int}{i:List bP}(S:ST n g a k d c aW b e l i j f u t h q):
 ST n (pw g a.size 5) (ag (a.push (.cells (bA [.s O.nil]) eu)) a.size 0 [.s b]) k d c aW b e l i j f u t h q/\To g a (pw g a.size 5) (ag (a.push (.cells (bA [.s O.nil]) eu)) a.size 0 [.s b])/\
  cx (ag (a.push (.cells (bA [.s O.nil]) eu)) a.size 0 [.s b]) a.size eu [.s b]:=by
 have v:J a (ag (a.push (.cells (bA [.s O.nil]) eu)) a.size 0 [.s b]):=((J.aA a).aH _).ag (ad _) _ _
 have s:dz (λ_=>False) g a (pw g a.size 5) (ag (a.push (.cells (bA [.s O.nil]) eu)) a.size 0 [.s b]):=dz.pw v S.cQ.new (ad _) (by rw[aw];simp) 5
 let⟨p,t1⟩:=S.Z8 s
 exact⟨p,t1,cx.ag (m:=a.push (.cells (bA [.s O.nil]) eu)) (o:=0) (r:=[.s b]) (cx.push a _ _)⟩
def Dp(S:ST n g a k bg (IB d p c s aW b e) aW b e s.aW s.heap j f u t h q)(r:Int){z:O}(E:aq a z l)(M:l.length<=1000000)(D:s.heap.length<=1000000000):
 aM cq 105 [vp k 0,vi r,O.v z] a λL x=>L=vi (1000+dF s.heap)/\∃y w,ST n y x k bg (IB d p c s aW w e) aW w e s.aW (je s.heap (dF s.heap) ⟨1,r,l⟩) j f u t h q/\To g a y x:=by
 apply vk (k,0)
 simp -zeta only[aC,aB]
 refine⟨b,S.cQ.box.bV 8,?_⟩
 intro N H
 let⟨m,t2,kb⟩:=S.OC
 have F:J a H:=((J.aA a).aH _).ag (ad _) _ _
 refine(DY m.cQ.heap m.cQ.new kb (fR _ _ _) r (E.ext F) D V m.cQ.cv.size).mono ?_
 rintro _ P ⟨I,o,rfl,C,G,B⟩
 let⟨v,t3⟩:=m.gD B C
 refine⟨_,rfl,o,G.bV 0,v.cQ.mE (i:=8) aJ,?_⟩
 intro Q
 let⟨A,K⟩:=v.jw 8 [.s o]
 exact⟨rfl,I,o,A,(t2.trans t3).trans K⟩
def FT(S:ST n g a k bg (IB d p c s aW b e) aW b e s.aW s.heap j f u t h q){x:Instr}{W aw:O}(ha:aq n W x.args)(ah:∀y∈x.args,0<=y/\y<f.an.length)(aD:x.args.length<=4)
 (aH:f.an.length=f.aR.length/\f.aY.length=f.aR.length/\f.aR.length<=2000)(aF:0<=x.bM/\x.bM<=f.aY.length)(al:s.heap.length<=1000000000)(an:∀w∈f.aY,w≠0->1000<=w/\ix w<s.heap.length):
 aM cq 104 [vp k 0,vp e.D (e.off+j.length*6),xv x W aw] a λaz m'=>∃(H:Nat->Nat)(E:O)(m:Nat)(i:aU),az=vi (1000+m)/\ST n H m' k bg (IB d p c s aW E e) aW E e s.aW (je s.heap m ⟨1,x.bQ,cN f x.args⟩) j i u t h q/\To g a H m'/\
  i.an=f.an/\i.aR=f.aR/\i.pc=f.pc/\(∀y,nI s j {f with pc:=y} x x.bQ={s with heap:=je s.heap m ⟨1,x.bQ,cN f x.args⟩,av:=j++[aU.put {i with pc:=y+1} x.dst (1000+m) 1]}):=by
 apply sq (k,0) (e.D,e.off+j.length*6)
 simp -zeta only[aC,aB]
 intro G
 have ar:J a G:=(J.aA a).aH _
 have s1:G.size=a.size+1:=by simp[G]
 let⟨z,t1⟩:=S.ext ar
 have T:zy g G [a.size]:=λaA hb=>by simp at hb;subst hb;exact⟨V,S.cQ.new _ (ad _)⟩
 clear_value G
 have U:=z.fp ⟨V,V,V⟩
 have aE:h.len=f.aY.length:=by have:=S.fZ.aY.len;simp at this;omega
 refine(vo U.g3 U.an (ha.ext z.cQ.cv) ah V).mono ?_
 rintro _ P ⟨C,rfl,R,Z⟩
 let⟨r,t2⟩:=z.ext Z
 have K:=T.to t2
 have aJ:(cN f x.args).length=x.args.length:=by simp[cN]
 have F:aq P C (cN f x.args):=aq.gK R V
 have af:=t1.trans t2
 have none:¬(x.bM≠0/\aG f.aY (x.bM -1)≠0)->aM cq 105 [vp k 0,vi x.bQ,O.v C] P λax N=>dY [a.size] P N/\∃ac:Int,ax=vi ac/\∃(H:Nat->Nat)(E:O)(m:Nat)(i:aU),vi ac=vi (1000+m)/\ST n H N k bg (IB d p c s aW E e) aW E e s.aW (je s.heap m ⟨1,x.bQ,cN f x.args⟩) j i u t h q/\To g a H N/\
  i.an=f.an/\i.aR=f.aR/\i.pc=f.pc/\(∀y,nI s j {f with pc:=y} x x.bQ={s with heap:=je s.heap m ⟨1,x.bQ,cN f x.args⟩,av:=j++[aU.put {i with pc:=y+1} x.dst (1000+m) 1]}):=λao=>by
  refine(Dp r x.bQ F V al).mono ?_
  rintro _ Q ⟨rfl,ay,ap,v,t3⟩
  exact⟨t3.dK K,_,rfl,ay,ap,dF s.heap,f,rfl,v,af.trans t3,rfl,rfl,rfl,λy=>by rw[nI,ae ao];rfl⟩
 refine⟨t2.dK T,C,rfl,λD=>none λL=>by simp at D;exact L.1 D,λD=>?_⟩
 simp at D
 have e1:cR (x.bM -1)=x.bM -1:=aP V V
 have l:0<=x.bM -1/\x.bM -1<f.aY.length:=V
 have I:=r.fp ⟨V,V,V⟩
 have X:=I.aY.pN l.1 l.2
 refine⟨h,I.g5,?_⟩
 rw[e1]
 refine⟨V,V,_,X,λB=>none λL=>by simp at B;exact L.2 B,λB=>?_⟩
 simp at B
 let⟨aa,ab⟩:=an _ (fq l.1 l.2) B
 have aI:=r.cQ.heap.len
 refine⟨h,I.g5,V,V,_,X,h,I.g5,V,V,r.fZ.aY.Pk l.1 l.2,?_⟩
 intro Q
 let⟨v,t3⟩:=r.BW l.1 l.2 0
 have B3:=K.to t3
 have am:ix (aG f.aY (x.bM -1))=(aG f.aY (x.bM -1) -1000).toNat:=rfl
 have e2:cR (aG f.aY (x.bM -1) -1000)=aG f.aY (x.bM -1) -1000:=aP V V
 refine⟨t3.dK K,b,v.cQ.box.bV 8,?_⟩
 rw[e2,<-am]
 refine⟨V,V,v.cQ.heap.wr (o:=0) ab be,?_⟩
 intro m4
 have M:cN f x.args≠[]->g C.D=0:=λw=>by
  rcases R.D with A|A
  .subst A;have:=F.len;simp at this;exact absurd (List.length_eq_zero_iff.1 this.symm) w
  .exact S.cQ.new _ V
 have au:aq Q C (cN f x.args):=iO F λw=>t3.dP _ (iP F w) (by rw[M w];simp)
 have ak:h.cap≠0:=λA=>by have:=(r.fZ.aY.Dk A).1;simp at this;rw[this]at l;simp at l;omega
 have ag:Sv n.size g Q b s.heap C (cN f x.args):=Sv.of z.cQ.heap (λY=>(bo _ _ _ _ λA=>by have q1:=(r.fZ.aY.D ak).2;have q2:=(r.cQ.heap.D Y).1;rw[A,q1]at q2;omega).trans (Z.same _ (z.cQ.heap.D Y).2)) (λw=>R.congr (t3.dP _ (iP F w) (by rw[M w];simp))) M z.cQ.cv.size
 let⟨ai,c4⟩:=v.cQ.heap.setCell v.cQ.new ab 1 x.bQ au ag
 let⟨S4,t4⟩:=v.gD (c4.mono λaK Y=>Or.inl Y) ai
 have Y:je s.heap (ix (aG f.aY (x.bM -1))) ⟨1,x.bQ,cN f x.args⟩=s.heap.set (ix (aG f.aY (x.bM -1))) ⟨1,x.bQ,cN f x.args⟩:=by rw[je,ae V]
 refine⟨t4.dK B3,g,b,ix (aG f.aY (x.bM -1)),{f with aY:=gQ f.aY (x.bM -1) 0},by rw[iV aa],by rw[Y];exact S4,(af.trans t3).trans t4,rfl,rfl,rfl,λy=>?_⟩
 rw[nI,aj ⟨D,B⟩,Y,iV aa];rfl
end
end
section
variable{w:Int}
def Lj:∀(b:List Int)(g:List bP),(∀v∈b,gC g v)->∀x,gC g x->gC (jf g b) x
 |[],g,_,x,c=>c
 |v::b,g,d,x,c=>by
  have e:=d v aX;have up:∀y,gC g y->gC (mQ g v) y:=λy a=>⟨a.1,(fj.mQ e _).2 a.2⟩;exact Lj b (mQ g v) (λy a=>up y (d y (ai _ a))) x (up x c)
def SI{h:List bP}(c:gC h w)(d:(aI h w).aQ≠1){x:Int}(a:gC h x):gC (fu h w) x:=by
 let⟨b,f⟩:=bZ c;refine⟨a.1,?_⟩;by_cases e:ix x=ix w
 .rw[e];unfold fu;rw[fj.Ek b];simp only[];omega
 .exact(fj.ne e).2 a.2
section
variable{t:E}{e:Nat->Nat}{m:E}{j:Nat}{d p aW b g:O}{c:Int}{s:St}{q:List aU}{a:aU}{r v h:O}{u:List (List Ce)}
open Classical in
noncomputable def se (g:List bP) (w:Int) (dP:Bool):List bP:=
 if(aI g w).aQ=1/\dP=true then g.set (ix w) ⟨-1,0,df (aI g w).aN.length⟩else apart g w
def Dq(S:ST t e m j bg (IB d p c s aW b g) aW b g s.aW s.heap q a r v h u)(ab:gC s.heap w)(dP:Bool){ay:Nat->Int}(N:fN s.heap ay)(aY:s.heap.length<=1000000000):
 aM cq 113 [vp j 0,vi w,vb dP] m λk A=>∃G:Bool,k=vb G/\(G=true<->(aI s.heap w).aQ=1/\dP=true)/\∃aw ap,ST t aw A j bg (IB d p c s aW ap g) aW ap g s.aW (se s.heap w dP) q a r v h u/\To e m aw A:=by
 apply vm (j,0)
 simp -zeta only[aC,aB]
 let⟨C,a6⟩:=bZ ab
 have K:=az C
 have a1:=S.cQ.heap.len
 have a0:=ab.1
 have aK:ix w=(w -1000).toNat:=rfl
 have e4:cR (w -1000)=w -1000:=aP V V
 have ag:=N.cell _ (ar C)
 have a3:=ag.hi
 have aV:=ag.fl
 have g8:af m j 8=some (O.v b):=S.cQ.box.bV 8
 let⟨f0,Y,g1,g2,gf,gr⟩:=S.cQ.heap.bV C
 have aX:=gf.len
 rw[e4,<-aK]
 refine⟨b,g8,V,V,λA=>A=m/\¬((aI s.heap w).aQ=1/\dP=true),⟨_,Y,λy=>⟨λz=>?_,λz=>⟨rfl,λx=>by rw[z]at x;simp at x⟩⟩,λy=>⟨rfl,λx=>by simp at y;exact y x.1⟩⟩,?_⟩
 .simp at y
  have W:Int.toNat (f0.len:Int)=(aI s.heap w).aN.length:=V
  refine⟨f0,g2,V,cX _,V,V,?_⟩
  rw[W]
  intro B
  have I:J m B:=(J.aA m).aH _
  have L:gY m B aD 1 (.mk m.size 0 (aI s.heap w).aN.length (aI s.heap w).aN.length) ((df (aI s.heap w).aN.length).map Ce.i):=by
   have X:B=m.push (.cells (bA ((df (aI s.heap w).aN.length).map Ce.i)) aD):=by rw[<-ud]
   rw[X];exact NY _
  let⟨D,t1⟩:=S.ext I
  clear_value B
  refine⟨D.cQ.heap.wr (o:=0) K be,?_⟩
  intro m2
  let⟨F,E⟩:=D.cQ.heap.setCell D.cQ.new K (-1) 0 (aq.gK L (by rw[kv];omega)) (Sv.of S.cQ.heap (λx=>I.same _ (S.cQ.heap.D x).2) (λ_=>L) (λ_=>S.cQ.new _ (ad _)) S.cQ.cv.size)
  let⟨H,t2⟩:=D.gD (E.mono λx z=>Or.inl z) F
  refine⟨true,rfl,by simp[y,z],e,b,?_,t1.trans t2⟩
  rw[se,aj ⟨y,z⟩];exact H
 .rintro B ⟨rfl,ao⟩
  have al:(false=true<->(aI s.heap w).aQ=1/\dP=true):=⟨sx,λh=>absurd h ao⟩
  rw[show se s.heap w dP=apart s.heap w by rw[se,ae ao]]
  refine⟨_,Y,λy=>?_,λy=>?_⟩
  .simp at y
   refine⟨S.cQ.heap.wr (o:=0) K be,?_⟩
   intro m2
   let⟨F,E⟩:=S.cQ.heap.setCell S.cQ.new K 0 0 (f:=.nil) (l:=[]) ⟨rfl,aJ,aJ,aJ⟩ (λT=>absurd rfl T)
   let⟨H,t2⟩:=S.gD (E.mono λx z=>Or.inl z) F
   refine⟨b,H.cQ.box.bV 8,?_⟩
   intro m3 m4
   let⟨D,Q,kb⟩:=H.OC
   refine(uL D.cQ.heap D.cQ.new kb (fR _ _ _) bI).mono ?_
   rintro _ Z ⟨aa,P,M⟩
   let⟨I,R⟩:=D.gD M aa
   refine⟨_,P.bV 0,I.cQ.mE (i:=8) aJ,?_⟩
   intro m6
   let⟨L,U⟩:=I.jw 8 [.s (b.cut 0 (ji (s.heap.set (ix w) ⟨0,0,[]⟩) (s.heap.set (ix w) ⟨0,0,[]⟩).length) 3)]
   refine⟨false,rfl,al,_,b.cut 0 (ji (s.heap.set (ix w) ⟨0,0,[]⟩) (s.heap.set (ix w) ⟨0,0,[]⟩).length) 3,?_,((t2.trans Q).trans R).trans U⟩
   rw[apart,aj y];exact L
  .simp only[ak]at y
   have W:cR ((aI s.heap w).aQ -1)=(aI s.heap w).aQ -1:=aP V V
   refine⟨_,Y,S.cQ.heap.wr (o:=0) K be,?_⟩
   rw[W]
   intro m2
   let⟨F,E⟩:=S.cQ.heap.tP S.cQ.new C ((aI s.heap w).aQ -1)
   let⟨f1,k0,k1,k2,kf,kr⟩:=F.bV (eH C)
   simp only[]at kf kr
   have aZ:=kf.len
   refine⟨f1,k2,?_⟩
   have ai:∀{A},dz (λx=>x=3) e B e A->af A j 8=some (O.v b):=λhc=>by rw[aL (hc.dP _ S.cQ.box.lt (by rw[S.cQ.NP];decide))];exact g8
   have an:∀k∈(aI s.heap w).aN,1000<=k->gC (fu s.heap w) k:=λk D b=>SI ab y (N.field (ar C) D b)
   have aH:∀U∈fu s.heap w,-10<=U.aQ/\U.aQ<=999999:=λU hq=>by
    rcases nW hq with rfl|⟨G,_,P⟩
    .simp only[];omega
    .have:=N.cell U (ar P);have h5:=this.lo;have h6:=this.hi;omega
   have aT:dz (λx=>x=3) e B e m2:=E
   refine fm (n:=(aI s.heap w).aN.length) V (λx A=>dQ t.size e A b (jf (fu s.heap w) (kZ ((aI s.heap w).aN.take x)))/\dz (λx=>x=3) e B e A/\aq A f1 (aI s.heap w).aN) ⟨F,E,kf⟩ ?_
   rintro x m3 aS μ z ⟨R,H,au⟩ av
   refine dit (λh5=>?_) λh5=>?_
   .let⟨k,D⟩:=cK ((aI s.heap w).aN) x
    have aR:k<=9223372036854775807:=by
     rcases dI (1000<=k)with h6|h6
     .have:=az (bZ (N.field (ar C) (ar D) h6)).1;unfold ix at this;omega
     .omega
    have aQ:(jf (fu s.heap w) (kZ ((aI s.heap w).aN.take x))).length=s.heap.length:=by rw[wy];simp[fu]
    have aN:1000<=k->gC (jf (fu s.heap w) (kZ ((aI s.heap w).aN.take x))) k:=λb=>Lj _ _ (λL I=>an L (gB (lG.1 I).1) (lG.1 I).2) k (an k (ar D) b)
    refine⟨V,V,k,by simpa using au.aG D,b,ai H,(hO (R.cells (by rw[aQ];omega)) aR).mono ?_⟩
    rintro _ m4 ⟨ax,G,rfl,P,aF,Z⟩
    have L:dz (λx=>x=3) e B e m4:=H.trans (dz.eT _ Z H.new)
    have I:=R.eY (dz.eT (λ_=>False) Z H.new) id id
    have ac:=au.ext Z
    refine⟨ax,G,rfl,λah=>?_,λaG=>av V _ ⟨?_,L,ac⟩⟩
    .have am:=P.1 ah
     have aE:=aF ah
     subst aE
     let⟨Q,a4⟩:=bZ am
     have aO:=az Q
     have a2:=I.len
     obtain⟨f4,j0,_⟩:=I.bV Q
     have aU:=Ak _ _ 999999 aH _ (ar Q)
     have a5:=od ((aI s.heap w).aN.take x)
     have a7:((aI s.heap w).aN.take x).length<=3:=bI
     have X:cR ((aI (jf (fu s.heap w) (kZ ((aI s.heap w).aN.take x))) k).aQ+1)=(aI (jf (fu s.heap w) (kZ ((aI s.heap w).aN.take x))) k).aQ+1:=aP V V
     have aA:Int.toNat ((ix k:Nat):Int)=ix k:=V
     refine⟨b,ai L,?_⟩
     rw[aA]
     refine⟨V,V,_,j0,V,V,I.wr (o:=0) aO be,?_⟩
     rw[X]
     let⟨aa,M⟩:=I.tP L.new Q ((aI (jf (fu s.heap w) (kZ ((aI s.heap w).aN.take x))) k).aQ+1)
     refine av V _ ⟨?_,L.trans M,iO ac λT=>M.dP _ (iP ac T) (by rw[(kr T).1];decide)⟩
     have:kZ [k]=[k]:=by simp[kZ,am.1]
     rw[bd D,pt,this,Eh]
     exact aa
    .have M:¬1000<=k:=λb=>fb P aG (aN b)
     have:kZ [k]=[]:=by simp[kZ];omega
     rw[bd D,pt,this,dN];exact I
   .rw[cJ V]at R
    let⟨I,t3⟩:=S.gD (H.mono λx z=>Or.inl z) R
    refine⟨false,rfl,al,e,b,?_,t3⟩
    rw[apart,ae y];exact I
def JE(Y:ST t e m j bg (IB d p c s aW b g) aW b g s.aW s.heap q a r v h u){f:Instr}{aa am:O}(ha:aq t aa f.args)(ak:∀z∈f.args,0<=z/\z<a.an.length)(ao:f.args.length<=4)(au:f.op=0\/f.op=1\/f.op=2\/f.op=3\/f.op=4\/f.op=5)(h5:f.op=5->f.args.length=1)(h2:f.op≠0->f.op≠5->f.args.length=2)(ac:f.op≠0->∀z∈f.args,iJ (aG a.an z))
 (ap:a.an.length=a.aR.length/\a.aY.length=a.aR.length/\a.aR.length<=2000)(hd:0<=f.dst/\f.dst<a.aR.length)(aw:s.aW.length<=1000000000):
 aM cq 102 [vp j 0,vp g.D (g.off+q.length*6),xv f aa am] m λ_ w=>DI t e m j d p c (if f.op=0 then{s with av:=q++[a.put f.dst f.bQ 0]}else if f.op=5 then{s with aW:=s.aW++[aG a.an (aG f.args 0)],av:=q++[a.put f.dst (aG a.an (aG f.args 0)) 0]}else{s with av:=q++[a.put f.dst (OO f.op (aG a.an (aG f.args 0)) (aG a.an (aG f.args 1))) 0]}) w:=by
 apply tC (j,0) (g.D,g.off+q.length*6)
 simp -zeta only[aC,aB]
 intro y
 have al:J m y:=(J.aA m).aH _
 have s1:y.size=m.size+1:=by simp[y]
 let⟨K,t1⟩:=Y.ext al
 have T:zy e y [m.size]:=λab C=>by simp at C;subst C;exact⟨V,Y.cQ.new _ (ad _)⟩
 clear_value y
 have X:=K.fp ⟨V,V,V⟩
 refine(vo X.g3 X.an (ha.ext K.cQ.cv) ak V).mono ?_
 rintro _ l ⟨ws,rfl,ow,ai⟩
 let⟨A,t2⟩:=K.ext ai
 have I:=T.to t2
 have ax:(cN a f.args).length=f.args.length:=by simp[cN]
 have D:aq l ws (cN a f.args):=aq.gK ow V
 have ay:=D.len
 have ah:=t1.trans t2
 have S:∀{F:Nat},F<f.args.length->(cN a f.args)[F]? =some (aG a.an (aG f.args F)):=λ{F} hk=>by
  let⟨z,hy⟩:=dZ hk;simp[cN,hy,Yy hy]
 have ag:∀{M:E}(hx:J l M)(H:Int),aM cq 103 [vp g.D (g.off+q.length*6),vi f.dst,vi H,vi 0] M λ_ w=>dY [m.size] M w/\DI t e m j d p c {s with av:=q++[a.put f.dst H 0]} w:=λhx H=>by
  let⟨SM,tM⟩:=A.ext hx;refine(rI SM hd.1 V hd.2 H 0).mono ?_;rintro _ w ⟨S',t'⟩;exact⟨t'.dK (I.to tM),e,aW,b,g,S'.cQ,(ah.trans tM).trans t'⟩
 refine⟨t2.dK T,ws,rfl,λo=>?_,λn=>⟨λo=>?_,λN=>?_⟩⟩
 .simp at o;rw[aj o];exact ag (J.aA _) _
 .simp at n o
  rw[ae n,aj o]
  have h1:=h5 o
  have ar:(O.len aW)=s.aW.length:=by have:=A.cQ.aW.len;simp at this;omega
  refine⟨V,V,_,D.aG (k:=0) (S V),aW,A.cQ.box.bV 7,?_⟩
  intro G
  have B:J l G:=(J.aA l).aH _
  have jm:fX G l.size 0 [.i (aG a.an (aG f.args ((0:Nat):Int)))]:=(cx.push l _ _).iF
  let⟨L,t3⟩:=A.ext B
  have U:=I.to t3
  clear_value G
  refine iz.append (c:=[.i 0]) (x:=.mk l.size 0 1 1) (d:=[.i (aG a.an (aG f.args 0))]) L.cQ.aW L.cQ.new rfl jm (by simp only[O.iS];omega) λaf P m4 q1 q2=>?_
  have an:iz af m4 aD 1 2 P ((s.aW++[aG a.an (aG f.args 0)]).map Ce.i):=by simpa using q1
  let⟨Z,Q⟩:=L.LN q2 an
  have W:=U.to Q
  refine⟨Q.dK U,Z.cQ.mE (i:=7) aJ,?_⟩
  intro m5
  let⟨S5,R⟩:=Z.jw 7 [.s P]
  refine⟨R.dK W,(rI S5 hd.1 V hd.2 (aG a.an (aG f.args 0)) 0).mono ?_⟩
  rintro _ m6 ⟨S6,t6⟩
  exact⟨t6.dK (W.to R),af,P,b,g,S6.cQ,(((ah.trans t3).trans Q).trans R).trans t6⟩
 .simp at n N
  rw[ae n,ae N]
  have h1:=h2 n N
  refine⟨V,V,_,D.aG (k:=0) (S V),V,V,_,D.aG (k:=1) (S V),?_⟩
  refine(OE (ac n _ (fq V V)) (ac n _ (fq V V)) l).mono ?_
  rintro _ G ⟨rfl,B⟩
  exact⟨B.dv (λab C=>(I ab C).1),_,rfl,ag B _⟩
end
end
section
variable{b1 b2 b3 b k:Nat}{j:cp}{g:Int}{q:dA}{a:E}{e:List Int}
section
variable{y:E}{v:Nat->Nat}{u:E}{x:Nat}{d p aW z t:O}{c:Int}{s:St}{l:List aU}{f:aU}{r o h:O}{A:List (List Ce)}
def OF(S:ST y v u x bg (IB d p c s aW z t) aW z t s.aW s.heap l f r o h A){b:Instr}{m aD:O}(P:aq y m b.args)(ag:∀e∈b.args,0<=e/\e<f.an.length)(ap:1<=b.args.length/\b.args.length<=4)
 (aN:f.an.length=f.aR.length/\f.aY.length=f.aR.length/\f.aR.length<=2000)(ay:s.heap.length<=1000000000)(ak:∀q∈f.aR,0<=q/\q<=999999)
 (az:gC s.heap (aG f.an (aG b.args 0))){an:Nat->Int}(hI:fN s.heap an){R:Int}(al:f.pc=R+1):
 aM cq 108 [vp x 0,vp t.D (t.off+l.length*6),xv b m aD] u λ_ a=>DI y v u x d p c (tI s l {f with pc:=R} b) a:=by
 apply wg (x,0) (t.D,t.off+l.length*6)
 simp -zeta only[aC,aB]
 intro L
 have aA:J u L:=(J.aA u).aH _
 have s1:L.size=u.size+1:=by simp[L]
 let⟨N,t1⟩:=S.ext aA
 have B1:zy v L [u.size]:=λac G=>by simp at G;subst G;exact⟨V,S.cQ.new _ (ad _)⟩
 clear_value L
 have aQ:r.len=f.an.length:=by have:=S.fZ.an.len;simp at this;omega
 have aO:o.len=f.aR.length:=by have:=S.fZ.aR.len;simp at this;omega
 have aL:h.len=f.aY.length:=by have:=S.fZ.aY.len;simp at this;omega
 have aF:=P.len
 have aE:=P.cap
 have F:0<=aG b.args 0/\aG b.args 0<f.an.length:=ag _ (fq V V)
 have ga:∀{a},J y a->af a m.D (m.off+Int.toNat (0:Int)*1)=some (vi (aG b.args 0)):=λhx=>(P.ext hx).pN V V
 obtain⟨_,_,_,g3,_,_⟩:=N.fZ.iF
 generalize hw:aG f.an (aG b.args 0)=w at*
 refine⟨r,g3,V,V,_,ga N.cQ.cv,F.1,V,w,by rw[<-hw];exact(N.Am V).pN F.1 F.2,(Dq N az (b.op==17) hI ay).mono ?_⟩
 rintro _ m2 ⟨ac,rfl,G,C,H,K,t2⟩
 have T:=B1.to t2
 have ao:(b.op==17)=true<->b.op=17:=aJ
 rw[ao]at G
 have e1:Int.toNat (1:Int)=1:=rfl
 have e2:Int.toNat (m.len:Int)=m.len:=V
 have Z:∀{a},J y a->aq a (O.cut m 1 m.len 1) (b.args.drop 1):=λhx=>Vk (P.ext hx) ap.1
 have aH:(O.cut m 1 m.len 1).len=b.args.length -1:=by have:=(Z (J.aA y)).len;simp at this;omega
 have aK:(b.args.drop 1).length=b.args.length -1:=aJ
 have ah:∀e∈b.args.drop 1,0<=e/\e<f.an.length:=λe B=>ag e (xc B)
 rw[e1,e2]
 refine⟨t2.dK B1,ac,rfl,λax=>?_,λaw=>?_⟩
 .obtain⟨_,_,_,_,_,g5⟩:=K.fZ.iF
  have Q:=G.1 ax
  refine⟨h,g5,V,V,_,ga K.cQ.cv,F.1,V,K.fZ.aY.Pk F.1 V,?_⟩
  intro m3
  let⟨S3,t3⟩:=K.BW F.1 V w
  refine⟨t3.dK T,V,V,V,?_⟩
  refine fm (n:=(b.args.drop 1).length) V (λk a=>ST y C a x bg (IB d p c s aW H t) aW H t s.aW (se s.heap w (b.op==17)) l {f with aY:=gQ f.aY (aG b.args 0) w,aR:=dE f.aR ((b.args.drop 1).take k)} r o h A/\To v u C a/\zy C a [u.size]) ⟨by rw[List.take_zero];exact S3,(t1.trans t2).trans t3,(T.to t3)⟩ ?_
  rintro k m4 am μ hk ⟨g,M,I⟩ ab
  have aa:∀q∈dE f.aR ((b.args.drop 1).take k),0<=q/\q<=1000010:=λq hq=>by
   have:=qX _ f.aR 999999 V ak q hq;have h3:((b.args.drop 1).take k).length<=4:=bI;omega
  refine dit (λY=>?_) λY=>?_
  .let⟨e,B⟩:=cK (b.args.drop 1) k
   have j:=ah e (ar B)
   have D:e<(dE f.aR ((b.args.drop 1).take k)).length:=by rw[lR];omega
   have au:=Fx (i:=e) aa V
   have W:cR (aG (dE f.aR ((b.args.drop 1).take k)) e+1)=aG (dE f.aR ((b.args.drop 1).take k)) e+1:=aP V V
   obtain⟨_,_,_,_,X,_⟩:=g.fZ.iF
   refine⟨V,V,e,by simpa using(Z g.cQ.cv).aG B,o,X,j.1,V,_,(g.Jl (by simp only[lR];omega)).pN j.1 D,j.1,V,g.fZ.aR.Pk j.1 D,?_⟩
   rw[W]
   intro m5
   let⟨U,E⟩:=g.pZ j.1 D (aG (dE f.aR ((b.args.drop 1).take k)) e+1)
   refine⟨E.dK I,ab V _ ⟨?_,M.trans E,I.to E⟩⟩
   rw[bd B,sQ];exact U
  .rw[cJ V]at g
   refine⟨C,aW,H,t,?_,M⟩
   have:tI s l {f with pc:=R} b={s with heap:=se s.heap w (b.op==17),av:=l++[{f with aY:=gQ f.aY (aG b.args 0) w,aR:=dE f.aR (b.args.drop 1)}]}:=by
    unfold tI;simp only[];rw[hw,aj Q,se,aj (by simpa using Q),al]
   rw[this];exact g.cQ
 .have ai:¬((aI s.heap w).aQ=1/\b.op=17):=λQ=>by have:=G.2 Q;rw[aw]at this;simp at this
  refine⟨V,V,V,?_⟩
  refine fm (n:=(b.args.drop 1).length) V (λk a=>ST y C a x bg (IB d p c s aW H t) aW H t s.aW (se s.heap w (b.op==17)) l {f with aR:=dE f.aR ((b.args.drop 1).take k)} r o h A/\To v u C a/\zy C a [u.size]) ⟨by simpa[dE]using K,t1.trans t2,T⟩ ?_
  rintro k m4 am μ hk ⟨g,M,I⟩ ab
  have aa:∀q∈dE f.aR ((b.args.drop 1).take k),0<=q/\q<=1000010:=λq hq=>by
   have:=qX _ f.aR 999999 V ak q hq;have h3:((b.args.drop 1).take k).length<=4:=bI;omega
  refine dit (λY=>?_) λY=>?_
  .let⟨e,B⟩:=cK (b.args.drop 1) k
   have j:=ah e (ar B)
   have D:e<(dE f.aR ((b.args.drop 1).take k)).length:=by rw[lR];omega
   have au:=Fx (i:=e) aa V
   have W:cR (aG (dE f.aR ((b.args.drop 1).take k)) e+1)=aG (dE f.aR ((b.args.drop 1).take k)) e+1:=aP V V
   obtain⟨_,_,_,_,X,_⟩:=g.fZ.iF
   refine⟨V,V,e,by simpa using(Z g.cQ.cv).aG B,o,X,j.1,V,_,(g.Jl (by simp only[lR];omega)).pN j.1 D,j.1,V,g.fZ.aR.Pk j.1 D,?_⟩
   rw[W]
   intro m5
   let⟨U,E⟩:=g.pZ j.1 D (aG (dE f.aR ((b.args.drop 1).take k)) e+1)
   refine⟨E.dK I,ab V _ ⟨?_,M.trans E,I.to E⟩⟩
   rw[bd B,sQ];exact U
  .rw[cJ V]at g
   refine⟨C,aW,H,t,?_,M⟩
   have:tI s l {f with pc:=R} b={s with heap:=se s.heap w (b.op==17),av:=l++[{f with aR:=dE f.aR (b.args.drop 1)}]}:=by
    unfold tI;simp only[];rw[hw,ae ai,se,ae (by simpa using ai),al]
   rw[this];exact g.cQ
def pA.none{v:Nat->Nat}{u:E}:pA v u .nil []:=⟨[],iz.gK (gY.nil u u _ _) (λa=>absurd rfl a),rfl,aJ,aJ⟩
def HD(S:ST y v u x bg (IB d p c s aW z t) aW z t s.aW s.heap l f r o h A)(ad:l.length<=100000)(w:Int)(U:∀g,l.getLast?=some g->0<=f.dst/\f.dst<g.an.length/\f.dst<g.aR.length):
 aM cq 114 [vp x 0,vi w] u λ_ a=>DI y v u x d p c (match l.getLast? with|none=>{s with bJ:=0,value:=w,av:=[]}|some g=>{s with av:=l.dropLast++[g.put f.dst w (gF w)]}) a:=by
 apply sU (x,0)
 simp -zeta only[aC,aB]
 have G:=S.fZ.vU
 have aa:=S.fZ.pD.le
 have B:cR ((t.len:Int) -1)=(l.length:Int):=by rw[aP V V];omega
 have L:Int.toNat (l.length:Int)=l.length:=V
 have C:af u x 9=some (O.v t):=S.cQ.box.bV 9
 obtain⟨_,_,g2,_,_,_⟩:=S.fZ.iF
 refine⟨t,C,t,C,?_⟩
 rw[B,L]
 refine⟨V,V,f.dst,g2,t,C,V,V,V,S.cQ.mE (i:=9) aJ,?_⟩
 intro H
 let⟨q,t2⟩:=S.cQ.jw 9 [.s (t.cut 0 l.length 6)]
 obtain⟨b,_⟩:=q.jK (dz.aA _ q.new) (q.av.Vx)
 have ab:(t.cut 0 l.length 6).len=l.length:=by
  cases t with
  |nil=>simp at G
  |zP j I k=>simp at G
  |mk j I e c=>simp[O.cut]
 have e3:Int.toNat (0:Int)=0:=rfl
 refine⟨λD=>?_,λD=>?_⟩
 .have J:l=[]:=by simpa using D
  subst J
  refine⟨b.mE (i:=3) (by simp[kU]),?_⟩
  intro X
  let⟨j,t3⟩:=b.jw 3 [.i 0]
  refine⟨j.mE (i:=4) (by simp[kU]),?_⟩
  intro Y
  let⟨k,E⟩:=j.jw 4 [.i w]
  refine⟨k.mE (i:=9) (by simp[kU]),?_⟩
  intro K
  let⟨n,M⟩:=k.jw 9 [.s .nil]
  obtain⟨F,_⟩:=n.jK (dz.aA _ n.new) (pA.none (v:=v) (u:=K))
  exact⟨v,aW,z,.nil,F,((t2.trans t3).trans E).trans M⟩
 .have n:l≠[]:=by simpa using D
  have ae:l.length≠0:=λB=>n (List.length_eq_zero_iff.1 B)
  obtain⟨g,j⟩:∃g,l.getLast?=some g:=⟨_,fg n⟩
  let⟨P,Q,R⟩:=U g j
  rw[j]
  simp only[]
  have W:l=l.dropLast++[g]:=by
   rw[fg n]at j;simp at j;rw[<-j];exact(eD n).symm
  have k:qD y v H x bg (IB d p c s aW z (t.cut 0 l.length 6)) aW z (t.cut 0 l.length 6) s.aW s.heap (l.dropLast++[g]):=
   ⟨b.cv,b.jB,b.new,b.box,b.NP,b.aW,b.heap,by rw[<-W];exact b.av⟩
  let⟨r',I,h',Z,T⟩:=k.av.fZ
  have ac:l.dropLast.length=l.length -1:=aJ
  have M:cR ((l.length:Int) -1)=((l.length -1:Nat):Int):=by rw[aP V V];omega
  have N:Int.toNat ((l.length -1:Nat):Int)=l.dropLast.length:=V
  refine⟨t.cut 0 l.length 6,k.box.bV 9,?_⟩
  rw[M,N]
  refine⟨V,V,(mZ w H).mono ?_⟩
  rintro _ X ⟨rfl,F⟩
  let⟨J,t3⟩:=(ST.mk k T).ext F
  refine⟨_,rfl,F.cr (k.box.bV 9),(rI J P Q R w (gF w)).mono ?_⟩
  rintro _ Y ⟨K,E⟩
  exact⟨v,aW,z,_,K.cQ,(t2.trans t3).trans E⟩
end
def Y1{m M:E}(j:J m M){nb:Nat}(o:m.size<=nb)(t:nb<M.size)(b:Nat)(i:List Ce)
 (c:(b1=M.size\/b1=M.size+1\/b1=M.size+2)/\(b2=M.size\/b2=M.size+1\/b2=M.size+2)/\(b3=M.size\/b3=M.size+1\/b3=M.size+2)/\b1≠b2/\b1≠b3/\b2≠b3):
 pG m (ag (((M.push (.cells (bA (nF [.i (0:Int)] b)) 3)).push (.cells (bA (nF [.i (0:Int)] b)) 3)).push (.cells (bA (nF [.i (0:Int)] b)) 3)) nb 0 i) b1 b2 b3 b (df b) (df b) (df b):=by
 rw[ud]
 generalize d:M.push (.cells (bA ((df b).map Ce.i)) 3)=m2
 generalize e:m2.push (.cells (bA ((df b).map Ce.i)) 3)=m3
 generalize f:m3.push (.cells (bA ((df b).map Ce.i)) 3)=m4
 have k:m2.size=M.size+1:=by simp[<-d]
 have l:m3.size=M.size+2:=by simp[<-e,k]
 have u:m4.size=M.size+3:=by simp[<-f,l]
 have s:J M m2:=d▸J.push _ _
 have n:J m2 m3:=e▸J.push _ _
 have h:J m3 m4:=f▸J.push _ _
 have p:cx m4 M.size aD ((df b).map Ce.i):=((d▸cx.push M _ _:cx m2 M.size aD ((df b).map Ce.i)).ext n).ext h
 have q:cx m4 m2.size aD ((df b).map Ce.i):=(e▸cx.push m2 _ _:cx m3 m2.size aD ((df b).map Ce.i)).ext h
 have r:cx m4 m3.size aD ((df b).map Ce.i):=f▸cx.push m3 _ _
 have g:∀a,(a=M.size\/a=M.size+1\/a=M.size+2)->cx (ag m4 nb 0 i) a aD ((df b).map Ce.i):=λa c=>by
  have:cx m4 a aD ((df b).map Ce.i):=by
   rcases c with rfl|rfl|rfl
   .exact p
   .rw[<-k];exact q
   .rw[<-l];exact r
  exact this.congr (bo _ _ _ _ V)
 exact⟨(j.trans ((s.trans n).trans h)).ag o _ _,by have:=j.size;rw[aw];omega,g _ c.1,g _ c.2.1,g _ c.2.2.1,by simp[kv]⟩
def wj{m:E}{d p:O}(f:eW m d p j)(o:0<=g)(h:j.cB[g.toNat]? =some q)(b:0<=q.an/\q.an<=2000)(e:Int):
 aM cq 83 [.agg #[O.v d,O.v p],vi g,vi e] m λv a=>∃b1 b2 b3,v=.agg #[vi g,vi 0,vi e,O.v (.mk b1 0 q.an.toNat q.an.toNat),O.v (.mk b2 0 q.an.toNat q.an.toNat),O.v (.mk b3 0 q.an.toNat q.an.toNat)]/\
  pG m a b1 b2 b3 q.an.toNat (df q.an.toNat) (df q.an.toNat) (df q.an.toNat):=by
 apply Co
 simp -zeta only[aC,aB]
 intro k c
 have i:J m c:=((J.aA m).aH _).aH _
 have s:k.size=m.size+1:=by simp[k]
 have C:c.size=m.size+2:=by simp[c,s]
 have y:=f.cB.len
 have x:=az h
 clear_value c
 obtain⟨u,z,w,_,_,_,_,_,_,r,_⟩:=(f.ext i).cB.aG h
 refine⟨o,V,q.an,r,⟨b.1,cX _,V,V,?_⟩,⟨b.1,cX _,V,V,?_⟩,⟨b.1,cX _,V,V,?_⟩⟩
 all_goals
  intro l
  refine⟨⟨b.1,cX _,V,V,?_⟩,⟨b.1,cX _,V,V,?_⟩⟩
  all_goals
   intro n
   refine⟨b.1,cX _,V,V,?_⟩
   intro A B
   have t:l.size=c.size+1:=by simp[l]
   have D:n.size=c.size+2:=by simp[n,t]
   exact⟨_,_,_,rfl,Y1 i V V q.an.toNat _ V⟩
def pG.El{d:E}{an aR aY:List Int}(N:pG d a b1 b2 b3 b an aR aY)(e:k<b)(v:Int):eC a b1 k 1/\pG d (ag a b1 k [.i v]) b1 b2 b3 b (an.set k v) aR aY:=by
 have c:=N.lo;refine⟨N.kr.eC (by simp[N.len.1];omega),N.ext.ag c.1 _ _,by rw[aw];exact c,?_,N.ko.congr (bo _ _ _ _ V),N.kh.congr (bo _ _ _ _ V),by simp[N.len]⟩;have:=cx.ag (m:=a) (o:=k) (r:=[.i v]) N.kr;rw[Aq]at this;exact this
def pG.pZ{d:E}{an aR aY:List Int}(N:pG d a b1 b2 b3 b an aR aY)(e:k<b)(v:Int):eC a b2 k 1/\pG d (ag a b2 k [.i v]) b1 b2 b3 b an (aR.set k v) aY:=by
 have c:=N.lo;refine⟨N.ko.eC (by simp[N.len.2.1];omega),N.ext.ag c.2.1 _ _,by rw[aw];exact c,N.kr.congr (bo _ _ _ _ V),?_,N.kh.congr (bo _ _ _ _ V),by simp[N.len]⟩;have:=cx.ag (m:=a) (o:=k) (r:=[.i v]) N.ko;rw[Aq]at this;exact this
def yp(cO:List Int):∀(e r:List Int)(k:Nat),dH cO k (e++r)=dH cO k e++dH cO (k+e.length) r
 |[],r,k=>by simp[dH]
 |b::e,r,k=>by
  have:=yp cO e r (k+1);simp only[cH,dH,this,aV];have a:k+(e.length+1)=k+1+e.length:=V;rw[a]
def Mu{k:Nat}(h:k<b):df (b -k)=0::df (b -(k+1)):=by
 have:b -k=(b -(k+1))+1:=V;rw[this];rfl
def Wb(h:e.length<b)(v:Int):(e++df (b -e.length)).set e.length v=(e++[v])++df (b -(e.length+1)):=by
 rw[Mu h];simp
def YO(h:e.length<b):e++df (b -e.length)=(e++[0])++df (b -(e.length+1)):=by
 rw[Mu h];simp
section
variable{A:E}{t:Nat->Nat}{m:E}{z:Nat}{d p aW y v:O}{c:Int}{s:St}{u:List aU}{w:aU}{r o h:O}{B:List (List Ce)}
def FL(W:ST A t m z bg (IB d p c s aW y v) aW y v s.aW s.heap u w r o h B)(aQ:eW A d p j)(an:0<=g)(Z:j.cB[g.toNat]? =some q)(aS:0<=q.an/\q.an<=2000){ws:O}{b:List Int}(hw:aq m ws b)(aT:b≠[]->t ws.D=0)(ba:(b.length:Int)<=q.an)(U:Instr)(ab aV:O)
 (a5:u.length<=10000)(a0:0<=s.bC/\s.bC<=100000):
 aM cq 112 [vp z 0,vi g,O.v ws,xv U ab aV] m λ_ a=>DI A t m z d p c {s with bC:=s.bC+1,av:=if U.op=24 then u++[br j g w.dst b]else u++[w,br j g U.dst b]} a:=by
 apply we (z,0)
 simp -zeta only[aC,aB]
 intro R
 have aU:J m R:=(J.aA m).aH _
 have s1:R.size=m.size+1:=by simp[R]
 let⟨S1,t1⟩:=W.ext aU
 have B1:zy t R [m.size]:=λC D=>by simp at D;subst D;exact⟨V,W.cQ.new _ (ad _)⟩
 clear_value R
 have a4:=W.fZ.vU
 have aZ:=W.fZ.pD.le
 have e0:cR (s.bC+1)=s.bC+1:=aP V V
 have aF:cR ((v.len:Int) -1)=(u.length:Int):=by rw[aP V V];omega
 have e2:Int.toNat (u.length:Int)=u.length:=V
 refine⟨s.bC,S1.cQ.box.bV 5,S1.cQ.mE (i:=5) aJ,?_⟩
 rw[e0]
 intro m2
 let⟨P,t2⟩:=S1.jw 5 [.i (s.bC+1)]
 replace P:ST A t m2 z bg (IB d p c {s with bC:=s.bC+1} aW y v) aW y v s.aW s.heap u w r o h B:=P
 replace t2:To t R t m2:=t2
 have B2:=B1.to t2
 have g9:af m2 z 9=some (O.v v):=P.cQ.box.bV 9
 obtain⟨_,_,g2,_,_,_⟩:=P.fZ.iF
 refine⟨t2.dK B1,v,g9,?_⟩
 rw[aF,e2]
 clear_value m2
 have ax:=t1.trans t2
 refine⟨λI a=>∃K X,qD A t a z bg (IB d p c {s with bC:=s.bC+1} aW y X) aW y X s.aW s.heap K/\To t m t a/\zy t a [m.size]/\K.length<=10001/\(if U.op=24 then u++[br j g w.dst b]else u++[w,br j g U.dst b])=K++[br j g I b],⟨λT=>?_,λT=>?_⟩,?_⟩
 .simp at T
  refine⟨v,g9,V,V,w.dst,g2,v,g9,V,V,V,P.cQ.mE (i:=9) aJ,?_⟩
  intro Q
  let⟨G,t3⟩:=P.cQ.jw 9 [.s (v.cut 0 u.length 6)]
  obtain⟨k,_⟩:=G.jK (dz.aA _ G.new) (G.av.Vx)
  refine⟨t3.dK B2,u,v.cut 0 u.length 6,k,ax.trans t3,B2.to t3,V,?_⟩
  rw[aj T]
 .simp at T
  refine⟨u++[w],v,P.cQ,ax,B2,bI,?_⟩
  rw[ae T];simp
 rintro I Q ⟨K,X,G,t3,B3,hX,aH⟩
 rw[aH]
 have ah:dC j g=q:=by simp[dC,Z]
 have ag:=aQ.ext G.cv
 refine⟨d,G.box.bV 0,p,G.box.bV 1,(wj ag an Z aS I).mono ?_⟩
 rintro _ L ⟨b1,b2,b3,rfl,aa⟩
 have a6:=aa.lo
 have am:∀C∈[m.size],C<Q.size:=λC D=>(B3 C D).1
 have a8:m.size<Q.size:=am _ aJ
 refine⟨aa.ext.dv am,_,_,_,_,_,_,rfl,?_⟩
 intro m5 m6
 have aG:J L m6:=((J.aA L).aH _).ag (ad _) _ _
 have s6:m6.size=L.size+1:=by simp[m6,m5,aw]
 have N6:=aa.PQ aG
 clear_value m6
 have a_:=hw.len
 have iw:∀{M},J Q M->aq M ws b:=λhx=>(iO hw λk=>t3.dP _ (iP hw k) (by rw[aT k];decide)).ext hx
 obtain⟨pa,pl,pc,_,aO,_,_,k1,_,_,_⟩:=ag.cB.aG Z
 have a7:=az Z
 have a9:=ag.cB.len
 have ao:∀(k:Nat),(q.cO.any λF=>F==(k:Int))=true<->(k:Int)∈q.cO:=λk=>aJ
 simp -zeta only[O.jC,O.tH,O.iS,cD]
 refine fm (n:=b.length) V (λk a=>pG Q a b1 b2 b3 q.an.toNat (b.take k++df (q.an.toNat -k)) (dH q.cO 0 (b.take k)++df (q.an.toNat -k)) (df q.an.toNat)/\L.size<a.size) ⟨by simpa[dH]using N6,V⟩ ?_
 rintro k H aY μ hk ⟨S,s7⟩ ap
 have tO:∀{ma mc:E},(∀C,C=L.size\/C=m.size->mc[C]? =ma[C]?)->dY [L.size,m.size] ma mc:=λhh C D=>hh C (by simpa using D)
 have tk:(b.take k).length=k:=bI
 have ar:(dH q.cO 0 (b.take k)).length=k:=by rw[me,tk]
 refine dit (λh1=>?_) λh1=>?_
 .let⟨F,hy⟩:=cK b k
  have ek:Int.toNat (k:Int)*1=k:=V
  have ak:k<q.an.toNat:=V
  let⟨w8,N⟩:=S.El ak F
  have er:(b.take k++df (q.an.toNat -k)).set k F=b.take (k+1)++df (q.an.toNat -(k+1)):=by
   have:=Wb (e:=b.take k) (b:=q.an.toNat) V F;rw[tk]at this;rw[this,bd hy]
  rw[er]at N
  have eo:dH q.cO 0 (b.take (k+1))=dH q.cO 0 (b.take k)++[if q.cO.any (λF=>F==(k:Int))then 0 else gF F]:=by
   rw[bd hy,yp,tk];simp[dH]
  refine⟨V,V,F,by simpa using(iw S.ext).aG hy,V,V,?_⟩
  rw[ek]
  refine⟨w8,?_⟩
  intro m8
  have s8:m8.size=H.size:=aw _ _ _ _
  refine⟨tO λC D=>bo _ _ _ _ V,?_⟩
  replace N:pG Q m8 b1 b2 b3 q.an.toNat (b.take (k+1)++df (q.an.toNat -(k+1))) (dH q.cO 0 (b.take k)++df (q.an.toNat -k)) (df q.an.toNat):=N
  clear_value m8
  refine⟨p,N.ext.af (G.box.bV 1),an,V,pl,N.ext.af k1,(mf (aO.ext N.ext) _).mono ?_⟩
  rintro _ m9 ⟨C,rfl,D,ac⟩
  have N9:=N.PQ ac
  have s9:=ac.size
  refine⟨ac.dv bI,C,rfl,λay=>?_,λau=>?_⟩
  .have aA:¬((k:Int)∈q.cO):=nb D ay
   refine(mZ F m9).mono ?_
   rintro _ aK ⟨rfl,Y⟩
   have aN:=Y.size
   let⟨aI,ai⟩:=(N9.PQ Y).pZ ak (gF F)
   have al:(dH q.cO 0 (b.take k)++df (q.an.toNat -k)).set k (gF F)=dH q.cO 0 (b.take (k+1))++df (q.an.toNat -(k+1)):=by
    have:=Wb (e:=dH q.cO 0 (b.take k)) (b:=q.an.toNat) V (gF F);rw[ar]at this;rw[this,eo,ae (λhh=>aA ((ao k).1 hh))]
   rw[al]at ai
   refine⟨Y.dv bI,_,rfl,aL (Y.same L.size V) 4,V,V,aI,?_⟩
   intro aE
   refine⟨tO λC D=>bo _ _ _ _ V,ap V _ ⟨ai,by simp only[aE,aw];omega⟩⟩
  .have Y:(k:Int)∈q.cO:=yb D au
   refine ap V _ ⟨?_,V⟩
   have:=YO (e:=dH q.cO 0 (b.take k)) (b:=q.an.toNat) V
   rw[ar]at this
   rw[eo,aj ((ao k).2 Y),<-this];exact N9
 .have aR:k=b.length:=V
  subst aR
  rw[fx]at S
  have hc:dz (λ_=>False) t Q (mK t b1 b2 b3 K.length) H:=S.eY G.new
  let⟨a1,a2,a3⟩:=S.pD (a:=t) (g:=K.length)
  let⟨F,t7⟩:=G.gD (hc.mono λ_=>False.elim) (G.heap.eY hc id id)
  have B7:zy (mK t b1 b2 b3 K.length) H [L.size,m.size]:=λC D=>by
   simp at D;refine⟨V,?_⟩;unfold mK;rw[ez V,ez V,ez V];rcases D with rfl|rfl
   .exact G.new _ V
   .exact(B3 _ aJ).2
  refine⟨X,F.box.bV 9,?_⟩
  intro N
  have ac:J H N:=(J.aA H).aH _
  have jm:fX N H.size 0 [.i g,.i 0,.i I,.s (.mk b1 0 q.an.toNat q.an.toNat),.s (.mk b2 0 q.an.toNat q.an.toNat),.s (.mk b3 0 q.an.toNat q.an.toNat)]:=(cx.push H _ _).iF
  let⟨Y,ay⟩:=F.ext ac
  have ak:=B7.to ay
  clear_value N
  have ch:=λ{k:Nat}{s:O}{e:List Ce}(ab:iz (mK t b1 b2 b3 K.length) H aD 1 k s e)=>ab.eY (dz.eT (λ_=>False) ac F.new) id
  have aN:(br j g I b).an=b++df (q.an.toNat -b.length):=by simp[br,ah]
  have aK:(br j g I b).aR=dH q.cO 0 b++df (q.an.toNat -b.length):=by simp[br,ah]
  have aI:(br j g I b).aY=df q.an.toNat:=by simp[br,ah]
  refine⟨ac.cr (F.box.bV 9),pA.push Y.av Y.new (x:=.mk H.size 0 1 1) rfl (a:=br j g I b) jm (by rw[aN];exact ch a1) (by rw[aK];exact ch a2) (by rw[aI];exact ch a3) V λau qs aX q1 q2=>?_⟩
  have ai:To _ N au aX:=q2.mono λk hk=>V
  let⟨al,bc⟩:=Y.jK (q2.mono λk hk=>V) q1
  refine⟨ai.dK ak,al.mE (i:=9) aJ,?_⟩
  intro bb
  let⟨aE,aA⟩:=al.jw 9 [.s qs]
  exact⟨aA.dK (ak.to ai),au,aW,y,qs,aE,(((t3.trans t7).trans ay).trans ai).trans aA⟩
end
end
section
def Mo(an:List Int):∀(b aR:List Int)(n:Int),(∀q∈aR,n<=q)->∀q∈bB an aR b,n -b.length<=q
 |[],aR,n,h,q,c=>by have:=h q c;simp;omega
 |r::b,aR,n,h,q,c=>by
  have k:∀d,(∀q∈d,n -1<=q)->q∈bB an d b->n -(r::b).length<=q:=λd j a=>by
   have:=Mo an b d (n -1) j q a;simp only[aV];omega
  rw[bB]at c;refine k _ (λg a=>?_) c;split at a
  .rcases pT a with e|e
   .rcases aZ r.toNat aR.length with f|f
    .let⟨y,i⟩:=dZ f;have:=h y (ar i);rw[DM i]at e;omega
    .have:gQ aR r (aG aR r -1)=aR:=by unfold gQ;exact rX f
     rw[this]at a;have:=h g a;omega
   .have:=h g e;omega
  .have:=h g a;omega
section
variable{q:E}{g:Nat->Nat}{m:E}{k:Nat}{d p aW j c:O}{a:St}{b:List aU}{f:aU}{r t h:O}{u:List (List Ce)}
def Rb{z:cp}{v:Instr}(C:yE z a b f v){aR:List Int}(aH:aR=bB f.an f.aR (bW z v))(hM:kD z a f v aR)
 (aa:ST q g m k bg (IB d p (bH z) a aW j c) aW j c a.aW a.heap b f r t h u)(a8:eW q d p z){al aT:O}(ha:aq q al v.args)(hj:aq q aT v.eG)(cG:a.heap.length<=900000000)(cM:a.aW.length<=900000000):
 aM cq 60 [vp k 0,vp c.D (c.off+b.length*6),xv v al aT] m λ_ Q=>DI q g m k d p (bH z) (eJ z a b f v aR) Q:=by
 apply yN (k,0) (c.D,c.off+b.length*6)
 simp -zeta only[aC,aB]
 intro m1
 have co:J m m1:=(J.aA m).aH _
 have s1:m1.size=m.size+1:=by simp[m1]
 let⟨S1,t1⟩:=aa.ext co
 have B1:zy g m1 [m.size]:=λP hb=>by simp at hb;subst hb;exact⟨V,aa.cQ.new _ (ad _)⟩
 clear_value m1
 have cH:=C.Lg
 have cL:aR.length=f.aR.length:=by rw[aH];exact kd _ _ _
 have cS:r.len=f.an.length:=by have:=aa.fZ.an.len;simp at this;omega
 have cI:t.len=f.aR.length:=by have:=aa.fZ.aR.len;simp at this;omega
 have cA:=ha.len
 have bl:v.args.length<=4:=C.lx.1
 have cP:0<=f.pc/\f.pc<=100000:=by
  have cg:=C.F.pc;obtain⟨pq,_,ch,hP,_,_⟩:=C.I;rw[ch]at cg;have cQ:=hP.len;omega
 have e4:cR (f.pc+1)=f.pc+1:=aP V V
 have cF:b.length<=1000:=by
  have bS:=C.ok.depth;have b_:=C.ok.bC;have cd:=C.ok.bq;rw[C.fr]at bS;simp at bS;omega
 refine(wa (a8.ext S1.cQ.cv) (S1.cQ.box.bV 1) C.call (ha.ext S1.cQ.cv) V C.lx.2.2.2.1).mono ?_
 rintro _ m2 ⟨ts,lt,rfl,a_,_,bi,b0,_⟩
 let⟨S2,t2⟩:=S1.ext bi
 have B2:=B1.to t2
 have cU:=IQ z v
 have bq:=a_.len
 have b1:bW z v≠[]->g ts.D=0:=λac=>by
  rcases b0 with w|w|w
  .subst w;simp at bq;exact absurd (List.length_eq_zero_iff.1 bq.symm) ac
  .rw[w];refine aa.cQ.jB _ (iP ha λh0=>?_);let⟨R,B⟩:=UW _ ac;have:=Ca B;rw[h0]at this;simp at this
  .exact aa.cQ.new _ V
 refine⟨t2.dK B1,ts,lt,rfl,?_⟩
 refine fm (n:=(bW z v).length) V (λL Q=>ST q g Q k bg (IB d p (bH z) a aW j c) aW j c a.aW a.heap b {f with aR:=bB f.an f.aR ((bW z v).take L)} r t h u/\To g m2 g Q) ⟨S2,dz.aA _ S2.cQ.new⟩ ?_
 rintro L m3 b6 μ hk ⟨S3,t3⟩ bs
 have B3:=B2.to t3
 have cb:(bB f.an f.aR ((bW z v).take L)).length=f.aR.length:=kd _ _ _
 refine dit (λh1=>?_) λh1=>?_
 .let⟨R,B⟩:=cK (bW z v) L
  have A:=C.Kp R (ar B)
  obtain⟨_,_,_,G,I,_⟩:=S3.fZ.iF
  have K:aq m3 ts (bW z v):=iO a_ λac=>t3.dP _ (iP a_ ac) (by rw[b1 ac];decide)
  have F:bB f.an f.aR ((bW z v).take (L+1))=if 1000<=aG f.an R then gQ (bB f.an f.aR ((bW z v).take L)) R (aG (bB f.an f.aR ((bW z v).take L)) R -1)else bB f.an f.aR ((bW z v).take L):=by
   rw[bd B,ve];rfl
  refine⟨V,V,R,by simpa using K.aG B,r,G,A.1,V,_,(S3.Am (by show f.an.length<=_;omega)).pN A.1 A.2,λT=>?_,λT=>?_⟩
  .simp only[Hl,au]at T
   have D:R<(bB f.an f.aR ((bW z v).take L)).length:=V
   have M: -4<=aG (bB f.an f.aR ((bW z v).take L)) R/\aG (bB f.an f.aR ((bW z v).take L)) R<=999999:=by
    let⟨qq,aQ,bf⟩:=ln _ _ _ _ (oK A.1 D);have Y:=C.OM qq (ar aQ);have h8:=Mo f.an ((bW z v).take L) f.aR 0 (λao hq=>(C.OM ao hq).1) _ (fq A.1 D);have h9:((bW z v).take L).length<=4:=bI;omega
   have e5:cR (aG (bB f.an f.aR ((bW z v).take L)) R -1)=aG (bB f.an f.aR ((bW z v).take L)) R -1:=aP V V
   refine⟨t,I,A.1,V,_,(S3.Jl (by show(bB _ _ _).length<=_;omega)).pN A.1 D,A.1,V,S3.fZ.aR.Pk A.1 D,?_⟩
   rw[e5]
   intro H
   let⟨y,t4⟩:=S3.pZ A.1 D (aG (bB f.an f.aR ((bW z v).take L)) R -1)
   refine⟨t4.dK B3,bs V _ ⟨?_,t3.trans t4⟩⟩
   rw[F,aj T];exact y
  .simp only[Hl,bG]at T
   refine bs V _ ⟨?_,t3⟩
   rw[F,ae T];exact S3
 rw[cJ V,<-aH]at S3
 clear bs cb hk h1 b1 a_ b0 bq
 obtain⟨_,g1,_,_,_,_⟩:=S3.fZ.iF
 refine⟨f.pc,g1,S3.fZ.VH,?_⟩
 rw[e4]
 intro H
 let⟨y,t4⟩:=S3.NR (f.pc+1)
 have K:zy g H [m.size]:=B3.to t4
 have b3:dY [m.size] m3 H:=t4.dK B3
 have Z:To g m g H:=((t1.trans t2).trans t3).trans t4
 clear t4
 replace y:ST q g H k bg (IB d p (bH z) a aW j c) aW j c a.aW a.heap b {f with aR:=aR,pc:=f.pc+1} r t h u:=y
 refine⟨b3,?_⟩
 clear b3 g1 S3 t3 B3 t2 B2 S2 bi b6 μ
 clear_value H
 have U:∀{M M':E},dY [m.size] M M'->∀an,af M' m.size an=af M m.size an:=λh an=>aL (h _ aJ) an
 have hd:=C.dst
 have bn:f.an.length=aR.length/\f.aY.length=aR.length/\aR.length<=2000:=V
 have ax:1<=v.args.length->0<=aG v.args 0/\aG v.args 0<f.an.length:=λh1=>C.arg _ (fq V V)
 have ga:∀{Q},J q Q->1<=v.args.length->af Q al.D (al.off+Int.toNat (0:Int)*1)=some (vi (aG v.args 0)):=λhx h1=>(ha.ext hx).pN V V
 have gr:∀{g m bx aW j c lo ap t h u own' pc'},ST q g m k bg bx aW j c lo ap b {f with aR:=own',pc:=pc'} r t h u->∀{an:Int},0<=an->an<f.an.length->af m r.D (r.off+Int.toNat an*1)=some (vi (aG f.an an)):=λaa an h0 h1=>(aa.Am (by simp only[];omega)).pN h0 h1
 have ah:∀{g m bx aW j c lo ap t h u own' pc'},ST q g m k bg bx aW j c lo ap b {f with aR:=own',pc:=pc'} r t h u->af m c.D (c.off+b.length*6+3)=some (O.v r):=λaa=>aa.fZ.iF.2.2.2.1
 have ct:∀r',r'∈v.args->aG f.an r'<1000->iJ (aG f.an r'):=λr' cj aS=>by
  have bX:=C.arg r' cj;rcases C.F.Si _ (fq bX.1 bX.2)with T|T
  .exact T
  .omega
 obtain⟨pq,_,_,_,_,hI⟩:=C.I
 have am:=hI.op
 clear hI
 have bv:∀{bt:Nat->Nat}{bY:O}{ap:List bP}{M:E}(SM:ST q bt M k bg (IB d p (bH z) {a with heap:=ap} aW bY c) aW bY c a.aW ap b {f with aR:=aR,pc:=f.pc+1} r t h u)(tM:To g m bt M)(BM:zy bt M [m.size])(F ba:Int)(s':St),s'={a with heap:=ap,av:=b++[aU.put {f with aR:=aR,pc:=f.pc+1} v.dst F ba]}->
  aM cq 103 [vp c.D (c.off+b.length*6),vi v.dst,vi F,vi ba] M λ_ Q=>dY [m.size] M Q/\DI q g m k d p (bH z) s' Q:=λSM tM BM F ba s' w=>by
  refine(rI SM hd.1 (by show v.dst<f.an.length;omega) (by show v.dst<aR.length;omega) F ba).mono ?_
  rintro _ Q ⟨S',t'⟩
  exact⟨t'.dK BM,_,aW,_,c,by rw[w];exact S'.cQ,tM.trans t'⟩
 have bh:∀{M:E}(hx:J H M)(X:Int)(s':St),s'={a with av:=b++[{f with aR:=aR,pc:=X}]}->
  eC M c.D (c.off+b.length*6+1) 1/\dY [m.size] M (ag M c.D (c.off+b.length*6+1) [.i X])/\DI q g m k d p (bH z) s' (ag M c.D (c.off+b.length*6+1) [.i X]):=λhx X s' w=>by
  let⟨SM,tM⟩:=y.ext hx
  let⟨S',t'⟩:=SM.NR X
  exact⟨SM.fZ.VH,t'.dK (K.to tM),g,aW,j,c,by rw[w];exact S'.cQ,(Z.trans tM).trans t'⟩
 refine⟨λw=>?_,λe0=>?_⟩
 .simp only[bU,aE]at w
  refine(JE y ha C.arg bl w (λe5=>C.lx.2.1 (Or.inl e5)) (λe0 e5=>C.lx.2.2.1 V) (λe0 R B=>ct R B (hM.nU V R B)) bn ⟨hd.1,by show v.dst<aR.length;omega⟩ V).mono ?_
  rintro _ W ⟨aF,aV,aA,aK,L5,B⟩
  refine⟨B.dK K,aF,aV,aA,aK,?_,Z.trans B⟩
  have:eJ z a b f v aR=(if v.op=0 then{a with av:=b++[aU.put {f with aR:=aR,pc:=f.pc+1} v.dst v.bQ 0]}else if v.op=5 then{a with aW:=a.aW++[aG f.an (aG v.args 0)],av:=b++[aU.put {f with aR:=aR,pc:=f.pc+1} v.dst (aG f.an (aG v.args 0)) 0]}else{a with av:=b++[aU.put {f with aR:=aR,pc:=f.pc+1} v.dst (OO v.op (aG f.an (aG v.args 0)) (aG f.an (aG v.args 1))) 0]}):=by
   unfold eJ;simp only[];by_cases A:v.op=0
   .rw[aj A,aj A]
   rw[ae A,ae A];by_cases D:v.op=5
   .rw[ae V,aj D,aj D]
   .rw[aj V,ae D]
  rw[this];exact L5
 simp only[bu,ak]at e0
 have bc:¬(v.op=1\/v.op=2\/v.op=3\/v.op=4):=V
 have cu:∀F∈f.aY,F≠0->1000<=F/\ix F<a.heap.length:=λF hw ac=>by
  obtain⟨h1,dd,ca,_⟩:=C.Lf F hw ac;exact⟨h1,az ca⟩
 refine⟨λw=>?_,λe6=>?_⟩
 .simp only[aE]at w
  have h6:=C.lx.2.2.2.2.1 w
  refine(FT y ha C.arg bl bn ⟨h6.1,h6.2.1⟩ V cu).mono ?_
  rintro _ W ⟨aF,aA,A,N,rfl,S,B,er,eo,ep,ec⟩
  refine⟨B.dK K,_,rfl,U (B.dK K) 1,(rI S hd.1 (by rw[er];show v.dst<f.an.length;omega) (by rw[eo];show v.dst<aR.length;omega) (1000+A) 1).mono ?_⟩
  rintro _ D ⟨G,I⟩
  refine⟨I.dK (K.to B),aF,aW,aA,c,?_,(Z.trans B).trans I⟩
  have Y:=ec f.pc
  have ab:N.pc=f.pc+1:=ep
  have h8:({N with pc:=f.pc+1}:aU)=N:=by rw[<-ab]
  rw[h8]at Y
  have:eJ z a b f v aR=nI a b {f with aR:=aR} v v.bQ:=by
   unfold eJ nI;simp only[];rw[ae V,ae bc,ae V,aj w];rfl
  rw[this]
  have h9:nI a b {f with aR:=aR} v v.bQ={a with heap:=je a.heap A ⟨1,v.bQ,cN f v.args⟩,av:=b++[aU.put N v.dst (1000+A) 1]}:=Y
  rw[h9];exact G.cQ
 simp only[ak]at e6
 have F4:FP H c.D (c.off+b.length*6) {f with aR:=aR,pc:=f.pc+1} r t h:=y.fp ⟨by show f.an.length<=_;omega,by show aR.length<=_;omega,by show f.aY.length<=_;omega⟩
 have b5:∀{bw:Value->E->Prop},(∀ws M,aq M ws (cN f v.args)->J H M->(cN f v.args≠[]->g ws.D=0)->bw (O.v ws) M)->aM cq 106 [vp c.D (c.off+b.length*6),O.v al] H bw:=λhk=>by
  refine(vo F4.g3 F4.an (ha.ext y.cQ.cv) C.arg V).mono ?_;rintro _ W ⟨ws,rfl,ow,ai⟩;have cn:(cN f v.args).length=v.args.length:=by simp[cN]
  have iw:aq W ws (cN f v.args):=aq.gK (l:=cN f v.args) ow V;refine hk ws W iw ai λac=>?_;rcases ow.D with w|w
  .subst w;have:=iw.len;simp at this;exact absurd (List.length_eq_zero_iff.1 this.symm) ac
  .exact y.cQ.new _ w
 have bi:(eP z.bn).length<=12:=by
  have:=rD C.ok.fy.nj.types z.bn.length;rw[mV _ _ (ad _)]at this;exact this
 have cB:0<=bH z/\bH z<=12:=by unfold bH;omega
 refine⟨λw=>?_,λbz=>?_⟩
 .simp only[aE]at w
  have ab:=C.lx.2.2.2.2.2.1 w
  refine⟨bH z,y.cQ.box.bV 2,b5 λws W iw ai _=>?_⟩
  let⟨S,B⟩:=y.ext ai
  have A:=K.to B
  have N:=B.dK K
  have Y:cR (bH z+v.bQ)=bH z+v.bQ:=aP V V
  refine⟨N,ws,rfl,U N 2,ai.cr (y.cQ.box.bV 2),U N 1,?_⟩
  rw[Y]
  refine(Dp S (bH z+v.bQ) iw (by simp[cN];omega) V).mono ?_
  rintro _ D ⟨rfl,bA,bj,G,I⟩
  have aX:=I.dK A
  refine⟨aX,_,rfl,U aX 1,bv (bY:=bj) (ap:=je a.heap (dF a.heap) ⟨1,bH z+v.bQ,cN f v.args⟩) G ((Z.trans B).trans I) (A.to I) _ _ _ ?_⟩
  unfold eJ;simp only[];rw[ae V,ae bc,ae V,ae e6,aj w]
 simp only[ak]at bz
 have MA:eJ z a b f v aR=(
  if v.op=14 then{a with heap:=mQ a.heap (aG f.an (aG v.args 0)),av:=b++[{f with aR:=gQ aR (aG v.args 0) (aG aR (aG v.args 0)+1),pc:=f.pc+1}]}
  else if v.op=15 then{a with heap:=nt (gS a.heap [aG f.an (aG v.args 0)]),av:=b++[{f with aR:=aR,pc:=f.pc+1}]}
  else if v.op=16\/v.op=17 then tI a b {f with aR:=aR} v
  else if v.op=18 then{a with av:=b++[aU.put {f with aR:=aR,pc:=f.pc+1} v.dst (aG f.an (aG v.args 0)) (gF (aG f.an (aG v.args 0)))]}
  else if v.op=19 then{a with av:=b++[aU.put {f with aR:=aR,pc:=f.pc+1} v.dst (aG (aI a.heap (aG f.an (aG v.args 0))).aN v.bQ) 0]}
  else if v.op=20 then{a with av:=b++[{f with aR:=aR,pc:=if aG f.an (aG v.args 0)=0 then v.bQ else f.pc+1}]}
  else if v.op=22 then{a with av:=b++[{f with aR:=aR,pc:=v.bQ}]}
  else if v.op=21 then{a with av:=b++[{f with aR:=aR,pc:=aG v.eG (rG (cw z.bn v.bQ) (aI a.heap (aG f.an (aG v.args 0))).kH)}]}
  else if v.op=9\/v.op=24 then{a with bC:=a.bC+1,av:=if v.op=24 then b++[br z v.bQ f.dst (cN f v.args)]else b++[{f with aR:=aR,pc:=f.pc+1},br z v.bQ v.dst (cN f v.args)]}
  else if v.op=11 then{a with bC:=a.bC+1,heap:=apart a.heap (aG f.an (aG v.args 0)),av:=b++[{f with aR:=aR,pc:=f.pc+1},br z ((aI a.heap (aG f.an (aG v.args 0))).kH -bH z) v.dst ((aI a.heap (aG f.an (aG v.args 0))).aN++[aG f.an (aG v.args 1)])]}
  else match b.getLast? with|none=>{a with bJ:=0,value:=aG f.an (aG v.args 0),av:=[]}|some aN=>{a with av:=b.dropLast++[aN.put f.dst (aG f.an (aG v.args 0)) (gF (aG f.an (aG v.args 0)))]}):=by
  unfold eJ
  simp only[]
  rw[ae V,ae bc,ae V,ae e6,ae bz]
  by_cases aZ:v.op=14
  .rw[aj aZ,aj aZ]
  rw[ae aZ,ae aZ]
  by_cases a0:v.op=15
  .rw[aj a0,aj a0]
  rw[ae a0,ae a0]
  by_cases a1:v.op=16\/v.op=17
  .rw[aj a1,aj a1];rfl
  rw[ae a1,ae a1]
  by_cases a2:v.op=18
  .rw[aj a2,aj a2]
  rw[ae a2,ae a2]
  by_cases a3:v.op=19
  .rw[aj a3,aj a3]
  rw[ae a3,ae a3]
  by_cases a4:v.op=20
  .rw[aj a4,aj a4]
  rw[ae a4,ae a4]
  by_cases a5:v.op=21
  .rw[aj a5,ae V,aj a5]
  rw[ae a5]
  by_cases a6:v.op=22
  .rw[aj a6,aj a6]
  rw[ae a6,ae a6,ae a5]
  by_cases bb:v.op=9
  .rw[aj bb,aj (Or.inl bb),ae V]
  rw[ae bb]
  by_cases a7:v.op=24
  .rw[aj a7,aj (Or.inr a7),aj a7]
  rw[ae a7,ae (show¬(v.op=9\/v.op=24)by omega)]
  by_cases aY:v.op=11
  .rw[aj aY,aj aY]
  rw[ae aY,ae aY]
  cases b.getLast?<;>rfl
 rw[MA]
 clear MA
 refine⟨λw=>?_,λbD=>?_⟩
 .simp only[aE]at w
  rw[aj w]
  have h2:=C.lx.2.1 V
  have A:=ax V
  let⟨ab,bE⟩:=hM.VS w
  let⟨Y,a9⟩:=bZ ab
  have aS:=az Y
  have bo:=y.cQ.heap.len
  have bm:=ab.1
  have ay:ix (aG f.an (aG v.args 0))=(aG f.an (aG v.args 0) -1000).toNat:=rfl
  have e5:cR (aG f.an (aG v.args 0) -1000)=aG f.an (aG v.args 0) -1000:=aP V V
  have bk:cR ((aI a.heap (aG f.an (aG v.args 0))).aQ+1)=(aI a.heap (aG f.an (aG v.args 0))).aQ+1:=aP V V
  obtain⟨f0,k0,_⟩:=y.cQ.heap.bV Y
  refine⟨j,y.cQ.box.bV 8,r,ah y,V,V,_,ga y.cQ.cv V,A.1,V,_,gr y A.1 A.2,?_⟩
  rw[e5,<-ay]
  refine⟨V,V,_,k0,V,V,y.cQ.heap.wr (o:=0) aS be,?_⟩
  rw[bk]
  intro W
  let⟨bp,c5⟩:=y.cQ.heap.tP y.cQ.new Y ((aI a.heap (aG f.an (aG v.args 0))).aQ+1)
  let⟨S,B⟩:=y.gD (c5.mono λL hk=>Or.inl hk) bp
  have aO:aG v.args 0<aR.length:=V
  have bF:0<=aG aR (aG v.args 0)/\aG aR (aG v.args 0)<=999999:=by
   refine⟨hM.nn _ (fq (l:=aR) A.1 aO),?_⟩;have hg:=oK (l:=aR) A.1 aO;rw[aH]at hg;let⟨qq,aQ,bf⟩:=ln _ _ _ _ hg;have:=(C.OM qq (ar aQ)).2;rw[<-aH]at bf;omega
  have e7:cR (aG aR (aG v.args 0)+1)=aG aR (aG v.args 0)+1:=aP V V
  refine⟨B.dK K,t,S.fZ.iF.2.2.2.2.1,V,V,_,ga S.cQ.cv V,A.1,V,aG aR (aG v.args 0),(S.Jl (by show aR.length<=_;omega)).pN A.1 aO,A.1,V,S.fZ.aR.Pk A.1 aO,?_⟩
  rw[e7]
  intro D
  let⟨G,I⟩:=S.pZ A.1 aO (aG aR (aG v.args 0)+1)
  exact⟨I.dK (K.to B),g,aW,j,c,G.cQ,(Z.trans B).trans I⟩
 simp only[ak]at bD
 rw[ae bD]
 refine⟨λw=>?_,λbE=>?_⟩
 .simp only[aE]at w
  rw[aj w]
  have h2:=C.lx.2.1 V
  have A:=ax V
  have bF:v.args=[aG v.args 0]:=by
   cases hx:v.args with
   |nil=>rw[hx]at h2;simp at h2
   |cons R aO=>cases aO with
    |nil=>rfl
    |cons bk aO=>rw[hx]at h2;simp at h2
  have bk:=C.HE aH hM.nn
  have ht:bW z v=[aG v.args 0]:=by unfold bW;rw[aj V];exact bF
  have bp:=bk.1
  rw[ht]at bp
  refine⟨j,y.cQ.box.bV 8,?_⟩
  intro W D
  let⟨G,I,kb⟩:=y.OC
  have R:zy (pw g H.size 5) D [m.size]:=K.to I
  replace G:ST q (pw g H.size 5) D k bg (IB d p (bH z) a aW j c) aW j c a.aW a.heap b {f with aR:=aR,pc:=f.pc+1} r t h u:=G
  replace I:To g H (pw g H.size 5) D:=I
  replace kb:cx D H.size eu [.s j]:=kb
  clear_value D
  refine⟨r,ah G,V,V,_,ga G.cQ.cv V,A.1,V,_,gr G A.1 A.2,(FU G.cQ.heap G.cQ.new kb (fR _ _ _) (W:=λP=>gU b P+dq f.an aR P) (bp.congr λP=>rfl) bk.2 V).mono ?_⟩
  rintro _ m7 ⟨bM,aO,bK,bL,c7⟩
  let⟨S7,t7⟩:=G.gD c7 bK
  refine⟨t7.dK R,aO,bL.bV 0,S7.cQ.mE (i:=8) aJ,?_⟩
  intro m8
  let⟨S8,t8⟩:=S7.jw 8 [.s aO]
  exact⟨t8.dK (R.to t7),bM,aW,aO,c,S8.cQ,((Z.trans I).trans t7).trans t8⟩
 simp only[ak]at bE
 rw[ae bE]
 refine⟨λw=>?_,λb7=>?_⟩
 .simp only[bU,aE]at w
  rw[aj w]
  refine(OF y ha C.arg ⟨C.lx.2.2.2.1 w,bl⟩ bn V (λao hq=>?_) (hM.Jj w).1 C.ok.heap (show f.pc+1=f.pc+1 from rfl)).mono ?_
  .refine⟨hM.nn ao hq,?_⟩
   let⟨L,hk⟩:=List.mem_iff_getElem?.1 hq
   simp only[]at hk
   rw[aH]at hk
   let⟨qq,aQ,bf⟩:=ln _ _ _ _ hk
   have:=(C.OM qq (ar aQ)).2
   omega
  rintro _ W ⟨aF,aV,aA,aK,L5,B⟩
  exact⟨B.dK K,aF,aV,aA,aK,L5,Z.trans B⟩
 simp only[bu,ak]at b7
 rw[ae V]
 refine⟨λw=>?_,λbF=>?_⟩
 .simp only[aE]at w
  rw[aj w]
  have h2:=C.lx.2.1 V
  have A:=ax V
  refine⟨r,ah y,V,V,_,ga y.cQ.cv V,A.1,V,_,gr y A.1 A.2,(mZ _ _).mono ?_⟩
  rintro _ W ⟨rfl,ai⟩
  let⟨S,B⟩:=y.ext ai
  have N:=B.dK K
  exact⟨N,_,rfl,U N 1,bv (ap:=a.heap) S (Z.trans B) (K.to B) _ _ _ rfl⟩
 simp only[ak]at bF
 rw[ae bF]
 refine⟨λw=>?_,λbK=>?_⟩
 .simp only[aE]at w
  rw[aj w]
  have h2:=C.lx.2.1 V
  have A:=ax V
  let⟨ab,aO⟩:=hM.load w
  let⟨Y,a9⟩:=bZ ab
  have aS:=az Y
  have bo:=y.cQ.heap.len
  have bm:=ab.1
  have ay:ix (aG f.an (aG v.args 0))=(aG f.an (aG v.args 0) -1000).toNat:=rfl
  have e5:cR (aG f.an (aG v.args 0) -1000)=aG f.an (aG v.args 0) -1000:=aP V V
  obtain⟨f0,_,_,k2,kf,_⟩:=y.cQ.heap.bV Y
  have aQ:=kf.len
  unfold lT at am
  rw[ae V,ae V,ae V,ae V,ae V,ae V,ae V,aj w]at am
  refine⟨j,y.cQ.box.bV 8,r,ah y,V,V,_,ga y.cQ.cv V,A.1,V,_,gr y A.1 A.2,?_⟩
  rw[e5,<-ay]
  exact⟨V,V,f0,k2,am.2.1,V,_,kf.pN am.2.1 aO,bv (ap:=a.heap) y Z K _ _ _ rfl⟩
 simp only[ak]at bK
 rw[ae bK]
 refine⟨λw=>?_,λbL=>?_⟩
 .simp only[aE]at w
  rw[aj w]
  have h2:=C.lx.2.1 V
  have A:=ax V
  refine⟨r,ah y,V,V,_,ga y.cQ.cv V,A.1,V,_,gr y A.1 A.2,λT=>?_,λT=>?_⟩
  .simp at T;exact bh (J.aA _) _ _ (by rw[aj T])
  .simp at T;exact⟨g,aW,j,c,by rw[ae T];exact y.cQ,Z⟩
 simp only[ak]at bL
 rw[ae bL]
 refine⟨λw=>?_,λbN=>?_⟩
 .simp only[aE]at w
  rw[aj w]
  exact bh (J.aA _) _ _ rfl
 simp only[ak]at bN
 rw[ae bN]
 refine⟨λw=>?_,λbM=>?_⟩
 .simp only[aE]at w
  rw[aj w]
  have h2:=C.lx.2.1 V
  have A:=ax V
  let⟨ab,bp⟩:=hM.BC w
  let⟨Y,a9⟩:=bZ ab
  have aS:=az Y
  have bo:=y.cQ.heap.len
  have bm:=ab.1
  have ay:ix (aG f.an (aG v.args 0))=(aG f.an (aG v.args 0) -1000).toNat:=rfl
  have e5:cR (aG f.an (aG v.args 0) -1000)=aG f.an (aG v.args 0) -1000:=aP V V
  obtain⟨f0,_,k1,_⟩:=y.cQ.heap.bV Y
  unfold lT at am
  rw[ae V,ae V,ae V,ae V,ae V,ae V,ae V,ae V,ae V,ae V,aj w]at am
  have bQ:rG (cw z.bn v.bQ) (aI a.heap (aG f.an (aG v.args 0))).kH<(cw z.bn v.bQ).length:=mF ⟨_,bp,aJ⟩
  have bT:=hj.len
  have bR:=am.2.2.1
  refine⟨j,y.cQ.box.bV 8,r,ah y,V,V,_,ga y.cQ.cv V,A.1,V,_,gr y A.1 A.2,?_⟩
  rw[e5,<-ay]
  refine⟨V,V,_,k1,d,y.cQ.box.bV 0,(tB (a8.ext y.cQ.cv).bn C.ok.fy.nj.types v.bQ).mono ?_⟩
  rintro _ W ⟨cs,rfl,bO,ai⟩
  let⟨S,B⟩:=y.ext ai
  have N:=B.dK K
  refine⟨N,cs,rfl,U N 5,(sJ bO _).mono ?_⟩
  rintro _ D ⟨ri,rfl,aO,bf⟩
  let⟨G,I⟩:=S.ext aO
  have aX:=I.dK (K.to B)
  have bk:ri=rG (cw z.bn v.bQ) (aI a.heap (aG f.an (aG v.args 0))).kH:=by
   rcases bf with⟨_,aQ⟩|⟨_,he⟩
   .exact absurd bp aQ
   .exact he
  subst bk
  exact⟨aX,_,rfl,U aX 5,V,V,_,(hj.ext G.cQ.cv).pN V V,bh (ai.trans aO) _ _ rfl⟩
 simp only[ak]at bM
 rw[ae bM]
 have bR:0<=a.bC/\a.bC<=100000:=by
  have b_:=C.ok.bC;have cd:=C.ok.bq;omega
 have aX:=C.ok.fy
 refine⟨λw=>?_,λe9=>?_⟩
 .simp only[bU,aE]at w
  rw[aj w]
  unfold lT at am
  rw[ae V,ae V,ae V,ae V,aj w]at am
  let⟨ao,bf,aO,bQ⟩:=am
  have ck:=(aX.dx ao (ar aO)).an
  have h3:=(aX.nj.dx ao (ar aO)).1
  have cn:(cN f v.args).length=v.args.length:=by simp[cN]
  refine b5 λws W iw ai bk=>?_
  let⟨S,B⟩:=y.ext ai
  have N:=B.dK K
  refine⟨N,ws,rfl,U N 0,U N 1,U N 2,U N 3,U N 4,U N 5,U N 2,(FL S a8 bf aO V iw bk V v al aT V bR).mono ?_⟩
  rintro _ D ⟨bA,bO,bj,aQ,L6,I⟩
  exact⟨I.dK (K.to B),bA,bO,bj,aQ,L6,(Z.trans B).trans I⟩
 simp only[bu,ak]at e9
 rw[ae V]
 refine⟨λw=>?_,λbA=>?_⟩
 .simp only[aE]at w
  rw[aj w]
  have h2:=C.lx.2.2.1 V
  have A:=ax V
  have bk:0<=aG v.args 1/\aG v.args 1<f.an.length:=C.arg _ (fq V V)
  let⟨ab,cm,cT,cf,cc,cD⟩:=hM.apply w
  let⟨Y,a9⟩:=bZ ab
  have bQ:=C.ok.heap.cell _ (ar Y)
  have cE:=bQ.fl
  have bp:=(bQ.ry a9).2
  have aS:=az Y
  have bo:=y.cQ.heap.len
  have bm:=ab.1
  have ay:ix (aG f.an (aG v.args 0))=(aG f.an (aG v.args 0) -1000).toNat:=rfl
  have e5:cR (aG f.an (aG v.args 0) -1000)=aG f.an (aG v.args 0) -1000:=aP V V
  let⟨f0,k0,k1,k2,kf,kr⟩:=y.cQ.heap.bV Y
  refine⟨r,ah y,V,V,_,ga y.cQ.cv V,A.1,V,_,gr y A.1 A.2,j,y.cQ.box.bV 8,?_⟩
  rw[e5,<-ay]
  generalize hw:aG f.an (aG v.args 0)=F at*
  have gv:∀{g m bx aW j c lo ap t h u own' pc'},ST q g m k bg bx aW j c lo ap b {f with aR:=own',pc:=pc'} r t h u->af m r.D (r.off+Int.toNat (aG v.args 1)*1)=some (vi (aG f.an (aG v.args 1))):=λaa=>gr aa bk.1 bk.2
  generalize hv:aG f.an (aG v.args 1)=X at*
  let⟨ao,hq⟩:=cK z.cB (((aI a.heap F).kH -bH z).toNat)
  have ci:dC z ((aI a.heap F).kH -bH z)=ao:=by simp[dC,hq]
  rw[ci]at cf cc
  have ck:=(aX.dx ao (ar hq)).an
  have h3:=(aX.nj.dx ao (ar hq)).1
  refine⟨V,V,_,k0,_,k1,f0,k2,?_⟩
  intro W D
  have bj:J H D:=((J.aA H).aH _).ag (ad _) _ _
  have s6:D.size=H.size+1:=by simp[D,W,aw]
  let⟨G,I⟩:=y.ext bj
  clear_value D
  have R:zy g D [H.size,m.size]:=λP hb=>by
   simp at hb;rcases hb with rfl|rfl
   .exact⟨V,y.cQ.new _ (ad _)⟩
   .exact K.to I _ aJ
  have bf:∀{M},J D M->af M al.D (al.off+Int.toNat (1:Int)*1)=some (vi (aG v.args 1)):=λhx=>(ha.ext (G.cQ.cv.trans hx)).pN V V
  have ew:cR ((aI a.heap F).kH -bH z)=(aI a.heap F).kH -bH z:=aP V V
  have tail:∀{M:E}{es:O},J D M->gY D M aD 1 es (((aI a.heap F).aN++[X]).map Ce.i)->
   aM cq 113 [vp k 0,vi F,vb false] M λcy Q=>dY [H.size,m.size] M Q/\∃cv:Bool,cy=vb cv/\∃b4:Int,af Q k (0+2)=some (vi b4)/\
    aM cq 112 [vp k 0,vi (cR ((aI a.heap F).kH -b4)),O.v es,xv v al aT] Q λ_ b2=>dY [H.size,m.size] Q b2/\DI q g m k d p (bH z) {a with bC:=a.bC+1,heap:=apart a.heap F,av:=b++[{f with aR:=aR,pc:=f.pc+1},br z ((aI a.heap F).kH -bH z) v.dst ((aI a.heap F).aN++[X])]} b2:=λ{M}{es} hx oe=>by
   let⟨SM,tM⟩:=G.ext hx
   have BM:=R.to tM
   have ie:aq M es ((aI a.heap F).aN++[X]):=aq.gK oe bI
   have bV:es.D<M.size:=iP ie aJ
   have bT:g es.D=0:=by
    rcases oe.D with w|w
    .subst w;have:=ie.len;simp at this
    .exact G.cQ.new _ w
   refine(Dq SM ab false C.ok.heap V).mono ?_
   rintro _ m8 ⟨P,rfl,_,cV,cO,S8,t8⟩
   have hK:se a.heap F false=apart a.heap F:=by rw[se,ae (sx)]
   rw[hK]at S8
   have cr:aq m8 es ((aI a.heap F).aN++[X]):=iO ie λ_=>t8.dP _ bV (by rw[bT];decide)
   refine⟨t8.dK BM,P,rfl,bH z,S8.cQ.box.bV 2,?_⟩
   rw[ew]
   refine(FL (s:={a with heap:=apart a.heap F}) S8 a8 cm hq V cr (λ_=>by rw[t8.jc _ bV];exact bT) bI v al aT V bR).mono ?_
   rintro _ m9 ⟨cz,cs,ce,b8,L9,t9⟩
   refine⟨t9.dK (BM.to t8),cz,cs,ce,b8,?_,(((Z.trans I).trans tM).trans t8).trans t9⟩
   rw[ae V]at L9
   exact L9
  refine⟨r,ah G,V,V,_,bf (J.aA _),bk.1,V,X,gv G,?_,?_⟩
  .refine(eL (kf.ext bj) V).mono ?_
   rintro _ m7 ⟨cl,rfl,oc,N⟩
   let⟨S7,t7⟩:=G.ext N
   have B7:=R.to t7
   refine⟨t7.dK R,cl,rfl,N.cr (gv G),N.cr (bf (J.aA _)),aL (N.same m.size (R _ aJ).1) 4,N.cr (ah G),?_⟩
   intro m8
   have S:J m7 m8:=(J.aA m7).aH _
   refine⟨aL (S.same H.size (B7 _ aJ).1) 2,nY oc N V λes m9 o9 aO=>⟨?_,tail aO o9⟩⟩
   intro P hb
   have aQ:=(R P hb).1
   rw[aO.same P aQ,S.same P (oh N.size),N.same P aQ]
  .intro m7
   have N:J D m7:=(J.aA D).aH _
   have s7:m7.size=D.size+1:=by simp[m7]
   have jm:fX m7 D.size 0 [.i X]:=(cx.push D _ _).iF
   have b9:cx m7 D.size aD [.i X]:=cx.push D _ _
   clear_value m7
   let⟨S7,t7⟩:=G.ext N
   have B7:=R.to t7
   refine⟨aL (N.same H.size (R _ aJ).1) 2,(eL (kf.ext (bj.trans N)) V).mono ?_⟩
   rintro _ m8 ⟨cl,rfl,oc,S⟩
   let⟨S8,t8⟩:=S7.ext S
   have cC:cl.len=(aI a.heap F).aN.length:=by have:=oc.len;simp at this;omega
   refine⟨t8.dK B7,cl,rfl,S.cr (gv S7),S.cr (bf N),aL (S.same m.size (B7 _ aJ).1) 4,S.cr (ah S7),?_⟩
   have bO:=N.trans S
   refine gY.append (c:=[.i 0]) (x:=.mk D.size 0 1 1) (h:=[.i X]) (oc.cv V) bO rfl (b9.ext S).iF (by simp only[O.iS];omega) λes m9 o9 aO _ _ _ _=>⟨?_,tail aO (by simpa using o9)⟩
   intro P hb
   have aQ:=(R P hb).1
   rw[aO.same P aQ,bO.same P aQ]
 simp only[ak]at bA
 rw[ae bA]
 refine⟨λw=>?_,λI=>?_⟩
 .simp only[aE]at w
  have h2:=C.lx.2.1 V
  have A:=ax V
  refine⟨r,ah y,V,V,_,ga y.cQ.cv V,A.1,V,_,gr y A.1 A.2,(HD y V (aG f.an (aG v.args 0)) (λaN hg=>?_)).mono ?_⟩
  .have ac:b≠[]:=λw=>by rw[w]at hg;simp at hg
   have D:b=b.dropLast++[aN]:=by
    rw[fg ac]at hg;simp at hg;rw[<-hg];exact(eD ac).symm
   have N:b.length=b.dropLast.length+1:=by
    have:=qu List.length D;simpa using this
   let⟨R,S,Y⟩:=C.ok.chain b.dropLast.length aN f (by rw[C.fr,D];simp) (by rw[C.fr,<-N];simp)
   have G:=C.ok.av aN (by rw[C.fr,D];simp)
   have:=G.lr
   have:=G.lo
   exact⟨R,by show f.dst<_;omega,by show f.dst<_;omega⟩
  rintro _ W ⟨aF,aV,aA,aK,L5,B⟩
  exact⟨B.dK K,aF,aV,aA,aK,L5,Z.trans B⟩
 simp only[ak]at I
 have:=C.ZK
 omega
end
end
section
variable{a:cp}
section
variable{g:E}{f:Nat->Nat}{m:E}{c:Nat}{d p aW e b:O}{s:St}
def FZ(L:qD g f m c bg (IB d p (bH a) s aW e b) aW e b s.aW s.heap s.av)(z:eW g d p a)(u:de a s)(au:∀t∈s.av,∀w∈t.an,w<=9223372036854775807)(ay:s.heap.length<=900000000)(aD:s.aW.length<=900000000):
 aM cq 33 [vp c 0] m λ_ I=>DI g f m c d p (bH a) (my a s) I:=by
 apply wh (c,0)
 simp -zeta only[aC,aB]
 refine⟨s.bJ,L.box.bV 3,λy=>?_,λy=>?_⟩
 .simp at y
  rw[th y]
  exact⟨f,aW,e,b,L,dz.aA _ L.new⟩
 have G:s.bJ=3:=by simpa using y
 let⟨k,h,r⟩:=u.split G
 have az:s.av.getLast?=some h:=by rw[r];simp
 have ar:s.av.dropLast=k:=by rw[r];simp
 have C:yE a s k h (dt a h):=⟨u,G,r,rfl,au⟩
 have aH:my a s=(open Classical in if na (dt a h).op/\s.bC=s.bq then{s with bJ:=1}else if kD a s h (dt a h) (bB h.an h.aR (bW a (dt a h)))then eJ a s k h (dt a h) (bB h.an h.aR (bW a (dt a h)))else{s with bJ:=2}):=by
  unfold my;rw[ae (by simpa using G),az,ar]
 rw[aH]
 generalize dt a h=x at*
 have N:qD g f m c bg (IB d p (bH a) s aW e b) aW e b s.aW s.heap (k++[h]):=by rw[<-r];exact L
 let⟨ak,ai,W,al,T⟩:=N.av.fZ
 have S:ST g f m c bg (IB d p (bH a) s aW e b) aW e b s.aW s.heap k h ak ai W al:=⟨N,T⟩
 have aO:=T.vU
 have ab:=u.depth
 have aN:=u.bC
 have aS:=u.bq
 rw[r]at ab
 have aQ:k.length<=1000:=by simp at ab;omega
 have e1:cR ((b.len:Int) -1)=(k.length:Int):=by rw[aP V V];omega
 have e2:Int.toNat (k.length:Int)=k.length:=V
 have U:af m c 9=some (O.v b):=S.cQ.box.bV 9
 obtain⟨R,g1,_,_,_,_⟩:=T.iF
 let⟨aY,hq,aF,hP,ap,hI⟩:=C.I
 let⟨pa,pl,pc,aT,aV,ah,k0,k1,k2,k3,k4⟩:=z.cB.aG hq
 let⟨F,H,Y,hj,i0,i1,i2,i3,i4,i5⟩:=ah.aG ap
 have aX:=z.cB.len
 have aU:=ah.len
 have X:=C.F
 have aE:=X.eg
 have ac:=X.pc
 rw[aF]at ac
 have l:=S.cQ.cv
 refine⟨b,U,b,U,?_⟩
 rw[e1,e2]
 refine⟨V,V,p,S.cQ.box.bV 1,_,R,aE.1,V,pc,l.af k4,_,g1,ac.1,V,_,l.af i0,_,l.af i1,_,l.af i2,_,l.af i3,F,l.af i4,H,l.af i5,?_⟩
 intro m1
 have o:J m m1:=(J.aA m).aH _
 refine⟨o.cr (l.af i0),o.cr (l.af i1),o.cr (l.af i2),o.cr (l.af i3),o.cr (l.af i4),o.cr (l.af i5),o.cr g1,o.cr (l.af k4),o.cr R,o.cr (S.cQ.box.bV 1),?_⟩
 intro n
 have aI:J m n:=o.ag (ad _) _ _
 have s2:n.size=m.size+1:=by simp[n,m1,aw]
 let⟨j,t2⟩:=S.ext aI
 have A:zy f n [m.size]:=λP l=>by simp at l;subst l;exact⟨V,S.cQ.new _ (ad _)⟩
 clear_value n
 have aR:=C.Lg
 have aG:({s with av:=k++[h]}:St)=s:=by rw[<-r]
 have ax:lS n b (k++[h]):=j.cQ.av.JH bI (λt w=>by
  have q:=u.av t (by rw[r];exact w);obtain⟨Q,_,B,v,_⟩:=q.Ja u.fy;have D:=q.lr;have K:=q.lo;have M:=q.lh;rw[B]at D K M;have:=v.an;omega)
 have an:RV n c 3 d p aW e b a s:=by
  have:RV n c 3 d p aW e b a {s with av:=k++[h]}:=⟨z.ext j.cQ.cv,j.cQ.box.bV 0,j.cQ.box.bV 1,j.cQ.box.bV 3,j.cQ.box.bV 4,j.cQ.box.bV 5,j.cQ.box.bV 6,j.cQ.box.bV 7,j.cQ.box.bV 8,j.cQ.box.bV 9,j.cQ.aW.nU V,j.cQ.heap.cells V,ax⟩;rw[aG]at this;exact this
 have F2:FP n b.D (b.off+k.length*6) h ak ai W:=j.fp ⟨V,V,V⟩
 have kj:¬(na x.op/\s.bC=s.bq)->aM cq 59 [vp c 0,vp b.D (b.off+k.length*6),xv x F H] n λaK v=>
  dY [m.size] n v/\∃K:Bool,aK=vb K/\
  ((!K)=true->eC v c (0+3) 1/\let q:E:=ag v c (0+3) [.i (2:Int)]
   dY [m.size] v q/\DI g f m c d p (bH a) (open Classical in if na x.op/\s.bC=s.bq then{s with bJ:=1}else if kD a s h x (bB h.an h.aR (bW a x))then eJ a s k h x (bB h.an h.aR (bW a x))else{s with bJ:=2}) q)/\
  ((!K)=false->aM cq 60 [vp c 0,vp b.D (b.off+k.length*6),xv x F H] v λt q=>
   dY [m.size] v q/\DI g f m c d p (bH a) (open Classical in if na x.op/\s.bC=s.bq then{s with bJ:=1}else if kD a s h x (bB h.an h.aR (bW a x))then eJ a s k h x (bB h.an h.aR (bW a x))else{s with bJ:=2}) q):=λaA=>by
  refine(P1 an (j.cQ.box.bV 2) C F2 (Y.ext j.cQ.cv) V).mono ?_
  rintro _ m3 ⟨P,rfl,Z,am⟩
  let⟨B,t3⟩:=j.ext am
  have M:=A.to t3
  rw[ae aA]
  refine⟨t3.dK A,P,rfl,λq=>?_,λq=>?_⟩
  .rw[ae (nb Z q)]
   refine⟨B.cQ.mE (i:=3) aJ,?_⟩
   intro m4
   let⟨D,t⟩:=B.jw 3 [.i 2]
   refine⟨t.dK M,f,aW,e,b,?_,(t2.trans t3).trans t⟩
   have:=D.cQ
   rw[<-r]at this
   exact this
  .have w:=yb Z q
   rw[aj w]
   refine(Rb C rfl w B z Y hj ay aD).mono ?_
   rintro _ m4 ⟨aL,aq,ao,aa,Q,t⟩
   exact⟨t.dK M,aL,aq,ao,aa,Q,(t2.trans t3).trans t⟩
 refine⟨λQ I=>I=n/\(Q=true<->na x.op),⟨λq=>⟨rfl,by simp at q;simp[na,q]⟩,λq=>⟨λw=>⟨rfl,by simp at w;simp[na,w]⟩,λw=>⟨rfl,by simp at q w;simp[na,q,w]⟩⟩⟩,?_⟩
 rintro Q m3 ⟨rfl,aa⟩
 refine⟨λaq=>⟨s.bC,j.cQ.box.bV 5,s.bq,j.cQ.box.bV 6,λw=>?_,λw=>?_⟩,λao=>?_⟩
 .simp at w
  refine⟨j.cQ.mE (i:=3) aJ,?_⟩
  intro m4
  let⟨D,t⟩:=j.jw 3 [.i 1]
  refine⟨t.dK A,f,aW,e,b,?_,t2.trans t⟩
  rw[aj ⟨aa.1 aq,w⟩]
  have:=D.cQ
  rw[<-r]at this
  exact this
 .simp at w
  exact kj λt=>w t.2
 .exact kj λt=>by have:=aa.2 t.1;rw[ao]at this;simp at this
end
def lW{m:E}{p w:O}(B:eW m p w a)(t:iE a)(bq:Int):
 aM cq 48 [.agg #[O.v p,O.v w],vi bq] m λF e=>∃r,F=.agg #[vi 3,vi 0,vi 0,vi bq,O.v .nil,O.v .nil,O.v r]/\J m e/\∃b1 b2 b3 b4 k,r=.mk b4 0 1 1/\
  pG m e b1 b2 b3 k (br a 0 0 []).an (br a 0 0 []).aR (br a 0 0 []).aY/\(b4≠b1/\b4≠b2/\b4≠b3/\m.size<=b4/\b4<e.size)/\cx e b4 cL [.i 0,.i 0,.i 0,.s (.mk b1 0 k k),.s (.mk b2 0 k k),.s (.mk b3 0 k k)]:=by
 apply yP
 simp -zeta only[aC,aB]
 intro f g
 have u:J m g:=((J.aA m).aH _).aH _
 have D:f.size=m.size+1:=by simp[f]
 have L:g.size=m.size+2:=by simp[g,D]
 clear_value g
 have G:=t.nj.len
 let⟨q,l⟩:=cK a.cB 0
 have I:=(t.dx q (ar l)).an
 have n:dC a 0=q:=by simp[dC,l]
 refine(wj (B.ext u) (cX 0) l V 0).mono ?_
 rintro _ b ⟨b1,b2,b3,rfl,N⟩
 have j:=N.ext
 have H:=N.lo
 have K:=j.size
 refine⟨j.dv bI,_,_,_,_,_,_,rfl,?_⟩
 intro c o
 have s:J b c:=(J.aA b).aH _
 have M:c.size=b.size+1:=by simp[c]
 have P:o.size=c.size:=aw _ _ _ _
 have C:cx c b.size cL [.i 0,.i 0,.i 0,.s (.mk b1 0 q.an.toNat q.an.toNat),.s (.mk b2 0 q.an.toNat q.an.toNat),.s (.mk b3 0 q.an.toNat q.an.toNat)]:=cx.push b _ _
 have i:=N.PQ s
 have v:J m o:=(u.trans (j.trans s)).ag (show m.size<=f.size by omega) _ _
 have h:∀d,d≠f.size->o[d]? =c[d]? :=λd A=>bo _ _ _ _ A
 have z:(br a 0 0 []).an=df q.an.toNat:=by simp[br,n]
 have y:(br a 0 0 []).aR=df q.an.toNat:=by simp[br,n,dH]
 have x:(br a 0 0 []).aY=df q.an.toNat:=by simp[br,n]
 refine⟨_,rfl,v,b1,b2,b3,b.size,q.an.toNat,rfl,?_,V,C.congr (h _ V)⟩
 rw[z,y,x]
 exact⟨v,V,i.kr.congr (h _ V),i.ko.congr (h _ V),i.kh.congr (h _ V),N.len⟩
def NU{m d:E}{l:Nat}{MA:List Ce}{e:O}{bq:Int}{b1 b2 b3 b4 k b:Nat}(w:e=.mk b4 0 1 1)
 (N:pG m d b1 b2 b3 k (br a 0 0 []).an (br a 0 0 []).aR (br a 0 0 []).aY)(z:b4≠b1/\b4≠b2/\b4≠b3/\m.size<=b4/\b4<d.size)(y:cx d b4 cL [.i 0,.i 0,.i 0,.s (.mk b1 0 k k),.s (.mk b2 0 k k),.s (.mk b3 0 k k)])
 (B:m.size<=b/\b≠b1/\b≠b2/\b≠b3/\b≠b4)(kb:cx d b l (MA++[.i 3,.i 0,.i 0,.i bq,.s .nil,.s .nil,.s e])):
 qD m (pw (pw (mK (λ_=>0) b1 b2 b3 0) b4 4) b 1) d b l (MA++[.i 3,.i 0,.i 0,.i bq,.s .nil,.s .nil,.s e]) .nil .nil e [] [] [br a 0 0 []]:=by
 have A:=N.lo
 have x:J m d:=N.ext
 have C:=kb.lt
 have D:=N.ext.size
 have j:∀c,c≠b->c≠b4->(pw (pw (mK (λ_=>0) b1 b2 b3 0) b4 4) b 1) c=mK (λ_=>0) b1 b2 b3 0 c:=λc g i=>by rw[ez g,ez i]
 let⟨u,a2,a3⟩:=N.pD (a:=λ_=>0) (g:=0)
 have conv:∀{p:Nat}{s:O}{q:List Ce},iz (mK (λ_=>0) b1 b2 b3 0) d aD 1 p s q->s.D≠b->s.D≠b4->iz (pw (pw (mK (λ_=>0) b1 b2 b3 0) b4 4) b 1) d aD 1 p s q:=λt g i=>t.dP (λ_=>rfl) (λ_=>j _ g i)
 refine⟨x,λc v=>?_,λc v=>?_,kb,fR _ _ _,⟨aJ,aJ,Or.inl rfl⟩,⟨[],⟨aJ,aJ,Or.inl rfl⟩,gE.nil _ _,Xr.nil⟩,?_⟩
 .rw[j c V V];unfold mK;rw[ez V,ez V,ez V]
 .rw[j c V V];unfold mK;rw[ez V,ez V,ez V]
 .refine tm.uK (a:=[]) (f:=br a 0 0 []) (r:=.mk b1 0 k k) (e:=.mk b2 0 k k) (h:=.mk b3 0 k k) (j:=[]) ⟨?_,rfl,aJ,aJ,conv u (by simp only[O.jC];omega) (by simp only[O.jC];omega),conv a2 (by simp only[O.jC];omega) (by simp only[O.jC];omega),conv a3 (by simp only[O.jC];omega) (by simp only[O.jC];omega)⟩
  rw[w]
  refine⟨rfl,ad _,Or.inr ⟨b4,1,[],rfl,?_,?_,rfl⟩⟩
  .rw[ez V,fR]
  .rw[dN];exact y
def IN(a:cp):∀(c b:Nat)(s:St),ap a (c+b) s=ap a b (ap a c s)
 |0,b,s=>by simp[ap]
 |c+1,b,s=>by rw[Nat.succ_add];simp only[ap];exact IN a c b _
end
end Go.Proofs.YtkoifinbblcbiaaGreat
section
namespace Go.Vc
def vW{m:E}{b o:Nat}{v:Value}(h:(af m b o).isSome=true):af (rK m b o v) b o=some v:=by
 unfold af at h⊢;simp only[rK,lL,MC];cases d:m[b]? with
 |none=>rw[d]at h;simp at h
 |some f=>
  rw[d]at h;cases f with
  |cells c g i=>
   simp only[]at h;have e:o<c.size:=by
    rcases aZ o c.size with a|a
    .exact a
    .rw[IV a]at h;simp at h
   simp[e]
  |_=>simp at h
def KV{m:E}{c o a b:Nat}{v:Value}(h:a≠c\/b≠o):af (rK m c o v) a b=af m a b:=by
 by_cases d:a=c
 .subst d;have e:b≠o:=by rcases h with h|h;exact absurd rfl h;exact h
  unfold af;simp only[rK,lL,MC];cases d:m[a]? with
  |none=>rfl
  |some f=>
   cases f with
   |cells g i j=>simp[kJ e]
   |_=>rfl
 .exact aL (LJ _ _ _ _ d) _
def Q1(m:E)(c o:Nat)(v:Value)(a d:Nat):vV (rK m c o v) a d=vV m a d:=by
 by_cases b:a=c
 .subst b;unfold vV;simp only[rK,lL,MC];cases b:m[a]? with
  |none=>rfl
  |some e=>
   cases e with
   |cells f g h=>rfl
   |_=>rfl
 .unfold vV;rw[LJ _ _ _ _ b]
structure UP(m:E)(k:Int)(pos:List (Nat×Nat))(m':E):Prop where
 size:m.size<=m'.size
 D:∀b,b<m.size->(∀p∈pos,p.1≠b)->m'[b]? =m[b]?
 cell:∀b o,b<m.size->(b,o)∉pos->af m' b o=af m b o
 vV:∀b o,b<m.size->Vc.vV m' b o=Vc.vV m b o
 int:∀p∈pos,∃n,af m' p.1 p.2=some (vi n)
 val:pos.Nodup->∀(j:Nat)(p:Nat×Nat),pos[j]? =some p->af m' p.1 p.2=some (vi (k+j))
def UP.nil{m c:E}(h:J m c)(k:Int):UP m k [] c:=
 ⟨h.size,λb a _=>h.same b a,λb o a _=>aL (h.same b a) o,λb o a=>by unfold Vc.vV;rw[h.same b a],aJ,aJ⟩
def UP.kY{m:E}{b o:Nat}(h:(af m b o).isSome=true)(k:Int):UP m k [(b,o)] (ag m b o [.i k]):=by
 refine⟨uh (aw _ _ _ _).symm,λc f d=>bo _ _ _ _ λe=>d (b,o) aJ e.symm,λc q f d=>?_,λc q f=>Q1 _ _ _ _ _ _,λp a=>?_,λ_ j p a=>?_⟩
 .refine KV ?_;by_cases e:c=b
  .right;intro g;subst e;subst g;simp at d
  .exact Or.inl e
 .simp at a;subst a;exact⟨k,vW h⟩
 .cases j with
  |zero=>
   simp at a;subst a;have e:k+((0:Nat):Int)=k:=V;rw[e];exact vW h
  |succ j=>simp at a
def UP.trans{m l n:E}{k:Int}{e p2:List (Nat×Nat)}(h:UP m k e l)(g:UP l (k+e.length) p2 n):UP m k (e++p2) n:=by
 have v:=h.size;refine⟨bX h.size g.size,λc f b=>?_,λc o f b=>?_,λc o f=>?_,λp a=>?_,λhd j p a=>?_⟩
 .rw[g.D c V λp a=>b p (fL _ a),h.D c f λp a=>b p (bL _ a)]
 .rw[g.cell c o V λa=>b (fL _ a),h.cell c o f λa=>b (bL _ a)]
 .rw[g.vV c o V,h.vV c o f]
 .by_cases i:p∈p2
  .exact g.int p i
  .have d:p∈e:=by rcases List.mem_append.1 a with d|d;exact d;exact absurd d i
   let⟨q,b⟩:=h.int p d;exact⟨q,by rw[g.cell p.1 p.2 (mW b) i];exact b⟩
 .let⟨i,r,s⟩:=List.nodup_append.1 hd;by_cases u:j<e.length
  .rw[ax u]at a;have d:p∈e:=ij a;let⟨q,b⟩:=h.int p d;rw[g.cell p.1 p.2 (mW b) λt=>s p d p t rfl];exact h.val i j p a
  .rw[aF V]at a;have:=g.val r _ p a;have d:k+(e.length:Int)+((j -e.length:Nat):Int)=k+j:=V;rw[d]at this;exact this
inductive UQ where
 |nil
 |int (r:UQ)
 |sl (e r:UQ)
def UQ.size:UQ->Nat
 | .nil=>0
 | .int r=>r.size+1
 | .sl _ r=>r.size+1
inductive Tv where
 |iF (r:UQ)
 |HY (e:UQ) (n:Nat)
inductive vS(m:E):Tv->Nat->Nat->List (Nat×Nat)->Prop where
 |nil (b o:Nat):vS m (.iF .nil) b o []
 |int {b o:Nat} {r:UQ} {p:List (Nat×Nat)} {n:Int} (h:af m b o=some (vi n)) (hf:Vc.vV m b o=false) (hr:vS m (.iF r) b (o+1) p):vS m (.iF (.int r)) b o ((b,o)::p)
 |sl {b o:Nat} {e r:UQ} {p1 p2:List (Nat×Nat)} {s:O} (h:af m b o=some (O.v s)) (hl:s.len<=9223372036854775807) (he:vS m (.HY e s.len) s.D s.off p1) (hr:vS m (.iF r) b (o+1) p2):vS m (.iF (.sl e r)) b o (p1++p2)
 |zero (e:UQ) (b o:Nat):vS m (.HY e 0) b o []
 |succ {b o n:Nat} {e:UQ} {p1 p2:List (Nat×Nat)} (he:vS m (.iF e) b o p1) (hr:vS m (.HY e n) b (o+e.size) p2):vS m (.HY e (n+1)) b o (p1++p2)
def vS.nU{m:E}{K:Tv}{f o:Nat}{e:List (Nat×Nat)}(h:vS m K f o e):∀p∈e,∃n,af m p.1 p.2=some (vi n):=by
 induction h with
 |nil=>simp
 |int h c d b=>
  intro p a;rcases List.mem_cons.1 a with rfl|a
  .exact⟨_,h⟩
  .exact b p a
 |sl h i g d b c=>
  intro p a;rcases List.mem_append.1 a with a|a
  .exact b p a
  .exact c p a
 |zero=>simp
 |succ g d b c=>
  intro p a;rcases List.mem_append.1 a with a|a
  .exact b p a
  .exact c p a
def vS.lt{m:E}{K:Tv}{b o:Nat}{a:List (Nat×Nat)}(h:vS m K b o a):∀p∈a,p.1<m.size:=λp d=>let⟨_,c⟩:=h.nU p d;mW c
def UG(n:Int)(s:O):vi n≠O.v s:=by cases s<;>simp[vi,O.v]
def vS.Vq{m j:E}{u:Int}{q:List (Nat×Nat)}(g:UP m u q j)(t:∀p∈q,∃n,af m p.1 p.2=some (vi n)){K:Tv}{b o:Nat}{k:List (Nat×Nat)}(h:vS m K b o k):vS j K b o k:=by
 induction h with
 |nil=>exact .nil _ _
 | @int b o v p n h d i e=>
  have a:=mW h;by_cases c:(b,o)∈q
  .let⟨l,f⟩:=g.int _ c;exact .int f (by rw[g.vV b o a];exact d) e
  .exact .int (by rw[g.cell b o a c];exact h) (by rw[g.vV b o a];exact d) e
 | @sl b o w v x p2 l h r p i d e=>
  have a:=mW h;refine .sl (s:=l) ?_ r d e;rw[g.cell b o a λc=>?_]
  .exact h
  .let⟨n,f⟩:=t _ c;rw[h]at f;exact UG n l (mq f).symm
 |zero=>exact .zero _ _ _
 |succ p i d e=>exact .succ d e
def vS.ext{m a:E}(d:J m a){K:Tv}{b o:Nat}{c:List (Nat×Nat)}(h:vS m K b o c):vS a K b o c:=h.Vq (UP.nil d 0) aJ
end Go.Vc
namespace Go.Proofs.YtkoifinbblcbiaaGreat
open Go.Vc
end Go.Proofs.YtkoifinbblcbiaaGreat
end
namespace Go.Proofs.YtkoifinbblcbiaaGreat
open Go.Vc
section
section
variable{m:E}{s t:O}{l r:List Int}
end
section
variable{m:E}{b P:Nat}{c:O}{a:List Nat}
def Kc(d:Rd b c P m)(i:P+2<=10^16):aM cq 82 [vp b 0] m λv f=>(∃k,v=vi k)/\Fz [b] m f:=by
 apply Da (b,0);refine(cC d V 12).mono λ_ j⟨k,e,_,_,g,a⟩=>⟨k,e,?_⟩;intro l;refine(Dt (Rs.mk a g) V [40,40,k,0,3,20,40,41,-1] rfl rfl aJ).mono λ_ n⟨t,e,_,h,_⟩=>⟨t,e,⟨t,rfl⟩,h.f⟩
def Fp.ext{a:E}{da:O}(h:Fp m da)(x:J m a):Fp a da:=⟨h.1,λk d=>let⟨v,b,c,g⟩:=h.2 k d;⟨v,b,c,x.af g⟩⟩
def DR(a:List Nat)(m:E)(v:Value)(b:E):Prop:=∃d p c k,v=.tuple #[.agg #[O.v d,O.v p],vi k]/\eW (bO a b) d p c/\J m b
def yU{da:O}(h:Fp m da)(D:∀k∈a,k<m.size):aM cq 47 [O.v da] m (DR a m):=by
 apply uv;simp -zeta only[aC,aB];intro b;have n:J m b:=J.push m _;have N:b.size=m.size+1:=by simp[b]
 clear_value b;refine(Iv (h.ext n)).mono λ_ M⟨c,e,y,o⟩=>⟨o.dv bI,(b.size,0),e,?_⟩;have L:=y.lt;have P:=o.size;refine(JK (a:=m.size::b.size::a) (λk t=>?_) aJ y (by simp[Cg])).mono λ_ i⟨q,x,A,e,z,_,I,l⟩=>⟨l.dv bI,q,x,e,?_⟩
 .simp only[aS]at t;rcases t with h|h|h
  .omega
  .omega
  .have:=D k h;omega
 have Q:=l.size;intro F j;have p:J i j:=(J.push i _).ag (ad _) _ _;have R:j.size=i.size+1:=by simp[j,F,aw]
 clear_value j;refine(Kc (I.ext p) (by simp[Cg])).mono λ_ w⟨⟨u,e⟩,d⟩=>⟨d.dv bI,u,e,aL (d.same _ V bI) _,aL (d.same _ V bI) _,?_⟩;intro G;have v:Le (bO (m.size::b.size::a) i) (bO a G):=λf H K E=>by
  let⟨g,C⟩:=eF.1 E;have:=d.dg (S:=m.size::b.size::a) aJ f H K (eF.2 ⟨g,p.af C⟩);simp only[aS,ui]at g;exact eF.2 ⟨g.2.2,(aL (bo _ _ _ _ g.1) _).trans (eF.1 this).2⟩
 have r:Fz [b.size] b w:=(((o.fz _).trans l).trans (p.fz _)).trans d;have B:J m w:=⟨by have:=r.size;omega,λf s=>(r.same f (n.lt s) bI).trans (n.same f s)⟩;exact⟨q,x,⟨A.1,A.2⟩,u,rfl,⟨z.1.le v,jA.le v z.2⟩,B.ag (ad _) _ _⟩
end
end
section
variable{n b:Nat}{f:Nat->Int}{d:List aU}{e:cp}{s:St}
def yB(n:Nat)(f:Nat->Int):List Int:=(List.range n).map f
def rq(n:Nat)(f:Nat->Int):(yB n f).length=n:=by simp[yB]
def Ha(h:b<n):(yB n f)[b]? =some (f b):=by
 unfold yB;rw[cU,List.getElem?_range h];rfl
def jL{g:Nat->Int}(h:∀b,b<n->f b=g b):yB n f=yB n g:=by
 unfold yB;exact List.map_congr_left λb a=>h b (List.mem_range.1 a)
def Sp(v:Int):(yB n f).set b v=yB n (λa=>if a=b then v else f a):=by
 apply iL;intro i;by_cases a:i<n
 .rw[Ha a];by_cases e:b=i
  .subst e;rw[dJ (by rw[rq];exact a),aj rfl]
  .rw[cz e,Ha a,ae (λh=>e h.symm)]
 .rw[cZ (by rw[eE,rq];omega),cZ (by rw[rq];omega)]
def Ta(n:Nat):yB n (λ_=>0)=df n:=by
 unfold yB df;rw[List.map_const'];simp
structure QL(h:List bP):Prop where
 jM:pL h
 cells:∀c∈h,xe h c
 fI:∀(b:Nat)(c:bP),h[b]? =some c->0<c.aQ->fI h b<=c.aQ
 Ok:Xf h
structure TC(h:List bP)(f:aU):Prop where
 dx:∀(k:Nat)(w o:Int),f.an[k]? =some w->f.aR[k]? =some o->(iJ w\/1000<=w)/\(0<=o/\o<=999999)/\(0<o->gC h w)
structure Tp(e:cp)(h:List bP)(prev:Option aU)(f:aU):Prop where
 eg:0<=f.eg/\f.eg<e.cB.length
 pc:0<=f.pc/\f.pc<(dC e f.eg).da.length
 lr:(f.an.length:Int)=(dC e f.eg).an
 lo:(f.aR.length:Int)=(dC e f.eg).an
 lh:(f.aY.length:Int)=(dC e f.eg).an
 an:TC h f
 first:prev=none->f.dst=0
 next:∀p,prev=some p->0<=f.dst/\f.dst<p.aR.length/\aG p.aR f.dst=0
def Aj(d:List aU):Nat->Option aU
 |0=>none
 |k+1=>d[k]?
structure Xm(h:List bP)(d:List aU):Prop where
 cN:∀f∈d,∀w∈f.aY,w=0\/(1000<=w/\ix w<h.length)
 lE:∀(i:Nat)(c:bP),h[i]? =some c->c.aQ<0->eS d i=1
 nM:∀(i:Nat)(c:bP),h[i]? =some c->0<=c.aQ->eS d i=0
structure Pt(e:cp)(s:St):Prop where
 fy:iE e
 bJ:0<=s.bJ/\s.bJ<=3
 done:s.bJ=0<->s.av=[]
 value:iJ s.value
 vH:s.value≠0->s.bJ=0
 bq:0<=s.bq/\s.bq<=40
 bC:0<=s.bC/\s.bC<=s.bq
 depth:(s.av.length:Int)<=s.bC+1
 aW:∀n∈s.aW,iJ n
 heap:QL s.heap
 av:∀(k:Nat)(f:aU),s.av[k]? =some f->Tp e s.heap (Aj s.av k) f
 aY:Xm s.heap s.av
 Ua:∀(b:Nat)(c:bP),s.heap[b]? =some c->0<c.aQ->c.aQ=fI s.heap b+gU s.av b
def Qa:∀{d:List aU}{b:Nat},0<gU d b->∃f∈d,0<dq f.an f.aR b
 |[],b,h=>by simp[gU]at h
 |f::d,b,h=>by
  simp only[gU]at h;by_cases c:0<dq f.an f.aR b
  .exact⟨f,aJ,c⟩
  .let⟨g,e,i⟩:=Qa (d:=d) (b:=b) V;exact⟨g,by simp[e],i⟩
def NJ:∀{an aR:List Int}{b:Nat},0<dq an aR b->∃(k:Nat)(o:Int),an[k]? =some (1000+(b:Int))/\aR[k]? =some o/\0<o
 |[],aR,b,h=>by simp[dq]at h
 |_::_,[],b,h=>by simp[dq]at h
 |r::i,o::g,b,h=>by
  simp only[dq]at h;by_cases a:r=1000+(b:Int)/\0<o
  .exact⟨0,o,by simp[a.1],rfl,a.2⟩
  .have:0<dq i g b:=by
    split at h
    .rename_i e;have:¬0<o:=λc=>a ⟨e,c⟩;omega
    .omega
   let⟨k,f,c,d,e⟩:=NJ this;exact⟨k+1,f,by simpa using c,by simpa using d,e⟩
def Vv{f:aU}(a:f∈d)(c:∀g∈d,0<=dq g.an g.aR b):dq f.an f.aR b<=gU d b:=by
 induction d with
 |nil=>simp at a
 |cons g d i=>
  have m:0<=gU d b:=by
   clear i a;induction d with
   |nil=>simp[gU]
   |cons q d j=>
    have k:=c q aJ;have l:=j (λx e=>c x (by simp at e⊢;rcases e with h|h;exact Or.inl h;exact Or.inr (Or.inr h)));simp only[gU];omega
  simp only[gU];rcases List.mem_cons.1 a with rfl|a
  .omega
  .have:=i a λx e=>c x (by simp[e]);have:=c g aJ;omega
def Uo(a:∀g∈d,0<=dq g.an g.aR b):0<=gU d b:=by
 induction d with
 |nil=>simp[gU]
 |cons q d e=>
  have f:=a q aJ;have g:=e λx c=>a x (by simp[c]);simp only[gU];omega
def PY{f:aU}(a:f∈d):eQ f.aY b<=eS d b:=by
 induction d with
 |nil=>simp at a
 |cons g d c=>
  simp only[eS];rcases List.mem_cons.1 a with rfl|a
  .have:=zT d b;omega
  .have:=c a;have:=iU g.aY b;omega
def K6(h:∀f∈d,∀w∈f.aY,w≠1000+(b:Int)):eS d b=0:=by
 induction d with
 |nil=>rfl
 |cons g d e=>
  simp only[eS];rw[e λf a=>h f (by simp[a]),nX λc=>h g aJ _ c rfl];rfl
def HL{f:aU}(h:f∈d):∃k:Nat,d[k]? =some f:=List.mem_iff_getElem?.1 h
def Rx(h:Pt e s):de e s:=by
 have r:∀f∈s.av,∃p,Tp e s.heap p f:=λf c=>let⟨k,g⟩:=HL c;⟨_,h.av k f g⟩;have z:∀b,∀j∈s.av,0<=dq j.an j.aR b:=λb j t=>by
  let⟨p,a⟩:=r j t;refine tJ (λo l=>?_) b;let⟨k,g⟩:=List.mem_iff_getElem?.1 l;have u:=az g;have d:=a.lr;have q:=a.lo;let⟨w,i⟩:=cK j.an k;exact(a.an.dx k w o i g).2.1.1
 refine⟨h.fy,h.bJ,h.done,h.value,h.vH,h.bq,h.bC,h.depth,h.aW,⟨h.heap.cells,h.heap.Ok,h.Ua,λb=>Uo (z b),λb y=>?_⟩,h.heap.jM,λf c=>?_,λf c=>(h.av 0 f c).first rfl,λk f j c t=>(h.av (k+1) j t).next f c,λb⟨m,n,v⟩=>h.aY.lE b m n v,λb g=>?_⟩
 .let⟨f,c,a⟩:=Qa y;let⟨k,o,d,q,x⟩:=NJ a;let⟨p,a⟩:=r f c;have:=((a.an.dx k _ o d q).2.2 x).2;rwa[ng]at this
 .let⟨p,a⟩:=r f c;refine⟨a.eg,a.pc,a.lr,a.lo,a.lh,λw i=>?_,λk o w l i=>?_,λw i=>?_⟩
  .let⟨k,g⟩:=List.mem_iff_getElem?.1 i;have u:=az g;have d:=a.lr;have q:=a.lo;let⟨o,l⟩:=cK f.aR k;exact(a.an.dx k w o g l).1
  .have:=a.an.dx k w o i l;exact⟨this.2.1.1,λx=>(this.2.2 x).1⟩
  .rcases h.aY.cN f c w i with d|d
   .exact Or.inl d
   .exact Or.inr d.1
 .rcases aZ b s.heap.length with u|A
  .let⟨m,n⟩:=dZ u;refine h.aY.nM b m n (Int.not_lt.1 λv=>g ⟨m,n,v⟩)
  .refine K6 λf c w i x=>?_;rcases h.aY.cN f c w i with d|d
   .omega
   .have:=d.2;rw[x,ng]at this;omega
def TN(h:de e s):Pt e s:=by
 have E:∀b,∀p∈s.av,0<=dq p.an p.aR b:=λb p D=>tJ (h.av p D).P9 b;have y:∀f∈s.av,∀(k:Nat)(w o:Int),f.an[k]? =some w->f.aR[k]? =some o->0<o->gC s.heap w/\o<=999999:=λf g k w o i n q=>by
  have m:=((h.av f g).aR k o w n i).2 q;have A:=iV m;have B:=Lr (h.av f g).P9 i n (d:=ix w) A.symm;have C:=Vv g (E (ix w));have x:=h.heap.lv (ix w) V;let⟨j,d,c⟩:=x;have I:=h.heap.ex _ j d c;have J:=uS s.heap (ix w);have K:=(h.heap.cell j (ar d)).hi;exact⟨⟨m,j,d,c⟩,V⟩
 refine⟨h.fy,h.bJ,h.done,h.value,h.vH,h.bq,h.bC,h.depth,h.aW,⟨h.jM,h.heap.cell,λb j d c=>?_,h.heap.Ok⟩,λk f g=>?_,⟨λf g w i=>?_,λu j d z=>h.lE u ⟨j,d,z⟩,λu j d z=>h.nM u λ⟨H,r,L⟩=>?_⟩,h.heap.ex⟩
 .have:=h.heap.ex b j d c;have:=h.heap.nn b;omega
 .have t:=ar g;have F:=h.av f t;refine⟨F.eg,F.pc,F.lr,F.lo,F.lh,⟨λv w o i n=>⟨F.Si w (ar i),⟨(F.aR v o w n i).1,?_⟩,λc=>(y f t v w o i n c).1⟩⟩,λc=>?_,λG c=>?_⟩
  .rcases IW 0 o with q|q
   .exact(y f t v w o i n q).2
   .omega
  .cases k with
   |zero=>exact h.first f g
   |succ k=>
    simp only[Aj]at c;have:=az g;rw[List.getElem?_eq_none_iff]at c;omega
  .cases k with
   |zero=>simp[Aj]at c
   |succ k=>exact h.chain k G f c g
 .rcases(h.av f g).aY w i with m|m
  .exact Or.inl m
  .refine Or.inr ⟨m,Nat.lt_of_not_le λt=>?_⟩;have B:=h.nM (ix w) λ⟨j,d,_⟩=>by have:=az d;omega
   have C:=PY g (b:=ix w);have x:=uP (l:=f.aY) (f:=ix w) (by rw[iV m];exact i);omega
 .rw[d]at r;simp at r;subst r;omega
end
section
variable{M:E}{b n a:Nat}{f:Nat->Int}
def MD(w:Int):Prop:=-9223372036854775808<=w/\w<=9223372036854775807
def Yr(h:List bP):Prop:=∀c∈h,∀w∈c.aN,MD w
def Fj(B:cx M b aD ((yB n f).map Ce.i))(h:a<n):af M b a=some (vi (f a)):=by
 rw[B.bV a,cU,Ha h];rfl
def Rz(B:cx M b aD ((yB n f).map Ce.i))(a:Nat)(v:Int):cx (ag M b a [.i v]) b aD ((yB n (λx=>if x=a then v else f x)).map Ce.i):=by
 have:=B.ag (m:=M) (o:=a) (r:=[.i v]);rw[Aq,Sp]at this;exact this
def UA(B:cx M b aD ((yB n f).map Ce.i))(h:a<n):eC M b a 1:=B.eC (by simp[rq];omega)
def VB(B:cx M b aD ((yB n f).map Ce.i))(h:n<=9223372036854775807):aq M (.mk b 0 n n) (yB n f):=
 ⟨by simp[rq],ad _,h,λk x a=>⟨[.i x],rfl,λi e c=>by
  have d:k<n:=by have:=az a;rwa[rq]at this
  rw[Ha d]at a;simp at a;cases i with
  |zero=>simp at c;subst c;have:=Fj B d;rw[a]at this;simpa[Ce.v]using this
  |succ i=>simp at c⟩⟩
def Uz(M:E)(n:Nat):cx (M.push (.cells (bA (nF [.i (0:Int)] n)) aD)) M.size aD ((yB n (λ_=>0)).map Ce.i):=by
 rw[ud,Ta];exact cx.push M _ _
def SW{h:List bP}{i:Nat}{c:bP}(b:h[i]? =some c)(a:Nat):fI (h.take (i+1)) a=fI (h.take i) a+eQ c.aN a:=by
 rw[bd b,uR];simp[fI]
def Gh{l:List Int}{k:Nat}{w:Int}(b:l[k]? =some w)(a:Nat):eQ (l.take (k+1)) a=eQ (l.take k) a+(if w=1000+(a:Int)then 1 else 0):=by
 rw[bd b,lY];simp[eQ]
def Ko:∀(h:List bP)(a:Nat),(∀c∈h,c.aN.length<=3)->fI h a<=3*h.length
 |[],a,_=>by simp[fI]
 |c::h,a,b=>by
  have e:=Ko h a λd hd=>b d (by simp[hd]);have f:=lZ c.aN a;have g:=b c aJ;simp only[fI,aV];omega
end
section
variable{a b:Nat}
def sj(mk:Nat->Bool):Nat->Nat
 |0=>0
 |n+1=>sj mk n+(if mk n=true then 1 else 0)
def Ki(mk:Nat->Bool):∀n,sj mk n<=n
 |0=>ad _
 |n+1=>by have:=Ki mk n;simp only[sj];split<;>omega
def PG{mk:Nat->Bool}:∀{a:Nat},(sj mk a=a<->∀i,i<a->mk i=true)
 |0=>by simp[sj]
 |a+1=>by
  have g:=Ki mk a;have b:=PG (mk:=mk) (a:=a);simp only[sj];constructor
  .intro h i f;have c:mk a=true:=by by_cases e:mk a=true;exact e;rw[ae e]at h;omega
   rw[aj c]at h;rcases aZ i a with d|d
   .exact b.1 V i d
   .have:i=a:=V;rw[this];exact c
  .intro h;rw[aj (h a V),b.2 λi f=>h i V]
def KJ{mk a:Nat->Bool}:∀{n:Nat},(∀i,i<n->mk i=a i)->sj mk n=sj a n
 |0,_=>rfl
 |n+1,h=>by simp only[sj];rw[KJ λi b=>h i V,h n V]
def og(mk:Nat->Bool)(a:Nat):Nat->Bool:=λx=>if x=a then true else mk x
def H9(mk:Nat->Bool)(a:Nat):og mk a a=true:=aj rfl
def rl{mk:Nat->Bool}(h:b≠a):og mk a b=mk b:=ae h
def BV{mk:Nat->Bool}(h:mk b=true):og mk a b=true:=by unfold og;split;rfl;exact h
def FD{mk:Nat->Bool}{a:Nat}(h:mk a=false):∀{n:Nat},a<n->sj (og mk a) n=sj mk n+1
 |0,c=>absurd c (iv _)
 |n+1,c=>by
  simp only[sj];rcases aZ a n with b|b
  .rw[FD h b,rl V];omega
  .have e:a=n:=V;subst e;rw[H9,aj rfl,h,ae aJ,KJ (a:=mk) λi d=>rl V]
def Tw(h:List bP)(mk:Nat->Bool):Prop:=
 ∃t:Nat->Nat,(∀j,mk j=true->t j<=sj mk h.length)/\∀(i:Nat)(c:bP),h[i]? =some c->mk i=true->∀w∈c.aN,1000<=w->mk (ix w)=true/\t (ix w)<t i
def ZP(mk:Nat->Bool)(a:List Int):Prop:=∀w∈a,1000<=w->mk (ix w)=true
def Tw.set{h:List bP}{mk:Nat->Bool}(u:Tw h mk){j:bP}(l:h[a]? =some j)(e:mk a=false)(s:ZP mk j.aN):Tw h (og mk a):=by
 let⟨z,k,r⟩:=u;have t:=az l;have q:=FD e t;refine⟨λx=>if x=a then sj mk h.length+1 else z x,λv n=>?_,λi d hd m w p o=>?_⟩
 .simp only[q];split
  .omega
  .rename_i b;rw[rl b]at n;have:=k v n;omega
 .by_cases f:i=a
  .subst f;rw[l]at hd;simp at hd;subst hd;have b:=s w p o;have g:ix w≠i:=λc=>by rw[c,e]at b;cases b
   simp only[aj,ae g];exact⟨BV b,oh (k _ b)⟩
  .rw[rl f]at m;let⟨b,y⟩:=r i d hd m w p o;have g:ix w≠a:=λc=>by rw[c,e]at b;cases b
   simp only[ae f,ae g];exact⟨BV b,y⟩
end
structure gR(m:E)(aW hp fr:O)(s:St):Prop where
 aW:aq m aW s.aW
 heap:dR m hp s.heap
 av:lS m fr s.av
def gR.ext{m d:E}{aW c b:O}{s:St}(h:gR m aW c b s)(a:J m d):gR d aW c b s:=⟨h.aW.ext a,dR.ext a h.heap,lS.ext a h.av⟩
def UZ(f:aU):Prop:=(∀w∈f.an,MD w)/\(∀w∈f.aR,MD w)/\(∀w∈f.aY,MD w)
structure Oe(s:St):Prop where
 bC:MD s.bC
 heap:Yr s.heap
 av:∀f∈s.av,UZ f
 lh:s.heap.length<=10000000
 lf:s.av.length<=10000000
 lr:∀f∈s.av,f.an.length<=10000000/\f.aR.length<=10000000/\f.aY.length<=10000000
def UT(s:St)(aW b a:O):Value:=.agg #[vi s.bJ,vi s.value,vi s.bC,vi s.bq,O.v aW,O.v b,O.v a]
section
variable{a:List aU}{i:Nat}{f:aU}
def Ra(c:a[i]? =some f)(b:Nat):eS (a.take (i+1)) b=eS (a.take i) b+eQ f.aY b:=by
 rw[bd c,eI,iZ]
def SS(c:a[i]? =some f)(b:Nat):gU (a.take (i+1)) b=gU (a.take i) b+dq f.an f.aR b:=by
 rw[bd c,fW,kT]
def Ee:∀{an aR:List Int}{a:Nat}{w o:Int},an[a]? =some w->aR[a]? =some o->∀b,dq (an.take (a+1)) (aR.take (a+1)) b=dq (an.take a) (aR.take a) b+(if w=1000+(b:Int)then o else 0)
 |[],_,_,_,_,h,_,_=>by simp at h
 |_::_,[],_,_,_,_,h,_=>by simp at h
 |r::f,p::e,0,w,o,c,d,b=>by simp at c d;subst c;subst d;simp[dq]
 |r::f,p::e,a+1,w,o,c,d,b=>by
  have:=Ee (an:=f) (aR:=e) (a:=a) (by simpa using c) (by simpa using d) b;simp only[Nm,dq]at this⊢;omega
def PZ:∀{a:List aU}{n:Nat},(∀f∈a,f.aY.length<=n)->∀b,eS a b<=a.length*n
 |[],n,_,b=>by simp[eS]
 |f::a,n,h,b=>by
  have c:=PZ (a:=a) λg d=>h g (by simp[d]);have e:=c b;have i:=lZ f.aY b;have j:=h f aJ;simp only[eS,aV];have:((a.length+1:Nat):Int)*n=a.length*n+n:=by push_cast;rw[ZA];omega
  omega
def Lt:∀{an aR:List Int}{n:Int},0<=n->(∀o∈aR,0<=o/\o<=n)->∀a,0<=dq an aR a/\dq an aR a<=aR.length*n
 |[],aR,n,b,h,a=>by simp[dq];exact Int.mul_nonneg V b
 |_::_,[],n,b,h,a=>by simp[dq]
 |r::e,o::c,n,b,h,a=>by
  have f:=Lt (an:=e) (aR:=c) b (λx d=>h x (by simp[d])) a;have d:=h o aJ;have:((c.length+1:Nat):Int)*n=c.length*n+n:=by push_cast;rw[ZA];omega
  simp only[dq,aV];split<;>omega
def Sf:∀{a:List aU}{n:Nat}{k:Int},0<=k->(∀f∈a,f.aR.length<=n/\∀o∈f.aR,0<=o/\o<=k)->∀b,0<=gU a b/\gU a b<=a.length*(n*k)
 |[],n,k,_,_,b=>by simp[gU]
 |f::a,n,k,c,h,b=>by
  have e:=Sf (a:=a) c (λg d=>h g (by simp[d])) b;let⟨j,d⟩:=h f aJ;have g:=Lt (an:=f.an) c d b;have i:(f.aR.length:Int)*k<=n*k:=Int.mul_le_mul_of_nonneg_right V c;have:((a.length+1:Nat):Int)*(n*k)=a.length*(n*k)+n*k:=by push_cast;rw[ZA];omega
  simp only[gU,aV];omega
section
variable{m:E}{d p aW c b:O}{e:cp}{s:St}
end
end
section
def PC(a:Int):(a==(0:Int))=decide (a=0):=by by_cases h:a=0<;>simp[h]
def PB(a b:Int):(!((a==(0:Int))==(b==(0:Int))))=false<->(a=0<->b=0):=by
 rw[PC,PC];by_cases c:a=0<;>by_cases d:b=0<;>simp[c,d]
section
variable{m:E}{d p aW b a:O}{c:cp}{s:St}
structure Ys(h:List bP)(fs:List aU):Prop where
 len:∀f∈fs,f.aR.length=f.an.length
 an:∀f∈fs,TC h f
def Ys.aR{h:List bP}{a:List aU}(H:Ys h a){f:aU}(b:f∈a):∀o∈f.aR,0<=o/\o<=999999:=λo d=>by
 let⟨k,c⟩:=List.mem_iff_getElem?.1 d;let⟨w,e⟩:=cK f.an k (P7 (az c) (H.len f b));exact((H.an f b).dx k w o e c).2.1
end
end
section
variable{m:E}{b:List bP}{w:Int}{d:bP}{a:Nat}{W:List Nat}{e:Nat->Int}
def rc(n:Int)(m:E):dT cq 76 [vi n] m (iJ n):=by
 apply HF;refine⟨λb=>fJ ?_ (J.aA _),λb=>cT (λa=>?_) (J.aA _)⟩
 .simp at b;simp[iJ,b]
 .simp at b;have:=a.1;omega
def Gb{f:O}(d:dR m f b)(j:MD w):dT cq 196 [O.v f,vi w] m (tD b w):=by
 apply Ae;refine(hO d j.2).mono ?_;rintro _ k ⟨a,h,rfl,e,_,g⟩;refine⟨a,h,rfl,λc=>jV (Or.inr (e.1 c)) g,λc=>?_⟩;refine(rc w k).then λb2 n i l=>⟨b2,rfl,fJ ?_ (g.trans l)⟩;rw[i];exact⟨Or.inl,λd=>d.resolve_right (fb e c)⟩
structure IZ(b:List bP)(d:bP):Prop where
 lo: -1<=d.aQ
 kH:0<=d.kH/\d.kH<=99
 fl:d.aN.length<=3
 DO:d.aQ<1->d.kH=0
 jb:d.aQ=0->d.aN=[]
 cN:∀w∈d.aN,tD b w/\(d.aQ<0->w=0)
def IZ.ok(a:IZ b d)(e:d.aQ<=999999):xe b d:=
 ⟨a.fl,a.lo,e,λhd=>⟨a.DO hd,λw c=>by
  by_cases f:d.aQ<0
  .exact(a.cN w c).2 f
  .rw[a.jb V]at c;simp at c,a.jb⟩,λ_=>⟨λw c=>(a.cN w c).1,a.kH⟩⟩
def xe.v(a:xe b d):IZ b d:=by
 refine⟨a.lo,?_,a.fl,λhd=>(a.DO hd).1,λf=>(a.DO V).2.2 f,λw e=>⟨?_,λg=>(a.DO V).2.1 w e⟩⟩
 .by_cases c:0<d.aQ
  .exact(a.ry c).2
  .have:=(a.DO V).1;omega
 .by_cases c:0<d.aQ
  .exact(a.ry c).1 w e
  .have:=(a.DO V).2.1 w e;exact Or.inl (by subst this;exact⟨be,be⟩)
def IZ.cases(c:IZ b d)(e:w∈d.aN):gC b w\/w<1000:=by
 rcases(c.cN w e).1 with a|a
 .have:=a.2;exact Or.inr V
 .exact Or.inl a
def FO{z j:O}(E:dR m z b)(x:aq m j d.aN)(G:∀w∈d.aN,MD w):dT cq 152 [O.v z,.agg #[vi d.aQ,vi d.kH,O.v j]] m (IZ b d):=by
 apply zX;simp -zeta only[aC,aB];intro e;have f:J m e:=(J.aA m).aH _;have N:e.size=m.size+1:=by simp[e]
 clear_value e;have y:=x.len;have F:∀C∈[m.size],C<e.size:=bI;refine⟨λk=>cT (λc=>by have:=c.lo;simp at k;omega) f,λk=>⟨λl=>cT (λc=>by have:=c.kH;simp at l;omega) f,λl=>⟨λo=>cT (λc=>by have:=c.kH;simp at o;omega) f,λo=>⟨λr=>cT (λc=>by have:=c.fl;simp at r;omega) f,λr=>?_⟩⟩⟩⟩;simp at k l o r;refine⟨λM=>M=e/\(d.aQ<1->d.kH=0)/\(d.aQ=0->d.aN=[]),?_,?_⟩
 .have zero:(d.aQ<1->d.kH=0)->((d.aQ==(0:Int))=true->((decide ((j.len:Int)>(0:Int)))=true->∃a:Bool,vb false=.bool a/\(a=true<->IZ b d)/\J m e)/\
   ((decide ((j.len:Int)>(0:Int)))=false->e=e/\(d.aQ<1->d.kH=0)/\(d.aQ=0->d.aN=[])))/\((d.aQ==(0:Int))=false->e=e/\(d.aQ<1->d.kH=0)/\(d.aQ=0->d.aN=[])):=λh=>
   ⟨λg=>⟨λa=>cT (λc=>by have:=c.jb (by simpa using g);rw[this]at y;simp at a y;omega) f,λa=>⟨rfl,h,λ_=>List.length_eq_zero_iff.1 (by simp at a;omega)⟩⟩,λg=>⟨rfl,h,λa=>by simp at g;exact absurd a g⟩⟩
  refine⟨λg=>⟨λa=>cT (λc=>by have:=c.DO (by simpa using g);simp at a;exact a this) f,λa=>zero λ_=>by simpa using a⟩,λg=>zero λa=>by simp at g;omega⟩
 .rintro H ⟨rfl,hd,D⟩;refine fm (n:=d.aN.length) V (λv h=>J H h/\∀w∈d.aN.take v,tD b w/\(d.aQ<0->w=0)) ⟨J.aA _,aJ⟩ ?_;rintro v L I μ K ⟨q,u⟩ B
  refine dit (λg=>?_) λg=>?_
  .let⟨w,h⟩:=cK d.aN v;refine⟨V,V,w,by simpa using(x.ext (f.trans q)).aG h,(Gb (dR.ext (f.trans q) E) (G w (ar h))).aK q F λb4 A t P p=>⟨b4,rfl,λa=>cT (λc=>nb t a (c.cN w (ar h)).1) (f.trans p),λa=>⟨λs=>⟨λi=>cT (λc=>?_) (f.trans p),λi=>B V A ⟨p,bY h u ⟨yb t a,λ_=>by simpa using i⟩⟩⟩,λs=>B V A ⟨p,bY h u ⟨yb t a,λi=>by simp at s;omega⟩⟩⟩⟩⟩;have:=(c.cN w (ar h)).2 (by simpa using s);simp at i;exact i this
  .exact jV ⟨k,⟨l,o⟩,V,hd,D,dy V u⟩ (f.trans q)
def gW(mk:Nat->Bool):Nat->List bP->Nat->Int
 |_,[],_=>0
 |i,d::b,a=>(if mk i=true then 0 else eQ d.aN a)+gW mk (i+1) b a
def Ei:∀(i:Nat)(b:List bP)(a:Nat),gW (λ_=>false) i b a=fI b a
 |_,[],_=>rfl
 |i,d::b,a=>by simp[gW,fI,Ei (i+1) b a]
def Gk(mk:Nat->Bool):∀(i:Nat)(b:List bP)(a:Nat),0<=gW mk i b a
 |_,[],_=>cX 0
 |i,d::b,a=>by have:=Gk mk (i+1) b a;have:=iU d.aN a;simp only[gW];split<;>omega
def Qe(mk:Nat->Bool):∀(i:Nat)(b:List bP)(a:Nat),gW mk i b a<=fI b a
 |_,[],_=>cX 0
 |i,d::b,a=>by have:=Qe mk (i+1) b a;have:=iU d.aN a;simp only[gW,fI];split<;>omega
def Jp{mk e:Nat->Bool}:∀{i:Nat}{b:List bP}{a:Nat},(∀j,i<=j->mk j=e j)->gW mk i b a=gW e i b a
 |_,[],_,_=>rfl
 |i,d::b,a,c=>by simp only[gW];rw[c i (ad _),Jp λj f=>c j V]
def NN{mk:Nat->Bool}:∀{e:Nat}{b:List bP}{f:Nat}{d:bP},b[f]? =some d->mk (e+f)=false->∀a,gW (og mk (e+f)) e b a=gW mk e b a -eQ d.aN a
 |_,[],_,_,b,_,_=>by simp at b
 |e,m::b,0,d,j,l,a=>by
  simp at j;subst j;have g:=Jp (mk:=og mk e) (e:=mk) (i:=e+1) (b:=b) (a:=a) λo n=>rl V;rw[jG]at l⊢;simp only[gW,H9,l,g];simp;omega
 |e,m::b,f+1,d,j,l,a=>by
  have g:e+(f+1)=e+1+f:=V;have:=NN (mk:=mk) (e:=e+1) (b:=b) (f:=f) (d:=d) (by simpa using j) (by rw[<-g];exact l) a;simp only[gW];rw[g,this,rl V];omega
def Qd{mk:Nat->Bool}:∀{e:Nat}{b:List bP}{j:Nat}{d:bP},b[j]? =some d->mk (e+j)=false->∀a,eQ d.aN a<=gW mk e b a
 |_,[],_,_,b,_,_=>by simp at b
 |e,l::b,0,d,f,g,a=>by
  simp at f;subst f;have:=Gk mk (e+1) b a;simp only[jG]at g;simp only[gW,g];simp;omega
 |e,l::b,j+1,d,f,g,a=>by
  have:=Qd (mk:=mk) (e:=e+1) (b:=b) (j:=j) (d:=d) (by simpa using f) (by rw[<-g];congr 1;omega) a;have:=iU l.aN a;simp only[gW];split<;>omega
def NM{mk:Nat->Bool}:∀{i:Nat}{b:List bP}{a:Nat},0<gW mk i b a->∃(k:Nat)(d:bP),b[k]? =some d/\mk (i+k)=false/\(1000+(a:Int))∈d.aN
 |_,[],_,b=>by simp[gW]at b
 |i,c::b,a,g=>by
  simp only[gW]at g;by_cases f:mk i=false/\0<eQ c.aN a
  .exact⟨0,c,rfl,f.1,OL f.2⟩
  .have:0<gW mk (i+1) b a:=by
    have:=iU c.aN a;split at g
    .omega
    .rename_i h;have:¬0<eQ c.aN a:=λe=>f ⟨by simpa using h,e⟩;omega
   let⟨k,d,h,e,j⟩:=NM this;exact⟨k+1,d,by simpa using h,by rw[<-e];congr 1;omega,j⟩
def Tx(b:List bP)(mk:Nat->Bool):Prop:=
 ∃t:Nat->Nat,(∀j,mk j=true->t j<=sj mk b.length)/\∀(i:Nat)(d:bP),b[i]? =some d->∀w∈d.aN,1000<=w->mk (ix w)=true->mk i=true/\t i<t (ix w)
def Tx.set{mk:Nat->Bool}(u:Tx b mk)(t:a<b.length)(k:mk a=false)(B:gW mk 0 b a=0):Tx b (og mk a):=by
 let⟨A,n,s⟩:=u;have r:=FD k t;have v:∀(c:Nat)(d:bP),b[c]? =some d->(1000+(a:Int))∈d.aN->mk c=true:=λc d f g=>by
  cases e:mk c
  .have g1:=Qd (mk:=mk) (e:=0) f (by rw[cD];exact e) a;have g2:=uP g;omega
  .rfl
 refine⟨λx=>if x=a then sj mk b.length+1 else A x,λy o=>?_,λc d f w g q p=>?_⟩
 .simp only[r];split
  .omega
  .rename_i h;rw[rl h]at o;have:=n y o;omega
 .by_cases h:ix w=a
  .have e:=v c d f (by rw[<-h,iV q];exact g);have l:c≠a:=λj=>by rw[j,k]at e;cases e
   simp only[aj h,ae l];exact⟨BV e,oh (n c e)⟩
  .rw[rl h]at p;let⟨m,z⟩:=s c d f w g q p;have l:c≠a:=λj=>by rw[j,k]at m;cases m
   simp only[ae h,ae l];exact⟨BV m,z⟩
def PD(f:Nat->Nat):∀n,∃B,∀i,i<n->f i<=B
 |0=>⟨0,λi a=>absurd a (iv _)⟩
 |n+1=>by
  let⟨B,c⟩:=PD f n;refine⟨B+f n,λi a=>?_⟩;rcases aZ i n with b|b
  .have:=c i b;omega
  .have:i=n:=V;subst this;omega
def Vu{mk:Nat->Bool}(r:Tx b mk)(q:∀d∈b,∀w∈d.aN,1000<=w->ix w<b.length)(o:∀a,a<b.length->gW mk 0 b a=0->mk a=true):
 sj mk b.length=b.length<->Xf b:=by
 rw[PG]
 constructor
 .intro g
  let⟨t,e,c⟩:=r
  refine⟨λx=>b.length -t x,λi d h w j f=>?_⟩
  have k:=q d (ar h) w j f
  have:=(c i d h w j f (g _ k)).2
  have:=e _ (g _ k)
  have:=Ki mk b.length
  show b.length -t (ix w)<b.length -t i
  omega
 .rintro⟨h,s⟩
  let⟨B,m⟩:=PD h b.length
  have u:∀(n i:Nat),B -h i<n->i<b.length->mk i=true:=by
   intro n;induction n with
   |zero=>intro i g;omega
   |succ n t=>
    intro i g p;refine o i p (Int.le_antisymm (Int.not_lt.1 λf=>?_) (Gk _ _ _ _));let⟨k,d,e,c,l⟩:=NM f;rw[cD]at c;have:=s k d e _ l V;rw[ng]at this;have j:=az e;have:=m k j;rw[t k V j]at c;cases c
  exactλi g=>u (B -h i+1) i V g
structure Hp(b:List bP)(mk:Nat->Bool)(W:List Nat)(e:Nat->Int):Prop where
 Lp:W.Nodup
 un:∀a∈W,a<b.length/\mk a=false
 zero:∀a,a<b.length->(e a=0<->(mk a=true\/a∈W))
def Gg:∀(n:Nat)(W:List Nat),W.Nodup->(∀a∈W,a<n)->W.length<=n
 |0,[],_,_=>ad _
 |0,a::_,_,b=>absurd (b a aJ) (iv _)
 |n+1,W,hd,b=>by
  by_cases d:n∈W
  .have e:=Gg n (W.erase n) (hd.erase n) λa c=>by
    have:=hd.mem_erase_iff.1 c;have:=b a this.2;omega
   rw[List.length_erase_of_mem d]at e;omega
  .have:=Gg n W hd λa c=>by
    have:=b a c;have:a≠n:=λe=>d (e▸c);omega
   omega
def Hp.len{mk:Nat->Bool}(K:Hp b mk W e):W.length<=b.length:=Gg _ _ K.Lp λa c=>(K.un a c).1
def Hp.Vx{mk:Nat->Bool}(K:Hp b mk (W++[a]) e):Hp b (og mk a) W e:=by
 let⟨g,i,h⟩:=List.nodup_append.1 K.Lp;refine⟨g,λx d=>?_,λx d=>?_⟩
 .have f:=K.un x (bL _ d);refine⟨f.1,?_⟩;rw[rl λc=>h x d a aJ c];exact f.2
 .rw[K.zero x d];by_cases c:x=a
  .subst c;simp[H9]
  .rw[rl c];simp[c]
def Hp.my{mk:Nat->Bool}{lf':Nat->Int}(K:Hp b mk W e)(i:a<b.length)(j:∀x,lf' x=if x=a then e x -1 else e x)(l:0<e a):
 (lf' a=0->Hp b mk (W++[a]) lf')/\(lf' a≠0->Hp b mk W lf'):=by
 have g:mk a≠true/\a∉W:=by
  have:=(K.zero a i).2;constructor
  .intro d;have:=this (Or.inl d);omega
  .intro d;have:=this (Or.inr d);omega
 refine⟨λh=>⟨?_,λx c=>?_,λx c=>?_⟩,λh=>⟨K.Lp,K.un,λx c=>?_⟩⟩
 .rw[List.nodup_append]
  refine⟨K.Lp,aJ,λx c y k f=>?_⟩
  simp at k;subst k;subst f;exact g.2 c
 .rcases List.mem_append.1 c with c|c
  .exact K.un x c
  .simp at c;subst c;exact⟨i,by simpa using g.1⟩
 .by_cases f:x=a
  .subst f;simp[h]
  .rw[j x,ae f,K.zero x c];simp[f]
 .by_cases f:x=a
  .subst f
   constructor
   .intro d;exact absurd d h
   .rintro(d|d)
    .exact absurd d g.1
    .exact absurd d g.2
  .rw[j x,ae f,K.zero x c]
end
section
variable{b:Nat->Nat}{m:E}{k c a:Nat}{s:O}{d:Nat->Int}
def Vj(W:List Nat):List Int:=W.map λ(a:Nat)=>(a:Int)
def Kk(W:List Nat):(Vj W).length=W.length:=by simp[Vj]
def KL(W:List Nat)(a:Nat):Vj (W++[a])=Vj W++[(a:Int)]:=by simp[Vj]
def Wo(h:iz b m aD 1 k s ((yB c d).map Ce.i))(g:c<=9223372036854775807)(e:a<c):af m s.D (s.off+Int.toNat (a:Int)*1)=some (vi (d a)):=by
 have:=(h.nU (by rw[rq];exact g)).aG (Ha (f:=d) e);simpa using this
def Uy(h:iz b m aD 1 k s ((yB c d).map Ce.i)):s.len=c:=by have:=h.len;simp[rq]at this;omega
def XJ{g:Nat->Int}(h:iz b m aD 1 k s ((yB c d).map Ce.i))(q:a<c){v:Int}(o:∀e,e<c->g e=if e=a then v else d e)(p:∀e,m.size<=e->b e=0):
 eC m s.D (s.off+Int.toNat (a:Int)*1) 1/\iz b (ag m s.D (s.off+Int.toNat (a:Int)*1) [.i v]) aD 1 k s ((yB c g).map Ce.i)/\dz (λj=>j=k) b m b (ag m s.D (s.off+Int.toNat (a:Int)*1) [.i v]):=by
 have f:(0:Int)<=(a:Int):=V
 have i:(a:Int)<((yB c d).length:Nat):=by rw[rq];omega
 have j:=h.gQ f i v
 have l:gQ (yB c d) (a:Int) v=yB c g:=by
  unfold gQ;rw[show Int.toNat (a:Int)=a by omega,Sp];exact jL λe n=>(o e n).symm
 rw[l]at j
 have r:=Uy h
 have t:=h.le
 exact⟨h.Pk f i,j,dz.ag p (h.D V).2 _ _⟩
def Yn(m:E)(h:List bP)(v:Value)(c:E):Prop:=∃(s:O)(b:Bool),v=.tuple #[O.v s,vb b]/\(b=true<->QL h)/\
 (b=true->∃a,s=.mk a 0 h.length h.length/\m.size<=a/\cx c a aD ((yB h.length (fI h)).map Ce.i))/\J m c
def Cl{N:O}{h:List bP}(y:dR m N h)(aS:Yr h)(bl:h.length<=1000000000):aM cq 77 [O.v N] m (Yn m h):=by
 apply xy;simp -zeta only[aC,aB];have hl:=y.len;have en:Int.toNat (N.len:Int)=h.length:=V;rw[en];refine⟨V,V,V,V,?_⟩;intro m1;have x1:J m m1:=(J.aA m).aH _;have B1:cx m1 m.size aD ((yB h.length (λ_=>0)).map Ce.i):=Uz m _;clear_value m1;have no:∀{M:E},J m M->¬QL h->Yn m h (.tuple #[O.v O.nil,vb false]) M:=λT G=>⟨.nil,false,rfl,by simp[G],aJ,T⟩;have an:∀c:Nat,Int.toNat (c:Int)=c:=λc=>V;simp -zeta only[O.iS,O.jC,O.tH,cD];refine fm (n:=h.length) V (λt l=>J m l/\cx l m.size aD ((yB h.length (λa=>fI (h.take t) a)).map Ce.i)/\∀e∈h.take t,IZ h e) ⟨x1,by simpa[fI]using B1,aJ⟩ ?_;rintro t m2 bt μ hi ⟨Z,B2,ai⟩ X
 have bC:=B2.lt;have h3:∀e∈h.take t,e.aN.length<=3:=λe hm=>(ai e hm).fl;refine dit (λh1=>?_) λh1=>?_
 .let⟨e,r⟩:=cK h t;have ab:=ar r;let⟨d,hf,g0,g1,g2⟩:=(dR.ext Z y).aG r;rw[an];refine⟨V,V,e.aQ,g0,e.kH,g1,d,g2,?_⟩;intro L I;have o:J m2 I:=((J.aA m2).aH _).ag (ad _) _ _;have s4:I.size=m2.size+1:=by simp[I,L,aw]
  clear_value I;refine(FO (dR.ext (Z.trans o) y) (hf.ext o) (aS e ab)).aK (J.aA _) bI λj U S s _=>⟨j,rfl,λh2=>no ((Z.trans o).trans s) λz=>nb S h2 (z.cells e ab).v,λh2=>?_⟩;have A:=yb S h2;have bd:=A.fl;have z5:=s.size;have ah:=hf.len;refine fm (n:=e.aN.length) V (λk l=>J m l/\m2.size<l.size/\aq l d e.aN/\cx l m.size aD ((yB h.length (λa=>fI (h.take t) a+eQ (e.aN.take k) a)).map Ce.i)) ⟨((Z.trans o).trans s),V,(hf.ext (o.trans s)),by simpa[eQ]using(B2.ext (o.trans s))⟩ ?_;rintro k p aa ν z ⟨K,z6,D,l⟩ Q;refine dit (λh4=>?_) λh4=>?_
  .let⟨w,H⟩:=cK e.aN k;have ap:=ar H;refine⟨V,V,w,by simpa using D.aG H,(hO (dR.ext K y) (aS e ab w ap).2).mono ?_⟩;rintro _ q ⟨a,R,rfl,P,W,F⟩;have z7:=F.size;refine⟨F.dv bI,a,R,rfl,λC=>?_,λC=>?_⟩
   .have ag:=P.1 C;have ac:=az (bZ ag).1;have e1:=W C;subst e1;have x:=l.ext F;have q1:=Ko (h.take t) (ix w) h3;have q2:=lZ (e.aN.take k) (ix w);have q3:=uS (h.take t) (ix w);have q4:=iU (e.aN.take k) (ix w);have q5:(h.take t).length<=h.length:=bI;have q6:(e.aN.take k).length<=3:=bI;rw[an,iu];refine⟨V,V,_,Fj x ac,V,V,UA x ac,?_⟩;rw[show cR (fI (h.take t) (ix w)+eQ (e.aN.take k) (ix w)+1)=fI (h.take t) (ix w)+eQ (e.aN.take k) (ix w)+1 from aP V V];have B:=Rz x (ix w) (fI (h.take t) (ix w)+eQ (e.aN.take k) (ix w)+1);rw[jL (g:=λa=>fI (h.take t) a+eQ (e.aN.take (k+1)) a)]at B
    .refine⟨λj S=>bo _ _ _ _ (by simp at S;omega),Q V _ ⟨(K.trans F).ag (ad _) _ _,by rw[aw];omega,?_,B⟩⟩;obtain⟨f0,aR,_,_,w2⟩:=y.aG r;have er:f0=d:=by have:=Z.af w2;rw[g2]at this;exact(O.Hg.1 (mq this)).symm
     subst er;exact aR.ext ((K.trans F).ag (ad _) _ _)
    .intro j S;rw[Gh H];by_cases u:j=ix w
     .subst u;rw[aj rfl,aj (iV ag.1).symm];omega
     .rw[ae u,ae (λY=>u (by rw[Y,ng]))];omega
   .refine Q V q ⟨K.trans F,V,D.ext F,?_⟩;have bi:w<1000:=(A.cases ap).resolve_left (fb P C);rw[jL (g:=λa=>fI (h.take t) a+eQ (e.aN.take k) a)]
    .exact l.ext F
    .intro j S;rw[Gh H,ae V];omega
  .have x:e.aN.take k=e.aN:=cJ V;rw[x]at l;refine X V p ⟨K,?_,bY r ai A⟩
   rw[jL (g:=λa=>fI (h.take t) a+eQ e.aN a)]
   .exact l
   .intro j S;exact SW r j
 have ei:h.take t=h:=cJ V;rw[ei]at B2 ai h3;clear X
 have a1:∀e∈h,∀w∈e.aN,gC h w\/w<1000:=λe s w H=>(ai e s).cases H;have ag:∀e∈h,∀w∈e.aN,1000<=w->ix w<h.length:=λe hm w H N=>by
  rcases a1 e hm w H with h1|h1
  .exact az (bZ h1).1
  .omega
 refine⟨λM=>m2=M/\pL h,⟨λh2=>?_,λh2=>⟨rfl,λe s=>?_⟩⟩,?_⟩
 .simp at h2;rw[aP V V];let⟨e,s⟩:=cK h (h.length -1);obtain⟨d,hf,g1,_,_⟩:=(dR.ext Z y).aG s;have u:Int.toNat ((N.len:Int) -1)=h.length -1:=V;rw[u];refine⟨V,V,e.aQ,g1,λh3=>no Z λz=>z.jM e s (by simpa using h3),λh3=>⟨rfl,λal hd=>?_⟩⟩;rw[s]at hd;simp at hd;subst hd;simpa using h3
 .have:=az s;simp at h2;omega
 rintro _ ⟨rfl,bm⟩;refine(eL (VB B2 V) (by rw[rq];exact bl)).mono ?_;rintro _ L ⟨A,rfl,or,x3⟩;have z3:=x3.size;have B3:=B2.ext x3;have bH:=Z.size;obtain⟨B,aH⟩:∃B:Nat->Nat,B=λj=>if A.Gc=false/\j=A.D then 2 else if j=m.size then 1 else 0:=⟨_,rfl⟩
 have aG:A.Gc=false->m2.size<=A.D/\A.D<L.size:=λG=>by
  have ah:A≠.nil:=λu=>by rw[u]at G;simp at G
  exact⟨or.D.resolve_left ah,or.lt.resolve_left ah⟩
 have aV:∀j,j≠m.size->(A.Gc=false->j≠A.D)->B j=0:=λj h4 C=>by
  rw[aH];exact(ae λy=>C y.1 y.2).trans (ae h4)
 have bs:B m.size=1:=by
  rw[aH];exact(ae λy=>oh (aG y.1)).trans (aj rfl)
 have bp:∀j,L.size<=j->B j=0:=λj S=>aV j V λG=>by have:=aG G;omega
 have a_:∀j,j<m.size->B j=0:=λj S=>aV j V λG=>by have:=aG G;omega
 have A3:iz B L aD 1 2 A ((yB h.length (fI h)).map Ce.i):=iz.gK or λah=>by
  rw[aH];refine aj ⟨?_,rfl⟩;cases A with
  |nil=>exact absurd rfl ah
  |_=>rfl
 have bz:=Uy A3;clear aG aV aH;have aK:∀{b a6:Nat->Nat}{M M':E},dz (λk=>k=2\/k=6) b M a6 M'->To b M a6 M':=λs=>s.mono λk z=>V;have aN:∀{b:Nat->Nat}{M:E},dz (λk=>k=2\/k=6) B L b M->J m M:=λs=>((aK s).cv (Z.trans x3) a_).1;have a5:∀{b:Nat->Nat}{M:E},dz (λk=>k=2\/k=6) B L b M->cx M m.size aD ((yB h.length (fI h)).map Ce.i):=λs=>B3.congr (s.dP _ B3.lt (by rw[bs];decide));have bq:iz B L aD 1 6 .nil (([]:List Int).map Ce.i):=⟨aJ,aJ,Or.inl rfl⟩;refine⟨A,rfl,dV (σ:=O) (n:=h.length) V (λk P M=>∃b W,dz (λk=>k=2\/k=6) B L b M/\iz b M aD 1 2 A ((yB h.length (fI h)).map Ce.i)/\iz b M aD 1 6 P ((Vj W).map Ce.i)/\W.Nodup/\(∀a∈W,a<k)/\(∀a,a<k->(fI h a=0<->a∈W))/\
  ∀(a:Nat)(e:bP),a<k->h[a]? =some e->0<e.aQ->fI h a<=e.aQ/\e.aQ<=999999) ⟨B,[],dz.aA _ bp,A3,bq,aJ,aJ,aJ,aJ⟩ ?_⟩
 rintro k P I I2 μ2 z ⟨Y,W,C4,A4,W4,ao,ak,aI,aF⟩ X
 have X4:=aN C4;refine dit (λh4=>?_) λh4=>?_
 .have am:k<h.length:=V;let⟨e,aa⟩:=dZ am;let⟨d,hf,g0,g1,g2⟩:=(dR.ext X4 y).aG aa;rw[an];refine⟨V,V,e.aQ,g0,e.kH,g1,d,g2,?_⟩;intro U p;have K:J I p:=((J.aA I).aH _).ag (ad _) _ _;have s6:p.size=I.size+1:=by simp[p,U,aw]
  clear_value p;have av:dz (λk=>k=2\/k=6) Y I Y p:=dz.eT _ K C4.new;have C6:=C4.trans av;have F6:dz (λ_=>False) Y I Y p:=dz.eT _ K C4.new;have A6:=A4.eY F6 id;have W6:=W4.eY F6 id;have g6:=Fj (a5 C6) am;have jU:(0<e.aQ->fI h k<=e.aQ/\e.aQ<=999999)->∀(a:Nat)(e:bP),a<k+1->h[a]? =some e->0<e.aQ->fI h a<=e.aQ/\e.aQ<=999999:=λG a al o hd=>by
   rcases aZ a k with Q|Q
   .exact aF a al Q hd
   .have:a=k:=V;subst this;rw[aa]at hd;simp at hd;subst hd;exact G
  have kj:(0<e.aQ->fI h k<=e.aQ/\e.aQ<=999999)->((0:Int)<=k/\(k:Int)<(h.length:Int)/\∃r:Int,af p m.size (k*1)=some (vi r)/\
   ((r==(0:Int))=true->let x:E:=p.push (.cells (bA [.i (k:Int)]) 3)
    jN x 3 [.i (0:Int)] 8 P (O.mk p.size 0 1 1) λD l=>dY [I.size] x l/\I2 D (cR ((k:Int)+(1:Int))) l/\μ2 D (cR ((k:Int)+(1:Int))) l<μ2 P k I)/\
   ((r==(0:Int))=false->I2 P (cR ((k:Int)+(1:Int))) p/\μ2 P (cR ((k:Int)+(1:Int))) p<μ2 P k I)):=λG=>by
   refine⟨V,V,_,by rw[iu];exact g6,λD=>?_,λD=>?_⟩
   .intro q
    have F:J p q:=(J.aA p).aH _
    have k7:cx q p.size 3 [.i (k:Int)]:=cx.push p _ _
    have s7:q.size=p.size+1:=by simp[q]
    have F7:dz (λ_=>False) Y p Y q:=dz.eT _ F C6.new
    have C7:dz (λk=>k=2\/k=6) B L Y q:=C6.trans (dz.eT _ F C6.new)
    have ax:=W6.len
    simp[Kk]at ax
    have ay:W.length<=h.length:=Gg _ _ ao λa o=>by have:=ak a o;omega
    refine iz.append (c:=[.i 0]) (d:=[.i (k:Int)]) (W6.eY F7 id) C7.new aJ k7.iF (by simp only[O.iS];omega) λr a4 m8 a8 c8=>⟨(aK (c8.mono λl hj=>Or.inr hj)).dv (by simp;exact⟨V,C4.new _ (ad _)⟩),?_⟩
    refine X V _ _ ⟨r,W++[k],C7.trans (c8.mono λl hj=>Or.inr hj),(A6.eY F7 id).eY c8 be,by rw[KL];simpa using a8,?_,λa o=>?_,λa o=>?_,jU G⟩
    .rw[List.nodup_append]
     refine⟨ao,aJ,λx T aA R u=>?_⟩
     simp at R;subst R;subst u;have:=ak _ T;omega
    .rcases List.mem_append.1 o with o|o
     .have:=ak a o;omega
     .simp at o;omega
    .rcases aZ a k with R|R
     .rw[aI a R];simp;omega
     .have:a=k:=V
      subst this
      simp at D;simp[D]
   .refine X V _ _ ⟨Y,W,C6,A6,W6,ao,λa o=>oh (ak a o),λa o=>?_,jU G⟩
    rcases aZ a k with R|R
    .exact aI a R
    .have:a=k:=V
     subst this
     simp at D
     simp only[D,false_iff]
     intro hm;have:=ak _ hm;omega
  refine⟨λC=>⟨V,V,_,by rw[iu];exact g6,λQ=>no (X4.trans K) λz=>?_,λQ=>⟨λD=>no (X4.trans K) λz=>?_,λD=>kj λ_=>by simp at Q D;omega⟩⟩,λC=>kj λQ=>by simp at C;omega⟩
  .have:=z.fI k e aa (by simpa using C);simp at Q;omega
  .have:=(z.cells e (ar aa)).hi;simp at D;omega
 have bf:k=h.length:=V;subst bf;clear X h4
 have bc:∀e∈h,xe h e:=λe s=>by
  let⟨a,o⟩:=List.mem_iff_getElem?.1 s;refine(ai e s).ok ?_;rcases IW 0 e.aQ with N|N
  .exact(aF a e (az o) o N).2
  .omega
 have bk:∀(a:Nat)(e:bP),h[a]? =some e->0<e.aQ->fI h a<=e.aQ:=λa e o N=>(aF a e (az o) o N).1;have bh:∀mk a,gW mk 0 h a<=3*h.length:=λmk a=>by
  have:=Qe mk 0 h a;have:=Ko h a λe hm=>(ai e hm).fl;omega
 have K0:Hp h (λ_=>false) W (gW (λ_=>false) 0 h):=⟨ao,λa o=>⟨ak a o,rfl⟩,λa o=>by rw[Ei,aI a o];simp⟩;have c0:sj (λ_=>false) h.length=0:=by
  generalize h.length=c;induction c with
  |zero=>rfl
  |succ c K=>simp[sj,K]
 refine VG (γ:=(Nat->Bool)×List Nat) (λK P a3 M=>∃b,a3=(sj K.1 h.length:Nat)/\dz (λk=>k=2\/k=6) B L b M/\iz b M aD 1 2 A ((yB h.length (gW K.1 0 h)).map Ce.i)/\iz b M aD 1 6 P ((Vj K.2).map Ce.i)/\Hp h K.1 K.2 (gW K.1 0 h)/\Tx h K.1)
  (λK=>h.length -sj K.1 h.length) (λ_=>false,W) ⟨Y,by rw[c0];rfl,C4,by rw[jL (g:=fI h) λj _=>Ei 0 h j];exact A4,W4,K0,λ_=>0,aJ,aJ⟩ ?_
 clear C4 A4 W4 K0 c0 X4 ao ak aI aF;rintro⟨mk,W⟩ P a3 U I3 μ3 ⟨aa,rfl,C5,A5,W5,K5,O5⟩ X
 simp only at A5 W5 K5 O5 X
 have X5:=aN C5;have ax:=W5.len;simp[Kk]at ax;have bu:=K5.len;refine⟨λC=>?_,λC=>?_⟩
 .simp only[ly,au]at C;have ah:W≠[]:=λu=>by subst u;simp at ax;omega
  obtain⟨W',a,rfl⟩:∃W' a,W=W'++[a]:=⟨W.dropLast,W.getLast ah,(eD ah).symm⟩;rw[KL]at W5;let⟨p1,p2,p3⟩:=W5.Vx;rw[Kk]at p1 p2 p3;have e1:cR ((P.len:Int) -1)=(W'.length:Int):=by rw[aP V V];omega
  let⟨ay,aQ⟩:=K5.un a aJ;let⟨e,aA⟩:=dZ ay;have ab:=ar aA;have bd:=(ai e ab).fl;let⟨d,hf,g0,g1,g2⟩:=(dR.ext X5 y).aG aA;rw[e1,an];have bB:=W5.le;refine⟨V,V,a,p2,V,V,?_⟩;rw[an];refine⟨e.aQ,g0,e.kH,g1,d,g2,?_⟩;intro p q;have F:J U q:=((J.aA U).aH _).ag (ad _) _ _;have s7:q.size=U.size+1:=by simp[q,p,aw]
  clear_value q;have F7:dz (λ_=>False) aa U aa q:=dz.eT _ F C5.new;have C7:dz (λk=>k=2\/k=6) B L aa q:=C5.trans (dz.eT _ F C5.new);have bw:=hf.len;have hz:gW mk 0 h a=0:=(K5.zero a ay).2 (Or.inr aJ);have O7:=O5.set ay aQ hz;have aT:=λx=>NN (mk:=mk) (e:=0) aA (by rw[cD];exact aQ) x;simp only[cD]at aT;have es:=FD aQ ay;have bv:=Ki (og mk a) h.length;have K7:Hp h (og mk a) W' (λx=>gW (og mk a) 0 h x+eQ (e.aN.drop 0) x):=by
   have:=K5.Vx;refine⟨this.Lp,this.un,λx T=>?_⟩;rw[<-this.zero x T,aT,List.drop_zero];constructor<;>intro h<;>omega
  refine⟨V,V,V,dV (σ:=O) (n:=e.aN.length) V (λl wk M=>∃b W2,dz (λk=>k=2\/k=6) aa q b M/\iz b M aD 1 2 A ((yB h.length (λx=>gW (og mk a) 0 h x+eQ (e.aN.drop l) x)).map Ce.i)/\iz b M aD 1 6 wk ((Vj W2).map Ce.i)/\Hp h (og mk a) W2 (λx=>gW (og mk a) 0 h x+eQ (e.aN.drop l) x))
   ⟨aa,W',dz.aA _ C7.new,?_,?_,K7⟩ ?_⟩
  .have:=A5.eY F7 id;rw[jL (g:=gW mk 0 h) λj _=>by simp only[aT,List.drop_zero];omega];exact this
  .exact p3.eY F7 id
  rintro l wk m8 I4 μ4 hj ⟨r,W2,C8,A8,W8,K8⟩ aU;have X8:=aN (C7.trans C8);have T8:=aK C8;have r7:U.size<m8.size/\r U.size=0:=⟨by have:=C8.size;omega,by rw[C8.jc _ V];exact C5.new _ (ad _)⟩;refine dit (λQ=>?_) λQ=>?_
  .let⟨w,H⟩:=cK e.aN l;have ap:=ar H;have ba:=aS e ab w ap;have a2:e.aN.drop l=w::e.aN.drop (l+1):=by
    rw[qC (az H)];congr 1;exact(List.getElem?_eq_some_iff.1 H).2
   obtain⟨f0,aR,_,_,w2⟩:=y.aG aA;have er:f0=d:=by have:=X5.af w2;rw[g2]at this;exact(O.Hg.1 (mq this)).symm
   subst er;refine⟨V,V,w,by simpa using(aR.ext X8).aG H,(hO (dR.ext X8 y) ba.2).mono ?_⟩;rintro _ m9 ⟨a4,b9,rfl,a0,bj,x9⟩;have z9:=x9.size;have F9:dz (λ_=>False) r m8 r m9:=dz.eT _ x9 C8.new;have C9:dz (λk=>k=2\/k=6) aa q r m9:=C8.trans (dz.eT _ x9 C8.new);have A9:=A8.eY F9 id;have W9:=W8.eY F9 id;refine⟨x9.dv bI,a4,b9,rfl,λD=>?_,λD=>?_⟩
   .have ag:=a0.1 D;have ac:=az (bZ ag).1;have e9:=bj D;subst e9;have al:∀x,eQ (e.aN.drop l) x=(if x=ix w then 1 else 0)+eQ (e.aN.drop (l+1)) x:=λx=>by rw[a2,iT ag.1]
    have bb:=al (ix w);rw[aj rfl]at bb;have n1:=Gk (og mk a) 0 h (ix w);have n2:=bh (og mk a) (ix w);have n3:=iU (e.aN.drop (l+1)) (ix w);have n4:=lZ (e.aN.drop (l+1)) (ix w);have n5:(e.aN.drop (l+1)).length<=3:=bI;let⟨u1,u2,u3⟩:=XJ (d:=λx=>gW (og mk a) 0 h x+eQ (e.aN.drop l) x) (g:=λx=>gW (og mk a) 0 h x+eQ (e.aN.drop (l+1)) x) A9 ac (v:=gW (og mk a) 0 h (ix w)+eQ (e.aN.drop (l+1)) (ix w)) (λj _=>by
     rw[al];by_cases u:j=ix w
     .subst u;rw[aj rfl]
     .rw[ae u,ae u];omega) C9.new
    refine⟨V,V,_,Wo A9 V ac,V,V,u1,?_⟩;rw[show cR (gW (og mk a) 0 h (ix w)+eQ (e.aN.drop l) (ix w) -1)=gW (og mk a) 0 h (ix w)+eQ (e.aN.drop (l+1)) (ix w)by rw[aP V V];omega];intro K;have av:dz (λk=>k=2\/k=6) aa q r K:=C9.trans (u3.mono λk z=>Or.inl z);have bE:K.size=m9.size:=aw _ _ _ _;have aL:iz r K aD 1 6 wk ((Vj W2).map Ce.i):=W9.eY u3 be;let⟨v1,v2⟩:=K8.my (lf':=λx=>gW (og mk a) 0 h x+eQ (e.aN.drop (l+1)) x) ac (λx=>by
     rw[al];split<;>omega) (show 0<gW (og mk a) 0 h (ix w)+eQ (e.aN.drop l) (ix w)by omega)
    have a8:To r m9 r K:=u3.mono λk z=>V;have aW:iz r K aD 1 2 A ((yB h.length (λx=>gW (og mk a) 0 h x+eQ (e.aN.drop (l+1)) x)).map Ce.i):=u2;clear_value K;clear u2;refine⟨a8.dv (by simp;exact⟨V,r7.2⟩),V,V,_,Wo aW V ac,λR=>?_,λR=>aU V _ _ ⟨r,W2,av,aW,aL,v2 (by simpa using R)⟩⟩;intro am;have a7:J K am:=(J.aA K).aH _;have bn:cx am K.size 3 [.i (ix w:Int)]:=cx.push K _ _;have bF:am.size=K.size+1:=by simp[am]
    have aY:dz (λ_=>False) r K r am:=dz.eT _ a7 av.new;have aX:dz (λk=>k=2\/k=6) aa q r am:=av.trans (dz.eT _ a7 av.new);have bg:=aL.len;simp[Kk]at bg;have bx:=K8.len;exact iz.append (c:=[.i 0]) (d:=[.i (ix w:Int)]) (aL.eY aY id) aX.new aJ bn.iF (by simp only[O.iS];omega) λbr q2 bD a9 aO=>⟨(aK (aO.mono λl hj=>Or.inr hj)).dv (by simp;exact⟨V,r7.2⟩),aU V _ _ ⟨br,W2++[ix w],aX.trans (aO.mono λl hj=>Or.inr hj),(aW.eY aY id).eY aO be,by rw[KL];simpa using a9,v1 (by simpa using R)⟩⟩
   .have bi:w<1000:=(a1 e ab w ap).resolve_left (fb a0 D);have al:∀x,eQ (e.aN.drop (l+1)) x=eQ (e.aN.drop l) x:=λx=>by
     rw[a2];simp only[eQ];rw[ae V];omega
    refine aU V _ _ ⟨r,W2,C9,?_,W9,⟨K8.Lp,K8.un,λx T=>by rw[al];exact K8.zero x T⟩⟩;rw[jL (g:=λx=>gW (og mk a) 0 h x+eQ (e.aN.drop l) x) λj _=>by rw[al]];exact A9
  .have K:e.aN.drop l=[]:=IY V;have D:∀x,gW (og mk a) 0 h x+eQ (e.aN.drop l) x=gW (og mk a) 0 h x:=λx=>by rw[K];simp[eQ]
   rw[show cR ((sj mk h.length:Nat)+1:Int)=((sj (og mk a) h.length:Nat):Int)by rw[es,aP V V];omega];refine X (og mk a,W2) _ _ m8 ⟨r,rfl,C7.trans C8,?_,W8,⟨K8.Lp,K8.un,λx T=>by have:=K8.zero x T;rw[D]at this;exact this⟩,O7⟩ (by simp only[];omega)
   rw[jL (g:=λx=>gW (og mk a) 0 h x+eQ (e.aN.drop l) x) λj _=>(D j).symm];exact A8
 .simp only[ly,bG]at C;have p:W=[]:=List.length_eq_zero_iff.1 V;subst p;have q:=Vu O5 ag λa o l=>((K5.zero a o).1 l).resolve_right aJ;refine⟨_,_,rfl,?_,λ_=>⟨m.size,rfl,ad _,a5 C5⟩,X5⟩;rw[aE,show((sj mk h.length:Nat):Int)=(N.len:Int)<->sj mk h.length=h.length by omega,q];exact⟨λo=>⟨bm,bc,bk,o⟩,λz=>z.Ok⟩
end
section
variable{j:cp}{f:aU}{m d i:E}{r o e:O}{a b:Nat}
structure Sw(j:cp)(f:aU):Prop where
 eg:0<=f.eg/\f.eg<j.cB.length
 pc:0<=f.pc/\f.pc<(dC j f.eg).da.length
 lr:(f.an.length:Int)=(dC j f.eg).an
 lo:(f.aR.length:Int)=(dC j f.eg).an
 lh:(f.aY.length:Int)=(dC j f.eg).an
 dx:∀(k:Nat)(w o:Int),f.an[k]? =some w->f.aR[k]? =some o->(iJ w\/1000<=w)/\(0<=o/\o<=999999)
def Sw.aR(h:Sw j f):∀o∈f.aR,0<=o/\o<=999999:=λo b=>by
 let⟨k,a⟩:=List.mem_iff_getElem?.1 b;have:=az a;have d:=h.lr;have e:=h.lo;let⟨w,c⟩:=cK f.an k;exact(h.dx k w o c a).2
def DX{P Y:O}(R:eW m P Y j)(K:aq m r f.an)(z:aq m o f.aR)(he:aq m e f.aY):
 dT cq 80 [.agg #[O.v P,O.v Y],.agg #[vi f.eg,vi f.pc,vi f.dst,O.v r,O.v o,O.v e]] m (Sw j f):=by
 apply yL
 simp -zeta only[aC,aB]
 intro L d
 have C:J m d:=((J.aA m).aH _).aH _
 have s1:L.size=m.size+1:=by simp[L]
 have s2:d.size=m.size+2:=by simp[d,s1]
 clear_value d
 have aj:=R.cB.len
 have al:=K.len
 have ag:=z.len
 have ae:=he.len
 have am:=K.iB
 refine⟨λy=>cT (λa=>by have:=a.eg;simp at y;omega) C,λy=>⟨λD=>cT (λa=>by have:=a.eg;simp at D;omega) C,λD=>?_⟩⟩
 simp at y D
 let⟨ac,U⟩:=cK j.cB f.eg.toNat
 have h:dC j f.eg=ac:=by simp[dC,U]
 let⟨pa,pl,pc,ah,ak,aa,k0,k1,k2,k3,k4⟩:=(R.ext C).cB.aG U
 have ai:=aa.len
 refine⟨y,V,pa,k0,pl,k1,_,k2,_,k3,pc,k4,?_⟩
 intro m3 s
 have x4:J d s:=((J.aA d).aH _).ag (ad _) _ _
 have s4:s.size=d.size+1:=by simp[s,m3,aw]
 clear_value s
 have c:=C.trans x4
 have hl:∀b∈[d.size,L.size,m.size],b<s.size:=bI
 refine⟨λE=>cT (λa=>by have:=a.pc;simp at E;omega) c,λE=>⟨λF=>cT (λa=>by have:=a.pc;rw[h]at this;simp at F;omega) c,λF=>⟨λG=>cT (λa=>by have:=a.lr;rw[h]at this;simp at G;omega) c,λG=>⟨λH=>cT (λa=>by have:=a.lo;rw[h]at this;simp at H;omega) c,λH=>⟨λI=>cT (λa=>by have:=a.lh;rw[h]at this;simp at I;omega) c,λI=>?_⟩⟩⟩⟩⟩
 simp at E F G H I
 refine fm (n:=f.an.length) V (λk m'=>J s m'/\∀(g:Nat)(w o:Int),g<k->f.an[g]? =some w->f.aR[g]? =some o->(iJ w\/1000<=w)/\(0<=o/\o<=999999)) ⟨J.aA _,λg w o S=>absurd S (iv _)⟩ ?_
 rintro k X Z μ a ⟨N,W⟩ ab
 refine dit (λh8=>?_) λh8=>?_
 .let⟨w,i⟩:=cK f.an k
  let⟨t,v⟩:=cK f.aR k
  refine⟨V,V,w,by simpa using(K.ext (c.trans N)).aG i,(rc w X).aK N hl λb6 q Q an x=>⟨b6,rfl,?_⟩⟩
  have T:af q o.D (o.off+Int.toNat (k:Int)*1)=some (vi t):=by simpa using(z.ext (c.trans x)).aG v
  have kj:(iJ w\/1000<=w)->(0:Int)<=k/\(k:Int)<(o.len:Int)/\∃M:Int,af q o.D (o.off+Int.toNat (k:Int)*1)=some (vi M)/\((decide (M<(0:Int)))=true->∃l:Bool,vb false=.bool l/\(l=true<->Sw j f)/\J m q)/\
   ((decide (M<(0:Int)))=false->(0:Int)<=k/\(k:Int)<(o.len:Int)/\∃p:Int,af q o.D (o.off+Int.toNat (k:Int)*1)=some (vi p)/\((decide (p>(999999:Int)))=true->∃l:Bool,vb false=.bool l/\(l=true<->Sw j f)/\J m q)/\
   ((decide (p>(999999:Int)))=false->Z (cR ((k:Int)+(1:Int))) q/\μ (cR ((k:Int)+(1:Int))) q<μ k X)):=λhi=>
   ⟨V,V,t,T,λp=>cT (λa=>by have:=(a.dx k w t i v).2;simp at p;omega) (c.trans x),λp=>⟨V,V,t,T,λl=>cT (λa=>by have:=(a.dx k w t i v).2;simp at l;omega) (c.trans x),λl=>ab V _ ⟨x,λg w' o' S B A=>by
    rcases aZ g k with u|u
    .exact W g w' o' u B A
    .have:g=k:=V;subst this;rw[i]at B;rw[v]at A;simp at B A;subst B;subst A;simp at p l;exact⟨hi,V⟩⟩⟩⟩
  refine⟨λp=>⟨λl=>cT (λa=>?_) (c.trans x),λl=>kj (Or.inr (by simp at l;omega))⟩,λp=>kj (Or.inl (yb Q p))⟩
  rcases(a.dx k w t i v).1 with u|u
  .exact nb Q p u
  .simp at l;omega
 .refine jV ⟨V,by rw[h];omega,by rw[h];omega,by rw[h];omega,by rw[h];omega,λg w o i z=>W g w o (oh (az i)) i z⟩ (c.trans N)
structure Jw(a b:Nat)(m m':E):Prop where
 size:m.size<=m'.size
 same:∀c,c<m.size->c≠a->c≠b->m'[c]? =m[c]?
def Jw.aA(a b:Nat)(m:E):Jw a b m m:=⟨ad _,λ_ _ _ _=>rfl⟩
def Jw.ext{g:E}(h:Jw a b m g)(f:J g d):Jw a b m d:=⟨bX h.size f.size,λc e i j=>by rw[f.same c (aO e h.size)];exact h.same c e i j⟩
def Jw.trans{j:E}(h:Jw a b m j)(i:Jw a b j d):Jw a b m d:=⟨bX h.size i.size,λc g e f=>by rw[i.same c (aO g h.size) e f];exact h.same c g e f⟩
def Jw.ag{d:E}(h:Jw a b m d){c:Nat}(i:c=a\/c=b)(o:Nat)(l:List Ce):Jw a b m (ag d c o l):=
 ⟨by rw[aw];exact h.size,λx j f g=>by rw[bo l d c o (by rcases i with e|e<;>rw[e]<;>assumption)];exact h.same x j f g⟩
def Jw.Hc{f:E}(h:Jw a b m f)(c:J i m)(g:i.size<=a)(j:i.size<=b):J i f:=
 ⟨bX c.size h.size,λd e=>by rw[h.same d (c.lt e) V V];exact c.same d e⟩
structure Xt(h:List bP)(f:aU):Prop where
 aR:∀(k:Nat)(w o:Int),f.an[k]? =some w->f.aR[k]? =some o->0<o->gC h w
 aY:∀w∈f.aY,w≠0->1000<=w/\∃c,h[ix w]? =some c/\c.aQ<0
def VF{w:Int}{n:Nat}(b:MD w)(f:n<=1000000000):(0<=cR (w -1000)/\cR (w -1000)<n)<->(1000<=w/\ix w<n):=by
 let⟨c,d⟩:=b;rcases IW w (-9223372036854774808)with a|a
 .have e:cR (w -1000)=w -1000+18446744073709551616:=by
   unfold cR;rw[IntKind.wrap_i64];omega
  unfold ix;rw[e];constructor<;>intro h<;>omega
 .unfold ix;rw[aP V V];omega
structure Oj(m:E)(ob hb n:Nat)(fo fh:Nat->Int):Prop where
 aR:cx m ob aD ((yB n fo).map Ce.i)
 aY:cx m hb aD ((yB n fh).map Ce.i)
 ne:ob≠hb
def MQ{hp:O}{h:List bP}{p c:Nat}{l fh:Nat->Int}(x0:J i m)(hh:dR i hp h)(hr:aq i r f.an)(B:aq i o f.aR)(he:aq i e f.aY)(ai:i.size<=p)(ah:i.size<=c)(T:Oj m p c h.length l fh)
 (ag:UZ f)(ax:h.length<=1000000000)(au:f.an.length=f.aR.length/\f.aY.length=f.aR.length/\f.aR.length<=10000000)(ak:∀o∈f.aR,0<=o/\o<=999999)(ap:∀a,0<=l a/\l a<=1000000000000000)(ao:∀a,0<=fh a/\fh a<=1000000000):
 aM cq 81 [.agg #[vi f.eg,vi f.pc,vi f.dst,O.v r,O.v o,O.v e],O.v hp,O.v (.mk p 0 h.length h.length),O.v (.mk c 0 h.length h.length)] m λv D=>
  ∃b:Bool,v=vb b/\(b=true<->Xt h f)/\(b=true->Oj D p c h.length (λa=>l a+dq f.an f.aR a) (λa=>fh a+eQ f.aY a))/\Jw p c m D:=by
 apply xt
 simp -zeta only[aC,aB]
 intro I
 have x1:J m I:=(J.aA m).aH _
 have s1:I.size=m.size+1:=by simp[I]
 clear_value I
 have aK:=hr.len
 have aH:=B.len
 have aF:=he.len
 have aG:=hh.len
 let⟨aA,aD,aE⟩:=au
 have aN:=T.aR.lt
 have aL:=T.aY.lt
 simp -zeta only[O.iS,O.jC,O.tH,cD]
 have S:∀ac:Nat,Int.toNat (ac:Int)=ac:=λac=>V
 refine fm (n:=f.aR.length) V (λk D=>Jw p c m D/\m.size<D.size/\Oj D p c h.length (λa=>l a+dq (f.an.take k) (f.aR.take k) a) (λa=>fh a+eQ (f.aY.take k) a)/\(∀(j:Nat)(w o:Int),j<k->f.an[j]? =some w->f.aR[j]? =some o->0<o->gC h w)/\
  (∀w∈f.aY.take k,w≠0->1000<=w/\∃s,h[ix w]? =some s/\s.aQ<0)) ⟨(Jw.aA _ _ _).ext x1,V,by simpa[dq,eQ]using(⟨T.aR.ext x1,T.aY.ext x1,T.ne⟩:Oj I p c h.length l fh),λj w o hj=>absurd hj (iv _),aJ⟩ ?_
 rintro k d ay μ hk ⟨t2,z2,q,q2,p2⟩ am
 have Q:=t2.Hc x0 ai ah
 rw[S,iu]
 refine dit (λh1=>?_) λh1=>?_
 .let⟨w,u⟩:=cK f.an k
  let⟨t,C⟩:=cK f.aR k
  let⟨v,y⟩:=cK f.aY k
  have gw:∀{M:E},J i M->af M r.D (r.off+k)=some (vi w):=λH=>by simpa using(hr.ext H).aG u
  have gq:∀{M:E},J i M->af M o.D (o.off+k)=some (vi t):=λH=>by simpa using(B.ext H).aG C
  have gv:∀{M:E},J i M->af M e.D (e.off+k)=some (vi v):=λH=>by simpa using(he.ext H).aG y
  have al:=ag.2.2 v (ar y)
  have aI:=ak t (ar C)
  refine⟨V,V,t,gq Q,λM=>Jw p c d M/\m.size<M.size/\Oj M p c h.length (λa=>l a+dq (f.an.take (k+1)) (f.aR.take (k+1)) a) (λa=>fh a+eQ (f.aY.take k) a)/\(0<t->gC h w),⟨λW=>?_,λW=>?_⟩,?_⟩
  .have F:0<t:=by simpa using W
   refine⟨V,V,w,gw Q,(hO (dR.ext Q hh) (ag.1 w (ar u)).2).mono ?_⟩
   rintro _ m3 ⟨a,b3,rfl,N,U,z⟩
   have z3:=z.size
   refine⟨z.dv bI,a,b3,rfl,λx=>⟨false,rfl,?_,aJ,t2.ext z⟩,λx=>?_⟩
   .simp only[ig,false_iff]
    exactλht=>nb N x (ht.aR k w t u C F)
   have L:=yb N x
   have P:=az (bZ L).1
   have K:=U (by simpa using x)
   subst K
   have A:=q.aR.ext z
   have R:=q.aY.ext z
   have q1:=Lt (an:=f.an.take k) (aR:=f.aR.take k) (n:=999999) V (λo B=>ak o (gB B)) (ix w)
   have X:(f.aR.take k).length<=10000000:=bI
   have Y:=ap (ix w)
   rw[S,iu]
   refine⟨V,V,_,Fj A P,V,V,UA A P,?_⟩
   rw[show cR (l (ix w)+dq (f.an.take k) (f.aR.take k) (ix w)+t)=l (ix w)+dq (f.an.take k) (f.aR.take k) (ix w)+t from aP V V]
   have G:=Rz A (ix w) (l (ix w)+dq (f.an.take k) (f.aR.take k) (ix w)+t)
   rw[jL (g:=λa=>l a+dq (f.an.take (k+1)) (f.aR.take (k+1)) a)]at G
   .exact⟨λb Z=>bo _ _ _ _ (by simp at Z;omega),((Jw.aA _ _ _).ext z).ag (Or.inl rfl) _ _,by rw[aw];omega,⟨G,R.congr (bo _ _ _ _ λe=>q.ne e.symm),q.ne⟩,λ_=>L⟩
   .intro b c
    rw[Ee u C]
    by_cases e:b=ix w
    .subst e;rw[aj rfl,aj (iV L.1).symm];omega
    .rw[ae e,ae (λab=>e (by rw[ab,ng]))];omega
  .have F:t=0:=by simp at W;omega
   refine⟨Jw.aA _ _ _,z2,⟨?_,q.aY,q.ne⟩,λhp=>V⟩
   rw[jL (g:=λa=>l a+dq (f.an.take k) (f.aR.take k) a)]
   .exact q.aR
   .intro b c;rw[Ee u C,F];split<;>omega
  rintro m3 ⟨t3,z3,z,av⟩
  have F:=t2.trans t3
  have R:=F.Hc x0 ai ah
  have jU:∀(j:Nat)(w o:Int),j<k+1->f.an[j]? =some w->f.aR[j]? =some o->0<o->gC h w:=λj w' o' hj P N=>by
   rcases aZ j k with A|A
   .exact q2 j w' o' A P N
   .have:j=k:=V;subst this;rw[u]at P;rw[C]at N;simp at P N;subst P;subst N;exact av
  have aa:=VF (n:=h.length) al ax
  refine⟨V,V,v,gv R,λx=>⟨V,V,v,gv R,?_⟩,λx=>?_⟩
  .have X:v≠0:=by simpa using x
   have ad:∀{M:E},Jw p c m M->¬(1000<=v/\∃s,h[ix v]? =some s/\s.aQ<0)->∃b:Bool,vb false=vb b/\(b=true<->Xt h f)/\(b=true->Oj M p c h.length (λa=>l a+dq f.an f.aR a) (λa=>fh a+eQ f.aY a))/\Jw p c m M:=λht hn=>
    ⟨false,rfl,by simp only[ig,false_iff];exactλhk=>hn (hk.aY v (ar y) X),aJ,ht⟩
   refine⟨λL=>ad F λ⟨g1,s,g2,_⟩=>?_,λL=>⟨λY=>ad F λ⟨g1,s,g2,_⟩=>?_,λY=>?_⟩⟩
   .have:=(aa.2 ⟨g1,az g2⟩).1;simp at L;omega
   .have:=(aa.2 ⟨g1,az g2⟩).2;simp at Y;omega
   simp at L Y
   let⟨g1,g2⟩:=aa.1 ⟨L,V⟩
   have ew:cR (v -1000)=(ix v:Nat):=by have:=al.2;unfold ix;rw[aP V V];omega
   rw[ew,S]
   let⟨s,hc⟩:=dZ g2
   obtain⟨cf,_,c0,_,_⟩:=(dR.ext R hh).aG hc
   refine⟨V,V,s.aQ,c0,λA=>ad F λ⟨_,c',U,g4⟩=>?_,λA=>?_⟩
   .rw[hc]at U;simp at U;subst U;simp at A;omega
   have q1:=ao (ix v)
   have q2:=lZ (f.aY.take k) (ix v)
   have q3:=iU (f.aY.take k) (ix v)
   have q4:(f.aY.take k).length<=10000000:=bI
   rw[iu]
   refine⟨V,V,_,Fj z.aY g2,V,V,UA z.aY g2,?_⟩
   rw[show cR (fh (ix v)+eQ (f.aY.take k) (ix v)+1)=fh (ix v)+eQ (f.aY.take k) (ix v)+1 from aP V V]
   have G:=Rz z.aY (ix v) (fh (ix v)+eQ (f.aY.take k) (ix v)+1)
   rw[jL (g:=λa=>fh a+eQ (f.aY.take (k+1)) a)]at G
   .refine⟨λb Z=>bo _ _ _ _ (by simp at Z;omega),am V _ ⟨F.ag (Or.inr rfl) _ _,by rw[aw];exact z3,⟨z.aR.congr (bo _ _ _ _ q.ne),G,q.ne⟩,jU,bY y p2 λ_=>⟨g1,s,hc,by simp at A;omega⟩⟩⟩
   .intro b c
    rw[Gh y]
    by_cases e:b=ix v
    .subst e;rw[aj rfl,aj (iV g1).symm];omega
    .rw[ae e,ae (λab=>e (by rw[ab,ng]))];omega
  .have X:v=0:=by simpa using x
   refine am V _ ⟨F,z3,⟨z.aR,?_,q.ne⟩,jU,bY y p2 λG=>absurd X G⟩
   rw[jL (g:=λa=>fh a+eQ (f.aY.take k) a)]
   .exact z.aY
   .intro b c;rw[Gh y,ae V];omega
 .have t:f.an.take k=f.an:=cJ V
  have x:f.aR.take k=f.aR:=cJ V
  have K:f.aY.take k=f.aY:=cJ V
  rw[t,x,K]at q
  rw[K]at p2
  exact⟨true,rfl,by simp only[true_iff];exact⟨λj w o u B=>q2 j w o (oh (az u)) u B,p2⟩,λ_=>q,t2⟩
end
section
def Xj(a:List aU)(k:Nat)(f:aU):Prop:=(Aj a k=none->f.dst=0)/\∀p,Aj a k=some p->0<=f.dst/\f.dst<p.aR.length/\aG p.aR f.dst=0
structure Tq(im:cp)(s:St)(k:Nat)(f:aU):Prop where
 v:Sw im f
 dst:Xj s.av k f
 ZL:Xt s.heap f
def Tq.ok{c:cp}{s:St}{k:Nat}{f:aU}(h:Tq c s k f):Tp c s.heap (Aj s.av k) f:=
 ⟨h.v.eg,h.v.pc,h.v.lr,h.v.lo,h.v.lh,⟨λj w o b a=>⟨(h.v.dx j w o b a).1,(h.v.dx j w o b a).2,h.ZL.aR j w o b a⟩⟩,h.dst.1,h.dst.2⟩
def Pt.w{m:cp}{s:St}(h:Pt m s){k:Nat}{f:aU}(d:s.av[k]? =some f):Tq m s k f:=by
 have F:=h.av k f d;refine⟨⟨F.eg,F.pc,F.lr,F.lo,F.lh,λj w o b c=>⟨(F.an.dx j w o b c).1,(F.an.dx j w o b c).2.1⟩⟩,⟨F.first,F.next⟩,λj w o b c=>(F.an.dx j w o b c).2.2,λw b q=>?_⟩;let⟨g,n⟩:=(h.aY.cN f (ar d) w b).resolve_left q;let⟨e,i⟩:=dZ n;refine⟨g,e,i,Int.not_le.1 λp=>?_⟩;have r:=h.aY.nM _ e i p;have t:=PY (ar d) (b:=ix w);have u:=uP (l:=f.aY) (f:=ix w) (by rw[iV g];exact b);omega
section
variable{m:E}{d p aW c b:O}{a:cp}{s:St}
def Eb(aS:eW m d p a)(a0:iE a)(Q:gR m aW c b s)(ab:Oe s):dT cq 44 [.agg #[O.v d,O.v p],UT s aW c b] m (de a s):=by
 apply yQ;simp -zeta only[aC,aB];intro m1 L;have x2:J m L:=((J.aA m).aH _).aH _;have s1:m1.size=m.size+1:=by simp[m1]
 have s2:L.size=m.size+2:=by simp[L,s1]
 clear_value L;have hl:∀x∈[m1.size,m.size],x<L.size:=bI;have aQ:=Q.av.len;have a_:=Q.heap.len;have ba:=ab.lh;have t:∀{M:E},J L M->¬Pt a s->∃A:Bool,vb false=.bool A/\(A=true<->de a s)/\J m M:=λhx I=>cT (λh=>I (TN h)) (x2.trans hx);have aq:(s.av=[])<->((b.len:Int)=0):=by rw[aQ];simp
 refine⟨λM=>J L M/\(0<=s.bJ/\s.bJ<=3)/\(s.bJ=0<->s.av=[])/\iJ s.value/\(s.value≠0->s.bJ=0),?_,?_⟩
 .refine⟨λy=>t (J.aA _) λi=>by have:=i.bJ;simp at y;omega,λy=>⟨λv=>t (J.aA _) λi=>by have:=i.bJ;simp at v;omega,λv=>⟨λF=>t (J.aA _) λi=>?_,λF=>?_⟩⟩⟩
  .have:=i.done;rw[aq,<-PB]at this;rw[this]at F;cases F
  have ah:0<=s.bJ/\s.bJ<=3:=by simp at y v;omega
  have ag:s.bJ=0<->s.av=[]:=by rw[aq];exact(PB _ _).1 F
  refine(rc _ _).aK (J.aA _) hl λb3 m3 e C _=>⟨b3,rfl,λz=>t C λi=>nb e z i.value,λz=>⟨λf=>⟨λh=>t C λi=>?_,λh=>⟨C,ah,ag,yb e z,λ_=>by simpa using h⟩⟩,λf=>⟨C,ah,ag,yb e z,λh=>by simp at f;exact absurd f h⟩⟩⟩;have:=i.vH (by simpa using f);simp at h;exact h this
 rintro m3 ⟨C,ah,ag,hv,a3⟩;refine⟨λy=>t C λi=>by have:=i.bq;simp at y;omega,λy=>⟨λv=>t C λi=>by have:=i.bq;simp at v;omega,λv=>⟨λF=>t C λi=>by have:=i.bC;simp at F;omega,λF=>⟨λz=>t C λi=>by have:=i.bC;simp at z;omega,λz=>?_⟩⟩⟩⟩;have aV:0<=s.bq/\s.bq<=40:=by simp at y v;omega
 have aM:0<=s.bC/\s.bC<=s.bq:=by simp at F z;omega
 rw[aP V V];refine⟨λf=>t C λi=>by have:=i.depth;simp at f;omega,λf=>?_⟩;have aN:(s.av.length:Int)<=s.bC+1:=by simp at f;omega
 clear y v F z f;have X3:=x2.trans C;refine(Cl (Q.ext X3).heap ab.heap V).mono ?_;rintro _ m4 ⟨ct,b4,rfl,ao,a2,aE⟩;have x4:=C.trans aE;have z4:=x4.size;have z3:=C.size;refine⟨aE.dv λx H=>C.lt (hl x H),ct,b4,rfl,λy=>t x4 λi=>nb ao y i.heap,λy=>?_⟩;have av:=yb ao y;obtain⟨ob,rfl,bb,B4⟩:=a2 (by simpa using y);have bg:=B4.lt;refine(iX (Q.ext (x2.trans x4)).aW 79 #[] #[] be (λai=>¬iJ ai) (λai _ m' hx=>?_)).aK x4 hl ?_
 .apply wq;refine(rc _ _).then λx G H x5=>⟨x,rfl,fJ ?_ x5⟩;rw[<-H];simp
 intro b5 G ap aF x5;have z5:=x5.size;have bh:=aF.size;refine⟨b5,rfl,λv=>t x5 λi=>?_,λv=>?_⟩
 .let⟨ai,hx,I⟩:=ap.1 v;exact I (i.aW ai hx)
 have a1:∀Z∈s.aW,iJ Z:=λZ I=>dB λB=>by have:=ap.2 ⟨Z,I,B⟩;rw[v]at this;cases this
 have en:Int.toNat (c.len:Int)=s.heap.length:=V;rw[en];refine⟨V,V,V,V,?_⟩;intro R;have aH:J G R:=(J.aA G).aH _;have s6:R.size=G.size+1:=by simp[R]
 have H6:cx R G.size aD ((yB s.heap.length (λ_=>0)).map Ce.i):=Uz G _;clear_value R;have x6:=x5.trans aH;have X6:=x2.trans x6;have T6:Oj R ob G.size s.heap.length (fI s.heap) (λ_=>0):=⟨B4.ext (aF.trans aH),H6,V⟩;have aX:m.size<=ob:=by have:=X3.size;omega
 have ak:∀Z:Nat,Int.toNat (Z:Int)=Z:=λZ=>V;have a9:s.av.length<=41:=V;have rb:∀e,0<=fI s.heap e/\fI s.heap e<=3*s.heap.length:=λe=>⟨uS _ _,Ko _ _ λo B=>(av.cells o B).fl⟩;refine fm (n:=s.av.length) V (λj M=>Jw ob G.size R M/\Oj M ob G.size s.heap.length (λe=>fI s.heap e+gU (s.av.take j) e) (λe=>eS (s.av.take j) e)/\∀(q:Nat)(l:aU),q<j->s.av[q]? =some l->Tq a s q l)
  ⟨Jw.aA _ _ _,by simpa[gU,eS]using T6,λq l K=>absurd K (iv _)⟩ ?_
 rintro j W a8 μ i ⟨t7,N,al⟩ a4
 have x7:J L W:=t7.Hc x6 V V;have P:=x2.trans x7;have bd:∀x∈[m1.size,m.size],x<W.size:=λx H=>x7.lt (hl x H);have z7:=x7.size;have bf:=N.aR.lt;have bc:=N.aY.lt;rw[ak];refine dit (λF=>?_) λF=>?_
 .let⟨l,r⟩:=cK s.av j;have au:=ar r;let⟨a6,a5,ac,hr,ho,U,g0,g1,g2,g3,g4,g5⟩:=Q.av.aG r;refine⟨V,V,_,P.af g0,_,P.af g1,_,P.af g2,a6,P.af g3,a5,P.af g4,ac,P.af g5,?_⟩;intro X Y;have T:J W Y:=((J.aA W).aH _).ag (ad _) _ _;have s9:Y.size=W.size+1:=by simp[Y,X,aw]
  clear_value Y;have X9:=P.trans T;have l9:∀x∈[W.size,m1.size,m.size],x<Y.size:=bI;refine(DX (aS.ext X9) (hr.ext X9) (ho.ext X9) (U.ext X9)).aK (J.aA _) l9 λaJ w am D _=>⟨aJ,rfl,λz=>t ((x7.trans T).trans D) λi=>nb am z (i.w r).v,λz=>?_⟩;have hV:=yb am z;have S:=(x7.trans T).trans D;have ae:=x2.trans S;refine⟨λM=>w=M/\Xj s.av j l,?_,?_⟩
  .have ax:(cR ((j:Int) -1)=((j -1:Nat):Int))\/j=0:=by
    rcases j9 j with f|f
    .exact Or.inr f
    .exact Or.inl (by rw[aP V V];omega)
   have kj:0<j->((decide (l.dst<(0:Int)))=true->∃A:Bool,vb false=.bool A/\(A=true<->de a s)/\J m w)/\((decide (l.dst<(0:Int)))=false->
    (0:Int)<=(cR ((j:Int) -(1:Int)))/\(cR ((j:Int) -(1:Int)))<(b.len:Int)/\
    ∃aa:O,af w b.D (b.off+Int.toNat (cR ((j:Int) -(1:Int)))*6+4)=some (O.v aa)/\
    ((decide (l.dst>=(aa.len:Int)))=true->∃A:Bool,vb false=.bool A/\(A=true<->de a s)/\J m w)/\
    ((decide (l.dst>=(aa.len:Int)))=false->(0:Int)<=(cR ((j:Int) -(1:Int)))/\(cR ((j:Int) -(1:Int)))<(b.len:Int)/\
    ∃u:O,af w b.D (b.off+Int.toNat (cR ((j:Int) -(1:Int)))*6+4)=some (O.v u)/\
    (0:Int)<=l.dst/\l.dst<(u.len:Int)/\∃aj:Int,af w u.D (u.off+Int.toNat l.dst*1)=some (vi aj)/\
    ((aj !=(0:Int))=true->∃A:Bool,vb false=.bool A/\(A=true<->de a s)/\J m w)/\((aj !=(0:Int))=false->w=w/\Xj s.av j l))):=λaL=>by
    have e1:=ax.resolve_right V
    rw[e1,ak]
    obtain⟨q,rfl⟩:∃q,j=q+1:=⟨j -1,V⟩
    have ej:q+1 -1=q:=V
    rw[ej]
    let⟨pf,aj⟩:=cK s.av q
    let⟨pr,po,pe,aO,an,aI,y0,y1,y2,y3,y4,y5⟩:=Q.av.aG aj
    have aK:=an.len
    have aa:Aj s.av (q+1)=some pf:=aj
    refine⟨λf=>t S λi=>?_,λf=>⟨V,V,po,ae.af y4,λh=>t S λi=>?_,λh=>⟨V,V,po,ae.af y4,by simpa using f,by simp at h;omega,aG pf.aR l.dst,?_,λu=>t S λi=>?_,λu=>⟨rfl,⟨λI=>(by rw[aa]at I;cases I),λaA hq=>?_⟩⟩⟩⟩⟩
    .have:=((i.w r).dst.2 pf aa).1;simp at f;omega
    .have:=((i.w r).dst.2 pf aa).2.1;simp at h;omega
    .simp at f h
     exact(an.ext ae).pN f V
    .have:=((i.w r).dst.2 pf aa).2.2;simp at u;exact u this
    .rw[aa]at hq;simp at hq;subst hq
     simp at f h u;exact⟨f,V,u⟩
   refine⟨λf=>⟨λh=>t S λay=>?_,λh=>⟨λu=>by simp at f u;omega,λu=>⟨rfl,⟨λ_=>by simpa using h,λaA hq=>?_⟩⟩⟩⟩,λf=>⟨λh=>kj (by simp at h;omega),λh=>by simp at f h;omega⟩⟩
   .simp at f;subst f;have:=(ay.w r).dst.1 rfl;simp at h;exact h this
   .simp at f;subst f;simp[Aj]at hq
  .rintro _ ⟨rfl,hD⟩;have aT:=ab.lr l au;have v1:=hV.lr;have v2:=hV.lo;have v3:=hV.lh;have vL:=D.size;have aI:Oj w ob G.size s.heap.length (λe=>fI s.heap e+gU (s.av.take j) e) (λe=>eS (s.av.take j) e):=⟨N.aR.ext (T.trans D),N.aY.ext (T.trans D),N.ne⟩;have aR:∀e,0<=fI s.heap e+gU (s.av.take j) e/\fI s.heap e+gU (s.av.take j) e<=1000000000000000:=λe=>by
    have q1:=rb e;have q2:=Sf (a:=s.av.take j) (n:=10000000) (k:=999999) V (λaa u=>⟨(ab.lr aa (gB u)).2.1,by
     let⟨q,K⟩:=List.mem_iff_getElem?.1 u;have aj:q<j:=by have:=az K;simp at this;omega
     rw[dG aj]at K;exact(al q aa aj K).v.aR⟩) e
    have q3:(s.av.take j).length<=41:=bI;omega
   have aO:∀e,0<=eS (s.av.take j) e/\eS (s.av.take j) e<=1000000000:=λe=>by
    have q2:=PZ (a:=s.av.take j) (n:=10000000) (λaa u=>(ab.lr aa (gB u)).2.2) e;have q3:(s.av.take j).length<=41:=bI;have q4:=zT (s.av.take j) e;omega
   refine(MQ (i:=m) ae Q.heap hr ho U aX V aI (ab.av l au) V ⟨V,V,aT.2.1⟩ hV.aR aR aO).mono ?_;rintro _ ax ⟨aK,rfl,an,aL,ay⟩;have aA:Jw ob G.size R ax:=(t7.ext (T.trans D)).trans ay;have a7:J L ax:=aA.Hc x6 V V;refine⟨λx H=>ay.same x (D.lt (l9 x H)) (by simp at H;omega) (by simp at H;omega),aK,rfl,λf=>t a7 λi=>nb an f (i.w r).ZL,λf=>a4 V _ ⟨aA,?_,λq aa K u=>?_⟩⟩
   .have aj:=aL (by simpa using f);refine⟨?_,?_,aj.ne⟩
    .rw[jL (g:=λe=>fI s.heap e+gU (s.av.take j) e+dq l.an l.aR e)]
     .exact aj.aR
     .intro x H;rw[SS r];omega
    .rw[jL (g:=λe=>eS (s.av.take j) e+eQ l.aY e)]
     .exact aj.aY
     .intro x H;rw[Ra r]
   .rcases aZ q j with h|h
    .exact al q aa h u
    .have:q=j:=V;subst this;rw[r]at u;simp at u;subst u;exact⟨hV,hD,yb an f⟩
 rw[cJ V]at N;have hW:∀(q:Nat)(l:aU),s.av[q]? =some l->Tq a s q l:=λq l r=>al q l (oh (az r)) r;refine fm (n:=s.heap.length) V (λj M=>J W M/\∀(e:Nat)(o:bP),e<j->s.heap[e]? =some o->(0<o.aQ->o.aQ=fI s.heap e+gU s.av e)/\(o.aQ<0->eS s.av e=1)) ⟨J.aA _,λe o ha=>absurd ha (iv _)⟩ ?_;rintro u X I2 μ2 au ⟨x8,aj⟩ an;have X8:=P.trans x8;rw[ak];refine dit (λz=>?_) λz=>?_
 .have ae:u<s.heap.length:=V;let⟨o,aa⟩:=dZ ae;obtain⟨l,_,g0,g1,g2⟩:=Q.heap.aG aa;refine⟨λM=>J X M/\(0<o.aQ->o.aQ=fI s.heap u+gU s.av u)/\(o.aQ<0->eS s.av u=1),?_,?_⟩
  .refine⟨V,V,_,X8.af g0,_,X8.af g1,l,X8.af g2,?_⟩;intro Y w;have D:J X w:=((J.aA X).aH _).ag (ad _) _ _;clear_value w;have S:=(x7.trans x8).trans D;have go:=Fj (N.aR.ext (x8.trans D)) ae;have gh:=Fj (N.aY.ext (x8.trans D)) ae;simp -zeta only[O.iS,O.jC,O.tH,cD,iu];have aY:(0<o.aQ->o.aQ=fI s.heap u+gU s.av u)->((decide (o.aQ<(0:Int)))=true->(0:Int)<=u/\(u:Int)<(s.heap.length:Int)/\∃am:Int,af w G.size u=some (vi am)/\
    ((am !=(1:Int))=true->∃A:Bool,vb false=.bool A/\(A=true<->de a s)/\J m w)/\((am !=(1:Int))=false->J X w/\(0<o.aQ->o.aQ=fI s.heap u+gU s.av u)/\(o.aQ<0->eS s.av u=1)))/\
    ((decide (o.aQ<(0:Int)))=false->J X w/\(0<o.aQ->o.aQ=fI s.heap u+gU s.av u)/\(o.aQ<0->eS s.av u=1)):=λB=>
    ⟨λf=>⟨V,V,_,gh,λh=>t S λi=>by have:=i.aY.lE u o aa (by simpa using f);simp at h;exact h this,λh=>⟨D,B,λ_=>by simpa using h⟩⟩,λf=>⟨D,B,λh=>by simp at f;omega⟩⟩
   refine⟨λf=>⟨V,V,_,go,λh=>t S λi=>?_,λh=>aY λ_=>by simpa using h⟩,λf=>aY λh=>by simp at f;omega⟩;have:=i.Ua u o aa (by simpa using f);simp at h;exact h this
  .rintro Y ⟨T,w,D⟩;refine an V _ ⟨x8.trans T,λe ac ha U=>?_⟩;rcases aZ e u with h|h
   .exact aj e ac h U
   .have:e=u:=V;subst this;rw[aa]at U;simp at U;subst U;exact⟨w,D⟩
 .refine jV (Rx ⟨a0,ah,ag,hv,a3,aV,aM,aN,a1,av,λq l r=>(hW q l r).ok,⟨λl r w h=>?_,λS o B I=>(aj S o (oh (az B)) B).2 I,λS o B I=>?_⟩,λe o B c=>(aj e o (oh (az B)) B).1 c⟩) X8
  .let⟨q,K⟩:=HL r;by_cases D:w=0
   .exact Or.inl D
   .obtain⟨y,o,v,_⟩:=(hW q l K).ZL.aY w h D;exact Or.inr ⟨y,az v⟩
  .refine K6 λl r w h ac=>?_;let⟨q,K⟩:=HL r;let⟨y,D,v,F⟩:=(hW q l K).ZL.aY w h V;rw[ac,ng,B]at v;simp at v;subst v;omega
def DT(k:eW m d p a)(r:gR m aW c b s)(q:Oe s):dT cq 21 [.agg #[O.v d,O.v p],UT s aW c b] m (de a s):=by
 apply yI;simp -zeta only[aC,aB];intro i e;have f:J m e:=((J.aA m).aH _).aH _;have t:i.size=m.size+1:=by simp[i]
 have x:e.size=m.size+2:=by simp[e,t]
 clear_value e;have l:∀n∈[i.size,m.size],n<e.size:=bI;refine(oO (k.ext f)).aK (J.aA _) l λb3 v j g _=>⟨b3,rfl,λh=>?_,λh=>cT (λo=>fb j h o.fy) (f.trans g)⟩;refine(Eb (k.ext (f.trans g)) (j.1 h) (r.ext (f.trans g)) q).aK g l λb4 w o y u=>⟨b4,rfl,fJ o (f.trans u)⟩
end
end
end Go.Proofs.YtkoifinbblcbiaaGreat
section
namespace Go.Vc
def fX.kM{m:E}{b o:Nat}{l r:List Ce}(h:fX m b o l)(k:fX m b (o+l.length) r):fX m b o (l++r):=λi d a=>by
 rcases aZ i l.length with c|c
 .rw[ax c]at a;exact h i d a
 .rw[aF c]at a;have:=k _ d a;rwa[show o+l.length+(i -l.length)=o+i by omega]at this
def eR.Uq{α:Type}{m:E}{c:Nat}{R:List Ce->α->Prop}{s:O}{l:List α}(h:eR m c R s l)(j:∀d x,R d x->d.length=c):∃a,gE c R a l/\fX m s.D s.off a.flatten:=by
 have:∀k,k<=l.length->∃a,gE c R a (l.take k)/\fX m s.D s.off a.flatten:=by
  intro k;induction k with
  |zero=>intro _;exact⟨[],by simpa using gE.nil c R,λi e b=>by simp at b⟩
  |succ k o=>
   intro p;let⟨a,b,e⟩:=o V;let⟨x,g⟩:=cK l k;let⟨d,f,i⟩:=h.iF k x g;refine⟨a++[d],by rw[bd g];exact b.yT (j d x f) f,?_⟩;rw[qU];refine e.kM ?_;have n:a.flatten.length=k*c:=by rw[cg b.size,b.len,gG,jd V]
   rw[n];simpa using i
 let⟨a,b,e⟩:=this l.length (ad _);rw[fx]at b;exact⟨a,b,e⟩
end Go.Vc
namespace Go.Proofs.YtkoifinbblcbiaaGreat
open Go.Vc
variable{m:E}{s:O}{d:Nat->Nat}
def gY.LD{a:E}{l:List Ce}{e n:Nat}(f:gY m a e n s l)(j:J m a)(i:∀b,m.size<=b->d b=0)(k:Nat):∃c,dz (λ_=>False) d m c a/\iz c a e n k s l/\∀b,c b=d b\/c b=k:=by
 rcases f.aG with h|⟨b,g,tail,h,h2,h3,h4,h5⟩
 .exact⟨d,dz.eT _ j i,iz.gK f λo=>absurd h o,λb=>Or.inl rfl⟩
 .refine⟨pw d b k,dz.pw j i h2 h3.lt k,iz.gK f λ_=>by rw[h];exact fR _ _ _,λg=>?_⟩;by_cases e:g=b
  .rw[e];exact Or.inr (fR _ _ _)
  .exact Or.inl (ez e)
structure ZX(N:Nat)(d:Nat->Nat)(m:E)(r:O)(h:List bP)(css0 css:List (List Ce))(k:Nat):Prop where
 pD:iz d m nE 3 3 r css.flatten
 len:css.length=h.length
 size:∀cs∈css,cs.length=3
 done:∀(j:Nat)(cs:List Ce)(c:bP),j<k->css[j]? =some cs->h[j]? =some c->yh N d m cs c
 kj:∀j,k<=j->css[j]? =css0[j]?
 sep:∀(i j:Nat)(ci cj:List Ce)(a b:O),i<k->j<k->css[i]? =some ci->css[j]? =some cj->ci[2]? =some (.s a)->cj[2]? =some (.s b)->i≠j->a.len≠0->b.len≠0->a.D≠b.D
def Au{a:List (List Ce)}{n:Nat}(d:s.len=n)(g:a.length=n)(k:∀b∈a,b.length=3)(j:fX m s.D s.off a.flatten)(t:n<=1000000000):
 aM cq 94 [O.v s] m λv c=>∃r,v=O.v r/\gY m c nE 3 r a.flatten/\J m c:=by
 apply nk
 refine⟨λh=>?_,λh=>?_⟩
 .cases s with
  |nil=>simp at d;have:a=[]:=List.length_eq_zero_iff.1 V;subst this;exact⟨.nil,rfl,gY.nil _ _ _ _,J.aA _⟩
  |mk b o f e=>simp at h
  |zP b o e=>simp at h
 .intro e
  have b:J m e:=(J.aA m).aH _
  have i:gY m e nE 3 (.mk m.size 0 0 0) []:=gY.new (J.aA m) nE 3 [] 0 aJ
  refine gY.append (c:=[.i 0,.i 0,.s .nil]) (h:=a.flatten) i b (by rw[cg k,g,d];rfl) (b.iF j) bI λr c b f l o p q=>⟨r,rfl,by simpa using b,f⟩
def FQ{N:Nat}{hp:O}{r:List bP}(hn:∀b,m.size<=b->d b=0)(h3:∀b,b<m.size->d b≠3)(hh:dR m hp r)(hN:N<=m.size)(ax:∀c∈r,c.aN.length<=3)(aA:r.length<=1000000000):
 aM cq 57 [O.v hp] m λaF m'=>∃W s,aF=O.v s/\dQ N W m' s r/\dz (λk=>k=3) d m W m'/\J m m':=by
 apply zY
 simp -zeta only[aC,aB]
 have hl:=hh.len
 let⟨aa,u,jm⟩:=hh.Uq (λz an⟨af,e,_⟩=>by rw[e];rfl)
 refine(Au hl u.len u.size jm aA).mono ?_
 rintro _ m1 ⟨y,rfl,or,x1⟩
 obtain⟨g,C1,X,_⟩:=gY.LD or x1 hn 3
 have aL:y.len=r.length:=by have:=X.len;rw[cg u.size,u.len]at this;omega
 refine⟨y,rfl,?_⟩
 have aE:∀{W:Nat->Nat}{M:E},dz (λk=>k=3) d m W M->J m M:=λc=>⟨c.size,λb i=>c.dP b i (h3 b i)⟩
 refine fm (n:=r.length) V (λk M=>∃h,ZX N g M y r aa h k/\dz (λk=>k=3) d m g M) ⟨aa,⟨X,u.len,u.size,λj _ _ l=>absurd l (iv _),λ_ _=>rfl,λB _ _ _ _ _ D=>absurd D (iv _)⟩,C1.mono λ_=>False.elim⟩ ?_
 rintro k F aG μ hk ⟨h,a,v⟩ aD
 have X2:=aE v
 have en:Int.toNat (k:Int)=k:=V
 rw[en]
 refine dit (λR=>?_) λR=>?_
 .have ak:k<r.length:=V
  let⟨c,T⟩:=dZ ak
  let⟨af,hf,g0,g1,g2⟩:=(dR.ext X2 hh).aG T
  have aK:=ax c (ar T)
  refine⟨V,V,c.aQ,g0,c.kH,g1,af,g2,?_⟩
  intro m3 G
  have x4:J F G:=((J.aA F).aH _).ag (ad _) _ _
  have s4:G.size=F.size+1:=by simp[G,m3,aw]
  clear_value G
  refine(eL (hf.ext x4) V).mono ?_
  rintro _ H ⟨q,rfl,oq,x5⟩
  have K:dz (λ_=>False) g F g H:=dz.eT _ (x4.trans x5) v.new
  have Y:=a.pD.eY K id
  have aH:=a.len
  have ai:k*3+2+1<=h.flatten.length:=by rw[cg a.size];have:(k+1)*3<=h.length*3:=dh _ V;omega
  let⟨z,U⟩:=cK h k
  let⟨ae,ah⟩:=cK aa k (by rw[u.len];exact ak)
  have ao:z=ae:=by have:=a.kj k (ad _);rw[U,ah]at this;simpa using this
  let⟨f0,ap,aI⟩:=u.dx k ae c ah T
  rw[ao,ap]at U
  have av:y.cap≠0:=λe=>by have:=X.le;omega
  have rb:=Y.D av
  have c6:∀am,dz (λk=>k=3) g H g (ag H y.D (y.off+(k*3+2)) am):=λam=>dz.ag K.new rb.2 _ _
  have au:g F.size=0:=v.new _ (ad _)
  refine⟨x5.dv bI,q,rfl,V,V,?_⟩
  rw[dk]
  refine⟨Y.wr ai,?_⟩
  intro m6
  have I:=c6 [.s q]
  have ab:c.aN≠[]->g q.D=0/\G.size<=q.D:=λx=>by
   have:=(FB.gK oq x).1;exact⟨v.new _ V,this⟩
  have iq:aq H q c.aN:=aq.gK oq V
  have L6:yh N g m6 [.i c.aQ,.i c.kH,.s q] c:=yh.eY I be _ _ ⟨q,rfl,iq,λx=>⟨(ab x).1,P7 ((ab x).2) v.size,(FB.gK oq x).2⟩⟩
  have ac:(h.set k [.i c.aQ,.i c.kH,.s q])[k]? =some [.i c.aQ,.i c.kH,.s q]:=dJ (az U)
  refine⟨(I.mono λk hk=>by omega:To g H g m6).dv (by simp;exact⟨by have:=x5.size;omega,au⟩),aD V _ ⟨h.set k [.i c.aQ,.i c.kH,.s q],⟨?_,by simpa using a.len,λZ w=>?_,λj Z Q l w hd=>?_,λj l=>?_,?_⟩,(v.trans (K.mono λ_=>False.elim)).trans I⟩⟩
  .have:=Y.set (o:=k*3+2) (new:=[.s q]) ai
   rw[BZ h k _ 2 [.s q] a.size U aJ]at this
   exact this
  .rcases dp w with f|f
   .exact a.size Z f
   .rw[f];rfl
  .rcases aZ j k with f|f
   .rw[cz V]at w
    exact yh.eY I be _ _ (yh.eY K id _ _ (a.done j Z Q f w hd))
   .have:j=k:=V
    subst this
    rw[ac]at w
    simp at w;subst w
    rw[T]at hd;simp at hd;subst hd;exact L6
  .rw[cz V];exact a.kj j V
  .have al:∀(j:Nat)(p:List Ce)(b:O),j<k->h[j]? =some p->p[2]? =some (.s b)->q.len≠0->b.len≠0->q.D≠b.D:=λj p b l t i f C=>by
    let⟨Q,hd⟩:=cK r j;obtain⟨b',e,ib,_⟩:=a.done j p Q l t hd;rw[e]at i;simp at i;subst i;have x:Q.aN≠[]:=λe=>by have:=ib.len;rw[e]at this;simp at this;exact C this
    have ay:c.aN≠[]:=λe=>by have:=iq.len;rw[e]at this;simp at this;exact f this
    have:=iP ib x;have:=(ab ay).2;omega
   intro B j P p L b D l A t S i aj f C
   by_cases ik:B=k
   .subst ik
    rw[ac]at A
    rw[cz aj]at t
    simp at A;subst A;simp at S;subst S
    exact al j p b V t i f C
   .rw[cz (λe=>ik e.symm)]at A
    by_cases jk:j=k
    .subst jk
     rw[ac]at t
     simp at t;subst t;simp at i;subst i
     exact kJ (al B P L V A S C f)
    .rw[cz (λe=>jk e.symm)]at t
     exact a.sep B j P p L b V V A t S i aj f C
 .have e:∀{j:Nat}{z:List Ce},h[j]? =some z->j<k:=λl=>by have:=az l;have:=a.len;omega
  exact⟨g,y,rfl,⟨h,a.pD,⟨a.len,a.size,λj z an R f=>a.done j z an (e R) R f⟩,λB j P p L b D l=>a.sep B j P p L b (e D) (e l) D l⟩,v,X2⟩
end Go.Proofs.YtkoifinbblcbiaaGreat
end
namespace Go.Proofs.YtkoifinbblcbiaaGreat
open Go.Vc
section
variable{a g:Nat->Nat}{m h e:E}{s:St}{d:List (List Ce)}
structure Bs(e:E)(a:Nat->Nat)(m:E):Prop where
 cv:J e m
 jB:∀b,b<e.size->a b=0
 new:∀b,m.size<=b->a b=0
structure qx(e:E)(a:Nat->Nat)(m:E)(aW hp fr:O)(s:St):Prop where
 bs:Bs e a m
 aW:iz a m aD 1 2 aW (s.aW.map Ce.i)
 heap:dQ e.size a m hp s.heap
 av:pA a m fr s.av
structure DL(s:St):Prop where
 aW:s.aW.length<=900000000
 fl:∀c∈s.heap,c.aN.length<=3
 heap:s.heap.length<=900000000
 depth:s.av.length<=1000
 av:∀f∈s.av,f.an.length<=1000000/\f.aR.length<=1000000/\f.aY.length<=1000000
def Yw(e:E)(a:Nat->Nat)(m:E)(s:St)(v:Value)(h:E):Prop:=∃g aW c b,v=UT s aW c b/\qx e g h aW c b s/\dz (λ_=>False) a m g h
abbrev XU:=dz (λk=>2<=k)
def XU.none(c:XU a m g h)(e:∀b,b<m.size->a b<=1):dz (λ_=>False) a m g h:=⟨c.size,c.jc,c.new,λb d _=>c.dP b d (oh (e b d))⟩
def dz.Hc(b:dz (λ_=>False) a m g h):J m h:=⟨b.size,λc d=>b.dP c d id⟩
def Bs.eY(B:Bs e a m)(b:dz (λ_=>False) a m g h):Bs e g h:=⟨B.cv.trans b.Hc,λc d=>by rw[b.jc c (B.cv.lt d)];exact B.jB c d,b.new⟩
structure XV(e:E)(a:Nat->Nat)(m:E)(g:Nat->Nat)(M:E)(q r:O)(s:St):Prop where
 eY:XU a m g M
 aW:iz g M aD 1 2 q (s.aW.map Ce.i)
 heap:dQ e.size g M r s.heap
def XV.my{i j:Nat->Nat}{f g:E}{q r:O}(h:XV e a m i f q r s){p:Nat->Prop}(d:dz p i f j g)(c:∀k,p k->4<=k):XV e a m j g q r s:=
 ⟨h.eY.trans (d.mono λk b=>oh (c k b)),h.aW.eY d λb=>oh (c _ b),h.heap.eY d (λb=>oh (c _ b)) λb=>oh (c _ b)⟩
def yS{s:O}{n:Nat}(c:s.len=n)(g:d.length=n)(k:∀a∈d,a.length=6)(j:fX m s.D s.off d.flatten)(t:n<=1000000000):
 aM cq 58 [O.v s] m λv h=>∃r,v=O.v r/\gY m h cL 6 r d.flatten/\J m h:=by
 apply mM
 refine⟨λb=>?_,λb=>?_⟩
 .cases s with
  |nil=>simp at c;have:d=[]:=List.length_eq_zero_iff.1 V;subst this;exact⟨.nil,rfl,gY.nil _ _ _ _,J.aA _⟩
  |mk a o f e=>simp at b
  |zP a o e=>simp at b
 .intro e
  have a:J m e:=(J.aA m).aH _
  have i:gY m e cL 6 (.mk m.size 0 0 0) []:=gY.new (J.aA m) cL 6 [] 0 aJ
  refine gY.append (c:=[.i 0,.i 0,.i 0,.s .nil,.s .nil,.s .nil]) (h:=d.flatten) i a (by rw[cg k,g,c];rfl) (a.iF j) bI λr h a f l o p q=>⟨r,rfl,by simpa using a,f⟩
structure ZV(a:Nat->Nat)(m:E)(r:O)(fs:List aU)(css0 d:List (List Ce))(k:Nat):Prop where
 pD:iz a m cL 6 4 r d.flatten
 len:d.length=fs.length
 size:∀cs∈d,cs.length=6
 done:∀(j:Nat)(cs:List Ce)(f:aU),j<k->d[j]? =some cs->fs[j]? =some f->Tn a m j cs f
 kj:∀j,k<=j->d[j]? =css0[j]?
def Ro{k o:Nat}{a:List Ce}{x:Ce}(e:∀a∈d,a.length=6)(b:d[k]? =some a)(g:o<6):js d.flatten (k*6+o) [x]=(d.set k (a.set o x)).flatten/\(∀c∈d.set k (a.set o x),c.length=6)/\(d.set k (a.set o x))[k]? =some (a.set o x):=by
 refine⟨BZ d k a o [x] e b bI,λc f=>?_,dJ (az b)⟩;rcases dp f with h|h
 .exact e c h
 .rw[h,eE];exact e a (ar b)
def DW{aW hp w:O}(al:Bs e a m)(ay:∀c,a c<=1)(T:gR m aW hp w s)(ae:DL s):aM cq 32 [UT s aW hp w] m (Yw e a m s):=by
 apply yK;simp -zeta only[aC,aB];intro h A;have s1:h.size=m.size+1:=by simp[h]
 have s2:A.size=m.size+2:=by simp[A,s1]
 have x2:J m A:=((J.aA m).aH _).aH _;obtain⟨G,ao⟩:∃G,G=pw (pw a m.size 8) h.size 8:=⟨_,rfl⟩;have C2:dz (λ_=>False) a m G A:=by
  rw[ao];exact(dz.pw (m':=h) (k:=8) ((J.aA m).aH _) al.new (ad _) V).trans (dz.pw (m':=A) (k:=8) ((J.aA h).aH _) (λc hb=>by rw[ez V];exact al.new c V) (ad _) V)
 have r0:G m.size=8/\G h.size=8:=by rw[ao];exact⟨by rw[ez V,fR],fR _ _ _⟩
 have a2:∀c,G c=8\/G c<=1:=λc=>by
  rw[ao];unfold pw;split
  .exact Or.inl rfl
  .split
   .exact Or.inl rfl
   .exact Or.inr (ay c)
 have aY:cx A h.size jz [.i 0,.i 0,.i 0,.i 0,.s .nil,.s .nil,.s .nil]:=cx.push h _ _;have bq:cx A m.size jz [.i s.bJ,.i s.value,.i s.bC,.i s.bq,.s aW,.s hp,.s w]:=(cx.push m _ _).ext (J.push h _);clear_value A;clear ao;have hN:=al.cv.size;have bn:=ae.aW;have bm:=ae.heap;have bi:=ae.depth;refine(eL (T.aW.ext x2) V).mono ?_;rintro _ m3 ⟨ai,rfl,oq,H⟩;let⟨ba,C3,A3,a3⟩:=gY.LD oq H C2.new 2;have z3:=H.size;have kp:∀{M M':E},J M M'->m.size<M.size->∀i,af M' m.size i=af M m.size i:=λhx ac i=>aL (hx.same _ ac) i;have X3:=x2.trans H;refine⟨H.dv bI,ai,rfl,kp H V _,kp H V _,(FQ (N:=e.size) C3.new (λc _=>P7 (a3 c) (a2 c)) (T.ext X3).heap V ae.fl V).mono ?_⟩;rintro _ m4 ⟨bb,aj,rfl,H4,Y,x4⟩;have z4:=x4.size;have X4:=X3.trans x4;have K4:XV e a m bb m4 ai aj s:=⟨((C2.trans C3).mono λ_=>False.elim:XU a m ba m3).trans (Y.mono λb R=>V),A3.eY Y be,H4⟩;have aX:=T.av.len;let⟨an,q,jm⟩:=(T.ext X4).av.Uq (λQ ak⟨_,_,_,t,_⟩=>by rw[t];rfl);refine⟨x4.dv bI,aj,rfl,kp x4 V _,(yS aX q.len q.size jm V).mono ?_⟩;rintro _ m5 ⟨fc,rfl,of,x5⟩;let⟨u,K,A5,br⟩:=gY.LD of x5 Y.new 4;have z5:=x5.size;have K5:=K4.my K λ_=>False.elim;refine⟨x5.dv bI,fc,rfl,?_⟩;intro m6 m7 F;have r5:u m.size=8/\u h.size=8:=⟨by rw[K.jc _ V,Y.jc _ V,C3.jc _ V];exact r0.1,by rw[K.jc _ V,Y.jc _ V,C3.jc _ V];exact r0.2⟩;have C8:dz (λb=>b=8) u m5 u F:=((dz.ag K.new (show(λb=>b=8) (u m.size)from r5.1) _ _).trans (dz.ag (by rw[aw];exact K.new) (show(λb=>b=8) (u m.size)from r5.1) _ _)).trans (dz.ag (by rw[aw,aw];exact K.new) (show(λb=>b=8) (u m.size)from r5.1) _ _);have K8:XV e a m u F ai aj s:=K5.my C8 λb R=>V;have A8:iz u F cL 6 4 fc an.flatten:=A5.eY C8 be;have a0:cx F h.size jz [.i 0,.i 0,.i 0,.i 0,.s .nil,.s .nil,.s .nil]:=((aY.ext (H.trans (x4.trans x5))).congr (by
  show(ag (ag (ag m5 m.size 4 _) m.size 5 _) m.size 6 _)[h.size]? =_;rw[bo _ _ _ _ V,bo _ _ _ _ V,bo _ _ _ _ V]))
 have s8:F.size=m5.size:=by simp[F,m7,m6,aw]
 clear_value F;have bk:fc.len=s.av.length:=by have:=A8.len;rw[cg q.size,q.len]at this;omega
 refine fm (n:=s.av.length) V (λb M=>∃g d,XV e a m g M ai aj s/\ZV g M fc s.av an d b/\m5.size<=M.size/\g m.size=8/\g h.size=8/\cx M h.size jz [.i 0,.i 0,.i 0,.i 0,.s .nil,.s .nil,.s .nil])
  ⟨u,an,K8,⟨A8,q.len,q.size,λy _ _ hj=>absurd hj (iv _),λ_ _=>rfl⟩,V,r5.1,r5.2,a0⟩ ?_
 rintro b l bc μ R ⟨B,d,Z,f,z9,r9,aI,a1⟩ a6
 have en:Int.toNat (b:Int)=b:=V;rw[en];have aQ:∀{g:Nat->Nat}{M:E},XU a m g M->J m M:=λaO=>(aO.none λc _=>ay c).Hc;refine dit (λh1=>?_) λh1=>?_
 .have aH:b<s.av.length:=V;let⟨j,hf⟩:=dZ aH;have bj:=ae.av j (ar hf);let⟨aP,ab⟩:=cK an b (by rw[q.len];exact aH);let⟨ra,oa,ha,e0,ir,io,ih⟩:=q.dx b aP j ab hf;have aG:d[b]? =some [.i j.eg,.i j.pc,.i j.dst,.s ra,.s oa,.s ha]:=by rw[f.kj b (ad _),ab,e0]
  have S:∀(i:Nat)(ak:Ce),[Ce.i j.eg,.i j.pc,.i j.dst,.s ra,.s oa,.s ha][i]? =some ak->af l fc.D (fc.off+b*6+i)=some ak.v:=λi ak hx=>by
   have:=f.pD.iF (b*6+i) ak (fV f.size aG hx);rwa[<-dk]at this
  obtain⟨r',o',h',jr,jo,jh,_,_,_,y3,y4,y5⟩:=T.av.aG hf;have X9:=aQ Z.eY;have er:r'=ra/\o'=oa/\h'=ha:=by
   obtain⟨bf,⟨bd,b1,c1,e1,_⟩,bp⟩:=T.av.iF b j hf;have g3:af m4 w.D (w.off+b*6+3)=some (O.v ra):=by
    have:=jm (b*6+3) (.s ra) (fV q.size ab (by rw[e0];rfl));rwa[<-dk]at this
   have g4:af m4 w.D (w.off+b*6+4)=some (O.v oa):=by
    have:=jm (b*6+4) (.s oa) (fV q.size ab (by rw[e0];rfl));rwa[<-dk]at this
   have g5:af m4 w.D (w.off+b*6+5)=some (O.v ha):=by
    have:=jm (b*6+5) (.s ha) (fV q.size ab (by rw[e0];rfl));rwa[<-dk]at this
   rw[X4.af y3]at g3;rw[X4.af y4]at g4;rw[X4.af y5]at g5;exact⟨O.Hg.1 (mq g3),O.Hg.1 (mq g4),O.Hg.1 (mq g5)⟩
  obtain⟨rfl,rfl,rfl⟩:=er;refine⟨V,V,_,S 0 _ rfl,_,S 1 _ rfl,_,S 2 _ rfl,_,S 3 _ rfl,_,S 4 _ rfl,_,S 5 _ rfl,?_⟩;intro aA U;have aq:J l U:=((J.aA l).aH _).ag (ad _) _ _;have bw:U.size=l.size+1:=by simp[U,aA,aw]
  clear_value U;have aF:dz (λ_=>False) B l (pw B l.size 8) U:=dz.pw aq Z.eY.new (ad _) V 8;refine(eL (jr.ext (X9.trans aq)) V).mono ?_;rintro _ bs ⟨qr,rfl,a7,v⟩;obtain⟨bu,ax,aJ,_⟩:=gY.LD a7 v aF.new (10+3*b);have bz:=v.size;have p:∀{M M':E}{c:Nat},J M M'->c<M.size->∀i,af M' c i=af M c i:=λhx ac i=>aL (hx.same _ ac) i;have bl:∀{M:E},U.size<=M.size->∀c∈[l.size,m.size,h.size],c<M.size:=λbg c hb=>by simp at hb;omega
  refine⟨v.dv (bl (ad _)),qr,rfl,p v V _,p v V _,p v V _,p v V _,p v V _,(eL (jo.ext (X9.trans (aq.trans v))) V).mono ?_⟩;rintro _ bt ⟨qo,rfl,a8,C⟩;obtain⟨bv,am,aK,_⟩:=gY.LD a8 C ax.new (11+3*b);have bA:=C.size;refine⟨C.dv (bl V),qo,rfl,p C V _,p C V _,p C V _,p C V _,(eL (jh.ext (X9.trans (aq.trans (v.trans C)))) V).mono ?_⟩;rintro _ aD ⟨qh,rfl,a9,X⟩;obtain⟨r,D,aN,_⟩:=gY.LD a9 X am.new (12+3*b);have bB:=X.size;have L:dz (λ_=>False) B l r aD:=((aF.trans ax).trans am).trans D;have P:r l.size=8/\r m.size=8/\r h.size=8:=⟨by rw[D.jc _ V,am.jc _ V,ax.jc _ V];exact fR _ _ _,by rw[L.jc _ V];exact r9,by rw[L.jc _ V];exact aI⟩;have A9:=f.pD.eY L id;have aV:fc.cap≠0:=λt=>by have:=f.pD.le;omega
  have W:=A9.D aV;have a_:fc.D≠m.size/\fc.D≠h.size/\fc.D≠l.size:=⟨λt=>by have:=W.2;rw[t,P.2.1]at this;omega,λt=>by have:=W.2;rw[t,P.2.2]at this;omega,λt=>by have:=W.2;rw[t,P.1]at this;omega⟩;have bh:=f.len;have Dl:∀z,z<6->b*6+z+1<=d.flatten.length:=λz ho=>by rw[cg f.size];have:(b+1)*6<=d.length*6:=dh _ V;omega
  have sm:∀{M:E}(z:Nat)(ah:List Ce),dY [l.size,m.size,h.size] M (ag M fc.D z ah):=λz ah c hb=>bo _ _ _ _ (by simp at hb;omega);have gg:∀{M:E}(z:Nat)(ah:List Ce)(i:Nat),af (ag M fc.D z ah) m.size i=af M m.size i:=λz ah i=>aL (bo _ _ _ _ (λt=>a_.1 t.symm)) i;refine⟨X.dv (bl V),qh,rfl,p X V _,p X V _,p X V _,V,V,?_⟩;simp -zeta only[dk];refine⟨A9.wr (Dl 3 be),?_⟩;let⟨e1,f1,aS⟩:=Ro (x:=.s qr) (o:=3) f.size aG be;have au:=A9.set (o:=b*6+3) (new:=[.s qr]) (Dl 3 be);rw[e1]at au;intro a4;let⟨e2,f2,aT⟩:=Ro (x:=.s qo) (o:=4) f1 aS be;have av:=au.set (o:=b*6+4) (new:=[.s qo]) (by have:=Dl 4 be;rw[cg f.size]at this;rw[cg f1,eE];exact this);rw[e2]at av;refine⟨sm _ _,gg _ _ _,gg _ _ _,V,V,au.wr (by have:=Dl 4 be;rw[cg f.size]at this;rw[cg f1,eE];exact this),?_⟩;intro a5;let⟨e3,f3,aU⟩:=Ro (x:=.s qh) (o:=5) f2 aT be;have aE:=av.set (o:=b*6+5) (new:=[.s qh]) (by have:=Dl 5 be;rw[cg f.size]at this;rw[cg f2,eE,eE];exact this);rw[e3]at aE;refine⟨sm _ _,gg _ _ _,V,V,av.wr (by have:=Dl 5 be;rw[cg f.size]at this;rw[cg f2,eE,eE];exact this),?_⟩;intro ap;have I:dz (λb=>b=4) r aD r ap:=((dz.ag D.new (show(λb=>b=4) (r fc.D)from W.2) _ _).trans (dz.ag (by rw[aw];exact D.new) (show(λb=>b=4) (r fc.D)from W.2) _ _)).trans (dz.ag (by rw[aw,aw];exact D.new) (show(λb=>b=4) (r fc.D)from W.2) _ _);have bx:ap.size=aD.size:=by simp[ap,a5,a4,aw]
  have uK:Tn r ap b [.i j.eg,.i j.pc,.i j.dst,.s qr,.s qo,.s qh] j:=⟨qr,qo,qh,rfl,(((aJ.eY am id).eY D id).eY I V),(aK.eY D id).eY I V,aN.eY I V⟩;refine⟨sm _ _,a6 V _ ⟨r,_,(Z.my L λ_=>False.elim).my I λb R=>V,⟨aE,by simp;exact f.len,f3,λy Q aR hj aa hg=>?_,λy hj=>?_⟩,V,P.2.1,P.2.2,(a1.ext L.Hc).congr (I.dP _ V (by rw[P.2.2];decide))⟩⟩
  .rcases aZ y b with h5|h5
   .rw[cz V,cz V,cz V]at aa;exact((f.done y Q aR h5 aa hg).eY L λ_ _ _=>id).eY I λb R _=>V
   .have:y=b:=V;subst this;rw[aU]at aa;simp at aa;subst aa;rw[hf]at hg;simp at hg;subst hg;exact uK
  .rw[cz V,cz V,cz V];exact f.kj y V
 .intro aA;have r:dz (λb=>b=8) B l B aA:=dz.ag Z.eY.new (show(λb=>b=8) (B h.size)from aI) _ _;have p:=Z.my r λb R=>V;have ac:∀{y:Nat}{Q:List Ce},d[y]? =some Q->y<b:=λhj=>by have:=az hj;have:=f.len;omega
  have v:pA B l fc s.av:=⟨d,f.pD,f.len,f.size,λi Q j h1 t=>f.done i Q j (ac h1) h1 t⟩;have D:=p.eY.none λc _=>ay c;exact⟨B,ai,aj,fc,rfl,⟨al.eY D,p.aW,p.heap,v.eY r λb R=>V⟩,D⟩
end
section
variable{e:Nat->Nat}{d:E}
abbrev z7:List Ce:=[.i 0,.i 0,.i 0,.i 0,.s .nil,.s .nil,.s .nil]
structure RI(m0:E)(ro:Nat->Nat)(m m2:E)(s:St)(ro':Nat->Nat)(M:E)(q r:Option O)(ob:Option Nat):Prop where
 eY:XU ro m ro' M
 ext:J m2 M
 no3:r=none->∀b,ro' b≠3
 box:∀b,m.size<=b->b<m2.size->ro' b=8
 aW:∀x,q=some x->iz ro' M aD 1 2 x (s.aW.map Ce.i)
 heap:∀x,r=some x->dQ m0.size ro' M x s.heap
 ob:∀x,ob=some x->m2.size<=x/\ro' x=8/\cx M x jz z7
section
variable{h:E}{i:Nat->Nat}{m g:E}{s:St}{f:Nat->Nat}{M:E}{q r:Option O}{j:Option Nat}
def RI.jU(k:RI h i m g s f M q r j)(n:dz (λa=>a=3) f M e d)(p:J M d)(C:∀b,m.size<=b->b<g.size->e b=8){u o:Option O}{t:Option Nat}(z:r=none\/dz (λ_=>False) f M e d)(B:o=none->∀b,e b≠3)
 (w:∀x,u=some x->q=some x\/iz e d aD 1 2 x (s.aW.map Ce.i))(y:∀x,o=some x->r=some x\/dQ h.size e d x s.heap)(A:∀x,t=some x->j=some x\/(g.size<=x/\e x=8/\cx d x jz z7)):RI h i m g s e d u o t:=
 ⟨k.eY.trans (n.mono λa c=>V),k.ext.trans p,B,C,λx c=>(w x c).elim (λa=>(k.aW x a).eY n be) id,
  λx c=>(y x c).elim (λa=>z.elim (λl=>by rw[l]at a;cases a) λl=>(k.heap x a).eY l id id) id,
  λx c=>(A x c).elim (λa=>by
   let⟨v,b,l⟩:=k.ob x a;exact⟨v,by rw[n.jc _ l.lt];exact b,l.ext p⟩) id⟩
def RI.Uf(a:RI h i m g s f M q r j){p:Nat->Prop}(l:dz p f M e d):∀b,m.size<=b->b<g.size->e b=8:=λb k c=>by rw[l.jc b (a.ext.lt c)];exact a.box b k c
def RI.c(b:RI h i m g s f M none r j){x:O}(n:gY M d aD 1 x (s.aW.map Ce.i))(k:J M d):∃e,RI h i m g s e d (some x) r j:=by
 let⟨e,C,A,l⟩:=gY.LD n k b.eY.new 2;exact⟨e,b.jU (C.mono λ_=>False.elim) k (b.Uf C) (Or.inr C) (λa c=>P7 (l c) (b.no3 a c)) (λy a=>Or.inr (by simp at a;subst a;exact A)) (λy a=>Or.inl a) λy a=>Or.inl a⟩
def RI.a(a:RI h i m g s f M q r j)(b:J M d):RI h i m g s f d q r j:=
 have C:dz (λ_=>False) f M f d:=dz.eT _ b a.eY.new
 a.jU (C.mono λ_=>False.elim) b (a.Uf C) (Or.inr C) a.no3 (λy e=>Or.inl e) (λy e=>Or.inl e) λy e=>Or.inl e
def RI.b(b:RI h i m g s f M q r none){d:E}(a:d=M.push (.cells (bA z7) jz)):∃e,RI h i m g s e d q r (some M.size):=by
 have l:J M d:=by rw[a];exact J.push _ _
 have C:dz (λ_=>False) f M (pw f M.size 8) d:=dz.pw l b.eY.new (ad _) (by rw[a];simp) 8;refine⟨_,b.jU (C.mono λ_=>False.elim) l (b.Uf C) (Or.inr C) (λn c=>?_) (λy a=>Or.inl a) (λy a=>Or.inl a) λy j=>Or.inr ?_⟩
 .by_cases k:c=M.size
  .rw[k,fR];decide
  .rw[ez k];exact b.no3 n c
 .simp at j;subst j;exact⟨b.ext.size,fR _ _ _,by rw[a];exact cx.push _ _ _⟩
end
end
section
variable{n e:Nat}{m2 M a:E}
def Mt:St:=⟨0,0,0,0,[],[],[]⟩
structure Z2 where
 s:St
 ok:Bool
open Classical in
noncomputable def LF (b:cp) (s:St) (a:Int):Z2:=if de b s/\0<=a/\a<=100000 then⟨ap b a.toNat s,true⟩else⟨Mt,false⟩
def de.kV{j:cp}{s:St}(h:de j s)(b:Sm n s)(o:n<=900000000):DL s:=by
 refine⟨by have:=b.aW;omega,λc e=>(h.heap.cell c e).fl,oh b.heap,?_,λf g=>?_⟩
 .have:=h.depth;have:=h.bC;have:=h.bq;omega
 .have a:=h.av f g;obtain⟨p,_,i,d,_⟩:=a.Ja h.fy;have k:=a.lr;have l:=a.lo;have m:=a.lh;rw[i]at k l m;have:=d.an;omega
def Oe.sm{s:St}(h:Oe s)(a:s.heap.length<=n)(b:s.aW.length<=n):Sm n s:=⟨a,b,λg c w d=>((h.av g c).1 w d).2⟩
section
variable{b:E}{c:Nat->Nat}{m:E}{aW f d:O}{s:St}
def qx.JH(h:qx b c m aW f d s)(a:DL s):gR m aW f d s:=
 ⟨h.aW.nU (oh a.aW),h.heap.cells (oh a.heap),h.av.JH (oh a.depth) a.av⟩
def qx.cQ(h:qx b c m aW f d s)(j:J m m2){a:Nat}{g:List Ce}(i:m.size<=a)(kb:cx m2 a e g):qD b (pw c a 1) m2 a e g aW f d s.aW s.heap s.av:=by
 have C:dz (λ_=>False) c m (pw c a 1) m2:=dz.pw j h.bs.new i kb.lt 1;have B:=h.bs.eY C;exact⟨B.cv,B.jB,B.new,kb,fR _ _ _,h.aW.eY C id,h.heap.eY C id id,h.av.eY C λ_ _=>id⟩
def qx.nil{b m:E}(a:J b m):qx b (λ_=>0) m .nil .nil .nil Mt:=
 ⟨⟨a,λ_ _=>rfl,λ_ _=>rfl⟩,⟨by simp[Mt],aJ,Or.inl rfl⟩,⟨[],⟨aJ,aJ,Or.inl rfl⟩,by simpa[Mt]using gE.nil _ _,Xr.nil⟩,pA.none⟩
def qD.JH{h e:Nat}{a:List Ce}(L:qD b c m h e a aW f d s.aW s.heap s.av)(g:DL s):gR m aW f d s:=
 qx.JH (c:=c) ⟨⟨L.cv,L.jB,L.new⟩,L.aW,L.heap,L.av⟩ g
end
def Xq(m:E)(x:Z2)(v:Value)(c:E):Prop:=∃d aW b a,v=.tuple #[UT x.s aW b a,vb x.ok]/\qx m d c aW b a x.s
def iz.up{a:Nat->Nat}{m d mx:E}{f k:Nat}{s:O}{l:List Ce}(h:iz a m e f k s l)(j:k≠0)(g:∀b,b<mx.size->a b=0)(i:∀b,mx.size<=b->b<m.size->d[b]? =m[b]?):iz a d e f k s l:=
 h.dP (λc=>i _ (Hk λn=>j (by rw[<-(h.D c).2];exact g _ n)) (h.D c).1) λ_=>rfl
def qx.Rk{mx m:E}{q:Nat->Nat}{aW p n:O}{s:St}(h:qx mx q M aW p n s)(y:m.size<=mx.size)(z:M.size<=a.size)(c:∀b,mx.size<=b->b<M.size->a[b]? =M[b]?)(w:J m a):qx m q a aW p n s:=by
 have d:=h.bs.jB;refine⟨⟨w,λb f=>d b V,λb f=>h.bs.new b V⟩,h.aW.up be d c,?_,?_⟩
 .let⟨g,r,a2,a3⟩:=h.heap;refine⟨g,r.up be d c,a2.mono λj x⟨i,u,k,l⟩=>⟨i,u,iO k λf=>c _ (l f).2.1 (iP k f),λf=>?_⟩,a3⟩;let⟨g1,g2,t,tail,v,o⟩:=l f;exact⟨g1,V,t,tail,v,o.congr (c _ g2 o.lt)⟩
 .let⟨g,f⟩:=h.av;exact⟨g,f.pD.up be d c,f.len,f.size,λr j i k l=>by
   let⟨u,t,o,e,b1,b2,b3⟩:=f.dx r j i k l;exact⟨u,t,o,e,b1.up V d c,b2.up V d c,b3.up V d c⟩⟩
def qx.box{mx m:E}{d:Nat->Nat}{aW b a:O}{s:St}(h:qx mx d M aW b a s)(c:J m mx){nb:Nat}(e:m.size<=nb)(g:nb<mx.size)(o:Nat)(l:List Ce):qx m d (ag M nb o l) aW b a s:=
 h.Rk c.size (uh (aw _ _ _ _).symm) (λf i _=>bo _ _ _ _ V) ((c.trans h.bs.cv).ag e _ _)
def qx.ext{e:E}{f:Nat->Nat}{aW d c:O}{s:St}(h:qx e f M aW d c s)(b:J M a):qx e f a aW d c s:=h.Rk (ad _) b.size (λg _ i=>b.same g i) (h.bs.cv.trans b)
def Bs.Ek(m:E):Bs m (λ_=>0) m:=⟨J.aA _,λ_ _=>rfl,λ_ _=>rfl⟩
section
variable{m:E}{d p aW i h:O}{j:cp}{s:St}
def Pf{m:E}{nb:Nat}(c:J m m2)(a:J m2 M)(b:m.size<=nb){x:Z2}(d:x=⟨Mt,false⟩)(l:List Ce):Xq m x (.tuple #[.agg #[vi (0:Int),vi (0:Int),vi (0:Int),vi (0:Int),O.v O.nil,O.v O.nil,O.v O.nil],vb false]) (ag M nb 0 l):=by
 subst d;exact⟨_,.nil,.nil,.nil,rfl,qx.nil ((c.trans a).ag b _ _)⟩
variable(c:eW m d p j)(f:gR m aW i h s)(b:Oe s)(g:s.aW.length<=10000000)
include c f b g
omit c f in
def Xw:Sm 10000000 s:=b.sm b.lh g
omit c f in
end
end
section
def qx.old{mx M a:E}{g:Nat->Nat}{aW d c:O}{s:St}(h:qx mx g M aW d c s)(f:M.size<=a.size)(i:∀b,mx.size<=b->b<M.size->a[b]? =M[b]?):qx (a.extract 0 mx.size) g a aW d c s:=
 have e:=bX h.bs.cv.size f
 h.Rk (by rw[nZ e];exact ad _) f i (J.MA e)
def qD.old{d M b:E}{k:Nat->Nat}{e g:Nat}{f:List Ce}{aW j h:O}{a:St}(L:qD d k M e g f aW j h a.aW a.heap a.av)(l:d.size<=e)(m:M.size<=b.size)(i:∀c,d.size<=c->c<M.size->b[c]? =M[c]?):qD (b.extract 0 d.size) k b e g f aW j h a.aW a.heap a.av:=
 have N:=qx.old (s:=a) ⟨⟨L.cv,L.jB,L.new⟩,L.aW,L.heap,L.av⟩ m i
 ⟨N.bs.cv,N.bs.jB,N.bs.new,L.box.congr (i _ l L.box.lt),L.NP,N.aW,N.heap,N.av⟩
section
variable{S:List Nat}{m:E}{c P:Nat}{a d p:O}{b:cp}
end
end
section
variable{q:O}
def de.aaa{q:cp}{s:St}{n:Nat}(h:de q s)(c:Sm n s)(x:n<=10000000):Oe s:=by
 have l:=h.kV c V;have i:=h.bC;have v:=h.bq;have u:=c.heap;have C:=TN h;have t:=l.depth;refine⟨⟨V,V⟩,λd i w a=>?_,λf b=>?_,V,V,λf b=>oh (l.av f b)⟩
 .have k:=h.heap.cell d i;rcases IW d.aQ 1 with e|e
  .have:=(k.DO e).2.1 w a;exact⟨V,V⟩
  .rcases(k.ry V).1 w a with e|⟨e,j,g,_⟩
   .exact⟨by have:=e.1;omega,oh e.2⟩
   .have:=az g;have:=iV e;exact⟨V,V⟩
 .let⟨k,o⟩:=List.mem_iff_getElem?.1 b;have F:=C.av k f o;refine⟨λw a=>⟨?_,c.Dl f b w a⟩,λr p=>?_,λw a=>?_⟩
  .rcases(h.av f b).Si w a with e|e
   .have:=e.1;omega
   .omega
  .let⟨m,j⟩:=List.mem_iff_getElem?.1 p;have:=F.lr;have:=F.lo;have:=az j;let⟨w,a⟩:=cK f.an m;have:=(F.an.dx m w r a j).2.1;exact⟨V,V⟩
  .rcases C.aY.cN f b w a with e|⟨e,g⟩
   .exact⟨V,V⟩
   .have:=iV e;exact⟨V,V⟩
structure Mv(n:Nat)(ro:Nat->Nat)(M:E)(ro':Nat->Nat)(M':E):Prop where
 size:M.size<=M'.size
 dP:∀b,b<M.size->n<=b->M'[b]? =M[b]?
 jc:∀b,b<M.size->ro' b=ro b
 new:∀b,M'.size<=b->ro' b=0
 jB:∀b,b<n->ro b=0
section
variable{n:Nat}{a c:Nat->Nat}{M b:E}
def iz.mv{e f k:Nat}{s:O}{l:List Ce}(h:iz a M e f k s l)(v:Mv n a M c b)(g:k≠0):iz c b e f k s l:=
 h.dP (λd=>v.dP _ (h.D d).1 (Hk λe=>g (by rw[<-(h.D d).2];exact v.jB _ e))) λd=>v.jc _ (h.D d).1
def dQ.mv{i:O}{h:List bP}(q:dQ n a M i h)(v:Mv n a M c b):dQ n c b i h:=by
 let⟨l,j,a2,a3⟩:=q;refine⟨l,j.mv v be,a2.mono λs r⟨o,m,f,g⟩=>⟨o,m,iO f λd=>v.dP _ (iP f d) (g d).2.1,λd=>?_⟩,a3⟩;let⟨g1,g2,k,tail,p,e⟩:=g d;exact⟨(v.jc _ e.lt).trans g1,g2,k,tail,p,e.congr (v.dP _ e.lt g2)⟩
def Tn.mv{i:Nat}{d:List Ce}{f:aU}(v:Mv n a M c b):Tn a M i d f->Tn c b i d f:=λ⟨r,o,k,j,e,g,h⟩=>⟨r,o,k,j,e.mv v V,g.mv v V,h.mv v V⟩
def tm.mv{e:O}{g:List aU}{f:aU}{r o h:O}{d:List (List Ce)}(T:tm a M e g f r o h d)(v:Mv n a M c b):tm c b e g f r o h d:=
 ⟨T.pD.mv v be,T.len,T.size,λm i j k l=>(T.dx m i j k l).mv v,T.an.mv v V,T.aR.mv v V,T.aY.mv v V⟩
def pA.mv{d:O}{e:List aU}(l:pA a M d e)(v:Mv n a M c b):pA c b d e:=by
 let⟨g,h⟩:=l;exact⟨g,h.pD.mv v be,h.len,h.size,λm f i j k=>(h.dx m f i j k).mv v⟩
def tm.put{c:O}{b:List aU}{f g:aU}{s o p n m j:O}{h:List (List Ce)}(T:tm a M c b f s o p h)(v:∀d,M.size<=d->a d=0){i:Nat}(w:i<6){d:Ce}
 (u:js [.i f.eg,.i f.pc,.i f.dst,.s s,.s o,.s p] i [d]=[.i g.eg,.i g.pc,.i g.dst,.s n,.s m,.s j])(t:iz a M aD 1 (10+3*b.length) n (g.an.map Ce.i))(q:iz a M aD 1 (11+3*b.length) m (g.aR.map Ce.i))(r:iz a M aD 1 (12+3*b.length) j (g.aY.map Ce.i)):
 eC M c.D (c.off+b.length*6+i) 1/\tm a (ag M c.D (c.off+b.length*6+i) [d]) c b g n m j h/\dz (λk=>4<=k/\k≠9) a M a (ag M c.D (c.off+b.length*6+i) [d]):=by
 have e:dz (λk=>k=4) a M a (ag M c.D (c.off+b.length*6+i) [d]):=dz.ag v T.D.1 _ _
 have l:h.flatten.length=b.length*6:=by rw[cg T.size,T.len]
 refine⟨by rw[dk];exact T.pD.wr (by simp only[ba,l,aV,eU];omega),⟨?_,T.len,T.size,T.yo e λk q r=>V,t.eY e V,q.eY e V,r.eY e V⟩,e.mono λk x=>V⟩
 have:=T.pD.set (o:=b.length*6+i) (new:=[d]) (by simp[l];omega)
 rw[lH _ _ _ _ V,l,Hj,u]at this
 rw[dk];exact this
end
structure SO(n:Nat)(ro:Nat->Nat)(M:E)(aW hp fr:O)(s:St):Prop where
 le:n<=M.size
 jB:∀b,b<n->ro b=0
 new:∀b,M.size<=b->ro b=0
 aW:iz ro M aD 1 2 aW (s.aW.map Ce.i)
 heap:dQ n ro M hp s.heap
 av:pA ro M fr s.av
structure FS(s:St):Prop where
 Dl:Oe s
 kV:DL s
 lo:s.aW.length<=1000000/\s.heap.length<=1000000
section
variable{n:Nat}{a e:Nat->Nat}{M b:E}{aW d c:O}{s:St}
def SO.of(N:qx (M.extract 0 n) a M aW d c s)(h:n<=M.size):SO n a M aW d c s:=⟨h,λb e=>N.bs.jB b (by rw[nZ h];exact e),N.bs.new,N.aW,by have:=N.heap;rwa[nZ h]at this,N.av⟩
def SO.mv(w:SO n a M aW d c s)(v:Mv n a M e b):SO n e b aW d c s:=⟨bX w.le v.size,λf g=>(v.jc f (aO g w.le)).trans (w.jB f g),v.new,w.aW.mv v be,w.heap.mv v,w.av.mv v⟩
def SO.mvF(w:SO n a M aW d c s){h:Nat}(f:Fz [h] M b)(j:h<n):Mv n a M a b:=⟨f.size,λe g i=>f.same e g bI,λ_ _=>rfl,λe g=>w.new e (bX f.size g),w.jB⟩
def SO.eY{p:Nat->Prop}(w:SO n a M aW d c s)(C:dz p a M e b):n<=b.size/\(∀f,f<n->e f=0)/\∀f,b.size<=f->e f=0:=⟨bX w.le C.size,λf g=>(C.jc f (aO g w.le)).trans (w.jB f g),C.new⟩
def SO.box(w:SO n a M aW d c s){b:Nat}(g:a b=1)(o:Nat)(l:List Ce):SO n a (ag M b o l) aW d c s:=by
 have C:dz (λk=>k=1) a M a (ag M b o l):=dz.ag w.new g _ _;let⟨e,b,f⟩:=w.eY C;exact⟨e,b,f,w.aW.eY C be,w.heap.eY C be be,w.av.eY C λk h=>V⟩
def SO.LN(w:SO n a M aW d c s)(C:dz (λk=>k=2) a M e b){l:List Int}(A:iz e b aD 1 2 q (l.map Ce.i)):SO n e b q d c {s with aW:=l}:=
 let⟨f,g,h⟩:=w.eY C
 ⟨f,g,h,A,w.heap.eY C be be,w.av.eY C λk i=>V⟩
def SO.gD(w:SO n a M aW d c s)(C:dz (λk=>k=3) a M e b){h:List bP}(A:dQ n e b q h):SO n e b aW q c {s with heap:=h}:=
 let⟨f,g,i⟩:=w.eY C
 ⟨f,g,i,w.aW.eY C be,A,w.av.eY C λk j=>V⟩
def SO.jK(w:SO n a M aW d c s)(C:dz (λk=>4<=k/\k≠9) a M e b){l:List aU}(A:pA e b q l):SO n e b aW d q {s with av:=l}:=
 let⟨f,g,h⟩:=w.eY C
 ⟨f,g,h,w.aW.eY C be,w.heap.eY C be be,A⟩
def SO.JH(w:SO n a M aW d c s)(h:DL s):gR M aW d c s:=⟨w.aW.nU (oh h.aW),w.heap.cells (oh h.heap),w.av.JH (oh h.depth) h.av⟩
end
end
section
variable{K:Int->E->Prop}{p:Nat->Prop}
def SP(n h:Nat)(f:O)(g:E)(P:Nat)(v:Value)(a:E):Prop:=∃aW e d s,v=UT s aW e d/\(∀c,a.size<=c.size->(∀b,b<a.size->n<=b->c[b]? =a[b]?)->gR c aW e d s)/\Oe s/\(s.aW.length<=1000000/\s.heap.length<=1000000)/\Rs h f g P a
structure SQ(n rb:Nat)(bs:O)(ma:E)(k1 k2 Q:Nat)(ro:Nat->Nat)(M:E)(aW hp fr:O)(s:St):Prop where
 w:SO n ro M aW hp fr s
 r:Rs rb bs ma Q M
 k1:ro k1=1/\k1<M.size/\n<=k1
 k2:ro k2=1/\k2<M.size/\n<=k2
 fs:FS s
section
variable{n a d e Q q P l:Nat}{f aW i h:O}{c M b:E}{j m:Nat->Nat}{s o:St}{L:List Nat}
def SQ.fz(g:SQ n a f c d e Q j M aW i h s)(l:a<n)(k:Fz [a] M b)(r:Rs a f c q b):SQ n a f c d e q j b aW i h s:=
 ⟨g.w.mv (g.w.mvF k l),r,⟨g.k1.1,aO g.k1.2.1 k.size,g.k1.2.2⟩,⟨g.k2.1,aO g.k2.2.1 k.size,g.k2.2.2⟩,g.fs⟩
def SQ.ext(g:SQ n a f c d e Q j M aW i h s)(k:a<n)(x:J M b):SQ n a f c d e Q j b aW i h s:=g.fz k (x.fz _) (g.r.ext x)
def SQ.gJ(k:SQ n a f c d e Q j M aW i h s)(q:a<n)(o:∀g∈L,g=d\/g=e)(m:Fz [a] M b):dY L M b:=m.dv λg p=>by
 have:=k.k1;have:=k.k2;rcases o g p with l|l<;>simp only[nN]<;>omega
def SQ.gk(g:SQ n a f c d e Q j M aW i h s)(l:a<n)(k:Fz [a] M b)(o:Nat):af b e o=af M e o:=aL (k.same _ g.k2.2.1 (by have:=g.k2;simp only[nN];omega)) o
def SQ.done(g:SQ n a f c d e Q j M aW i h s)(v:Rd a f l c)(C:c.size<=n)(x:Q<=P){q m o r:Int}(A:MD o)(p:List Ce):SP n a f c P (.agg #[vi q,vi m,vi o,vi r,O.v aW,O.v i,O.v h]) (ag M d 0 p):=by
 have w:=g.w.box g.k1.1 0 p;have u:=g.r.put v (k:=d) (oh g.k1) 0 p;exact⟨aW,i,h,⟨q,m,o,r,s.aW,s.heap,s.av⟩,rfl,λb z B=>have t:=(w.mv ⟨z,B,λ_ _=>rfl,λm y=>w.new m (bX z y),w.jB⟩).JH g.fs.kV;⟨t.aW,t.heap,t.av⟩,⟨A,g.fs.Dl.heap,g.fs.Dl.av,g.fs.Dl.lh,g.fs.Dl.lf,g.fs.Dl.lr⟩,g.fs.lo,u.f,u.r.mono x⟩
def SQ.box(b:SQ n a f c d e Q j M aW i h s)(k:Rd a f l c)(m:c.size<=n)(o:Nat)(g:List Ce):SQ n a f c d e Q j (ag M e o g) aW i h s:=
 ⟨b.w.box b.k2.1 o g,b.r.put k (oh b.k2) o g,by rw[aw];exact b.k1,by rw[aw];exact b.k2,b.fs⟩
def SQ.kY(p:SQ n a f c d e Q j M aW i h s)(l:a<n)(u:Q<=10^16)(r:∀g∈L,g=d\/g=e)(g:List Int){k:List Ce}{m:Nat}(w:k=g.map Ce.i)(v:m=g.length)(z:0<g.length/\g.length<=100)
 (y:∀t b,t∈g->SQ n a f c d e (Q+1) j b aW i h s->Fz [a] (M.push (.cells (bA k) aD)) b->K t b):aM cq 39 [vp a 0,O.v (.mk M.size 0 m m)] (M.push (.cells (bA k) aD)) λC b=>dY L (M.push (.cells (bA k) aD)) b/\∃t:Int,C=vi t/\K t b:=
 have x:=J.push M (.cells (bA k) aD)
 (Dt p.r u g w v z).mono λ_ b⟨t,q,A,B,o⟩=>⟨(p.ext l x).gJ l r o,t,q,y t b A ((p.ext l x).fz l o B) o⟩
def SQ.pick(k:SQ n a f c d e Q j M aW i h s)(m:a<n)(q:Q<=10^16)(p:∀g∈L,g=d\/g=e)(l:Int)
 (r:∀t b,0<=t->(t<l\/t=0)->SQ n a f c d e (Q+1) j b aW i h s->Fz [a] M b->K t b):aM cq 40 [vp a 0,vi l] M λw b=>dY L M b/\∃t:Int,w=vi t/\K t b:=
 (cC k.r.r q l).mono λ_ b⟨t,o,v,t1,u,g⟩=>⟨k.gJ m p g,t,o,r t b v t1 (k.fz m g (k.r.to g u)) g⟩
def SQ.eY(g:SQ n a f c d e Q j M aW i h s)(u:Rd a f l c)(E:c.size<=n)(C:dz p j M m b)(i:∀k,p k->2<=k){x v t:O}(B:SO n m b x v t o)(z:FS o):SQ n a f c d e Q m b x v t o:=
 have D:=u.lt
 have w:∀k,k<n->b[k]? =M[k]? :=λk q=>C.dP k (aO q g.w.le) λy=>by have:=i _ y;have:=g.w.jB k q;omega
 have r:Fz [a] c b:=⟨bX g.r.f.size C.size,λk q A=>(w k V).trans (g.r.f.same k q A)⟩
 ⟨B,⟨r,u.OG g.r.r r (w a V)⟩,⟨(C.jc _ g.k1.2.1).trans g.k1.1,aO g.k1.2.1 C.size,g.k1.2.2⟩,⟨(C.jc _ g.k2.2.1).trans g.k2.1,aO g.k2.2.1 C.size,g.k2.2.2⟩,z⟩
def SQ.dv(l:SQ n a f c d e Q j M aW i h s)(o:∀g∈L,g=d\/g=e)(C:dz p j M m b)(i:∀k,p k->2<=k):dY L M b:=λg q=>by
 have r:=l.k1;have a2:=l.k2;rcases o g q with k|k<;>subst k<;>exact C.dP _ V λk=>by have:=i _ k;omega
def SQ.fZ(t:SQ n a f c d e Q j M aW i h s)(u:cR ((h.len:Int) -1)>=0):∃b l r o q k,s.av=b++[l]/\tm j M h b l r o q k/\cR ((h.len:Int) -1)=(b.length:Int)/\h.len=b.length+1:=by
 have F:=t.w.av;have p:=t.fs.kV.depth;rcases List.eq_nil_or_concat s.av with g|⟨b,l,g⟩
 .rw[g]at F;let⟨k,m⟩:=F;have:=m.pD.len;rw[cg m.size,m.len]at this;simp only[eU]at this;rw[aP V V]at u;omega
 .rw[List.concat_eq_append]at g;rw[g]at F p;let⟨r,o,q,k,T⟩:=F.fZ;have:=T.vU;simp at p;exact⟨b,l,r,o,q,k,g,T,by rw[aP V V];omega,this⟩
def FS.fZ(h:FS s){d:List aU}{j g:aU}(i:s.av=d++[j])(k:UZ g)(l:g.an.length<=1000000/\g.aR.length<=1000000/\g.aY.length<=1000000):FS {s with av:=d++[g]}:=by
 have b:=h.Dl;have c:=h.kV;have e:∀x∈d,x∈s.av:=λx a=>by rw[i];simp[a]
 have f:=c.depth;rw[i]at f;simp at f;refine⟨⟨b.bC,b.heap,λx a=>?_,b.lh,bI,λx a=>?_⟩,⟨c.aW,c.fl,c.heap,bI,λx a=>?_⟩,h.lo⟩<;>rcases List.mem_append.1 a with a|a
 .exact b.av x (e x a)
 .simp at a;rw[a];exact k
 .exact b.lr x (e x a)
 .simp at a;rw[a];omega
 .exact c.av x (e x a)
 .simp at a;rw[a];exact l
def SQ.uK(m:SQ n a f c d e Q j M aW i h s)(r:Rd a f l c)(t:c.size<=n){q:List aU}{z g:aU}(y:s.av=q++[z]){J H I:O}{w:List (List Ce)}(T:tm j b h q g J H I w)(C:dz (λo=>4<=o/\o≠9) j M j b)(E:UZ g)(G:g.an.length<=1000000/\g.aR.length<=1000000/\g.aY.length<=1000000)
 (A:∀k∈L,k=d\/k=e)(B:Q<=P){v k p x:Int}(D:MD p)(u:List Ce):dY L M b/\SP n a f c P (.agg #[vi v,vi k,vi p,vi x,O.v aW,O.v i,O.v h]) (ag b d 0 u):=
 ⟨m.dv A C λo F=>V,(m.eY r t C (λo F=>V) (m.w.jK C T.uK) (m.fs.fZ y E G)).done r t B D u⟩
end
end
section
section
variable{S:List Nat}{m:E}{b P:Nat}{a:O}
end
end
section
def RK(f:Nat->Nat):∀n,∃B,∀i,i<n->f i<=B
 |0=>⟨0,aJ⟩
 |n+1=>let⟨B,h⟩:=RK f n;⟨B+f n,λi a=>by
  rcases aZ i n with e|e
  .have:=h i e;omega
  .have:i=n:=V;subst this;omega⟩
def de.Dk{w:cp}{s:St}(e:de w s)(m:s.bJ=0):s.heap=[]:=by
 have g:=e.done.1 m;let⟨l,t⟩:=e.heap.Ok;let⟨B,n⟩:=RK l s.heap.length;apply dB;intro q;have y:0<s.heap.length:=List.length_pos_iff.2 q;have gC:∀k,∃(b:Nat)(c:bP),s.heap[b]? =some c/\0<c.aQ/\k<=l b:=λk=>by
  induction k with
  |zero=>
   let⟨c,d⟩:=cK s.heap (s.heap.length -1);refine⟨_,c,d,?_,eO _⟩;have i:=e.jM c d;rcases IW c.aQ 0 with f|f
   .have:=e.lE _ ⟨c,d,f⟩;rw[g]at this;simp[eS]at this
   .omega
  |succ k v=>
   let⟨b,c,d,r,p⟩:=v;have:=e.heap.ex b c d r;rw[g]at this;simp only[gU]at this;let⟨f,o,i⟩:=Lz (h:=s.heap) (f:=b) V;let⟨j,hd⟩:=List.mem_iff_getElem?.1 o;have u:=t j f hd _ i V;rw[ng]at u;refine⟨j,f,hd,?_,V⟩;apply dB;intro x;have:=((e.heap.cell f (ar hd)).DO V).2.1 _ i;omega
 obtain⟨b,c,d,_,p⟩:=gC (B+1);have:=n b (az d);omega
def de.jU{a:cp}{s:St}(h:de a s):de a {s with bq:=40}:=⟨h.fy,h.bJ,h.done,h.value,h.vH,aJ,⟨h.bC.1,by have:=h.bC;have:=h.bq;show s.bC<=40;omega⟩,h.depth,h.aW,h.heap,h.jM,h.av,h.first,h.chain,h.lE,h.nM⟩
def gR.le{m f:E}{aW d c:O}{s:St}(b:gR m aW d c s)(a:Le m f):gR f aW d c s:=⟨b.aW.le a,eR.le b.heap a λk j⟨n,e,h⟩=>⟨n,e,h.le a⟩,eR.le b.av a λk j⟨r,o,h,e,g,i,l⟩=>⟨r,o,h,e,g.le a,i.le a,l.le a⟩⟩
def LwR(m:E)(v:Value)(a:E):Prop:=v=vb true/\J m a
section
variable{m:E}{d p aW b a:O}{c:cp}{s:St}
end
end
section
variable{d:cp}{s:St}{a b:Int}{n:Nat}
structure lP where
 ap:Int
 iR:Int
 jP:Int
 zO:Int
 rC:Int
 nh:Int
 depth:Int
 fA:Int
def mx(a b:Int):Int:=if b>a then b else a
def iD:List bP->Int
 |[]=>0
 |c::h=>(if 0<c.aQ then 1 else 0)+iD h
def mz(n:Int):List bP->Int
 |[]=>n
 |c::h=>mz (mx n c.aQ) h
def Sj(c:lP)(s:St):lP:={c with nh:=mx c.nh (iD s.heap),depth:=mx c.depth s.av.length,fA:=mz c.fA s.heap}
def vf(c:lP)(a:Int)(ru:Bool):lP:=
 if ru=true then{c with jP:=c.jP+1}
 else if a=6\/a=10 then{c with iR:=c.iR+1}
 else if a=14 then{c with zO:=c.zO+1}
 else if a=15 then{c with rC:=c.rC+1}
 else c
def ny(d:cp)(s:St):Instr:=
 match s.av.getLast? with
 |some f=>dt d f
 |none=>⟨0,0,0,0,[],[]⟩
def ru(d:cp)(s:St):Bool:=
 match s.av.getLast? with
 |some f=>decide ((dt d f).op=6/\(dt d f).bM≠0/\aG f.aY ((dt d f).bM -1)≠0)
 |none=>false
noncomputable def Nk (d:cp) (s:St) (c:lP):lP:=
 let a:lP:={c with ap:=c.ap+1}
 Sj (if(my d s).bJ=3\/(my d s).bJ=0 then vf a (ny d s).op (ru d s)else a) (my d s)
noncomputable def gV (d:cp) (a:St):Nat->lP
 |0=>Sj ⟨0,0,0,0,0,0,0,0⟩ a
 |k+1=>Nk d (ap d k a) (gV d a k)
def Ec(c:lP)(d:Int)(a:Int)(s:St):lP:=
 let b:lP:={c with ap:=c.ap+1}
 if s.bJ=1\/s.bJ=2 then b else
 let e:lP:=if d=6\/d=10 then{b with iR:=c.iR+1 -a,jP:=c.jP+a,nh:=mx c.nh (iD s.heap)}
  else if d=14 then{b with zO:=c.zO+1}else if d=15 then{b with rC:=c.rC+1}else b
 {e with depth:=mx e.depth s.av.length,fA:=mz e.fA s.heap}
def Kq:∀(h:List bP)(n:Int),n<=mz n h
 |[],n=>cX _
 |c::h,n=>by
  have:=Kq h (mx n c.aQ);have:n<=mx n c.aQ:=by unfold mx;split<;>omega
  simp only[mz];omega
def NX:∀(h:List bP)(n:Int),mz n h=n->∀c∈h,c.aQ<=n
 |[],n,_,c,a=>by simp at a
 |d::h,n,e,c,a=>by
  simp only[mz]at e;have f:=Kq h (mx n d.aQ);have b:mx n d.aQ=n:=by
   have:n<=mx n d.aQ:=by unfold mx;split<;>omega
   omega
  rcases List.mem_cons.1 a with rfl|a
  .unfold mx at b;split at b<;>omega
  .rw[b]at e;exact NX h n e c a
def Pb:∀(h:List bP)(n:Int),(∀c∈h,c.aQ<=n)->mz n h=n
 |[],_,_=>rfl
 |d::h,n,a=>by
  have f:=a d aJ;have b:mx n d.aQ=n:=by unfold mx;split<;>omega
  simp only[mz];rw[b];exact Pb h n λc e=>a c (by simp[e])
def Qu:∀(h:List bP)(n:Int),∀c∈h,c.aQ<=mz n h
 |[],_,c,a=>by simp at a
 |d::h,n,c,a=>by
  simp only[mz];rcases List.mem_cons.1 a with rfl|a
  .have:=Kq h (mx n c.aQ);have:c.aQ<=mx n c.aQ:=by unfold mx;split<;>omega
   omega
  .exact Qu h _ c a
def Tc(h:List bP)(n:Int):mz (mz n h) h=mz n h:=Pb h _ (Qu h n)
def Ge:∀(h:List bP),0<=iD h
 |[]=>cX _
 |c::h=>by have:=Ge h;simp only[iD];split<;>omega
def Li:∀(j h:List bP),(∀b,fj j b->fj h b)->iD j<=iD h
 |[],h,_=>Ge h
 |c::i,[],d=>by
  have k:¬0<c.aQ:=λa=>by obtain⟨e,g,_⟩:=d 0 ⟨c,rfl,a⟩;simp at g
  have:=Li i [] λb⟨e,g,a⟩=>by obtain⟨f,hd,_⟩:=d (b+1) ⟨e,by simpa using g,a⟩;simp at hd
  simp only[iD]at*;rw[ae k];omega
 |c::i,e::t,d=>by
  have k:0<c.aQ->0<e.aQ:=λa=>by obtain⟨f,hd,g⟩:=d 0 ⟨c,rfl,a⟩;simp at hd;subst hd;exact g
  have:=Li i t λb⟨f,hd,a⟩=>by
   let⟨l,m,g⟩:=d (b+1) ⟨f,by simpa using hd,a⟩;exact⟨l,by simpa using m,g⟩
  simp only[iD];split<;>split<;>omega
def HJ:∀(h:List bP),iD h<=h.length
 |[]=>by simp[iD]
 |c::h=>by have:=HJ h;simp only[iD,aV];split<;>omega
def fj.nt{h:List bP}{b:Nat}(d:fj (nt h) b):fj h b:=by
 let⟨c,a,e⟩:=d;unfold Go.Proofs.YtkoifinbblcbiaaGreat.nt at a;rw[lK]at a;split at a
 .exact⟨c,a,e⟩
 .simp at a
def fj.Ar{h:List bP}{w:Int}(e:gC h w)(c:bP){b:Nat}(d:fj (h.set (ix w) c) b):fj h b:=by
 by_cases a:b=ix w
 .subst a;exact e.2
 .exact(fj.ne a).1 d
def fj.jf:∀(a:List Int)(h:List bP)(b:Nat),(∀w∈a,gC h w)->fj (jf h a) b->fj h b
 |[],_,_,_,c=>c
 |w::a,h,b,d,c=>by
  have e:=d w aX;exact(fj.mQ e b).1 (fj.jf a _ b (λv f=>⟨(d v (ai _ f)).1,(fj.mQ e _).2 (d v (ai _ f)).2⟩) c)
def fj.gS:∀(n:Nat)(h:List bP)(j:List Int),Cf h+j.length<=n->∀b,fj (gS h j) b->fj h b
 |n,h,[],_,b,a=>by rw[tn]at a;exact a
 |0,h,w::r,d,b,_=>by simp at d
 |n+1,h,w::r,d,b,a=>by
  simp only[aV]at d;rcases dI (gC h w)with c|c
  .let⟨g,i⟩:=bZ c;by_cases e:(aI h w).aQ=1
   .have f:=kE (d:=jb) g;simp only[aj i,jb]at f;simp at f;rw[tp c e]at a;exact fj.Ar c _ (fj.gS n _ _ (by simp[jb];omega) b a)
   .have f:=kE (d:={aI h w with aQ:=(aI h w).aQ -1}) g;simp only[aj i]at f;rw[aj V]at f;rw[qH c e]at a;exact fj.Ar c _ (fj.gS n _ _ (by simp only[Go.Proofs.YtkoifinbblcbiaaGreat.fu];omega) b a)
  .rw[qI c]at a;exact fj.gS n _ _ V b a
def fj.apart{h:List bP}{e:Nat->Int}(g:fN h e){w:Int}(c:gC h w){b:Nat}(a:fj (apart h w) b):fj h b:=by
 let⟨d,l⟩:=bZ c;unfold Go.Proofs.YtkoifinbblcbiaaGreat.apart at a;split at a
 .exact fj.Ar c _ (fj.nt a)
 .rename_i k;refine fj.Ar c {aI h w with aQ:=(aI h w).aQ -1} (fj.jf _ _ _ (λv i=>?_) a);let⟨j,f⟩:=lG.1 i;have:=g.field (ij d) j f;refine⟨f,?_⟩;by_cases e:ix v=ix w
  .rw[e,fj.Ek d];show 0<(aI h w).aQ -1;omega
  .rw[fj.ne e];exact this.2
def Dv(y:de d s)(k:List aU){f:aU}{x:Instr}{aR:List Int}(g:kD d s f x aR):
 ((eJ d s k f x aR).bJ=s.bJ\/(eJ d s k f x aR).bJ=0)/\(x.op≠6->x.op≠10->∀b,fj (eJ d s k f x aR).heap b->fj s.heap b):=by
 unfold eJ
 simp only[]
 by_cases l:x.op=0
 .rw[aj l];exact⟨Or.inl rfl,λ_ _ b a=>a⟩
 rw[ae l]
 by_cases m:x.op=1\/x.op=2\/x.op=3\/x.op=4
 .rw[aj m];exact⟨Or.inl rfl,λ_ _ b a=>a⟩
 rw[ae m]
 by_cases v:x.op=5
 .rw[aj v];exact⟨Or.inl rfl,λ_ _ b a=>a⟩
 rw[ae v]
 by_cases e:x.op=6
 .rw[aj e]
  split
  .exact⟨Or.inl rfl,λc=>absurd e c⟩
  .exact⟨Or.inl rfl,λc=>absurd e c⟩
 rw[ae e]
 by_cases h:x.op=10
 .rw[aj h];exact⟨Or.inl rfl,λ_ c=>absurd h c⟩
 rw[ae h]
 by_cases j:x.op=14
 .rw[aj j];exact⟨Or.inl rfl,λ_ _ b a=>(fj.mQ (g.VS j).1 b).1 a⟩
 rw[ae j]
 by_cases n:x.op=15
 .rw[aj n];exact⟨Or.inl rfl,λ_ _ b a=>fj.gS _ _ _ (ad _) b (fj.nt a)⟩
 rw[ae n]
 by_cases c:x.op=16\/x.op=17
 .rw[aj c]
  split
  .exact⟨Or.inl rfl,λ_ _ b a=>fj.Ar (g.Jj c).1 _ a⟩
  .exact⟨Or.inl rfl,λ_ _ b a=>fj.apart y.heap (g.Jj c).1 a⟩
 rw[ae c]
 by_cases o:x.op=18
 .rw[aj o];exact⟨Or.inl rfl,λ_ _ b a=>a⟩
 rw[ae o]
 by_cases p:x.op=19
 .rw[aj p];exact⟨Or.inl rfl,λ_ _ b a=>a⟩
 rw[ae p]
 by_cases q:x.op=20
 .rw[aj q];exact⟨Or.inl rfl,λ_ _ b a=>a⟩
 rw[ae q]
 by_cases r:x.op=21
 .rw[aj r];exact⟨Or.inl rfl,λ_ _ b a=>a⟩
 rw[ae r]
 by_cases t:x.op=22
 .rw[aj t];exact⟨Or.inl rfl,λ_ _ b a=>a⟩
 rw[ae t]
 by_cases w:x.op=9
 .rw[aj w];exact⟨Or.inl rfl,λ_ _ b a=>a⟩
 rw[ae w]
 by_cases u:x.op=24
 .rw[aj u];exact⟨Or.inl rfl,λ_ _ b a=>a⟩
 rw[ae u]
 by_cases i:x.op=11
 .rw[aj i];exact⟨Or.inl rfl,λ_ _ b a=>fj.apart y.heap (g.apply i).1 a⟩
 rw[ae i]
 split
 .exact⟨Or.inr rfl,λ_ _ b a=>a⟩
 .exact⟨Or.inl rfl,λ_ _ b a=>a⟩
def Ry(i:de d s)(e:s.bJ=3):(∃k,(k=1\/k=2)/\my d s={s with bJ:=k})\/
 ∃a f aR,s.av=a++[f]/\kD d s f (ny d s) aR/\my d s=eJ d s a f (ny d s) aR:=by
 let⟨a,f,b⟩:=i.split e
 have c:s.av.getLast?=some f:=by rw[b];simp
 have g:s.av.dropLast=a:=by rw[b];simp
 have h:ny d s=dt d f:=by unfold ny;rw[c]
 unfold my
 rw[ae (by simpa using e),c,g,h]
 simp only[]
 split
 .exact Or.inl ⟨1,Or.inl rfl,rfl⟩
 .split
  .rename_i j;exact Or.inr ⟨a,f,_,b,j,rfl⟩
  .exact Or.inl ⟨2,Or.inr rfl,rfl⟩
structure Oh(c:lP)(s:St):Prop where
 nh:iD s.heap<=c.nh
 depth:(s.av.length:Int)<=c.depth
 fA:mz c.fA s.heap=c.fA
def OK(h:b<=a):mx a b=a:=by unfold mx;rw[ae V]
def Wk:b<=mx a b:=by unfold mx;split<;>omega
def Qi(c:lP)(s:St):Oh (Sj c s) s:=⟨Wk,Wk,Tc _ _⟩
def Ur{c:lP}(h:Oh c s):Sj c s=c:=by
 unfold Sj;rw[OK h.nh,OK h.depth,h.fA]
def Jc(b:Bool):Int:=if b=true then 1 else 0
def RD(c:lP)(b:Int)(a:Bool):(vf c b a).nh=c.nh/\(vf c b a).depth=c.depth/\(vf c b a).fA=c.fA:=by
 unfold vf;repeat' split
 all_goals exact⟨rfl,rfl,rfl⟩
def SL{f:lP}(i:de d s)(p:s.bJ=3)(g:Oh f s):Ec f (ny d s).op (Jc (ru d s)) (my d s)=Nk d s f:=by
 rcases Ry i p with⟨z,w,e⟩|⟨l,q,aR,v,n,e⟩
 .unfold Ec Nk;simp only[];rw[aj (by rw[e];exact w),ae (by rw[e];simp only[];omega)];rw[Ur ⟨by rw[e];exact g.nh,by rw[e];exact g.depth,by rw[e];exact g.fA⟩]
 .have y:(my d s).bJ=3\/(my d s).bJ=0:=by rw[e];have:=(Dv i l n).1;rw[p]at this;exact this
  have c:ru d s=true->(ny d s).op=6:=λc=>by
   have k:s.av.getLast?=some q:=by rw[v];simp
   unfold ru at c;rw[k]at c;simp only[au]at c;unfold ny;rw[k];exact c.1
  have x:(ny d s).op≠6->(ny d s).op≠10->iD (my d s).heap<=f.nh:=λa r=>by
   refine ue (Li _ _ λb o=>?_) g.nh;rw[e]at o;exact(Dv i l n).2 a r b o
  generalize t:my d s=S at*;unfold Ec Nk;simp only[];rw[t,ae V,aj y];cases u:ru d s
  .simp only[Jc];unfold vf Sj;simp only[ig,qv];by_cases a:(ny d s).op=6\/(ny d s).op=10
   .simp only[aj a,Int.sub_zero,Int.add_zero]
   .simp only[ae a];have j:=OK (x (λh=>a (Or.inl h)) (λh=>a (Or.inr h)));by_cases h:(ny d s).op=14
    .simp only[aj h,j]
    .simp only[ae h];by_cases m:(ny d s).op=15
     .simp only[aj m,j]
     .simp only[ae m,j]
  .have a:=c u;simp only[Jc];unfold vf Sj;simp only[a,true_or,MC];congr 1;omega
def Tb(d:cp)(s:St)(c:lP):Oh (Nk d s c) (my d s):=Qi _ _
def Js(d:cp)(a:St):∀k,Oh (gV d a k) (ap d k a)
 |0=>Qi _ _
 |k+1=>by rw[oV];exact Tb _ _ _
structure Pu(n:Nat)(c:lP):Prop where
 ap:0<=c.ap/\c.ap<=n
 iR:0<=c.iR/\c.iR<=n
 jP:0<=c.jP/\c.jP<=n
 zO:0<=c.zO/\c.zO<=n
 rC:0<=c.rC/\c.rC<=n
def Us{c:lP}(h:Pu n c)(s:St):Pu n (Sj c s):=⟨h.ap,h.iR,h.jP,h.zO,h.rC⟩
def VC{c:lP}(h:Pu n c)(d:cp)(s:St):Pu (n+1) (Nk d s c):=by
 unfold Nk;refine Us ?_ _;let⟨a,b,e,f,g⟩:=h;split
 .unfold vf;repeat' split
  all_goals exact⟨by simp only[];omega,by simp only[];omega,by simp only[];omega,by simp only[];omega,by simp only[];omega⟩
 .exact⟨by simp only[];omega,by simp only[];omega,by simp only[];omega,by simp only[];omega,by simp only[];omega⟩
def IM(d:cp)(a:St):∀k,Pu k (gV d a k)
 |0=>Us ⟨aJ,aJ,aJ,aJ,aJ⟩ _
 |k+1=>VC (IM d a k) _ _
end
section
variable{m g a:E}{h:List bP}{d e:Nat}{c:lP}
structure zB(m:E)(hp:O)(h:List bP):Prop where
 len:hp.len=h.length
 iF:∀(k:Nat)(c:bP),h[k]? =some c->∃f,af m hp.D (hp.off+k*3)=some (vi c.aQ)/\af m hp.D (hp.off+k*3+1)=some (vi c.kH)/\af m hp.D (hp.off+k*3+2)=some (O.v f)
def zB.dP{a:O}(H:zB m a h)(k:h≠[]->g[a.D]? =m[a.D]?):zB g a h:=
 ⟨H.len,λl c b=>by
  let⟨f,d,i,j⟩:=H.iF l c b;have e:=k (λe=>by subst e;simp at b);exact⟨f,by rw[aL e];exact d,by rw[aL e];exact i,by rw[aL e];exact j⟩⟩
def zB.lt{a:O}(H:zB m a h)(d:h≠[]):a.D<m.size:=by
 cases h with
 |nil=>exact absurd rfl d
 |cons c r=>
  obtain⟨f,b,_⟩:=H.iF 0 c rfl;exact mW b
def zB.ext{a:O}(H:zB m a h)(c:J m g):zB g a h:=H.dP λb=>c.same _ (H.lt b)
def dQ.jm{N:Nat}{g:Nat->Nat}{a:O}(H:dQ N g m a h):zB m a h:=
 ⟨H.len,λ_ _ e=>let⟨f,b,c,d,_⟩:=H.bV e;⟨f,b,c,d⟩⟩
def xA:∀(l r:List bP),iD (l++r)=iD l+iD r
 |[],r=>by simp[iD]
 |c::l,r=>by simp only[cH,iD,xA l r];omega
def BD:∀(l r:List bP)(n:Int),mz n (l++r)=mz (mz n l) r
 |[],r,n=>rfl
 |c::l,r,n=>by simp only[cH,mz,BD l r]
def FY{f:O}(H:zB m f h)(w:h.length<=1000000000):vO cq 46 [O.v f] m (vi (iD h)):=by
 apply Ac;simp -zeta only[aC,aB];have t:=H.len;refine dV (σ:=Int) (n:=h.length) V (λk l g=>l=iD (h.take k)/\J m g) ⟨by simp[iD],J.aA _⟩ ?_;rintro k l y I μ s ⟨rfl,b⟩ o
 have v:=Ge (h.take k);have u:=HJ (h.take k);have x:(h.take k).length<=h.length:=bI;refine dit (λr=>?_) λr=>?_
 .let⟨c,d⟩:=cK h k;let⟨p,g1,g2,q⟩:=(H.ext b).iF k c d;refine⟨V,V,c.aQ,by simpa using g1,c.kH,by simpa using g2,p,by simpa using q,?_⟩;intro z j;have i:J m j:=(b.aH _).ag b.size _ _;clear_value j;have e:iD (h.take (k+1))=iD (h.take k)+(if 0<c.aQ then 1 else 0):=by rw[bd d,xA];simp[iD]
  refine⟨λa=>?_,λa=>?_⟩
  .simp at a;rw[aP V V];exact o V _ _ ⟨by rw[e,aj a],i⟩
  .simp at a;exact o V _ _ ⟨by rw[e,ae V];omega,i⟩
 .rw[cJ V];exact⟨rfl,b⟩
structure eX(d:Nat)(m g:E):Prop where
 size:m.size<=g.size
 same:∀b,b<m.size->b≠d->g[b]? =m[b]?
def eX.aA(d:Nat)(m:E):eX d m m:=⟨ad _,λ_ _ _=>rfl⟩
def eX.ext(h:eX d a m)(e:J m g):eX d a g:=⟨bX h.size e.size,λb c f=>by rw[e.same b (aO c h.size)];exact h.same b c f⟩
def eX.trans(h:eX d a m)(f:eX d m g):eX d a g:=⟨bX h.size f.size,λb c e=>by rw[f.same b (aO c h.size) e];exact h.same b c e⟩
def eX.ag(h:eX d a m)(o:Nat)(l:List Ce):eX d a (ag m d o l):=⟨by rw[aw];exact h.size,λb e c=>by rw[bo l m d o c];exact h.same b e c⟩
def eX.dv(h:eX d m g){l:List Nat}(c:∀b∈l,b<m.size/\b≠d):dY l m g:=λb a=>h.same b (c b a).1 (c b a).2
def NB(c:lP):List Ce:=[.i c.ap,.i c.iR,.i c.jP,.i c.zO,.i c.rC,.i c.nh,.i c.depth,.i c.fA]
def Np(e d:Nat)(m:E)(c:lP)(v:Value)(g:E):Prop:=v=.tuple #[]/\cx g d e (NB c)/\eX d m g
def I9(B:cx m d e (NB c)){l C aW:O}{s:St}(H:zB m l s.heap)(D:s.heap≠[]->l.D≠d)(T:s.heap.length<=1000000000)(S:C.len=s.av.length)(X Y Z q3:Int):
 aM cq 49 [vp d 0,.agg #[vi X,vi Y,vi Z,vi q3,O.v aW,O.v l,O.v C]] m (Np e d m (Sj c s)):=by
 apply zV (d,0)
 simp -zeta only[aC,aB]
 intro t
 have z:J m t:=(J.aA m).aH _
 have s1:t.size=m.size+1:=by simp[t]
 clear_value t
 have ac:=B.lt
 have u:=B.ext z
 refine⟨c.nh,u.bV 5,(FY (H.ext z) T).mono ?_⟩
 rintro _ x ⟨rfl,p⟩
 have s2:=p.size
 have A:=u.ext p
 refine⟨p.dv bI,iD s.heap,rfl,p.cr (u.bV 5),A.eC (by simp[NB]),?_⟩
 intro a
 have o3:eX d m a:=((eX.aA d m).ext (z.trans p)).ag _ _
 have t3:eX d x a:=(eX.aA d x).ag _ _
 have v:cx a d e (NB {c with nh:=mx c.nh (iD s.heap)}):=A.ag (m:=m) (o:=5) (r:=[.i (mx c.nh (iD s.heap))])
 have s3:a.size=x.size:=aw _ _ _ _
 clear_value a
 refine⟨t3.dv bI,c.depth,v.bV 6,v.eC (by simp[NB]),?_⟩
 rw[S]
 intro f
 have E:eX d m f:=o3.ag _ _
 have t4:eX d a f:=(eX.aA d a).ag _ _
 have I:cx f d e (NB {c with nh:=mx c.nh (iD s.heap),depth:=mx c.depth s.av.length}):=v.ag (m:=m) (o:=6) (r:=[.i (mx c.depth s.av.length)])
 have s4:f.size=a.size:=aw _ _ _ _
 clear_value f
 refine⟨t4.dv bI,?_⟩
 have hl:=H.len
 have L:zB f l s.heap:=H.dP λj=>E.same _ (H.lt j) (D j)
 refine fm (n:=s.heap.length) V (λk g=>eX d m g/\m.size<g.size/\cx g d e (NB {c with nh:=mx c.nh (iD s.heap),depth:=mx c.depth s.av.length,fA:=mz c.fA (s.heap.take k)})/\zB g l s.heap) ⟨E,V,by simpa[mz]using I,L⟩ ?_
 rintro k y aa μ hk ⟨o5,z5,q,M⟩ W
 refine dit (λR=>?_) λR=>?_
 .let⟨i,hd⟩:=cK s.heap k
  let⟨P,g1,g2,Q⟩:=M.iF k i hd
  refine⟨V,V,i.aQ,by simpa using g1,i.kH,by simpa using g2,P,by simpa using Q,?_⟩
  intro U b
  have G:J y b:=((J.aA y).aH _).ag (ad _) _ _
  have s7:b.size=y.size+1:=by simp[b,U,aw]
  clear_value b
  have w:=q.ext G
  have ab:=q.lt
  have N:mz c.fA (s.heap.take (k+1))=mx (mz c.fA (s.heap.take k)) i.aQ:=by rw[bd hd,BD];rfl
  refine⟨_,w.bV 7,w.eC (by simp[NB]),?_⟩
  intro h
  have F:eX d m h:=(o5.ext G).ag _ _
  have t8:eX d b h:=(eX.aA d b).ag _ _
  have K:cx h d e (NB {c with nh:=mx c.nh (iD s.heap),depth:=mx c.depth s.av.length,fA:=mz c.fA (s.heap.take (k+1))}):=by rw[N];exact w.ag (m:=m) (o:=7) (r:=[.i (mx (mz c.fA (s.heap.take k)) i.aQ)])
  have s8:h.size=b.size:=aw _ _ _ _
  clear_value h
  refine⟨t8.dv bI,W V h ⟨F,V,K,H.dP λj=>F.same _ (H.lt j) (D j)⟩⟩
 .rw[cJ V]at q
  exact⟨rfl,q,o5⟩
def MO(B:cx m d e (NB c))(k:Int)(a:Bool)(n:Nat)(x:n<=1000000)(l:Pu n c):aM cq 50 [vp d 0,vi k,vb a] m (Np e d m (vf c k a)):=by
 apply xw (d,0);let⟨s,t,u,v,w⟩:=l;have o1:∀{q:Nat}{p:List Ce},eX d m (ag m d q p):=(eX.aA d m).ag _ _;unfold vf;refine⟨λi=>⟨_,B.bV 2,B.eC (by simp[NB]),?_⟩,λi=>?_⟩
 .rw[aj i,aP V V];exact⟨rfl,B.ag (m:=m) (o:=2) (r:=[.i (c.jP+1)]),o1⟩
 rw[ae (by simp[i])];have j:(let b:E:=ag m (d,0).1 ((d,0).2+1) [.i (cR (c.iR+1))];Np e d m {c with iR:=c.iR+1} (.tuple #[]) b):=by
  rw[aP V V];exact⟨rfl,B.ag (m:=m) (o:=1) (r:=[.i (c.iR+1)]),o1⟩
 refine⟨λh=>⟨_,B.bV 1,B.eC (by simp[NB]),?_⟩,λh=>⟨λf=>⟨_,B.bV 1,B.eC (by simp[NB]),?_⟩,λf=>?_⟩⟩
 .rw[aj (Or.inl (by simpa using h))];exact j
 .rw[aj (Or.inr (by simpa using f))];exact j
 rw[ae (by simp at h f;omega)];refine⟨λb=>⟨_,B.bV 3,B.eC (by simp[NB]),?_⟩,λb=>⟨λg=>⟨_,B.bV 4,B.eC (by simp[NB]),?_⟩,λg=>?_⟩⟩
 .rw[aj (by simpa using b),aP V V];exact⟨rfl,B.ag (m:=m) (o:=3) (r:=[.i (c.zO+1)]),o1⟩
 .rw[ae (by simpa using b),aj (by simpa using g),aP V V];exact⟨rfl,B.ag (m:=m) (o:=4) (r:=[.i (c.rC+1)]),o1⟩
 .rw[ae (by simpa using b),ae (by simpa using g)];exact⟨rfl,B,eX.aA _ _⟩
end
end Go.Proofs.YtkoifinbblcbiaaGreat
