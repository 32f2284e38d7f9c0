/- Part of a proof. -/
import Derived.Test.YtkoifinbblcbiaaGreatTB03
import Derived.Test.YtkoifinbblcbiaaGreatTB04
set_option linter.all false
set_option maxHeartbeats 8000000
set_option maxRecDepth 100000
namespace Go.Proofs.YtkoifinbblcbiaaGreat
open Go.Vc
section
def Uv(l a:List Int)(h:a.length=l.length):js (l.map Ce.i) 0 (a.map Ce.i)=a.map Ce.i:=by
 have:=Cd [] (a.map Ce.i) (l.map Ce.i) bJ;simp only[dX,eU]at this;rw[this,I9 bJ,dO]
section
variable{p:E}{b:Nat->Nat}{m:E}{q e:Nat}{i:List Ce}{aW j g:O}{l:List Int}{k:List bO}{c:List aU}{f:aU}{r a h:O}{d:List (List Ce)}
def ST.Vl(S:ST p b m q e i aW j g l k c f r a h d){aR:List Int}(t:aR.length=f.aR.length)(w:0<aR.length):eC m a.D a.off (aR.map Ce.i).length/\ST p b (ag m a.D a.off (aR.map Ce.i)) q e i aW j g l k c {f with aR:=aR} r a h d/\To b m b (ag m a.D a.off (aR.map Ce.i)):=by
 have T:=S.fZ;have B:a.cap≠0:=λe=>by have:=(T.aR.Dp e).1;simp at this;rw[this]at t;simp at t;rw[t]at w;simp at w
 have A:=T.aR.D B;have s:dz (λu=>u=11+3*c.length) b m b (ag m a.D a.off (aR.map Ce.i)):=dz.ag S.cQ.new A.2 _ _;have x:=T.aR.set (o:=0) (new:=aR.map Ce.i) bJ;rw[Uv _ _ t,jF]at x;have v:tm b (ag m a.D a.off (aR.map Ce.i)) g c {f with aR:=aR} r a h d:=⟨T.pB.eY s V,T.len,T.size,T.yv s λu _ y=>V,T.an.eY s V,x,T.aY.eY s V⟩;let⟨y,z⟩:=S.cQ.jJ (s.mono λu C=>V) v.uN;refine⟨?_,⟨y,v⟩,z⟩;have:=T.aR.wr (o:=0) (n:=(aR.map Ce.i).length) bJ;rw[jF]at this;exact this
end
section
variable{h:E}{e:Nat->Nat}{b:E}{g:Nat}{d p aW c a:O}{s:St}
def O6{k:cg}(M:qA h e b g bS (SB d p s aW c a) aW c a s.aW s.heap s.av)(I:eW h d p k)(z:db k s)(aN:∀P∈s.av,∀A∈P.an,A<=9223372036854775807)(aQ:s.heap.length<=900000000)(aV:s.aW.length<=900000000):
 aM cq 36 [vp g 0] b λ_ m'=>Ck h e b g d p (mh k s) m':=by
 apply wR (g,0)
 simp -zeta only[aC,aB]
 refine⟨s.bI,M.box.bU 2,λT=>?_,λT=>?_⟩
 .simp at T
  rw[th T]
  exact⟨e,aW,c,a,M,dz.aA _ M.new⟩
 have ab:s.bI=3:=by simpa using T
 let⟨n,j,u⟩:=z.split ab
 have aS:s.av.getLast?=some j:=by rw[u];simp
 have aJ:s.av.dropLast=n:=by rw[u];simp
 have C:yI k s n j (dt k j):=⟨z,ab,u,rfl,aN⟩
 have a1:mh k s=(open Classical in if na (dt k j).op/\s.bC=s.bq then{s with bI:=1}else if kA k s j (dt k j) (bB j.an j.aR (bW k (dt k j)))then eJ k s n j (dt k j) (bB j.an j.aR (bW k (dt k j)))else{s with bI:=2}):=by
  unfold mh;rw[ae (by simpa using ab),aS,aJ]
 rw[a1]
 generalize dt k j=x at*
 have L':qA h e b g bS (SB d p s aW c a) aW c a s.aW s.heap (n++[j]):=by rw[<-u];exact M
 let⟨U,L,R,aA,Z⟩:=L'.av.fZ
 have S:ST h e b g bS (SB d p s aW c a) aW c a s.aW s.heap n j U L R aA:=⟨L',Z⟩
 have a9:=Z.vX
 have an:=z.depth
 have a8:=z.bC
 have ba:=z.bq
 rw[u]at an
 have a_:n.length<=1000:=by simp at an;omega
 have e1:cR ((a.len:Int) -1)=(n.length:Int):=by rw[aP V V];omega
 have e2:Int.toNat (n.length:Int)=n.length:=V
 have Q:af b g 8=some (O.v a):=S.cQ.box.bU 8
 let⟨g0,g1,g2,g3,g4,g5⟩:=Z.iF
 refine⟨a,Q,a,Q,?_⟩
 rw[e1,e2]
 refine⟨V,V,_,g0,_,g1,_,g2,U,g3,L,g4,R,g5,?_⟩
 intro m1
 have v:J b m1:=(J.aA b).aH _
 refine⟨v.cr g0,v.cr g1,v.cr g2,v.cr g3,v.cr g4,v.cr g5,v.cr Q,v.cr Q,?_⟩
 intro t
 have a2:J b t:=v.ag (ad _) _ _
 have s2:t.size=b.size+1:=by simp[t,m1,aw]
 have kF:cw t b.size cL [.i j.eg,.i j.pc,.i j.dst,.s U,.s L,.s R]:=cw.ag (m:=m1) (o:=0) (r:=[.i j.eg,.i j.pc,.i j.dst,.s U,.s L,.s R]) (cw.push b _ _)
 let⟨N,t2⟩:=S.ext a2
 clear_value t
 let⟨bh,hq,aZ,hP,aI,hI⟩:=C.I
 let⟨pa,pl,pc,bb,bd,ap,k0,k1,k2,k3,k4⟩:=I.cC.aG hq
 let⟨az,a3,ha,hj,i0,i1,i2,i3,i4,i5⟩:=ap.aG aI
 have be:=I.cC.len
 have bc:=ap.len
 have hF:=C.F
 have aY:=hF.eg
 have ao:=hF.pc
 rw[aZ]at ao
 have l:=N.cQ.cv
 refine⟨p,N.cQ.box.bU 1,aY.1,V,pc,l.af k4,ao.1,V,_,l.af i0,_,l.af i1,_,l.af i2,_,l.af i3,az,l.af i4,a3,l.af i5,?_⟩
 intro m3
 have q:J t m3:=(J.aA t).aH _
 refine⟨q.cr (l.af i0),q.cr (l.af i1),q.cr (l.af i2),q.cr (l.af i3),q.cr (l.af i4),q.cr (l.af i5),q.cr (kF.bU 1),q.cr (l.af k4),q.cr (kF.bU 0),q.cr (N.cQ.box.bU 1),?_⟩
 intro K
 have ag:J t K:=q.ag (ad _) _ _
 have s4:K.size=t.size+1:=by simp[K,m3,aw]
 let⟨S4,t4⟩:=N.ext ag
 have a4:=kF.ext ag
 have B4:zE e K [t.size,b.size]:=λac H=>by
  simp at H;rcases H with rfl|rfl
  .exact⟨V,S.cQ.new _ V⟩
  .exact⟨V,S.cQ.new _ (ad _)⟩
 clear_value K
 have a7:=t2.trans t4
 refine(Mk _ _).mono ?_
 rintro _ m5 ⟨ac,rfl,H,ah⟩
 let⟨w,t5⟩:=S4.ext ah
 have W:=B4.to t5
 have B:=a4.ext ah
 have aq:=a7.trans t5
 have aR:=C.Lm
 have h4:=C.lp
 have aa:(bB j.an j.aR (bW k x)).length=j.aR.length:=ka _ _ _
 refine⟨t5.dL B4,ac,rfl,λaG=>⟨s.bC,w.cQ.box.bU 4,s.bq,w.cQ.box.bU 5,λG=>?_,λG=>?_⟩,λaF=>?_⟩
 .simp at G
  refine⟨w.cQ.mD (i:=2) aL,?_⟩
  intro m6
  let⟨F,D⟩:=w.jw 2 [.i 1]
  refine⟨D.dL W,e,aW,c,a,?_,aq.trans D⟩
  rw[aj ⟨H.1 aG,G⟩]
  have:=F.cQ
  rw[<-u]at this
  exact this
 all_goals
  have aH:¬(na x.op/\s.bC=s.bq):=by
   first
   |exactλy=>by simp at G;exact G y.2
   |exactλy=>fb H aF y.1
  rw[ae aH]
  have am:=w.cQ.cv
  refine⟨d,w.cQ.box.bU 0,p,w.cQ.box.bU 1,(Kk (I.ext am) C.call (ha.ext am) V h4.2.2.2.1).mono ?_⟩
  rintro _ m6 ⟨ts,rfl,ot,y⟩
  let⟨F,D⟩:=w.ext y
  have B6:=W.to D
  have bf:=IY k x
  have it:ar m6 ts (bW k x):=ar.gK ot V
  refine⟨D.dL W,ts,rfl,y.cr (B.bU 0),y.cr (B.bU 1),y.cr (B.bU 2),y.cr (B.bU 3),y.cr (B.bU 4),y.cr (B.bU 5),?_⟩
  refine(IF (b:=j) (F.Ar V) (F.Jr V) it C.Kw aR.1 V V (λA E=>oh (C.OQ A E))).mono ?_
  rintro _ m7 ⟨os,rfl,oo,aE⟩
  let⟨A,t7⟩:=F.ext aE
  have B7:=B6.to t7
  have io:ar m7 os (bB j.an j.aR (bW k x)):=ar.gK oo V
  have aO:lR m7 a (n++[j]):=A.cQ.av.Gp bJ (λP Y=>by
   have E:=z.av P (by rw[u];exact Y);obtain⟨pg,_,ai,X,_⟩:=E.Jg z.fA;have q1:=E.lr;have q2:=E.lo;have q3:=E.lh;rw[ai]at q1 q2 q3;have:=X.an;omega)
  have ak:=A.rv I V V aO
  have a0:({s with av:=n++[j]}:St)=s:=by rw[<-u]
  rw[a0]at ak
  refine⟨t7.dL B6,os,rfl,(Mm ak C (A.Ar V) (A.Re V) (ha.ext A.cQ.cv) io aa).mono ?_⟩
  rintro _ m8 ⟨b2,rfl,al,ai⟩
  let⟨P,t8⟩:=A.ext ai
  have X:=B7.to t8
  have au:=((aq.trans D).trans t7).trans t8
  refine⟨t8.dL B7,b2,rfl,λh9=>?_,λh9=>?_⟩
  .rw[ae (nb al h9)]
   refine⟨P.cQ.mD (i:=2) aL,?_⟩
   intro m9
   let⟨Y,E⟩:=P.jw 2 [.i 2]
   refine⟨E.dL X,e,aW,c,a,?_,au.trans E⟩
   have:=Y.cQ
   rw[<-u]at this
   exact this
  .have hM:=yb al h9
   rw[aj hM]
   have aU:=io.len
   have aT:L.len=j.aR.length:=by have:=P.fZ.aR.len;simp at this;omega
   let⟨w1,Y,E⟩:=P.Vl aa V
   refine⟨(bB j.an j.aR (bW k x)).map Ce.i,by rw[aU,aT,aa];simp[Nat.min_def];omega,(io.ext ai).Ic,w1,?_⟩
   intro m9
   have B9:=X.to E
   refine⟨E.dL X,(Kb C rfl hM Y I ha hj aQ aV).mono ?_⟩
   rintro _ bg aK
   let⟨a6,a5,aX,aD,ay,ax⟩:=aK
   exact⟨ax.dL B9,a6,a5,aX,aD,ay,(au.trans E).trans ax⟩
end
end
section
variable{a:cg}{s:St}{n:Nat}
structure Sm(n:Nat)(s:St):Prop where
 heap:s.heap.length<=n
 aW:s.aW.length<=n
 Dq:∀g∈s.av,∀w∈g.an,w<=9223372036854775807
def BT:∀(n:Nat)(h:List bO)(g:List Int),Cl h+g.length<=n->(gS h g).length=h.length
 |n,h,[],_=>by rw[tn]
 |0,h,w::r,b=>by simp at b
 |n+1,h,w::r,b=>by
  simp only[aV]at b;rcases dJ (gC h w)with a|a
  .let⟨e,f⟩:=bZ a;by_cases c:(aI h w).aQ=1
   .have d:=kD (d:=jb) e;simp only[aj f,jb]at d;simp at d;rw[tp a c,BT n _ _ (by simp[jb];omega)];simp
   .have d:=kD (d:={aI h w with aQ:=(aI h w).aQ -1}) e;simp only[aj f]at d;rw[aj V]at d;rw[qE a c,BT n _ _ (by simp only[fw];omega)];simp[fw]
  .rw[qF a,BT n _ _ V]
def QA(h:List bO):(ns h).length<=h.length:=by unfold ns;simp;omega
def LG:∀(a:List Int)(g:List bO),(jf g a).length=g.length
 |[],g=>rfl
 |w::a,g=>by rw[jf,LG a];simp[mP]
def Nz(h:List bO)(w:Int):(apart h w).length<=h.length:=by
 unfold apart;split
 .exact bX (QA _) aL
 .rw[LG];simp[fw]
def NQ(h:List bO)(a:Nat)(c:bO):(je h a c).length<=h.length+1:=by
 unfold je;split<;>simp
def Rn{k:List aU}{f:aU}{x:Instr}(C:yI a s k f x)(B:Sm n s)(hn:n<=900000000)(aR:List Int)(Z:kA a s f x aR):Sm (n+1) (eJ a s k f x aR):=by
 have hh:=B.heap;have ho:=B.aW;have v:=B.Dq;rw[C.fr]at v;have hF:=C.F;have Y:=C.lp;have hd:=C.dst;have af:=C.Lm;have t:∀r,aG f.an r<=9223372036854775807:=λr=>by
  rcases aZ r.toNat f.an.length with m|m
  .let⟨y,b⟩:=dZ m;rw[DQ b];exact v f aL y (au b)
  .rw[aG,fR,da m];simp
 have yv:∀g∈k,∀w∈g.an,w<=9223372036854775807:=λg p=>v g (by simp[p]);have c:∀{g:aU},(∀w∈g.an,w<=9223372036854775807)->∀q∈k++[g],∀w∈q.an,w<=9223372036854775807:=λp q d=>by
  rcases List.mem_append.1 d with d|d
  .exact yv q d
  .simp at d;subst d;exact p
 have e:∀w∈f.an,w<=9223372036854775807:=v f aL;have j:∀(H:Int),H<=9223372036854775807->∀w∈gR f.an x.dst H,w<=9223372036854775807:=λH hv w b=>by
  rcases pS b with rfl|b
  .exact hv
  .exact e w b
 have ab:∀{w},iJ w\/gC s.heap w->w<=9223372036854775807:=λh=>by
  rcases h with h|h
  .have:=h.2;omega
  .have m:=az (bZ h).1;unfold ix at m;omega
 have G:∀(g K:Int)(I:List Int),(∀w∈I,w<=9223372036854775807)->∀w∈(br a g K I).an,w<=9223372036854775807:=λg K I b w h=>by
  simp only[br]at h;rcases List.mem_append.1 h with h|h
  .exact b w h
  .rw[qK h];omega
 have Km:∀{g q:aU},(∀w∈g.an,w<=9223372036854775807)->(∀w∈q.an,w<=9223372036854775807)->∀J∈k++[g,q],∀w∈J.an,w<=9223372036854775807:=λp d J o=>by
  rcases List.mem_append.1 o with o|o
  .exact yv J o
  .simp at o;rcases o with rfl|rfl
   .exact p
   .exact d
 have aa:∀w∈cN f x.args,w<=9223372036854775807:=λw b=>by
  obtain⟨r,_,rfl⟩:=List.mem_map.1 b;exact t r
 have ac:=qH s.heap;unfold eJ;simp only[];by_cases y:x.op=0
 .rw[aj y];exact⟨by simp only[];omega,by simp only[];omega,c (j _ (oh (Y.2.2.2.2.2.2 y)))⟩
 rw[ae y];by_cases L:x.op=1\/x.op=2\/x.op=3\/x.op=4
 .rw[aj L];exact⟨by simp only[];omega,by simp only[];omega,c (j _ (oh ((Qg x.op (aG f.an (aG x.args 0)) (aG f.an (aG x.args 1))).2)))⟩
 rw[ae L];by_cases W:x.op=5
 .rw[aj W];exact⟨by simp only[];omega,bJ,c (j _ (t _))⟩
 rw[ae W];by_cases A:x.op=6
 .rw[aj A];split
  .refine⟨bJ,by simp only[];omega,c (j _ ?_)⟩;rename_i u;have E:=Y.2.2.2.2.1 A;obtain⟨F,D,z,_⟩:=C.Ll _ (fq (l:=f.aY) (i:=x.bM -1) V V) u.2;have:=az z;unfold ix at this;omega
  .refine⟨?_,by simp only[];omega,c (j _ V)⟩;have:=NQ s.heap (dG s.heap) ⟨1,x.bQ,cN f x.args⟩;simp only[];omega
 rw[ae A];by_cases M:x.op=10
 .rw[aj M];refine⟨?_,by simp only[];omega,c (j _ V)⟩;have:=NQ s.heap (dG s.heap) ⟨1,bH a+x.bQ,cN f x.args⟩;simp only[];omega
 rw[ae M];by_cases N:x.op=14
 .rw[aj N];exact⟨by simp[mP];omega,by simp only[];omega,c e⟩
 rw[ae N];by_cases O:x.op=15
 .rw[aj O];refine⟨?_,by simp only[];omega,c e⟩;have m:=QA (gS s.heap [aG f.an (aG x.args 0)]);rw[BT _ _ _ (ad _)]at m;simp only[];omega
 rw[ae O];by_cases P:x.op=16\/x.op=17
 .rw[aj P];split
  .exact⟨bJ,by simp only[];omega,c e⟩
  .refine⟨?_,by simp only[];omega,c e⟩;have:=Nz s.heap (aG f.an (aG x.args 0));simp only[];omega
 rw[ae P];by_cases Q:x.op=18
 .rw[aj Q];exact⟨by simp only[];omega,by simp only[];omega,c (j _ (t _))⟩
 rw[ae Q];by_cases u:x.op=19
 .rw[aj u];refine⟨by simp only[];omega,by simp only[];omega,c (j _ ?_)⟩;let⟨E,S⟩:=Z.load u;obtain⟨T,_,_,_,_,R⟩:=C.I;have z:=R.op;unfold lS at z;rw[ae V,ae V,ae V,ae V,ae V,ae V,ae V,aj u]at z;let⟨D,F⟩:=bZ E;exact ab (((C.ok.heap.cell _ (au D)).rp F).1 _ (fq z.2.1 S))
 rw[ae u];by_cases R:x.op=20
 .rw[aj R];exact⟨by simp only[];omega,by simp only[];omega,c e⟩
 rw[ae R];by_cases S:x.op=21
 .rw[aj S];exact⟨by simp only[];omega,by simp only[];omega,c e⟩
 rw[ae S];by_cases T:x.op=22
 .rw[aj T];exact⟨by simp only[];omega,by simp only[];omega,c e⟩
 rw[ae T];by_cases X:x.op=9
 .rw[aj X];exact⟨by simp only[];omega,by simp only[];omega,Km e (G _ _ _ aa)⟩
 rw[ae X];by_cases U:x.op=24
 .rw[aj U];exact⟨by simp only[];omega,by simp only[];omega,c (G _ _ _ aa)⟩
 rw[ae U];by_cases z:x.op=11
 .rw[aj z];refine⟨?_,by simp only[];omega,Km e (G _ _ _ λw b=>?_)⟩
  .have:=Nz s.heap (aG f.an (aG x.args 0));simp only[];omega
  .rcases List.mem_append.1 b with b|b
   .obtain⟨E,_⟩:=Z.apply z;let⟨D,F⟩:=bZ E;exact ab (((C.ok.heap.cell _ (au D)).rp F).1 _ b)
   .simp at b;subst b;exact t _
 rw[ae z];split
 .exact⟨by simp only[];omega,by simp only[];omega,aL⟩
 .rename_i D E;refine⟨by simp only[];omega,by simp only[];omega,λq d=>?_⟩;have F:D∈k:=List.mem_of_getLast? E;rcases List.mem_append.1 d with d|d
  .exact yv q ((List.dropLast_sublist k).subset d)
  .simp at d;subst d;intro w b;rcases pS b with rfl|b
   .exact t _
   .exact yv D F w b
def VD(h:db a s)(c:Sm n s)(l:n<=900000000):Sm (n+1) (mh a s):=by
 have b:Sm (n+1) s:=⟨by have:=c.heap;omega,oh c.aW,c.Dq⟩;by_cases d:s.bI=3
 .let⟨g,f,e⟩:=h.split d;have k:s.av.getLast?=some f:=by rw[e];simp
  have j:s.av.dropLast=g:=by rw[e];simp
  have C:yI a s g f (dt a f):=⟨h,d,e,rfl,c.Dq⟩;unfold mh;rw[ae (by simpa using d),k,j];simp only[];split
  .exact⟨b.heap,b.aW,b.Dq⟩
  split
  .rename_i i;exact Rn C c l _ i
  .exact⟨b.heap,b.aW,b.Dq⟩
 .rw[th d];exact b
def rS{a:cg}:∀(k:Nat){s:St}{n:Nat},db a s->Sm n s->n+k<=900000000->Sm (n+k) (ap a k s)
 |0,s,n,_,b,_=>b
 |k+1,s,n,h,b,c=>by
  have:=rS k (Pa h) (VD h b V) V;rw[ap];have e:n+(k+1)=n+1+k:=V;rw[e];exact this
def rR(a:cg)(bq:Int):Sm 0 (cA a bq):=⟨by simp[cA],by simp[cA],λg b w c=>by
 simp[cA]at b;subst b;simp only[br,dX]at c;rw[qK c];omega⟩
end
section
variable{a:cg}
section
variable{e:E}{g:Nat->Nat}{m:E}{f:Nat}{d p aW c b:O}{s:St}
end
def E8{m:E}{t C:O}(I:eW m t C a)(x:iE a)(bq:Int):
 aM cq 87 [.agg #[O.v t,O.v C],vi bq] m λS f=>∃aW l u,S=.agg #[vi 3,vi 0,vi 0,vi bq,O.v aW,O.v l,O.v u]/\J m f/\∃b1 b2 b3 b4 k,aW.cap=0/\aW.len=0/\l.cap=0/\l.len=0/\u=.mk b4 0 1 1/\
  pE m f b1 b2 b3 k (br a 0 0 []).an (br a 0 0 []).aR (br a 0 0 []).aY/\(b4≠b1/\b4≠b2/\b4≠b3/\m.size<=b4/\b4<f.size)/\cw f b4 cL [.i 0,.i 0,.i 0,.s (.mk b1 0 k k),.s (.mk b2 0 k k),.s (.mk b3 0 k k)]:=by
 apply zr
 simp -zeta only[aC,aB]
 intro g z A p r e
 have v:J m e:=((((((J.aA m).aH _).aH _).aH _).aH _).aH _).aH _
 have L:g.size=m.size+1:=by simp[g]
 have M:z.size=m.size+2:=by simp[z,L]
 have P:A.size=m.size+3:=by simp[A,M]
 have Q:p.size=m.size+4:=by simp[p,P]
 have R:r.size=m.size+5:=by simp[r,Q]
 have Y:e.size=m.size+6:=by simp[e,R]
 clear_value e
 have T:=x.ni.len
 let⟨q,n⟩:=cK a.cC 0
 have W:=(x.dx q (au n)).an
 have o:dC a 0=q:=by simp[dC,n]
 have B:∀b,ar e (.mk b 0 0 0) []:=λb=>⟨rfl,aL,aL,aL⟩
 refine(yB (I.ext v) (cY 0) n V 0 (B p.size) (B r.size) bJ rfl).mono ?_
 rintro _ c ⟨b1,b2,b3,rfl,N⟩
 have j:=N.ext
 have U:=N.lo
 refine⟨j.dv bJ,_,_,_,_,_,_,rfl,?_⟩
 intro d s
 have w:J c d:=(J.aA c).aH _
 have Z:d.size=c.size+1:=by simp[d]
 have s9:s.size=d.size:=aw _ _ _ _
 have X:=j.size
 have K:cw d c.size cL [.i 0,.i 0,.i 0,.s (.mk b1 0 q.an.toNat q.an.toNat),.s (.mk b2 0 q.an.toNat q.an.toNat),.s (.mk b3 0 q.an.toNat q.an.toNat)]:=cw.push c _ _
 have i:=N.PV w
 have y:J m s:=(v.trans (j.trans w)).ag (show m.size<=g.size by omega) _ _
 have h:∀b,b≠g.size->s[b]? =d[b]? :=λb H=>bo _ _ _ _ H
 have G:(br a 0 0 []).an=[]++df (q.an.toNat -([]:List Int).length):=by simp[br,o]
 have F:(br a 0 0 []).aR=[]++df (q.an.toNat -([]:List Int).length):=by simp[br,o,dI]
 have D:(br a 0 0 []).aY=df q.an.toNat:=by simp[br,o]
 refine⟨_,_,_,rfl,y,b1,b2,b3,c.size,q.an.toNat,rfl,rfl,rfl,rfl,rfl,?_,V,K.congr (h _ V)⟩
 rw[G,F,D]
 exact⟨y,V,i.kr.congr (h _ V),i.ko.congr (h _ V),i.kh.congr (h _ V),N.len⟩
def Ux{m j g:E}{u:Nat}{MG:List Ce}{aW i l:O}{bq:Int}{b1 b2 b3 b4 k e:Nat}(c:aW.cap=0/\aW.len=0/\i.cap=0/\i.len=0/\l=.mk b4 0 1 1)
 (N:pE m j b1 b2 b3 k (br a 0 0 []).an (br a 0 0 []).aR (br a 0 0 []).aY)(C:b4≠b1/\b4≠b2/\b4≠b3/\m.size<=b4/\b4<j.size)(B:cw j b4 cL [.i 0,.i 0,.i 0,.s (.mk b1 0 k k),.s (.mk b2 0 k k),.s (.mk b3 0 k k)])
 (d:J j g)(F:j.size<=e)(kb:cw g e u (MG++[.i 3,.i 0,.i 0,.i bq,.s aW,.s i,.s l])):
 qA m (pu (pu (mJ (λ_=>0) b1 b2 b3 0) b4 4) e 1) g e u (MG++[.i 3,.i 0,.i 0,.i bq,.s aW,.s i,.s l]) aW i l [] [] [br a 0 0 []]:=by
 have D:=N.lo
 have A:J m g:=N.ext.trans d
 have G:=kb.lt
 have H:=N.ext.size
 have t:∀b,b≠e->b≠b4->(pu (pu (mJ (λ_=>0) b1 b2 b3 0) b4 4) e 1) b=mJ (λ_=>0) b1 b2 b3 0 b:=λb p q=>by rw[ez p,ez q]
 let⟨y,a2,a3⟩:=(N.PV d).pB (a:=λ_=>0) (g:=0)
 have conv:∀{v:Nat}{s:O}{w:List Ce},iA (mJ (λ_=>0) b1 b2 b3 0) g aD 1 v s w->s.D≠e->s.D≠b4->iA (pu (pu (mJ (λ_=>0) b1 b2 b3 0) b4 4) e 1) g aD 1 v s w:=λx p q=>x.dQ (λ_=>rfl) (λ_=>t _ p q)
 refine⟨A,λb z=>?_,λb z=>?_,kb,fQ _ _ _,⟨by simp[c.2.1],by rw[c.1,c.2.1];exact ad _,Or.inl c.1⟩,⟨[],⟨by simp[c.2.2.2.1],by rw[c.2.2.1,c.2.2.2.1];exact ad _,Or.inl c.2.2.1⟩,gE.nil _ _,Xu.nil⟩,?_⟩
 .rw[t b V V];unfold mJ;rw[ez V,ez V,ez V]
 .rw[t b (oh d.size) (oh d.size)];unfold mJ;rw[ez (oh d.size),ez (oh d.size),ez (oh d.size)]
 .refine tm.uN (a:=[]) (f:=br a 0 0 []) (r:=.mk b1 0 k k) (e:=.mk b2 0 k k) (h:=.mk b3 0 k k) (j:=[]) ⟨?_,rfl,aL,aL,conv y (by simp only[O.jB];omega) (by simp only[O.jB];omega),conv a2 (by simp only[O.jB];omega) (by simp only[O.jB];omega),conv a3 (by simp only[O.jB];omega) (by simp only[O.jB];omega)⟩
  rw[c.2.2.2.2]
  refine⟨rfl,ad _,Or.inr ⟨b4,1,[],rfl,?_,?_,rfl⟩⟩
  .rw[ez V,fQ]
  .rw[dO];exact B.ext d
end
def Sq(a:cg)(bq:Int):∃s,s=ap a 100000 (cA a bq):=⟨_,rfl⟩
noncomputable def Pb (a:cg) (bq:Int):St:=Classical.choose (Sq a bq)
def IW(a:cg)(bq:Int):Pb a bq=ap a 100000 (cA a bq):=eB (Sq a bq)
def Sr{a:cg}{bq:Int}(h:iE a)(c:0<=bq/\bq<=40):db a (Pb a bq)/\Sm 100000 (Pb a bq)/\(Pb a bq).bI≠3:=by
 have b:=BE h c;rw[IW];refine⟨wZ _ b,?_,Ms _ b (oh (RC h c))⟩;have:=rS 100000 b (rR a bq) V;rw[cE]at this;exact this
structure Exe where
 bI:Int
 value:Int
 bC:Int
 aW:List Int
 ok:Bool
section
variable{m:E}{s:O}{l:List Int}{h:List bO}{w:Int}{a:Nat}
def eL(c:ar m s l)(n:l.length<=1000000000):oG 56 [O.v s] m l:=by
 apply tQ;have b:=c.len;refine⟨λh=>?_,λh=>?_⟩
 .cases s with
  |nil=>simp at b;have:l=[]:=List.length_eq_zero_iff.1 b.symm;subst this;exact⟨.nil,rfl,gY.nil _ _ _ _,J.aA _⟩
  |mk a o e d=>simp at h
  |zT a o d=>simp at h
 .intro d;have a:J m d:=(J.aA m).aH _;have f:gY m d aD 1 (.mk m.size 0 0 0) []:=gY.new (J.aA m) aD 1 [] 0 aL;refine gY.append (c:=[.i 0]) (h:=l.map Ce.i) f a (by simp[b]) (c.ext a).Ic bJ λr o a e g i j k=>⟨r,rfl,by simpa using a,e⟩
def sJ(g:ar m s l)(b:Int):aM cq 110 [O.v s,vi b] m λv i=>∃r:Int,v=vi r/\J m i/\((r= -1/\b∉l)\/(b∈l/\r=rC l b)):=by
 apply tS;have j:=g.len;refine fm (n:=l.length) (j▸g.iC) (λk i=>J m i/\b∉l.take k) ⟨J.aA _,aL⟩ ?_;rintro k u I μ t ⟨f,e⟩ p
 refine dit (λh=>?_) λh=>?_
 .let⟨x,d⟩:=cK l k;refine⟨V,V,x,by simpa using f.af (g.aG d),λc=>?_,λc=>p V _ ⟨f,?_⟩⟩
  .simp at c;subst c;refine⟨_,rfl,f,Or.inr ⟨au d,?_⟩⟩;have:rC l b=k:=by
    unfold rC;rw[List.findIdx_eq (az d)];refine⟨by have:=(List.getElem?_eq_some_iff.1 d).2;simp[this],λo q=>?_⟩;simp;intro a;apply e;rw[<-a];exact List.mem_take_iff_getElem.2 ⟨o,V,rfl⟩
   rw[this]
  .rw[bd d];simp at c;intro a;rcases List.mem_append.1 a with a|a
   .exact e a
   .simp at a;exact c a
 .rw[cJ V]at e;exact⟨_,rfl,f,Or.inl ⟨rfl,e⟩⟩
def me(c:ar m s l)(n:Int):dR cq 169 [O.v s,vi n] m (n∈l):=by
 apply rJ;refine(sJ c n).mono ?_;rintro _ f ⟨r,rfl,d,h⟩;refine⟨_,rfl,fI ?_ d⟩;simp only[Hr,aq];rcases h with⟨rfl,h⟩|⟨b,e⟩
 .exact⟨λa=>V,λa=>absurd a h⟩
 .exact⟨λ_=>b,λ_=>V⟩
def Ct{t:O}{r:List Int}(d:ar m s l)(i:ar m t r):dR cq 172 [O.v s,O.v t] m (l=r):=by
 apply tR;have j:=d.len;have q:=i.len;refine⟨λh=>cT (λe=>by subst e;simp at h;omega) (J.aA _),λh=>?_⟩;simp at h;refine fm (n:=l.length) (j▸d.iC) (λk a=>J m a/\l.take k=r.take k) ⟨J.aA _,aL⟩ ?_;rintro k u I μ p ⟨b,g⟩ o
 refine⟨λh=>?_,λh=>jU (by simp at h;rwa[cJ V,cJ V]at g) b⟩;simp only[aq]at h;let⟨x,f⟩:=cK l k;let⟨y,c⟩:=cK r k;refine⟨V,V,x,by simpa using b.af (d.aG f),V,V,y,by simpa using b.af (i.aG c),λa=>cT (λe=>?_) b,λa=>o V _ ⟨b,?_⟩⟩
 .subst e;rw[f]at c;simp at c;simp at a;exact a c
 .rw[bd f,bd c,g];simp at a;rw[a]
def hO{a:O}(i:dF m a h)(u:w<=9223372036854775807):
 aM cq 153 [O.v a,vi w] m λv p=>∃(j:Int)(e:Bool),v=.tuple #[vi j,vb e]/\(e=true<->gC h w)/\(e=true->j=ix w)/\J m p:=by
 apply Gd
 have k:=i.len
 have t:=i.iC
 refine⟨λc=>?_,λc=>?_⟩
 .simp at c
  have l:cR (w -1000)=w -1000:=aP V V
  have o:(ix w:Int)=w -1000:=by unfold ix;omega
  rw[l]
  refine⟨λg=>?_,λg=>?_⟩
  .simp at g
   let⟨f,b⟩:=cK h ((w -1000).toNat)
   obtain⟨r,s,n,_⟩:=i.aG b
   refine⟨V,V,f.aQ,n,_,_,rfl,?_,λ_=>o.symm,J.aA _⟩
   simp only[lx,aq]
   refine⟨λa=>⟨c,f,b,a⟩,λ⟨_,q,d,a⟩=>?_⟩
   unfold ix at d
   rw[b]at d;simp at d;subst d;exact a
  .simp at g
   refine⟨_,_,rfl,⟨sx,λ⟨_,f,b,_⟩=>?_⟩,sx,J.aA _⟩
   have:=az b
   omega
 .simp at c
  exact⟨_,_,rfl,⟨sx,λk=>oh k.1⟩,sx,J.aA _⟩
def Li{b:O}(f:af m a 8=some (O.v b))(g:dF m b h)(i:w<=9223372036854775807):dR cq 97 [vp a 0,vi w] m (gC h w):=by
 apply uq (a,0);refine⟨b,f,(hO g i).mono ?_⟩;rintro _ k ⟨c,d,rfl,e,_,j⟩;exact⟨c,d,rfl,fI e j⟩
def Ee(e:ar m s l)(q:l.length<=100000000):oG 173 [O.v s] m (kY l):=by
 apply yT;have p:=e.len;refine dV (n:=l.length) V (λk s a=>J m a/\gY m a aD 1 s ((kY (l.take k)).map Ce.i)) ⟨J.aA _,by simpa[kY]using gY.nil m m aD 1⟩ ?_;rintro k s r I μ o ⟨b,a⟩ f
 refine dit (λh=>?_) λh=>?_
 .let⟨x,c⟩:=cK l k;refine⟨V,V,x,by simpa using b.af (e.aG c),λd=>?_,λg=>?_⟩
  .intro t;refine nX a b (by have:=nZ (l.take k);simp at this;omega) λv u i j=>f V _ _ ⟨j,?_⟩
   rw[bd c,ph];have:kY [x]=[x]:=by simp at d;simp[kY,d]
   rw[this];exact i
  .refine f V _ _ ⟨b,?_⟩
   rw[bd c,ph];have:kY [x]=[]:=by simp at g;simp[kY];omega
   rw[this,dO];exact a
 .rw[cJ V]at a;exact⟨s,rfl,a,b⟩
def yp(g:ar m s l):dR cq 99 [O.v s] m (SA l):=by
 apply DZ;refine(iX g 170 #[] #[] be (λx=>x≠0) (λx _ i d=>?_)).then λb j f d=>⟨b,rfl,fI ?_ d⟩
 .simp only[dX,dO];apply Ac;exact fI aL (J.aA _)
 .have e:(!b)=true<->¬(b=true):=aL;rw[e,f];unfold SA;constructor
  .intro h n c;exact dB λa=>h ⟨n,c,a⟩
  .rintro h ⟨n,c,a⟩;exact a (h n c)
def wg{am U:O}{b:cg}(ac:eW m am U b)(g1:af m a 1=some (O.v U)){x:Instr}(hc:zG b x){o j:O}(z:ar m o x.args)(aQ:x.args.length<=1000000)(ao:(x.op=16\/x.op=17)->1<=x.args.length):
 aM cq 95 [vp a 0,xv x o j] m λaF T=>∃s l,aF=.tuple #[O.v s,O.v l]/\ar T s (bW b x)/\ar T l (if x.op=9\/x.op=24 then fG b x 0 x.args else[])/\J m T/\(s=.nil\/s.D=o.D\/m.size<=s.D)/\(l=.nil\/m.size<=l.D):=by
 apply sT (a,0)
 simp -zeta only[aC,aB]
 intro c
 have v:J m c:=(J.aA m).aH _
 have Q:∀p∈[m.size],p<c.size:=by simp[c]
 have s1:c.size=m.size+1:=by simp[c]
 have ab:=z.len
 have aI:=z.cap
 have N:ar c .nil []:=⟨rfl,aL,aL,aL⟩
 clear_value c
 refine⟨λe=>?_,λq=>⟨λe=>?_,λt=>⟨λe=>?_,λr=>?_⟩⟩⟩
 .simp only[bV,aE]at e
  refine⟨o,.nil,rfl,?_,by rw[ae V];exact N,v,Or.inr (Or.inl rfl),Or.inl rfl⟩
  unfold bW;rw[aj V];exact z.ext v
 .simp only[bV,aE]at e
  simp only[bu,ak]at q
  refine⟨V,V,V,_,.nil,rfl,?_,by rw[ae V];exact N,v,Or.inr (Or.inl ?_),Or.inl rfl⟩
  .unfold bW;rw[ae V,aj e]
   exact eR.TR (z.ext v) (ao e)
  .cases o with
   |nil=>simp at ab;omega
   |zT p d f=>simp at ab;omega
   |mk p d l f=>rfl
 .simp only[bV,aE]at e
  simp only[bu,ak]at q t
  let⟨h0,aR,K⟩:=hc e
  have aP:=ac.cC.len
  have aO:=az K
  have aA:∃(w:O->O->Int->E->Prop)(μ0:O->O->Int->E->Nat),w O.nil O.nil (0:Int) c/\(∀(an:O)(cO:O)(i:Int)(d:E),w an cO i d->∃k:Nat,i=k/\k<=x.args.length/\J c d/\gY c d aD 1 an ((jt b x k).map Ce.i)/\gY c d aD 1 cO ((fG b x 0 (x.args.take k)).map Ce.i)/\(an≠.nil->cO≠.nil->an.D≠cO.D))/\
   (∀(an cO:O)(k:Nat)(d:E),k<=x.args.length->J c d->gY c d aD 1 an ((jt b x k).map Ce.i)->gY c d aD 1 cO ((fG b x 0 (x.args.take k)).map Ce.i)->(an≠.nil->cO≠.nil->an.D≠cO.D)->w an cO k d)/\(∀o p i m,μ0 o p i m=((x.args.length:Int) -i).toNat):=
   ⟨λan cO i d=>∃k:Nat,i=k/\k<=x.args.length/\J c d/\gY c d aD 1 an ((jt b x k).map Ce.i)/\gY c d aD 1 cO ((fG b x 0 (x.args.take k)).map Ce.i)/\(an≠.nil->cO≠.nil->an.D≠cO.D),λ_ _ i _=>((x.args.length:Int) -i).toNat,
    ⟨0,rfl,eO _,J.aA _,by simpa[jt,iD]using gY.nil c c aD 1,by simpa[fG]using gY.nil c c aD 1,λh=>absurd rfl h⟩,λ_ _ _ _ h=>h,λan cO k d f g u y A=>⟨k,rfl,f,g,u,y,A⟩,λ_ _ _ _=>rfl⟩
  let⟨w,μ0,ap,ax,ag,hμ⟩:=aA
  refine⟨w,μ0,ap,?_⟩
  intro an cO i d hI
  obtain⟨k,rfl,hk,aa,o1,o2,I⟩:=ax an cO i d hI
  have L:=v.trans aa
  refine dit (λh=>?_) λh=>?_
  .let⟨y,R⟩:=cK x.args k
   obtain⟨a',l',c',aH,av,aJ,k0,k1,_⟩:=(ac.ext L).cC.aG K
   have ai:(x.args.take k).length=k:=bJ
   have al:jt b x (k+1)=jt b x k++iD b x k [y]:=by
    unfold jt;rw[bd R,vK,ai,cE]
   have ah:fG b x 0 (x.args.take (k+1))=fG b x 0 (x.args.take k)++fG b x k [y]:=by
    rw[bd R,qY,ai,cE]
   have aK:(jt b x k).length<=k:=bX (uc _ _ _ _) bJ
   have aN:(fG b x 0 (x.args.take k)).length<=k:=by
    have:∀(l:List Int)(j:Nat),(fG b x j l).length<=l.length:=by
     intro l;induction l with
     |nil=>intro j;exact ad _
     |cons aG l S=>intro j;have:=S (j+1);simp only[fG];split<;>simp<;>omega
    have:=this (x.args.take k) 0;omega
   have Z:cR ((k:Int)+1)=((k+1:Nat):Int):=kW (n:=x.args.length) V V
   refine⟨V,V,y,by simpa using L.af (z.aG R),U,L.af g1,h0,V,l',k1,(me av _).aK aa Q λp M hb u F=>⟨p,rfl,λau=>?_,λaq=>?_⟩⟩
   .have A:=(Ln K k).2 (hb.1 au)
    intro g
    have s4:g.size=M.size+1:=by simp[g]
    have P:=o1.ext u
    have aw:cO.len=(fG b x 0 (x.args.take k)).length:=by have:=o2.len;simp at this;omega
    refine gY.append (c:=[.i 0]) (h:=[.i y]) ((o2.ext u).ext (J.push _ _)) (F.aH _) rfl (cw.push M _ _).iF bJ λs m5 W D q3 q4 X Y=>⟨J.tO (F.aH _) D Q,?_⟩
    rw[Z]
    have ay:=u.size
    refine⟨ag _ _ _ _ V D ?_ ?_ ?_,by rw[hμ,hμ];omega⟩
    .rw[al]
     have:iD b x k [y]=[]:=by simp only[iD];rw[aj A]
     rw[this,dO]
     rcases P.lt with e|e
     .subst e;exact⟨P.len,Or.inl rfl⟩
     .refine P.congr ?_
      rw[X _ (show _<g.size by omega) (λC=>?_),mR,ae V]
      by_cases B:an=.nil
      .subst B
       rcases o2.D with r|r
       .exact absurd r C
       .simp;omega
      .exact I B C
    .rw[ah]
     have:fG b x k [y]=[y]:=by simp only[fG];rw[aj A]
     rw[this];simpa using W
    .intro G H
     rcases Y with⟨_,e⟩|⟨q,t,_⟩|e
     .exact absurd e H
     .rw[t];exact I G q
     .rw[e]
      rcases P.lt with f|f
      .exact absurd f G
      .show an.D≠g.size;omega
   .have A:¬nI b x k=true:=λhh=>fb hb aq ((Ln K k).1 hh)
    intro g
    have s4:g.size=M.size+1:=by simp[g]
    have P:=o2.ext u
    have aw:an.len=(jt b x k).length:=by have:=o1.len;simp at this;omega
    refine gY.append (c:=[.i 0]) (h:=[.i y]) ((o1.ext u).ext (J.push _ _)) (F.aH _) rfl (cw.push M _ _).iF bJ λs m5 W D q3 q4 X Y=>⟨J.tO (F.aH _) D Q,?_⟩
    rw[Z]
    have ay:=u.size
    refine⟨ag _ _ _ _ V D ?_ ?_ ?_,by rw[hμ,hμ];omega⟩
    .rw[al]
     have:iD b x k [y]=[y]:=by simp only[iD];rw[ae A]
     rw[this];simpa using W
    .rw[ah]
     have:fG b x k [y]=[]:=by simp only[fG];rw[ae A]
     rw[this,dO]
     rcases P.lt with e|e
     .subst e;exact⟨P.len,Or.inl rfl⟩
     .refine P.congr ?_
      rw[X _ (show _<g.size by omega) (λC=>?_),mR,ae V]
      by_cases B:cO=.nil
      .subst B
       rcases o1.D with r|r
       .exact absurd r C
       .simp;omega
      .exactλe5=>I C B e5.symm
    .intro G H
     rcases Y with⟨_,e⟩|⟨q,t,_⟩|e
     .exact absurd e G
     .rw[t];exact I q H
     .rw[e]
      rcases P.lt with f|f
      .exact absurd f H
      .show g.size≠cO.D;omega
  .have g:x.args.take k=x.args:=cJ V
   rw[g]at o2
   unfold jt at o1
   rw[g]at o1
   have A:=uc b x x.args 0
   have u:∀(l:List Int)(j:Nat),(fG b x j l).length<=l.length:=by
    intro l;induction l with
    |nil=>intro j;exact ad _
    |cons aG l S=>intro j;have:=S (j+1);simp only[fG];split<;>simp<;>omega
   have y:=u x.args 0
   refine⟨an,cO,rfl,?_,?_,L,?_,?_⟩
   .unfold bW;rw[ae V,ae V,aj e];exact ar.gK o1 V
   .rw[aj e];exact ar.gK o2 V
   .rcases o1.D with f|f
    .exact Or.inl f
    .exact Or.inr (Or.inr V)
   .rcases o2.D with f|f
    .exact Or.inl f
    .exact Or.inr V
 .simp only[bu,ak]at q t r
  refine⟨.nil,.nil,rfl,?_,by rw[ae V];exact N,v,Or.inl rfl,Or.inl rfl⟩
  unfold bW;rw[ae V,ae V,ae V];exact N
end
section
variable{b:E}{i e:Nat}{d p g k h a j:O}{c:cg}{s:St}{l:List aU}{f:aU}{x:Instr}
def HR:∀(l:List (Int×Int))(k v j:Int),vx (JM l k v) j=if j=k then v else vx l j
 |[],k,v,j=>by simp[JM,vx]
 |(a,c)::g,k,v,j=>by
  simp only[JM];split
  .rename_i h;subst h;simp only[vx];split<;>simp_all
  .rename_i h;simp only[vx];split
   .rename_i b;subst b;rw[ae (λe=>h e.symm)]
   .exact HR g k v j
def Qa(l:List Int)(k:Nat)(a:Nat):eQ (l.take k) a<=eQ l a:=by
 have:eQ l a=eQ (l.take k) a+eQ (l.drop k) a:=by rw[<-lX,dm]
 have:=iU (l.drop k) a;omega
def wo{m:O}{h:List bO}(Y:af b i 8=some (O.v m))(L:dF b m h){t:Nat->Int}(H:fL h t){c:bO}(W:c∈h){f:O}(X:ar b f c.aN)(aD:h.length<=2000000000):
 dR cq 171 [vp i 0,.agg #[vi c.aQ,vi c.kG,O.v f]] b (c.aQ=1\/lz h c.aN):=by
 apply sW (i,0)
 unfold nR
 simp -zeta only[aC,aB]
 intro e
 have z:J b e:=(J.aA b).aH _
 have s1:e.size=b.size+1:=by simp[e]
 have Z:∀g∈[b.size],g<e.size:=by simp[s1]
 have ay:=(H.cell c W).fl
 have aA:=X.len
 have aE:=L.len
 clear_value e
 refine⟨λu=>jU (Or.inl (by simpa using u)) z,λu=>?_⟩
 simp only[ak]at u
 intro B
 have ah:J e B:=(J.aA e).aH _
 have ap:Dw B e.size []:=⟨#[],0,by simp[B],rfl⟩
 clear_value B
 refine fm (n:=c.aN.length) V (λk d=>J e d/\∃l,Dw d e.size l/\(∀a:Nat,vx l a=eQ (c.aN.take k) a)/\∀w∈c.aN.take k,1000<=w->(aI h w).aQ+eQ (c.aN.take k) (ix w)<=999999) ⟨ah,[],ap,λa=>by simp[vx,eQ],aL⟩ ?_
 rintro k m3 ax μ hk ⟨D,l,ab,N,x⟩ ag
 have A:=z.trans D
 refine dit (λh2=>?_) λh2=>?_
 .let⟨w,o⟩:=cK c.aN k
  have ac:1000<=w->gC h w:=λm=>H.field W (au o) m
  have aw:w<=9223372036854775807:=by
   rcases dJ (1000<=w)with q|q
   .have:=az (bZ (ac q)).1;unfold ix at this;omega
   .omega
  refine⟨V,V,w,by simpa using A.af (X.aG o),m,A.af Y,(hO (dF.ext A L) aw).aK D Z ?_⟩
  rintro _ m4 ⟨a,g,rfl,v,ai,F⟩
  have p:=D.trans F
  have aN:=z.trans p
  have ao:e.size<m3.size:=by obtain⟨T,S,G,_⟩:=ab;exact(Array.getElem?_eq_some_iff.1 G).1
  have P:Dw m4 e.size l:=by obtain⟨T,S,G,r⟩:=ab;exact⟨T,S,by rw[F.same _ ao];exact G,r⟩
  have j:∀a:Nat,eQ (c.aN.take (k+1)) a=eQ (c.aN.take k) a+(if w=1000+(a:Int)then 1 else 0):=λa=>by
   rw[bd o,lX];simp[eQ]
  refine⟨F,a,g,rfl,λU=>?_,λal=>?_⟩
  .have M:=v.1 U
   have I:=ai U
   subst I
   have ad:=iV M.1
   have aK:=iU (c.aN.take k) (ix w)
   have aJ:=lY (c.aN.take k) (ix w)
   have aF:(c.aN.take k).length<=3:=bJ
   have e1:cR (vx l (ix w)+1)=eQ (c.aN.take (k+1)) (ix w):=by
    rw[N,j,aj ad.symm];exact aP V V
   refine⟨l,P,l,P,?_⟩
   rw[e1]
   intro m5 aa av an
   have E:J e m5:=⟨by rw[av];exact p.size,λg v=>by rw[an g V,p.same g v]⟩
   have R:=z.trans E
   let⟨K,aM⟩:=bZ M
   obtain⟨f5,_,k0,_⟩:=(dF.ext R L).aG K
   have aG:=az K
   have aH:=(H.cell _ (au K)).hi
   have am:vx (JM l (ix w) (eQ (c.aN.take (k+1)) (ix w))) (ix w)=eQ (c.aN.take (k+1)) (ix w):=by rw[HR,aj rfl]
   have aq:=j (ix w)
   rw[aj ad.symm]at aq
   have e2:cR ((aI h w).aQ+eQ (c.aN.take (k+1)) (ix w))=(aI h w).aQ+eQ (c.aN.take (k+1)) (ix w):=aP V V
   refine⟨J.tO p E Z,m,R.af Y,V,V,_,by simpa using k0,_,aa,trivial,trivial,?_⟩
   rw[am,e2]
   refine⟨λr=>cT (λs=>?_) R,λr=>ag V _ ⟨E,_,aa,λa=>?_,λC d y=>?_⟩⟩
   .rcases s with s|s
    .exact u s
    .have:=s w (au o) M.1
     have:=Qa c.aN (k+1) (ix w)
     simp at r;omega
   .rw[HR]
    by_cases I:(a:Int)=ix w
    .have:a=ix w:=V
     subst this;rw[aj rfl]
    .rw[ae I,N,j,ae V];omega
   .by_cases Q:C=w
    .subst Q;simp at r;omega
    .rw[j,ae (λt=>Q (by rw[iV y]at t;exact t.symm))]
     rw[bd o]at d
     rcases List.mem_append.1 d with d|d
     .have:=x C d y;omega
     .simp at d;exact absurd d Q
  .have s:¬gC h w:=fb v al
   have E:w<1000:=by
    rcases dJ (1000<=w)with q|q
    .exact absurd (ac q) s
    .omega
   refine ag V _ ⟨p,l,P,λa=>by rw[N,j,ae V];omega,λC d y=>?_⟩
   rw[j,ae V]
   rw[bd o]at d
   rcases List.mem_append.1 d with d|d
   .have:=x C d y;omega
   .simp at d;omega
 .rw[cJ V]at x
  exact jU (Or.inr x) A
structure FP(b:E)(fb e:Nat)(f:aU)(g k h:O):Prop where
 g3:af b fb (e+3)=some (O.v g)
 g4:af b fb (e+4)=some (O.v k)
 g5:af b fb (e+5)=some (O.v h)
 an:ar b g f.an
 aR:ar b k f.aR
 aY:ar b h f.aY
def FP.ext{b c:E}{fb e:Nat}{f:aU}{g k h:O}(F:FP b fb e f g k h)(a:J b c):FP c fb e f g k h:=⟨a.af F.g3,a.af F.g4,a.af F.g5,F.an.ext a,F.aR.ext a,F.aY.ext a⟩
def HL{fb:Nat}{aW L fr:O}(m:RV b i 3 d p aW L fr c s)(ai:af b i 2=some (vi (bH c)))(C:yI c s l f x)(N:FP b fb e f g k h)(y:ar b a x.args)(aJ:x.op=11)(aj:s.heap.length<=2000000000):
 dR cq 100 [vp i 0,vp fb e,xv x a j] b (vS c s.heap (aG f.an (aG x.args 0))):=by
 apply sV (i,0) (fb,e)
 simp -zeta only[aC,aB]
 intro v
 have t:J b v:=(J.aA b).aH _
 have s1:v.size=b.size+1:=by simp[v]
 clear_value v
 have hl:∀D∈[b.size],D<v.size:=by simp[s1]
 have aq:=y.len
 have aM:=N.an.len
 have h2:=C.lp.2.2.1 V
 have r:0<=aG x.args 0/\aG x.args 0<f.an.length:=C.arg _ (fq V V)
 have an:=C.F.pW r.1 r.2 C.MO
 have P:=N.ext t
 have T:=C.ok.heap
 have Y:=C.ok.fA
 refine⟨L,t.af m.rB,g,P.g3,V,V,_,(y.ext t).pM V V,r.1,V,_,P.an.pM r.1 r.2,?_⟩
 generalize aG f.an (aG x.args 0)=w at*
 refine(hO (dF.ext t m.heap) an.2).aK (J.aA _) hl ?_
 rintro _ M ⟨aa,D,rfl,U,ag,F⟩
 have A:=t.trans F
 refine⟨F,aa,D,rfl,λah=>cT (λn=>nb U ah n.1) A,λW=>?_⟩
 have Z:=yb U W
 have y:=ag (by simpa using W)
 subst y
 let⟨z,al⟩:=bZ Z
 have S:=T.cell _ (au z)
 have aO:=(S.rp al).2
 have aH:=az z
 have aE:=m.heap.len
 let⟨E,X,k0,k1,k2⟩:=(dF.ext A m.heap).aG z
 refine⟨L,A.af m.rB,V,V,_,by simpa using k0,_,by simpa using k1,E,by simpa using k2,?_⟩
 intro m3 q
 have Q:J M q:=((J.aA M).aH _).ag (ad _) _ _
 have s4:q.size=M.size+1:=by simp[q,m3,aw]
 clear_value q
 have o:=A.trans Q
 have ap:(eP c.bn).length<=12:=by
  have:=ry Y.ni.types c.bn.length;rw[mV _ _ (ad _)]at this;exact this
 have ay:(bH c)=((eP c.bn).length:Int):=rfl
 have aL:=m.fA.cC.len
 have aK:=Y.ni.len
 have e1:cR ((aI s.heap w).kG -bH c)=(aI s.heap w).kG -bH c:=aP V V
 refine⟨bH c,o.af ai,?_⟩
 rw[e1]
 refine⟨λG=>cT (λn=>by have:=n.2.1;simp at G;omega) o,λG=>⟨p,o.af m.cC,λH=>cT (λn=>by have:=n.2.2.1;simp at H;omega) o,λH=>?_⟩⟩
 simp at G H
 let⟨ao,hq⟩:=cK c.cC (((aI s.heap w).kG -bH c).toNat)
 have am:dC c ((aI s.heap w).kG -bH c)=ao:=by simp[dC,hq]
 let⟨a',l',c',ac,ak,ax,j0,j1,j2,j3,j4⟩:=(m.fA.ext o).cC.aG hq
 have av:=ac.len
 have aF:=ak.len
 have aD:=X.len
 have aA:=S.fl
 refine⟨p,o.af m.cC,V,V,a',j0,l',j1,_,j2,_,j3,c',j4,?_⟩
 intro m5 B
 have R:J q B:=((J.aA q).aH _).ag (ad _) _ _
 have s6:B.size=q.size+1:=by simp[B,m5,aw]
 clear_value B
 have u:=o.trans R
 have e3:cR ((E.len:Int)+1)=(E.len:Int)+1:=aP V V
 rw[e3]
 unfold vS
 rw[am]
 have aN:=F.size
 refine⟨λI=>⟨λK=>?_,λK=>cT (λn=>by have:=n.2.2.2.1;simp at K;omega) u⟩,λI=>cT (λn=>by have:=n.2.2.2.2.1;simp at I;omega) u⟩
 simp at I K
 refine(wo (u.af m.rB) (dF.ext u m.heap) T (au z) (X.ext (Q.trans R)) aj).aK (J.aA _) bJ λb2 m7 ae ab _=>⟨b2,rfl,fI (ae.trans ?_) (u.trans ab)⟩
 exact⟨λhs=>⟨Z,V,V,V,V,hs⟩,λn=>n.2.2.2.2.2⟩
def Ed{fb:Nat}{aW hp fr:O}(B:RV b i 3 d p aW hp fr c s)(C:yI c s l f x)(I:FP b fb e f g k h)(M:ar b a x.args)(aO:x.op=14\/x.op=19\/x.op=21\/x.op=16\/x.op=17)(aL:s.heap.length<=2000000000):
 dR cq 101 [vp i 0,vp fb e,xv x a j] b ((x.op=14->gC s.heap (aG f.an (aG x.args 0))/\(aI s.heap (aG f.an (aG x.args 0))).aQ<999999)/\(x.op=19->gC s.heap (aG f.an (aG x.args 0))/\x.bQ<(aI s.heap (aG f.an (aG x.args 0))).aN.length)/\
  (x.op=21->gC s.heap (aG f.an (aG x.args 0))/\(aI s.heap (aG f.an (aG x.args 0))).kG∈cx c.bn x.bQ)/\((x.op=16\/x.op=17)->Fy s.heap f x)):=by
 apply rD (i,0) (fb,e)
 simp -zeta only[aC,aB]
 intro R
 have P:J b R:=(J.aA b).aH _
 have s1:R.size=b.size+1:=by simp[R]
 clear_value R
 have hl:∀D∈[b.size],D<R.size:=by simp[s1]
 have aZ:=M.len
 have aY:=M.cap
 have a8:=I.an.len
 have a2:=I.aY.len
 have h4:=C.lp
 have a5:=C.Lm
 have aN:1<=x.args.length:=V
 have aU:=h4.1
 clear h4
 have E:0<=aG x.args 0/\aG x.args 0<f.an.length:=C.arg _ (fq V V)
 have aP:=C.F.pW E.1 E.2 C.MO
 have F1:=I.ext P
 have hI:=C.ok.heap
 have aF:Fy s.heap f x<->(gC s.heap (aG f.an (aG x.args 0))/\kY (aI s.heap (aG f.an (aG x.args 0))).aN=cN f (x.args.drop 1)/\((aI s.heap (aG f.an (aG x.args 0))).aQ=1\/lz s.heap (aI s.heap (aG f.an (aG x.args 0))).aN)/\(x.op=17->aG f.aY (aG x.args 0)=0)):=Tm
 rw[aF]
 refine⟨hp,P.af B.rB,g,F1.g3,V,V,_,(M.ext P).pM V V,E.1,V,_,F1.an.pM E.1 E.2,?_⟩
 generalize aG f.an (aG x.args 0)=w at*
 refine(hO (dF.ext P B.heap) aP.2).aK (J.aA _) hl ?_
 rintro _ F ⟨aq,D,rfl,U,aJ,aa⟩
 have Y:=P.trans aa
 refine⟨aa,aq,D,rfl,λaK=>cT (λv=>?_) Y,λak=>?_⟩
 .have t:=nb U aK
  rcases aO with q|q|q|q
  .exact t (v.1 q).1
  .exact t (v.2.1 q).1
  .exact t (v.2.2.1 q).1
  .exact t (v.2.2.2 q).1
 have H:=yb U ak
 have aH:=aJ (by simpa using ak)
 subst aH
 let⟨X,a7⟩:=bZ H
 have aj:=hI.cell _ (au X)
 have a6:=az X
 have a3:=B.heap.len
 let⟨Z,ag,k0,k1,k2⟩:=(dF.ext Y B.heap).aG X
 refine⟨hp,Y.af B.rB,V,V,_,by simpa using k0,_,by simpa using k1,Z,by simpa using k2,?_⟩
 intro m3 A
 have ab:J F A:=((J.aA F).aH _).ag (ad _) _ _
 have s4:A.size=F.size+1:=by simp[A,m3,aw]
 have kB:af A F.size 1=some (vi (aI s.heap w).kG):=(cw.ag (m:=m3) (o:=0) (r:=[.i (aI s.heap w).aQ,.i (aI s.heap w).kG,.s Z]) (cw.push F _ _)).bU 1
 clear_value A
 have z:=Y.trans ab
 have a9:=aa.size
 have G:∀D∈[F.size,b.size],D<A.size:=bJ
 have a1:=ag.len
 refine⟨λq=>?_,λav=>⟨λq=>?_,λax=>⟨λq=>?_,λay=>?_⟩⟩⟩
 .simp at q
  refine fI ?_ z
  simp
  exact⟨λu=>⟨λ_=>⟨H,u⟩,λt=>V,λt=>V,λt=>V⟩,λu=>(u.1 q).2⟩
 .simp at q
  refine fI ?_ z
  simp
  exact⟨λu=>⟨λt=>V,λ_=>⟨H,V⟩,λt=>V,λt=>V⟩,λu=>oh ((u.2.1 q).2)⟩
 .simp at q
  refine⟨d,z.af B.bn,(tB (B.fA.ext z).bn C.ok.fA.ni.types _).aK (J.aA _) G ?_⟩
  rintro _ m5 ⟨K,rfl,L,y⟩
  refine⟨y,K,rfl,y.cr kB,(me L _).aK y G λb2 m6 W ae ac=>⟨b2,rfl,fI (W.trans ?_) (z.trans ac)⟩⟩
  exact⟨λu=>⟨λt=>V,λt=>V,λ_=>⟨H,u⟩,λt=>V⟩,λu=>(u.2.2.1 q).2⟩
 .simp at av ax ay
  have S:x.op=16\/x.op=17:=V
  have e1:(Int.toNat (1:Int))=1:=rfl
  have e2:(Int.toNat (a.len:Int))=a.len:=V
  rw[e1,e2]
  have am:=Vn (M.ext z) aN
  have a4:=am.len
  have a0:(x.args.drop 1).length<=4:=bJ
  refine⟨V,V,V,?_⟩
  refine dV (n:=(x.args.drop 1).length) V (λai s' K=>J A K/\gY A K aD 1 s' ((cN f ((x.args.drop 1).take ai)).map Ce.i)) ⟨J.aA _,by simpa[cN]using gY.nil A A aD 1⟩ ?_
  rintro ai s' m5 aT μ hk ⟨y,o5⟩ aR
  have aQ:=z.trans y
  refine dit (λu=>?_) λu=>?_
  .let⟨T,K⟩:=cK (x.args.drop 1) ai
   have L:=C.arg T (xg (au K))
   have N:=I.ext aQ
   refine⟨V,V,T,by simpa using(am.ext y).aG K,g,N.g3,L.1,V,_,N.an.pM L.1 L.2,?_⟩
   intro m6
   refine nX o5 y (by simp[cN];omega) λah m7 q1 Q=>⟨J.tO (y.aH _) Q G,aR V _ _ ⟨Q,?_⟩⟩
   rw[bd K]
   simpa[cN]using q1
  .rw[cJ V]at o5
   have i5:ar m5 s' (cN f (x.args.drop 1)):=ar.gK o5 (by simp[cN];omega)
   refine(Ee (ag.ext (ab.trans y)) (oh aj.fl)).aK (Qb (nZ (aI s.heap w).aN) aj.fl) (λD U=>y.lt (G D U)) λps m6 o6 i6 ae=>⟨ps,rfl,?_⟩
   have ac:=y.trans ae
   refine(Ct i6 (i5.ext ae)).aK ac G λb2 m7 W aV T=>⟨b2,rfl,λh8=>cT (λv=>nb W h8 (v.2.2.2 S).2.1) (z.trans T),λh8=>?_⟩
   have al:=yb W h8
   have Q:=z.trans T
   have ap:aM cq 171 [vp i 0,.agg #[vi (aI s.heap w).aQ,vi (aI s.heap w).kG,O.v Z]] m7 λaS an=>dY [F.size,b.size] m7 an/\∃ao:Bool,aS=vb ao/\((ao=true<->((aI s.heap w).aQ=1\/lz s.heap (aI s.heap w).aN))/\J b an):=
    (wo (Q.af B.rB) (dF.ext Q B.heap) hI (au X) (ag.ext (ab.trans T)) aL).aK T G λb3 m8 N aX aE=>⟨b3,rfl,N,z.trans aE⟩
   have F7:=I.ext Q
   have aA:aG x.args 0<f.aY.length:=V
   refine⟨λK=>⟨h,F7.g5,V,V,_,(M.ext Q).pM V V,E.1,V,_,F7.aY.pM E.1 aA,λL=>cT (λv=>?_) Q,λL=>ap.mono ?_⟩,λK=>ap.mono ?_⟩
   .simp at K L;exact L ((v.2.2.2 S).2.2.2 K)
   .rintro _ m8 ⟨hs,b3,rfl,N,ah⟩
    refine⟨hs,b3,rfl,fI (N.trans ?_) ah⟩
    simp at L
    exact⟨λhf=>⟨λt=>V,λt=>V,λt=>V,λ_=>⟨H,al,hf,λ_=>L⟩⟩,λv=>(v.2.2.2 S).2.2.1⟩
   .rintro _ m8 ⟨hs,b3,rfl,N,ah⟩
    refine⟨hs,b3,rfl,fI (N.trans ?_) ah⟩
    simp at K
    exact⟨λhf=>⟨λt=>V,λt=>V,λt=>V,λ_=>⟨H,al,hf,λt=>absurd t K⟩⟩,λv=>(v.2.2.2 S).2.2.1⟩
end
section
variable{b:E}{c:Nat}{a:aU}{d e h:O}
def vh(an:List Int):∀(b a aR:List Int),bB an aR (b++a)=bB an (bB an aR b) a
 |[],a,aR=>rfl
 |y::b,a,aR=>by simp only[cH,bB,vh an b a]
def MV{f fb:Nat}(i:af b f 0=some (vp fb c))(F:FP b fb c a d e h){x:Int}(g:0<=x/\x<a.an.length):dR cq 98 [vi x,vp f 0] b (1000<=aG a.an x):=by
 apply vu (f,0);have j:=F.an.len;exact⟨(fb,c),i,d,F.g3,g.1,V,_,F.an.pM g.1 g.2,fI aL (J.aA _)⟩
def P5{mb fb:Nat}{a4 bp aW u fr:O}{g:cg}{N:St}(R:RV b mb 3 a4 bp aW u fr g N)(bc:af b mb 2=some (vi (bH g))){fs:List aU}{x:Instr}(C:yI g N fs a x){ap bl:O}(Q:FP b fb c a d e h)(Z:ar b ap x.args)(a1:N.heap.length<=2000000000):
 dR cq 59 [vp mb 0,vp fb c,xv x ap bl] b (kA g N a x (bB a.an a.aR (bW g x))):=by
 apply xE (mb,0) (fb,c)
 simp -zeta only[aC,aB]
 intro m1 L
 have w:J b L:=((J.aA b).aH _).aH _
 have s1:m1.size=b.size+1:=by simp[m1]
 have s2:L.size=b.size+2:=by simp[L,s1]
 have P:∀j∈[m1.size,b.size],j<L.size:=bJ
 have kP:af L b.size 0=some (vp fb c):=((cw.push b [.p fb c] _).ext (J.push m1 _)).bU 0
 clear_value L
 have bt:=Z.len
 have bK:=Q.an.len
 have bE:=Q.aR.len
 have bw:=Q.aY.len
 have bA:=C.Lm
 have hd:=C.dst
 have bh:=C.ZN
 refine⟨e,w.af Q.g4,(eL (Q.aR.ext w) V).aK V P λB m3 oq iq aJ=>⟨B,rfl,?_⟩⟩
 have ax:=iq.len
 have aN:=w.trans aJ
 refine(wg (R.fA.ext aN) (aN.af R.cC) C.call (Z.ext aN) (oh C.lp.1) C.lp.2.2.2.1).aK aJ P ?_
 rintro _ U ⟨rs,ls,rfl,aA,aO,aK,a3,a2⟩
 have a8:=aJ.trans aK
 have bn:=oq.ext aK
 refine⟨aK,rs,ls,rfl,?_⟩
 have bM:=IY g x
 have bs:=C.lp.1
 have bL:=aA.len
 have a_:=C.Kw
 have bi:∀ac∈a.aR,0<=ac:=λac T=>(C.OQ ac T).1
 have bG:L.size<=B.D:=by
  rcases oq.D with k|k
  .subst k;simp at ax;omega
  .exact k
 have bI:B.D<m3.size:=by
  rcases oq.lt with k|k
  .subst k;simp at ax;omega
  .exact k
 have aM:=C.arg
 have bD:=w.size
 have kr:∀{v:E},(∀j,j<U.size->j≠B.D->v[j]? =U[j]?)->ar v rs (bW g x):=λhk=>iO aA λG=>hk _ (iP aA G) λk=>by
  have bb:x.args≠[]:=λS=>by
   let⟨y,s⟩:=UY _ G;have:=Ch s;rw[S]at this;simp at this
  rcases a3 with W|W|W
  .subst W;have:=aA.len;simp at this;exact G (List.length_eq_zero_iff.1 this.symm)
  .rw[W]at k;have:=iP Z bb;omega
  .omega
 have kl:∀{v:E},(∀j,j<U.size->j≠B.D->v[j]? =U[j]?)->ar v ls (if x.op=9\/x.op=24 then fG g x 0 x.args else[]):=λhk=>iO aO λG=>hk _ (iP aO G) λk=>by
  rcases a2 with W|W
  .subst W;have:=aO.len;simp at this;exact G (List.length_eq_zero_iff.1 this.symm)
  .omega
 refine fm (n:=(bW g x).length) V (λp v=>J L v/\(∀j,j<U.size->j≠B.D->v[j]? =U[j]?)/\gY L v aD 1 B ((bB a.an a.aR ((bW g x).take p)).map Ce.i)/\∀ac∈bB a.an a.aR ((bW g x).take p),0<=ac) ⟨a8,λ_ _ _=>rfl,bn,bi⟩ ?_
 rintro p m5 bq μ hk ⟨ad,am,aF,K⟩ aT
 have F5:=Q.ext (w.trans ad)
 have bf:=ka a.an ((bW g x).take p) a.aR
 have ay:ar m5 B (bB a.an a.aR ((bW g x).take p)):=ar.gK aF V
 refine dit (λh6=>?_) λh6=>?_
 .let⟨y,s⟩:=cK (bW g x) p
  have q:=a_ y (au s)
  have D:bB a.an a.aR ((bW g x).take (p+1))=if 1000<=aG a.an y then gR (bB a.an a.aR ((bW g x).take p)) y (aG (bB a.an a.aR ((bW g x).take p)) y -1)else bB a.an a.aR ((bW g x).take p):=by
   rw[bd s,vh];rfl
  have H:y<(bB a.an a.aR ((bW g x).take p)).length:=V
  have aV:=K _ (fq q.1 H)
  have aY:aG (bB a.an a.aR ((bW g x).take p)) y<=999999:=by
   let⟨q',M,al⟩:=lj ((bW g x).take p) a.aR y.toNat _ (oI q.1 H);have:=(C.OQ q' (au M)).2;omega
  refine⟨V,V,y,by simpa using(kr am).aG s,d,F5.g3,q.1,V,_,F5.an.pM q.1 q.2,λA=>?_,λA=>aT V _ ⟨ad,am,by rw[D,ae (by simpa using A)];exact aF,by rw[D,ae (by simpa using A)];exact K⟩⟩
  simp at A
  rw[aj A]at D
  refine⟨q.1,V,_,ay.pM q.1 H,q.1,V,?_⟩
  have e1:cR (aG (bB a.an a.aR ((bW g x).take p)) y -1)=aG (bB a.an a.aR ((bW g x).take p)) y -1:=aP V V
  rw[e1]
  rcases aF.aG with aH|⟨X,an,tail,z1,z2,z3,z4,z5⟩
  .rw[aH]at ax;simp at ax;omega
  .have a5:B.off=0:=by rw[z1];rfl
   have aa:B.D=X:=by rw[z1];rfl
   have ah:B.off+y.toNat*1=y.toNat:=V
   rw[ah,aa]
   have aw:y.toNat<((bB a.an a.aR ((bW g x).take p)).map Ce.i).length:=bJ
   refine⟨z3.eC (by simp only[ba];omega),?_⟩
   intro m6
   have F:J L m6:=ad.ag V _ _
   have ao:∀j,j<U.size->j≠B.D->m6[j]? =U[j]? :=λj t G=>by rw[bo _ _ _ _ V];exact am j t G
   have o6:gY L m6 aD 1 B ((bB a.an a.aR ((bW g x).take (p+1))).map Ce.i):=by
    rw[D];refine⟨by rw[dW,jV,<-dW (f:=Ce.i)];exact aF.len,Or.inr ⟨X,an,tail,z1,z2,?_,?_,z5⟩⟩
    .have:=cw.ag (m:=m5) (o:=y.toNat) (r:=[.i (aG (bB a.an a.aR ((bW g x).take p)) y -1)]) z3;have e6:js ((bB a.an a.aR ((bW g x).take p)).map Ce.i++tail) y.toNat [.i (aG (bB a.an a.aR ((bW g x).take p)) y -1)]=(gR (bB a.an a.aR ((bW g x).take p)) y (aG (bB a.an a.aR ((bW g x).take p)) y -1)).map Ce.i++tail:=by
      simp only[js,gR,ug];rw[MD _ _ aw]
     rw[e6]at this;exact this
    .simp only[ba,dW,jV]at z4⊢;exact z4
   have a0:=ka a.an ((bW g x).take (p+1)) a.aR
   have aS:ar m6 B (bB a.an a.aR ((bW g x).take (p+1))):=ar.gK o6 V
   have Y:aG (bB a.an a.aR ((bW g x).take (p+1))) y=aG (bB a.an a.aR ((bW g x).take p)) y -1:=by rw[D,Vd q.1 H y q.1,aj rfl]
   have ag:=aS.pM (i:=y) q.1 V
   rw[Y,ah,aa]at ag
   refine⟨J.tO ad F P,q.1,V,_,ag,λh8=>cT (λz=>?_) (w.trans F),λh8=>aT V _ ⟨F,ao,o6,λac T=>?_⟩⟩
   .simp at h8
    have ab:bB a.an a.aR (bW g x)=bB a.an (bB a.an a.aR ((bW g x).take (p+1))) ((bW g x).drop (p+1)):=by rw[<-vh,dm]
    have av:y<(bB a.an a.aR (bW g x)).length:=by rw[ka];omega
    have I:=oI (l:=bB a.an a.aR (bW g x)) q.1 av
    have aZ:=z.nn _ (au I)
    rw[ab]at I
    let⟨q',M,al⟩:=lj _ _ _ _ I
    have aQ:=DQ M
    rw[Y]at aQ
    rw[<-ab]at al
    omega
   .rw[D]at T
    rcases pS T with T|T
    .simp at h8;omega
    .exact K ac T
 .have bj:(bW g x).take p=bW g x:=cJ V
  rw[bj]at ay K bf
  have aQ:=kl am
  generalize bF:bB a.an a.aR (bW g x)=aR at*
  have bg:=aQ.len
  refine⟨λv=>J m5 v/\(lT x.op->aG aR x.dst<=0),?_,?_⟩
  .refine(rG _ _ ⟨V,V⟩).aK ad P λj m6 t ag F=>⟨j,rfl,λH=>⟨hd.1,V,_,(ay.ext ag).pM hd.1 V,λA=>cT (λz=>?_) (w.trans F),λA=>⟨ag,λ_=>by simpa using A⟩⟩,λD=>⟨ag,λI=>absurd I (Go.Vc.fb t D)⟩⟩
   have:=z.dst (t.1 H);simp at A;omega
  .rintro m6 ⟨ag,aa⟩
   have bm:∀(ao:List Int)(jj:Nat)(y:Int),y∈fG g x jj ao->y∈ao:=by
    intro ao;induction ao with
    |nil=>intro jj y h;simp[fG]at h
    |cons D ao A=>
     intro jj y h;simp only[fG]at h;split at h
     .rcases List.mem_cons.1 h with rfl|h
      .exact aX
      .exact ai _ (A _ _ h)
     .exact ai _ (A _ _ h)
   generalize aw:(if x.op=9\/x.op=24 then fG g x 0 x.args else[])=LL at*
   have a9:∀y∈LL,0<=y/\y<a.an.length:=λy s=>by
    rw[<-aw]at s;split at s
    .exact aM y (bm _ _ _ s)
    .simp at s
   refine fm (n:=LL.length) (bg▸aQ.iC) (λp v=>J m5 v/\∀y∈LL.take p,1000<=aG a.an y->gC N.heap (aG a.an y)) ⟨ag,aL⟩ ?_
   rintro k2 m7 I2 μ2 bz ⟨ah,an⟩ aS
   have Y:=ad.trans ah
   have A:=w.trans Y
   have H:=Q.ext A
   refine dit (λh8=>?_) λh8=>?_
   .let⟨y,s⟩:=cK LL k2
    have q:=a9 y (au s)
    refine⟨V,V,y,by simpa using(aQ.ext ah).aG s,d,H.g3,q.1,V,_,H.an.pM q.1 q.2,λF=>?_,λF=>aS V _ ⟨ah,bY s an λu=>by simp at F;omega⟩⟩
    simp at F
    refine(Li (A.af R.rB) (dF.ext A R.heap) (C.F.pW q.1 q.2 C.MO).2).aK Y P λj m8 t al I=>⟨j,rfl,λD=>cT (λz=>?_) (w.trans I),λD=>aS V _ ⟨ah.trans al,bY s an λ_=>yb t D⟩⟩
    have M:=au s
    rw[<-aw]at M
    split at M
    .rename_i e9;exact nb t D (z.cO e9 y M F)
    .simp at M
   .rw[cJ V]at an
    have ab:(x.op=9\/x.op=24)->KF g N.heap a x:=λe9=>by rw[aj e9]at aw;rw[<-aw]at an;exact an
    have bk:=ay.ext ah
    have hV:=R.ext A
    have aV:1<=x.args.length->0<=aG x.args 0/\aG x.args 0<a.an.length:=λX=>aM _ (fq V V)
    have ga:∀{v},J b v->1<=x.args.length->af v ap.D (ap.off+Int.toNat (0:Int)*1)=some (vi (aG x.args 0)):=λhx X=>(Z.ext hx).pM V V
    clear aT aS am kr kl bh a3 a2
    refine⟨λk=>?_,λe1=>?_⟩
    .simp only[bV,aE]at k
     refine(iX (Z.ext A) 98 #[] #[vp b.size 0] be (λy=>1000<=aG a.an y) (λy s v av=>?_)).aK Y (λj t=>P j (by simp at t;simp[t])) λj m8 t al I=>⟨j,rfl,fI ?_ (w.trans I)⟩
     .simpa using MV (av.af (Y.af kP)) (H.ext av) (aM y s)
     .have aH:(!j)=true<->¬(j=true):=aL
      rw[aH,t]
      constructor
      .intro aY
       have u:∀y∈x.args,aG a.an y<1000:=λy s=>by
        rcases dJ (1000<=aG a.an y)with X|X
        .exact absurd ⟨y,s,X⟩ aY
        .omega
       have M:x.op≠6/\x.op≠24/\x.op≠23/\x.op≠11/\x.op≠14/\x.op≠15/\x.op≠16/\x.op≠17/\x.op≠19/\x.op≠21:=by rcases k with k|k|k|k|k|k<;>rw[k]<;>decide
       exact⟨K,aa,λ_=>u,λq=>absurd q M.1,ab,λq=>q.elim (λh=>absurd h M.2.1) (λh=>absurd h M.2.2.1),λq=>absurd q M.2.2.1,λq=>absurd q M.2.2.2.1,λq=>absurd q M.2.2.2.2.1,λq=>absurd q M.2.2.2.2.2.1,λq=>q.elim (λh=>absurd h M.2.2.2.2.2.2.1) (λh=>absurd h M.2.2.2.2.2.2.2.1),λq=>absurd q M.2.2.2.2.2.2.2.2.1,λq=>absurd q M.2.2.2.2.2.2.2.2.2⟩
      .rintro z ⟨y,s,X⟩
       have:=z.nT V y s;omega
    simp only[bu,ak]at e1
    refine⟨λk=>?_,λe6=>?_⟩
    .simp only[aE]at k
     have bx:=C.lp.2.2.2.2.1 k
     have iy:FA N.heap a x->kA g N a x aR:=λu=>by
      refine⟨K,aa,?_,?_,ab,?_,?_,?_,?_,?_,?_,?_,?_⟩<;>intro q<;>first|(exfalso;omega)|exact u
     refine⟨λF=>?_,λF=>jU (iy λG=>absurd (by simpa using F) G) A⟩
     simp at F
     have aZ:cR (x.bM -1)=x.bM -1:=aP V V
     rw[aZ]
     have M:0<=x.bM -1/\x.bM -1<a.aY.length:=V
     refine⟨h,H.g5,V,V,_,H.aY.pM M.1 M.2,λD=>?_,λD=>jU (iy λ_ G=>absurd (by simpa using D) G) A⟩
     simp at D
     obtain⟨T,dd,aH,_⟩:=C.Ll _ (fq M.1 M.2) D
     have bC:=az aH
     have a6:ix (aG a.aY (x.bM -1))=(aG a.aY (x.bM -1) -1000).toNat:=rfl
     have a0:cR (aG a.aY (x.bM -1) -1000)=aG a.aY (x.bM -1) -1000:=aP V V
     have bv:=R.heap.len
     let⟨f9,a5,k0,k1,a7⟩:=(dF.ext A R.heap).aG aH
     have br:=a5.len
     have aY:aI N.heap (aG a.aY (x.bM -1))=dd:=by simp[aI,aH]
     refine⟨u,hV.rB,h,H.g5,V,V,_,H.aY.pM M.1 M.2,?_⟩
     rw[a0,<-a6]
     refine⟨V,V,f9,a7,fI ?_ A⟩
     simp only[aE]
     refine⟨λav=>iy λ_ _=>by rw[aY];omega,λz=>?_⟩
     have:=z.je k F D
     rw[aY]at this;omega
    simp only[ak]at e6
    refine⟨λk=>?_,λa6=>?_⟩
    .simp only[bV,aE]at k
     refine(yp bk).aK Y P λj m8 t al I=>⟨j,rfl,λF=>cT (λz=>nb t F (z.zero k).1) (w.trans I),λF=>?_⟩
     have F8:=Q.ext (w.trans I)
     refine⟨h,F8.g5,(yp F8.aY).aK I P λb2 m9 a0 br aZ=>⟨b2,rfl,λD=>cT (λz=>nb a0 D (z.zero k).2) (w.trans aZ),λD=>?_⟩⟩
     have M:=w.trans aZ
     have F9:=Q.ext M
     have iy:(x.op=23->1<N.av.length\/aG a.an (aG x.args 0)<1000)->kA g N a x aR:=λu=>by
      refine⟨K,aa,?_,?_,ab,?_,?_,?_,?_,?_,?_,?_,?_⟩<;>intro q<;>first|exact u q|(exfalso;omega)|exact⟨(yb t F),(yb a0 D)⟩
     have bv:=R.av.len
     refine⟨λav=>jU (iy λq=>by simp at av;omega) M,λav=>⟨fr,M.af R.OD,λaH=>jU (iy λ_=>Or.inl (by simp at aH;omega)) M,λaH=>?_⟩⟩
     simp at av aH
     have a5:x.op=23:=V
     have X:=C.lp.2.1 V
     have S:=aV V
     refine⟨d,F9.g3,V,V,_,ga M V,S.1,V,_,F9.an.pM S.1 S.2,fI ?_ M⟩
     simp
     refine⟨λa7=>iy λ_=>Or.inr a7,λz=>?_⟩
     rcases z.ret a5 with aY|aY
     .omega
     .exact aY
    simp only[bu,ak]at a6
    refine⟨λk=>?_,λz=>?_⟩
    .simp only[aE]at k
     refine(HL hV (A.af bc) C H (Z.ext A) k a1).aK Y P λj m8 t al I=>⟨j,rfl,fI (t.trans ?_) (w.trans I)⟩
     refine⟨λu=>?_,λh=>h.apply k⟩
     refine⟨K,aa,?_,?_,ab,?_,?_,?_,?_,?_,?_,?_,?_⟩<;>intro q<;>first|(exfalso;omega)|exact u
    simp only[ak]at z
    refine⟨λk=>?_,λF=>?_⟩
    .simp only[aE]at k
     have X:=C.lp.2.1 V
     have S:=aV V
     refine⟨d,H.g3,V,V,_,ga A V,S.1,V,_,H.an.pM S.1 S.2,fI ?_ A⟩
     simp only[Hr,aq]
     refine⟨λu=>?_,λh=>h.drop k⟩
     refine⟨K,aa,?_,?_,ab,?_,?_,?_,?_,?_,?_,?_,?_⟩<;>intro q<;>first|(exfalso;omega)|exact u
    simp only[ak]at F
    refine⟨λk=>?_,λD=>?_⟩
    .simp only[bV,aE]at k
     refine(Ed hV C H (Z.ext A) V a1).aK Y P λj m8 t al I=>⟨j,rfl,fI (t.trans ?_) (w.trans I)⟩
     refine⟨λu=>?_,λh=>⟨h.VV,h.load,h.BJ,h.Jp⟩⟩
     refine⟨K,aa,?_,?_,ab,?_,?_,?_,u.1,?_,u.2.2.2,u.2.1,u.2.2.1⟩<;>intro q<;>exfalso<;>omega
    .simp only[bu,ak]at D
     refine jU ?_ A
     refine⟨K,aa,?_,?_,ab,?_,?_,?_,?_,?_,?_,?_,?_⟩<;>intro q<;>exfalso<;>omega
end
section
variable{N c:Nat}{b:Nat->Nat}{a:E}{h:List bO}
def mZ(w:Int)(a:E):vm cq 109 [vi w] a (vi (gF w)):=by
 apply wt;unfold gF;exact⟨λh=>by simp at h;rw[aj h];exact⟨rfl,J.aA _⟩,λh=>by simp at h;rw[ae V];exact⟨rfl,J.aA _⟩⟩
def uO{d:O}(s:dS N b a d h)(A:∀e,a.size<=e->b e=0)(kb:cw a c eu [.s d])(C:b c=5)(H:h.length<=2000000000):
 aM cq 176 [vp c 0] a λ_ g=>dS N b g (d.cut 0 (ji h h.length) 3) (ns h)/\cw g c eu [.s (d.cut 0 (ji h h.length) 3)]/\HC b a b g:=by
 apply Ag (c,0)
 have G:=s.len
 have t:=s.cells V
 have E:=t.cap
 have j:af a c 0=some (O.v d):=kb.bU 0
 refine⟨d,j,λl g=>g=a/\∃n:Nat,l=n/\n<=h.length/\ji h n=ji h h.length,λl _=>l.toNat,⟨rfl,h.length,V,ad _,rfl⟩,?_⟩
 rintro l e ⟨rfl,n,rfl,B,u⟩
 have x:Int.toNat (0:Int)=0:=rfl
 have en:Int.toNat (n:Int)=n:=V
 have iy:ji h n=n->dS N b (ag e c 0 [.s (d.cut 0 n 3)]) (d.cut 0 (ji h h.length) 3) (ns h)/\cw (ag e c 0 [.s (d.cut 0 n 3)]) c eu [.s (d.cut 0 (ji h h.length) 3)]/\HC b e b (ag e c 0 [.s (d.cut 0 n 3)]):=λw=>by
  have f:dz (λk=>k=5) b e b (ag e c 0 [.s (d.cut 0 n 3)]):=dz.ag A C _ _;have i:ji h h.length=n:=by rw[<-u,w]
  rw[i];refine⟨?_,cw.ag (m:=e) (o:=0) (r:=[.s (d.cut 0 n 3)]) kb,f.mono λk z=>Or.inr (Or.inl z)⟩;have:=(s.eY f be be).cut B;unfold ns;rw[i];exact this
 refine⟨λp=>?_,λp=>?_⟩
 .simp only[lx,aq]at p
  obtain⟨k,rfl⟩:∃k,n=k+1:=⟨n -1,V⟩
  have i:cR (((k+1:Nat):Int) -1)=(k:Int):=by rw[aP V V];omega
  let⟨v,f⟩:=cK h k
  obtain⟨D,F,y,_⟩:=t.aG f
  refine⟨d,j,?_⟩
  rw[i]
  refine⟨V,V,v.aQ,by simpa using y,λq=>⟨⟨rfl,k,rfl,V,?_⟩,by show(k:Int).toNat<((k+1:Nat):Int).toNat;omega⟩,λq=>⟨d,j,V,V,V,kb.eC aL,?_⟩⟩
  .rw[<-u,Qz f (by simpa using q)]
  .rw[x,en];exact iy (My f (by simpa using q))
 .simp only[lx,bD]at p
  have q:n=0:=V
  subst q
  exact⟨d,j,V,V,V,kb.eC aL,iy rfl⟩
def Ga{e:O}(hh:dS N b a e h)(hn:∀g,a.size<=g->b g=0)(kb:cw a c eu [.s e])(hr:b c=5){v:Int}{W:Nat->Int}(hI:fL h (λg=>W g+eQ [v] g))(he:∀g,0<=W g)(a5:h.length<=2000000000):
 aM cq 107 [vp c 0,vi v] a λ_ q=>∃u av,dS N u q av (ns (gS h [v]))/\cw q c eu [.s av]/\HC b a u q:=by
 apply Af (c,0)
 intro r
 have X:J a r:=(J.aA a).aH _
 have s1:r.size=a.size+1:=by simp[r]
 have o1:gY a r aD 1 (.mk a.size 0 1 1) ([v].map Ce.i):=gY.new (J.aA a) aD 1 _ 1 aL
 have c1:HC b a (pu b a.size 6) r:=dz.pu X hn (ad _) V 6
 have a1:iA (pu b a.size 6) r aD 1 6 (.mk a.size 0 1 1) ([v].map Ce.i):=iA.gK o1 λ_=>fQ _ _ _
 have aN:dS N (pu b a.size 6) r e h:=hh.eY (dz.pu (p:=λ_=>False) X hn (ad _) V 6) id id
 have aT:=kb.ext X
 have aO:pu b a.size 6 c=5:=by rw[ez (oh kb.lt)];exact hr
 clear_value r
 have aY:=OE λaF d=>(hI.cell aF d).fl
 have aZ:=hh.len
 refine Ky (γ:=List bO×List Int) (λi G q=>∃u,dS N u q e i.1/\iA u q aD 1 6 G (i.2.reverse.map Ce.i)/\HC b a u q/\fL i.1 (λg=>W g+eQ i.2 g)/\gS i.1 i.2=gS h [v]/\i.1.length=h.length/\i.2.length+Cm i.1<=1+Cm h/\cw q c eu [.s e]/\u c=5) (λi=>Cl i.1+i.2.length) (h,[v])
  ⟨_,aN,a1,c1,hI,rfl,rfl,aL,aT,aO⟩ ?_
 rintro⟨d,st⟩ G m2 aU μ ⟨m,B,a2,i,t,y,K,al,P,z⟩ ae
 simp only[]at B a2 t y K al
 have ay:G.len=st.length:=by have:=a2.len;simp at this;omega
 refine⟨λY=>?_,λY=>?_⟩
 .simp only[lx,aq]at Y
  cases st with
  |nil=>simp at ay;omega
  |cons x s=>
   simp only[QJ]at a2
   let⟨p1,p2,p3⟩:=a2.VA
   simp only[aV,mS]at ay p1 p2 p3 al
   have e1:cR ((G.len:Int) -1)=(s.length:Int):=by rw[aP V V];omega
   have aW:=a2.le
   have e2:Int.toNat (0:Int)=0:=rfl
   have e3:Int.toNat (s.length:Int)=s.length:=V
   have aA:1000<=x->gC d x:=λM=>t.PN he M
   have aS:x<=9223372036854775807:=by
    rcases dJ (1000<=x)with k|k
    .have:=az (bZ (aA k)).1;unfold ix at this;omega
    .omega
   refine⟨e,P.bU 0,?_⟩
   rw[e1,e2,e3]
   refine⟨V,V,x,p2,(hO (B.cells V) aS).mono ?_⟩
   rintro _ Q ⟨aC,g,rfl,ah,aJ,n⟩
   refine⟨aC,g,rfl,V,V,V,λaK=>?_,λai=>?_⟩
   .have M:=nb ah aK
    have H:HC m m2 m Q:=dz.eT _ n i.new
    refine ae (d,s) _ _ ⟨m,B.eY (dz.eT (λ_=>False) n i.new) id id,p3.eY (dz.eT (λ_=>False) n i.new) id,i.trans H,t.RQ ?_,?_,K,by simp only[];omega,P.ext n,z⟩ aL
    .rcases dJ (1000<=x)with k|k
     .exact absurd (aA k) M
     .omega
    .rw[<-qF (w:=x) M];exact y
   .have E:=yb ah ai
    have aH:=aJ (by simpa using ai)
    subst aH
    let⟨j,aw⟩:=bZ E
    have ao:=az j
    have a0:=(t.cell _ (au j)).hi
    have aG:Int.toNat ((ix x:Nat):Int)=ix x:=V
    have H:HC m m2 m Q:=dz.eT _ n i.new
    have C:dS N m Q e d:=B.eY (dz.eT (λ_=>False) n i.new) id id
    have a3:=p3.eY (dz.eT (λ_=>False) n i.new) id
    have F:=P.ext n
    obtain⟨f0,g0,_,_,_,_⟩:=C.bU j
    refine⟨e,F.bU 0,?_⟩
    rw[aG]
    refine⟨V,V,_,g0,V,V,C.wr (o:=0) ao be,?_⟩
    have e5:cR ((aI d x).aQ -1)=(aI d x).aQ -1:=aP V V
    rw[e5]
    intro m4
    let⟨ab,T⟩:=C.tP H.new j ((aI d x).aQ -1)
    have a4:=a3.eY T be
    have A:cw m4 c eu [.s e]:=F.congr (T.dQ _ F.lt (by rw[z];decide))
    have S:HC b a m m4:=(i.trans H).trans (T.mono λaB D=>Or.inl D)
    have Z:=kD (d:=jb) j
    simp only[aj aw,jb]at Z
    simp at Z
    have aR:(d.set (ix x) {aI d x with aQ:=(aI d x).aQ -1})[ix x]? =some {aI d x with aQ:=(aI d x).aQ -1}:=eH j
    obtain⟨f1,k0,_,k2,kf,kr⟩:=ab.bU aR
    refine⟨e,A.bU 0,V,V,_,k0,λk=>?_,λk=>?_⟩
    .simp only[aE]at k
     have ar:(aI d x).aQ=1:=V
     have aX:=(t.cell _ (au j)).fl
     have aa:=kf.len
     simp only[]at aa kf kr
     have I:=zW jb j
     simp only[jb,eU]at I
     refine⟨e,A.bU 0,V,V,f1,k2,iA.append (c:=[.i 0]) (d:=(aI d x).aN.map Ce.i) a4 S.new (by simp[aa]) kf.Ic ?_ λaf a6 m5 q1 R=>?_⟩
     .have:(G.cut 0 s.length 1).len=s.length:=by have:=a4.len;simp at this;omega
      rw[this,aa];omega
     have am:=ab.eY R be be
     have ag:HC b a af m5:=S.trans (R.mono λaB D=>Or.inr (Or.inr D))
     have ac:cw m5 c eu [.s e]:=A.congr (R.dQ _ A.lt (by rw[z];decide))
     have ax:af c=5:=by rw[R.jc _ A.lt];exact z
     have ap:ix x<(d.set (ix x) {aI d x with aQ:=(aI d x).aQ -1}).length:=by simpa using ao
     refine⟨e,ac.bU 0,V,V,am.wr (o:=0) ap be,?_⟩
     intro m7
     let⟨an,U⟩:=am.setCell ag.new ap 0 0 (f:=.nil) (l:=[]) ⟨rfl,aL,aL,aL⟩ (λL=>absurd rfl L)
     rw[XV]at an
     refine ae (d.set (ix x) jb,(aI d x).aN.reverse++s) _ _ ⟨af,an,?_,ag.trans (U.mono λaB D=>Or.inl D),t.RS he E ar,?_,by simpa using K,?_,ac.congr (U.dQ _ ac.lt (by rw[ax];decide)),ax⟩ ?_
     .have:=q1.eY U be
      simpa using this
     .rw[<-tp E ar];exact y
     .simp only[ba,mS]
      have D:Cm (d.set (ix x) jb)+(aI d x).aN.length=Cm d:=by simpa[jb]using I
      omega
     .simp only[ba,mS,aV]
      have D:Cl (d.set (ix x) jb)+((aI d x).aQ.toNat+(aI d x).aN.length)=Cl d:=by simpa[jb]using Z
      omega
    .simp only[ak]at k
     have L:(aI d x).aQ≠1:=V
     have D:=kD (d:={aI d x with aQ:=(aI d x).aQ -1}) j
     simp only[aj aw]at D
     rw[aj V]at D
     have I:=zW {aI d x with aQ:=(aI d x).aQ -1} j
     refine ae (fw d x,s) _ _ ⟨m,ab,a4,S,t.PO he E L,?_,by simpa[fw]using K,?_,A,z⟩ ?_
     .rw[<-qE E L];exact y
     .simp only[fw];simp only[]at I;omega
     .simp only[fw,aV];omega
 .simp only[lx,bD]at Y
  have j:st=[]:=List.length_eq_zero_iff.1 V
  subst j
  rw[tn]at y
  subst y
  refine(uO B i.new P z V).mono ?_
  rintro _ Q ⟨C,F,g⟩
  exact⟨m,_,C,F,i.trans g⟩
def PX{i:O}(f:dF a i h):aM cq 216 [O.v i,.func (.func 217) #[] #[]] a λB j=>∃r:Int,B=vi r/\J a j/\(if dG h=h.length then r= -1 else r=dG h):=by
 apply mf i (.func 217,#[],#[]);have y:=f.len;refine fm (n:=h.length) (y▸f.iC) (λk j=>J a j/\∀b∈h.take k,b.aQ≠0) ⟨J.aA _,aL⟩ ?_;rintro k o I μ x ⟨e,g⟩ A
 refine dit (λs=>?_) λs=>?_
 .let⟨b,d⟩:=cK h k;let⟨l,C,q,g1,g2⟩:=(dF.ext e f).aG d;refine⟨V,V,b.aQ,by simpa using q,_,by simpa using g1,l,by simpa using g2,217,rfl,be,?_⟩;have v:dR cq 217 [.agg #[vi b.aQ,vi b.kG,O.v l]] o (b.aQ=0):=by
   apply wh;simp -zeta only[aC,aB];intro z;exact fI aL ((J.aA o).aH _)
  refine aM.mono v ?_;rintro _ z ⟨p,rfl,c,m⟩;refine⟨p,rfl,λu=>⟨_,rfl,e.trans m,?_⟩,λt=>A V _ ⟨e.trans m,bY d g (fb c t)⟩⟩;have w:=HG h k b g d (c.1 u);have:=az d;rw[ae V,w]
 .refine⟨_,rfl,e,?_⟩;have:=zV h k x g;have:=qH h;rw[aj V]
def Eb{e:O}(l:dS N b a e h)(B:∀s,a.size<=s->b s=0)(kb:cw a c eu [.s e])(P:b c=5)(G:Int){Y:O}{E:List Int}(hf:ar a Y E)(ap:h.length<=1000000000)(hl:E.length<=1000000000)(hN:N<=a.size):
 aM cq 175 [vp c 0,vi G,O.v Y] a λal S=>∃i aa,al=vi (1000+dG h)/\dS N i S aa (je h (dG h) ⟨1,G,E⟩)/\cw S c eu [.s aa]/\HC b a i S:=by
 apply yR (c,0)
 simp -zeta only[aC,aB]
 refine(eL hf hl).then hl λW y o1 i1 Z=>⟨W,rfl,?_⟩
 intro m2 F
 have z:J y F:=((J.aA y).aH _).ag (ad _) _ _
 have s3:F.size=y.size+1:=by simp[F,m2,aw]
 have Q:=Z.trans z
 clear_value F
 have ab:E≠[]->b W.D=0:=λah=>by
  rcases o1.D with j|j
  .subst j;have:=i1.len;simp at this;exact absurd (List.length_eq_zero_iff.1 this.symm) ah
  .exact B _ j
 have L:b y.size=0:=B _ Z.size
 have an:=l.len
 have am:=qH h
 refine⟨e,Q.af (kb.bU 0),(PX (dF.ext Q (l.cells V))).mono ?_⟩
 rintro _ g ⟨ak,rfl,q,C⟩
 have w:=Q.trans q
 have t:HC b a b g:=dz.eT _ w B
 have M:dS N b g e h:=l.eY (dz.eT (λ_=>False) w B) id id
 have n:=kb.ext w
 have i4:=i1.ext (z.trans q)
 have ao:=q.size
 refine⟨q.dv bJ,ak,rfl,λj=>?_,λj=>?_⟩
 .simp at j
  have A:dG h=h.length:=by
   rcases dJ (dG h=h.length)with u|u
   .exact u
   .rw[ae u]at C;omega
  refine⟨e,n.bU 0,e,n.bU 0,?_⟩
  intro p
  have k:J g p:=(J.aA g).aH _
  have s5:p.size=g.size+1:=by simp[p]
  have jm:fX p g.size 0 [.i 1,.i G,.s W]:=(cw.push g _ _).iF
  have X:HC b a b p:=t.trans (dz.eT _ k t.new)
  clear_value p
  refine⟨k.cr (n.bU 0),dS.push (M.eY (dz.eT (λ_=>False) k t.new) id id) X.new (x:=.mk g.size 0 1 1) rfl jm (i4.ext k) (Sy.of l (λK=>(w.trans k).same _ (l.D K).2) (λ_=>o1.ext ((z.trans q).trans k)) ab hN) V λi af T U d=>?_⟩
  have R:=n.ext k
  have ac:cw T c eu [.s e]:=R.congr (d.dQ _ R.lt (by rw[P];decide))
  have ai:i c=5:=by rw[d.jc _ R.lt];exact P
  have ag:i y.size=0:=by rw[d.jc _ V];exact L
  refine⟨λs f=>?_,ac.eC aL,?_⟩
  .simp at f;subst f
   exact d.dQ _ V (by rw[L];decide)
  intro m7
  have H:dz (λD=>D=5) i T i m7:=dz.ag d.new ai _ _
  have I:cR (1000+(e.len:Int))=1000+(dG h:Int):=by rw[aP V V];omega
  rw[I]
  refine⟨λs f=>?_,i,af,rfl,?_,cw.ag (m:=T) (o:=0) (r:=[.s af]) ac,(X.trans (d.mono λD v=>Or.inl v)).trans (H.mono λD v=>Or.inr (Or.inl v))⟩
  .simp at f;subst f
   exact H.dQ _ (oh d.size) (by rw[ag];decide)
  .rw[je,aj A];exact U.eY H be be
 .simp at j
  have A:dG h≠h.length:=λu=>by rw[aj u]at C;omega
  rw[ae A]at C
  subst C
  have k:dG h<h.length:=V
  have H:Int.toNat ((dG h:Nat):Int)=dG h:=V
  have I:cR (1000+(dG h:Int))=1000+(dG h:Int):=aP V V
  refine⟨e,n.bU 0,?_⟩
  rw[H,I]
  refine⟨V,V,M.wr (o:=0) k be,?_⟩
  intro p
  let⟨U,d⟩:=M.setCell t.new k 1 G i4 (Sy.of l (λK=>w.same _ (l.D K).2) (λ_=>o1.ext (z.trans q)) ab hN)
  refine⟨λs f=>?_,b,e,rfl,?_,n.congr (d.dQ _ n.lt (by rw[P];decide)),t.trans (d.mono λD v=>Or.inl v)⟩
  .simp at f;subst f
   exact d.dQ _ V (by rw[L];decide)
  .rw[je,ae A];exact U
end
section
variable{l:List Int}
def OI{i a b:Int}(l:iJ a)(m:iJ b)(o:E):vm cq 174 [vi i,vi a,vi b] o (vi (OS i a b)):=by
 unfold iJ at l m;have s: -2000000<=a*b/\a*b<=2000000:=by
  have c:(a*b).natAbs<=999*999:=by rw[Int.natAbs_mul];exact MF V V
  omega
 have k:∀n:Int,(if(999:Int)<(if(-999:Int)>n then(-999:Int)else n)then(999:Int)else(if(-999:Int)>n then(-999:Int)else n))=FG n:=λn=>by
  unfold FG;repeat' split
  all_goals omega
 have p:cR (a+b)=a+b:=aP V V;have q:cR (a -b)=a -b:=aP V V;have r:cR (a*b)=a*b:=aP V V;apply JI;rw[p,q,r,k,k,k];unfold OS;refine⟨λh=>by simp at h;omega,λ_=>⟨λh=>by simp at h;omega,λ_=>⟨λh=>by simp at h;omega,λ_=>⟨λh=>by simp at h;omega,λ_=>⟨λc=>?_,λc=>⟨λd=>?_,λd=>⟨λe=>?_,λe=>⟨λf=>⟨λj=>?_,λj=>?_⟩,λf=>?_⟩⟩⟩⟩⟩⟩⟩⟩
 .simp at c;rw[aj c];exact⟨rfl,J.aA _⟩
 .simp at c d;rw[ae c,aj d];exact⟨rfl,J.aA _⟩
 .simp at c d e;rw[ae c,ae d,aj e];exact⟨rfl,J.aA _⟩
 .simp at c d e f j;have g:i=4/\a<b:=⟨f,j⟩;rw[ae c,ae d,ae e,aj g];exact⟨rfl,J.aA _⟩
 .simp at c d e f j;have g:¬(i=4/\a<b):=V;rw[ae c,ae d,ae e,ae g];exact⟨rfl,J.aA _⟩
 .simp at c d e f;have g:¬(i=4/\a<b):=V;rw[ae c,ae d,ae e,ae g];exact⟨rfl,J.aA _⟩
def vv{a:E}{fb e:Nat}{f:aU}{j:O}(w:af a fb (e+3)=some (O.v j))(p:ar a j f.an){s:O}(q:ar a s l)(A:∀y∈l,0<=y/\y<f.an.length)(L:l.length<=100000000):
 oG 106 [vp fb e,O.v s] a (cN f l):=by
 apply xz (fb,e)
 have K:=q.len
 have H:=p.len
 have t:Int.toNat (s.len:Int)=l.length:=V
 rw[t]
 refine⟨V,cY _,V,V,?_⟩
 intro d
 have z:J a d:=(J.aA a).aH _
 have C:cw d a.size aD ((df l.length).map Ce.i):=by rw[<-ud];exact cw.push a _ _
 have M:d.size=a.size+1:=by simp[d]
 clear_value d
 simp only[O.jB,O.tH,O.iS,cE]
 refine fm (n:=l.length) V (λk b=>J a b/\cw b a.size aD ((cN f (l.take k)++df (l.length -k)).map Ce.i)) ⟨z,by simpa[cN]using C⟩ ?_
 rintro k D I μ G ⟨b,c⟩ F
 refine dit (λx=>?_) λx=>?_
 .let⟨y,h⟩:=cK l k
  have i:=A y (au h)
  have v:Int.toNat (k:Int)*1=k:=V
  refine⟨V,V,y,by simpa using b.af (q.aG h),j,b.af w,i.1,V,_,b.af (p.pM i.1 i.2),V,V,?_⟩
  rw[v]
  have g:(cN f (l.take k)).length=k:=by simp[cN];omega
  refine⟨c.eC (by simp[g,ku];omega),?_⟩
  refine F V _ ⟨b.ag (ad _) _ _,?_⟩
  have:=cw.ag (m:=D) (o:=k) (r:=[.i (aG f.an y)]) c
  have u:js ((cN f (l.take k)++df (l.length -k)).map Ce.i) k [.i (aG f.an y)]=(cN f (l.take (k+1))++df (l.length -(k+1))).map Ce.i:=by
   have B:df (l.length -k)=0::df (l.length -(k+1)):=by
    have:l.length -k=(l.length -(k+1))+1:=V;rw[this];rfl
   rw[B,fN,lG _ _ _ _ (by simp[g])];simp only[dW,g,QL,cG,js,il];rw[bd h];simp[cN]
  rw[u]at this;exact this
 .have g:k=l.length:=V
  subst g
  rw[fy,QL]at c
  simp only[df,Nr,dO]at c
  refine⟨_,rfl,⟨by simp[cN],Or.inr ⟨a.size,l.length,[],rfl,ad _,by rw[dO];exact c,by simp[cN],ad _⟩⟩,b⟩
abbrev IB(d p:O)(c:Int)(s:St)(aW b a:O):List Ce:=[.s d,.s p,.i c,.i s.bI,.i s.value,.i s.bC,.i s.bq,.s aW,.s b,.s a]
def DM(g:E)(i:Nat->Nat)(m:E)(h:Nat)(f p:O)(e:Int)(s:St)(c:E):Prop:=
 ∃d aW b a,qA g d c h bg (IB f p e s aW b a) aW b a s.aW s.heap s.av/\To i m d c
def DM.from{b:E}{g h:Nat->Nat}{m e a:E}{f:Nat}{d p:O}{c:Int}{s:St}(j:DM b h e f d p c s a)(o:To g m h e):DM b g m f d p c s a:=
 let⟨q,aW,n,i,k,l⟩:=j
 ⟨q,aW,n,i,k,o.trans l⟩
section
variable{p:E}{c s:Nat->Nat}{m d:E}{q e:Nat}{g:List Ce}{aW j a:O}{n:List Int}{k:List bO}{b:List aU}{f:aU}{r o h:O}{i:List (List Ce)}
def ST.aab(S:ST p c m q e g aW j a n k b f r o h i)(l:dz (λ_=>False) c m s d):ST p s d q e g aW j a n k b f r o h i/\To c m s d:=by
 let⟨L,t⟩:=S.cQ.gD (l.mono λ_=>False.elim) (S.cQ.heap.eY l id id);exact⟨⟨L,S.fZ.eY l λ_ _=>id⟩,t⟩
def ST.fp(S:ST p c m q e g aW j a n k b f r o h i)(d:f.an.length<=1000000/\f.aR.length<=1000000/\f.aY.length<=1000000):FP m a.D (a.off+b.length*6) f r o h:=by
 obtain⟨_,_,_,l,s,t⟩:=S.fZ.iF;exact⟨l,s,t,S.Ar d.1,S.Jr d.2.1,S.Re d.2.2⟩
def rE(S:ST p c m q e g aW j a n k b f r o h i){s:Int}(l:0<=s)(u:s<f.an.length)(v:s<f.aR.length)(w aR:Int):
 aM cq 103 [vp a.D (a.off+b.length*6),vi s,vi w,vi aR] m λ_ d=>ST p c d q e g aW j a n k b (f.put s w aR) r o h i/\To c m c d:=by
 apply zY (a.D,a.off+b.length*6)
 obtain⟨_,_,_,y,z,A⟩:=S.fZ.iF
 have C:r.len=f.an.length:=by have:=S.fZ.an.len;simp at this;omega
 have B:o.len=f.aR.length:=by have:=S.fZ.aR.len;simp at this;omega
 let⟨t,t1⟩:=S.Ep l u w
 let⟨x,t2⟩:=t.pY l (by simpa using v) aR
 exact⟨r,y,o,z,l,V,S.fZ.an.Po l u,l,V,t.fZ.aR.Po l v,x,t1.trans t2⟩
end
section
variable{n:E}{g:Nat->Nat}{a:E}{k:Nat}{d p aW b e:O}{c:Int}{s:St}{j:List aU}{f:aU}{u t h:O}{q:List (List Ce)}
def ST.OG{d:Nat}{c:List Ce}{l:List Int}{i:List bO}(S:ST n g a k d c aW b e l i j f u t h q):
 ST n (pu g a.size 5) (ag (a.push (.cells (bA [.s O.nil]) eu)) a.size 0 [.s b]) k d c aW b e l i j f u t h q/\To g a (pu g a.size 5) (ag (a.push (.cells (bA [.s O.nil]) eu)) a.size 0 [.s b])/\
  cw (ag (a.push (.cells (bA [.s O.nil]) eu)) a.size 0 [.s b]) a.size eu [.s b]:=by
 have v:J a (ag (a.push (.cells (bA [.s O.nil]) eu)) a.size 0 [.s b]):=((J.aA a).aH _).ag (ad _) _ _
 have s:dz (λ_=>False) g a (pu g a.size 5) (ag (a.push (.cells (bA [.s O.nil]) eu)) a.size 0 [.s b]):=dz.pu v S.cQ.new (ad _) (by rw[aw];simp) 5
 let⟨p,t1⟩:=S.aab s
 exact⟨p,t1,cw.ag (m:=a.push (.cells (bA [.s O.nil]) eu)) (o:=0) (r:=[.s b]) (cw.push a _ _)⟩
def Dt(S:ST n g a k bg (IB d p c s aW b e) aW b e s.aW s.heap j f u t h q)(r:Int){z:O}(E:ar a z l)(M:l.length<=1000000)(D:s.heap.length<=1000000000):
 aM cq 105 [vp k 0,vi r,O.v z] a λL x=>L=vi (1000+dG s.heap)/\∃y w,ST n y x k bg (IB d p c s aW w e) aW w e s.aW (je s.heap (dG s.heap) ⟨1,r,l⟩) j f u t h q/\To g a y x:=by
 apply vr (k,0)
 simp -zeta only[aC,aB]
 refine⟨b,S.cQ.box.bU 8,?_⟩
 intro N H
 let⟨m,t2,kb⟩:=S.OG
 have F:J a H:=((J.aA a).aH _).ag (ad _) _ _
 refine(Eb m.cQ.heap m.cQ.new kb (fQ _ _ _) r (E.ext F) D V m.cQ.cv.size).mono ?_
 rintro _ P ⟨I,o,rfl,C,G,B⟩
 let⟨v,t3⟩:=m.gD B C
 refine⟨_,rfl,o,G.bU 0,v.cQ.mD (i:=8) aL,?_⟩
 intro Q
 let⟨A,K⟩:=v.jw 8 [.s o]
 exact⟨rfl,I,o,A,(t2.trans t3).trans K⟩
def FZ(S:ST n g a k bg (IB d p c s aW b e) aW b e s.aW s.heap j f u t h q){x:Instr}{W aw:O}(ha:ar n W x.args)(ah:∀y∈x.args,0<=y/\y<f.an.length)(aD:x.args.length<=4)
 (aH:f.an.length=f.aR.length/\f.aY.length=f.aR.length/\f.aR.length<=2000)(aF:0<=x.bM/\x.bM<=f.aY.length)(al:s.heap.length<=1000000000)(an:∀w∈f.aY,w≠0->1000<=w/\ix w<s.heap.length):
 aM cq 104 [vp k 0,vp e.D (e.off+j.length*6),xv x W aw] a λaz m'=>∃(H:Nat->Nat)(E:O)(m:Nat)(i:aU),az=vi (1000+m)/\ST n H m' k bg (IB d p c s aW E e) aW E e s.aW (je s.heap m ⟨1,x.bQ,cN f x.args⟩) j i u t h q/\To g a H m'/\
  i.an=f.an/\i.aR=f.aR/\i.pc=f.pc/\(∀y,nH s j {f with pc:=y} x x.bQ={s with heap:=je s.heap m ⟨1,x.bQ,cN f x.args⟩,av:=j++[aU.put {i with pc:=y+1} x.dst (1000+m) 1]}):=by
 apply sk (k,0) (e.D,e.off+j.length*6)
 simp -zeta only[aC,aB]
 intro G
 have aq:J a G:=(J.aA a).aH _
 have s1:G.size=a.size+1:=by simp[G]
 let⟨z,t1⟩:=S.ext aq
 have T:zE g G [a.size]:=λaA hb=>by simp at hb;subst hb;exact⟨V,S.cQ.new _ (ad _)⟩
 clear_value G
 have U:=z.fp ⟨V,V,V⟩
 have aE:h.len=f.aY.length:=by have:=S.fZ.aY.len;simp at this;omega
 refine(vv U.g3 U.an (ha.ext z.cQ.cv) ah V).mono ?_
 rintro _ P ⟨C,rfl,R,Z⟩
 let⟨r,t2⟩:=z.ext Z
 have K:=T.to t2
 have aJ:(cN f x.args).length=x.args.length:=by simp[cN]
 have F:ar P C (cN f x.args):=ar.gK R V
 have af:=t1.trans t2
 have none:¬(x.bM≠0/\aG f.aY (x.bM -1)≠0)->aM cq 105 [vp k 0,vi x.bQ,O.v C] P λax N=>dY [a.size] P N/\∃ac:Int,ax=vi ac/\∃(H:Nat->Nat)(E:O)(m:Nat)(i:aU),vi ac=vi (1000+m)/\ST n H N k bg (IB d p c s aW E e) aW E e s.aW (je s.heap m ⟨1,x.bQ,cN f x.args⟩) j i u t h q/\To g a H N/\
  i.an=f.an/\i.aR=f.aR/\i.pc=f.pc/\(∀y,nH s j {f with pc:=y} x x.bQ={s with heap:=je s.heap m ⟨1,x.bQ,cN f x.args⟩,av:=j++[aU.put {i with pc:=y+1} x.dst (1000+m) 1]}):=λao=>by
  refine(Dt r x.bQ F V al).mono ?_
  rintro _ Q ⟨rfl,ay,ap,v,t3⟩
  exact⟨t3.dL K,_,rfl,ay,ap,dG s.heap,f,rfl,v,af.trans t3,rfl,rfl,rfl,λy=>by rw[nH,ae ao];rfl⟩
 refine⟨t2.dL T,C,rfl,λD=>none λL=>by simp at D;exact L.1 D,λD=>?_⟩
 simp at D
 have e1:cR (x.bM -1)=x.bM -1:=aP V V
 have l:0<=x.bM -1/\x.bM -1<f.aY.length:=V
 have I:=r.fp ⟨V,V,V⟩
 have X:=I.aY.pM l.1 l.2
 refine⟨h,I.g5,?_⟩
 rw[e1]
 refine⟨V,V,_,X,λB=>none λL=>by simp at B;exact L.2 B,λB=>?_⟩
 simp at B
 let⟨aa,ab⟩:=an _ (fq l.1 l.2) B
 have aI:=r.cQ.heap.len
 refine⟨h,I.g5,V,V,_,X,h,I.g5,V,V,r.fZ.aY.Po l.1 l.2,?_⟩
 intro Q
 let⟨v,t3⟩:=r.Cc l.1 l.2 0
 have B3:=K.to t3
 have am:ix (aG f.aY (x.bM -1))=(aG f.aY (x.bM -1) -1000).toNat:=rfl
 have e2:cR (aG f.aY (x.bM -1) -1000)=aG f.aY (x.bM -1) -1000:=aP V V
 refine⟨t3.dL K,b,v.cQ.box.bU 8,?_⟩
 rw[e2,<-am]
 refine⟨V,V,v.cQ.heap.wr (o:=0) ab be,?_⟩
 intro m4
 have M:cN f x.args≠[]->g C.D=0:=λw=>by
  rcases R.D with A|A
  .subst A;have:=F.len;simp at this;exact absurd (List.length_eq_zero_iff.1 this.symm) w
  .exact S.cQ.new _ V
 have au:ar Q C (cN f x.args):=iO F λw=>t3.dQ _ (iP F w) (by rw[M w];simp)
 have ak:h.cap≠0:=λA=>by have:=(r.fZ.aY.Dp A).1;simp at this;rw[this]at l;simp at l;omega
 have ag:Sy n.size g Q b s.heap C (cN f x.args):=Sy.of z.cQ.heap (λY=>(bo _ _ _ _ λA=>by have q1:=(r.fZ.aY.D ak).2;have q2:=(r.cQ.heap.D Y).1;rw[A,q1]at q2;omega).trans (Z.same _ (z.cQ.heap.D Y).2)) (λw=>R.congr (t3.dQ _ (iP F w) (by rw[M w];simp))) M z.cQ.cv.size
 let⟨ai,c4⟩:=v.cQ.heap.setCell v.cQ.new ab 1 x.bQ au ag
 let⟨S4,t4⟩:=v.gD (c4.mono λaK Y=>Or.inl Y) ai
 have Y:je s.heap (ix (aG f.aY (x.bM -1))) ⟨1,x.bQ,cN f x.args⟩=s.heap.set (ix (aG f.aY (x.bM -1))) ⟨1,x.bQ,cN f x.args⟩:=by rw[je,ae V]
 refine⟨t4.dL B3,g,b,ix (aG f.aY (x.bM -1)),{f with aY:=gR f.aY (x.bM -1) 0},by rw[iV aa],by rw[Y];exact S4,(af.trans t3).trans t4,rfl,rfl,rfl,λy=>?_⟩
 rw[nH,aj ⟨D,B⟩,Y,iV aa];rfl
end
end
section
variable{w:Int}
def Lq:∀(b:List Int)(g:List bO),(∀v∈b,gC g v)->∀x,gC g x->gC (jf g b) x
 |[],g,_,x,c=>c
 |v::b,g,d,x,c=>by
  have e:=d v aX;have up:∀y,gC g y->gC (mP g v) y:=λy a=>⟨a.1,(fj.mP e _).2 a.2⟩;exact Lq b (mP g v) (λy a=>up y (d y (ai _ a))) x (up x c)
def SL{h:List bO}(c:gC h w)(d:(aI h w).aQ≠1){x:Int}(a:gC h x):gC (fw h w) x:=by
 let⟨b,f⟩:=bZ c;refine⟨a.1,?_⟩;by_cases e:ix x=ix w
 .rw[e];unfold fw;rw[fj.Eo b];simp only[];omega
 .exact(fj.ne e).2 a.2
section
variable{t:E}{e:Nat->Nat}{m:E}{j:Nat}{d p aW b g:O}{c:Int}{s:St}{q:List aU}{a:aU}{r v h:O}{u:List (List Ce)}
open Classical in
noncomputable def rZ (g:List bO) (w:Int) (dQ:Bool):List bO:=
 if(aI g w).aQ=1/\dQ=true then g.set (ix w) ⟨-1,0,df (aI g w).aN.length⟩else apart g w
def Du(S:ST t e m j bg (IB d p c s aW b g) aW b g s.aW s.heap q a r v h u)(ab:gC s.heap w)(dQ:Bool){ay:Nat->Int}(N:fL s.heap ay)(aY:s.heap.length<=1000000000):
 aM cq 113 [vp j 0,vi w,vb dQ] m λk A=>∃G:Bool,k=vb G/\(G=true<->(aI s.heap w).aQ=1/\dQ=true)/\∃aw ap,ST t aw A j bg (IB d p c s aW ap g) aW ap g s.aW (rZ s.heap w dQ) q a r v h u/\To e m aw A:=by
 apply vt (j,0)
 simp -zeta only[aC,aB]
 let⟨C,a6⟩:=bZ ab
 have K:=az C
 have a1:=S.cQ.heap.len
 have a0:=ab.1
 have aK:ix w=(w -1000).toNat:=rfl
 have e4:cR (w -1000)=w -1000:=aP V V
 have ag:=N.cell _ (au C)
 have a3:=ag.hi
 have aV:=ag.fl
 have g8:af m j 8=some (O.v b):=S.cQ.box.bU 8
 let⟨f0,Y,g1,g2,gf,gr⟩:=S.cQ.heap.bU C
 have aX:=gf.len
 rw[e4,<-aK]
 refine⟨b,g8,V,V,λA=>A=m/\¬((aI s.heap w).aQ=1/\dQ=true),⟨_,Y,λy=>⟨λz=>?_,λz=>⟨rfl,λx=>by rw[z]at x;simp at x⟩⟩,λy=>⟨rfl,λx=>by simp at y;exact y x.1⟩⟩,?_⟩
 .simp at y
  have W:Int.toNat (f0.len:Int)=(aI s.heap w).aN.length:=V
  refine⟨f0,g2,V,cY _,V,V,?_⟩
  rw[W]
  intro B
  have I:J m B:=(J.aA m).aH _
  have L:gY m B aD 1 (.mk m.size 0 (aI s.heap w).aN.length (aI s.heap w).aN.length) ((df (aI s.heap w).aN.length).map Ce.i):=by
   have X:B=m.push (.cells (bA ((df (aI s.heap w).aN.length).map Ce.i)) aD):=by rw[<-ud]
   rw[X];exact Ob _
  let⟨D,t1⟩:=S.ext I
  clear_value B
  refine⟨D.cQ.heap.wr (o:=0) K be,?_⟩
  intro m2
  let⟨F,E⟩:=D.cQ.heap.setCell D.cQ.new K (-1) 0 (ar.gK L (by rw[ku];omega)) (Sy.of S.cQ.heap (λx=>I.same _ (S.cQ.heap.D x).2) (λ_=>L) (λ_=>S.cQ.new _ (ad _)) S.cQ.cv.size)
  let⟨H,t2⟩:=D.gD (E.mono λx z=>Or.inl z) F
  refine⟨true,rfl,by simp[y,z],e,b,?_,t1.trans t2⟩
  rw[rZ,aj ⟨y,z⟩];exact H
 .rintro B ⟨rfl,ao⟩
  have al:(false=true<->(aI s.heap w).aQ=1/\dQ=true):=⟨sx,λh=>absurd h ao⟩
  rw[show rZ s.heap w dQ=apart s.heap w by rw[rZ,ae ao]]
  refine⟨_,Y,λy=>?_,λy=>?_⟩
  .simp at y
   refine⟨S.cQ.heap.wr (o:=0) K be,?_⟩
   intro m2
   let⟨F,E⟩:=S.cQ.heap.setCell S.cQ.new K 0 0 (f:=.nil) (l:=[]) ⟨rfl,aL,aL,aL⟩ (λT=>absurd rfl T)
   let⟨H,t2⟩:=S.gD (E.mono λx z=>Or.inl z) F
   refine⟨b,H.cQ.box.bU 8,?_⟩
   intro m3 m4
   let⟨D,Q,kb⟩:=H.OG
   refine(uO D.cQ.heap D.cQ.new kb (fQ _ _ _) bJ).mono ?_
   rintro _ Z ⟨aa,P,M⟩
   let⟨I,R⟩:=D.gD M aa
   refine⟨_,P.bU 0,I.cQ.mD (i:=8) aL,?_⟩
   intro m6
   let⟨L,U⟩:=I.jw 8 [.s (b.cut 0 (ji (s.heap.set (ix w) ⟨0,0,[]⟩) (s.heap.set (ix w) ⟨0,0,[]⟩).length) 3)]
   refine⟨false,rfl,al,_,b.cut 0 (ji (s.heap.set (ix w) ⟨0,0,[]⟩) (s.heap.set (ix w) ⟨0,0,[]⟩).length) 3,?_,((t2.trans Q).trans R).trans U⟩
   rw[apart,aj y];exact L
  .simp only[ak]at y
   have W:cR ((aI s.heap w).aQ -1)=(aI s.heap w).aQ -1:=aP V V
   refine⟨_,Y,S.cQ.heap.wr (o:=0) K be,?_⟩
   rw[W]
   intro m2
   let⟨F,E⟩:=S.cQ.heap.tP S.cQ.new C ((aI s.heap w).aQ -1)
   let⟨f1,k0,k1,k2,kf,kr⟩:=F.bU (eH C)
   simp only[]at kf kr
   have aZ:=kf.len
   refine⟨f1,k2,?_⟩
   have ai:∀{A},dz (λx=>x=3) e B e A->af A j 8=some (O.v b):=λhc=>by rw[aJ (hc.dQ _ S.cQ.box.lt (by rw[S.cQ.NV];decide))];exact g8
   have an:∀k∈(aI s.heap w).aN,1000<=k->gC (fw s.heap w) k:=λk D b=>SL ab y (N.field (au C) D b)
   have aH:∀U∈fw s.heap w,-10<=U.aQ/\U.aQ<=999999:=λU hq=>by
    rcases nV hq with rfl|⟨G,_,P⟩
    .simp only[];omega
    .have:=N.cell U (au P);have h5:=this.lo;have h6:=this.hi;omega
   have aT:dz (λx=>x=3) e B e m2:=E
   refine fm (n:=(aI s.heap w).aN.length) V (λx A=>dS t.size e A b (jf (fw s.heap w) (kY ((aI s.heap w).aN.take x)))/\dz (λx=>x=3) e B e A/\ar A f1 (aI s.heap w).aN) ⟨F,E,kf⟩ ?_
   rintro x m3 aS μ z ⟨R,H,aq⟩ av
   refine dit (λh5=>?_) λh5=>?_
   .let⟨k,D⟩:=cK ((aI s.heap w).aN) x
    have aR:k<=9223372036854775807:=by
     rcases dJ (1000<=k)with h6|h6
     .have:=az (bZ (N.field (au C) (au D) h6)).1;unfold ix at this;omega
     .omega
    have aQ:(jf (fw s.heap w) (kY ((aI s.heap w).aN.take x))).length=s.heap.length:=by rw[wB];simp[fw]
    have aN:1000<=k->gC (jf (fw s.heap w) (kY ((aI s.heap w).aN.take x))) k:=λb=>Lq _ _ (λL I=>an L (gB (lF.1 I).1) (lF.1 I).2) k (an k (au D) b)
    refine⟨V,V,k,by simpa using aq.aG D,b,ai H,(hO (R.cells (by rw[aQ];omega)) aR).mono ?_⟩
    rintro _ m4 ⟨ax,G,rfl,P,aF,Z⟩
    have L:dz (λx=>x=3) e B e m4:=H.trans (dz.eT _ Z H.new)
    have I:=R.eY (dz.eT (λ_=>False) Z H.new) id id
    have ac:=aq.ext Z
    refine⟨ax,G,rfl,λah=>?_,λaG=>av V _ ⟨?_,L,ac⟩⟩
    .have am:=P.1 ah
     have aE:=aF ah
     subst aE
     let⟨Q,a4⟩:=bZ am
     have aO:=az Q
     have a2:=I.len
     obtain⟨f4,j0,_⟩:=I.bU Q
     have aU:=Ap _ _ 999999 aH _ (au Q)
     have a5:=nZ ((aI s.heap w).aN.take x)
     have a7:((aI s.heap w).aN.take x).length<=3:=bJ
     have X:cR ((aI (jf (fw s.heap w) (kY ((aI s.heap w).aN.take x))) k).aQ+1)=(aI (jf (fw s.heap w) (kY ((aI s.heap w).aN.take x))) k).aQ+1:=aP V V
     have aA:Int.toNat ((ix k:Nat):Int)=ix k:=V
     refine⟨b,ai L,?_⟩
     rw[aA]
     refine⟨V,V,_,j0,V,V,I.wr (o:=0) aO be,?_⟩
     rw[X]
     let⟨aa,M⟩:=I.tP L.new Q ((aI (jf (fw s.heap w) (kY ((aI s.heap w).aN.take x))) k).aQ+1)
     refine av V _ ⟨?_,L.trans M,iO ac λT=>M.dQ _ (iP ac T) (by rw[(kr T).1];decide)⟩
     have:kY [k]=[k]:=by simp[kY,am.1]
     rw[bd D,ph,this,El]
     exact aa
    .have M:¬1000<=k:=λb=>fb P aG (aN b)
     have:kY [k]=[]:=by simp[kY];omega
     rw[bd D,ph,this,dO];exact I
   .rw[cJ V]at R
    let⟨I,t3⟩:=S.gD (H.mono λx z=>Or.inl z) R
    refine⟨false,rfl,al,e,b,?_,t3⟩
    rw[apart,ae y];exact I
def JK(Y:ST t e m j bg (IB d p c s aW b g) aW b g s.aW s.heap q a r v h u){f:Instr}{aa am:O}(ha:ar t aa f.args)(ak:∀z∈f.args,0<=z/\z<a.an.length)(ao:f.args.length<=4)(au:f.op=0\/f.op=1\/f.op=2\/f.op=3\/f.op=4\/f.op=5)(h5:f.op=5->f.args.length=1)(h2:f.op≠0->f.op≠5->f.args.length=2)(ac:f.op≠0->∀z∈f.args,iJ (aG a.an z))
 (ap:a.an.length=a.aR.length/\a.aY.length=a.aR.length/\a.aR.length<=2000)(hd:0<=f.dst/\f.dst<a.aR.length)(aw:s.aW.length<=1000000000):
 aM cq 102 [vp j 0,vp g.D (g.off+q.length*6),xv f aa am] m λ_ w=>DM t e m j d p c (if f.op=0 then{s with av:=q++[a.put f.dst f.bQ 0]}else if f.op=5 then{s with aW:=s.aW++[aG a.an (aG f.args 0)],av:=q++[a.put f.dst (aG a.an (aG f.args 0)) 0]}else{s with av:=q++[a.put f.dst (OS f.op (aG a.an (aG f.args 0)) (aG a.an (aG f.args 1))) 0]}) w:=by
 apply tC (j,0) (g.D,g.off+q.length*6)
 simp -zeta only[aC,aB]
 intro y
 have al:J m y:=(J.aA m).aH _
 have s1:y.size=m.size+1:=by simp[y]
 let⟨K,t1⟩:=Y.ext al
 have T:zE e y [m.size]:=λab C=>by simp at C;subst C;exact⟨V,Y.cQ.new _ (ad _)⟩
 clear_value y
 have X:=K.fp ⟨V,V,V⟩
 refine(vv X.g3 X.an (ha.ext K.cQ.cv) ak V).mono ?_
 rintro _ l ⟨ws,rfl,ow,ai⟩
 let⟨A,t2⟩:=K.ext ai
 have I:=T.to t2
 have ax:(cN a f.args).length=f.args.length:=by simp[cN]
 have D:ar l ws (cN a f.args):=ar.gK ow V
 have ay:=D.len
 have ah:=t1.trans t2
 have S:∀{F:Nat},F<f.args.length->(cN a f.args)[F]? =some (aG a.an (aG f.args F)):=λ{F} hk=>by
  let⟨z,hy⟩:=dZ hk;simp[cN,hy,YA hy]
 have ag:∀{M:E}(hx:J l M)(H:Int),aM cq 103 [vp g.D (g.off+q.length*6),vi f.dst,vi H,vi 0] M λ_ w=>dY [m.size] M w/\DM t e m j d p c {s with av:=q++[a.put f.dst H 0]} w:=λhx H=>by
  let⟨SM,tM⟩:=A.ext hx;refine(rE SM hd.1 V hd.2 H 0).mono ?_;rintro _ w ⟨S',t'⟩;exact⟨t'.dL (I.to tM),e,aW,b,g,S'.cQ,(ah.trans tM).trans t'⟩
 refine⟨t2.dL T,ws,rfl,λo=>?_,λn=>⟨λo=>?_,λN=>?_⟩⟩
 .simp at o;rw[aj o];exact ag (J.aA _) _
 .simp at n o
  rw[ae n,aj o]
  have h1:=h5 o
  have aq:(O.len aW)=s.aW.length:=by have:=A.cQ.aW.len;simp at this;omega
  refine⟨V,V,_,D.aG (k:=0) (S V),aW,A.cQ.box.bU 7,?_⟩
  intro G
  have B:J l G:=(J.aA l).aH _
  have jm:fX G l.size 0 [.i (aG a.an (aG f.args ((0:Nat):Int)))]:=(cw.push l _ _).iF
  let⟨L,t3⟩:=A.ext B
  have U:=I.to t3
  clear_value G
  refine iA.append (c:=[.i 0]) (x:=.mk l.size 0 1 1) (d:=[.i (aG a.an (aG f.args 0))]) L.cQ.aW L.cQ.new rfl jm (by simp only[O.iS];omega) λaf P m4 q1 q2=>?_
  have an:iA af m4 aD 1 2 P ((s.aW++[aG a.an (aG f.args 0)]).map Ce.i):=by simpa using q1
  let⟨Z,Q⟩:=L.LV q2 an
  have W:=U.to Q
  refine⟨Q.dL U,Z.cQ.mD (i:=7) aL,?_⟩
  intro m5
  let⟨S5,R⟩:=Z.jw 7 [.s P]
  refine⟨R.dL W,(rE S5 hd.1 V hd.2 (aG a.an (aG f.args 0)) 0).mono ?_⟩
  rintro _ m6 ⟨S6,t6⟩
  exact⟨t6.dL (W.to R),af,P,b,g,S6.cQ,(((ah.trans t3).trans Q).trans R).trans t6⟩
 .simp at n N
  rw[ae n,ae N]
  have h1:=h2 n N
  refine⟨V,V,_,D.aG (k:=0) (S V),V,V,_,D.aG (k:=1) (S V),?_⟩
  refine(OI (ac n _ (fq V V)) (ac n _ (fq V V)) l).mono ?_
  rintro _ G ⟨rfl,B⟩
  exact⟨B.dv (λab C=>(I ab C).1),_,rfl,ag B _⟩
end
end
section
variable{b1 b2 b3 b k:Nat}{j:cg}{g:Int}{q:dA}{a:E}{e:List Int}
section
variable{y:E}{v:Nat->Nat}{u:E}{x:Nat}{d p aW z t:O}{c:Int}{s:St}{l:List aU}{f:aU}{r o h:O}{A:List (List Ce)}
def OJ(S:ST y v u x bg (IB d p c s aW z t) aW z t s.aW s.heap l f r o h A){b:Instr}{m aD:O}(P:ar y m b.args)(ag:∀e∈b.args,0<=e/\e<f.an.length)(ap:1<=b.args.length/\b.args.length<=4)
 (aN:f.an.length=f.aR.length/\f.aY.length=f.aR.length/\f.aR.length<=2000)(ay:s.heap.length<=1000000000)(ak:∀q∈f.aR,0<=q/\q<=999999)
 (az:gC s.heap (aG f.an (aG b.args 0))){an:Nat->Int}(hI:fL s.heap an){R:Int}(al:f.pc=R+1):
 aM cq 108 [vp x 0,vp t.D (t.off+l.length*6),xv b m aD] u λ_ a=>DM y v u x d p c (tI s l {f with pc:=R} b) a:=by
 apply wj (x,0) (t.D,t.off+l.length*6)
 simp -zeta only[aC,aB]
 intro L
 have aA:J u L:=(J.aA u).aH _
 have s1:L.size=u.size+1:=by simp[L]
 let⟨N,t1⟩:=S.ext aA
 have B1:zE v L [u.size]:=λac G=>by simp at G;subst G;exact⟨V,S.cQ.new _ (ad _)⟩
 clear_value L
 have aQ:r.len=f.an.length:=by have:=S.fZ.an.len;simp at this;omega
 have aO:o.len=f.aR.length:=by have:=S.fZ.aR.len;simp at this;omega
 have aK:h.len=f.aY.length:=by have:=S.fZ.aY.len;simp at this;omega
 have aF:=P.len
 have aE:=P.cap
 have F:0<=aG b.args 0/\aG b.args 0<f.an.length:=ag _ (fq V V)
 have ga:∀{a},J y a->af a m.D (m.off+Int.toNat (0:Int)*1)=some (vi (aG b.args 0)):=λhx=>(P.ext hx).pM V V
 obtain⟨_,_,_,g3,_,_⟩:=N.fZ.iF
 generalize hw:aG f.an (aG b.args 0)=w at*
 refine⟨r,g3,V,V,_,ga N.cQ.cv,F.1,V,w,by rw[<-hw];exact(N.Ar V).pM F.1 F.2,(Du N az (b.op==17) hI ay).mono ?_⟩
 rintro _ m2 ⟨ac,rfl,G,C,H,K,t2⟩
 have T:=B1.to t2
 have ao:(b.op==17)=true<->b.op=17:=aL
 rw[ao]at G
 have e1:Int.toNat (1:Int)=1:=rfl
 have e2:Int.toNat (m.len:Int)=m.len:=V
 have Z:∀{a},J y a->ar a (O.cut m 1 m.len 1) (b.args.drop 1):=λhx=>Vn (P.ext hx) ap.1
 have aH:(O.cut m 1 m.len 1).len=b.args.length -1:=by have:=(Z (J.aA y)).len;simp at this;omega
 have aJ:(b.args.drop 1).length=b.args.length -1:=aL
 have ah:∀e∈b.args.drop 1,0<=e/\e<f.an.length:=λe B=>ag e (xg B)
 rw[e1,e2]
 refine⟨t2.dL B1,ac,rfl,λax=>?_,λaw=>?_⟩
 .obtain⟨_,_,_,_,_,g5⟩:=K.fZ.iF
  have Q:=G.1 ax
  refine⟨h,g5,V,V,_,ga K.cQ.cv,F.1,V,K.fZ.aY.Po F.1 V,?_⟩
  intro m3
  let⟨S3,t3⟩:=K.Cc F.1 V w
  refine⟨t3.dL T,V,V,V,?_⟩
  refine fm (n:=(b.args.drop 1).length) V (λk a=>ST y C a x bg (IB d p c s aW H t) aW H t s.aW (rZ s.heap w (b.op==17)) l {f with aY:=gR f.aY (aG b.args 0) w,aR:=dE f.aR ((b.args.drop 1).take k)} r o h A/\To v u C a/\zE C a [u.size]) ⟨by rw[List.take_zero];exact S3,(t1.trans t2).trans t3,(T.to t3)⟩ ?_
  rintro k m4 am μ hk ⟨g,M,I⟩ ab
  have aa:∀q∈dE f.aR ((b.args.drop 1).take k),0<=q/\q<=1000010:=λq hq=>by
   have:=qU _ f.aR 999999 V ak q hq;have h3:((b.args.drop 1).take k).length<=4:=bJ;omega
  refine dit (λY=>?_) λY=>?_
  .let⟨e,B⟩:=cK (b.args.drop 1) k
   have j:=ah e (au B)
   have D:e<(dE f.aR ((b.args.drop 1).take k)).length:=by rw[lQ];omega
   have aq:=FD (i:=e) aa V
   have W:cR (aG (dE f.aR ((b.args.drop 1).take k)) e+1)=aG (dE f.aR ((b.args.drop 1).take k)) e+1:=aP V V
   obtain⟨_,_,_,_,X,_⟩:=g.fZ.iF
   refine⟨V,V,e,by simpa using(Z g.cQ.cv).aG B,o,X,j.1,V,_,(g.Jr (by simp only[lQ];omega)).pM j.1 D,j.1,V,g.fZ.aR.Po j.1 D,?_⟩
   rw[W]
   intro m5
   let⟨U,E⟩:=g.pY j.1 D (aG (dE f.aR ((b.args.drop 1).take k)) e+1)
   refine⟨E.dL I,ab V _ ⟨?_,M.trans E,I.to E⟩⟩
   rw[bd B,sQ];exact U
  .rw[cJ V]at g
   refine⟨C,aW,H,t,?_,M⟩
   have:tI s l {f with pc:=R} b={s with heap:=rZ s.heap w (b.op==17),av:=l++[{f with aY:=gR f.aY (aG b.args 0) w,aR:=dE f.aR (b.args.drop 1)}]}:=by
    unfold tI;simp only[];rw[hw,aj Q,rZ,aj (by simpa using Q),al]
   rw[this];exact g.cQ
 .have ai:¬((aI s.heap w).aQ=1/\b.op=17):=λQ=>by have:=G.2 Q;rw[aw]at this;simp at this
  refine⟨V,V,V,?_⟩
  refine fm (n:=(b.args.drop 1).length) V (λk a=>ST y C a x bg (IB d p c s aW H t) aW H t s.aW (rZ s.heap w (b.op==17)) l {f with aR:=dE f.aR ((b.args.drop 1).take k)} r o h A/\To v u C a/\zE C a [u.size]) ⟨by simpa[dE]using K,t1.trans t2,T⟩ ?_
  rintro k m4 am μ hk ⟨g,M,I⟩ ab
  have aa:∀q∈dE f.aR ((b.args.drop 1).take k),0<=q/\q<=1000010:=λq hq=>by
   have:=qU _ f.aR 999999 V ak q hq;have h3:((b.args.drop 1).take k).length<=4:=bJ;omega
  refine dit (λY=>?_) λY=>?_
  .let⟨e,B⟩:=cK (b.args.drop 1) k
   have j:=ah e (au B)
   have D:e<(dE f.aR ((b.args.drop 1).take k)).length:=by rw[lQ];omega
   have aq:=FD (i:=e) aa V
   have W:cR (aG (dE f.aR ((b.args.drop 1).take k)) e+1)=aG (dE f.aR ((b.args.drop 1).take k)) e+1:=aP V V
   obtain⟨_,_,_,_,X,_⟩:=g.fZ.iF
   refine⟨V,V,e,by simpa using(Z g.cQ.cv).aG B,o,X,j.1,V,_,(g.Jr (by simp only[lQ];omega)).pM j.1 D,j.1,V,g.fZ.aR.Po j.1 D,?_⟩
   rw[W]
   intro m5
   let⟨U,E⟩:=g.pY j.1 D (aG (dE f.aR ((b.args.drop 1).take k)) e+1)
   refine⟨E.dL I,ab V _ ⟨?_,M.trans E,I.to E⟩⟩
   rw[bd B,sQ];exact U
  .rw[cJ V]at g
   refine⟨C,aW,H,t,?_,M⟩
   have:tI s l {f with pc:=R} b={s with heap:=rZ s.heap w (b.op==17),av:=l++[{f with aR:=dE f.aR (b.args.drop 1)}]}:=by
    unfold tI;simp only[];rw[hw,ae ai,rZ,ae (by simpa using ai),al]
   rw[this];exact g.cQ
def pw.none{v:Nat->Nat}{u:E}:pw v u .nil []:=⟨[],iA.gK (gY.nil u u _ _) (λa=>absurd rfl a),rfl,aL,aL⟩
def HJ(S:ST y v u x bg (IB d p c s aW z t) aW z t s.aW s.heap l f r o h A)(ad:l.length<=100000)(w:Int)(U:∀g,l.getLast?=some g->0<=f.dst/\f.dst<g.an.length/\f.dst<g.aR.length):
 aM cq 114 [vp x 0,vi w] u λ_ a=>DM y v u x d p c (match l.getLast? with|none=>{s with bI:=0,value:=w,av:=[]}|some g=>{s with av:=l.dropLast++[g.put f.dst w (gF w)]}) a:=by
 apply sU (x,0)
 simp -zeta only[aC,aB]
 have G:=S.fZ.vX
 have aa:=S.fZ.pB.le
 have B:cR ((t.len:Int) -1)=(l.length:Int):=by rw[aP V V];omega
 have L:Int.toNat (l.length:Int)=l.length:=V
 have C:af u x 9=some (O.v t):=S.cQ.box.bU 9
 obtain⟨_,_,g2,_,_,_⟩:=S.fZ.iF
 refine⟨t,C,t,C,?_⟩
 rw[B,L]
 refine⟨V,V,f.dst,g2,t,C,V,V,V,S.cQ.mD (i:=9) aL,?_⟩
 intro H
 let⟨q,t2⟩:=S.cQ.jw 9 [.s (t.cut 0 l.length 6)]
 obtain⟨b,_⟩:=q.jJ (dz.aA _ q.new) (q.av.VA)
 have ab:(t.cut 0 l.length 6).len=l.length:=by
  cases t with
  |nil=>simp at G
  |zT j I k=>simp at G
  |mk j I e c=>simp[O.cut]
 have e3:Int.toNat (0:Int)=0:=rfl
 refine⟨λD=>?_,λD=>?_⟩
 .have J:l=[]:=by simpa using D
  subst J
  refine⟨b.mD (i:=3) (by simp[kT]),?_⟩
  intro X
  let⟨j,t3⟩:=b.jw 3 [.i 0]
  refine⟨j.mD (i:=4) (by simp[kT]),?_⟩
  intro Y
  let⟨k,E⟩:=j.jw 4 [.i w]
  refine⟨k.mD (i:=9) (by simp[kT]),?_⟩
  intro K
  let⟨n,M⟩:=k.jw 9 [.s .nil]
  obtain⟨F,_⟩:=n.jJ (dz.aA _ n.new) (pw.none (v:=v) (u:=K))
  exact⟨v,aW,z,.nil,F,((t2.trans t3).trans E).trans M⟩
 .have n:l≠[]:=by simpa using D
  have ae:l.length≠0:=λB=>n (List.length_eq_zero_iff.1 B)
  obtain⟨g,j⟩:∃g,l.getLast?=some g:=⟨_,fg n⟩
  let⟨P,Q,R⟩:=U g j
  rw[j]
  simp only[]
  have W:l=l.dropLast++[g]:=by
   rw[fg n]at j;simp at j;rw[<-j];exact(eD n).symm
  have k:qA y v H x bg (IB d p c s aW z (t.cut 0 l.length 6)) aW z (t.cut 0 l.length 6) s.aW s.heap (l.dropLast++[g]):=
   ⟨b.cv,b.jA,b.new,b.box,b.NV,b.aW,b.heap,by rw[<-W];exact b.av⟩
  let⟨r',I,h',Z,T⟩:=k.av.fZ
  have ac:l.dropLast.length=l.length -1:=aL
  have M:cR ((l.length:Int) -1)=((l.length -1:Nat):Int):=by rw[aP V V];omega
  have N:Int.toNat ((l.length -1:Nat):Int)=l.dropLast.length:=V
  refine⟨t.cut 0 l.length 6,k.box.bU 9,?_⟩
  rw[M,N]
  refine⟨V,V,(mZ w H).mono ?_⟩
  rintro _ X ⟨rfl,F⟩
  let⟨J,t3⟩:=(ST.mk k T).ext F
  refine⟨_,rfl,F.cr (k.box.bU 9),(rE J P Q R w (gF w)).mono ?_⟩
  rintro _ Y ⟨K,E⟩
  exact⟨v,aW,z,_,K.cQ,(t2.trans t3).trans E⟩
end
def Y4{m M:E}(j:J m M){nb:Nat}(o:m.size<=nb)(t:nb<M.size)(b:Nat)(i:List Ce)
 (c:(b1=M.size\/b1=M.size+1\/b1=M.size+2)/\(b2=M.size\/b2=M.size+1\/b2=M.size+2)/\(b3=M.size\/b3=M.size+1\/b3=M.size+2)/\b1≠b2/\b1≠b3/\b2≠b3):
 pE m (ag (((M.push (.cells (bA (nE [.i (0:Int)] b)) 3)).push (.cells (bA (nE [.i (0:Int)] b)) 3)).push (.cells (bA (nE [.i (0:Int)] b)) 3)) nb 0 i) b1 b2 b3 b (df b) (df b) (df b):=by
 rw[ud]
 generalize d:M.push (.cells (bA ((df b).map Ce.i)) 3)=m2
 generalize e:m2.push (.cells (bA ((df b).map Ce.i)) 3)=m3
 generalize f:m3.push (.cells (bA ((df b).map Ce.i)) 3)=m4
 have k:m2.size=M.size+1:=by simp[<-d]
 have l:m3.size=M.size+2:=by simp[<-e,k]
 have u:m4.size=M.size+3:=by simp[<-f,l]
 have s:J M m2:=d▸J.push _ _
 have n:J m2 m3:=e▸J.push _ _
 have h:J m3 m4:=f▸J.push _ _
 have p:cw m4 M.size aD ((df b).map Ce.i):=((d▸cw.push M _ _:cw m2 M.size aD ((df b).map Ce.i)).ext n).ext h
 have q:cw m4 m2.size aD ((df b).map Ce.i):=(e▸cw.push m2 _ _:cw m3 m2.size aD ((df b).map Ce.i)).ext h
 have r:cw m4 m3.size aD ((df b).map Ce.i):=f▸cw.push m3 _ _
 have g:∀a,(a=M.size\/a=M.size+1\/a=M.size+2)->cw (ag m4 nb 0 i) a aD ((df b).map Ce.i):=λa c=>by
  have:cw m4 a aD ((df b).map Ce.i):=by
   rcases c with rfl|rfl|rfl
   .exact p
   .rw[<-k];exact q
   .rw[<-l];exact r
  exact this.congr (bo _ _ _ _ V)
 exact⟨(j.trans ((s.trans n).trans h)).ag o _ _,by have:=j.size;rw[aw];omega,g _ c.1,g _ c.2.1,g _ c.2.2.1,by simp[ku]⟩
def wq{m:E}{d p:O}(f:eW m d p j)(o:0<=g)(h:j.cC[g.toNat]? =some q)(b:0<=q.an/\q.an<=2000)(e:Int):
 aM cq 83 [.agg #[O.v d,O.v p],vi g,vi e] m λv a=>∃b1 b2 b3,v=.agg #[vi g,vi 0,vi e,O.v (.mk b1 0 q.an.toNat q.an.toNat),O.v (.mk b2 0 q.an.toNat q.an.toNat),O.v (.mk b3 0 q.an.toNat q.an.toNat)]/\
  pE m a b1 b2 b3 q.an.toNat (df q.an.toNat) (df q.an.toNat) (df q.an.toNat):=by
 apply Cs
 simp -zeta only[aC,aB]
 intro k c
 have i:J m c:=((J.aA m).aH _).aH _
 have s:k.size=m.size+1:=by simp[k]
 have C:c.size=m.size+2:=by simp[c,s]
 have y:=f.cC.len
 have x:=az h
 clear_value c
 obtain⟨u,z,w,_,_,_,_,_,_,r,_⟩:=(f.ext i).cC.aG h
 refine⟨o,V,q.an,r,⟨b.1,cY _,V,V,?_⟩,⟨b.1,cY _,V,V,?_⟩,⟨b.1,cY _,V,V,?_⟩⟩
 all_goals
  intro l
  refine⟨⟨b.1,cY _,V,V,?_⟩,⟨b.1,cY _,V,V,?_⟩⟩
  all_goals
   intro n
   refine⟨b.1,cY _,V,V,?_⟩
   intro A B
   have t:l.size=c.size+1:=by simp[l]
   have D:n.size=c.size+2:=by simp[n,t]
   exact⟨_,_,_,rfl,Y4 i V V q.an.toNat _ V⟩
def pE.Ep{d:E}{an aR aY:List Int}(N:pE d a b1 b2 b3 b an aR aY)(e:k<b)(v:Int):eC a b1 k 1/\pE d (ag a b1 k [.i v]) b1 b2 b3 b (an.set k v) aR aY:=by
 have c:=N.lo;refine⟨N.kr.eC (by simp[N.len.1];omega),N.ext.ag c.1 _ _,by rw[aw];exact c,?_,N.ko.congr (bo _ _ _ _ V),N.kh.congr (bo _ _ _ _ V),by simp[N.len]⟩;have:=cw.ag (m:=a) (o:=k) (r:=[.i v]) N.kr;rw[Ax]at this;exact this
def pE.pY{d:E}{an aR aY:List Int}(N:pE d a b1 b2 b3 b an aR aY)(e:k<b)(v:Int):eC a b2 k 1/\pE d (ag a b2 k [.i v]) b1 b2 b3 b an (aR.set k v) aY:=by
 have c:=N.lo;refine⟨N.ko.eC (by simp[N.len.2.1];omega),N.ext.ag c.2.1 _ _,by rw[aw];exact c,N.kr.congr (bo _ _ _ _ V),?_,N.kh.congr (bo _ _ _ _ V),by simp[N.len]⟩;have:=cw.ag (m:=a) (o:=k) (r:=[.i v]) N.ko;rw[Ax]at this;exact this
def yw(cO:List Int):∀(e r:List Int)(k:Nat),dI cO k (e++r)=dI cO k e++dI cO (k+e.length) r
 |[],r,k=>by simp[dI]
 |b::e,r,k=>by
  have:=yw cO e r (k+1);simp only[cH,dI,this,aV];have a:k+(e.length+1)=k+1+e.length:=V;rw[a]
def MB{k:Nat}(h:k<b):df (b -k)=0::df (b -(k+1)):=by
 have:b -k=(b -(k+1))+1:=V;rw[this];rfl
def We(h:e.length<b)(v:Int):(e++df (b -e.length)).set e.length v=(e++[v])++df (b -(e.length+1)):=by
 rw[MB h];simp
def YQ(h:e.length<b):e++df (b -e.length)=(e++[0])++df (b -(e.length+1)):=by
 rw[MB h];simp
section
variable{A:E}{t:Nat->Nat}{m:E}{z:Nat}{d p aW y v:O}{c:Int}{s:St}{u:List aU}{w:aU}{r o h:O}{B:List (List Ce)}
def FV(W:ST A t m z bg (IB d p c s aW y v) aW y v s.aW s.heap u w r o h B)(aQ:eW A d p j)(an:0<=g)(Z:j.cC[g.toNat]? =some q)(aS:0<=q.an/\q.an<=2000){ws:O}{b:List Int}(hw:ar m ws b)(aT:b≠[]->t ws.D=0)(ba:(b.length:Int)<=q.an)(U:Instr)(ab aV:O)
 (a5:u.length<=10000)(a0:0<=s.bC/\s.bC<=100000):
 aM cq 112 [vp z 0,vi g,O.v ws,xv U ab aV] m λ_ a=>DM A t m z d p c {s with bC:=s.bC+1,av:=if U.op=24 then u++[br j g w.dst b]else u++[w,br j g U.dst b]} a:=by
 apply wi (z,0)
 simp -zeta only[aC,aB]
 intro R
 have aU:J m R:=(J.aA m).aH _
 have s1:R.size=m.size+1:=by simp[R]
 let⟨S1,t1⟩:=W.ext aU
 have B1:zE t R [m.size]:=λC D=>by simp at D;subst D;exact⟨V,W.cQ.new _ (ad _)⟩
 clear_value R
 have a4:=W.fZ.vX
 have aZ:=W.fZ.pB.le
 have e0:cR (s.bC+1)=s.bC+1:=aP V V
 have aF:cR ((v.len:Int) -1)=(u.length:Int):=by rw[aP V V];omega
 have e2:Int.toNat (u.length:Int)=u.length:=V
 refine⟨s.bC,S1.cQ.box.bU 5,S1.cQ.mD (i:=5) aL,?_⟩
 rw[e0]
 intro m2
 let⟨P,t2⟩:=S1.jw 5 [.i (s.bC+1)]
 replace P:ST A t m2 z bg (IB d p c {s with bC:=s.bC+1} aW y v) aW y v s.aW s.heap u w r o h B:=P
 replace t2:To t R t m2:=t2
 have B2:=B1.to t2
 have g9:af m2 z 9=some (O.v v):=P.cQ.box.bU 9
 obtain⟨_,_,g2,_,_,_⟩:=P.fZ.iF
 refine⟨t2.dL B1,v,g9,?_⟩
 rw[aF,e2]
 clear_value m2
 have ax:=t1.trans t2
 refine⟨λI a=>∃K X,qA A t a z bg (IB d p c {s with bC:=s.bC+1} aW y X) aW y X s.aW s.heap K/\To t m t a/\zE t a [m.size]/\K.length<=10001/\(if U.op=24 then u++[br j g w.dst b]else u++[w,br j g U.dst b])=K++[br j g I b],⟨λT=>?_,λT=>?_⟩,?_⟩
 .simp at T
  refine⟨v,g9,V,V,w.dst,g2,v,g9,V,V,V,P.cQ.mD (i:=9) aL,?_⟩
  intro Q
  let⟨G,t3⟩:=P.cQ.jw 9 [.s (v.cut 0 u.length 6)]
  obtain⟨k,_⟩:=G.jJ (dz.aA _ G.new) (G.av.VA)
  refine⟨t3.dL B2,u,v.cut 0 u.length 6,k,ax.trans t3,B2.to t3,V,?_⟩
  rw[aj T]
 .simp at T
  refine⟨u++[w],v,P.cQ,ax,B2,bJ,?_⟩
  rw[ae T];simp
 rintro I Q ⟨K,X,G,t3,B3,hX,aH⟩
 rw[aH]
 have ah:dC j g=q:=by simp[dC,Z]
 have ag:=aQ.ext G.cv
 refine⟨d,G.box.bU 0,p,G.box.bU 1,(wq ag an Z aS I).mono ?_⟩
 rintro _ L ⟨b1,b2,b3,rfl,aa⟩
 have a6:=aa.lo
 have am:∀C∈[m.size],C<Q.size:=λC D=>(B3 C D).1
 have a8:m.size<Q.size:=am _ aL
 refine⟨aa.ext.dv am,_,_,_,_,_,_,rfl,?_⟩
 intro m5 m6
 have aG:J L m6:=((J.aA L).aH _).ag (ad _) _ _
 have s6:m6.size=L.size+1:=by simp[m6,m5,aw]
 have N6:=aa.PV aG
 clear_value m6
 have a_:=hw.len
 have iw:∀{M},J Q M->ar M ws b:=λhx=>(iO hw λk=>t3.dQ _ (iP hw k) (by rw[aT k];decide)).ext hx
 obtain⟨pa,pl,pc,_,aO,_,_,k1,_,_,_⟩:=ag.cC.aG Z
 have a7:=az Z
 have a9:=ag.cC.len
 have ao:∀(k:Nat),(q.cO.any λF=>F==(k:Int))=true<->(k:Int)∈q.cO:=λk=>aL
 simp -zeta only[O.jB,O.tH,O.iS,cE]
 refine fm (n:=b.length) V (λk a=>pE Q a b1 b2 b3 q.an.toNat (b.take k++df (q.an.toNat -k)) (dI q.cO 0 (b.take k)++df (q.an.toNat -k)) (df q.an.toNat)/\L.size<a.size) ⟨by simpa[dI]using N6,V⟩ ?_
 rintro k H aY μ hk ⟨S,s7⟩ ap
 have tO:∀{ma mc:E},(∀C,C=L.size\/C=m.size->mc[C]? =ma[C]?)->dY [L.size,m.size] ma mc:=λhh C D=>hh C (by simpa using D)
 have tk:(b.take k).length=k:=bJ
 have aq:(dI q.cO 0 (b.take k)).length=k:=by rw[lZ,tk]
 refine dit (λh1=>?_) λh1=>?_
 .let⟨F,hy⟩:=cK b k
  have ek:Int.toNat (k:Int)*1=k:=V
  have ak:k<q.an.toNat:=V
  let⟨w8,N⟩:=S.Ep ak F
  have er:(b.take k++df (q.an.toNat -k)).set k F=b.take (k+1)++df (q.an.toNat -(k+1)):=by
   have:=We (e:=b.take k) (b:=q.an.toNat) V F;rw[tk]at this;rw[this,bd hy]
  rw[er]at N
  have eo:dI q.cO 0 (b.take (k+1))=dI q.cO 0 (b.take k)++[if q.cO.any (λF=>F==(k:Int))then 0 else gF F]:=by
   rw[bd hy,yw,tk];simp[dI]
  refine⟨V,V,F,by simpa using(iw S.ext).aG hy,V,V,?_⟩
  rw[ek]
  refine⟨w8,?_⟩
  intro m8
  have s8:m8.size=H.size:=aw _ _ _ _
  refine⟨tO λC D=>bo _ _ _ _ V,?_⟩
  replace N:pE Q m8 b1 b2 b3 q.an.toNat (b.take (k+1)++df (q.an.toNat -(k+1))) (dI q.cO 0 (b.take k)++df (q.an.toNat -k)) (df q.an.toNat):=N
  clear_value m8
  refine⟨p,N.ext.af (G.box.bU 1),an,V,pl,N.ext.af k1,(me (aO.ext N.ext) _).mono ?_⟩
  rintro _ m9 ⟨C,rfl,D,ac⟩
  have N9:=N.PV ac
  have s9:=ac.size
  refine⟨ac.dv bJ,C,rfl,λay=>?_,λau=>?_⟩
  .have aA:¬((k:Int)∈q.cO):=nb D ay
   refine(mZ F m9).mono ?_
   rintro _ aK ⟨rfl,Y⟩
   have aN:=Y.size
   let⟨aI,ai⟩:=(N9.PV Y).pY ak (gF F)
   have al:(dI q.cO 0 (b.take k)++df (q.an.toNat -k)).set k (gF F)=dI q.cO 0 (b.take (k+1))++df (q.an.toNat -(k+1)):=by
    have:=We (e:=dI q.cO 0 (b.take k)) (b:=q.an.toNat) V (gF F);rw[aq]at this;rw[this,eo,ae (λhh=>aA ((ao k).1 hh))]
   rw[al]at ai
   refine⟨Y.dv bJ,_,rfl,aJ (Y.same L.size V) 4,V,V,aI,?_⟩
   intro aE
   refine⟨tO λC D=>bo _ _ _ _ V,ap V _ ⟨ai,by simp only[aE,aw];omega⟩⟩
  .have Y:(k:Int)∈q.cO:=yb D au
   refine ap V _ ⟨?_,V⟩
   have:=YQ (e:=dI q.cO 0 (b.take k)) (b:=q.an.toNat) V
   rw[aq]at this
   rw[eo,aj ((ao k).2 Y),<-this];exact N9
 .have aR:k=b.length:=V
  subst aR
  rw[fy]at S
  have hc:dz (λ_=>False) t Q (mJ t b1 b2 b3 K.length) H:=S.eY G.new
  let⟨a1,a2,a3⟩:=S.pB (a:=t) (g:=K.length)
  let⟨F,t7⟩:=G.gD (hc.mono λ_=>False.elim) (G.heap.eY hc id id)
  have B7:zE (mJ t b1 b2 b3 K.length) H [L.size,m.size]:=λC D=>by
   simp at D;refine⟨V,?_⟩;unfold mJ;rw[ez V,ez V,ez V];rcases D with rfl|rfl
   .exact G.new _ V
   .exact(B3 _ aL).2
  refine⟨X,F.box.bU 9,?_⟩
  intro N
  have ac:J H N:=(J.aA H).aH _
  have jm:fX N H.size 0 [.i g,.i 0,.i I,.s (.mk b1 0 q.an.toNat q.an.toNat),.s (.mk b2 0 q.an.toNat q.an.toNat),.s (.mk b3 0 q.an.toNat q.an.toNat)]:=(cw.push H _ _).iF
  let⟨Y,ay⟩:=F.ext ac
  have ak:=B7.to ay
  clear_value N
  have ch:=λ{k:Nat}{s:O}{e:List Ce}(ab:iA (mJ t b1 b2 b3 K.length) H aD 1 k s e)=>ab.eY (dz.eT (λ_=>False) ac F.new) id
  have aN:(br j g I b).an=b++df (q.an.toNat -b.length):=by simp[br,ah]
  have aK:(br j g I b).aR=dI q.cO 0 b++df (q.an.toNat -b.length):=by simp[br,ah]
  have aI:(br j g I b).aY=df q.an.toNat:=by simp[br,ah]
  refine⟨ac.cr (F.box.bU 9),pw.push Y.av Y.new (x:=.mk H.size 0 1 1) rfl (a:=br j g I b) jm (by rw[aN];exact ch a1) (by rw[aK];exact ch a2) (by rw[aI];exact ch a3) V λau qs aX q1 q2=>?_⟩
  have ai:To _ N au aX:=q2.mono λk hk=>V
  let⟨al,bc⟩:=Y.jJ (q2.mono λk hk=>V) q1
  refine⟨ai.dL ak,al.mD (i:=9) aL,?_⟩
  intro bb
  let⟨aE,aA⟩:=al.jw 9 [.s qs]
  exact⟨aA.dL (ak.to ai),au,aW,y,qs,aE,(((t3.trans t7).trans ay).trans ai).trans aA⟩
end
end
section
def Mu(an:List Int):∀(b aR:List Int)(n:Int),(∀q∈aR,n<=q)->∀q∈bB an aR b,n -b.length<=q
 |[],aR,n,h,q,c=>by have:=h q c;simp;omega
 |r::b,aR,n,h,q,c=>by
  have k:∀d,(∀q∈d,n -1<=q)->q∈bB an d b->n -(r::b).length<=q:=λd j a=>by
   have:=Mu an b d (n -1) j q a;simp only[aV];omega
  rw[bB]at c;refine k _ (λg a=>?_) c;split at a
  .rcases pS a with e|e
   .rcases aZ r.toNat aR.length with f|f
    .let⟨y,i⟩:=dZ f;have:=h y (au i);rw[DQ i]at e;omega
    .have:gR aR r (aG aR r -1)=aR:=by unfold gR;exact rU f
     rw[this]at a;have:=h g a;omega
   .have:=h g e;omega
  .have:=h g a;omega
section
variable{q:E}{g:Nat->Nat}{m:E}{k:Nat}{d p aW j c:O}{a:St}{b:List aU}{f:aU}{r t h:O}{u:List (List Ce)}
def Rg{z:cg}{v:Instr}(C:yI z a b f v){aR:List Int}(aH:aR=bB f.an f.aR (bW z v))(hM:kA z a f v aR)
 (aa:ST q g m k bg (IB d p (bH z) a aW j c) aW j c a.aW a.heap b f r t h u)(a8:eW q d p z){al aT:O}(ha:ar q al v.args)(hj:ar q aT v.eG)(cG:a.heap.length<=900000000)(cM:a.aW.length<=900000000):
 aM cq 60 [vp k 0,vp c.D (c.off+b.length*6),xv v al aT] m λ_ Q=>DM q g m k d p (bH z) (eJ z a b f v aR) Q:=by
 apply yS (k,0) (c.D,c.off+b.length*6)
 simp -zeta only[aC,aB]
 intro m1
 have cp:J m m1:=(J.aA m).aH _
 have s1:m1.size=m.size+1:=by simp[m1]
 let⟨S1,t1⟩:=aa.ext cp
 have B1:zE g m1 [m.size]:=λP hb=>by simp at hb;subst hb;exact⟨V,aa.cQ.new _ (ad _)⟩
 clear_value m1
 have cH:=C.Lm
 have cL:aR.length=f.aR.length:=by rw[aH];exact ka _ _ _
 have cS:r.len=f.an.length:=by have:=aa.fZ.an.len;simp at this;omega
 have cI:t.len=f.aR.length:=by have:=aa.fZ.aR.len;simp at this;omega
 have cA:=ha.len
 have bl:v.args.length<=4:=C.lp.1
 have cP:0<=f.pc/\f.pc<=100000:=by
  have ch:=C.F.pc;obtain⟨pq,_,ci,hP,_,_⟩:=C.I;rw[ci]at ch;have cQ:=hP.len;omega
 have e4:cR (f.pc+1)=f.pc+1:=aP V V
 have cF:b.length<=1000:=by
  have bS:=C.ok.depth;have b_:=C.ok.bC;have cd:=C.ok.bq;rw[C.fr]at bS;simp at bS;omega
 refine(wg (a8.ext S1.cQ.cv) (S1.cQ.box.bU 1) C.call (ha.ext S1.cQ.cv) V C.lp.2.2.2.1).mono ?_
 rintro _ m2 ⟨ts,lt,rfl,a_,_,bi,b0,_⟩
 let⟨S2,t2⟩:=S1.ext bi
 have B2:=B1.to t2
 have cU:=IY z v
 have bq:=a_.len
 have b1:bW z v≠[]->g ts.D=0:=λac=>by
  rcases b0 with w|w|w
  .subst w;simp at bq;exact absurd (List.length_eq_zero_iff.1 bq.symm) ac
  .rw[w];refine aa.cQ.jA _ (iP ha λh0=>?_);let⟨R,B⟩:=UY _ ac;have:=Ch B;rw[h0]at this;simp at this
  .exact aa.cQ.new _ V
 refine⟨t2.dL B1,ts,lt,rfl,?_⟩
 refine fm (n:=(bW z v).length) V (λL Q=>ST q g Q k bg (IB d p (bH z) a aW j c) aW j c a.aW a.heap b {f with aR:=bB f.an f.aR ((bW z v).take L)} r t h u/\To g m2 g Q) ⟨S2,dz.aA _ S2.cQ.new⟩ ?_
 rintro L m3 b6 μ hk ⟨S3,t3⟩ bs
 have B3:=B2.to t3
 have cb:(bB f.an f.aR ((bW z v).take L)).length=f.aR.length:=ka _ _ _
 refine dit (λh1=>?_) λh1=>?_
 .let⟨R,B⟩:=cK (bW z v) L
  have A:=C.Kw R (au B)
  obtain⟨_,_,_,G,I,_⟩:=S3.fZ.iF
  have K:ar m3 ts (bW z v):=iO a_ λac=>t3.dQ _ (iP a_ ac) (by rw[b1 ac];decide)
  have F:bB f.an f.aR ((bW z v).take (L+1))=if 1000<=aG f.an R then gR (bB f.an f.aR ((bW z v).take L)) R (aG (bB f.an f.aR ((bW z v).take L)) R -1)else bB f.an f.aR ((bW z v).take L):=by
   rw[bd B,vh];rfl
  refine⟨V,V,R,by simpa using K.aG B,r,G,A.1,V,_,(S3.Ar (by show f.an.length<=_;omega)).pM A.1 A.2,λT=>?_,λT=>?_⟩
  .simp only[Hr,aq]at T
   have D:R<(bB f.an f.aR ((bW z v).take L)).length:=V
   have M: -4<=aG (bB f.an f.aR ((bW z v).take L)) R/\aG (bB f.an f.aR ((bW z v).take L)) R<=999999:=by
    let⟨qq,aQ,bf⟩:=lj _ _ _ _ (oI A.1 D);have Y:=C.OQ qq (au aQ);have h8:=Mu f.an ((bW z v).take L) f.aR 0 (λao hq=>(C.OQ ao hq).1) _ (fq A.1 D);have h9:((bW z v).take L).length<=4:=bJ;omega
   have e5:cR (aG (bB f.an f.aR ((bW z v).take L)) R -1)=aG (bB f.an f.aR ((bW z v).take L)) R -1:=aP V V
   refine⟨t,I,A.1,V,_,(S3.Jr (by show(bB _ _ _).length<=_;omega)).pM A.1 D,A.1,V,S3.fZ.aR.Po A.1 D,?_⟩
   rw[e5]
   intro H
   let⟨y,t4⟩:=S3.pY A.1 D (aG (bB f.an f.aR ((bW z v).take L)) R -1)
   refine⟨t4.dL B3,bs V _ ⟨?_,t3.trans t4⟩⟩
   rw[F,aj T];exact y
  .simp only[Hr,bD]at T
   refine bs V _ ⟨?_,t3⟩
   rw[F,ae T];exact S3
 rw[cJ V,<-aH]at S3
 clear bs cb hk h1 b1 a_ b0 bq
 obtain⟨_,g1,_,_,_,_⟩:=S3.fZ.iF
 refine⟨f.pc,g1,S3.fZ.VK,?_⟩
 rw[e4]
 intro H
 let⟨y,t4⟩:=S3.NX (f.pc+1)
 have K:zE g H [m.size]:=B3.to t4
 have b3:dY [m.size] m3 H:=t4.dL B3
 have Z:To g m g H:=((t1.trans t2).trans t3).trans t4
 clear t4
 replace y:ST q g H k bg (IB d p (bH z) a aW j c) aW j c a.aW a.heap b {f with aR:=aR,pc:=f.pc+1} r t h u:=y
 refine⟨b3,?_⟩
 clear b3 g1 S3 t3 B3 t2 B2 S2 bi b6 μ
 clear_value H
 have U:∀{M M':E},dY [m.size] M M'->∀an,af M' m.size an=af M m.size an:=λh an=>aJ (h _ aL) an
 have hd:=C.dst
 have bn:f.an.length=aR.length/\f.aY.length=aR.length/\aR.length<=2000:=V
 have ax:1<=v.args.length->0<=aG v.args 0/\aG v.args 0<f.an.length:=λh1=>C.arg _ (fq V V)
 have ga:∀{Q},J q Q->1<=v.args.length->af Q al.D (al.off+Int.toNat (0:Int)*1)=some (vi (aG v.args 0)):=λhx h1=>(ha.ext hx).pM V V
 have gr:∀{g m bx aW j c lo ap t h u own' pc'},ST q g m k bg bx aW j c lo ap b {f with aR:=own',pc:=pc'} r t h u->∀{an:Int},0<=an->an<f.an.length->af m r.D (r.off+Int.toNat an*1)=some (vi (aG f.an an)):=λaa an h0 h1=>(aa.Ar (by simp only[];omega)).pM h0 h1
 have ah:∀{g m bx aW j c lo ap t h u own' pc'},ST q g m k bg bx aW j c lo ap b {f with aR:=own',pc:=pc'} r t h u->af m c.D (c.off+b.length*6+3)=some (O.v r):=λaa=>aa.fZ.iF.2.2.2.1
 have ct:∀r',r'∈v.args->aG f.an r'<1000->iJ (aG f.an r'):=λr' ck aS=>by
  have bX:=C.arg r' ck;rcases C.F.Sn _ (fq bX.1 bX.2)with T|T
  .exact T
  .omega
 obtain⟨pq,_,_,_,_,hI⟩:=C.I
 have am:=hI.op
 clear hI
 have bv:∀{bt:Nat->Nat}{bY:O}{ap:List bO}{M:E}(SM:ST q bt M k bg (IB d p (bH z) {a with heap:=ap} aW bY c) aW bY c a.aW ap b {f with aR:=aR,pc:=f.pc+1} r t h u)(tM:To g m bt M)(BM:zE bt M [m.size])(F ba:Int)(s':St),s'={a with heap:=ap,av:=b++[aU.put {f with aR:=aR,pc:=f.pc+1} v.dst F ba]}->
  aM cq 103 [vp c.D (c.off+b.length*6),vi v.dst,vi F,vi ba] M λ_ Q=>dY [m.size] M Q/\DM q g m k d p (bH z) s' Q:=λSM tM BM F ba s' w=>by
  refine(rE SM hd.1 (by show v.dst<f.an.length;omega) (by show v.dst<aR.length;omega) F ba).mono ?_
  rintro _ Q ⟨S',t'⟩
  exact⟨t'.dL BM,_,aW,_,c,by rw[w];exact S'.cQ,tM.trans t'⟩
 have bh:∀{M:E}(hx:J H M)(X:Int)(s':St),s'={a with av:=b++[{f with aR:=aR,pc:=X}]}->
  eC M c.D (c.off+b.length*6+1) 1/\dY [m.size] M (ag M c.D (c.off+b.length*6+1) [.i X])/\DM q g m k d p (bH z) s' (ag M c.D (c.off+b.length*6+1) [.i X]):=λhx X s' w=>by
  let⟨SM,tM⟩:=y.ext hx
  let⟨S',t'⟩:=SM.NX X
  exact⟨SM.fZ.VK,t'.dL (K.to tM),g,aW,j,c,by rw[w];exact S'.cQ,(Z.trans tM).trans t'⟩
 refine⟨λw=>?_,λe0=>?_⟩
 .simp only[bV,aE]at w
  refine(JK y ha C.arg bl w (λe5=>C.lp.2.1 (Or.inl e5)) (λe0 e5=>C.lp.2.2.1 V) (λe0 R B=>ct R B (hM.nT V R B)) bn ⟨hd.1,by show v.dst<aR.length;omega⟩ V).mono ?_
  rintro _ W ⟨aF,aV,aA,aK,L5,B⟩
  refine⟨B.dL K,aF,aV,aA,aK,?_,Z.trans B⟩
  have:eJ z a b f v aR=(if v.op=0 then{a with av:=b++[aU.put {f with aR:=aR,pc:=f.pc+1} v.dst v.bQ 0]}else if v.op=5 then{a with aW:=a.aW++[aG f.an (aG v.args 0)],av:=b++[aU.put {f with aR:=aR,pc:=f.pc+1} v.dst (aG f.an (aG v.args 0)) 0]}else{a with av:=b++[aU.put {f with aR:=aR,pc:=f.pc+1} v.dst (OS v.op (aG f.an (aG v.args 0)) (aG f.an (aG v.args 1))) 0]}):=by
   unfold eJ;simp only[];by_cases A:v.op=0
   .rw[aj A,aj A]
   rw[ae A,ae A];by_cases D:v.op=5
   .rw[ae V,aj D,aj D]
   .rw[aj V,ae D]
  rw[this];exact L5
 simp only[bu,ak]at e0
 have bc:¬(v.op=1\/v.op=2\/v.op=3\/v.op=4):=V
 have cu:∀F∈f.aY,F≠0->1000<=F/\ix F<a.heap.length:=λF hw ac=>by
  obtain⟨h1,dd,ca,_⟩:=C.Ll F hw ac;exact⟨h1,az ca⟩
 refine⟨λw=>?_,λe6=>?_⟩
 .simp only[aE]at w
  have h6:=C.lp.2.2.2.2.1 w
  refine(FZ y ha C.arg bl bn ⟨h6.1,h6.2.1⟩ V cu).mono ?_
  rintro _ W ⟨aF,aA,A,N,rfl,S,B,er,eo,ep,ec⟩
  refine⟨B.dL K,_,rfl,U (B.dL K) 1,(rE S hd.1 (by rw[er];show v.dst<f.an.length;omega) (by rw[eo];show v.dst<aR.length;omega) (1000+A) 1).mono ?_⟩
  rintro _ D ⟨G,I⟩
  refine⟨I.dL (K.to B),aF,aW,aA,c,?_,(Z.trans B).trans I⟩
  have Y:=ec f.pc
  have ab:N.pc=f.pc+1:=ep
  have h8:({N with pc:=f.pc+1}:aU)=N:=by rw[<-ab]
  rw[h8]at Y
  have:eJ z a b f v aR=nH a b {f with aR:=aR} v v.bQ:=by
   unfold eJ nH;simp only[];rw[ae V,ae bc,ae V,aj w];rfl
  rw[this]
  have h9:nH a b {f with aR:=aR} v v.bQ={a with heap:=je a.heap A ⟨1,v.bQ,cN f v.args⟩,av:=b++[aU.put N v.dst (1000+A) 1]}:=Y
  rw[h9];exact G.cQ
 simp only[ak]at e6
 have F4:FP H c.D (c.off+b.length*6) {f with aR:=aR,pc:=f.pc+1} r t h:=y.fp ⟨by show f.an.length<=_;omega,by show aR.length<=_;omega,by show f.aY.length<=_;omega⟩
 have b5:∀{bw:Value->E->Prop},(∀ws M,ar M ws (cN f v.args)->J H M->(cN f v.args≠[]->g ws.D=0)->bw (O.v ws) M)->aM cq 106 [vp c.D (c.off+b.length*6),O.v al] H bw:=λhk=>by
  refine(vv F4.g3 F4.an (ha.ext y.cQ.cv) C.arg V).mono ?_;rintro _ W ⟨ws,rfl,ow,ai⟩;have co:(cN f v.args).length=v.args.length:=by simp[cN]
  have iw:ar W ws (cN f v.args):=ar.gK (l:=cN f v.args) ow V;refine hk ws W iw ai λac=>?_;rcases ow.D with w|w
  .subst w;have:=iw.len;simp at this;exact absurd (List.length_eq_zero_iff.1 this.symm) ac
  .exact y.cQ.new _ w
 have bi:(eP z.bn).length<=12:=by
  have:=ry C.ok.fA.ni.types z.bn.length;rw[mV _ _ (ad _)]at this;exact this
 have cB:0<=bH z/\bH z<=12:=by unfold bH;omega
 refine⟨λw=>?_,λbz=>?_⟩
 .simp only[aE]at w
  have ab:=C.lp.2.2.2.2.2.1 w
  refine⟨bH z,y.cQ.box.bU 2,b5 λws W iw ai _=>?_⟩
  let⟨S,B⟩:=y.ext ai
  have A:=K.to B
  have N:=B.dL K
  have Y:cR (bH z+v.bQ)=bH z+v.bQ:=aP V V
  refine⟨N,ws,rfl,U N 2,ai.cr (y.cQ.box.bU 2),U N 1,?_⟩
  rw[Y]
  refine(Dt S (bH z+v.bQ) iw (by simp[cN];omega) V).mono ?_
  rintro _ D ⟨rfl,bA,bj,G,I⟩
  have aX:=I.dL A
  refine⟨aX,_,rfl,U aX 1,bv (bY:=bj) (ap:=je a.heap (dG a.heap) ⟨1,bH z+v.bQ,cN f v.args⟩) G ((Z.trans B).trans I) (A.to I) _ _ _ ?_⟩
  unfold eJ;simp only[];rw[ae V,ae bc,ae V,ae e6,aj w]
 simp only[ak]at bz
 have MG:eJ z a b f v aR=(
  if v.op=14 then{a with heap:=mP a.heap (aG f.an (aG v.args 0)),av:=b++[{f with aR:=gR aR (aG v.args 0) (aG aR (aG v.args 0)+1),pc:=f.pc+1}]}
  else if v.op=15 then{a with heap:=ns (gS a.heap [aG f.an (aG v.args 0)]),av:=b++[{f with aR:=aR,pc:=f.pc+1}]}
  else if v.op=16\/v.op=17 then tI a b {f with aR:=aR} v
  else if v.op=18 then{a with av:=b++[aU.put {f with aR:=aR,pc:=f.pc+1} v.dst (aG f.an (aG v.args 0)) (gF (aG f.an (aG v.args 0)))]}
  else if v.op=19 then{a with av:=b++[aU.put {f with aR:=aR,pc:=f.pc+1} v.dst (aG (aI a.heap (aG f.an (aG v.args 0))).aN v.bQ) 0]}
  else if v.op=20 then{a with av:=b++[{f with aR:=aR,pc:=if aG f.an (aG v.args 0)=0 then v.bQ else f.pc+1}]}
  else if v.op=22 then{a with av:=b++[{f with aR:=aR,pc:=v.bQ}]}
  else if v.op=21 then{a with av:=b++[{f with aR:=aR,pc:=aG v.eG (rC (cx z.bn v.bQ) (aI a.heap (aG f.an (aG v.args 0))).kG)}]}
  else if v.op=9\/v.op=24 then{a with bC:=a.bC+1,av:=if v.op=24 then b++[br z v.bQ f.dst (cN f v.args)]else b++[{f with aR:=aR,pc:=f.pc+1},br z v.bQ v.dst (cN f v.args)]}
  else if v.op=11 then{a with bC:=a.bC+1,heap:=apart a.heap (aG f.an (aG v.args 0)),av:=b++[{f with aR:=aR,pc:=f.pc+1},br z ((aI a.heap (aG f.an (aG v.args 0))).kG -bH z) v.dst ((aI a.heap (aG f.an (aG v.args 0))).aN++[aG f.an (aG v.args 1)])]}
  else match b.getLast? with|none=>{a with bI:=0,value:=aG f.an (aG v.args 0),av:=[]}|some aN=>{a with av:=b.dropLast++[aN.put f.dst (aG f.an (aG v.args 0)) (gF (aG f.an (aG v.args 0)))]}):=by
  unfold eJ
  simp only[]
  rw[ae V,ae bc,ae V,ae e6,ae bz]
  by_cases aZ:v.op=14
  .rw[aj aZ,aj aZ]
  rw[ae aZ,ae aZ]
  by_cases a0:v.op=15
  .rw[aj a0,aj a0]
  rw[ae a0,ae a0]
  by_cases a1:v.op=16\/v.op=17
  .rw[aj a1,aj a1];rfl
  rw[ae a1,ae a1]
  by_cases a2:v.op=18
  .rw[aj a2,aj a2]
  rw[ae a2,ae a2]
  by_cases a3:v.op=19
  .rw[aj a3,aj a3]
  rw[ae a3,ae a3]
  by_cases a4:v.op=20
  .rw[aj a4,aj a4]
  rw[ae a4,ae a4]
  by_cases a5:v.op=21
  .rw[aj a5,ae V,aj a5]
  rw[ae a5]
  by_cases a6:v.op=22
  .rw[aj a6,aj a6]
  rw[ae a6,ae a6,ae a5]
  by_cases bb:v.op=9
  .rw[aj bb,aj (Or.inl bb),ae V]
  rw[ae bb]
  by_cases a7:v.op=24
  .rw[aj a7,aj (Or.inr a7),aj a7]
  rw[ae a7,ae (show¬(v.op=9\/v.op=24)by omega)]
  by_cases aY:v.op=11
  .rw[aj aY,aj aY]
  rw[ae aY,ae aY]
  cases b.getLast?<;>rfl
 rw[MG]
 clear MG
 refine⟨λw=>?_,λbE=>?_⟩
 .simp only[aE]at w
  rw[aj w]
  have h2:=C.lp.2.1 V
  have A:=ax V
  let⟨ab,bF⟩:=hM.VV w
  let⟨Y,a9⟩:=bZ ab
  have aS:=az Y
  have bo:=y.cQ.heap.len
  have bm:=ab.1
  have ay:ix (aG f.an (aG v.args 0))=(aG f.an (aG v.args 0) -1000).toNat:=rfl
  have e5:cR (aG f.an (aG v.args 0) -1000)=aG f.an (aG v.args 0) -1000:=aP V V
  have bk:cR ((aI a.heap (aG f.an (aG v.args 0))).aQ+1)=(aI a.heap (aG f.an (aG v.args 0))).aQ+1:=aP V V
  obtain⟨f0,k0,_⟩:=y.cQ.heap.bU Y
  refine⟨j,y.cQ.box.bU 8,r,ah y,V,V,_,ga y.cQ.cv V,A.1,V,_,gr y A.1 A.2,?_⟩
  rw[e5,<-ay]
  refine⟨V,V,_,k0,V,V,y.cQ.heap.wr (o:=0) aS be,?_⟩
  rw[bk]
  intro W
  let⟨bp,c5⟩:=y.cQ.heap.tP y.cQ.new Y ((aI a.heap (aG f.an (aG v.args 0))).aQ+1)
  let⟨S,B⟩:=y.gD (c5.mono λL hk=>Or.inl hk) bp
  have aO:aG v.args 0<aR.length:=V
  have bG:0<=aG aR (aG v.args 0)/\aG aR (aG v.args 0)<=999999:=by
   refine⟨hM.nn _ (fq (l:=aR) A.1 aO),?_⟩;have hg:=oI (l:=aR) A.1 aO;rw[aH]at hg;let⟨qq,aQ,bf⟩:=lj _ _ _ _ hg;have:=(C.OQ qq (au aQ)).2;rw[<-aH]at bf;omega
  have e7:cR (aG aR (aG v.args 0)+1)=aG aR (aG v.args 0)+1:=aP V V
  refine⟨B.dL K,t,S.fZ.iF.2.2.2.2.1,V,V,_,ga S.cQ.cv V,A.1,V,aG aR (aG v.args 0),(S.Jr (by show aR.length<=_;omega)).pM A.1 aO,A.1,V,S.fZ.aR.Po A.1 aO,?_⟩
  rw[e7]
  intro D
  let⟨G,I⟩:=S.pY A.1 aO (aG aR (aG v.args 0)+1)
  exact⟨I.dL (K.to B),g,aW,j,c,G.cQ,(Z.trans B).trans I⟩
 simp only[ak]at bE
 rw[ae bE]
 refine⟨λw=>?_,λbF=>?_⟩
 .simp only[aE]at w
  rw[aj w]
  have h2:=C.lp.2.1 V
  have A:=ax V
  have bG:v.args=[aG v.args 0]:=by
   cases hx:v.args with
   |nil=>rw[hx]at h2;simp at h2
   |cons R aO=>cases aO with
    |nil=>rfl
    |cons bk aO=>rw[hx]at h2;simp at h2
  have bk:=C.HE aH hM.nn
  have ht:bW z v=[aG v.args 0]:=by unfold bW;rw[aj V];exact bG
  have bp:=bk.1
  rw[ht]at bp
  refine⟨j,y.cQ.box.bU 8,?_⟩
  intro W D
  let⟨G,I,kb⟩:=y.OG
  have R:zE (pu g H.size 5) D [m.size]:=K.to I
  replace G:ST q (pu g H.size 5) D k bg (IB d p (bH z) a aW j c) aW j c a.aW a.heap b {f with aR:=aR,pc:=f.pc+1} r t h u:=G
  replace I:To g H (pu g H.size 5) D:=I
  replace kb:cw D H.size eu [.s j]:=kb
  clear_value D
  refine⟨r,ah G,V,V,_,ga G.cQ.cv V,A.1,V,_,gr G A.1 A.2,(Ga G.cQ.heap G.cQ.new kb (fQ _ _ _) (W:=λP=>gU b P+dq f.an aR P) (bp.congr λP=>rfl) bk.2 V).mono ?_⟩
  rintro _ m7 ⟨bM,aO,bK,bL,c7⟩
  let⟨S7,t7⟩:=G.gD c7 bK
  refine⟨t7.dL R,aO,bL.bU 0,S7.cQ.mD (i:=8) aL,?_⟩
  intro m8
  let⟨S8,t8⟩:=S7.jw 8 [.s aO]
  exact⟨t8.dL (R.to t7),bM,aW,aO,c,S8.cQ,((Z.trans I).trans t7).trans t8⟩
 simp only[ak]at bF
 rw[ae bF]
 refine⟨λw=>?_,λb7=>?_⟩
 .simp only[bV,aE]at w
  rw[aj w]
  refine(OJ y ha C.arg ⟨C.lp.2.2.2.1 w,bl⟩ bn V (λao hq=>?_) (hM.Jp w).1 C.ok.heap (show f.pc+1=f.pc+1 from rfl)).mono ?_
  .refine⟨hM.nn ao hq,?_⟩
   let⟨L,hk⟩:=List.mem_iff_getElem?.1 hq
   simp only[]at hk
   rw[aH]at hk
   let⟨qq,aQ,bf⟩:=lj _ _ _ _ hk
   have:=(C.OQ qq (au aQ)).2
   omega
  rintro _ W ⟨aF,aV,aA,aK,L5,B⟩
  exact⟨B.dL K,aF,aV,aA,aK,L5,Z.trans B⟩
 simp only[bu,ak]at b7
 rw[ae V]
 refine⟨λw=>?_,λbG=>?_⟩
 .simp only[aE]at w
  rw[aj w]
  have h2:=C.lp.2.1 V
  have A:=ax V
  refine⟨r,ah y,V,V,_,ga y.cQ.cv V,A.1,V,_,gr y A.1 A.2,(mZ _ _).mono ?_⟩
  rintro _ W ⟨rfl,ai⟩
  let⟨S,B⟩:=y.ext ai
  have N:=B.dL K
  exact⟨N,_,rfl,U N 1,bv (ap:=a.heap) S (Z.trans B) (K.to B) _ _ _ rfl⟩
 simp only[ak]at bG
 rw[ae bG]
 refine⟨λw=>?_,λbK=>?_⟩
 .simp only[aE]at w
  rw[aj w]
  have h2:=C.lp.2.1 V
  have A:=ax V
  let⟨ab,aO⟩:=hM.load w
  let⟨Y,a9⟩:=bZ ab
  have aS:=az Y
  have bo:=y.cQ.heap.len
  have bm:=ab.1
  have ay:ix (aG f.an (aG v.args 0))=(aG f.an (aG v.args 0) -1000).toNat:=rfl
  have e5:cR (aG f.an (aG v.args 0) -1000)=aG f.an (aG v.args 0) -1000:=aP V V
  obtain⟨f0,_,_,k2,kf,_⟩:=y.cQ.heap.bU Y
  have aQ:=kf.len
  unfold lS at am
  rw[ae V,ae V,ae V,ae V,ae V,ae V,ae V,aj w]at am
  refine⟨j,y.cQ.box.bU 8,r,ah y,V,V,_,ga y.cQ.cv V,A.1,V,_,gr y A.1 A.2,?_⟩
  rw[e5,<-ay]
  exact⟨V,V,f0,k2,am.2.1,V,_,kf.pM am.2.1 aO,bv (ap:=a.heap) y Z K _ _ _ rfl⟩
 simp only[ak]at bK
 rw[ae bK]
 refine⟨λw=>?_,λbL=>?_⟩
 .simp only[aE]at w
  rw[aj w]
  have h2:=C.lp.2.1 V
  have A:=ax V
  refine⟨r,ah y,V,V,_,ga y.cQ.cv V,A.1,V,_,gr y A.1 A.2,λT=>?_,λT=>?_⟩
  .simp at T;exact bh (J.aA _) _ _ (by rw[aj T])
  .simp at T;exact⟨g,aW,j,c,by rw[ae T];exact y.cQ,Z⟩
 simp only[ak]at bL
 rw[ae bL]
 refine⟨λw=>?_,λbN=>?_⟩
 .simp only[aE]at w
  rw[aj w]
  exact bh (J.aA _) _ _ rfl
 simp only[ak]at bN
 rw[ae bN]
 refine⟨λw=>?_,λbM=>?_⟩
 .simp only[aE]at w
  rw[aj w]
  have h2:=C.lp.2.1 V
  have A:=ax V
  let⟨ab,bp⟩:=hM.BJ w
  let⟨Y,a9⟩:=bZ ab
  have aS:=az Y
  have bo:=y.cQ.heap.len
  have bm:=ab.1
  have ay:ix (aG f.an (aG v.args 0))=(aG f.an (aG v.args 0) -1000).toNat:=rfl
  have e5:cR (aG f.an (aG v.args 0) -1000)=aG f.an (aG v.args 0) -1000:=aP V V
  obtain⟨f0,_,k1,_⟩:=y.cQ.heap.bU Y
  unfold lS at am
  rw[ae V,ae V,ae V,ae V,ae V,ae V,ae V,ae V,ae V,ae V,aj w]at am
  have bQ:rC (cx z.bn v.bQ) (aI a.heap (aG f.an (aG v.args 0))).kG<(cx z.bn v.bQ).length:=mE ⟨_,bp,aL⟩
  have bT:=hj.len
  have bR:=am.2.2.1
  refine⟨j,y.cQ.box.bU 8,r,ah y,V,V,_,ga y.cQ.cv V,A.1,V,_,gr y A.1 A.2,?_⟩
  rw[e5,<-ay]
  refine⟨V,V,_,k1,d,y.cQ.box.bU 0,(tB (a8.ext y.cQ.cv).bn C.ok.fA.ni.types v.bQ).mono ?_⟩
  rintro _ W ⟨cs,rfl,bP,ai⟩
  let⟨S,B⟩:=y.ext ai
  have N:=B.dL K
  refine⟨N,cs,rfl,U N 5,(sJ bP _).mono ?_⟩
  rintro _ D ⟨ri,rfl,aO,bf⟩
  let⟨G,I⟩:=S.ext aO
  have aX:=I.dL (K.to B)
  have bk:ri=rC (cx z.bn v.bQ) (aI a.heap (aG f.an (aG v.args 0))).kG:=by
   rcases bf with⟨_,aQ⟩|⟨_,he⟩
   .exact absurd bp aQ
   .exact he
  subst bk
  exact⟨aX,_,rfl,U aX 5,V,V,_,(hj.ext G.cQ.cv).pM V V,bh (ai.trans aO) _ _ rfl⟩
 simp only[ak]at bM
 rw[ae bM]
 have bR:0<=a.bC/\a.bC<=100000:=by
  have b_:=C.ok.bC;have cd:=C.ok.bq;omega
 have aX:=C.ok.fA
 refine⟨λw=>?_,λe9=>?_⟩
 .simp only[bV,aE]at w
  rw[aj w]
  unfold lS at am
  rw[ae V,ae V,ae V,ae V,aj w]at am
  let⟨ao,bf,aO,bQ⟩:=am
  have cm:=(aX.dx ao (au aO)).an
  have h3:=(aX.ni.dx ao (au aO)).1
  have co:(cN f v.args).length=v.args.length:=by simp[cN]
  refine b5 λws W iw ai bk=>?_
  let⟨S,B⟩:=y.ext ai
  have N:=B.dL K
  refine⟨N,ws,rfl,U N 0,U N 1,U N 2,U N 3,U N 4,U N 5,U N 2,(FV S a8 bf aO V iw bk V v al aT V bR).mono ?_⟩
  rintro _ D ⟨bA,bP,bj,aQ,L6,I⟩
  exact⟨I.dL (K.to B),bA,bP,bj,aQ,L6,(Z.trans B).trans I⟩
 simp only[bu,ak]at e9
 rw[ae V]
 refine⟨λw=>?_,λbA=>?_⟩
 .simp only[aE]at w
  rw[aj w]
  have h2:=C.lp.2.2.1 V
  have A:=ax V
  have bk:0<=aG v.args 1/\aG v.args 1<f.an.length:=C.arg _ (fq V V)
  let⟨ab,cn,cT,cf,cc,cD⟩:=hM.apply w
  let⟨Y,a9⟩:=bZ ab
  have bQ:=C.ok.heap.cell _ (au Y)
  have cE:=bQ.fl
  have bp:=(bQ.rp a9).2
  have aS:=az Y
  have bo:=y.cQ.heap.len
  have bm:=ab.1
  have ay:ix (aG f.an (aG v.args 0))=(aG f.an (aG v.args 0) -1000).toNat:=rfl
  have e5:cR (aG f.an (aG v.args 0) -1000)=aG f.an (aG v.args 0) -1000:=aP V V
  let⟨f0,k0,k1,k2,kf,kr⟩:=y.cQ.heap.bU Y
  refine⟨r,ah y,V,V,_,ga y.cQ.cv V,A.1,V,_,gr y A.1 A.2,j,y.cQ.box.bU 8,?_⟩
  rw[e5,<-ay]
  generalize hw:aG f.an (aG v.args 0)=F at*
  have gv:∀{g m bx aW j c lo ap t h u own' pc'},ST q g m k bg bx aW j c lo ap b {f with aR:=own',pc:=pc'} r t h u->af m r.D (r.off+Int.toNat (aG v.args 1)*1)=some (vi (aG f.an (aG v.args 1))):=λaa=>gr aa bk.1 bk.2
  generalize hv:aG f.an (aG v.args 1)=X at*
  let⟨ao,hq⟩:=cK z.cC (((aI a.heap F).kG -bH z).toNat)
  have cj:dC z ((aI a.heap F).kG -bH z)=ao:=by simp[dC,hq]
  rw[cj]at cf cc
  have cm:=(aX.dx ao (au hq)).an
  have h3:=(aX.ni.dx ao (au hq)).1
  refine⟨V,V,_,k0,_,k1,f0,k2,?_⟩
  intro W D
  have bj:J H D:=((J.aA H).aH _).ag (ad _) _ _
  have s6:D.size=H.size+1:=by simp[D,W,aw]
  let⟨G,I⟩:=y.ext bj
  clear_value D
  have R:zE g D [H.size,m.size]:=λP hb=>by
   simp at hb;rcases hb with rfl|rfl
   .exact⟨V,y.cQ.new _ (ad _)⟩
   .exact K.to I _ aL
  have bf:∀{M},J D M->af M al.D (al.off+Int.toNat (1:Int)*1)=some (vi (aG v.args 1)):=λhx=>(ha.ext (G.cQ.cv.trans hx)).pM V V
  have ew:cR ((aI a.heap F).kG -bH z)=(aI a.heap F).kG -bH z:=aP V V
  have tail:∀{M:E}{es:O},J D M->gY D M aD 1 es (((aI a.heap F).aN++[X]).map Ce.i)->
   aM cq 113 [vp k 0,vi F,vb false] M λcy Q=>dY [H.size,m.size] M Q/\∃cv:Bool,cy=vb cv/\∃b4:Int,af Q k (0+2)=some (vi b4)/\
    aM cq 112 [vp k 0,vi (cR ((aI a.heap F).kG -b4)),O.v es,xv v al aT] Q λ_ b2=>dY [H.size,m.size] Q b2/\DM q g m k d p (bH z) {a with bC:=a.bC+1,heap:=apart a.heap F,av:=b++[{f with aR:=aR,pc:=f.pc+1},br z ((aI a.heap F).kG -bH z) v.dst ((aI a.heap F).aN++[X])]} b2:=λ{M}{es} hx oe=>by
   let⟨SM,tM⟩:=G.ext hx
   have BM:=R.to tM
   have ie:ar M es ((aI a.heap F).aN++[X]):=ar.gK oe bJ
   have bU:es.D<M.size:=iP ie aL
   have bT:g es.D=0:=by
    rcases oe.D with w|w
    .subst w;have:=ie.len;simp at this
    .exact G.cQ.new _ w
   refine(Du SM ab false C.ok.heap V).mono ?_
   rintro _ m8 ⟨P,rfl,_,cV,cO,S8,t8⟩
   have hK:rZ a.heap F false=apart a.heap F:=by rw[rZ,ae (sx)]
   rw[hK]at S8
   have cr:ar m8 es ((aI a.heap F).aN++[X]):=iO ie λ_=>t8.dQ _ bU (by rw[bT];decide)
   refine⟨t8.dL BM,P,rfl,bH z,S8.cQ.box.bU 2,?_⟩
   rw[ew]
   refine(FV (s:={a with heap:=apart a.heap F}) S8 a8 cn hq V cr (λ_=>by rw[t8.jc _ bU];exact bT) bJ v al aT V bR).mono ?_
   rintro _ m9 ⟨cz,cs,ce,b8,L9,t9⟩
   refine⟨t9.dL (BM.to t8),cz,cs,ce,b8,?_,(((Z.trans I).trans tM).trans t8).trans t9⟩
   rw[ae V]at L9
   exact L9
  refine⟨r,ah G,V,V,_,bf (J.aA _),bk.1,V,X,gv G,?_,?_⟩
  .refine(eL (kf.ext bj) V).mono ?_
   rintro _ m7 ⟨cl,rfl,oc,N⟩
   let⟨S7,t7⟩:=G.ext N
   have B7:=R.to t7
   refine⟨t7.dL R,cl,rfl,N.cr (gv G),N.cr (bf (J.aA _)),aJ (N.same m.size (R _ aL).1) 4,N.cr (ah G),?_⟩
   intro m8
   have S:J m7 m8:=(J.aA m7).aH _
   refine⟨aJ (S.same H.size (B7 _ aL).1) 2,nX oc N V λes m9 o9 aO=>⟨?_,tail aO o9⟩⟩
   intro P hb
   have aQ:=(R P hb).1
   rw[aO.same P aQ,S.same P (oh N.size),N.same P aQ]
  .intro m7
   have N:J D m7:=(J.aA D).aH _
   have s7:m7.size=D.size+1:=by simp[m7]
   have jm:fX m7 D.size 0 [.i X]:=(cw.push D _ _).iF
   have b9:cw m7 D.size aD [.i X]:=cw.push D _ _
   clear_value m7
   let⟨S7,t7⟩:=G.ext N
   have B7:=R.to t7
   refine⟨aJ (N.same H.size (R _ aL).1) 2,(eL (kf.ext (bj.trans N)) V).mono ?_⟩
   rintro _ m8 ⟨cl,rfl,oc,S⟩
   let⟨S8,t8⟩:=S7.ext S
   have cC:cl.len=(aI a.heap F).aN.length:=by have:=oc.len;simp at this;omega
   refine⟨t8.dL B7,cl,rfl,S.cr (gv S7),S.cr (bf N),aJ (S.same m.size (B7 _ aL).1) 4,S.cr (ah S7),?_⟩
   have bP:=N.trans S
   refine gY.append (c:=[.i 0]) (x:=.mk D.size 0 1 1) (h:=[.i X]) (oc.cv V) bP rfl (b9.ext S).iF (by simp only[O.iS];omega) λes m9 o9 aO _ _ _ _=>⟨?_,tail aO (by simpa using o9)⟩
   intro P hb
   have aQ:=(R P hb).1
   rw[aO.same P aQ,bP.same P aQ]
 simp only[ak]at bA
 rw[ae bA]
 refine⟨λw=>?_,λI=>?_⟩
 .simp only[aE]at w
  have h2:=C.lp.2.1 V
  have A:=ax V
  refine⟨r,ah y,V,V,_,ga y.cQ.cv V,A.1,V,_,gr y A.1 A.2,(HJ y V (aG f.an (aG v.args 0)) (λaN hg=>?_)).mono ?_⟩
  .have ac:b≠[]:=λw=>by rw[w]at hg;simp at hg
   have D:b=b.dropLast++[aN]:=by
    rw[fg ac]at hg;simp at hg;rw[<-hg];exact(eD ac).symm
   have N:b.length=b.dropLast.length+1:=by
    have:=rV List.length D;simpa using this
   let⟨R,S,Y⟩:=C.ok.chain b.dropLast.length aN f (by rw[C.fr,D];simp) (by rw[C.fr,<-N];simp)
   have G:=C.ok.av aN (by rw[C.fr,D];simp)
   have:=G.lr
   have:=G.lo
   exact⟨R,by show f.dst<_;omega,by show f.dst<_;omega⟩
  rintro _ W ⟨aF,aV,aA,aK,L5,B⟩
  exact⟨B.dL K,aF,aV,aA,aK,L5,Z.trans B⟩
 simp only[ak]at I
 have:=C.ZN
 omega
end
end
section
variable{a:cg}
section
variable{g:E}{f:Nat->Nat}{m:E}{c:Nat}{d p aW e b:O}{s:St}
def Ge(L:qA g f m c bg (IB d p (bH a) s aW e b) aW e b s.aW s.heap s.av)(z:eW g d p a)(u:db a s)(au:∀t∈s.av,∀w∈t.an,w<=9223372036854775807)(ay:s.heap.length<=900000000)(aD:s.aW.length<=900000000):
 aM cq 33 [vp c 0] m λ_ I=>DM g f m c d p (bH a) (mh a s) I:=by
 apply wm (c,0)
 simp -zeta only[aC,aB]
 refine⟨s.bI,L.box.bU 3,λy=>?_,λy=>?_⟩
 .simp at y
  rw[th y]
  exact⟨f,aW,e,b,L,dz.aA _ L.new⟩
 have G:s.bI=3:=by simpa using y
 let⟨k,h,r⟩:=u.split G
 have az:s.av.getLast?=some h:=by rw[r];simp
 have ar:s.av.dropLast=k:=by rw[r];simp
 have C:yI a s k h (dt a h):=⟨u,G,r,rfl,au⟩
 have aH:mh a s=(open Classical in if na (dt a h).op/\s.bC=s.bq then{s with bI:=1}else if kA a s h (dt a h) (bB h.an h.aR (bW a (dt a h)))then eJ a s k h (dt a h) (bB h.an h.aR (bW a (dt a h)))else{s with bI:=2}):=by
  unfold mh;rw[ae (by simpa using G),az,ar]
 rw[aH]
 generalize dt a h=x at*
 have N:qA g f m c bg (IB d p (bH a) s aW e b) aW e b s.aW s.heap (k++[h]):=by rw[<-r];exact L
 let⟨ak,ai,W,al,T⟩:=N.av.fZ
 have S:ST g f m c bg (IB d p (bH a) s aW e b) aW e b s.aW s.heap k h ak ai W al:=⟨N,T⟩
 have aO:=T.vX
 have ab:=u.depth
 have aN:=u.bC
 have aS:=u.bq
 rw[r]at ab
 have aQ:k.length<=1000:=by simp at ab;omega
 have e1:cR ((b.len:Int) -1)=(k.length:Int):=by rw[aP V V];omega
 have e2:Int.toNat (k.length:Int)=k.length:=V
 have U:af m c 9=some (O.v b):=S.cQ.box.bU 9
 obtain⟨R,g1,_,_,_,_⟩:=T.iF
 let⟨aY,hq,aF,hP,ap,hI⟩:=C.I
 let⟨pa,pl,pc,aT,aV,ah,k0,k1,k2,k3,k4⟩:=z.cC.aG hq
 let⟨F,H,Y,hj,i0,i1,i2,i3,i4,i5⟩:=ah.aG ap
 have aX:=z.cC.len
 have aU:=ah.len
 have X:=C.F
 have aE:=X.eg
 have ac:=X.pc
 rw[aF]at ac
 have l:=S.cQ.cv
 refine⟨b,U,b,U,?_⟩
 rw[e1,e2]
 refine⟨V,V,p,S.cQ.box.bU 1,_,R,aE.1,V,pc,l.af k4,_,g1,ac.1,V,_,l.af i0,_,l.af i1,_,l.af i2,_,l.af i3,F,l.af i4,H,l.af i5,?_⟩
 intro m1
 have o:J m m1:=(J.aA m).aH _
 refine⟨o.cr (l.af i0),o.cr (l.af i1),o.cr (l.af i2),o.cr (l.af i3),o.cr (l.af i4),o.cr (l.af i5),o.cr g1,o.cr (l.af k4),o.cr R,o.cr (S.cQ.box.bU 1),?_⟩
 intro n
 have aI:J m n:=o.ag (ad _) _ _
 have s2:n.size=m.size+1:=by simp[n,m1,aw]
 let⟨j,t2⟩:=S.ext aI
 have A:zE f n [m.size]:=λP l=>by simp at l;subst l;exact⟨V,S.cQ.new _ (ad _)⟩
 clear_value n
 have aR:=C.Lm
 have aG:({s with av:=k++[h]}:St)=s:=by rw[<-r]
 have ax:lR n b (k++[h]):=j.cQ.av.Gp bJ (λt w=>by
  have q:=u.av t (by rw[r];exact w);obtain⟨Q,_,B,v,_⟩:=q.Jg u.fA;have D:=q.lr;have K:=q.lo;have M:=q.lh;rw[B]at D K M;have:=v.an;omega)
 have an:RV n c 3 d p aW e b a s:=by
  have:RV n c 3 d p aW e b a {s with av:=k++[h]}:=⟨z.ext j.cQ.cv,j.cQ.box.bU 0,j.cQ.box.bU 1,j.cQ.box.bU 3,j.cQ.box.bU 4,j.cQ.box.bU 5,j.cQ.box.bU 6,j.cQ.box.bU 7,j.cQ.box.bU 8,j.cQ.box.bU 9,j.cQ.aW.nT V,j.cQ.heap.cells V,ax⟩;rw[aG]at this;exact this
 have F2:FP n b.D (b.off+k.length*6) h ak ai W:=j.fp ⟨V,V,V⟩
 have kd:¬(na x.op/\s.bC=s.bq)->aM cq 59 [vp c 0,vp b.D (b.off+k.length*6),xv x F H] n λaJ v=>
  dY [m.size] n v/\∃K:Bool,aJ=vb K/\
  ((!K)=true->eC v c (0+3) 1/\let q:E:=ag v c (0+3) [.i (2:Int)]
   dY [m.size] v q/\DM g f m c d p (bH a) (open Classical in if na x.op/\s.bC=s.bq then{s with bI:=1}else if kA a s h x (bB h.an h.aR (bW a x))then eJ a s k h x (bB h.an h.aR (bW a x))else{s with bI:=2}) q)/\
  ((!K)=false->aM cq 60 [vp c 0,vp b.D (b.off+k.length*6),xv x F H] v λt q=>
   dY [m.size] v q/\DM g f m c d p (bH a) (open Classical in if na x.op/\s.bC=s.bq then{s with bI:=1}else if kA a s h x (bB h.an h.aR (bW a x))then eJ a s k h x (bB h.an h.aR (bW a x))else{s with bI:=2}) q):=λaA=>by
  refine(P5 an (j.cQ.box.bU 2) C F2 (Y.ext j.cQ.cv) V).mono ?_
  rintro _ m3 ⟨P,rfl,Z,am⟩
  let⟨B,t3⟩:=j.ext am
  have M:=A.to t3
  rw[ae aA]
  refine⟨t3.dL A,P,rfl,λq=>?_,λq=>?_⟩
  .rw[ae (nb Z q)]
   refine⟨B.cQ.mD (i:=3) aL,?_⟩
   intro m4
   let⟨D,t⟩:=B.jw 3 [.i 2]
   refine⟨t.dL M,f,aW,e,b,?_,(t2.trans t3).trans t⟩
   have:=D.cQ
   rw[<-r]at this
   exact this
  .have w:=yb Z q
   rw[aj w]
   refine(Rg C rfl w B z Y hj ay aD).mono ?_
   rintro _ m4 ⟨aK,aq,ao,aa,Q,t⟩
   exact⟨t.dL M,aK,aq,ao,aa,Q,(t2.trans t3).trans t⟩
 refine⟨λQ I=>I=n/\(Q=true<->na x.op),⟨λq=>⟨rfl,by simp at q;simp[na,q]⟩,λq=>⟨λw=>⟨rfl,by simp at w;simp[na,w]⟩,λw=>⟨rfl,by simp at q w;simp[na,q,w]⟩⟩⟩,?_⟩
 rintro Q m3 ⟨rfl,aa⟩
 refine⟨λaq=>⟨s.bC,j.cQ.box.bU 5,s.bq,j.cQ.box.bU 6,λw=>?_,λw=>?_⟩,λao=>?_⟩
 .simp at w
  refine⟨j.cQ.mD (i:=3) aL,?_⟩
  intro m4
  let⟨D,t⟩:=j.jw 3 [.i 1]
  refine⟨t.dL A,f,aW,e,b,?_,t2.trans t⟩
  rw[aj ⟨aa.1 aq,w⟩]
  have:=D.cQ
  rw[<-r]at this
  exact this
 .simp at w
  exact kd λt=>w t.2
 .exact kd λt=>by have:=aa.2 t.1;rw[ao]at this;simp at this
end
def lV{m:E}{p w:O}(B:eW m p w a)(t:iE a)(bq:Int):
 aM cq 48 [.agg #[O.v p,O.v w],vi bq] m λF e=>∃r,F=.agg #[vi 3,vi 0,vi 0,vi bq,O.v .nil,O.v .nil,O.v r]/\J m e/\∃b1 b2 b3 b4 k,r=.mk b4 0 1 1/\
  pE m e b1 b2 b3 k (br a 0 0 []).an (br a 0 0 []).aR (br a 0 0 []).aY/\(b4≠b1/\b4≠b2/\b4≠b3/\m.size<=b4/\b4<e.size)/\cw e b4 cL [.i 0,.i 0,.i 0,.s (.mk b1 0 k k),.s (.mk b2 0 k k),.s (.mk b3 0 k k)]:=by
 apply yU
 simp -zeta only[aC,aB]
 intro f g
 have u:J m g:=((J.aA m).aH _).aH _
 have D:f.size=m.size+1:=by simp[f]
 have L:g.size=m.size+2:=by simp[g,D]
 clear_value g
 have G:=t.ni.len
 let⟨q,l⟩:=cK a.cC 0
 have I:=(t.dx q (au l)).an
 have n:dC a 0=q:=by simp[dC,l]
 refine(wq (B.ext u) (cY 0) l V 0).mono ?_
 rintro _ b ⟨b1,b2,b3,rfl,N⟩
 have j:=N.ext
 have H:=N.lo
 have K:=j.size
 refine⟨j.dv bJ,_,_,_,_,_,_,rfl,?_⟩
 intro c o
 have s:J b c:=(J.aA b).aH _
 have M:c.size=b.size+1:=by simp[c]
 have P:o.size=c.size:=aw _ _ _ _
 have C:cw c b.size cL [.i 0,.i 0,.i 0,.s (.mk b1 0 q.an.toNat q.an.toNat),.s (.mk b2 0 q.an.toNat q.an.toNat),.s (.mk b3 0 q.an.toNat q.an.toNat)]:=cw.push b _ _
 have i:=N.PV s
 have v:J m o:=(u.trans (j.trans s)).ag (show m.size<=f.size by omega) _ _
 have h:∀d,d≠f.size->o[d]? =c[d]? :=λd A=>bo _ _ _ _ A
 have z:(br a 0 0 []).an=df q.an.toNat:=by simp[br,n]
 have y:(br a 0 0 []).aR=df q.an.toNat:=by simp[br,n,dI]
 have x:(br a 0 0 []).aY=df q.an.toNat:=by simp[br,n]
 refine⟨_,rfl,v,b1,b2,b3,b.size,q.an.toNat,rfl,?_,V,C.congr (h _ V)⟩
 rw[z,y,x]
 exact⟨v,V,i.kr.congr (h _ V),i.ko.congr (h _ V),i.kh.congr (h _ V),N.len⟩
def NZ{m d:E}{l:Nat}{MG:List Ce}{e:O}{bq:Int}{b1 b2 b3 b4 k b:Nat}(w:e=.mk b4 0 1 1)
 (N:pE m d b1 b2 b3 k (br a 0 0 []).an (br a 0 0 []).aR (br a 0 0 []).aY)(z:b4≠b1/\b4≠b2/\b4≠b3/\m.size<=b4/\b4<d.size)(y:cw d b4 cL [.i 0,.i 0,.i 0,.s (.mk b1 0 k k),.s (.mk b2 0 k k),.s (.mk b3 0 k k)])
 (B:m.size<=b/\b≠b1/\b≠b2/\b≠b3/\b≠b4)(kb:cw d b l (MG++[.i 3,.i 0,.i 0,.i bq,.s .nil,.s .nil,.s e])):
 qA m (pu (pu (mJ (λ_=>0) b1 b2 b3 0) b4 4) b 1) d b l (MG++[.i 3,.i 0,.i 0,.i bq,.s .nil,.s .nil,.s e]) .nil .nil e [] [] [br a 0 0 []]:=by
 have A:=N.lo
 have x:J m d:=N.ext
 have C:=kb.lt
 have D:=N.ext.size
 have j:∀c,c≠b->c≠b4->(pu (pu (mJ (λ_=>0) b1 b2 b3 0) b4 4) b 1) c=mJ (λ_=>0) b1 b2 b3 0 c:=λc g i=>by rw[ez g,ez i]
 let⟨u,a2,a3⟩:=N.pB (a:=λ_=>0) (g:=0)
 have conv:∀{p:Nat}{s:O}{q:List Ce},iA (mJ (λ_=>0) b1 b2 b3 0) d aD 1 p s q->s.D≠b->s.D≠b4->iA (pu (pu (mJ (λ_=>0) b1 b2 b3 0) b4 4) b 1) d aD 1 p s q:=λt g i=>t.dQ (λ_=>rfl) (λ_=>j _ g i)
 refine⟨x,λc v=>?_,λc v=>?_,kb,fQ _ _ _,⟨aL,aL,Or.inl rfl⟩,⟨[],⟨aL,aL,Or.inl rfl⟩,gE.nil _ _,Xu.nil⟩,?_⟩
 .rw[j c V V];unfold mJ;rw[ez V,ez V,ez V]
 .rw[j c V V];unfold mJ;rw[ez V,ez V,ez V]
 .refine tm.uN (a:=[]) (f:=br a 0 0 []) (r:=.mk b1 0 k k) (e:=.mk b2 0 k k) (h:=.mk b3 0 k k) (j:=[]) ⟨?_,rfl,aL,aL,conv u (by simp only[O.jB];omega) (by simp only[O.jB];omega),conv a2 (by simp only[O.jB];omega) (by simp only[O.jB];omega),conv a3 (by simp only[O.jB];omega) (by simp only[O.jB];omega)⟩
  rw[w]
  refine⟨rfl,ad _,Or.inr ⟨b4,1,[],rfl,?_,?_,rfl⟩⟩
  .rw[ez V,fQ]
  .rw[dO];exact y
def IV(a:cg):∀(c b:Nat)(s:St),ap a (c+b) s=ap a b (ap a c s)
 |0,b,s=>by simp[ap]
 |c+1,b,s=>by rw[Nat.succ_add];simp only[ap];exact IV a c b _
end
end Go.Proofs.YtkoifinbblcbiaaGreat
section
namespace Go.Vc
def vZ{m:E}{b o:Nat}{v:Value}(h:(af m b o).isSome=true):af (rH m b o v) b o=some v:=by
 unfold af at h⊢;simp only[rH,lK,MI];cases d:m[b]? with
 |none=>rw[d]at h;simp at h
 |some f=>
  rw[d]at h;cases f with
  |cells c g i=>
   simp only[]at h;have e:o<c.size:=by
    rcases aZ o c.size with a|a
    .exact a
    .rw[I7 a]at h;simp at h
   simp[e]
  |_=>simp at h
def La{m:E}{c o a b:Nat}{v:Value}(h:a≠c\/b≠o):af (rH m c o v) a b=af m a b:=by
 by_cases d:a=c
 .subst d;have e:b≠o:=by rcases h with h|h;exact absurd rfl h;exact h
  unfold af;simp only[rH,lK,MI];cases d:m[a]? with
  |none=>rfl
  |some f=>
   cases f with
   |cells g i j=>simp[kH e]
   |_=>rfl
 .exact aJ (LU _ _ _ _ d) _
def Q5(m:E)(c o:Nat)(v:Value)(a d:Nat):vY (rH m c o v) a d=vY m a d:=by
 by_cases b:a=c
 .subst b;unfold vY;simp only[rH,lK,MI];cases b:m[a]? with
  |none=>rfl
  |some e=>
   cases e with
   |cells f g h=>rfl
   |_=>rfl
 .unfold vY;rw[LU _ _ _ _ b]
structure UR(m:E)(k:Int)(pos:List (Nat×Nat))(m':E):Prop where
 size:m.size<=m'.size
 D:∀b,b<m.size->(∀p∈pos,p.1≠b)->m'[b]? =m[b]?
 cell:∀b o,b<m.size->(b,o)∉pos->af m' b o=af m b o
 vY:∀b o,b<m.size->Vc.vY m' b o=Vc.vY m b o
 int:∀p∈pos,∃n,af m' p.1 p.2=some (vi n)
 val:pos.Nodup->∀(j:Nat)(p:Nat×Nat),pos[j]? =some p->af m' p.1 p.2=some (vi (k+j))
def UR.nil{m c:E}(h:J m c)(k:Int):UR m k [] c:=
 ⟨h.size,λb a _=>h.same b a,λb o a _=>aJ (h.same b a) o,λb o a=>by unfold Vc.vY;rw[h.same b a],aL,aL⟩
def UR.kX{m:E}{b o:Nat}(h:(af m b o).isSome=true)(k:Int):UR m k [(b,o)] (ag m b o [.i k]):=by
 refine⟨uh (aw _ _ _ _).symm,λc f d=>bo _ _ _ _ λe=>d (b,o) aL e.symm,λc q f d=>?_,λc q f=>Q5 _ _ _ _ _ _,λp a=>?_,λ_ j p a=>?_⟩
 .refine La ?_;by_cases e:c=b
  .right;intro g;subst e;subst g;simp at d
  .exact Or.inl e
 .simp at a;subst a;exact⟨k,vZ h⟩
 .cases j with
  |zero=>
   simp at a;subst a;have e:k+((0:Nat):Int)=k:=V;rw[e];exact vZ h
  |succ j=>simp at a
def UR.trans{m l n:E}{k:Int}{e p2:List (Nat×Nat)}(h:UR m k e l)(g:UR l (k+e.length) p2 n):UR m k (e++p2) n:=by
 have v:=h.size;refine⟨bX h.size g.size,λc f b=>?_,λc o f b=>?_,λc o f=>?_,λp a=>?_,λhd j p a=>?_⟩
 .rw[g.D c V λp a=>b p (fK _ a),h.D c f λp a=>b p (bL _ a)]
 .rw[g.cell c o V λa=>b (fK _ a),h.cell c o f λa=>b (bL _ a)]
 .rw[g.vY c o V,h.vY c o f]
 .by_cases i:p∈p2
  .exact g.int p i
  .have d:p∈e:=by rcases List.mem_append.1 a with d|d;exact d;exact absurd d i
   let⟨q,b⟩:=h.int p d;exact⟨q,by rw[g.cell p.1 p.2 (mW b) i];exact b⟩
 .let⟨i,r,s⟩:=List.nodup_append.1 hd;by_cases u:j<e.length
  .rw[ax u]at a;have d:p∈e:=ij a;let⟨q,b⟩:=h.int p d;rw[g.cell p.1 p.2 (mW b) λt=>s p d p t rfl];exact h.val i j p a
  .rw[aF V]at a;have:=g.val r _ p a;have d:k+(e.length:Int)+((j -e.length:Nat):Int)=k+j:=V;rw[d]at this;exact this
inductive US where
 |nil
 |int (r:US)
 |sl (e r:US)
def US.size:US->Nat
 | .nil=>0
 | .int r=>r.size+1
 | .sl _ r=>r.size+1
inductive Tz where
 |iF (r:US)
 |Ic (e:US) (n:Nat)
inductive vV(m:E):Tz->Nat->Nat->List (Nat×Nat)->Prop where
 |nil (b o:Nat):vV m (.iF .nil) b o []
 |int {b o:Nat} {r:US} {p:List (Nat×Nat)} {n:Int} (h:af m b o=some (vi n)) (hf:Vc.vY m b o=false) (hr:vV m (.iF r) b (o+1) p):vV m (.iF (.int r)) b o ((b,o)::p)
 |sl {b o:Nat} {e r:US} {p1 p2:List (Nat×Nat)} {s:O} (h:af m b o=some (O.v s)) (hl:s.len<=9223372036854775807) (he:vV m (.Ic e s.len) s.D s.off p1) (hr:vV m (.iF r) b (o+1) p2):vV m (.iF (.sl e r)) b o (p1++p2)
 |zero (e:US) (b o:Nat):vV m (.Ic e 0) b o []
 |succ {b o n:Nat} {e:US} {p1 p2:List (Nat×Nat)} (he:vV m (.iF e) b o p1) (hr:vV m (.Ic e n) b (o+e.size) p2):vV m (.Ic e (n+1)) b o (p1++p2)
def vV.nT{m:E}{K:Tz}{f o:Nat}{e:List (Nat×Nat)}(h:vV m K f o e):∀p∈e,∃n,af m p.1 p.2=some (vi n):=by
 induction h with
 |nil=>simp
 |int h c d b=>
  intro p a;rcases List.mem_cons.1 a with rfl|a
  .exact⟨_,h⟩
  .exact b p a
 |sl h i g d b c=>
  intro p a;rcases List.mem_append.1 a with a|a
  .exact b p a
  .exact c p a
 |zero=>simp
 |succ g d b c=>
  intro p a;rcases List.mem_append.1 a with a|a
  .exact b p a
  .exact c p a
def vV.lt{m:E}{K:Tz}{b o:Nat}{a:List (Nat×Nat)}(h:vV m K b o a):∀p∈a,p.1<m.size:=λp d=>let⟨_,c⟩:=h.nT p d;mW c
def UJ(n:Int)(s:O):vi n≠O.v s:=by cases s<;>simp[vi,O.v]
def vV.Vt{m j:E}{u:Int}{q:List (Nat×Nat)}(g:UR m u q j)(t:∀p∈q,∃n,af m p.1 p.2=some (vi n)){K:Tz}{b o:Nat}{k:List (Nat×Nat)}(h:vV m K b o k):vV j K b o k:=by
 induction h with
 |nil=>exact .nil _ _
 | @int b o v p n h d i e=>
  have a:=mW h;by_cases c:(b,o)∈q
  .let⟨l,f⟩:=g.int _ c;exact .int f (by rw[g.vY b o a];exact d) e
  .exact .int (by rw[g.cell b o a c];exact h) (by rw[g.vY b o a];exact d) e
 | @sl b o w v x p2 l h r p i d e=>
  have a:=mW h;refine .sl (s:=l) ?_ r d e;rw[g.cell b o a λc=>?_]
  .exact h
  .let⟨n,f⟩:=t _ c;rw[h]at f;exact UJ n l (mq f).symm
 |zero=>exact .zero _ _ _
 |succ p i d e=>exact .succ d e
def vV.ext{m a:E}(d:J m a){K:Tz}{b o:Nat}{c:List (Nat×Nat)}(h:vV m K b o c):vV a K b o c:=h.Vt (UR.nil d 0) aL
end Go.Vc
namespace Go.Proofs.YtkoifinbblcbiaaGreat
open Go.Vc
end Go.Proofs.YtkoifinbblcbiaaGreat
end
namespace Go.Proofs.YtkoifinbblcbiaaGreat
open Go.Vc
section
section
variable{m:E}{s t:O}{l r:List Int}
end
section
variable{m:E}{b P:Nat}{c:O}{a:List Nat}
def Kh(d:Rd b c P m)(i:P+2<=10^16):aM cq 82 [vp b 0] m λv f=>(∃k,v=vi k)/\Fz [b] m f:=by
 apply De (b,0);refine(cD d V 12).mono λ_ j⟨k,e,_,_,g,a⟩=>⟨k,e,?_⟩;intro l;refine(Dx (Rs.mk a g) V [40,40,k,0,3,20,40,41,-1] rfl rfl aL).mono λ_ n⟨t,e,_,h,_⟩=>⟨t,e,⟨t,rfl⟩,h.f⟩
def Fu.ext{a:E}{cX:O}(h:Fu m cX)(x:J m a):Fu a cX:=⟨h.1,λk d=>let⟨v,b,c,g⟩:=h.2 k d;⟨v,b,c,x.af g⟩⟩
def DR(a:List Nat)(m:E)(v:Value)(b:E):Prop:=∃d p c k,v=.tuple #[.agg #[O.v d,O.v p],vi k]/\eW (bP a b) d p c/\J m b
def yZ{cX:O}(h:Fu m cX)(D:∀k∈a,k<m.size):aM cq 47 [O.v cX] m (DR a m):=by
 apply uw;simp -zeta only[aC,aB];intro b;have n:J m b:=J.push m _;have N:b.size=m.size+1:=by simp[b]
 clear_value b;refine(IA (h.ext n)).mono λ_ M⟨c,e,y,o⟩=>⟨o.dv bJ,(b.size,0),e,?_⟩;have L:=y.lt;have P:=o.size;refine(JP (a:=m.size::b.size::a) (λk t=>?_) aL y (by simp[Cg])).mono λ_ i⟨q,x,A,e,z,_,I,l⟩=>⟨l.dv bJ,q,x,e,?_⟩
 .simp only[aS]at t;rcases t with h|h|h
  .omega
  .omega
  .have:=D k h;omega
 have Q:=l.size;intro F j;have p:J i j:=(J.push i _).ag (ad _) _ _;have R:j.size=i.size+1:=by simp[j,F,aw]
 clear_value j;refine(Kh (I.ext p) (by simp[Cg])).mono λ_ w⟨⟨u,e⟩,d⟩=>⟨d.dv bJ,u,e,aJ (d.same _ V bJ) _,aJ (d.same _ V bJ) _,?_⟩;intro G;have v:Le (bP (m.size::b.size::a) i) (bP a G):=λf H K E=>by
  let⟨g,C⟩:=eF.1 E;have:=d.dg (S:=m.size::b.size::a) aL f H K (eF.2 ⟨g,p.af C⟩);simp only[aS,ui]at g;exact eF.2 ⟨g.2.2,(aJ (bo _ _ _ _ g.1) _).trans (eF.1 this).2⟩
 have r:Fz [b.size] b w:=(((o.fz _).trans l).trans (p.fz _)).trans d;have B:J m w:=⟨by have:=r.size;omega,λf s=>(r.same f (n.lt s) bJ).trans (n.same f s)⟩;exact⟨q,x,⟨A.1,A.2⟩,u,rfl,⟨z.1.le v,jz.le v z.2⟩,B.ag (ad _) _ _⟩
end
end
section
variable{n b:Nat}{f:Nat->Int}{d:List aU}{e:cg}{s:St}
def yF(n:Nat)(f:Nat->Int):List Int:=(List.range n).map f
def rl(n:Nat)(f:Nat->Int):(yF n f).length=n:=by simp[yF]
def Hf(h:b<n):(yF n f)[b]? =some (f b):=by
 unfold yF;rw[cU,List.getElem?_range h];rfl
def jK{g:Nat->Int}(h:∀b,b<n->f b=g b):yF n f=yF n g:=by
 unfold yF;exact List.map_congr_left λb a=>h b (List.mem_range.1 a)
def Ss(v:Int):(yF n f).set b v=yF n (λa=>if a=b then v else f a):=by
 apply iL;intro i;by_cases a:i<n
 .rw[Hf a];by_cases e:b=i
  .subst e;rw[dK (by rw[rl];exact a),aj rfl]
  .rw[cz e,Hf a,ae (λh=>e h.symm)]
 .rw[da (by rw[eE,rl];omega),da (by rw[rl];omega)]
def Td(n:Nat):yF n (λ_=>0)=df n:=by
 unfold yF df;rw[List.map_const'];simp
structure KD(h:List bO):Prop where
 jL:pK h
 cells:∀c∈h,xh h c
 fH:∀(b:Nat)(c:bO),h[b]? =some c->0<c.aQ->fH h b<=c.aQ
 Oo:Xi h
structure TF(h:List bO)(f:aU):Prop where
 dx:∀(k:Nat)(w o:Int),f.an[k]? =some w->f.aR[k]? =some o->(iJ w\/1000<=w)/\(0<=o/\o<=999999)/\(0<o->gC h w)
structure Tt(e:cg)(h:List bO)(prev:Option aU)(f:aU):Prop where
 eg:0<=f.eg/\f.eg<e.cC.length
 pc:0<=f.pc/\f.pc<(dC e f.eg).cX.length
 lr:(f.an.length:Int)=(dC e f.eg).an
 lo:(f.aR.length:Int)=(dC e f.eg).an
 lh:(f.aY.length:Int)=(dC e f.eg).an
 an:TF h f
 first:prev=none->f.dst=0
 next:∀p,prev=some p->0<=f.dst/\f.dst<p.aR.length/\aG p.aR f.dst=0
def Ao(d:List aU):Nat->Option aU
 |0=>none
 |k+1=>d[k]?
structure Xp(h:List bO)(d:List aU):Prop where
 cN:∀f∈d,∀w∈f.aY,w=0\/(1000<=w/\ix w<h.length)
 lD:∀(i:Nat)(c:bO),h[i]? =some c->c.aQ<0->eS d i=1
 nL:∀(i:Nat)(c:bO),h[i]? =some c->0<=c.aQ->eS d i=0
structure Px(e:cg)(s:St):Prop where
 fA:iE e
 bI:0<=s.bI/\s.bI<=3
 done:s.bI=0<->s.av=[]
 value:iJ s.value
 vL:s.value≠0->s.bI=0
 bq:0<=s.bq/\s.bq<=40
 bC:0<=s.bC/\s.bC<=s.bq
 depth:(s.av.length:Int)<=s.bC+1
 aW:∀n∈s.aW,iJ n
 heap:KD s.heap
 av:∀(k:Nat)(f:aU),s.av[k]? =some f->Tt e s.heap (Ao s.av k) f
 aY:Xp s.heap s.av
 Uc:∀(b:Nat)(c:bO),s.heap[b]? =some c->0<c.aQ->c.aQ=fH s.heap b+gU s.av b
def Qe:∀{d:List aU}{b:Nat},0<gU d b->∃f∈d,0<dq f.an f.aR b
 |[],b,h=>by simp[gU]at h
 |f::d,b,h=>by
  simp only[gU]at h;by_cases c:0<dq f.an f.aR b
  .exact⟨f,aL,c⟩
  .let⟨g,e,i⟩:=Qe (d:=d) (b:=b) V;exact⟨g,by simp[e],i⟩
def NO:∀{an aR:List Int}{b:Nat},0<dq an aR b->∃(k:Nat)(o:Int),an[k]? =some (1000+(b:Int))/\aR[k]? =some o/\0<o
 |[],aR,b,h=>by simp[dq]at h
 |_::_,[],b,h=>by simp[dq]at h
 |r::i,o::g,b,h=>by
  simp only[dq]at h;by_cases a:r=1000+(b:Int)/\0<o
  .exact⟨0,o,by simp[a.1],rfl,a.2⟩
  .have:0<dq i g b:=by
    split at h
    .rename_i e;have:¬0<o:=λc=>a ⟨e,c⟩;omega
    .omega
   let⟨k,f,c,d,e⟩:=NO this;exact⟨k+1,f,by simpa using c,by simpa using d,e⟩
def Vy{f:aU}(a:f∈d)(c:∀g∈d,0<=dq g.an g.aR b):dq f.an f.aR b<=gU d b:=by
 induction d with
 |nil=>simp at a
 |cons g d i=>
  have m:0<=gU d b:=by
   clear i a;induction d with
   |nil=>simp[gU]
   |cons q d j=>
    have k:=c q aL;have l:=j (λx e=>c x (by simp at e⊢;rcases e with h|h;exact Or.inl h;exact Or.inr (Or.inr h)));simp only[gU];omega
  simp only[gU];rcases List.mem_cons.1 a with rfl|a
  .omega
  .have:=i a λx e=>c x (by simp[e]);have:=c g aL;omega
def Uq(a:∀g∈d,0<=dq g.an g.aR b):0<=gU d b:=by
 induction d with
 |nil=>simp[gU]
 |cons q d e=>
  have f:=a q aL;have g:=e λx c=>a x (by simp[c]);simp only[gU];omega
def P3{f:aU}(a:f∈d):eQ f.aY b<=eS d b:=by
 induction d with
 |nil=>simp at a
 |cons g d c=>
  simp only[eS];rcases List.mem_cons.1 a with rfl|a
  .have:=zX d b;omega
  .have:=c a;have:=iU g.aY b;omega
def Lg(h:∀f∈d,∀w∈f.aY,w≠1000+(b:Int)):eS d b=0:=by
 induction d with
 |nil=>rfl
 |cons g d e=>
  simp only[eS];rw[e λf a=>h f (by simp[a]),nW λc=>h g aL _ c rfl];rfl
def HQ{f:aU}(h:f∈d):∃k:Nat,d[k]? =some f:=List.mem_iff_getElem?.1 h
def RD(h:Px e s):db e s:=by
 have r:∀f∈s.av,∃p,Tt e s.heap p f:=λf c=>let⟨k,g⟩:=HQ c;⟨_,h.av k f g⟩;have z:∀b,∀j∈s.av,0<=dq j.an j.aR b:=λb j t=>by
  let⟨p,a⟩:=r j t;refine tJ (λo l=>?_) b;let⟨k,g⟩:=List.mem_iff_getElem?.1 l;have u:=az g;have d:=a.lr;have q:=a.lo;let⟨w,i⟩:=cK j.an k;exact(a.an.dx k w o i g).2.1.1
 refine⟨h.fA,h.bI,h.done,h.value,h.vL,h.bq,h.bC,h.depth,h.aW,⟨h.heap.cells,h.heap.Oo,h.Uc,λb=>Uq (z b),λb y=>?_⟩,h.heap.jL,λf c=>?_,λf c=>(h.av 0 f c).first rfl,λk f j c t=>(h.av (k+1) j t).next f c,λb⟨m,n,v⟩=>h.aY.lD b m n v,λb g=>?_⟩
 .let⟨f,c,a⟩:=Qe y;let⟨k,o,d,q,x⟩:=NO a;let⟨p,a⟩:=r f c;have:=((a.an.dx k _ o d q).2.2 x).2;rwa[ng]at this
 .let⟨p,a⟩:=r f c;refine⟨a.eg,a.pc,a.lr,a.lo,a.lh,λw i=>?_,λk o w l i=>?_,λw i=>?_⟩
  .let⟨k,g⟩:=List.mem_iff_getElem?.1 i;have u:=az g;have d:=a.lr;have q:=a.lo;let⟨o,l⟩:=cK f.aR k;exact(a.an.dx k w o g l).1
  .have:=a.an.dx k w o i l;exact⟨this.2.1.1,λx=>(this.2.2 x).1⟩
  .rcases h.aY.cN f c w i with d|d
   .exact Or.inl d
   .exact Or.inr d.1
 .rcases aZ b s.heap.length with u|A
  .let⟨m,n⟩:=dZ u;refine h.aY.nL b m n (Int.not_lt.1 λv=>g ⟨m,n,v⟩)
  .refine Lg λf c w i x=>?_;rcases h.aY.cN f c w i with d|d
   .omega
   .have:=d.2;rw[x,ng]at this;omega
def QV(h:db e s):Px e s:=by
 have E:∀b,∀p∈s.av,0<=dq p.an p.aR b:=λb p D=>tJ (h.av p D).Qd b;have y:∀f∈s.av,∀(k:Nat)(w o:Int),f.an[k]? =some w->f.aR[k]? =some o->0<o->gC s.heap w/\o<=999999:=λf g k w o i n q=>by
  have m:=((h.av f g).aR k o w n i).2 q;have A:=iV m;have B:=LA (h.av f g).Qd i n (d:=ix w) A.symm;have C:=Vy g (E (ix w));have x:=h.heap.lv (ix w) V;let⟨j,d,c⟩:=x;have I:=h.heap.ex _ j d c;have J:=uV s.heap (ix w);have K:=(h.heap.cell j (au d)).hi;exact⟨⟨m,j,d,c⟩,V⟩
 refine⟨h.fA,h.bI,h.done,h.value,h.vL,h.bq,h.bC,h.depth,h.aW,⟨h.jL,h.heap.cell,λb j d c=>?_,h.heap.Oo⟩,λk f g=>?_,⟨λf g w i=>?_,λu j d z=>h.lD u ⟨j,d,z⟩,λu j d z=>h.nL u λ⟨H,r,L⟩=>?_⟩,h.heap.ex⟩
 .have:=h.heap.ex b j d c;have:=h.heap.nn b;omega
 .have t:=au g;have F:=h.av f t;refine⟨F.eg,F.pc,F.lr,F.lo,F.lh,⟨λv w o i n=>⟨F.Sn w (au i),⟨(F.aR v o w n i).1,?_⟩,λc=>(y f t v w o i n c).1⟩⟩,λc=>?_,λG c=>?_⟩
  .rcases I8 0 o with q|q
   .exact(y f t v w o i n q).2
   .omega
  .cases k with
   |zero=>exact h.first f g
   |succ k=>
    simp only[Ao]at c;have:=az g;rw[List.getElem?_eq_none_iff]at c;omega
  .cases k with
   |zero=>simp[Ao]at c
   |succ k=>exact h.chain k G f c g
 .rcases(h.av f g).aY w i with m|m
  .exact Or.inl m
  .refine Or.inr ⟨m,Nat.lt_of_not_le λt=>?_⟩;have B:=h.nL (ix w) λ⟨j,d,_⟩=>by have:=az d;omega
   have C:=P3 g (b:=ix w);have x:=uS (l:=f.aY) (f:=ix w) (by rw[iV m];exact i);omega
 .rw[d]at r;simp at r;subst r;omega
end
section
variable{M:E}{b n a:Nat}{f:Nat->Int}
def MJ(w:Int):Prop:=-9223372036854775808<=w/\w<=9223372036854775807
def U6(h:List bO):Prop:=∀c∈h,∀w∈c.aN,MJ w
def Fo(B:cw M b aD ((yF n f).map Ce.i))(h:a<n):af M b a=some (vi (f a)):=by
 rw[B.bU a,cU,Hf h];rfl
def RF(B:cw M b aD ((yF n f).map Ce.i))(a:Nat)(v:Int):cw (ag M b a [.i v]) b aD ((yF n (λx=>if x=a then v else f x)).map Ce.i):=by
 have:=B.ag (m:=M) (o:=a) (r:=[.i v]);rw[Ax,Ss]at this;exact this
def UC(B:cw M b aD ((yF n f).map Ce.i))(h:a<n):eC M b a 1:=B.eC (by simp[rl];omega)
def VE(B:cw M b aD ((yF n f).map Ce.i))(h:n<=9223372036854775807):ar M (.mk b 0 n n) (yF n f):=
 ⟨by simp[rl],ad _,h,λk x a=>⟨[.i x],rfl,λi e c=>by
  have d:k<n:=by have:=az a;rwa[rl]at this
  rw[Hf d]at a;simp at a;cases i with
  |zero=>simp at c;subst c;have:=Fo B d;rw[a]at this;simpa[Ce.v]using this
  |succ i=>simp at c⟩⟩
def UB(M:E)(n:Nat):cw (M.push (.cells (bA (nE [.i (0:Int)] n)) aD)) M.size aD ((yF n (λ_=>0)).map Ce.i):=by
 rw[ud,Td];exact cw.push M _ _
def SZ{h:List bO}{i:Nat}{c:bO}(b:h[i]? =some c)(a:Nat):fH (h.take (i+1)) a=fH (h.take i) a+eQ c.aN a:=by
 rw[bd b,uU];simp[fH]
def Gl{l:List Int}{k:Nat}{w:Int}(b:l[k]? =some w)(a:Nat):eQ (l.take (k+1)) a=eQ (l.take k) a+(if w=1000+(a:Int)then 1 else 0):=by
 rw[bd b,lX];simp[eQ]
def Kv:∀(h:List bO)(a:Nat),(∀c∈h,c.aN.length<=3)->fH h a<=3*h.length
 |[],a,_=>by simp[fH]
 |c::h,a,b=>by
  have e:=Kv h a λd hd=>b d (by simp[hd]);have f:=lY c.aN a;have g:=b c aL;simp only[fH,aV];omega
end
section
variable{a b:Nat}
def se(mk:Nat->Bool):Nat->Nat
 |0=>0
 |n+1=>se mk n+(if mk n=true then 1 else 0)
def Kn(mk:Nat->Bool):∀n,se mk n<=n
 |0=>ad _
 |n+1=>by have:=Kn mk n;simp only[se];split<;>omega
def PK{mk:Nat->Bool}:∀{a:Nat},(se mk a=a<->∀i,i<a->mk i=true)
 |0=>by simp[se]
 |a+1=>by
  have g:=Kn mk a;have b:=PK (mk:=mk) (a:=a);simp only[se];constructor
  .intro h i f;have c:mk a=true:=by by_cases e:mk a=true;exact e;rw[ae e]at h;omega
   rw[aj c]at h;rcases aZ i a with d|d
   .exact b.1 V i d
   .have:i=a:=V;rw[this];exact c
  .intro h;rw[aj (h a V),b.2 λi f=>h i V]
def KP{mk a:Nat->Bool}:∀{n:Nat},(∀i,i<n->mk i=a i)->se mk n=se a n
 |0,_=>rfl
 |n+1,h=>by simp only[se];rw[KP λi b=>h i V,h n V]
def od(mk:Nat->Bool)(a:Nat):Nat->Bool:=λx=>if x=a then true else mk x
def If(mk:Nat->Bool)(a:Nat):od mk a a=true:=aj rfl
def rf{mk:Nat->Bool}(h:b≠a):od mk a b=mk b:=ae h
def Cb{mk:Nat->Bool}(h:mk b=true):od mk a b=true:=by unfold od;split;rfl;exact h
def FH{mk:Nat->Bool}{a:Nat}(h:mk a=false):∀{n:Nat},a<n->se (od mk a) n=se mk n+1
 |0,c=>absurd c (iv _)
 |n+1,c=>by
  simp only[se];rcases aZ a n with b|b
  .rw[FH h b,rf V];omega
  .have e:a=n:=V;subst e;rw[If,aj rfl,h,ae aL,KP (a:=mk) λi d=>rf V]
def TA(h:List bO)(mk:Nat->Bool):Prop:=
 ∃t:Nat->Nat,(∀j,mk j=true->t j<=se mk h.length)/\∀(i:Nat)(c:bO),h[i]? =some c->mk i=true->∀w∈c.aN,1000<=w->mk (ix w)=true/\t (ix w)<t i
def ZS(mk:Nat->Bool)(a:List Int):Prop:=∀w∈a,1000<=w->mk (ix w)=true
def TA.set{h:List bO}{mk:Nat->Bool}(u:TA h mk){j:bO}(l:h[a]? =some j)(e:mk a=false)(s:ZS mk j.aN):TA h (od mk a):=by
 let⟨z,k,r⟩:=u;have t:=az l;have q:=FH e t;refine⟨λx=>if x=a then se mk h.length+1 else z x,λv n=>?_,λi d hd m w p o=>?_⟩
 .simp only[q];split
  .omega
  .rename_i b;rw[rf b]at n;have:=k v n;omega
 .by_cases f:i=a
  .subst f;rw[l]at hd;simp at hd;subst hd;have b:=s w p o;have g:ix w≠i:=λc=>by rw[c,e]at b;cases b
   simp only[aj,ae g];exact⟨Cb b,oh (k _ b)⟩
  .rw[rf f]at m;let⟨b,y⟩:=r i d hd m w p o;have g:ix w≠a:=λc=>by rw[c,e]at b;cases b
   simp only[ae f,ae g];exact⟨Cb b,y⟩
end
structure gQ(m:E)(aW hp fr:O)(s:St):Prop where
 aW:ar m aW s.aW
 heap:dF m hp s.heap
 av:lR m fr s.av
def gQ.ext{m d:E}{aW c b:O}{s:St}(h:gQ m aW c b s)(a:J m d):gQ d aW c b s:=⟨h.aW.ext a,dF.ext a h.heap,lR.ext a h.av⟩
def U1(f:aU):Prop:=(∀w∈f.an,MJ w)/\(∀w∈f.aR,MJ w)/\(∀w∈f.aY,MJ w)
structure Oi(s:St):Prop where
 bC:MJ s.bC
 heap:U6 s.heap
 av:∀f∈s.av,U1 f
 lh:s.heap.length<=10000000
 lf:s.av.length<=10000000
 lr:∀f∈s.av,f.an.length<=10000000/\f.aR.length<=10000000/\f.aY.length<=10000000
def UW(s:St)(aW b a:O):Value:=.agg #[vi s.bI,vi s.value,vi s.bC,vi s.bq,O.v aW,O.v b,O.v a]
section
variable{a:List aU}{i:Nat}{f:aU}
def Rf(c:a[i]? =some f)(b:Nat):eS (a.take (i+1)) b=eS (a.take i) b+eQ f.aY b:=by
 rw[bd c,eI,iZ]
def SX(c:a[i]? =some f)(b:Nat):gU (a.take (i+1)) b=gU (a.take i) b+dq f.an f.aR b:=by
 rw[bd c,fW,kQ]
def Ei:∀{an aR:List Int}{a:Nat}{w o:Int},an[a]? =some w->aR[a]? =some o->∀b,dq (an.take (a+1)) (aR.take (a+1)) b=dq (an.take a) (aR.take a) b+(if w=1000+(b:Int)then o else 0)
 |[],_,_,_,_,h,_,_=>by simp at h
 |_::_,[],_,_,_,_,h,_=>by simp at h
 |r::f,p::e,0,w,o,c,d,b=>by simp at c d;subst c;subst d;simp[dq]
 |r::f,p::e,a+1,w,o,c,d,b=>by
  have:=Ei (an:=f) (aR:=e) (a:=a) (by simpa using c) (by simpa using d) b;simp only[Ns,dq]at this⊢;omega
def P4:∀{a:List aU}{n:Nat},(∀f∈a,f.aY.length<=n)->∀b,eS a b<=a.length*n
 |[],n,_,b=>by simp[eS]
 |f::a,n,h,b=>by
  have c:=P4 (a:=a) λg d=>h g (by simp[d]);have e:=c b;have i:=lY f.aY b;have j:=h f aL;simp only[eS,aV];have:((a.length+1:Nat):Int)*n=a.length*n+n:=by push_cast;rw[ZD];omega
  omega
def LC:∀{an aR:List Int}{n:Int},0<=n->(∀o∈aR,0<=o/\o<=n)->∀a,0<=dq an aR a/\dq an aR a<=aR.length*n
 |[],aR,n,b,h,a=>by simp[dq];exact Int.mul_nonneg V b
 |_::_,[],n,b,h,a=>by simp[dq]
 |r::e,o::c,n,b,h,a=>by
  have f:=LC (an:=e) (aR:=c) b (λx d=>h x (by simp[d])) a;have d:=h o aL;have:((c.length+1:Nat):Int)*n=c.length*n+n:=by push_cast;rw[ZD];omega
  simp only[dq,aV];split<;>omega
def Sj:∀{a:List aU}{n:Nat}{k:Int},0<=k->(∀f∈a,f.aR.length<=n/\∀o∈f.aR,0<=o/\o<=k)->∀b,0<=gU a b/\gU a b<=a.length*(n*k)
 |[],n,k,_,_,b=>by simp[gU]
 |f::a,n,k,c,h,b=>by
  have e:=Sj (a:=a) c (λg d=>h g (by simp[d])) b;let⟨j,d⟩:=h f aL;have g:=LC (an:=f.an) c d b;have i:(f.aR.length:Int)*k<=n*k:=Int.mul_le_mul_of_nonneg_right V c;have:((a.length+1:Nat):Int)*(n*k)=a.length*(n*k)+n*k:=by push_cast;rw[ZD];omega
  simp only[gU,aV];omega
section
variable{m:E}{d p aW c b:O}{e:cg}{s:St}
end
end
section
def PG(a:Int):(a==(0:Int))=decide (a=0):=by by_cases h:a=0<;>simp[h]
def PF(a b:Int):(!((a==(0:Int))==(b==(0:Int))))=false<->(a=0<->b=0):=by
 rw[PG,PG];by_cases c:a=0<;>by_cases d:b=0<;>simp[c,d]
section
variable{m:E}{d p aW b a:O}{c:cg}{s:St}
structure Yu(h:List bO)(fs:List aU):Prop where
 len:∀f∈fs,f.aR.length=f.an.length
 an:∀f∈fs,TF h f
def Yu.aR{h:List bO}{a:List aU}(H:Yu h a){f:aU}(b:f∈a):∀o∈f.aR,0<=o/\o<=999999:=λo d=>by
 let⟨k,c⟩:=List.mem_iff_getElem?.1 d;let⟨w,e⟩:=cK f.an k (Qb (az c) (H.len f b));exact((H.an f b).dx k w o e c).2.1
end
end
section
variable{m:E}{b:List bO}{w:Int}{d:bO}{a:Nat}{W:List Nat}{e:Nat->Int}
def qX(n:Int)(m:E):dR cq 76 [vi n] m (iJ n):=by
 apply HK;refine⟨λb=>fI ?_ (J.aA _),λb=>cT (λa=>?_) (J.aA _)⟩
 .simp at b;simp[iJ,b]
 .simp at b;have:=a.1;omega
def Gg{f:O}(d:dF m f b)(j:MJ w):dR cq 196 [O.v f,vi w] m (tD b w):=by
 apply Ak;refine(hO d j.2).mono ?_;rintro _ k ⟨a,h,rfl,e,_,g⟩;refine⟨a,h,rfl,λc=>jU (Or.inr (e.1 c)) g,λc=>?_⟩;refine(qX w k).then λb2 n i l=>⟨b2,rfl,fI ?_ (g.trans l)⟩;rw[i];exact⟨Or.inl,λd=>d.resolve_right (fb e c)⟩
structure Ja(b:List bO)(d:bO):Prop where
 lo: -1<=d.aQ
 kG:0<=d.kG/\d.kG<=99
 fl:d.aN.length<=3
 DT:d.aQ<1->d.kG=0
 jb:d.aQ=0->d.aN=[]
 cN:∀w∈d.aN,tD b w/\(d.aQ<0->w=0)
def Ja.ok(a:Ja b d)(e:d.aQ<=999999):xh b d:=
 ⟨a.fl,a.lo,e,λhd=>⟨a.DT hd,λw c=>by
  by_cases f:d.aQ<0
  .exact(a.cN w c).2 f
  .rw[a.jb V]at c;simp at c,a.jb⟩,λ_=>⟨λw c=>(a.cN w c).1,a.kG⟩⟩
def xh.v(a:xh b d):Ja b d:=by
 refine⟨a.lo,?_,a.fl,λhd=>(a.DT hd).1,λf=>(a.DT V).2.2 f,λw e=>⟨?_,λg=>(a.DT V).2.1 w e⟩⟩
 .by_cases c:0<d.aQ
  .exact(a.rp c).2
  .have:=(a.DT V).1;omega
 .by_cases c:0<d.aQ
  .exact(a.rp c).1 w e
  .have:=(a.DT V).2.1 w e;exact Or.inl (by subst this;exact⟨be,be⟩)
def Ja.cases(c:Ja b d)(e:w∈d.aN):gC b w\/w<1000:=by
 rcases(c.cN w e).1 with a|a
 .have:=a.2;exact Or.inr V
 .exact Or.inl a
def FW{z j:O}(E:dF m z b)(x:ar m j d.aN)(G:∀w∈d.aN,MJ w):dR cq 152 [O.v z,.agg #[vi d.aQ,vi d.kG,O.v j]] m (Ja b d):=by
 apply Ad;simp -zeta only[aC,aB];intro e;have f:J m e:=(J.aA m).aH _;have N:e.size=m.size+1:=by simp[e]
 clear_value e;have y:=x.len;have F:∀C∈[m.size],C<e.size:=bJ;refine⟨λk=>cT (λc=>by have:=c.lo;simp at k;omega) f,λk=>⟨λl=>cT (λc=>by have:=c.kG;simp at l;omega) f,λl=>⟨λo=>cT (λc=>by have:=c.kG;simp at o;omega) f,λo=>⟨λr=>cT (λc=>by have:=c.fl;simp at r;omega) f,λr=>?_⟩⟩⟩⟩;simp at k l o r;refine⟨λM=>M=e/\(d.aQ<1->d.kG=0)/\(d.aQ=0->d.aN=[]),?_,?_⟩
 .have zero:(d.aQ<1->d.kG=0)->((d.aQ==(0:Int))=true->((decide ((j.len:Int)>(0:Int)))=true->∃a:Bool,vb false=.bool a/\(a=true<->Ja b d)/\J m e)/\
   ((decide ((j.len:Int)>(0:Int)))=false->e=e/\(d.aQ<1->d.kG=0)/\(d.aQ=0->d.aN=[])))/\((d.aQ==(0:Int))=false->e=e/\(d.aQ<1->d.kG=0)/\(d.aQ=0->d.aN=[])):=λh=>
   ⟨λg=>⟨λa=>cT (λc=>by have:=c.jb (by simpa using g);rw[this]at y;simp at a y;omega) f,λa=>⟨rfl,h,λ_=>List.length_eq_zero_iff.1 (by simp at a;omega)⟩⟩,λg=>⟨rfl,h,λa=>by simp at g;exact absurd a g⟩⟩
  refine⟨λg=>⟨λa=>cT (λc=>by have:=c.DT (by simpa using g);simp at a;exact a this) f,λa=>zero λ_=>by simpa using a⟩,λg=>zero λa=>by simp at g;omega⟩
 .rintro H ⟨rfl,hd,D⟩;refine fm (n:=d.aN.length) V (λv h=>J H h/\∀w∈d.aN.take v,tD b w/\(d.aQ<0->w=0)) ⟨J.aA _,aL⟩ ?_;rintro v L I μ K ⟨q,u⟩ B
  refine dit (λg=>?_) λg=>?_
  .let⟨w,h⟩:=cK d.aN v;refine⟨V,V,w,by simpa using(x.ext (f.trans q)).aG h,(Gg (dF.ext (f.trans q) E) (G w (au h))).aK q F λb4 A t P p=>⟨b4,rfl,λa=>cT (λc=>nb t a (c.cN w (au h)).1) (f.trans p),λa=>⟨λs=>⟨λi=>cT (λc=>?_) (f.trans p),λi=>B V A ⟨p,bY h u ⟨yb t a,λ_=>by simpa using i⟩⟩⟩,λs=>B V A ⟨p,bY h u ⟨yb t a,λi=>by simp at s;omega⟩⟩⟩⟩⟩;have:=(c.cN w (au h)).2 (by simpa using s);simp at i;exact i this
  .exact jU ⟨k,⟨l,o⟩,V,hd,D,dy V u⟩ (f.trans q)
def gW(mk:Nat->Bool):Nat->List bO->Nat->Int
 |_,[],_=>0
 |i,d::b,a=>(if mk i=true then 0 else eQ d.aN a)+gW mk (i+1) b a
def Em:∀(i:Nat)(b:List bO)(a:Nat),gW (λ_=>false) i b a=fH b a
 |_,[],_=>rfl
 |i,d::b,a=>by simp[gW,fH,Em (i+1) b a]
def Gq(mk:Nat->Bool):∀(i:Nat)(b:List bO)(a:Nat),0<=gW mk i b a
 |_,[],_=>cY 0
 |i,d::b,a=>by have:=Gq mk (i+1) b a;have:=iU d.aN a;simp only[gW];split<;>omega
def Qi(mk:Nat->Bool):∀(i:Nat)(b:List bO)(a:Nat),gW mk i b a<=fH b a
 |_,[],_=>cY 0
 |i,d::b,a=>by have:=Qi mk (i+1) b a;have:=iU d.aN a;simp only[gW,fH];split<;>omega
def Jv{mk e:Nat->Bool}:∀{i:Nat}{b:List bO}{a:Nat},(∀j,i<=j->mk j=e j)->gW mk i b a=gW e i b a
 |_,[],_,_=>rfl
 |i,d::b,a,c=>by simp only[gW];rw[c i (ad _),Jv λj f=>c j V]
def NS{mk:Nat->Bool}:∀{e:Nat}{b:List bO}{f:Nat}{d:bO},b[f]? =some d->mk (e+f)=false->∀a,gW (od mk (e+f)) e b a=gW mk e b a -eQ d.aN a
 |_,[],_,_,b,_,_=>by simp at b
 |e,m::b,0,d,j,l,a=>by
  simp at j;subst j;have g:=Jv (mk:=od mk e) (e:=mk) (i:=e+1) (b:=b) (a:=a) λo n=>rf V;rw[jF]at l⊢;simp only[gW,If,l,g];simp;omega
 |e,m::b,f+1,d,j,l,a=>by
  have g:e+(f+1)=e+1+f:=V;have:=NS (mk:=mk) (e:=e+1) (b:=b) (f:=f) (d:=d) (by simpa using j) (by rw[<-g];exact l) a;simp only[gW];rw[g,this,rf V];omega
def Qh{mk:Nat->Bool}:∀{e:Nat}{b:List bO}{j:Nat}{d:bO},b[j]? =some d->mk (e+j)=false->∀a,eQ d.aN a<=gW mk e b a
 |_,[],_,_,b,_,_=>by simp at b
 |e,l::b,0,d,f,g,a=>by
  simp at f;subst f;have:=Gq mk (e+1) b a;simp only[jF]at g;simp only[gW,g];simp;omega
 |e,l::b,j+1,d,f,g,a=>by
  have:=Qh (mk:=mk) (e:=e+1) (b:=b) (j:=j) (d:=d) (by simpa using f) (by rw[<-g];congr 1;omega) a;have:=iU l.aN a;simp only[gW];split<;>omega
def NR{mk:Nat->Bool}:∀{i:Nat}{b:List bO}{a:Nat},0<gW mk i b a->∃(k:Nat)(d:bO),b[k]? =some d/\mk (i+k)=false/\(1000+(a:Int))∈d.aN
 |_,[],_,b=>by simp[gW]at b
 |i,c::b,a,g=>by
  simp only[gW]at g;by_cases f:mk i=false/\0<eQ c.aN a
  .exact⟨0,c,rfl,f.1,OP f.2⟩
  .have:0<gW mk (i+1) b a:=by
    have:=iU c.aN a;split at g
    .omega
    .rename_i h;have:¬0<eQ c.aN a:=λe=>f ⟨by simpa using h,e⟩;omega
   let⟨k,d,h,e,j⟩:=NR this;exact⟨k+1,d,by simpa using h,by rw[<-e];congr 1;omega,j⟩
def TB(b:List bO)(mk:Nat->Bool):Prop:=
 ∃t:Nat->Nat,(∀j,mk j=true->t j<=se mk b.length)/\∀(i:Nat)(d:bO),b[i]? =some d->∀w∈d.aN,1000<=w->mk (ix w)=true->mk i=true/\t i<t (ix w)
def TB.set{mk:Nat->Bool}(u:TB b mk)(t:a<b.length)(k:mk a=false)(B:gW mk 0 b a=0):TB b (od mk a):=by
 let⟨A,n,s⟩:=u;have r:=FH k t;have v:∀(c:Nat)(d:bO),b[c]? =some d->(1000+(a:Int))∈d.aN->mk c=true:=λc d f g=>by
  cases e:mk c
  .have g1:=Qh (mk:=mk) (e:=0) f (by rw[cE];exact e) a;have g2:=uS g;omega
  .rfl
 refine⟨λx=>if x=a then se mk b.length+1 else A x,λy o=>?_,λc d f w g q p=>?_⟩
 .simp only[r];split
  .omega
  .rename_i h;rw[rf h]at o;have:=n y o;omega
 .by_cases h:ix w=a
  .have e:=v c d f (by rw[<-h,iV q];exact g);have l:c≠a:=λj=>by rw[j,k]at e;cases e
   simp only[aj h,ae l];exact⟨Cb e,oh (n c e)⟩
  .rw[rf h]at p;let⟨m,z⟩:=s c d f w g q p;have l:c≠a:=λj=>by rw[j,k]at m;cases m
   simp only[ae h,ae l];exact⟨Cb m,z⟩
def PH(f:Nat->Nat):∀n,∃B,∀i,i<n->f i<=B
 |0=>⟨0,λi a=>absurd a (iv _)⟩
 |n+1=>by
  let⟨B,c⟩:=PH f n;refine⟨B+f n,λi a=>?_⟩;rcases aZ i n with b|b
  .have:=c i b;omega
  .have:i=n:=V;subst this;omega
def Vx{mk:Nat->Bool}(r:TB b mk)(q:∀d∈b,∀w∈d.aN,1000<=w->ix w<b.length)(o:∀a,a<b.length->gW mk 0 b a=0->mk a=true):
 se mk b.length=b.length<->Xi b:=by
 rw[PK]
 constructor
 .intro g
  let⟨t,e,c⟩:=r
  refine⟨λx=>b.length -t x,λi d h w j f=>?_⟩
  have k:=q d (au h) w j f
  have:=(c i d h w j f (g _ k)).2
  have:=e _ (g _ k)
  have:=Kn mk b.length
  show b.length -t (ix w)<b.length -t i
  omega
 .rintro⟨h,s⟩
  let⟨B,m⟩:=PH h b.length
  have u:∀(n i:Nat),B -h i<n->i<b.length->mk i=true:=by
   intro n;induction n with
   |zero=>intro i g;omega
   |succ n t=>
    intro i g p;refine o i p (Int.le_antisymm (Int.not_lt.1 λf=>?_) (Gq _ _ _ _));let⟨k,d,e,c,l⟩:=NR f;rw[cE]at c;have:=s k d e _ l V;rw[ng]at this;have j:=az e;have:=m k j;rw[t k V j]at c;cases c
  exactλi g=>u (B -h i+1) i V g
structure Hu(b:List bO)(mk:Nat->Bool)(W:List Nat)(e:Nat->Int):Prop where
 Ly:W.Nodup
 un:∀a∈W,a<b.length/\mk a=false
 zero:∀a,a<b.length->(e a=0<->(mk a=true\/a∈W))
def Gk:∀(n:Nat)(W:List Nat),W.Nodup->(∀a∈W,a<n)->W.length<=n
 |0,[],_,_=>ad _
 |0,a::_,_,b=>absurd (b a aL) (iv _)
 |n+1,W,hd,b=>by
  by_cases d:n∈W
  .have e:=Gk n (W.erase n) (hd.erase n) λa c=>by
    have:=hd.mem_erase_iff.1 c;have:=b a this.2;omega
   rw[List.length_erase_of_mem d]at e;omega
  .have:=Gk n W hd λa c=>by
    have:=b a c;have:a≠n:=λe=>d (e▸c);omega
   omega
def Hu.len{mk:Nat->Bool}(K:Hu b mk W e):W.length<=b.length:=Gk _ _ K.Ly λa c=>(K.un a c).1
def Hu.VA{mk:Nat->Bool}(K:Hu b mk (W++[a]) e):Hu b (od mk a) W e:=by
 let⟨g,i,h⟩:=List.nodup_append.1 K.Ly;refine⟨g,λx d=>?_,λx d=>?_⟩
 .have f:=K.un x (bL _ d);refine⟨f.1,?_⟩;rw[rf λc=>h x d a aL c];exact f.2
 .rw[K.zero x d];by_cases c:x=a
  .subst c;simp[If]
  .rw[rf c];simp[c]
def Hu.mh{mk:Nat->Bool}{lf':Nat->Int}(K:Hu b mk W e)(i:a<b.length)(j:∀x,lf' x=if x=a then e x -1 else e x)(l:0<e a):
 (lf' a=0->Hu b mk (W++[a]) lf')/\(lf' a≠0->Hu b mk W lf'):=by
 have g:mk a≠true/\a∉W:=by
  have:=(K.zero a i).2;constructor
  .intro d;have:=this (Or.inl d);omega
  .intro d;have:=this (Or.inr d);omega
 refine⟨λh=>⟨?_,λx c=>?_,λx c=>?_⟩,λh=>⟨K.Ly,K.un,λx c=>?_⟩⟩
 .rw[List.nodup_append]
  refine⟨K.Ly,aL,λx c y k f=>?_⟩
  simp at k;subst k;subst f;exact g.2 c
 .rcases List.mem_append.1 c with c|c
  .exact K.un x c
  .simp at c;subst c;exact⟨i,by simpa using g.1⟩
 .by_cases f:x=a
  .subst f;simp[h]
  .rw[j x,ae f,K.zero x c];simp[f]
 .by_cases f:x=a
  .subst f
   constructor
   .intro d;exact absurd d h
   .rintro(d|d)
    .exact absurd d g.1
    .exact absurd d g.2
  .rw[j x,ae f,K.zero x c]
end
section
variable{b:Nat->Nat}{m:E}{k c a:Nat}{s:O}{d:Nat->Int}
def Vm(W:List Nat):List Int:=W.map λ(a:Nat)=>(a:Int)
def Kp(W:List Nat):(Vm W).length=W.length:=by simp[Vm]
def KR(W:List Nat)(a:Nat):Vm (W++[a])=Vm W++[(a:Int)]:=by simp[Vm]
def Wr(h:iA b m aD 1 k s ((yF c d).map Ce.i))(g:c<=9223372036854775807)(e:a<c):af m s.D (s.off+Int.toNat (a:Int)*1)=some (vi (d a)):=by
 have:=(h.nT (by rw[rl];exact g)).aG (Hf (f:=d) e);simpa using this
def UA(h:iA b m aD 1 k s ((yF c d).map Ce.i)):s.len=c:=by have:=h.len;simp[rl]at this;omega
def XO{g:Nat->Int}(h:iA b m aD 1 k s ((yF c d).map Ce.i))(q:a<c){v:Int}(o:∀e,e<c->g e=if e=a then v else d e)(p:∀e,m.size<=e->b e=0):
 eC m s.D (s.off+Int.toNat (a:Int)*1) 1/\iA b (ag m s.D (s.off+Int.toNat (a:Int)*1) [.i v]) aD 1 k s ((yF c g).map Ce.i)/\dz (λj=>j=k) b m b (ag m s.D (s.off+Int.toNat (a:Int)*1) [.i v]):=by
 have f:(0:Int)<=(a:Int):=V
 have i:(a:Int)<((yF c d).length:Nat):=by rw[rl];omega
 have j:=h.gR f i v
 have l:gR (yF c d) (a:Int) v=yF c g:=by
  unfold gR;rw[show Int.toNat (a:Int)=a by omega,Ss];exact jK λe n=>(o e n).symm
 rw[l]at j
 have r:=UA h
 have t:=h.le
 exact⟨h.Po f i,j,dz.ag p (h.D V).2 _ _⟩
def Yq(m:E)(h:List bO)(v:Value)(c:E):Prop:=∃(s:O)(b:Bool),v=.tuple #[O.v s,vb b]/\(b=true<->KD h)/\
 (b=true->∃a,s=.mk a 0 h.length h.length/\m.size<=a/\cw c a aD ((yF h.length (fH h)).map Ce.i))/\J m c
def sI{N:O}{h:List bO}(y:dF m N h)(aS:U6 h)(bl:h.length<=1000000000):aM cq 77 [O.v N] m (Yq m h):=by
 apply xD;simp -zeta only[aC,aB];have hl:=y.len;have en:Int.toNat (N.len:Int)=h.length:=V;rw[en];refine⟨V,V,V,V,?_⟩;intro m1;have x1:J m m1:=(J.aA m).aH _;have B1:cw m1 m.size aD ((yF h.length (λ_=>0)).map Ce.i):=UB m _;clear_value m1;have no:∀{M:E},J m M->¬KD h->Yq m h (.tuple #[O.v O.nil,vb false]) M:=λT G=>⟨.nil,false,rfl,by simp[G],aL,T⟩;have an:∀c:Nat,Int.toNat (c:Int)=c:=λc=>V;simp -zeta only[O.iS,O.jB,O.tH,cE];refine fm (n:=h.length) V (λt l=>J m l/\cw l m.size aD ((yF h.length (λa=>fH (h.take t) a)).map Ce.i)/\∀e∈h.take t,Ja h e) ⟨x1,by simpa[fH]using B1,aL⟩ ?_;rintro t m2 bt μ hi ⟨Z,B2,ai⟩ X
 have bC:=B2.lt;have h3:∀e∈h.take t,e.aN.length<=3:=λe hm=>(ai e hm).fl;refine dit (λh1=>?_) λh1=>?_
 .let⟨e,r⟩:=cK h t;have ab:=au r;let⟨d,hf,g0,g1,g2⟩:=(dF.ext Z y).aG r;rw[an];refine⟨V,V,e.aQ,g0,e.kG,g1,d,g2,?_⟩;intro L I;have o:J m2 I:=((J.aA m2).aH _).ag (ad _) _ _;have s4:I.size=m2.size+1:=by simp[I,L,aw]
  clear_value I;refine(FW (dF.ext (Z.trans o) y) (hf.ext o) (aS e ab)).aK (J.aA _) bJ λj U S s _=>⟨j,rfl,λh2=>no ((Z.trans o).trans s) λz=>nb S h2 (z.cells e ab).v,λh2=>?_⟩;have A:=yb S h2;have bd:=A.fl;have z5:=s.size;have ah:=hf.len;refine fm (n:=e.aN.length) V (λk l=>J m l/\m2.size<l.size/\ar l d e.aN/\cw l m.size aD ((yF h.length (λa=>fH (h.take t) a+eQ (e.aN.take k) a)).map Ce.i)) ⟨((Z.trans o).trans s),V,(hf.ext (o.trans s)),by simpa[eQ]using(B2.ext (o.trans s))⟩ ?_;rintro k p aa ν z ⟨K,z6,D,l⟩ Q;refine dit (λh4=>?_) λh4=>?_
  .let⟨w,H⟩:=cK e.aN k;have ap:=au H;refine⟨V,V,w,by simpa using D.aG H,(hO (dF.ext K y) (aS e ab w ap).2).mono ?_⟩;rintro _ q ⟨a,R,rfl,P,W,F⟩;have z7:=F.size;refine⟨F.dv bJ,a,R,rfl,λC=>?_,λC=>?_⟩
   .have ag:=P.1 C;have ac:=az (bZ ag).1;have e1:=W C;subst e1;have x:=l.ext F;have q1:=Kv (h.take t) (ix w) h3;have q2:=lY (e.aN.take k) (ix w);have q3:=uV (h.take t) (ix w);have q4:=iU (e.aN.take k) (ix w);have q5:(h.take t).length<=h.length:=bJ;have q6:(e.aN.take k).length<=3:=bJ;rw[an,iu];refine⟨V,V,_,Fo x ac,V,V,UC x ac,?_⟩;rw[show cR (fH (h.take t) (ix w)+eQ (e.aN.take k) (ix w)+1)=fH (h.take t) (ix w)+eQ (e.aN.take k) (ix w)+1 from aP V V];have B:=RF x (ix w) (fH (h.take t) (ix w)+eQ (e.aN.take k) (ix w)+1);rw[jK (g:=λa=>fH (h.take t) a+eQ (e.aN.take (k+1)) a)]at B
    .refine⟨λj S=>bo _ _ _ _ (by simp at S;omega),Q V _ ⟨(K.trans F).ag (ad _) _ _,by rw[aw];omega,?_,B⟩⟩;obtain⟨f0,aR,_,_,w2⟩:=y.aG r;have er:f0=d:=by have:=Z.af w2;rw[g2]at this;exact(O.Hl.1 (mq this)).symm
     subst er;exact aR.ext ((K.trans F).ag (ad _) _ _)
    .intro j S;rw[Gl H];by_cases u:j=ix w
     .subst u;rw[aj rfl,aj (iV ag.1).symm];omega
     .rw[ae u,ae (λY=>u (by rw[Y,ng]))];omega
   .refine Q V q ⟨K.trans F,V,D.ext F,?_⟩;have bi:w<1000:=(A.cases ap).resolve_left (fb P C);rw[jK (g:=λa=>fH (h.take t) a+eQ (e.aN.take k) a)]
    .exact l.ext F
    .intro j S;rw[Gl H,ae V];omega
  .have x:e.aN.take k=e.aN:=cJ V;rw[x]at l;refine X V p ⟨K,?_,bY r ai A⟩
   rw[jK (g:=λa=>fH (h.take t) a+eQ e.aN a)]
   .exact l
   .intro j S;exact SZ r j
 have ei:h.take t=h:=cJ V;rw[ei]at B2 ai h3;clear X
 have a1:∀e∈h,∀w∈e.aN,gC h w\/w<1000:=λe s w H=>(ai e s).cases H;have ag:∀e∈h,∀w∈e.aN,1000<=w->ix w<h.length:=λe hm w H N=>by
  rcases a1 e hm w H with h1|h1
  .exact az (bZ h1).1
  .omega
 refine⟨λM=>m2=M/\pK h,⟨λh2=>?_,λh2=>⟨rfl,λe s=>?_⟩⟩,?_⟩
 .simp at h2;rw[aP V V];let⟨e,s⟩:=cK h (h.length -1);obtain⟨d,hf,g1,_,_⟩:=(dF.ext Z y).aG s;have u:Int.toNat ((N.len:Int) -1)=h.length -1:=V;rw[u];refine⟨V,V,e.aQ,g1,λh3=>no Z λz=>z.jL e s (by simpa using h3),λh3=>⟨rfl,λal hd=>?_⟩⟩;rw[s]at hd;simp at hd;subst hd;simpa using h3
 .have:=az s;simp at h2;omega
 rintro _ ⟨rfl,bm⟩;refine(eL (VE B2 V) (by rw[rl];exact bl)).mono ?_;rintro _ L ⟨A,rfl,or,x3⟩;have z3:=x3.size;have B3:=B2.ext x3;have bH:=Z.size;obtain⟨B,aH⟩:∃B:Nat->Nat,B=λj=>if A.Gh=false/\j=A.D then 2 else if j=m.size then 1 else 0:=⟨_,rfl⟩
 have aG:A.Gh=false->m2.size<=A.D/\A.D<L.size:=λG=>by
  have ah:A≠.nil:=λu=>by rw[u]at G;simp at G
  exact⟨or.D.resolve_left ah,or.lt.resolve_left ah⟩
 have aV:∀j,j≠m.size->(A.Gh=false->j≠A.D)->B j=0:=λj h4 C=>by
  rw[aH];exact(ae λy=>C y.1 y.2).trans (ae h4)
 have bs:B m.size=1:=by
  rw[aH];exact(ae λy=>oh (aG y.1)).trans (aj rfl)
 have bp:∀j,L.size<=j->B j=0:=λj S=>aV j V λG=>by have:=aG G;omega
 have a_:∀j,j<m.size->B j=0:=λj S=>aV j V λG=>by have:=aG G;omega
 have A3:iA B L aD 1 2 A ((yF h.length (fH h)).map Ce.i):=iA.gK or λah=>by
  rw[aH];refine aj ⟨?_,rfl⟩;cases A with
  |nil=>exact absurd rfl ah
  |_=>rfl
 have bz:=UA A3;clear aG aV aH;have aJ:∀{b a6:Nat->Nat}{M M':E},dz (λk=>k=2\/k=6) b M a6 M'->To b M a6 M':=λs=>s.mono λk z=>V;have aN:∀{b:Nat->Nat}{M:E},dz (λk=>k=2\/k=6) B L b M->J m M:=λs=>((aJ s).cv (Z.trans x3) a_).1;have a5:∀{b:Nat->Nat}{M:E},dz (λk=>k=2\/k=6) B L b M->cw M m.size aD ((yF h.length (fH h)).map Ce.i):=λs=>B3.congr (s.dQ _ B3.lt (by rw[bs];decide));have bq:iA B L aD 1 6 .nil (([]:List Int).map Ce.i):=⟨aL,aL,Or.inl rfl⟩;refine⟨A,rfl,dV (σ:=O) (n:=h.length) V (λk P M=>∃b W,dz (λk=>k=2\/k=6) B L b M/\iA b M aD 1 2 A ((yF h.length (fH h)).map Ce.i)/\iA b M aD 1 6 P ((Vm W).map Ce.i)/\W.Nodup/\(∀a∈W,a<k)/\(∀a,a<k->(fH h a=0<->a∈W))/\
  ∀(a:Nat)(e:bO),a<k->h[a]? =some e->0<e.aQ->fH h a<=e.aQ/\e.aQ<=999999) ⟨B,[],dz.aA _ bp,A3,bq,aL,aL,aL,aL⟩ ?_⟩
 rintro k P I I2 μ2 z ⟨Y,W,C4,A4,W4,ao,ak,aI,aF⟩ X
 have X4:=aN C4;refine dit (λh4=>?_) λh4=>?_
 .have am:k<h.length:=V;let⟨e,aa⟩:=dZ am;let⟨d,hf,g0,g1,g2⟩:=(dF.ext X4 y).aG aa;rw[an];refine⟨V,V,e.aQ,g0,e.kG,g1,d,g2,?_⟩;intro U p;have K:J I p:=((J.aA I).aH _).ag (ad _) _ _;have s6:p.size=I.size+1:=by simp[p,U,aw]
  clear_value p;have av:dz (λk=>k=2\/k=6) Y I Y p:=dz.eT _ K C4.new;have C6:=C4.trans av;have F6:dz (λ_=>False) Y I Y p:=dz.eT _ K C4.new;have A6:=A4.eY F6 id;have W6:=W4.eY F6 id;have g6:=Fo (a5 C6) am;have jT:(0<e.aQ->fH h k<=e.aQ/\e.aQ<=999999)->∀(a:Nat)(e:bO),a<k+1->h[a]? =some e->0<e.aQ->fH h a<=e.aQ/\e.aQ<=999999:=λG a al o hd=>by
   rcases aZ a k with Q|Q
   .exact aF a al Q hd
   .have:a=k:=V;subst this;rw[aa]at hd;simp at hd;subst hd;exact G
  have kd:(0<e.aQ->fH h k<=e.aQ/\e.aQ<=999999)->((0:Int)<=k/\(k:Int)<(h.length:Int)/\∃r:Int,af p m.size (k*1)=some (vi r)/\
   ((r==(0:Int))=true->let x:E:=p.push (.cells (bA [.i (k:Int)]) 3)
    jM x 3 [.i (0:Int)] 8 P (O.mk p.size 0 1 1) λD l=>dY [I.size] x l/\I2 D (cR ((k:Int)+(1:Int))) l/\μ2 D (cR ((k:Int)+(1:Int))) l<μ2 P k I)/\
   ((r==(0:Int))=false->I2 P (cR ((k:Int)+(1:Int))) p/\μ2 P (cR ((k:Int)+(1:Int))) p<μ2 P k I)):=λG=>by
   refine⟨V,V,_,by rw[iu];exact g6,λD=>?_,λD=>?_⟩
   .intro q
    have F:J p q:=(J.aA p).aH _
    have k7:cw q p.size 3 [.i (k:Int)]:=cw.push p _ _
    have s7:q.size=p.size+1:=by simp[q]
    have F7:dz (λ_=>False) Y p Y q:=dz.eT _ F C6.new
    have C7:dz (λk=>k=2\/k=6) B L Y q:=C6.trans (dz.eT _ F C6.new)
    have ax:=W6.len
    simp[Kp]at ax
    have ay:W.length<=h.length:=Gk _ _ ao λa o=>by have:=ak a o;omega
    refine iA.append (c:=[.i 0]) (d:=[.i (k:Int)]) (W6.eY F7 id) C7.new aL k7.iF (by simp only[O.iS];omega) λr a4 m8 a8 c8=>⟨(aJ (c8.mono λl hj=>Or.inr hj)).dv (by simp;exact⟨V,C4.new _ (ad _)⟩),?_⟩
    refine X V _ _ ⟨r,W++[k],C7.trans (c8.mono λl hj=>Or.inr hj),(A6.eY F7 id).eY c8 be,by rw[KR];simpa using a8,?_,λa o=>?_,λa o=>?_,jT G⟩
    .rw[List.nodup_append]
     refine⟨ao,aL,λx T aA R u=>?_⟩
     simp at R;subst R;subst u;have:=ak _ T;omega
    .rcases List.mem_append.1 o with o|o
     .have:=ak a o;omega
     .simp at o;omega
    .rcases aZ a k with R|R
     .rw[aI a R];simp;omega
     .have:a=k:=V
      subst this
      simp at D;simp[D]
   .refine X V _ _ ⟨Y,W,C6,A6,W6,ao,λa o=>oh (ak a o),λa o=>?_,jT G⟩
    rcases aZ a k with R|R
    .exact aI a R
    .have:a=k:=V
     subst this
     simp at D
     simp only[D,false_iff]
     intro hm;have:=ak _ hm;omega
  refine⟨λC=>⟨V,V,_,by rw[iu];exact g6,λQ=>no (X4.trans K) λz=>?_,λQ=>⟨λD=>no (X4.trans K) λz=>?_,λD=>kd λ_=>by simp at Q D;omega⟩⟩,λC=>kd λQ=>by simp at C;omega⟩
  .have:=z.fH k e aa (by simpa using C);simp at Q;omega
  .have:=(z.cells e (au aa)).hi;simp at D;omega
 have bf:k=h.length:=V;subst bf;clear X h4
 have bc:∀e∈h,xh h e:=λe s=>by
  let⟨a,o⟩:=List.mem_iff_getElem?.1 s;refine(ai e s).ok ?_;rcases I8 0 e.aQ with N|N
  .exact(aF a e (az o) o N).2
  .omega
 have bk:∀(a:Nat)(e:bO),h[a]? =some e->0<e.aQ->fH h a<=e.aQ:=λa e o N=>(aF a e (az o) o N).1;have bh:∀mk a,gW mk 0 h a<=3*h.length:=λmk a=>by
  have:=Qi mk 0 h a;have:=Kv h a λe hm=>(ai e hm).fl;omega
 have K0:Hu h (λ_=>false) W (gW (λ_=>false) 0 h):=⟨ao,λa o=>⟨ak a o,rfl⟩,λa o=>by rw[Em,aI a o];simp⟩;have c0:se (λ_=>false) h.length=0:=by
  generalize h.length=c;induction c with
  |zero=>rfl
  |succ c K=>simp[se,K]
 refine VJ (γ:=(Nat->Bool)×List Nat) (λK P a3 M=>∃b,a3=(se K.1 h.length:Nat)/\dz (λk=>k=2\/k=6) B L b M/\iA b M aD 1 2 A ((yF h.length (gW K.1 0 h)).map Ce.i)/\iA b M aD 1 6 P ((Vm K.2).map Ce.i)/\Hu h K.1 K.2 (gW K.1 0 h)/\TB h K.1)
  (λK=>h.length -se K.1 h.length) (λ_=>false,W) ⟨Y,by rw[c0];rfl,C4,by rw[jK (g:=fH h) λj _=>Em 0 h j];exact A4,W4,K0,λ_=>0,aL,aL⟩ ?_
 clear C4 A4 W4 K0 c0 X4 ao ak aI aF;rintro⟨mk,W⟩ P a3 U I3 μ3 ⟨aa,rfl,C5,A5,W5,K5,O5⟩ X
 simp only at A5 W5 K5 O5 X
 have X5:=aN C5;have ax:=W5.len;simp[Kp]at ax;have bu:=K5.len;refine⟨λC=>?_,λC=>?_⟩
 .simp only[lx,aq]at C;have ah:W≠[]:=λu=>by subst u;simp at ax;omega
  obtain⟨W',a,rfl⟩:∃W' a,W=W'++[a]:=⟨W.dropLast,W.getLast ah,(eD ah).symm⟩;rw[KR]at W5;let⟨p1,p2,p3⟩:=W5.VA;rw[Kp]at p1 p2 p3;have e1:cR ((P.len:Int) -1)=(W'.length:Int):=by rw[aP V V];omega
  let⟨ay,aQ⟩:=K5.un a aL;let⟨e,aA⟩:=dZ ay;have ab:=au aA;have bd:=(ai e ab).fl;let⟨d,hf,g0,g1,g2⟩:=(dF.ext X5 y).aG aA;rw[e1,an];have bB:=W5.le;refine⟨V,V,a,p2,V,V,?_⟩;rw[an];refine⟨e.aQ,g0,e.kG,g1,d,g2,?_⟩;intro p q;have F:J U q:=((J.aA U).aH _).ag (ad _) _ _;have s7:q.size=U.size+1:=by simp[q,p,aw]
  clear_value q;have F7:dz (λ_=>False) aa U aa q:=dz.eT _ F C5.new;have C7:dz (λk=>k=2\/k=6) B L aa q:=C5.trans (dz.eT _ F C5.new);have bw:=hf.len;have hz:gW mk 0 h a=0:=(K5.zero a ay).2 (Or.inr aL);have O7:=O5.set ay aQ hz;have aT:=λx=>NS (mk:=mk) (e:=0) aA (by rw[cE];exact aQ) x;simp only[cE]at aT;have es:=FH aQ ay;have bv:=Kn (od mk a) h.length;have K7:Hu h (od mk a) W' (λx=>gW (od mk a) 0 h x+eQ (e.aN.drop 0) x):=by
   have:=K5.VA;refine⟨this.Ly,this.un,λx T=>?_⟩;rw[<-this.zero x T,aT,List.drop_zero];constructor<;>intro h<;>omega
  refine⟨V,V,V,dV (σ:=O) (n:=e.aN.length) V (λl wk M=>∃b W2,dz (λk=>k=2\/k=6) aa q b M/\iA b M aD 1 2 A ((yF h.length (λx=>gW (od mk a) 0 h x+eQ (e.aN.drop l) x)).map Ce.i)/\iA b M aD 1 6 wk ((Vm W2).map Ce.i)/\Hu h (od mk a) W2 (λx=>gW (od mk a) 0 h x+eQ (e.aN.drop l) x))
   ⟨aa,W',dz.aA _ C7.new,?_,?_,K7⟩ ?_⟩
  .have:=A5.eY F7 id;rw[jK (g:=gW mk 0 h) λj _=>by simp only[aT,List.drop_zero];omega];exact this
  .exact p3.eY F7 id
  rintro l wk m8 I4 μ4 hj ⟨r,W2,C8,A8,W8,K8⟩ aU;have X8:=aN (C7.trans C8);have T8:=aJ C8;have r7:U.size<m8.size/\r U.size=0:=⟨by have:=C8.size;omega,by rw[C8.jc _ V];exact C5.new _ (ad _)⟩;refine dit (λQ=>?_) λQ=>?_
  .let⟨w,H⟩:=cK e.aN l;have ap:=au H;have ba:=aS e ab w ap;have a2:e.aN.drop l=w::e.aN.drop (l+1):=by
    rw[qy (az H)];congr 1;exact(List.getElem?_eq_some_iff.1 H).2
   obtain⟨f0,aR,_,_,w2⟩:=y.aG aA;have er:f0=d:=by have:=X5.af w2;rw[g2]at this;exact(O.Hl.1 (mq this)).symm
   subst er;refine⟨V,V,w,by simpa using(aR.ext X8).aG H,(hO (dF.ext X8 y) ba.2).mono ?_⟩;rintro _ m9 ⟨a4,b9,rfl,a0,bj,x9⟩;have z9:=x9.size;have F9:dz (λ_=>False) r m8 r m9:=dz.eT _ x9 C8.new;have C9:dz (λk=>k=2\/k=6) aa q r m9:=C8.trans (dz.eT _ x9 C8.new);have A9:=A8.eY F9 id;have W9:=W8.eY F9 id;refine⟨x9.dv bJ,a4,b9,rfl,λD=>?_,λD=>?_⟩
   .have ag:=a0.1 D;have ac:=az (bZ ag).1;have e9:=bj D;subst e9;have al:∀x,eQ (e.aN.drop l) x=(if x=ix w then 1 else 0)+eQ (e.aN.drop (l+1)) x:=λx=>by rw[a2,iT ag.1]
    have bb:=al (ix w);rw[aj rfl]at bb;have n1:=Gq (od mk a) 0 h (ix w);have n2:=bh (od mk a) (ix w);have n3:=iU (e.aN.drop (l+1)) (ix w);have n4:=lY (e.aN.drop (l+1)) (ix w);have n5:(e.aN.drop (l+1)).length<=3:=bJ;let⟨u1,u2,u3⟩:=XO (d:=λx=>gW (od mk a) 0 h x+eQ (e.aN.drop l) x) (g:=λx=>gW (od mk a) 0 h x+eQ (e.aN.drop (l+1)) x) A9 ac (v:=gW (od mk a) 0 h (ix w)+eQ (e.aN.drop (l+1)) (ix w)) (λj _=>by
     rw[al];by_cases u:j=ix w
     .subst u;rw[aj rfl]
     .rw[ae u,ae u];omega) C9.new
    refine⟨V,V,_,Wr A9 V ac,V,V,u1,?_⟩;rw[show cR (gW (od mk a) 0 h (ix w)+eQ (e.aN.drop l) (ix w) -1)=gW (od mk a) 0 h (ix w)+eQ (e.aN.drop (l+1)) (ix w)by rw[aP V V];omega];intro K;have av:dz (λk=>k=2\/k=6) aa q r K:=C9.trans (u3.mono λk z=>Or.inl z);have bF:K.size=m9.size:=aw _ _ _ _;have aK:iA r K aD 1 6 wk ((Vm W2).map Ce.i):=W9.eY u3 be;let⟨v1,v2⟩:=K8.mh (lf':=λx=>gW (od mk a) 0 h x+eQ (e.aN.drop (l+1)) x) ac (λx=>by
     rw[al];split<;>omega) (show 0<gW (od mk a) 0 h (ix w)+eQ (e.aN.drop l) (ix w)by omega)
    have a8:To r m9 r K:=u3.mono λk z=>V;have aW:iA r K aD 1 2 A ((yF h.length (λx=>gW (od mk a) 0 h x+eQ (e.aN.drop (l+1)) x)).map Ce.i):=u2;clear_value K;clear u2;refine⟨a8.dv (by simp;exact⟨V,r7.2⟩),V,V,_,Wr aW V ac,λR=>?_,λR=>aU V _ _ ⟨r,W2,av,aW,aK,v2 (by simpa using R)⟩⟩;intro am;have a7:J K am:=(J.aA K).aH _;have bn:cw am K.size 3 [.i (ix w:Int)]:=cw.push K _ _;have bG:am.size=K.size+1:=by simp[am]
    have aY:dz (λ_=>False) r K r am:=dz.eT _ a7 av.new;have aX:dz (λk=>k=2\/k=6) aa q r am:=av.trans (dz.eT _ a7 av.new);have bg:=aK.len;simp[Kp]at bg;have bx:=K8.len;exact iA.append (c:=[.i 0]) (d:=[.i (ix w:Int)]) (aK.eY aY id) aX.new aL bn.iF (by simp only[O.iS];omega) λbr q2 bE a9 aO=>⟨(aJ (aO.mono λl hj=>Or.inr hj)).dv (by simp;exact⟨V,r7.2⟩),aU V _ _ ⟨br,W2++[ix w],aX.trans (aO.mono λl hj=>Or.inr hj),(aW.eY aY id).eY aO be,by rw[KR];simpa using a9,v1 (by simpa using R)⟩⟩
   .have bi:w<1000:=(a1 e ab w ap).resolve_left (fb a0 D);have al:∀x,eQ (e.aN.drop (l+1)) x=eQ (e.aN.drop l) x:=λx=>by
     rw[a2];simp only[eQ];rw[ae V];omega
    refine aU V _ _ ⟨r,W2,C9,?_,W9,⟨K8.Ly,K8.un,λx T=>by rw[al];exact K8.zero x T⟩⟩;rw[jK (g:=λx=>gW (od mk a) 0 h x+eQ (e.aN.drop l) x) λj _=>by rw[al]];exact A9
  .have K:e.aN.drop l=[]:=I9 V;have D:∀x,gW (od mk a) 0 h x+eQ (e.aN.drop l) x=gW (od mk a) 0 h x:=λx=>by rw[K];simp[eQ]
   rw[show cR ((se mk h.length:Nat)+1:Int)=((se (od mk a) h.length:Nat):Int)by rw[es,aP V V];omega];refine X (od mk a,W2) _ _ m8 ⟨r,rfl,C7.trans C8,?_,W8,⟨K8.Ly,K8.un,λx T=>by have:=K8.zero x T;rw[D]at this;exact this⟩,O7⟩ (by simp only[];omega)
   rw[jK (g:=λx=>gW (od mk a) 0 h x+eQ (e.aN.drop l) x) λj _=>(D j).symm];exact A8
 .simp only[lx,bD]at C;have p:W=[]:=List.length_eq_zero_iff.1 V;subst p;have q:=Vx O5 ag λa o l=>((K5.zero a o).1 l).resolve_right aL;refine⟨_,_,rfl,?_,λ_=>⟨m.size,rfl,ad _,a5 C5⟩,X5⟩;rw[aE,show((se mk h.length:Nat):Int)=(N.len:Int)<->se mk h.length=h.length by omega,q];exact⟨λo=>⟨bm,bc,bk,o⟩,λz=>z.Oo⟩
end
section
variable{j:cg}{f:aU}{m d i:E}{r o e:O}{a b:Nat}
structure Sz(j:cg)(f:aU):Prop where
 eg:0<=f.eg/\f.eg<j.cC.length
 pc:0<=f.pc/\f.pc<(dC j f.eg).cX.length
 lr:(f.an.length:Int)=(dC j f.eg).an
 lo:(f.aR.length:Int)=(dC j f.eg).an
 lh:(f.aY.length:Int)=(dC j f.eg).an
 dx:∀(k:Nat)(w o:Int),f.an[k]? =some w->f.aR[k]? =some o->(iJ w\/1000<=w)/\(0<=o/\o<=999999)
def Sz.aR(h:Sz j f):∀o∈f.aR,0<=o/\o<=999999:=λo b=>by
 let⟨k,a⟩:=List.mem_iff_getElem?.1 b;have:=az a;have d:=h.lr;have e:=h.lo;let⟨w,c⟩:=cK f.an k;exact(h.dx k w o c a).2
def Ea{P Y:O}(R:eW m P Y j)(K:ar m r f.an)(z:ar m o f.aR)(he:ar m e f.aY):
 dR cq 80 [.agg #[O.v P,O.v Y],.agg #[vi f.eg,vi f.pc,vi f.dst,O.v r,O.v o,O.v e]] m (Sz j f):=by
 apply yQ
 simp -zeta only[aC,aB]
 intro L d
 have C:J m d:=((J.aA m).aH _).aH _
 have s1:L.size=m.size+1:=by simp[L]
 have s2:d.size=m.size+2:=by simp[d,s1]
 clear_value d
 have aj:=R.cC.len
 have al:=K.len
 have ag:=z.len
 have ae:=he.len
 have am:=K.iC
 refine⟨λy=>cT (λa=>by have:=a.eg;simp at y;omega) C,λy=>⟨λD=>cT (λa=>by have:=a.eg;simp at D;omega) C,λD=>?_⟩⟩
 simp at y D
 let⟨ac,U⟩:=cK j.cC f.eg.toNat
 have h:dC j f.eg=ac:=by simp[dC,U]
 let⟨pa,pl,pc,ah,ak,aa,k0,k1,k2,k3,k4⟩:=(R.ext C).cC.aG U
 have ai:=aa.len
 refine⟨y,V,pa,k0,pl,k1,_,k2,_,k3,pc,k4,?_⟩
 intro m3 s
 have x4:J d s:=((J.aA d).aH _).ag (ad _) _ _
 have s4:s.size=d.size+1:=by simp[s,m3,aw]
 clear_value s
 have c:=C.trans x4
 have hl:∀b∈[d.size,L.size,m.size],b<s.size:=bJ
 refine⟨λE=>cT (λa=>by have:=a.pc;simp at E;omega) c,λE=>⟨λF=>cT (λa=>by have:=a.pc;rw[h]at this;simp at F;omega) c,λF=>⟨λG=>cT (λa=>by have:=a.lr;rw[h]at this;simp at G;omega) c,λG=>⟨λH=>cT (λa=>by have:=a.lo;rw[h]at this;simp at H;omega) c,λH=>⟨λI=>cT (λa=>by have:=a.lh;rw[h]at this;simp at I;omega) c,λI=>?_⟩⟩⟩⟩⟩
 simp at E F G H I
 refine fm (n:=f.an.length) V (λk m'=>J s m'/\∀(g:Nat)(w o:Int),g<k->f.an[g]? =some w->f.aR[g]? =some o->(iJ w\/1000<=w)/\(0<=o/\o<=999999)) ⟨J.aA _,λg w o S=>absurd S (iv _)⟩ ?_
 rintro k X Z μ a ⟨N,W⟩ ab
 refine dit (λh8=>?_) λh8=>?_
 .let⟨w,i⟩:=cK f.an k
  let⟨t,v⟩:=cK f.aR k
  refine⟨V,V,w,by simpa using(K.ext (c.trans N)).aG i,(qX w X).aK N hl λb6 q Q an x=>⟨b6,rfl,?_⟩⟩
  have T:af q o.D (o.off+Int.toNat (k:Int)*1)=some (vi t):=by simpa using(z.ext (c.trans x)).aG v
  have kd:(iJ w\/1000<=w)->(0:Int)<=k/\(k:Int)<(o.len:Int)/\∃M:Int,af q o.D (o.off+Int.toNat (k:Int)*1)=some (vi M)/\((decide (M<(0:Int)))=true->∃l:Bool,vb false=.bool l/\(l=true<->Sz j f)/\J m q)/\
   ((decide (M<(0:Int)))=false->(0:Int)<=k/\(k:Int)<(o.len:Int)/\∃p:Int,af q o.D (o.off+Int.toNat (k:Int)*1)=some (vi p)/\((decide (p>(999999:Int)))=true->∃l:Bool,vb false=.bool l/\(l=true<->Sz j f)/\J m q)/\
   ((decide (p>(999999:Int)))=false->Z (cR ((k:Int)+(1:Int))) q/\μ (cR ((k:Int)+(1:Int))) q<μ k X)):=λhi=>
   ⟨V,V,t,T,λp=>cT (λa=>by have:=(a.dx k w t i v).2;simp at p;omega) (c.trans x),λp=>⟨V,V,t,T,λl=>cT (λa=>by have:=(a.dx k w t i v).2;simp at l;omega) (c.trans x),λl=>ab V _ ⟨x,λg w' o' S B A=>by
    rcases aZ g k with u|u
    .exact W g w' o' u B A
    .have:g=k:=V;subst this;rw[i]at B;rw[v]at A;simp at B A;subst B;subst A;simp at p l;exact⟨hi,V⟩⟩⟩⟩
  refine⟨λp=>⟨λl=>cT (λa=>?_) (c.trans x),λl=>kd (Or.inr (by simp at l;omega))⟩,λp=>kd (Or.inl (yb Q p))⟩
  rcases(a.dx k w t i v).1 with u|u
  .exact nb Q p u
  .simp at l;omega
 .refine jU ⟨V,by rw[h];omega,by rw[h];omega,by rw[h];omega,by rw[h];omega,λg w o i z=>W g w o (oh (az i)) i z⟩ (c.trans N)
structure JC(a b:Nat)(m m':E):Prop where
 size:m.size<=m'.size
 same:∀c,c<m.size->c≠a->c≠b->m'[c]? =m[c]?
def JC.aA(a b:Nat)(m:E):JC a b m m:=⟨ad _,λ_ _ _ _=>rfl⟩
def JC.ext{g:E}(h:JC a b m g)(f:J g d):JC a b m d:=⟨bX h.size f.size,λc e i j=>by rw[f.same c (aO e h.size)];exact h.same c e i j⟩
def JC.trans{j:E}(h:JC a b m j)(i:JC a b j d):JC a b m d:=⟨bX h.size i.size,λc g e f=>by rw[i.same c (aO g h.size) e f];exact h.same c g e f⟩
def JC.ag{d:E}(h:JC a b m d){c:Nat}(i:c=a\/c=b)(o:Nat)(l:List Ce):JC a b m (ag d c o l):=
 ⟨by rw[aw];exact h.size,λx j f g=>by rw[bo l d c o (by rcases i with e|e<;>rw[e]<;>assumption)];exact h.same x j f g⟩
def JC.Hh{f:E}(h:JC a b m f)(c:J i m)(g:i.size<=a)(j:i.size<=b):J i f:=
 ⟨bX c.size h.size,λd e=>by rw[h.same d (c.lt e) V V];exact c.same d e⟩
structure Xw(h:List bO)(f:aU):Prop where
 aR:∀(k:Nat)(w o:Int),f.an[k]? =some w->f.aR[k]? =some o->0<o->gC h w
 aY:∀w∈f.aY,w≠0->1000<=w/\∃c,h[ix w]? =some c/\c.aQ<0
def VI{w:Int}{n:Nat}(b:MJ w)(f:n<=1000000000):(0<=cR (w -1000)/\cR (w -1000)<n)<->(1000<=w/\ix w<n):=by
 let⟨c,d⟩:=b;rcases I8 w (-9223372036854774808)with a|a
 .have e:cR (w -1000)=w -1000+18446744073709551616:=by
   unfold cR;rw[IntKind.wrap_i64];omega
  unfold ix;rw[e];constructor<;>intro h<;>omega
 .unfold ix;rw[aP V V];omega
structure On(m:E)(ob hb n:Nat)(fo fh:Nat->Int):Prop where
 aR:cw m ob aD ((yF n fo).map Ce.i)
 aY:cw m hb aD ((yF n fh).map Ce.i)
 ne:ob≠hb
def MW{hp:O}{h:List bO}{p c:Nat}{l fh:Nat->Int}(x0:J i m)(hh:dF i hp h)(hr:ar i r f.an)(B:ar i o f.aR)(he:ar i e f.aY)(ai:i.size<=p)(ah:i.size<=c)(T:On m p c h.length l fh)
 (ag:U1 f)(ax:h.length<=1000000000)(aq:f.an.length=f.aR.length/\f.aY.length=f.aR.length/\f.aR.length<=10000000)(ak:∀o∈f.aR,0<=o/\o<=999999)(ap:∀a,0<=l a/\l a<=1000000000000000)(ao:∀a,0<=fh a/\fh a<=1000000000):
 aM cq 81 [.agg #[vi f.eg,vi f.pc,vi f.dst,O.v r,O.v o,O.v e],O.v hp,O.v (.mk p 0 h.length h.length),O.v (.mk c 0 h.length h.length)] m λv D=>
  ∃b:Bool,v=vb b/\(b=true<->Xw h f)/\(b=true->On D p c h.length (λa=>l a+dq f.an f.aR a) (λa=>fh a+eQ f.aY a))/\JC p c m D:=by
 apply xy
 simp -zeta only[aC,aB]
 intro I
 have x1:J m I:=(J.aA m).aH _
 have s1:I.size=m.size+1:=by simp[I]
 clear_value I
 have aJ:=hr.len
 have aH:=B.len
 have aF:=he.len
 have aG:=hh.len
 let⟨aA,aD,aE⟩:=aq
 have aN:=T.aR.lt
 have aK:=T.aY.lt
 simp -zeta only[O.iS,O.jB,O.tH,cE]
 have S:∀ac:Nat,Int.toNat (ac:Int)=ac:=λac=>V
 refine fm (n:=f.aR.length) V (λk D=>JC p c m D/\m.size<D.size/\On D p c h.length (λa=>l a+dq (f.an.take k) (f.aR.take k) a) (λa=>fh a+eQ (f.aY.take k) a)/\(∀(j:Nat)(w o:Int),j<k->f.an[j]? =some w->f.aR[j]? =some o->0<o->gC h w)/\
  (∀w∈f.aY.take k,w≠0->1000<=w/\∃s,h[ix w]? =some s/\s.aQ<0)) ⟨(JC.aA _ _ _).ext x1,V,by simpa[dq,eQ]using(⟨T.aR.ext x1,T.aY.ext x1,T.ne⟩:On I p c h.length l fh),λj w o hj=>absurd hj (iv _),aL⟩ ?_
 rintro k d ay μ hk ⟨t2,z2,q,q2,p2⟩ am
 have Q:=t2.Hh x0 ai ah
 rw[S,iu]
 refine dit (λh1=>?_) λh1=>?_
 .let⟨w,u⟩:=cK f.an k
  let⟨t,C⟩:=cK f.aR k
  let⟨v,y⟩:=cK f.aY k
  have gw:∀{M:E},J i M->af M r.D (r.off+k)=some (vi w):=λH=>by simpa using(hr.ext H).aG u
  have gq:∀{M:E},J i M->af M o.D (o.off+k)=some (vi t):=λH=>by simpa using(B.ext H).aG C
  have gv:∀{M:E},J i M->af M e.D (e.off+k)=some (vi v):=λH=>by simpa using(he.ext H).aG y
  have al:=ag.2.2 v (au y)
  have aI:=ak t (au C)
  refine⟨V,V,t,gq Q,λM=>JC p c d M/\m.size<M.size/\On M p c h.length (λa=>l a+dq (f.an.take (k+1)) (f.aR.take (k+1)) a) (λa=>fh a+eQ (f.aY.take k) a)/\(0<t->gC h w),⟨λW=>?_,λW=>?_⟩,?_⟩
  .have F:0<t:=by simpa using W
   refine⟨V,V,w,gw Q,(hO (dF.ext Q hh) (ag.1 w (au u)).2).mono ?_⟩
   rintro _ m3 ⟨a,b3,rfl,N,U,z⟩
   have z3:=z.size
   refine⟨z.dv bJ,a,b3,rfl,λx=>⟨false,rfl,?_,aL,t2.ext z⟩,λx=>?_⟩
   .simp only[ig,false_iff]
    exactλht=>nb N x (ht.aR k w t u C F)
   have L:=yb N x
   have P:=az (bZ L).1
   have K:=U (by simpa using x)
   subst K
   have A:=q.aR.ext z
   have R:=q.aY.ext z
   have q1:=LC (an:=f.an.take k) (aR:=f.aR.take k) (n:=999999) V (λo B=>ak o (gB B)) (ix w)
   have X:(f.aR.take k).length<=10000000:=bJ
   have Y:=ap (ix w)
   rw[S,iu]
   refine⟨V,V,_,Fo A P,V,V,UC A P,?_⟩
   rw[show cR (l (ix w)+dq (f.an.take k) (f.aR.take k) (ix w)+t)=l (ix w)+dq (f.an.take k) (f.aR.take k) (ix w)+t from aP V V]
   have G:=RF A (ix w) (l (ix w)+dq (f.an.take k) (f.aR.take k) (ix w)+t)
   rw[jK (g:=λa=>l a+dq (f.an.take (k+1)) (f.aR.take (k+1)) a)]at G
   .exact⟨λb Z=>bo _ _ _ _ (by simp at Z;omega),((JC.aA _ _ _).ext z).ag (Or.inl rfl) _ _,by rw[aw];omega,⟨G,R.congr (bo _ _ _ _ λe=>q.ne e.symm),q.ne⟩,λ_=>L⟩
   .intro b c
    rw[Ei u C]
    by_cases e:b=ix w
    .subst e;rw[aj rfl,aj (iV L.1).symm];omega
    .rw[ae e,ae (λab=>e (by rw[ab,ng]))];omega
  .have F:t=0:=by simp at W;omega
   refine⟨JC.aA _ _ _,z2,⟨?_,q.aY,q.ne⟩,λhp=>V⟩
   rw[jK (g:=λa=>l a+dq (f.an.take k) (f.aR.take k) a)]
   .exact q.aR
   .intro b c;rw[Ei u C,F];split<;>omega
  rintro m3 ⟨t3,z3,z,av⟩
  have F:=t2.trans t3
  have R:=F.Hh x0 ai ah
  have jT:∀(j:Nat)(w o:Int),j<k+1->f.an[j]? =some w->f.aR[j]? =some o->0<o->gC h w:=λj w' o' hj P N=>by
   rcases aZ j k with A|A
   .exact q2 j w' o' A P N
   .have:j=k:=V;subst this;rw[u]at P;rw[C]at N;simp at P N;subst P;subst N;exact av
  have aa:=VI (n:=h.length) al ax
  refine⟨V,V,v,gv R,λx=>⟨V,V,v,gv R,?_⟩,λx=>?_⟩
  .have X:v≠0:=by simpa using x
   have ad:∀{M:E},JC p c m M->¬(1000<=v/\∃s,h[ix v]? =some s/\s.aQ<0)->∃b:Bool,vb false=vb b/\(b=true<->Xw h f)/\(b=true->On M p c h.length (λa=>l a+dq f.an f.aR a) (λa=>fh a+eQ f.aY a))/\JC p c m M:=λht hn=>
    ⟨false,rfl,by simp only[ig,false_iff];exactλhk=>hn (hk.aY v (au y) X),aL,ht⟩
   refine⟨λL=>ad F λ⟨g1,s,g2,_⟩=>?_,λL=>⟨λY=>ad F λ⟨g1,s,g2,_⟩=>?_,λY=>?_⟩⟩
   .have:=(aa.2 ⟨g1,az g2⟩).1;simp at L;omega
   .have:=(aa.2 ⟨g1,az g2⟩).2;simp at Y;omega
   simp at L Y
   let⟨g1,g2⟩:=aa.1 ⟨L,V⟩
   have ew:cR (v -1000)=(ix v:Nat):=by have:=al.2;unfold ix;rw[aP V V];omega
   rw[ew,S]
   let⟨s,hc⟩:=dZ g2
   obtain⟨cf,_,c0,_,_⟩:=(dF.ext R hh).aG hc
   refine⟨V,V,s.aQ,c0,λA=>ad F λ⟨_,c',U,g4⟩=>?_,λA=>?_⟩
   .rw[hc]at U;simp at U;subst U;simp at A;omega
   have q1:=ao (ix v)
   have q2:=lY (f.aY.take k) (ix v)
   have q3:=iU (f.aY.take k) (ix v)
   have q4:(f.aY.take k).length<=10000000:=bJ
   rw[iu]
   refine⟨V,V,_,Fo z.aY g2,V,V,UC z.aY g2,?_⟩
   rw[show cR (fh (ix v)+eQ (f.aY.take k) (ix v)+1)=fh (ix v)+eQ (f.aY.take k) (ix v)+1 from aP V V]
   have G:=RF z.aY (ix v) (fh (ix v)+eQ (f.aY.take k) (ix v)+1)
   rw[jK (g:=λa=>fh a+eQ (f.aY.take (k+1)) a)]at G
   .refine⟨λb Z=>bo _ _ _ _ (by simp at Z;omega),am V _ ⟨F.ag (Or.inr rfl) _ _,by rw[aw];exact z3,⟨z.aR.congr (bo _ _ _ _ q.ne),G,q.ne⟩,jT,bY y p2 λ_=>⟨g1,s,hc,by simp at A;omega⟩⟩⟩
   .intro b c
    rw[Gl y]
    by_cases e:b=ix v
    .subst e;rw[aj rfl,aj (iV g1).symm];omega
    .rw[ae e,ae (λab=>e (by rw[ab,ng]))];omega
  .have X:v=0:=by simpa using x
   refine am V _ ⟨F,z3,⟨z.aR,?_,q.ne⟩,jT,bY y p2 λG=>absurd X G⟩
   rw[jK (g:=λa=>fh a+eQ (f.aY.take k) a)]
   .exact z.aY
   .intro b c;rw[Gl y,ae V];omega
 .have t:f.an.take k=f.an:=cJ V
  have x:f.aR.take k=f.aR:=cJ V
  have K:f.aY.take k=f.aY:=cJ V
  rw[t,x,K]at q
  rw[K]at p2
  exact⟨true,rfl,by simp only[true_iff];exact⟨λj w o u B=>q2 j w o (oh (az u)) u B,p2⟩,λ_=>q,t2⟩
end
section
def Xm(a:List aU)(k:Nat)(f:aU):Prop:=(Ao a k=none->f.dst=0)/\∀p,Ao a k=some p->0<=f.dst/\f.dst<p.aR.length/\aG p.aR f.dst=0
structure Tu(im:cg)(s:St)(k:Nat)(f:aU):Prop where
 v:Sz im f
 dst:Xm s.av k f
 ZO:Xw s.heap f
def Tu.ok{c:cg}{s:St}{k:Nat}{f:aU}(h:Tu c s k f):Tt c s.heap (Ao s.av k) f:=
 ⟨h.v.eg,h.v.pc,h.v.lr,h.v.lo,h.v.lh,⟨λj w o b a=>⟨(h.v.dx j w o b a).1,(h.v.dx j w o b a).2,h.ZO.aR j w o b a⟩⟩,h.dst.1,h.dst.2⟩
def Px.w{m:cg}{s:St}(h:Px m s){k:Nat}{f:aU}(d:s.av[k]? =some f):Tu m s k f:=by
 have F:=h.av k f d;refine⟨⟨F.eg,F.pc,F.lr,F.lo,F.lh,λj w o b c=>⟨(F.an.dx j w o b c).1,(F.an.dx j w o b c).2.1⟩⟩,⟨F.first,F.next⟩,λj w o b c=>(F.an.dx j w o b c).2.2,λw b q=>?_⟩;let⟨g,n⟩:=(h.aY.cN f (au d) w b).resolve_left q;let⟨e,i⟩:=dZ n;refine⟨g,e,i,Int.not_le.1 λp=>?_⟩;have r:=h.aY.nL _ e i p;have t:=P3 (au d) (b:=ix w);have u:=uS (l:=f.aY) (f:=ix w) (by rw[iV g];exact b);omega
section
variable{m:E}{d p aW c b:O}{a:cg}{s:St}
def Ef(aS:eW m d p a)(a0:iE a)(Q:gQ m aW c b s)(ab:Oi s):dR cq 44 [.agg #[O.v d,O.v p],UW s aW c b] m (db a s):=by
 apply yV;simp -zeta only[aC,aB];intro m1 L;have x2:J m L:=((J.aA m).aH _).aH _;have s1:m1.size=m.size+1:=by simp[m1]
 have s2:L.size=m.size+2:=by simp[L,s1]
 clear_value L;have hl:∀x∈[m1.size,m.size],x<L.size:=bJ;have aQ:=Q.av.len;have a_:=Q.heap.len;have ba:=ab.lh;have t:∀{M:E},J L M->¬Px a s->∃A:Bool,vb false=.bool A/\(A=true<->db a s)/\J m M:=λhx I=>cT (λh=>I (QV h)) (x2.trans hx);have aq:(s.av=[])<->((b.len:Int)=0):=by rw[aQ];simp
 refine⟨λM=>J L M/\(0<=s.bI/\s.bI<=3)/\(s.bI=0<->s.av=[])/\iJ s.value/\(s.value≠0->s.bI=0),?_,?_⟩
 .refine⟨λy=>t (J.aA _) λi=>by have:=i.bI;simp at y;omega,λy=>⟨λv=>t (J.aA _) λi=>by have:=i.bI;simp at v;omega,λv=>⟨λF=>t (J.aA _) λi=>?_,λF=>?_⟩⟩⟩
  .have:=i.done;rw[aq,<-PF]at this;rw[this]at F;cases F
  have ah:0<=s.bI/\s.bI<=3:=by simp at y v;omega
  have ag:s.bI=0<->s.av=[]:=by rw[aq];exact(PF _ _).1 F
  refine(qX _ _).aK (J.aA _) hl λb3 m3 e C _=>⟨b3,rfl,λz=>t C λi=>nb e z i.value,λz=>⟨λf=>⟨λh=>t C λi=>?_,λh=>⟨C,ah,ag,yb e z,λ_=>by simpa using h⟩⟩,λf=>⟨C,ah,ag,yb e z,λh=>by simp at f;exact absurd f h⟩⟩⟩;have:=i.vL (by simpa using f);simp at h;exact h this
 rintro m3 ⟨C,ah,ag,hv,a3⟩;refine⟨λy=>t C λi=>by have:=i.bq;simp at y;omega,λy=>⟨λv=>t C λi=>by have:=i.bq;simp at v;omega,λv=>⟨λF=>t C λi=>by have:=i.bC;simp at F;omega,λF=>⟨λz=>t C λi=>by have:=i.bC;simp at z;omega,λz=>?_⟩⟩⟩⟩;have aV:0<=s.bq/\s.bq<=40:=by simp at y v;omega
 have aM:0<=s.bC/\s.bC<=s.bq:=by simp at F z;omega
 rw[aP V V];refine⟨λf=>t C λi=>by have:=i.depth;simp at f;omega,λf=>?_⟩;have aN:(s.av.length:Int)<=s.bC+1:=by simp at f;omega
 clear y v F z f;have X3:=x2.trans C;refine(sI (Q.ext X3).heap ab.heap V).mono ?_;rintro _ m4 ⟨ct,b4,rfl,ao,a2,aE⟩;have x4:=C.trans aE;have z4:=x4.size;have z3:=C.size;refine⟨aE.dv λx H=>C.lt (hl x H),ct,b4,rfl,λy=>t x4 λi=>nb ao y i.heap,λy=>?_⟩;have av:=yb ao y;obtain⟨ob,rfl,bb,B4⟩:=a2 (by simpa using y);have bg:=B4.lt;refine(iX (Q.ext (x2.trans x4)).aW 79 #[] #[] be (λai=>¬iJ ai) (λai _ m' hx=>?_)).aK x4 hl ?_
 .apply wy;refine(qX _ _).then λx G H x5=>⟨x,rfl,fI ?_ x5⟩;rw[<-H];simp
 intro b5 G ap aF x5;have z5:=x5.size;have bh:=aF.size;refine⟨b5,rfl,λv=>t x5 λi=>?_,λv=>?_⟩
 .let⟨ai,hx,I⟩:=ap.1 v;exact I (i.aW ai hx)
 have a1:∀Z∈s.aW,iJ Z:=λZ I=>dB λB=>by have:=ap.2 ⟨Z,I,B⟩;rw[v]at this;cases this
 have en:Int.toNat (c.len:Int)=s.heap.length:=V;rw[en];refine⟨V,V,V,V,?_⟩;intro R;have aH:J G R:=(J.aA G).aH _;have s6:R.size=G.size+1:=by simp[R]
 have H6:cw R G.size aD ((yF s.heap.length (λ_=>0)).map Ce.i):=UB G _;clear_value R;have x6:=x5.trans aH;have X6:=x2.trans x6;have T6:On R ob G.size s.heap.length (fH s.heap) (λ_=>0):=⟨B4.ext (aF.trans aH),H6,V⟩;have aX:m.size<=ob:=by have:=X3.size;omega
 have ak:∀Z:Nat,Int.toNat (Z:Int)=Z:=λZ=>V;have a9:s.av.length<=41:=V;have rb:∀e,0<=fH s.heap e/\fH s.heap e<=3*s.heap.length:=λe=>⟨uV _ _,Kv _ _ λo B=>(av.cells o B).fl⟩;refine fm (n:=s.av.length) V (λj M=>JC ob G.size R M/\On M ob G.size s.heap.length (λe=>fH s.heap e+gU (s.av.take j) e) (λe=>eS (s.av.take j) e)/\∀(q:Nat)(l:aU),q<j->s.av[q]? =some l->Tu a s q l)
  ⟨JC.aA _ _ _,by simpa[gU,eS]using T6,λq l K=>absurd K (iv _)⟩ ?_
 rintro j W a8 μ i ⟨t7,N,al⟩ a4
 have x7:J L W:=t7.Hh x6 V V;have P:=x2.trans x7;have bd:∀x∈[m1.size,m.size],x<W.size:=λx H=>x7.lt (hl x H);have z7:=x7.size;have bf:=N.aR.lt;have bc:=N.aY.lt;rw[ak];refine dit (λF=>?_) λF=>?_
 .let⟨l,r⟩:=cK s.av j;have ar:=au r;let⟨a6,a5,ac,hr,ho,U,g0,g1,g2,g3,g4,g5⟩:=Q.av.aG r;refine⟨V,V,_,P.af g0,_,P.af g1,_,P.af g2,a6,P.af g3,a5,P.af g4,ac,P.af g5,?_⟩;intro X Y;have T:J W Y:=((J.aA W).aH _).ag (ad _) _ _;have s9:Y.size=W.size+1:=by simp[Y,X,aw]
  clear_value Y;have X9:=P.trans T;have l9:∀x∈[W.size,m1.size,m.size],x<Y.size:=bJ;refine(Ea (aS.ext X9) (hr.ext X9) (ho.ext X9) (U.ext X9)).aK (J.aA _) l9 λaJ w am D _=>⟨aJ,rfl,λz=>t ((x7.trans T).trans D) λi=>nb am z (i.w r).v,λz=>?_⟩;have hV:=yb am z;have S:=(x7.trans T).trans D;have ae:=x2.trans S;refine⟨λM=>w=M/\Xm s.av j l,?_,?_⟩
  .have ax:(cR ((j:Int) -1)=((j -1:Nat):Int))\/j=0:=by
    rcases j8 j with f|f
    .exact Or.inr f
    .exact Or.inl (by rw[aP V V];omega)
   have kd:0<j->((decide (l.dst<(0:Int)))=true->∃A:Bool,vb false=.bool A/\(A=true<->db a s)/\J m w)/\((decide (l.dst<(0:Int)))=false->
    (0:Int)<=(cR ((j:Int) -(1:Int)))/\(cR ((j:Int) -(1:Int)))<(b.len:Int)/\
    ∃aa:O,af w b.D (b.off+Int.toNat (cR ((j:Int) -(1:Int)))*6+4)=some (O.v aa)/\
    ((decide (l.dst>=(aa.len:Int)))=true->∃A:Bool,vb false=.bool A/\(A=true<->db a s)/\J m w)/\
    ((decide (l.dst>=(aa.len:Int)))=false->(0:Int)<=(cR ((j:Int) -(1:Int)))/\(cR ((j:Int) -(1:Int)))<(b.len:Int)/\
    ∃u:O,af w b.D (b.off+Int.toNat (cR ((j:Int) -(1:Int)))*6+4)=some (O.v u)/\
    (0:Int)<=l.dst/\l.dst<(u.len:Int)/\∃aj:Int,af w u.D (u.off+Int.toNat l.dst*1)=some (vi aj)/\
    ((aj !=(0:Int))=true->∃A:Bool,vb false=.bool A/\(A=true<->db a s)/\J m w)/\((aj !=(0:Int))=false->w=w/\Xm s.av j l))):=λaL=>by
    have e1:=ax.resolve_right V
    rw[e1,ak]
    obtain⟨q,rfl⟩:∃q,j=q+1:=⟨j -1,V⟩
    have ej:q+1 -1=q:=V
    rw[ej]
    let⟨pf,aj⟩:=cK s.av q
    let⟨pr,po,pe,aO,an,aI,y0,y1,y2,y3,y4,y5⟩:=Q.av.aG aj
    have aK:=an.len
    have aa:Ao s.av (q+1)=some pf:=aj
    refine⟨λf=>t S λi=>?_,λf=>⟨V,V,po,ae.af y4,λh=>t S λi=>?_,λh=>⟨V,V,po,ae.af y4,by simpa using f,by simp at h;omega,aG pf.aR l.dst,?_,λu=>t S λi=>?_,λu=>⟨rfl,⟨λI=>(by rw[aa]at I;cases I),λaA hq=>?_⟩⟩⟩⟩⟩
    .have:=((i.w r).dst.2 pf aa).1;simp at f;omega
    .have:=((i.w r).dst.2 pf aa).2.1;simp at h;omega
    .simp at f h
     exact(an.ext ae).pM f V
    .have:=((i.w r).dst.2 pf aa).2.2;simp at u;exact u this
    .rw[aa]at hq;simp at hq;subst hq
     simp at f h u;exact⟨f,V,u⟩
   refine⟨λf=>⟨λh=>t S λay=>?_,λh=>⟨λu=>by simp at f u;omega,λu=>⟨rfl,⟨λ_=>by simpa using h,λaA hq=>?_⟩⟩⟩⟩,λf=>⟨λh=>kd (by simp at h;omega),λh=>by simp at f h;omega⟩⟩
   .simp at f;subst f;have:=(ay.w r).dst.1 rfl;simp at h;exact h this
   .simp at f;subst f;simp[Ao]at hq
  .rintro _ ⟨rfl,hD⟩;have aT:=ab.lr l ar;have v1:=hV.lr;have v2:=hV.lo;have v3:=hV.lh;have vQ:=D.size;have aI:On w ob G.size s.heap.length (λe=>fH s.heap e+gU (s.av.take j) e) (λe=>eS (s.av.take j) e):=⟨N.aR.ext (T.trans D),N.aY.ext (T.trans D),N.ne⟩;have aR:∀e,0<=fH s.heap e+gU (s.av.take j) e/\fH s.heap e+gU (s.av.take j) e<=1000000000000000:=λe=>by
    have q1:=rb e;have q2:=Sj (a:=s.av.take j) (n:=10000000) (k:=999999) V (λaa u=>⟨(ab.lr aa (gB u)).2.1,by
     let⟨q,K⟩:=List.mem_iff_getElem?.1 u;have aj:q<j:=by have:=az K;simp at this;omega
     rw[dH aj]at K;exact(al q aa aj K).v.aR⟩) e
    have q3:(s.av.take j).length<=41:=bJ;omega
   have aO:∀e,0<=eS (s.av.take j) e/\eS (s.av.take j) e<=1000000000:=λe=>by
    have q2:=P4 (a:=s.av.take j) (n:=10000000) (λaa u=>(ab.lr aa (gB u)).2.2) e;have q3:(s.av.take j).length<=41:=bJ;have q4:=zX (s.av.take j) e;omega
   refine(MW (i:=m) ae Q.heap hr ho U aX V aI (ab.av l ar) V ⟨V,V,aT.2.1⟩ hV.aR aR aO).mono ?_;rintro _ ax ⟨aK,rfl,an,aL,ay⟩;have aA:JC ob G.size R ax:=(t7.ext (T.trans D)).trans ay;have a7:J L ax:=aA.Hh x6 V V;refine⟨λx H=>ay.same x (D.lt (l9 x H)) (by simp at H;omega) (by simp at H;omega),aK,rfl,λf=>t a7 λi=>nb an f (i.w r).ZO,λf=>a4 V _ ⟨aA,?_,λq aa K u=>?_⟩⟩
   .have aj:=aL (by simpa using f);refine⟨?_,?_,aj.ne⟩
    .rw[jK (g:=λe=>fH s.heap e+gU (s.av.take j) e+dq l.an l.aR e)]
     .exact aj.aR
     .intro x H;rw[SX r];omega
    .rw[jK (g:=λe=>eS (s.av.take j) e+eQ l.aY e)]
     .exact aj.aY
     .intro x H;rw[Rf r]
   .rcases aZ q j with h|h
    .exact al q aa h u
    .have:q=j:=V;subst this;rw[r]at u;simp at u;subst u;exact⟨hV,hD,yb an f⟩
 rw[cJ V]at N;have hW:∀(q:Nat)(l:aU),s.av[q]? =some l->Tu a s q l:=λq l r=>al q l (oh (az r)) r;refine fm (n:=s.heap.length) V (λj M=>J W M/\∀(e:Nat)(o:bO),e<j->s.heap[e]? =some o->(0<o.aQ->o.aQ=fH s.heap e+gU s.av e)/\(o.aQ<0->eS s.av e=1)) ⟨J.aA _,λe o ha=>absurd ha (iv _)⟩ ?_;rintro u X I2 μ2 ar ⟨x8,aj⟩ an;have X8:=P.trans x8;rw[ak];refine dit (λz=>?_) λz=>?_
 .have ae:u<s.heap.length:=V;let⟨o,aa⟩:=dZ ae;obtain⟨l,_,g0,g1,g2⟩:=Q.heap.aG aa;refine⟨λM=>J X M/\(0<o.aQ->o.aQ=fH s.heap u+gU s.av u)/\(o.aQ<0->eS s.av u=1),?_,?_⟩
  .refine⟨V,V,_,X8.af g0,_,X8.af g1,l,X8.af g2,?_⟩;intro Y w;have D:J X w:=((J.aA X).aH _).ag (ad _) _ _;clear_value w;have S:=(x7.trans x8).trans D;have go:=Fo (N.aR.ext (x8.trans D)) ae;have gh:=Fo (N.aY.ext (x8.trans D)) ae;simp -zeta only[O.iS,O.jB,O.tH,cE,iu];have aY:(0<o.aQ->o.aQ=fH s.heap u+gU s.av u)->((decide (o.aQ<(0:Int)))=true->(0:Int)<=u/\(u:Int)<(s.heap.length:Int)/\∃am:Int,af w G.size u=some (vi am)/\
    ((am !=(1:Int))=true->∃A:Bool,vb false=.bool A/\(A=true<->db a s)/\J m w)/\((am !=(1:Int))=false->J X w/\(0<o.aQ->o.aQ=fH s.heap u+gU s.av u)/\(o.aQ<0->eS s.av u=1)))/\
    ((decide (o.aQ<(0:Int)))=false->J X w/\(0<o.aQ->o.aQ=fH s.heap u+gU s.av u)/\(o.aQ<0->eS s.av u=1)):=λB=>
    ⟨λf=>⟨V,V,_,gh,λh=>t S λi=>by have:=i.aY.lD u o aa (by simpa using f);simp at h;exact h this,λh=>⟨D,B,λ_=>by simpa using h⟩⟩,λf=>⟨D,B,λh=>by simp at f;omega⟩⟩
   refine⟨λf=>⟨V,V,_,go,λh=>t S λi=>?_,λh=>aY λ_=>by simpa using h⟩,λf=>aY λh=>by simp at f;omega⟩;have:=i.Uc u o aa (by simpa using f);simp at h;exact h this
  .rintro Y ⟨T,w,D⟩;refine an V _ ⟨x8.trans T,λe ac ha U=>?_⟩;rcases aZ e u with h|h
   .exact aj e ac h U
   .have:e=u:=V;subst this;rw[aa]at U;simp at U;subst U;exact⟨w,D⟩
 .refine jU (RD ⟨a0,ah,ag,hv,a3,aV,aM,aN,a1,av,λq l r=>(hW q l r).ok,⟨λl r w h=>?_,λS o B I=>(aj S o (oh (az B)) B).2 I,λS o B I=>?_⟩,λe o B c=>(aj e o (oh (az B)) B).1 c⟩) X8
  .let⟨q,K⟩:=HQ r;by_cases D:w=0
   .exact Or.inl D
   .obtain⟨y,o,v,_⟩:=(hW q l K).ZO.aY w h D;exact Or.inr ⟨y,az v⟩
  .refine Lg λl r w h ac=>?_;let⟨q,K⟩:=HQ r;let⟨y,D,v,F⟩:=(hW q l K).ZO.aY w h V;rw[ac,ng,B]at v;simp at v;subst v;omega
def DX(k:eW m d p a)(r:gQ m aW c b s)(q:Oi s):dR cq 21 [.agg #[O.v d,O.v p],UW s aW c b] m (db a s):=by
 apply yN;simp -zeta only[aC,aB];intro i e;have f:J m e:=((J.aA m).aH _).aH _;have t:i.size=m.size+1:=by simp[i]
 have x:e.size=m.size+2:=by simp[e,t]
 clear_value e;have l:∀n∈[i.size,m.size],n<e.size:=bJ;refine(oL (k.ext f)).aK (J.aA _) l λb3 v j g _=>⟨b3,rfl,λh=>?_,λh=>cT (λo=>fb j h o.fA) (f.trans g)⟩;refine(Ef (k.ext (f.trans g)) (j.1 h) (r.ext (f.trans g)) q).aK g l λb4 w o y u=>⟨b4,rfl,fI o (f.trans u)⟩
end
end
end Go.Proofs.YtkoifinbblcbiaaGreat
section
namespace Go.Vc
def fX.kL{m:E}{b o:Nat}{l r:List Ce}(h:fX m b o l)(k:fX m b (o+l.length) r):fX m b o (l++r):=λi d a=>by
 rcases aZ i l.length with c|c
 .rw[ax c]at a;exact h i d a
 .rw[aF c]at a;have:=k _ d a;rwa[show o+l.length+(i -l.length)=o+i by omega]at this
def eR.Us{α:Type}{m:E}{c:Nat}{R:List Ce->α->Prop}{s:O}{l:List α}(h:eR m c R s l)(j:∀d x,R d x->d.length=c):∃a,gE c R a l/\fX m s.D s.off a.flatten:=by
 have:∀k,k<=l.length->∃a,gE c R a (l.take k)/\fX m s.D s.off a.flatten:=by
  intro k;induction k with
  |zero=>intro _;exact⟨[],by simpa using gE.nil c R,λi e b=>by simp at b⟩
  |succ k o=>
   intro p;let⟨a,b,e⟩:=o V;let⟨x,g⟩:=cK l k;let⟨d,f,i⟩:=h.iF k x g;refine⟨a++[d],by rw[bd g];exact b.yY (j d x f) f,?_⟩;rw[qR];refine e.kL ?_;have n:a.flatten.length=k*c:=by rw[cp b.size,b.len,gG,jd V]
   rw[n];simpa using i
 let⟨a,b,e⟩:=this l.length (ad _);rw[fy]at b;exact⟨a,b,e⟩
end Go.Vc
namespace Go.Proofs.YtkoifinbblcbiaaGreat
open Go.Vc
variable{m:E}{s:O}{d:Nat->Nat}
def gY.LN{a:E}{l:List Ce}{e n:Nat}(f:gY m a e n s l)(j:J m a)(i:∀b,m.size<=b->d b=0)(k:Nat):∃c,dz (λ_=>False) d m c a/\iA c a e n k s l/\∀b,c b=d b\/c b=k:=by
 rcases f.aG with h|⟨b,g,tail,h,h2,h3,h4,h5⟩
 .exact⟨d,dz.eT _ j i,iA.gK f λo=>absurd h o,λb=>Or.inl rfl⟩
 .refine⟨pu d b k,dz.pu j i h2 h3.lt k,iA.gK f λ_=>by rw[h];exact fQ _ _ _,λg=>?_⟩;by_cases e:g=b
  .rw[e];exact Or.inr (fQ _ _ _)
  .exact Or.inl (ez e)
structure Z0(N:Nat)(d:Nat->Nat)(m:E)(r:O)(h:List bO)(css0 css:List (List Ce))(k:Nat):Prop where
 pB:iA d m nD 3 3 r css.flatten
 len:css.length=h.length
 size:∀cs∈css,cs.length=3
 done:∀(j:Nat)(cs:List Ce)(c:bO),j<k->css[j]? =some cs->h[j]? =some c->yo N d m cs c
 kd:∀j,k<=j->css[j]? =css0[j]?
 sep:∀(i j:Nat)(ci cj:List Ce)(a b:O),i<k->j<k->css[i]? =some ci->css[j]? =some cj->ci[2]? =some (.s a)->cj[2]? =some (.s b)->i≠j->a.len≠0->b.len≠0->a.D≠b.D
def Az{a:List (List Ce)}{n:Nat}(d:s.len=n)(g:a.length=n)(k:∀b∈a,b.length=3)(j:fX m s.D s.off a.flatten)(t:n<=1000000000):
 aM cq 94 [O.v s] m λv c=>∃r,v=O.v r/\gY m c nD 3 r a.flatten/\J m c:=by
 apply nj
 refine⟨λh=>?_,λh=>?_⟩
 .cases s with
  |nil=>simp at d;have:a=[]:=List.length_eq_zero_iff.1 V;subst this;exact⟨.nil,rfl,gY.nil _ _ _ _,J.aA _⟩
  |mk b o f e=>simp at h
  |zT b o e=>simp at h
 .intro e
  have b:J m e:=(J.aA m).aH _
  have i:gY m e nD 3 (.mk m.size 0 0 0) []:=gY.new (J.aA m) nD 3 [] 0 aL
  refine gY.append (c:=[.i 0,.i 0,.s .nil]) (h:=a.flatten) i b (by rw[cp k,g,d];rfl) (b.iF j) bJ λr c b f l o p q=>⟨r,rfl,by simpa using b,f⟩
def FX{N:Nat}{hp:O}{r:List bO}(hn:∀b,m.size<=b->d b=0)(h3:∀b,b<m.size->d b≠3)(hh:dF m hp r)(hN:N<=m.size)(ax:∀c∈r,c.aN.length<=3)(aA:r.length<=1000000000):
 aM cq 57 [O.v hp] m λaF m'=>∃W s,aF=O.v s/\dS N W m' s r/\dz (λk=>k=3) d m W m'/\J m m':=by
 apply Ae
 simp -zeta only[aC,aB]
 have hl:=hh.len
 let⟨aa,u,jm⟩:=hh.Us (λz an⟨af,e,_⟩=>by rw[e];rfl)
 refine(Az hl u.len u.size jm aA).mono ?_
 rintro _ m1 ⟨y,rfl,or,x1⟩
 obtain⟨g,C1,X,_⟩:=gY.LN or x1 hn 3
 have aK:y.len=r.length:=by have:=X.len;rw[cp u.size,u.len]at this;omega
 refine⟨y,rfl,?_⟩
 have aE:∀{W:Nat->Nat}{M:E},dz (λk=>k=3) d m W M->J m M:=λc=>⟨c.size,λb i=>c.dQ b i (h3 b i)⟩
 refine fm (n:=r.length) V (λk M=>∃h,Z0 N g M y r aa h k/\dz (λk=>k=3) d m g M) ⟨aa,⟨X,u.len,u.size,λj _ _ l=>absurd l (iv _),λ_ _=>rfl,λB _ _ _ _ _ D=>absurd D (iv _)⟩,C1.mono λ_=>False.elim⟩ ?_
 rintro k F aG μ hk ⟨h,a,v⟩ aD
 have X2:=aE v
 have en:Int.toNat (k:Int)=k:=V
 rw[en]
 refine dit (λR=>?_) λR=>?_
 .have ak:k<r.length:=V
  let⟨c,T⟩:=dZ ak
  let⟨af,hf,g0,g1,g2⟩:=(dF.ext X2 hh).aG T
  have aJ:=ax c (au T)
  refine⟨V,V,c.aQ,g0,c.kG,g1,af,g2,?_⟩
  intro m3 G
  have x4:J F G:=((J.aA F).aH _).ag (ad _) _ _
  have s4:G.size=F.size+1:=by simp[G,m3,aw]
  clear_value G
  refine(eL (hf.ext x4) V).mono ?_
  rintro _ H ⟨q,rfl,oq,x5⟩
  have K:dz (λ_=>False) g F g H:=dz.eT _ (x4.trans x5) v.new
  have Y:=a.pB.eY K id
  have aH:=a.len
  have ai:k*3+2+1<=h.flatten.length:=by rw[cp a.size];have:(k+1)*3<=h.length*3:=dh _ V;omega
  let⟨z,U⟩:=cK h k
  let⟨ae,ah⟩:=cK aa k (by rw[u.len];exact ak)
  have ao:z=ae:=by have:=a.kd k (ad _);rw[U,ah]at this;simpa using this
  let⟨f0,ap,aI⟩:=u.dx k ae c ah T
  rw[ao,ap]at U
  have av:y.cap≠0:=λe=>by have:=X.le;omega
  have rb:=Y.D av
  have c6:∀am,dz (λk=>k=3) g H g (ag H y.D (y.off+(k*3+2)) am):=λam=>dz.ag K.new rb.2 _ _
  have aq:g F.size=0:=v.new _ (ad _)
  refine⟨x5.dv bJ,q,rfl,V,V,?_⟩
  rw[dk]
  refine⟨Y.wr ai,?_⟩
  intro m6
  have I:=c6 [.s q]
  have ab:c.aN≠[]->g q.D=0/\G.size<=q.D:=λx=>by
   have:=(FB.gK oq x).1;exact⟨v.new _ V,this⟩
  have iq:ar H q c.aN:=ar.gK oq V
  have L6:yo N g m6 [.i c.aQ,.i c.kG,.s q] c:=yo.eY I be _ _ ⟨q,rfl,iq,λx=>⟨(ab x).1,Qb ((ab x).2) v.size,(FB.gK oq x).2⟩⟩
  have ac:(h.set k [.i c.aQ,.i c.kG,.s q])[k]? =some [.i c.aQ,.i c.kG,.s q]:=dK (az U)
  refine⟨(I.mono λk hk=>by omega:To g H g m6).dv (by simp;exact⟨by have:=x5.size;omega,aq⟩),aD V _ ⟨h.set k [.i c.aQ,.i c.kG,.s q],⟨?_,by simpa using a.len,λZ w=>?_,λj Z Q l w hd=>?_,λj l=>?_,?_⟩,(v.trans (K.mono λ_=>False.elim)).trans I⟩⟩
  .have:=Y.set (o:=k*3+2) (new:=[.s q]) ai
   rw[Cf h k _ 2 [.s q] a.size U aL]at this
   exact this
  .rcases dp w with f|f
   .exact a.size Z f
   .rw[f];rfl
  .rcases aZ j k with f|f
   .rw[cz V]at w
    exact yo.eY I be _ _ (yo.eY K id _ _ (a.done j Z Q f w hd))
   .have:j=k:=V
    subst this
    rw[ac]at w
    simp at w;subst w
    rw[T]at hd;simp at hd;subst hd;exact L6
  .rw[cz V];exact a.kd j V
  .have al:∀(j:Nat)(p:List Ce)(b:O),j<k->h[j]? =some p->p[2]? =some (.s b)->q.len≠0->b.len≠0->q.D≠b.D:=λj p b l t i f C=>by
    let⟨Q,hd⟩:=cK r j;obtain⟨b',e,ib,_⟩:=a.done j p Q l t hd;rw[e]at i;simp at i;subst i;have x:Q.aN≠[]:=λe=>by have:=ib.len;rw[e]at this;simp at this;exact C this
    have ay:c.aN≠[]:=λe=>by have:=iq.len;rw[e]at this;simp at this;exact f this
    have:=iP ib x;have:=(ab ay).2;omega
   intro B j P p L b D l A t S i aj f C
   by_cases ik:B=k
   .subst ik
    rw[ac]at A
    rw[cz aj]at t
    simp at A;subst A;simp at S;subst S
    exact al j p b V t i f C
   .rw[cz (λe=>ik e.symm)]at A
    by_cases jk:j=k
    .subst jk
     rw[ac]at t
     simp at t;subst t;simp at i;subst i
     exact kH (al B P L V A S C f)
    .rw[cz (λe=>jk e.symm)]at t
     exact a.sep B j P p L b V V A t S i aj f C
 .have e:∀{j:Nat}{z:List Ce},h[j]? =some z->j<k:=λl=>by have:=az l;have:=a.len;omega
  exact⟨g,y,rfl,⟨h,a.pB,⟨a.len,a.size,λj z an R f=>a.done j z an (e R) R f⟩,λB j P p L b D l=>a.sep B j P p L b (e D) (e l) D l⟩,v,X2⟩
end Go.Proofs.YtkoifinbblcbiaaGreat
end
namespace Go.Proofs.YtkoifinbblcbiaaGreat
open Go.Vc
section
variable{a g:Nat->Nat}{m h e:E}{s:St}{d:List (List Ce)}
structure Bs(e:E)(a:Nat->Nat)(m:E):Prop where
 cv:J e m
 jA:∀b,b<e.size->a b=0
 new:∀b,m.size<=b->a b=0
structure pG(e:E)(a:Nat->Nat)(m:E)(aW hp fr:O)(s:St):Prop where
 bs:Bs e a m
 aW:iA a m aD 1 2 aW (s.aW.map Ce.i)
 heap:dS e.size a m hp s.heap
 av:pw a m fr s.av
structure DP(s:St):Prop where
 aW:s.aW.length<=900000000
 fl:∀c∈s.heap,c.aN.length<=3
 heap:s.heap.length<=900000000
 depth:s.av.length<=1000
 av:∀f∈s.av,f.an.length<=1000000/\f.aR.length<=1000000/\f.aY.length<=1000000
def Yy(e:E)(a:Nat->Nat)(m:E)(s:St)(v:Value)(h:E):Prop:=∃g aW c b,v=UW s aW c b/\pG e g h aW c b s/\dz (λ_=>False) a m g h
abbrev XY:=dz (λk=>2<=k)
def XY.none(c:XY a m g h)(e:∀b,b<m.size->a b<=1):dz (λ_=>False) a m g h:=⟨c.size,c.jc,c.new,λb d _=>c.dQ b d (oh (e b d))⟩
def dz.Hh(b:dz (λ_=>False) a m g h):J m h:=⟨b.size,λc d=>b.dQ c d id⟩
def Bs.eY(B:Bs e a m)(b:dz (λ_=>False) a m g h):Bs e g h:=⟨B.cv.trans b.Hh,λc d=>by rw[b.jc c (B.cv.lt d)];exact B.jA c d,b.new⟩
structure XZ(e:E)(a:Nat->Nat)(m:E)(g:Nat->Nat)(M:E)(q r:O)(s:St):Prop where
 eY:XY a m g M
 aW:iA g M aD 1 2 q (s.aW.map Ce.i)
 heap:dS e.size g M r s.heap
def XZ.mh{i j:Nat->Nat}{f g:E}{q r:O}(h:XZ e a m i f q r s){p:Nat->Prop}(d:dz p i f j g)(c:∀k,p k->4<=k):XZ e a m j g q r s:=
 ⟨h.eY.trans (d.mono λk b=>oh (c k b)),h.aW.eY d λb=>oh (c _ b),h.heap.eY d (λb=>oh (c _ b)) λb=>oh (c _ b)⟩
def yX{s:O}{n:Nat}(c:s.len=n)(g:d.length=n)(k:∀a∈d,a.length=6)(j:fX m s.D s.off d.flatten)(t:n<=1000000000):
 aM cq 58 [O.v s] m λv h=>∃r,v=O.v r/\gY m h cL 6 r d.flatten/\J m h:=by
 apply mL
 refine⟨λb=>?_,λb=>?_⟩
 .cases s with
  |nil=>simp at c;have:d=[]:=List.length_eq_zero_iff.1 V;subst this;exact⟨.nil,rfl,gY.nil _ _ _ _,J.aA _⟩
  |mk a o f e=>simp at b
  |zT a o e=>simp at b
 .intro e
  have a:J m e:=(J.aA m).aH _
  have i:gY m e cL 6 (.mk m.size 0 0 0) []:=gY.new (J.aA m) cL 6 [] 0 aL
  refine gY.append (c:=[.i 0,.i 0,.i 0,.s .nil,.s .nil,.s .nil]) (h:=d.flatten) i a (by rw[cp k,g,c];rfl) (a.iF j) bJ λr h a f l o p q=>⟨r,rfl,by simpa using a,f⟩
structure ZY(a:Nat->Nat)(m:E)(r:O)(fs:List aU)(css0 d:List (List Ce))(k:Nat):Prop where
 pB:iA a m cL 6 4 r d.flatten
 len:d.length=fs.length
 size:∀cs∈d,cs.length=6
 done:∀(j:Nat)(cs:List Ce)(f:aU),j<k->d[j]? =some cs->fs[j]? =some f->Ts a m j cs f
 kd:∀j,k<=j->d[j]? =css0[j]?
def Rt{k o:Nat}{a:List Ce}{x:Ce}(e:∀a∈d,a.length=6)(b:d[k]? =some a)(g:o<6):js d.flatten (k*6+o) [x]=(d.set k (a.set o x)).flatten/\(∀c∈d.set k (a.set o x),c.length=6)/\(d.set k (a.set o x))[k]? =some (a.set o x):=by
 refine⟨Cf d k a o [x] e b bJ,λc f=>?_,dK (az b)⟩;rcases dp f with h|h
 .exact e c h
 .rw[h,eE];exact e a (au b)
def D0{aW hp w:O}(al:Bs e a m)(ay:∀c,a c<=1)(T:gQ m aW hp w s)(ae:DP s):aM cq 32 [UW s aW hp w] m (Yy e a m s):=by
 apply yP;simp -zeta only[aC,aB];intro h A;have s1:h.size=m.size+1:=by simp[h]
 have s2:A.size=m.size+2:=by simp[A,s1]
 have x2:J m A:=((J.aA m).aH _).aH _;obtain⟨G,ao⟩:∃G,G=pu (pu a m.size 8) h.size 8:=⟨_,rfl⟩;have C2:dz (λ_=>False) a m G A:=by
  rw[ao];exact(dz.pu (m':=h) (k:=8) ((J.aA m).aH _) al.new (ad _) V).trans (dz.pu (m':=A) (k:=8) ((J.aA h).aH _) (λc hb=>by rw[ez V];exact al.new c V) (ad _) V)
 have r0:G m.size=8/\G h.size=8:=by rw[ao];exact⟨by rw[ez V,fQ],fQ _ _ _⟩
 have a2:∀c,G c=8\/G c<=1:=λc=>by
  rw[ao];unfold pu;split
  .exact Or.inl rfl
  .split
   .exact Or.inl rfl
   .exact Or.inr (ay c)
 have aY:cw A h.size fU [.i 0,.i 0,.i 0,.i 0,.s .nil,.s .nil,.s .nil]:=cw.push h _ _;have bq:cw A m.size fU [.i s.bI,.i s.value,.i s.bC,.i s.bq,.s aW,.s hp,.s w]:=(cw.push m _ _).ext (J.push h _);clear_value A;clear ao;have hN:=al.cv.size;have bn:=ae.aW;have bm:=ae.heap;have bi:=ae.depth;refine(eL (T.aW.ext x2) V).mono ?_;rintro _ m3 ⟨ai,rfl,oq,H⟩;let⟨ba,C3,A3,a3⟩:=gY.LN oq H C2.new 2;have z3:=H.size;have kp:∀{M M':E},J M M'->m.size<M.size->∀i,af M' m.size i=af M m.size i:=λhx ac i=>aJ (hx.same _ ac) i;have X3:=x2.trans H;refine⟨H.dv bJ,ai,rfl,kp H V _,kp H V _,(FX (N:=e.size) C3.new (λc _=>Qb (a3 c) (a2 c)) (T.ext X3).heap V ae.fl V).mono ?_⟩;rintro _ m4 ⟨bb,aj,rfl,H4,Y,x4⟩;have z4:=x4.size;have X4:=X3.trans x4;have K4:XZ e a m bb m4 ai aj s:=⟨((C2.trans C3).mono λ_=>False.elim:XY a m ba m3).trans (Y.mono λb R=>V),A3.eY Y be,H4⟩;have aX:=T.av.len;let⟨an,q,jm⟩:=(T.ext X4).av.Us (λQ ak⟨_,_,_,t,_⟩=>by rw[t];rfl);refine⟨x4.dv bJ,aj,rfl,kp x4 V _,(yX aX q.len q.size jm V).mono ?_⟩;rintro _ m5 ⟨fc,rfl,of,x5⟩;let⟨u,K,A5,br⟩:=gY.LN of x5 Y.new 4;have z5:=x5.size;have K5:=K4.mh K λ_=>False.elim;refine⟨x5.dv bJ,fc,rfl,?_⟩;intro m6 m7 F;have r5:u m.size=8/\u h.size=8:=⟨by rw[K.jc _ V,Y.jc _ V,C3.jc _ V];exact r0.1,by rw[K.jc _ V,Y.jc _ V,C3.jc _ V];exact r0.2⟩;have C8:dz (λb=>b=8) u m5 u F:=((dz.ag K.new (show(λb=>b=8) (u m.size)from r5.1) _ _).trans (dz.ag (by rw[aw];exact K.new) (show(λb=>b=8) (u m.size)from r5.1) _ _)).trans (dz.ag (by rw[aw,aw];exact K.new) (show(λb=>b=8) (u m.size)from r5.1) _ _);have K8:XZ e a m u F ai aj s:=K5.mh C8 λb R=>V;have A8:iA u F cL 6 4 fc an.flatten:=A5.eY C8 be;have a0:cw F h.size fU [.i 0,.i 0,.i 0,.i 0,.s .nil,.s .nil,.s .nil]:=((aY.ext (H.trans (x4.trans x5))).congr (by
  show(ag (ag (ag m5 m.size 4 _) m.size 5 _) m.size 6 _)[h.size]? =_;rw[bo _ _ _ _ V,bo _ _ _ _ V,bo _ _ _ _ V]))
 have s8:F.size=m5.size:=by simp[F,m7,m6,aw]
 clear_value F;have bk:fc.len=s.av.length:=by have:=A8.len;rw[cp q.size,q.len]at this;omega
 refine fm (n:=s.av.length) V (λb M=>∃g d,XZ e a m g M ai aj s/\ZY g M fc s.av an d b/\m5.size<=M.size/\g m.size=8/\g h.size=8/\cw M h.size fU [.i 0,.i 0,.i 0,.i 0,.s .nil,.s .nil,.s .nil])
  ⟨u,an,K8,⟨A8,q.len,q.size,λy _ _ hj=>absurd hj (iv _),λ_ _=>rfl⟩,V,r5.1,r5.2,a0⟩ ?_
 rintro b l bc μ R ⟨B,d,Z,f,z9,r9,aI,a1⟩ a6
 have en:Int.toNat (b:Int)=b:=V;rw[en];have aQ:∀{g:Nat->Nat}{M:E},XY a m g M->J m M:=λaO=>(aO.none λc _=>ay c).Hh;refine dit (λh1=>?_) λh1=>?_
 .have aH:b<s.av.length:=V;let⟨j,hf⟩:=dZ aH;have bj:=ae.av j (au hf);let⟨aP,ab⟩:=cK an b (by rw[q.len];exact aH);let⟨ra,oa,ha,e0,ir,io,ih⟩:=q.dx b aP j ab hf;have aG:d[b]? =some [.i j.eg,.i j.pc,.i j.dst,.s ra,.s oa,.s ha]:=by rw[f.kd b (ad _),ab,e0]
  have S:∀(i:Nat)(ak:Ce),[Ce.i j.eg,.i j.pc,.i j.dst,.s ra,.s oa,.s ha][i]? =some ak->af l fc.D (fc.off+b*6+i)=some ak.v:=λi ak hx=>by
   have:=f.pB.iF (b*6+i) ak (fV f.size aG hx);rwa[<-dk]at this
  obtain⟨r',o',h',jr,jo,jh,_,_,_,y3,y4,y5⟩:=T.av.aG hf;have X9:=aQ Z.eY;have er:r'=ra/\o'=oa/\h'=ha:=by
   obtain⟨bf,⟨bd,b1,c1,e1,_⟩,bp⟩:=T.av.iF b j hf;have g3:af m4 w.D (w.off+b*6+3)=some (O.v ra):=by
    have:=jm (b*6+3) (.s ra) (fV q.size ab (by rw[e0];rfl));rwa[<-dk]at this
   have g4:af m4 w.D (w.off+b*6+4)=some (O.v oa):=by
    have:=jm (b*6+4) (.s oa) (fV q.size ab (by rw[e0];rfl));rwa[<-dk]at this
   have g5:af m4 w.D (w.off+b*6+5)=some (O.v ha):=by
    have:=jm (b*6+5) (.s ha) (fV q.size ab (by rw[e0];rfl));rwa[<-dk]at this
   rw[X4.af y3]at g3;rw[X4.af y4]at g4;rw[X4.af y5]at g5;exact⟨O.Hl.1 (mq g3),O.Hl.1 (mq g4),O.Hl.1 (mq g5)⟩
  obtain⟨rfl,rfl,rfl⟩:=er;refine⟨V,V,_,S 0 _ rfl,_,S 1 _ rfl,_,S 2 _ rfl,_,S 3 _ rfl,_,S 4 _ rfl,_,S 5 _ rfl,?_⟩;intro aA U;have aq:J l U:=((J.aA l).aH _).ag (ad _) _ _;have bw:U.size=l.size+1:=by simp[U,aA,aw]
  clear_value U;have aF:dz (λ_=>False) B l (pu B l.size 8) U:=dz.pu aq Z.eY.new (ad _) V 8;refine(eL (jr.ext (X9.trans aq)) V).mono ?_;rintro _ bs ⟨qr,rfl,a7,v⟩;obtain⟨bu,ax,aK,_⟩:=gY.LN a7 v aF.new (10+3*b);have bz:=v.size;have p:∀{M M':E}{c:Nat},J M M'->c<M.size->∀i,af M' c i=af M c i:=λhx ac i=>aJ (hx.same _ ac) i;have bl:∀{M:E},U.size<=M.size->∀c∈[l.size,m.size,h.size],c<M.size:=λbg c hb=>by simp at hb;omega
  refine⟨v.dv (bl (ad _)),qr,rfl,p v V _,p v V _,p v V _,p v V _,p v V _,(eL (jo.ext (X9.trans (aq.trans v))) V).mono ?_⟩;rintro _ bt ⟨qo,rfl,a8,C⟩;obtain⟨bv,am,aL,_⟩:=gY.LN a8 C ax.new (11+3*b);have bA:=C.size;refine⟨C.dv (bl V),qo,rfl,p C V _,p C V _,p C V _,p C V _,(eL (jh.ext (X9.trans (aq.trans (v.trans C)))) V).mono ?_⟩;rintro _ aD ⟨qh,rfl,a9,X⟩;obtain⟨r,D,aN,_⟩:=gY.LN a9 X am.new (12+3*b);have bB:=X.size;have L:dz (λ_=>False) B l r aD:=((aF.trans ax).trans am).trans D;have P:r l.size=8/\r m.size=8/\r h.size=8:=⟨by rw[D.jc _ V,am.jc _ V,ax.jc _ V];exact fQ _ _ _,by rw[L.jc _ V];exact r9,by rw[L.jc _ V];exact aI⟩;have A9:=f.pB.eY L id;have aV:fc.cap≠0:=λt=>by have:=f.pB.le;omega
  have W:=A9.D aV;have a_:fc.D≠m.size/\fc.D≠h.size/\fc.D≠l.size:=⟨λt=>by have:=W.2;rw[t,P.2.1]at this;omega,λt=>by have:=W.2;rw[t,P.2.2]at this;omega,λt=>by have:=W.2;rw[t,P.1]at this;omega⟩;have bh:=f.len;have Dq:∀z,z<6->b*6+z+1<=d.flatten.length:=λz ho=>by rw[cp f.size];have:(b+1)*6<=d.length*6:=dh _ V;omega
  have sm:∀{M:E}(z:Nat)(ah:List Ce),dY [l.size,m.size,h.size] M (ag M fc.D z ah):=λz ah c hb=>bo _ _ _ _ (by simp at hb;omega);have gg:∀{M:E}(z:Nat)(ah:List Ce)(i:Nat),af (ag M fc.D z ah) m.size i=af M m.size i:=λz ah i=>aJ (bo _ _ _ _ (λt=>a_.1 t.symm)) i;refine⟨X.dv (bl V),qh,rfl,p X V _,p X V _,p X V _,V,V,?_⟩;simp -zeta only[dk];refine⟨A9.wr (Dq 3 be),?_⟩;let⟨e1,f1,aS⟩:=Rt (x:=.s qr) (o:=3) f.size aG be;have ar:=A9.set (o:=b*6+3) (new:=[.s qr]) (Dq 3 be);rw[e1]at ar;intro a4;let⟨e2,f2,aT⟩:=Rt (x:=.s qo) (o:=4) f1 aS be;have av:=ar.set (o:=b*6+4) (new:=[.s qo]) (by have:=Dq 4 be;rw[cp f.size]at this;rw[cp f1,eE];exact this);rw[e2]at av;refine⟨sm _ _,gg _ _ _,gg _ _ _,V,V,ar.wr (by have:=Dq 4 be;rw[cp f.size]at this;rw[cp f1,eE];exact this),?_⟩;intro a5;let⟨e3,f3,aU⟩:=Rt (x:=.s qh) (o:=5) f2 aT be;have aE:=av.set (o:=b*6+5) (new:=[.s qh]) (by have:=Dq 5 be;rw[cp f.size]at this;rw[cp f2,eE,eE];exact this);rw[e3]at aE;refine⟨sm _ _,gg _ _ _,V,V,av.wr (by have:=Dq 5 be;rw[cp f.size]at this;rw[cp f2,eE,eE];exact this),?_⟩;intro ap;have I:dz (λb=>b=4) r aD r ap:=((dz.ag D.new (show(λb=>b=4) (r fc.D)from W.2) _ _).trans (dz.ag (by rw[aw];exact D.new) (show(λb=>b=4) (r fc.D)from W.2) _ _)).trans (dz.ag (by rw[aw,aw];exact D.new) (show(λb=>b=4) (r fc.D)from W.2) _ _);have bx:ap.size=aD.size:=by simp[ap,a5,a4,aw]
  have uN:Ts r ap b [.i j.eg,.i j.pc,.i j.dst,.s qr,.s qo,.s qh] j:=⟨qr,qo,qh,rfl,(((aK.eY am id).eY D id).eY I V),(aL.eY D id).eY I V,aN.eY I V⟩;refine⟨sm _ _,a6 V _ ⟨r,_,(Z.mh L λ_=>False.elim).mh I λb R=>V,⟨aE,by simp;exact f.len,f3,λy Q aR hj aa hg=>?_,λy hj=>?_⟩,V,P.2.1,P.2.2,(a1.ext L.Hh).congr (I.dQ _ V (by rw[P.2.2];decide))⟩⟩
  .rcases aZ y b with h5|h5
   .rw[cz V,cz V,cz V]at aa;exact((f.done y Q aR h5 aa hg).eY L λ_ _ _=>id).eY I λb R _=>V
   .have:y=b:=V;subst this;rw[aU]at aa;simp at aa;subst aa;rw[hf]at hg;simp at hg;subst hg;exact uN
  .rw[cz V,cz V,cz V];exact f.kd y V
 .intro aA;have r:dz (λb=>b=8) B l B aA:=dz.ag Z.eY.new (show(λb=>b=8) (B h.size)from aI) _ _;have p:=Z.mh r λb R=>V;have ac:∀{y:Nat}{Q:List Ce},d[y]? =some Q->y<b:=λhj=>by have:=az hj;have:=f.len;omega
  have v:pw B l fc s.av:=⟨d,f.pB,f.len,f.size,λi Q j h1 t=>f.done i Q j (ac h1) h1 t⟩;have D:=p.eY.none λc _=>ay c;exact⟨B,ai,aj,fc,rfl,⟨al.eY D,p.aW,p.heap,v.eY r λb R=>V⟩,D⟩
end
section
variable{e:Nat->Nat}{d:E}
abbrev z7:List Ce:=[.i 0,.i 0,.i 0,.i 0,.s .nil,.s .nil,.s .nil]
structure RL(m0:E)(ro:Nat->Nat)(m m2:E)(s:St)(ro':Nat->Nat)(M:E)(q r:Option O)(ob:Option Nat):Prop where
 eY:XY ro m ro' M
 ext:J m2 M
 no3:r=none->∀b,ro' b≠3
 box:∀b,m.size<=b->b<m2.size->ro' b=8
 aW:∀x,q=some x->iA ro' M aD 1 2 x (s.aW.map Ce.i)
 heap:∀x,r=some x->dS m0.size ro' M x s.heap
 ob:∀x,ob=some x->m2.size<=x/\ro' x=8/\cw M x fU z7
section
variable{h:E}{i:Nat->Nat}{m g:E}{s:St}{f:Nat->Nat}{M:E}{q r:Option O}{j:Option Nat}
def RL.jT(k:RL h i m g s f M q r j)(n:dz (λa=>a=3) f M e d)(p:J M d)(C:∀b,m.size<=b->b<g.size->e b=8){u o:Option O}{t:Option Nat}(z:r=none\/dz (λ_=>False) f M e d)(B:o=none->∀b,e b≠3)
 (w:∀x,u=some x->q=some x\/iA e d aD 1 2 x (s.aW.map Ce.i))(y:∀x,o=some x->r=some x\/dS h.size e d x s.heap)(A:∀x,t=some x->j=some x\/(g.size<=x/\e x=8/\cw d x fU z7)):RL h i m g s e d u o t:=
 ⟨k.eY.trans (n.mono λa c=>V),k.ext.trans p,B,C,λx c=>(w x c).elim (λa=>(k.aW x a).eY n be) id,
  λx c=>(y x c).elim (λa=>z.elim (λl=>by rw[l]at a;cases a) λl=>(k.heap x a).eY l id id) id,
  λx c=>(A x c).elim (λa=>by
   let⟨v,b,l⟩:=k.ob x a;exact⟨v,by rw[n.jc _ l.lt];exact b,l.ext p⟩) id⟩
def RL.Uh(a:RL h i m g s f M q r j){p:Nat->Prop}(l:dz p f M e d):∀b,m.size<=b->b<g.size->e b=8:=λb k c=>by rw[l.jc b (a.ext.lt c)];exact a.box b k c
def RL.c(b:RL h i m g s f M none r j){x:O}(n:gY M d aD 1 x (s.aW.map Ce.i))(k:J M d):∃e,RL h i m g s e d (some x) r j:=by
 let⟨e,C,A,l⟩:=gY.LN n k b.eY.new 2;exact⟨e,b.jT (C.mono λ_=>False.elim) k (b.Uh C) (Or.inr C) (λa c=>Qb (l c) (b.no3 a c)) (λy a=>Or.inr (by simp at a;subst a;exact A)) (λy a=>Or.inl a) λy a=>Or.inl a⟩
def RL.a(a:RL h i m g s f M q r j)(b:J M d):RL h i m g s f d q r j:=
 have C:dz (λ_=>False) f M f d:=dz.eT _ b a.eY.new
 a.jT (C.mono λ_=>False.elim) b (a.Uh C) (Or.inr C) a.no3 (λy e=>Or.inl e) (λy e=>Or.inl e) λy e=>Or.inl e
def RL.b(b:RL h i m g s f M q r none){d:E}(a:d=M.push (.cells (bA z7) fU)):∃e,RL h i m g s e d q r (some M.size):=by
 have l:J M d:=by rw[a];exact J.push _ _
 have C:dz (λ_=>False) f M (pu f M.size 8) d:=dz.pu l b.eY.new (ad _) (by rw[a];simp) 8;refine⟨_,b.jT (C.mono λ_=>False.elim) l (b.Uh C) (Or.inr C) (λn c=>?_) (λy a=>Or.inl a) (λy a=>Or.inl a) λy j=>Or.inr ?_⟩
 .by_cases k:c=M.size
  .rw[k,fQ];decide
  .rw[ez k];exact b.no3 n c
 .simp at j;subst j;exact⟨b.ext.size,fQ _ _ _,by rw[a];exact cw.push _ _ _⟩
end
end
section
variable{n e:Nat}{m2 M a:E}
def MA:St:=⟨0,0,0,0,[],[],[]⟩
structure Z5 where
 s:St
 ok:Bool
open Classical in
noncomputable def LO (b:cg) (s:St) (a:Int):Z5:=if db b s/\0<=a/\a<=100000 then⟨ap b a.toNat s,true⟩else⟨MA,false⟩
def db.kU{j:cg}{s:St}(h:db j s)(b:Sm n s)(o:n<=900000000):DP s:=by
 refine⟨by have:=b.aW;omega,λc e=>(h.heap.cell c e).fl,oh b.heap,?_,λf g=>?_⟩
 .have:=h.depth;have:=h.bC;have:=h.bq;omega
 .have a:=h.av f g;obtain⟨p,_,i,d,_⟩:=a.Jg h.fA;have k:=a.lr;have l:=a.lo;have m:=a.lh;rw[i]at k l m;have:=d.an;omega
def Oi.sm{s:St}(h:Oi s)(a:s.heap.length<=n)(b:s.aW.length<=n):Sm n s:=⟨a,b,λg c w d=>((h.av g c).1 w d).2⟩
section
variable{b:E}{c:Nat->Nat}{m:E}{aW f d:O}{s:St}
def pG.Gp(h:pG b c m aW f d s)(a:DP s):gQ m aW f d s:=
 ⟨h.aW.nT (oh a.aW),h.heap.cells (oh a.heap),h.av.Gp (oh a.depth) a.av⟩
def pG.cQ(h:pG b c m aW f d s)(j:J m m2){a:Nat}{g:List Ce}(i:m.size<=a)(kb:cw m2 a e g):qA b (pu c a 1) m2 a e g aW f d s.aW s.heap s.av:=by
 have C:dz (λ_=>False) c m (pu c a 1) m2:=dz.pu j h.bs.new i kb.lt 1;have B:=h.bs.eY C;exact⟨B.cv,B.jA,B.new,kb,fQ _ _ _,h.aW.eY C id,h.heap.eY C id id,h.av.eY C λ_ _=>id⟩
def pG.nil{b m:E}(a:J b m):pG b (λ_=>0) m .nil .nil .nil MA:=
 ⟨⟨a,λ_ _=>rfl,λ_ _=>rfl⟩,⟨by simp[MA],aL,Or.inl rfl⟩,⟨[],⟨aL,aL,Or.inl rfl⟩,by simpa[MA]using gE.nil _ _,Xu.nil⟩,pw.none⟩
def qA.Gp{h e:Nat}{a:List Ce}(L:qA b c m h e a aW f d s.aW s.heap s.av)(g:DP s):gQ m aW f d s:=
 pG.Gp (c:=c) ⟨⟨L.cv,L.jA,L.new⟩,L.aW,L.heap,L.av⟩ g
end
def Xt(m:E)(x:Z5)(v:Value)(c:E):Prop:=∃d aW b a,v=.tuple #[UW x.s aW b a,vb x.ok]/\pG m d c aW b a x.s
def iA.up{a:Nat->Nat}{m d mx:E}{f k:Nat}{s:O}{l:List Ce}(h:iA a m e f k s l)(j:k≠0)(g:∀b,b<mx.size->a b=0)(i:∀b,mx.size<=b->b<m.size->d[b]? =m[b]?):iA a d e f k s l:=
 h.dQ (λc=>i _ (Hq λn=>j (by rw[<-(h.D c).2];exact g _ n)) (h.D c).1) λ_=>rfl
def pG.Ro{mx m:E}{q:Nat->Nat}{aW p n:O}{s:St}(h:pG mx q M aW p n s)(y:m.size<=mx.size)(z:M.size<=a.size)(c:∀b,mx.size<=b->b<M.size->a[b]? =M[b]?)(w:J m a):pG m q a aW p n s:=by
 have d:=h.bs.jA;refine⟨⟨w,λb f=>d b V,λb f=>h.bs.new b V⟩,h.aW.up be d c,?_,?_⟩
 .let⟨g,r,a2,a3⟩:=h.heap;refine⟨g,r.up be d c,a2.mono λj x⟨i,u,k,l⟩=>⟨i,u,iO k λf=>c _ (l f).2.1 (iP k f),λf=>?_⟩,a3⟩;let⟨g1,g2,t,tail,v,o⟩:=l f;exact⟨g1,V,t,tail,v,o.congr (c _ g2 o.lt)⟩
 .let⟨g,f⟩:=h.av;exact⟨g,f.pB.up be d c,f.len,f.size,λr j i k l=>by
   let⟨u,t,o,e,b1,b2,b3⟩:=f.dx r j i k l;exact⟨u,t,o,e,b1.up V d c,b2.up V d c,b3.up V d c⟩⟩
def pG.box{mx m:E}{d:Nat->Nat}{aW b a:O}{s:St}(h:pG mx d M aW b a s)(c:J m mx){nb:Nat}(e:m.size<=nb)(g:nb<mx.size)(o:Nat)(l:List Ce):pG m d (ag M nb o l) aW b a s:=
 h.Ro c.size (uh (aw _ _ _ _).symm) (λf i _=>bo _ _ _ _ V) ((c.trans h.bs.cv).ag e _ _)
def pG.ext{e:E}{f:Nat->Nat}{aW d c:O}{s:St}(h:pG e f M aW d c s)(b:J M a):pG e f a aW d c s:=h.Ro (ad _) b.size (λg _ i=>b.same g i) (h.bs.cv.trans b)
def Bs.Eo(m:E):Bs m (λ_=>0) m:=⟨J.aA _,λ_ _=>rfl,λ_ _=>rfl⟩
section
variable{m:E}{d p aW i h:O}{j:cg}{s:St}
def Pk{m:E}{nb:Nat}(c:J m m2)(a:J m2 M)(b:m.size<=nb){x:Z5}(d:x=⟨MA,false⟩)(l:List Ce):Xt m x (.tuple #[.agg #[vi (0:Int),vi (0:Int),vi (0:Int),vi (0:Int),O.v O.nil,O.v O.nil,O.v O.nil],vb false]) (ag M nb 0 l):=by
 subst d;exact⟨_,.nil,.nil,.nil,rfl,pG.nil ((c.trans a).ag b _ _)⟩
variable(c:eW m d p j)(f:gQ m aW i h s)(b:Oi s)(g:s.aW.length<=10000000)
include c f b g
omit c f in
def Xz:Sm 10000000 s:=b.sm b.lh g
omit c f in
end
end
section
def pG.old{mx M a:E}{g:Nat->Nat}{aW d c:O}{s:St}(h:pG mx g M aW d c s)(f:M.size<=a.size)(i:∀b,mx.size<=b->b<M.size->a[b]? =M[b]?):pG (a.extract 0 mx.size) g a aW d c s:=
 have e:=bX h.bs.cv.size f
 h.Ro (by rw[nY e];exact ad _) f i (J.MG e)
def qA.old{d M b:E}{k:Nat->Nat}{e g:Nat}{f:List Ce}{aW j h:O}{a:St}(L:qA d k M e g f aW j h a.aW a.heap a.av)(l:d.size<=e)(m:M.size<=b.size)(i:∀c,d.size<=c->c<M.size->b[c]? =M[c]?):qA (b.extract 0 d.size) k b e g f aW j h a.aW a.heap a.av:=
 have N:=pG.old (s:=a) ⟨⟨L.cv,L.jA,L.new⟩,L.aW,L.heap,L.av⟩ m i
 ⟨N.bs.cv,N.bs.jA,N.bs.new,L.box.congr (i _ l L.box.lt),L.NV,N.aW,N.heap,N.av⟩
section
variable{S:List Nat}{m:E}{c P:Nat}{a d p:O}{b:cg}
end
end
section
variable{q:O}
def db.YR{q:cg}{s:St}{n:Nat}(h:db q s)(c:Sm n s)(x:n<=10000000):Oi s:=by
 have l:=h.kU c V;have i:=h.bC;have v:=h.bq;have u:=c.heap;have C:=QV h;have t:=l.depth;refine⟨⟨V,V⟩,λd i w a=>?_,λf b=>?_,V,V,λf b=>oh (l.av f b)⟩
 .have k:=h.heap.cell d i;rcases I8 d.aQ 1 with e|e
  .have:=(k.DT e).2.1 w a;exact⟨V,V⟩
  .rcases(k.rp V).1 w a with e|⟨e,j,g,_⟩
   .exact⟨by have:=e.1;omega,oh e.2⟩
   .have:=az g;have:=iV e;exact⟨V,V⟩
 .let⟨k,o⟩:=List.mem_iff_getElem?.1 b;have F:=C.av k f o;refine⟨λw a=>⟨?_,c.Dq f b w a⟩,λr p=>?_,λw a=>?_⟩
  .rcases(h.av f b).Sn w a with e|e
   .have:=e.1;omega
   .omega
  .let⟨m,j⟩:=List.mem_iff_getElem?.1 p;have:=F.lr;have:=F.lo;have:=az j;let⟨w,a⟩:=cK f.an m;have:=(F.an.dx m w r a j).2.1;exact⟨V,V⟩
  .rcases C.aY.cN f b w a with e|⟨e,g⟩
   .exact⟨V,V⟩
   .have:=iV e;exact⟨V,V⟩
structure Mv(n:Nat)(ro:Nat->Nat)(M:E)(ro':Nat->Nat)(M':E):Prop where
 size:M.size<=M'.size
 dQ:∀b,b<M.size->n<=b->M'[b]? =M[b]?
 jc:∀b,b<M.size->ro' b=ro b
 new:∀b,M'.size<=b->ro' b=0
 jA:∀b,b<n->ro b=0
section
variable{n:Nat}{a c:Nat->Nat}{M b:E}
def iA.mv{e f k:Nat}{s:O}{l:List Ce}(h:iA a M e f k s l)(v:Mv n a M c b)(g:k≠0):iA c b e f k s l:=
 h.dQ (λd=>v.dQ _ (h.D d).1 (Hq λe=>g (by rw[<-(h.D d).2];exact v.jA _ e))) λd=>v.jc _ (h.D d).1
def dS.mv{i:O}{h:List bO}(q:dS n a M i h)(v:Mv n a M c b):dS n c b i h:=by
 let⟨l,j,a2,a3⟩:=q;refine⟨l,j.mv v be,a2.mono λs r⟨o,m,f,g⟩=>⟨o,m,iO f λd=>v.dQ _ (iP f d) (g d).2.1,λd=>?_⟩,a3⟩;let⟨g1,g2,k,tail,p,e⟩:=g d;exact⟨(v.jc _ e.lt).trans g1,g2,k,tail,p,e.congr (v.dQ _ e.lt g2)⟩
def Ts.mv{i:Nat}{d:List Ce}{f:aU}(v:Mv n a M c b):Ts a M i d f->Ts c b i d f:=λ⟨r,o,k,j,e,g,h⟩=>⟨r,o,k,j,e.mv v V,g.mv v V,h.mv v V⟩
def tm.mv{e:O}{g:List aU}{f:aU}{r o h:O}{d:List (List Ce)}(T:tm a M e g f r o h d)(v:Mv n a M c b):tm c b e g f r o h d:=
 ⟨T.pB.mv v be,T.len,T.size,λm i j k l=>(T.dx m i j k l).mv v,T.an.mv v V,T.aR.mv v V,T.aY.mv v V⟩
def pw.mv{d:O}{e:List aU}(l:pw a M d e)(v:Mv n a M c b):pw c b d e:=by
 let⟨g,h⟩:=l;exact⟨g,h.pB.mv v be,h.len,h.size,λm f i j k=>(h.dx m f i j k).mv v⟩
def tm.put{c:O}{b:List aU}{f g:aU}{s o p n m j:O}{h:List (List Ce)}(T:tm a M c b f s o p h)(v:∀d,M.size<=d->a d=0){i:Nat}(w:i<6){d:Ce}
 (u:js [.i f.eg,.i f.pc,.i f.dst,.s s,.s o,.s p] i [d]=[.i g.eg,.i g.pc,.i g.dst,.s n,.s m,.s j])(t:iA a M aD 1 (10+3*b.length) n (g.an.map Ce.i))(q:iA a M aD 1 (11+3*b.length) m (g.aR.map Ce.i))(r:iA a M aD 1 (12+3*b.length) j (g.aY.map Ce.i)):
 eC M c.D (c.off+b.length*6+i) 1/\tm a (ag M c.D (c.off+b.length*6+i) [d]) c b g n m j h/\dz (λk=>4<=k/\k≠9) a M a (ag M c.D (c.off+b.length*6+i) [d]):=by
 have e:dz (λk=>k=4) a M a (ag M c.D (c.off+b.length*6+i) [d]):=dz.ag v T.D.1 _ _
 have l:h.flatten.length=b.length*6:=by rw[cp T.size,T.len]
 refine⟨by rw[dk];exact T.pB.wr (by simp only[ba,l,aV,eU];omega),⟨?_,T.len,T.size,T.yv e λk q r=>V,t.eY e V,q.eY e V,r.eY e V⟩,e.mono λk x=>V⟩
 have:=T.pB.set (o:=b.length*6+i) (new:=[d]) (by simp[l];omega)
 rw[lG _ _ _ _ V,l,Hp,u]at this
 rw[dk];exact this
end
structure SO(n:Nat)(ro:Nat->Nat)(M:E)(aW hp fr:O)(s:St):Prop where
 le:n<=M.size
 jA:∀b,b<n->ro b=0
 new:∀b,M.size<=b->ro b=0
 aW:iA ro M aD 1 2 aW (s.aW.map Ce.i)
 heap:dS n ro M hp s.heap
 av:pw ro M fr s.av
structure FS(s:St):Prop where
 Dq:Oi s
 kU:DP s
 lo:s.aW.length<=1000000/\s.heap.length<=1000000
section
variable{n:Nat}{a e:Nat->Nat}{M b:E}{aW d c:O}{s:St}
def SO.of(N:pG (M.extract 0 n) a M aW d c s)(h:n<=M.size):SO n a M aW d c s:=⟨h,λb e=>N.bs.jA b (by rw[nY h];exact e),N.bs.new,N.aW,by have:=N.heap;rwa[nY h]at this,N.av⟩
def SO.mv(w:SO n a M aW d c s)(v:Mv n a M e b):SO n e b aW d c s:=⟨bX w.le v.size,λf g=>(v.jc f (aO g w.le)).trans (w.jA f g),v.new,w.aW.mv v be,w.heap.mv v,w.av.mv v⟩
def SO.mvF(w:SO n a M aW d c s){h:Nat}(f:Fz [h] M b)(j:h<n):Mv n a M a b:=⟨f.size,λe g i=>f.same e g bJ,λ_ _=>rfl,λe g=>w.new e (bX f.size g),w.jA⟩
def SO.eY{p:Nat->Prop}(w:SO n a M aW d c s)(C:dz p a M e b):n<=b.size/\(∀f,f<n->e f=0)/\∀f,b.size<=f->e f=0:=⟨bX w.le C.size,λf g=>(C.jc f (aO g w.le)).trans (w.jA f g),C.new⟩
def SO.box(w:SO n a M aW d c s){b:Nat}(g:a b=1)(o:Nat)(l:List Ce):SO n a (ag M b o l) aW d c s:=by
 have C:dz (λk=>k=1) a M a (ag M b o l):=dz.ag w.new g _ _;let⟨e,b,f⟩:=w.eY C;exact⟨e,b,f,w.aW.eY C be,w.heap.eY C be be,w.av.eY C λk h=>V⟩
def SO.LV(w:SO n a M aW d c s)(C:dz (λk=>k=2) a M e b){l:List Int}(A:iA e b aD 1 2 q (l.map Ce.i)):SO n e b q d c {s with aW:=l}:=
 let⟨f,g,h⟩:=w.eY C
 ⟨f,g,h,A,w.heap.eY C be be,w.av.eY C λk i=>V⟩
def SO.gD(w:SO n a M aW d c s)(C:dz (λk=>k=3) a M e b){h:List bO}(A:dS n e b q h):SO n e b aW q c {s with heap:=h}:=
 let⟨f,g,i⟩:=w.eY C
 ⟨f,g,i,w.aW.eY C be,A,w.av.eY C λk j=>V⟩
def SO.jJ(w:SO n a M aW d c s)(C:dz (λk=>4<=k/\k≠9) a M e b){l:List aU}(A:pw e b q l):SO n e b aW d q {s with av:=l}:=
 let⟨f,g,h⟩:=w.eY C
 ⟨f,g,h,w.aW.eY C be,w.heap.eY C be be,A⟩
def SO.Gp(w:SO n a M aW d c s)(h:DP s):gQ M aW d c s:=⟨w.aW.nT (oh h.aW),w.heap.cells (oh h.heap),w.av.Gp (oh h.depth) h.av⟩
end
end
section
variable{K:Int->E->Prop}{p:Nat->Prop}
def SP(n h:Nat)(f:O)(g:E)(P:Nat)(v:Value)(a:E):Prop:=∃aW e d s,v=UW s aW e d/\(∀c,a.size<=c.size->(∀b,b<a.size->n<=b->c[b]? =a[b]?)->gQ c aW e d s)/\Oi s/\(s.aW.length<=1000000/\s.heap.length<=1000000)/\Rs h f g P a
structure SQ(n rb:Nat)(bs:O)(ma:E)(k1 k2 Q:Nat)(ro:Nat->Nat)(M:E)(aW hp fr:O)(s:St):Prop where
 w:SO n ro M aW hp fr s
 r:Rs rb bs ma Q M
 k1:ro k1=1/\k1<M.size/\n<=k1
 k2:ro k2=1/\k2<M.size/\n<=k2
 fs:FS s
section
variable{n a d e Q q P l:Nat}{f aW i h:O}{c M b:E}{j m:Nat->Nat}{s o:St}{L:List Nat}
def SQ.fz(g:SQ n a f c d e Q j M aW i h s)(l:a<n)(k:Fz [a] M b)(r:Rs a f c q b):SQ n a f c d e q j b aW i h s:=
 ⟨g.w.mv (g.w.mvF k l),r,⟨g.k1.1,aO g.k1.2.1 k.size,g.k1.2.2⟩,⟨g.k2.1,aO g.k2.2.1 k.size,g.k2.2.2⟩,g.fs⟩
def SQ.ext(g:SQ n a f c d e Q j M aW i h s)(k:a<n)(x:J M b):SQ n a f c d e Q j b aW i h s:=g.fz k (x.fz _) (g.r.ext x)
def SQ.gJ(k:SQ n a f c d e Q j M aW i h s)(q:a<n)(o:∀g∈L,g=d\/g=e)(m:Fz [a] M b):dY L M b:=m.dv λg p=>by
 have:=k.k1;have:=k.k2;rcases o g p with l|l<;>simp only[nM]<;>omega
def SQ.gk(g:SQ n a f c d e Q j M aW i h s)(l:a<n)(k:Fz [a] M b)(o:Nat):af b e o=af M e o:=aJ (k.same _ g.k2.2.1 (by have:=g.k2;simp only[nM];omega)) o
def SQ.done(g:SQ n a f c d e Q j M aW i h s)(v:Rd a f l c)(C:c.size<=n)(x:Q<=P){q m o r:Int}(A:MJ o)(p:List Ce):SP n a f c P (.agg #[vi q,vi m,vi o,vi r,O.v aW,O.v i,O.v h]) (ag M d 0 p):=by
 have w:=g.w.box g.k1.1 0 p;have u:=g.r.put v (k:=d) (oh g.k1) 0 p;exact⟨aW,i,h,⟨q,m,o,r,s.aW,s.heap,s.av⟩,rfl,λb z B=>have t:=(w.mv ⟨z,B,λ_ _=>rfl,λm y=>w.new m (bX z y),w.jA⟩).Gp g.fs.kU;⟨t.aW,t.heap,t.av⟩,⟨A,g.fs.Dq.heap,g.fs.Dq.av,g.fs.Dq.lh,g.fs.Dq.lf,g.fs.Dq.lr⟩,g.fs.lo,u.f,u.r.mono x⟩
def SQ.box(b:SQ n a f c d e Q j M aW i h s)(k:Rd a f l c)(m:c.size<=n)(o:Nat)(g:List Ce):SQ n a f c d e Q j (ag M e o g) aW i h s:=
 ⟨b.w.box b.k2.1 o g,b.r.put k (oh b.k2) o g,by rw[aw];exact b.k1,by rw[aw];exact b.k2,b.fs⟩
def SQ.kX(p:SQ n a f c d e Q j M aW i h s)(l:a<n)(u:Q<=10^16)(r:∀g∈L,g=d\/g=e)(g:List Int){k:List Ce}{m:Nat}(w:k=g.map Ce.i)(v:m=g.length)(z:0<g.length/\g.length<=100)
 (y:∀t b,t∈g->SQ n a f c d e (Q+1) j b aW i h s->Fz [a] (M.push (.cells (bA k) aD)) b->K t b):aM cq 39 [vp a 0,O.v (.mk M.size 0 m m)] (M.push (.cells (bA k) aD)) λC b=>dY L (M.push (.cells (bA k) aD)) b/\∃t:Int,C=vi t/\K t b:=
 have x:=J.push M (.cells (bA k) aD)
 (Dx p.r u g w v z).mono λ_ b⟨t,q,A,B,o⟩=>⟨(p.ext l x).gJ l r o,t,q,y t b A ((p.ext l x).fz l o B) o⟩
def SQ.pick(k:SQ n a f c d e Q j M aW i h s)(m:a<n)(q:Q<=10^16)(p:∀g∈L,g=d\/g=e)(l:Int)
 (r:∀t b,0<=t->(t<l\/t=0)->SQ n a f c d e (Q+1) j b aW i h s->Fz [a] M b->K t b):aM cq 40 [vp a 0,vi l] M λw b=>dY L M b/\∃t:Int,w=vi t/\K t b:=
 (cD k.r.r q l).mono λ_ b⟨t,o,v,t1,u,g⟩=>⟨k.gJ m p g,t,o,r t b v t1 (k.fz m g (k.r.to g u)) g⟩
def SQ.eY(g:SQ n a f c d e Q j M aW i h s)(u:Rd a f l c)(E:c.size<=n)(C:dz p j M m b)(i:∀k,p k->2<=k){x v t:O}(B:SO n m b x v t o)(z:FS o):SQ n a f c d e Q m b x v t o:=
 have D:=u.lt
 have w:∀k,k<n->b[k]? =M[k]? :=λk q=>C.dQ k (aO q g.w.le) λy=>by have:=i _ y;have:=g.w.jA k q;omega
 have r:Fz [a] c b:=⟨bX g.r.f.size C.size,λk q A=>(w k V).trans (g.r.f.same k q A)⟩
 ⟨B,⟨r,u.OK g.r.r r (w a V)⟩,⟨(C.jc _ g.k1.2.1).trans g.k1.1,aO g.k1.2.1 C.size,g.k1.2.2⟩,⟨(C.jc _ g.k2.2.1).trans g.k2.1,aO g.k2.2.1 C.size,g.k2.2.2⟩,z⟩
def SQ.dv(l:SQ n a f c d e Q j M aW i h s)(o:∀g∈L,g=d\/g=e)(C:dz p j M m b)(i:∀k,p k->2<=k):dY L M b:=λg q=>by
 have r:=l.k1;have a2:=l.k2;rcases o g q with k|k<;>subst k<;>exact C.dQ _ V λk=>by have:=i _ k;omega
def SQ.fZ(t:SQ n a f c d e Q j M aW i h s)(u:cR ((h.len:Int) -1)>=0):∃b l r o q k,s.av=b++[l]/\tm j M h b l r o q k/\cR ((h.len:Int) -1)=(b.length:Int)/\h.len=b.length+1:=by
 have F:=t.w.av;have p:=t.fs.kU.depth;rcases List.eq_nil_or_concat s.av with g|⟨b,l,g⟩
 .rw[g]at F;let⟨k,m⟩:=F;have:=m.pB.len;rw[cp m.size,m.len]at this;simp only[eU]at this;rw[aP V V]at u;omega
 .rw[List.concat_eq_append]at g;rw[g]at F p;let⟨r,o,q,k,T⟩:=F.fZ;have:=T.vX;simp at p;exact⟨b,l,r,o,q,k,g,T,by rw[aP V V];omega,this⟩
def FS.fZ(h:FS s){d:List aU}{j g:aU}(i:s.av=d++[j])(k:U1 g)(l:g.an.length<=1000000/\g.aR.length<=1000000/\g.aY.length<=1000000):FS {s with av:=d++[g]}:=by
 have b:=h.Dq;have c:=h.kU;have e:∀x∈d,x∈s.av:=λx a=>by rw[i];simp[a]
 have f:=c.depth;rw[i]at f;simp at f;refine⟨⟨b.bC,b.heap,λx a=>?_,b.lh,bJ,λx a=>?_⟩,⟨c.aW,c.fl,c.heap,bJ,λx a=>?_⟩,h.lo⟩<;>rcases List.mem_append.1 a with a|a
 .exact b.av x (e x a)
 .simp at a;rw[a];exact k
 .exact b.lr x (e x a)
 .simp at a;rw[a];omega
 .exact c.av x (e x a)
 .simp at a;rw[a];exact l
def SQ.uN(m:SQ n a f c d e Q j M aW i h s)(r:Rd a f l c)(t:c.size<=n){q:List aU}{z g:aU}(y:s.av=q++[z]){J H I:O}{w:List (List Ce)}(T:tm j b h q g J H I w)(C:dz (λo=>4<=o/\o≠9) j M j b)(E:U1 g)(G:g.an.length<=1000000/\g.aR.length<=1000000/\g.aY.length<=1000000)
 (A:∀k∈L,k=d\/k=e)(B:Q<=P){v k p x:Int}(D:MJ p)(u:List Ce):dY L M b/\SP n a f c P (.agg #[vi v,vi k,vi p,vi x,O.v aW,O.v i,O.v h]) (ag b d 0 u):=
 ⟨m.dv A C λo F=>V,(m.eY r t C (λo F=>V) (m.w.jJ C T.uN) (m.fs.fZ y E G)).done r t B D u⟩
end
end
section
section
variable{S:List Nat}{m:E}{b P:Nat}{a:O}
end
end
section
def RO(f:Nat->Nat):∀n,∃B,∀i,i<n->f i<=B
 |0=>⟨0,aL⟩
 |n+1=>let⟨B,h⟩:=RO f n;⟨B+f n,λi a=>by
  rcases aZ i n with e|e
  .have:=h i e;omega
  .have:i=n:=V;subst this;omega⟩
def db.Dp{w:cg}{s:St}(e:db w s)(m:s.bI=0):s.heap=[]:=by
 have g:=e.done.1 m;let⟨l,t⟩:=e.heap.Oo;let⟨B,n⟩:=RO l s.heap.length;apply dB;intro q;have y:0<s.heap.length:=List.length_pos_iff.2 q;have gC:∀k,∃(b:Nat)(c:bO),s.heap[b]? =some c/\0<c.aQ/\k<=l b:=λk=>by
  induction k with
  |zero=>
   let⟨c,d⟩:=cK s.heap (s.heap.length -1);refine⟨_,c,d,?_,eO _⟩;have i:=e.jL c d;rcases I8 c.aQ 0 with f|f
   .have:=e.lD _ ⟨c,d,f⟩;rw[g]at this;simp[eS]at this
   .omega
  |succ k v=>
   let⟨b,c,d,r,p⟩:=v;have:=e.heap.ex b c d r;rw[g]at this;simp only[gU]at this;let⟨f,o,i⟩:=LH (h:=s.heap) (f:=b) V;let⟨j,hd⟩:=List.mem_iff_getElem?.1 o;have u:=t j f hd _ i V;rw[ng]at u;refine⟨j,f,hd,?_,V⟩;apply dB;intro x;have:=((e.heap.cell f (au hd)).DT V).2.1 _ i;omega
 obtain⟨b,c,d,_,p⟩:=gC (B+1);have:=n b (az d);omega
def db.jT{a:cg}{s:St}(h:db a s):db a {s with bq:=40}:=⟨h.fA,h.bI,h.done,h.value,h.vL,aL,⟨h.bC.1,by have:=h.bC;have:=h.bq;show s.bC<=40;omega⟩,h.depth,h.aW,h.heap,h.jL,h.av,h.first,h.chain,h.lD,h.nL⟩
def gQ.le{m f:E}{aW d c:O}{s:St}(b:gQ m aW d c s)(a:Le m f):gQ f aW d c s:=⟨b.aW.le a,eR.le b.heap a λk j⟨n,e,h⟩=>⟨n,e,h.le a⟩,eR.le b.av a λk j⟨r,o,h,e,g,i,l⟩=>⟨r,o,h,e,g.le a,i.le a,l.le a⟩⟩
def LwR(m:E)(v:Value)(a:E):Prop:=v=vb true/\J m a
section
variable{m:E}{d p aW b a:O}{c:cg}{s:St}
end
end
section
variable{d:cg}{s:St}{a b:Int}{n:Nat}
structure lO where
 ap:Int
 iR:Int
 jO:Int
 zS:Int
 ru:Int
 mQ:Int
 depth:Int
 ft:Int
def mx(a b:Int):Int:=if b>a then b else a
def iz:List bO->Int
 |[]=>0
 |c::h=>(if 0<c.aQ then 1 else 0)+iz h
def my(n:Int):List bO->Int
 |[]=>n
 |c::h=>my (mx n c.aQ) h
def So(c:lO)(s:St):lO:={c with mQ:=mx c.mQ (iz s.heap),depth:=mx c.depth s.av.length,ft:=my c.ft s.heap}
def vj(c:lO)(a:Int)(rm:Bool):lO:=
 if rm=true then{c with jO:=c.jO+1}
 else if a=6\/a=10 then{c with iR:=c.iR+1}
 else if a=14 then{c with zS:=c.zS+1}
 else if a=15 then{c with ru:=c.ru+1}
 else c
def nv(d:cg)(s:St):Instr:=
 match s.av.getLast? with
 |some f=>dt d f
 |none=>⟨0,0,0,0,[],[]⟩
def rm(d:cg)(s:St):Bool:=
 match s.av.getLast? with
 |some f=>decide ((dt d f).op=6/\(dt d f).bM≠0/\aG f.aY ((dt d f).bM -1)≠0)
 |none=>false
noncomputable def Nq (d:cg) (s:St) (c:lO):lO:=
 let a:lO:={c with ap:=c.ap+1}
 So (if(mh d s).bI=3\/(mh d s).bI=0 then vj a (nv d s).op (rm d s)else a) (mh d s)
noncomputable def gV (d:cg) (a:St):Nat->lO
 |0=>So ⟨0,0,0,0,0,0,0,0⟩ a
 |k+1=>Nq d (ap d k a) (gV d a k)
def Eg(c:lO)(d:Int)(a:Int)(s:St):lO:=
 let b:lO:={c with ap:=c.ap+1}
 if s.bI=1\/s.bI=2 then b else
 let e:lO:=if d=6\/d=10 then{b with iR:=c.iR+1 -a,jO:=c.jO+a,mQ:=mx c.mQ (iz s.heap)}
  else if d=14 then{b with zS:=c.zS+1}else if d=15 then{b with ru:=c.ru+1}else b
 {e with depth:=mx e.depth s.av.length,ft:=my e.ft s.heap}
def Kx:∀(h:List bO)(n:Int),n<=my n h
 |[],n=>cY _
 |c::h,n=>by
  have:=Kx h (mx n c.aQ);have:n<=mx n c.aQ:=by unfold mx;split<;>omega
  simp only[my];omega
def IZ:∀(h:List bO)(n:Int),my n h=n->∀c∈h,c.aQ<=n
 |[],n,_,c,a=>by simp at a
 |d::h,n,e,c,a=>by
  simp only[my]at e;have f:=Kx h (mx n d.aQ);have b:mx n d.aQ=n:=by
   have:n<=mx n d.aQ:=by unfold mx;split<;>omega
   omega
  rcases List.mem_cons.1 a with rfl|a
  .unfold mx at b;split at b<;>omega
  .rw[b]at e;exact IZ h n e c a
def Pf:∀(h:List bO)(n:Int),(∀c∈h,c.aQ<=n)->my n h=n
 |[],_,_=>rfl
 |d::h,n,a=>by
  have f:=a d aL;have b:mx n d.aQ=n:=by unfold mx;split<;>omega
  simp only[my];rw[b];exact Pf h n λc e=>a c (by simp[e])
def Qy:∀(h:List bO)(n:Int),∀c∈h,c.aQ<=my n h
 |[],_,c,a=>by simp at a
 |d::h,n,c,a=>by
  simp only[my];rcases List.mem_cons.1 a with rfl|a
  .have:=Kx h (mx n c.aQ);have:c.aQ<=mx n c.aQ:=by unfold mx;split<;>omega
   omega
  .exact Qy h _ c a
def Tf(h:List bO)(n:Int):my (my n h) h=my n h:=Pf h _ (Qy h n)
def Gi:∀(h:List bO),0<=iz h
 |[]=>cY _
 |c::h=>by have:=Gi h;simp only[iz];split<;>omega
def Lp:∀(j h:List bO),(∀b,fj j b->fj h b)->iz j<=iz h
 |[],h,_=>Gi h
 |c::i,[],d=>by
  have k:¬0<c.aQ:=λa=>by obtain⟨e,g,_⟩:=d 0 ⟨c,rfl,a⟩;simp at g
  have:=Lp i [] λb⟨e,g,a⟩=>by obtain⟨f,hd,_⟩:=d (b+1) ⟨e,by simpa using g,a⟩;simp at hd
  simp only[iz]at*;rw[ae k];omega
 |c::i,e::t,d=>by
  have k:0<c.aQ->0<e.aQ:=λa=>by obtain⟨f,hd,g⟩:=d 0 ⟨c,rfl,a⟩;simp at hd;subst hd;exact g
  have:=Lp i t λb⟨f,hd,a⟩=>by
   let⟨l,m,g⟩:=d (b+1) ⟨f,by simpa using hd,a⟩;exact⟨l,by simpa using m,g⟩
  simp only[iz];split<;>split<;>omega
def HO:∀(h:List bO),iz h<=h.length
 |[]=>by simp[iz]
 |c::h=>by have:=HO h;simp only[iz,aV];split<;>omega
def fj.ns{h:List bO}{b:Nat}(d:fj (ns h) b):fj h b:=by
 let⟨c,a,e⟩:=d;unfold Go.Proofs.YtkoifinbblcbiaaGreat.ns at a;rw[lJ]at a;split at a
 .exact⟨c,a,e⟩
 .simp at a
def fj.Ay{h:List bO}{w:Int}(e:gC h w)(c:bO){b:Nat}(d:fj (h.set (ix w) c) b):fj h b:=by
 by_cases a:b=ix w
 .subst a;exact e.2
 .exact(fj.ne a).1 d
def fj.jf:∀(a:List Int)(h:List bO)(b:Nat),(∀w∈a,gC h w)->fj (jf h a) b->fj h b
 |[],_,_,_,c=>c
 |w::a,h,b,d,c=>by
  have e:=d w aX;exact(fj.mP e b).1 (fj.jf a _ b (λv f=>⟨(d v (ai _ f)).1,(fj.mP e _).2 (d v (ai _ f)).2⟩) c)
def fj.gS:∀(n:Nat)(h:List bO)(j:List Int),Cl h+j.length<=n->∀b,fj (gS h j) b->fj h b
 |n,h,[],_,b,a=>by rw[tn]at a;exact a
 |0,h,w::r,d,b,_=>by simp at d
 |n+1,h,w::r,d,b,a=>by
  simp only[aV]at d;rcases dJ (gC h w)with c|c
  .let⟨g,i⟩:=bZ c;by_cases e:(aI h w).aQ=1
   .have f:=kD (d:=jb) g;simp only[aj i,jb]at f;simp at f;rw[tp c e]at a;exact fj.Ay c _ (fj.gS n _ _ (by simp[jb];omega) b a)
   .have f:=kD (d:={aI h w with aQ:=(aI h w).aQ -1}) g;simp only[aj i]at f;rw[aj V]at f;rw[qE c e]at a;exact fj.Ay c _ (fj.gS n _ _ (by simp only[Go.Proofs.YtkoifinbblcbiaaGreat.fw];omega) b a)
  .rw[qF c]at a;exact fj.gS n _ _ V b a
def fj.apart{h:List bO}{e:Nat->Int}(g:fL h e){w:Int}(c:gC h w){b:Nat}(a:fj (apart h w) b):fj h b:=by
 let⟨d,l⟩:=bZ c;unfold Go.Proofs.YtkoifinbblcbiaaGreat.apart at a;split at a
 .exact fj.Ay c _ (fj.ns a)
 .rename_i k;refine fj.Ay c {aI h w with aQ:=(aI h w).aQ -1} (fj.jf _ _ _ (λv i=>?_) a);let⟨j,f⟩:=lF.1 i;have:=g.field (ij d) j f;refine⟨f,?_⟩;by_cases e:ix v=ix w
  .rw[e,fj.Eo d];show 0<(aI h w).aQ -1;omega
  .rw[fj.ne e];exact this.2
def Dz(y:db d s)(k:List aU){f:aU}{x:Instr}{aR:List Int}(g:kA d s f x aR):
 ((eJ d s k f x aR).bI=s.bI\/(eJ d s k f x aR).bI=0)/\(x.op≠6->x.op≠10->∀b,fj (eJ d s k f x aR).heap b->fj s.heap b):=by
 unfold eJ
 simp only[]
 by_cases l:x.op=0
 .rw[aj l];exact⟨Or.inl rfl,λ_ _ b a=>a⟩
 rw[ae l]
 by_cases m:x.op=1\/x.op=2\/x.op=3\/x.op=4
 .rw[aj m];exact⟨Or.inl rfl,λ_ _ b a=>a⟩
 rw[ae m]
 by_cases v:x.op=5
 .rw[aj v];exact⟨Or.inl rfl,λ_ _ b a=>a⟩
 rw[ae v]
 by_cases e:x.op=6
 .rw[aj e]
  split
  .exact⟨Or.inl rfl,λc=>absurd e c⟩
  .exact⟨Or.inl rfl,λc=>absurd e c⟩
 rw[ae e]
 by_cases h:x.op=10
 .rw[aj h];exact⟨Or.inl rfl,λ_ c=>absurd h c⟩
 rw[ae h]
 by_cases j:x.op=14
 .rw[aj j];exact⟨Or.inl rfl,λ_ _ b a=>(fj.mP (g.VV j).1 b).1 a⟩
 rw[ae j]
 by_cases n:x.op=15
 .rw[aj n];exact⟨Or.inl rfl,λ_ _ b a=>fj.gS _ _ _ (ad _) b (fj.ns a)⟩
 rw[ae n]
 by_cases c:x.op=16\/x.op=17
 .rw[aj c]
  split
  .exact⟨Or.inl rfl,λ_ _ b a=>fj.Ay (g.Jp c).1 _ a⟩
  .exact⟨Or.inl rfl,λ_ _ b a=>fj.apart y.heap (g.Jp c).1 a⟩
 rw[ae c]
 by_cases o:x.op=18
 .rw[aj o];exact⟨Or.inl rfl,λ_ _ b a=>a⟩
 rw[ae o]
 by_cases p:x.op=19
 .rw[aj p];exact⟨Or.inl rfl,λ_ _ b a=>a⟩
 rw[ae p]
 by_cases q:x.op=20
 .rw[aj q];exact⟨Or.inl rfl,λ_ _ b a=>a⟩
 rw[ae q]
 by_cases r:x.op=21
 .rw[aj r];exact⟨Or.inl rfl,λ_ _ b a=>a⟩
 rw[ae r]
 by_cases t:x.op=22
 .rw[aj t];exact⟨Or.inl rfl,λ_ _ b a=>a⟩
 rw[ae t]
 by_cases w:x.op=9
 .rw[aj w];exact⟨Or.inl rfl,λ_ _ b a=>a⟩
 rw[ae w]
 by_cases u:x.op=24
 .rw[aj u];exact⟨Or.inl rfl,λ_ _ b a=>a⟩
 rw[ae u]
 by_cases i:x.op=11
 .rw[aj i];exact⟨Or.inl rfl,λ_ _ b a=>fj.apart y.heap (g.apply i).1 a⟩
 rw[ae i]
 split
 .exact⟨Or.inr rfl,λ_ _ b a=>a⟩
 .exact⟨Or.inl rfl,λ_ _ b a=>a⟩
def RE(i:db d s)(e:s.bI=3):(∃k,(k=1\/k=2)/\mh d s={s with bI:=k})\/
 ∃a f aR,s.av=a++[f]/\kA d s f (nv d s) aR/\mh d s=eJ d s a f (nv d s) aR:=by
 let⟨a,f,b⟩:=i.split e
 have c:s.av.getLast?=some f:=by rw[b];simp
 have g:s.av.dropLast=a:=by rw[b];simp
 have h:nv d s=dt d f:=by unfold nv;rw[c]
 unfold mh
 rw[ae (by simpa using e),c,g,h]
 simp only[]
 split
 .exact Or.inl ⟨1,Or.inl rfl,rfl⟩
 .split
  .rename_i j;exact Or.inr ⟨a,f,_,b,j,rfl⟩
  .exact Or.inl ⟨2,Or.inr rfl,rfl⟩
structure Ol(c:lO)(s:St):Prop where
 mQ:iz s.heap<=c.mQ
 depth:(s.av.length:Int)<=c.depth
 ft:my c.ft s.heap=c.ft
def OO(h:b<=a):mx a b=a:=by unfold mx;rw[ae V]
def Wn:b<=mx a b:=by unfold mx;split<;>omega
def Qm(c:lO)(s:St):Ol (So c s) s:=⟨Wn,Wn,Tf _ _⟩
def Ut{c:lO}(h:Ol c s):So c s=c:=by
 unfold So;rw[OO h.mQ,OO h.depth,h.ft]
def Ji(b:Bool):Int:=if b=true then 1 else 0
def RG(c:lO)(b:Int)(a:Bool):(vj c b a).mQ=c.mQ/\(vj c b a).depth=c.depth/\(vj c b a).ft=c.ft:=by
 unfold vj;repeat' split
 all_goals exact⟨rfl,rfl,rfl⟩
def SS{f:lO}(i:db d s)(p:s.bI=3)(g:Ol f s):Eg f (nv d s).op (Ji (rm d s)) (mh d s)=Nq d s f:=by
 rcases RE i p with⟨z,w,e⟩|⟨l,q,aR,v,n,e⟩
 .unfold Eg Nq;simp only[];rw[aj (by rw[e];exact w),ae (by rw[e];simp only[];omega)];rw[Ut ⟨by rw[e];exact g.mQ,by rw[e];exact g.depth,by rw[e];exact g.ft⟩]
 .have y:(mh d s).bI=3\/(mh d s).bI=0:=by rw[e];have:=(Dz i l n).1;rw[p]at this;exact this
  have c:rm d s=true->(nv d s).op=6:=λc=>by
   have k:s.av.getLast?=some q:=by rw[v];simp
   unfold rm at c;rw[k]at c;simp only[aq]at c;unfold nv;rw[k];exact c.1
  have x:(nv d s).op≠6->(nv d s).op≠10->iz (mh d s).heap<=f.mQ:=λa r=>by
   refine ue (Lp _ _ λb o=>?_) g.mQ;rw[e]at o;exact(Dz i l n).2 a r b o
  generalize t:mh d s=S at*;unfold Eg Nq;simp only[];rw[t,ae V,aj y];cases u:rm d s
  .simp only[Ji];unfold vj So;simp only[ig,qt];by_cases a:(nv d s).op=6\/(nv d s).op=10
   .simp only[aj a,Int.sub_zero,Int.add_zero]
   .simp only[ae a];have j:=OO (x (λh=>a (Or.inl h)) (λh=>a (Or.inr h)));by_cases h:(nv d s).op=14
    .simp only[aj h,j]
    .simp only[ae h];by_cases m:(nv d s).op=15
     .simp only[aj m,j]
     .simp only[ae m,j]
  .have a:=c u;simp only[Ji];unfold vj So;simp only[a,true_or,MI];congr 1;omega
def Te(d:cg)(s:St)(c:lO):Ol (Nq d s c) (mh d s):=Qm _ _
def Jy(d:cg)(a:St):∀k,Ol (gV d a k) (ap d k a)
 |0=>Qm _ _
 |k+1=>by rw[oT];exact Te _ _ _
structure Py(n:Nat)(c:lO):Prop where
 ap:0<=c.ap/\c.ap<=n
 iR:0<=c.iR/\c.iR<=n
 jO:0<=c.jO/\c.jO<=n
 zS:0<=c.zS/\c.zS<=n
 ru:0<=c.ru/\c.ru<=n
def Uu{c:lO}(h:Py n c)(s:St):Py n (So c s):=⟨h.ap,h.iR,h.jO,h.zS,h.ru⟩
def VF{c:lO}(h:Py n c)(d:cg)(s:St):Py (n+1) (Nq d s c):=by
 unfold Nq;refine Uu ?_ _;let⟨a,b,e,f,g⟩:=h;split
 .unfold vj;repeat' split
  all_goals exact⟨by simp only[];omega,by simp only[];omega,by simp only[];omega,by simp only[];omega,by simp only[];omega⟩
 .exact⟨by simp only[];omega,by simp only[];omega,by simp only[];omega,by simp only[];omega,by simp only[];omega⟩
def IU(d:cg)(a:St):∀k,Py k (gV d a k)
 |0=>Uu ⟨aL,aL,aL,aL,aL⟩ _
 |k+1=>VF (IU d a k) _ _
end
section
variable{m g a:E}{h:List bO}{d e:Nat}{c:lO}
structure yJ(m:E)(hp:O)(h:List bO):Prop where
 len:hp.len=h.length
 iF:∀(k:Nat)(c:bO),h[k]? =some c->∃f,af m hp.D (hp.off+k*3)=some (vi c.aQ)/\af m hp.D (hp.off+k*3+1)=some (vi c.kG)/\af m hp.D (hp.off+k*3+2)=some (O.v f)
def yJ.dQ{a:O}(H:yJ m a h)(k:h≠[]->g[a.D]? =m[a.D]?):yJ g a h:=
 ⟨H.len,λl c b=>by
  let⟨f,d,i,j⟩:=H.iF l c b;have e:=k (λe=>by subst e;simp at b);exact⟨f,by rw[aJ e];exact d,by rw[aJ e];exact i,by rw[aJ e];exact j⟩⟩
def yJ.lt{a:O}(H:yJ m a h)(d:h≠[]):a.D<m.size:=by
 cases h with
 |nil=>exact absurd rfl d
 |cons c r=>
  obtain⟨f,b,_⟩:=H.iF 0 c rfl;exact mW b
def yJ.ext{a:O}(H:yJ m a h)(c:J m g):yJ g a h:=H.dQ λb=>c.same _ (H.lt b)
def dS.jm{N:Nat}{g:Nat->Nat}{a:O}(H:dS N g m a h):yJ m a h:=
 ⟨H.len,λ_ _ e=>let⟨f,b,c,d,_⟩:=H.bU e;⟨f,b,c,d⟩⟩
def xF:∀(l r:List bO),iz (l++r)=iz l+iz r
 |[],r=>by simp[iz]
 |c::l,r=>by simp only[cH,iz,xF l r];omega
def BK:∀(l r:List bO)(n:Int),my n (l++r)=my (my n l) r
 |[],r,n=>rfl
 |c::l,r,n=>by simp only[cH,my,BK l r]
def uP{f:O}(H:yJ m f h)(w:h.length<=1000000000):vm cq 46 [O.v f] m (vi (iz h)):=by
 apply Ai;simp -zeta only[aC,aB];have t:=H.len;refine dV (σ:=Int) (n:=h.length) V (λk l g=>l=iz (h.take k)/\J m g) ⟨by simp[iz],J.aA _⟩ ?_;rintro k l y I μ s ⟨rfl,b⟩ o
 have v:=Gi (h.take k);have u:=HO (h.take k);have x:(h.take k).length<=h.length:=bJ;refine dit (λr=>?_) λr=>?_
 .let⟨c,d⟩:=cK h k;let⟨p,g1,g2,q⟩:=(H.ext b).iF k c d;refine⟨V,V,c.aQ,by simpa using g1,c.kG,by simpa using g2,p,by simpa using q,?_⟩;intro z j;have i:J m j:=(b.aH _).ag b.size _ _;clear_value j;have e:iz (h.take (k+1))=iz (h.take k)+(if 0<c.aQ then 1 else 0):=by rw[bd d,xF];simp[iz]
  refine⟨λa=>?_,λa=>?_⟩
  .simp at a;rw[aP V V];exact o V _ _ ⟨by rw[e,aj a],i⟩
  .simp at a;exact o V _ _ ⟨by rw[e,ae V];omega,i⟩
 .rw[cJ V];exact⟨rfl,b⟩
structure eX(d:Nat)(m g:E):Prop where
 size:m.size<=g.size
 same:∀b,b<m.size->b≠d->g[b]? =m[b]?
def eX.aA(d:Nat)(m:E):eX d m m:=⟨ad _,λ_ _ _=>rfl⟩
def eX.ext(h:eX d a m)(e:J m g):eX d a g:=⟨bX h.size e.size,λb c f=>by rw[e.same b (aO c h.size)];exact h.same b c f⟩
def eX.trans(h:eX d a m)(f:eX d m g):eX d a g:=⟨bX h.size f.size,λb c e=>by rw[f.same b (aO c h.size) e];exact h.same b c e⟩
def eX.ag(h:eX d a m)(o:Nat)(l:List Ce):eX d a (ag m d o l):=⟨by rw[aw];exact h.size,λb e c=>by rw[bo l m d o c];exact h.same b e c⟩
def eX.dv(h:eX d m g){l:List Nat}(c:∀b∈l,b<m.size/\b≠d):dY l m g:=λb a=>h.same b (c b a).1 (c b a).2
def NB(c:lO):List Ce:=[.i c.ap,.i c.iR,.i c.jO,.i c.zS,.i c.ru,.i c.mQ,.i c.depth,.i c.ft]
def Nv(e d:Nat)(m:E)(c:lO)(v:Value)(g:E):Prop:=v=.tuple #[]/\cw g d e (NB c)/\eX d m g
def Jf(B:cw m d e (NB c)){l C aW:O}{s:St}(H:yJ m l s.heap)(D:s.heap≠[]->l.D≠d)(T:s.heap.length<=1000000000)(S:C.len=s.av.length)(X Y Z q3:Int):
 aM cq 49 [vp d 0,.agg #[vi X,vi Y,vi Z,vi q3,O.v aW,O.v l,O.v C]] m (Nv e d m (So c s)):=by
 apply Aa (d,0)
 simp -zeta only[aC,aB]
 intro t
 have z:J m t:=(J.aA m).aH _
 have s1:t.size=m.size+1:=by simp[t]
 clear_value t
 have ac:=B.lt
 have u:=B.ext z
 refine⟨c.mQ,u.bU 5,(uP (H.ext z) T).mono ?_⟩
 rintro _ x ⟨rfl,p⟩
 have s2:=p.size
 have A:=u.ext p
 refine⟨p.dv bJ,iz s.heap,rfl,p.cr (u.bU 5),A.eC (by simp[NB]),?_⟩
 intro a
 have o3:eX d m a:=((eX.aA d m).ext (z.trans p)).ag _ _
 have t3:eX d x a:=(eX.aA d x).ag _ _
 have v:cw a d e (NB {c with mQ:=mx c.mQ (iz s.heap)}):=A.ag (m:=m) (o:=5) (r:=[.i (mx c.mQ (iz s.heap))])
 have s3:a.size=x.size:=aw _ _ _ _
 clear_value a
 refine⟨t3.dv bJ,c.depth,v.bU 6,v.eC (by simp[NB]),?_⟩
 rw[S]
 intro f
 have E:eX d m f:=o3.ag _ _
 have t4:eX d a f:=(eX.aA d a).ag _ _
 have I:cw f d e (NB {c with mQ:=mx c.mQ (iz s.heap),depth:=mx c.depth s.av.length}):=v.ag (m:=m) (o:=6) (r:=[.i (mx c.depth s.av.length)])
 have s4:f.size=a.size:=aw _ _ _ _
 clear_value f
 refine⟨t4.dv bJ,?_⟩
 have hl:=H.len
 have L:yJ f l s.heap:=H.dQ λj=>E.same _ (H.lt j) (D j)
 refine fm (n:=s.heap.length) V (λk g=>eX d m g/\m.size<g.size/\cw g d e (NB {c with mQ:=mx c.mQ (iz s.heap),depth:=mx c.depth s.av.length,ft:=my c.ft (s.heap.take k)})/\yJ g l s.heap) ⟨E,V,by simpa[my]using I,L⟩ ?_
 rintro k y aa μ hk ⟨o5,z5,q,M⟩ W
 refine dit (λR=>?_) λR=>?_
 .let⟨i,hd⟩:=cK s.heap k
  let⟨P,g1,g2,Q⟩:=M.iF k i hd
  refine⟨V,V,i.aQ,by simpa using g1,i.kG,by simpa using g2,P,by simpa using Q,?_⟩
  intro U b
  have G:J y b:=((J.aA y).aH _).ag (ad _) _ _
  have s7:b.size=y.size+1:=by simp[b,U,aw]
  clear_value b
  have w:=q.ext G
  have ab:=q.lt
  have N:my c.ft (s.heap.take (k+1))=mx (my c.ft (s.heap.take k)) i.aQ:=by rw[bd hd,BK];rfl
  refine⟨_,w.bU 7,w.eC (by simp[NB]),?_⟩
  intro h
  have F:eX d m h:=(o5.ext G).ag _ _
  have t8:eX d b h:=(eX.aA d b).ag _ _
  have K:cw h d e (NB {c with mQ:=mx c.mQ (iz s.heap),depth:=mx c.depth s.av.length,ft:=my c.ft (s.heap.take (k+1))}):=by rw[N];exact w.ag (m:=m) (o:=7) (r:=[.i (mx (my c.ft (s.heap.take k)) i.aQ)])
  have s8:h.size=b.size:=aw _ _ _ _
  clear_value h
  refine⟨t8.dv bJ,W V h ⟨F,V,K,H.dQ λj=>F.same _ (H.lt j) (D j)⟩⟩
 .rw[cJ V]at q
  exact⟨rfl,q,o5⟩
def MU(B:cw m d e (NB c))(k:Int)(a:Bool)(n:Nat)(x:n<=1000000)(l:Py n c):aM cq 50 [vp d 0,vi k,vb a] m (Nv e d m (vj c k a)):=by
 apply xA (d,0);let⟨s,t,u,v,w⟩:=l;have o1:∀{q:Nat}{p:List Ce},eX d m (ag m d q p):=(eX.aA d m).ag _ _;unfold vj;refine⟨λi=>⟨_,B.bU 2,B.eC (by simp[NB]),?_⟩,λi=>?_⟩
 .rw[aj i,aP V V];exact⟨rfl,B.ag (m:=m) (o:=2) (r:=[.i (c.jO+1)]),o1⟩
 rw[ae (by simp[i])];have j:(let b:E:=ag m (d,0).1 ((d,0).2+1) [.i (cR (c.iR+1))];Nv e d m {c with iR:=c.iR+1} (.tuple #[]) b):=by
  rw[aP V V];exact⟨rfl,B.ag (m:=m) (o:=1) (r:=[.i (c.iR+1)]),o1⟩
 refine⟨λh=>⟨_,B.bU 1,B.eC (by simp[NB]),?_⟩,λh=>⟨λf=>⟨_,B.bU 1,B.eC (by simp[NB]),?_⟩,λf=>?_⟩⟩
 .rw[aj (Or.inl (by simpa using h))];exact j
 .rw[aj (Or.inr (by simpa using f))];exact j
 rw[ae (by simp at h f;omega)];refine⟨λb=>⟨_,B.bU 3,B.eC (by simp[NB]),?_⟩,λb=>⟨λg=>⟨_,B.bU 4,B.eC (by simp[NB]),?_⟩,λg=>?_⟩⟩
 .rw[aj (by simpa using b),aP V V];exact⟨rfl,B.ag (m:=m) (o:=3) (r:=[.i (c.zS+1)]),o1⟩
 .rw[ae (by simpa using b),aj (by simpa using g),aP V V];exact⟨rfl,B.ag (m:=m) (o:=4) (r:=[.i (c.ru+1)]),o1⟩
 .rw[ae (by simpa using b),ae (by simpa using g)];exact⟨rfl,B,eX.aA _ _⟩
end
end Go.Proofs.YtkoifinbblcbiaaGreat
