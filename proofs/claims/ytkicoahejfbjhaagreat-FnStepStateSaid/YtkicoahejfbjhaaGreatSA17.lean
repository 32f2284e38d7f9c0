/- Part of a proof. -/
import Derived.Test.YtkicoahejfbjhaaGreatSA10
import Derived.Test.YtkicoahejfbjhaaGreatSA12
import Derived.Test.YtkicoahejfbjhaaGreatSA14
import Derived.Test.YtkicoahejfbjhaaGreatSA15
import Derived.Test.YtkicoahejfbjhaaGreatSA16
set_option linter.all false
set_option maxHeartbeats 8000000
set_option maxRecDepth 100000
namespace Go.Proofs.YtkicoahejfbjhaaGreat
open Go.Vc
section
variable{w:Int}
def KZ:∀(b:List Int)(g:List bM),(∀v∈b,fX g v)->∀x,fX g x->fX (jd g b) x
 |[],g,_,x,c=>c
 |v::b,g,d,x,c=>by
  have e:=d v bg;have up:∀y,fX g y->fX (mO g v) y:=λy a=>⟨a.1,(fO.mO e _).2 a.2⟩;exact KZ b (mO g v) (λy a=>up y (d y (ai _ a))) x (up x c)
def Sj{h:List bM}(c:fX h w)(d:(aM h w).aP≠1){x:Int}(a:fX h x):fX (fg h w) x:=by
 let⟨b,f⟩:=bS c;refine⟨a.1,?_⟩;by_cases e:ix x=ix w
 .rw[e];unfold fg;rw[fO.yB b];simp only[];omega
 .exact(fO.ne e).2 a.2
section
variable{t:E}{e:Nat->Nat}{m:E}{j:Nat}{d p aT b g:O}{c:Int}{s:St}{q:List aX}{a:aX}{r v h:O}{u:List (List Ce)}
open Classical in
noncomputable def rJ (g:List bM) (w:Int) (eA:Bool):List bM:=
 if(aM g w).aP=1/\eA=true then g.set (ix w) ⟨-1,0,dk (aM g w).aE.length⟩else apart g w
def Dn(S:ST t e m j bR (IB d p c s aT b g) aT b g s.aT s.heap q a r v h u)(ab:fX s.heap w)(eA:Bool){az:Nat->Int}(N:fL s.heap az)(aZ:s.heap.length<=1000000000):
 aN cg 115 [vp j 0,vi w,vb eA] m λk A=>∃G:Bool,k=vb G/\(G=true<->(aM s.heap w).aP=1/\eA=true)/\∃ax ar,ST t ax A j bR (IB d p c s aT ar g) aT ar g s.aT (rJ s.heap w eA) q a r v h u/\To e m ax A:=by
 apply uS (j,0)
 simp -zeta only[aC,aB]
 let⟨C,a7⟩:=bS ab
 have K:=av C
 have a2:=S.cQ.heap.len
 have a1:=ab.1
 have aI:ix w=(w -1000).toNat:=rfl
 have e4:cT (w -1000)=w -1000:=aQ V V
 have ag:=N.cell _ (aq C)
 have a4:=ag.hi
 have aX:=ag.fl
 have g8:af m j 8=some (O.v b):=S.cQ.box.bZ 8
 let⟨f0,Y,g1,g2,gf,gr⟩:=S.cQ.heap.bZ C
 have aY:=gf.len
 rw[e4,<-aI]
 refine⟨b,g8,V,V,λA=>A=m/\¬((aM s.heap w).aP=1/\eA=true),⟨_,Y,λy=>⟨λz=>?_,λz=>⟨rfl,λx=>by rw[z]at x;simp at x⟩⟩,λy=>⟨rfl,λx=>by simp at y;exact y x.1⟩⟩,?_⟩
 .simp at y
  have W:Int.toNat (f0.len:Int)=(aM s.heap w).aE.length:=V
  refine⟨f0,g2,V,dg _,V,V,?_⟩
  rw[W]
  intro B
  have I:J m B:=(J.az m).aK _
  have L:gV m B aA 1 (.mk m.size 0 (aM s.heap w).aE.length (aM s.heap w).aE.length) ((dk (aM s.heap w).aE.length).map Ce.i):=by
   have X:B=m.push (.cells (bt ((dk (aM s.heap w).aE.length).map Ce.i)) aA):=by rw[<-tQ]
   rw[X];exact NQ _
  let⟨D,t1⟩:=S.ext I
  clear_value B
  refine⟨D.cQ.heap.wr (o:=0) K bh,?_⟩
  intro m2
  let⟨F,E⟩:=D.cQ.heap.setCell D.cQ.new K (-1) 0 (ap.fZ L (by rw[ka];omega)) (Re.of S.cQ.heap (λx=>I.same _ (S.cQ.heap.D x).2) (λ_=>L) (λ_=>S.cQ.new _ (ad _)) S.cQ.cx.size)
  let⟨H,t2⟩:=D.gA (E.mono λx z=>Or.inl z) F
  refine⟨true,rfl,by simp[y,z],e,b,?_,t1.trans t2⟩
  rw[rJ,an ⟨y,z⟩];exact H
 .rintro B ⟨rfl,ao⟩
  have ak:(false=true<->(aM s.heap w).aP=1/\eA=true):=⟨sx,λh=>absurd h ao⟩
  rw[show rJ s.heap w eA=apart s.heap w by rw[rJ,ae ao]]
  refine⟨_,Y,λy=>?_,λy=>?_⟩
  .simp at y
   refine⟨S.cQ.heap.wr (o:=0) K bh,?_⟩
   intro m2
   let⟨F,E⟩:=S.cQ.heap.setCell S.cQ.new K 0 0 (f:=.nil) (l:=[]) ⟨rfl,aL,aL,aL⟩ (λT=>absurd rfl T)
   let⟨H,t2⟩:=S.gA (E.mono λx z=>Or.inl z) F
   refine⟨b,H.cQ.box.bZ 8,?_⟩
   intro m3 m4
   let⟨D,Q,kb⟩:=H.Ox
   refine(uv D.cQ.heap D.cQ.new kb (fH _ _ _) bE).mono ?_
   rintro _ Z ⟨aa,P,M⟩
   let⟨I,R⟩:=D.gA M aa
   refine⟨_,P.bZ 0,I.cQ.ms (i:=8) aL,?_⟩
   intro m6
   let⟨L,U⟩:=I.jv 8 [.s (b.cut 0 (jg (s.heap.set (ix w) ⟨0,0,[]⟩) (s.heap.set (ix w) ⟨0,0,[]⟩).length) 3)]
   refine⟨false,rfl,ak,_,b.cut 0 (jg (s.heap.set (ix w) ⟨0,0,[]⟩) (s.heap.set (ix w) ⟨0,0,[]⟩).length) 3,?_,((t2.trans Q).trans R).trans U⟩
   rw[apart,an y];exact L
  .simp only[aj]at y
   have W:cT ((aM s.heap w).aP -1)=(aM s.heap w).aP -1:=aQ V V
   refine⟨_,Y,S.cQ.heap.wr (o:=0) K bh,?_⟩
   rw[W]
   intro m2
   let⟨F,E⟩:=S.cQ.heap.rj S.cQ.new C ((aM s.heap w).aP -1)
   let⟨f1,k0,k1,k2,kf,kr⟩:=F.bZ (eI C)
   simp only[]at kf kr
   have a0:=kf.len
   refine⟨f1,k2,?_⟩
   have ai:∀{A},dp (λx=>x=3) e B e A->af A j 8=some (O.v b):=λhc=>by rw[aJ (hc.eA _ S.cQ.box.lt (by rw[S.cQ.Qm];decide))];exact g8
   have am:∀k∈(aM s.heap w).aE,1000<=k->fX (fg s.heap w) k:=λk D b=>Sj ab y (N.field (aq C) D b)
   have aH:∀U∈fg s.heap w,-10<=U.aP/\U.aP<=999999:=λU hq=>by
    rcases nJ hq with rfl|⟨G,_,P⟩
    .simp only[];omega
    .have:=N.cell U (aq P);have h5:=this.lo;have h6:=this.hi;omega
   have aV:dp (λx=>x=3) e B e m2:=E
   refine dU (n:=(aM s.heap w).aE.length) V (λx A=>dJ t.size e A b (jd (fg s.heap w) (kU ((aM s.heap w).aE.take x)))/\dp (λx=>x=3) e B e A/\ap A f1 (aM s.heap w).aE) ⟨F,E,kf⟩ ?_
   rintro x m3 aS μ z ⟨R,H,au⟩ aw
   refine dit (λh5=>?_) λh5=>?_
   .let⟨k,D⟩:=cG ((aM s.heap w).aE) x
    have aR:k<=9223372036854775807:=by
     rcases dQ (1000<=k)with h6|h6
     .have:=av (bS (N.field (aq C) (aq D) h6)).1;unfold ix at this;omega
     .omega
    have aP:(jd (fg s.heap w) (kU ((aM s.heap w).aE.take x))).length=s.heap.length:=by rw[vT];simp[fg]
    have aK:1000<=k->fX (jd (fg s.heap w) (kU ((aM s.heap w).aE.take x))) k:=λb=>KZ _ _ (λL I=>am L (dA (lA.1 I).1) (lA.1 I).2) k (am k (aq D) b)
    refine⟨V,V,k,by simpa using au.aF D,b,ai H,(ig (R.cells (by rw[aP];omega)) aR).mono ?_⟩
    rintro _ m4 ⟨ay,G,rfl,P,aF,Z⟩
    have L:dp (λx=>x=3) e B e m4:=H.trans (dp.eG _ Z H.new)
    have I:=R.eH (dp.eG (λ_=>False) Z H.new) id id
    have ac:=au.ext Z
    refine⟨ay,G,rfl,λah=>?_,λaG=>aw V _ ⟨?_,L,ac⟩⟩
    .have al:=P.1 ah
     have aE:=aF ah
     subst aE
     let⟨Q,a5⟩:=bS al
     have aO:=av Q
     have a3:=I.len
     obtain⟨f4,j0,_⟩:=I.bZ Q
     have aW:=Aa _ _ 999999 aH _ (aq Q)
     have a6:=nM ((aM s.heap w).aE.take x)
     have a8:((aM s.heap w).aE.take x).length<=3:=bE
     have X:cT ((aM (jd (fg s.heap w) (kU ((aM s.heap w).aE.take x))) k).aP+1)=(aM (jd (fg s.heap w) (kU ((aM s.heap w).aE.take x))) k).aP+1:=aQ V V
     have aD:Int.toNat ((ix k:Nat):Int)=ix k:=V
     refine⟨b,ai L,?_⟩
     rw[aD]
     refine⟨V,V,_,j0,V,V,I.wr (o:=0) aO bh,?_⟩
     rw[X]
     let⟨aa,M⟩:=I.rj L.new Q ((aM (jd (fg s.heap w) (kU ((aM s.heap w).aE.take x))) k).aP+1)
     refine aw V _ ⟨?_,L.trans M,iP ac λT=>M.eA _ (iE ac T) (by rw[(kr T).1];decide)⟩
     have:kU [k]=[k]:=by simp[kU,al.1]
     rw[aU D,oQ,this,Eb]
     exact aa
    .have M:¬1000<=k:=λb=>fb P aG (aK b)
     have:kU [k]=[]:=by simp[kU];omega
     rw[aU D,oQ,this,dX];exact I
   .rw[bX V]at R
    let⟨I,t3⟩:=S.gA (H.mono λx z=>Or.inl z) R
    refine⟨false,rfl,ak,e,b,?_,t3⟩
    rw[apart,ae y];exact I
def JB(Y:ST t e m j bR (IB d p c s aT b g) aT b g s.aT s.heap q a r v h u){f:Instr}{aa al:O}(ha:ap t aa f.args)(aj:∀z∈f.args,0<=z/\z<a.ak.length)(aq:f.args.length<=4)(av:f.op=0\/f.op=1\/f.op=2\/f.op=3\/f.op=4\/f.op=5)(h5:f.op=5->f.args.length=1)(h2:f.op≠0->f.op≠5->f.args.length=2)(ac:f.op≠0->∀z∈f.args,gK (aF a.ak z))
 (ar:a.ak.length=a.aR.length/\a.ba.length=a.aR.length/\a.aR.length<=2000)(hd:0<=f.dst/\f.dst<a.aR.length)(aw:s.aT.length<=1000000000):
 aN cg 104 [vp j 0,vp g.D (g.off+q.length*6),xv f aa al] m λ_ w=>DH t e m j d p c (if f.op=0 then{s with ao:=q++[a.put f.dst f.bP 0]}else if f.op=5 then{s with aT:=s.aT++[aF a.ak (aF f.args 0)],ao:=q++[a.put f.dst (aF a.ak (aF f.args 0)) 0]}else{s with ao:=q++[a.put f.dst (OH f.op (aF a.ak (aF f.args 0)) (aF a.ak (aF f.args 1))) 0]}) w:=by
 apply tg (j,0) (g.D,g.off+q.length*6)
 simp -zeta only[aC,aB]
 intro y
 have ak:J m y:=(J.az m).aK _
 have s1:y.size=m.size+1:=by simp[y]
 let⟨K,t1⟩:=Y.ext ak
 have T:zi e y [m.size]:=λab C=>by simp at C;subst C;exact⟨V,Y.cQ.new _ (ad _)⟩
 clear_value y
 have X:=K.fp ⟨V,V,V⟩
 refine(uU X.g3 X.ak (ha.ext K.cQ.cx) aj V).mono ?_
 rintro _ l ⟨ws,rfl,ow,ai⟩
 let⟨A,t2⟩:=K.ext ai
 have I:=T.to t2
 have ax:(cL a f.args).length=f.args.length:=by simp[cL]
 have D:ap l ws (cL a f.args):=ap.fZ ow V
 have ay:=D.len
 have ah:=t1.trans t2
 have S:∀{F:Nat},F<f.args.length->(cL a f.args)[F]? =some (aF a.ak (aF f.args F)):=λ{F} hk=>by
  let⟨z,hy⟩:=dB hk;simp[cL,hy,XZ hy]
 have ag:∀{M:E}(hx:J l M)(H:Int),aN cg 105 [vp g.D (g.off+q.length*6),vi f.dst,vi H,vi 0] M λ_ w=>eF [m.size] M w/\DH t e m j d p c {s with ao:=q++[a.put f.dst H 0]} w:=λhx H=>by
  let⟨SM,tM⟩:=A.ext hx;refine(qZ SM hd.1 V hd.2 H 0).mono ?_;rintro _ w ⟨S',t'⟩;exact⟨t'.dH (I.to tM),e,aT,b,g,S'.cQ,(ah.trans tM).trans t'⟩
 refine⟨t2.dH T,ws,rfl,λo=>?_,λn=>⟨λo=>?_,λN=>?_⟩⟩
 .simp at o;rw[an o];exact ag (J.az _) _
 .simp at n o
  rw[ae n,an o]
  have h1:=h5 o
  have au:(O.len aT)=s.aT.length:=by have:=A.cQ.aT.len;simp at this;omega
  refine⟨V,V,_,D.aF (k:=0) (S V),aT,A.cQ.box.bZ 7,?_⟩
  intro G
  have B:J l G:=(J.az l).aK _
  have jt:fP G l.size 0 [.i (aF a.ak (aF f.args ((0:Nat):Int)))]:=(cE.push l _ _).iA
  let⟨L,t3⟩:=A.ext B
  have U:=I.to t3
  clear_value G
  refine iF.append (zs:=[.i 0]) (x:=.mk l.size 0 1 1) (c:=[.i (aF a.ak (aF f.args 0))]) L.cQ.aT L.cQ.new rfl jt (by simp only[O.gE];omega) λaf P m4 q1 q2=>?_
  have am:iF af m4 aA 1 2 P ((s.aT++[aF a.ak (aF f.args 0)]).map Ce.i):=by simpa using q1
  let⟨Z,Q⟩:=L.H9 q2 am
  have W:=U.to Q
  refine⟨Q.dH U,Z.cQ.ms (i:=7) aL,?_⟩
  intro m5
  let⟨S5,R⟩:=Z.jv 7 [.s P]
  refine⟨R.dH W,(qZ S5 hd.1 V hd.2 (aF a.ak (aF f.args 0)) 0).mono ?_⟩
  rintro _ m6 ⟨S6,t6⟩
  exact⟨t6.dH (W.to R),af,P,b,g,S6.cQ,(((ah.trans t3).trans Q).trans R).trans t6⟩
 .simp at n N
  rw[ae n,ae N]
  have h1:=h2 n N
  refine⟨V,V,_,D.aF (k:=0) (S V),V,V,_,D.aF (k:=1) (S V),?_⟩
  refine(Oy (ac n _ (fx V V)) (ac n _ (fx V V)) l).mono ?_
  rintro _ G ⟨rfl,B⟩
  exact⟨B.dv (λab C=>(I ab C).1),_,rfl,ag B _⟩
end
end
section
variable{b1 b2 b3 b k:Nat}{j:cN}{g:Int}{q:dy}{a:E}{e:List Int}
section
variable{y:E}{v:Nat->Nat}{u:E}{x:Nat}{d p aT z t:O}{c:Int}{s:St}{l:List aX}{f:aX}{r o h:O}{A:List (List Ce)}
def Oz(S:ST y v u x bR (IB d p c s aT z t) aT z t s.aT s.heap l f r o h A){b:Instr}{m aD:O}(P:ap y m b.args)(ag:∀e∈b.args,0<=e/\e<f.ak.length)(au:1<=b.args.length/\b.args.length<=4)
 (aK:f.ak.length=f.aR.length/\f.ba.length=f.aR.length/\f.aR.length<=2000)(ay:s.heap.length<=1000000000)(aj:∀q∈f.aR,0<=q/\q<=999999)
 (az:fX s.heap (aF f.ak (aF b.args 0))){am:Nat->Int}(hI:fL s.heap am){R:Int}(ak:f.pc=R+1):
 aN cg 110 [vp x 0,vp t.D (t.off+l.length*6),xv b m aD] u λ_ a=>DH y v u x d p c (tm s l {f with pc:=R} b) a:=by
 apply vJ (x,0) (t.D,t.off+l.length*6)
 simp -zeta only[aC,aB]
 intro L
 have aA:J u L:=(J.az u).aK _
 have s1:L.size=u.size+1:=by simp[L]
 let⟨N,t1⟩:=S.ext aA
 have B1:zi v L [u.size]:=λac G=>by simp at G;subst G;exact⟨V,S.cQ.new _ (ad _)⟩
 clear_value L
 have aP:r.len=f.ak.length:=by have:=S.fS.ak.len;simp at this;omega
 have aO:o.len=f.aR.length:=by have:=S.fS.aR.len;simp at this;omega
 have aJ:h.len=f.ba.length:=by have:=S.fS.ba.len;simp at this;omega
 have aG:=P.len
 have aE:=P.cap
 have F:0<=aF b.args 0/\aF b.args 0<f.ak.length:=ag _ (fx V V)
 have ga:∀{a},J y a->af a m.D (m.off+Int.toNat (0:Int)*1)=some (vi (aF b.args 0)):=λhx=>(P.ext hx).pv V V
 obtain⟨_,_,_,g3,_,_⟩:=N.fS.iA
 generalize hw:aF f.ak (aF b.args 0)=w at*
 refine⟨r,g3,V,V,_,ga N.cQ.cx,F.1,V,w,by rw[<-hw];exact(N.Ac V).pv F.1 F.2,(Dn N az (b.op==17) hI ay).mono ?_⟩
 rintro _ m2 ⟨ac,rfl,G,C,H,K,t2⟩
 have T:=B1.to t2
 have ar:(b.op==17)=true<->b.op=17:=aL
 rw[ar]at G
 have e1:Int.toNat (1:Int)=1:=rfl
 have e2:Int.toNat (m.len:Int)=m.len:=V
 have Z:∀{a},J y a->ap a (O.cut m 1 m.len 1) (b.args.drop 1):=λhx=>UP (P.ext hx) au.1
 have aH:(O.cut m 1 m.len 1).len=b.args.length -1:=by have:=(Z (J.az y)).len;simp at this;omega
 have aI:(b.args.drop 1).length=b.args.length -1:=aL
 have ah:∀e∈b.args.drop 1,0<=e/\e<f.ak.length:=λe B=>ag e (wF B)
 rw[e1,e2]
 refine⟨t2.dH B1,ac,rfl,λax=>?_,λaw=>?_⟩
 .obtain⟨_,_,_,_,_,g5⟩:=K.fS.iA
  have Q:=G.1 ax
  refine⟨h,g5,V,V,_,ga K.cQ.cx,F.1,V,K.fS.ba.NP F.1 V,?_⟩
  intro m3
  let⟨S3,t3⟩:=K.wX F.1 V w
  refine⟨t3.dH T,V,V,V,?_⟩
  refine dU (n:=(b.args.drop 1).length) V (λk a=>ST y C a x bR (IB d p c s aT H t) aT H t s.aT (rJ s.heap w (b.op==17)) l {f with ba:=gQ f.ba (aF b.args 0) w,aR:=dE f.aR ((b.args.drop 1).take k)} r o h A/\To v u C a/\zi C a [u.size]) ⟨by rw[List.take_zero];exact S3,(t1.trans t2).trans t3,(T.to t3)⟩ ?_
  rintro k m4 al μ hk ⟨g,M,I⟩ ab
  have aa:∀q∈dE f.aR ((b.args.drop 1).take k),0<=q/\q<=1000010:=λq hq=>by
   have:=qK _ f.aR 999999 V aj q hq;have h3:((b.args.drop 1).take k).length<=4:=bE;omega
  refine dit (λY=>?_) λY=>?_
  .let⟨e,B⟩:=cG (b.args.drop 1) k
   have j:=ah e (aq B)
   have D:e<(dE f.aR ((b.args.drop 1).take k)).length:=by rw[lL];omega
   have av:=Fl (i:=e) aa V
   have W:cT (aF (dE f.aR ((b.args.drop 1).take k)) e+1)=aF (dE f.aR ((b.args.drop 1).take k)) e+1:=aQ V V
   obtain⟨_,_,_,_,X,_⟩:=g.fS.iA
   refine⟨V,V,e,by simpa using(Z g.cQ.cx).aF B,o,X,j.1,V,_,(g.Jm (by simp only[lL];omega)).pv j.1 D,j.1,V,g.fS.aR.NP j.1 D,?_⟩
   rw[W]
   intro m5
   let⟨U,E⟩:=g.pL j.1 D (aF (dE f.aR ((b.args.drop 1).take k)) e+1)
   refine⟨E.dH I,ab V _ ⟨?_,M.trans E,I.to E⟩⟩
   rw[aU B,sq];exact U
  .rw[bX V]at g
   refine⟨C,aT,H,t,?_,M⟩
   have:tm s l {f with pc:=R} b={s with heap:=rJ s.heap w (b.op==17),ao:=l++[{f with ba:=gQ f.ba (aF b.args 0) w,aR:=dE f.aR (b.args.drop 1)}]}:=by
    unfold tm;simp only[];rw[hw,an Q,rJ,an (by simpa using Q),ak]
   rw[this];exact g.cQ
 .have ai:¬((aM s.heap w).aP=1/\b.op=17):=λQ=>by have:=G.2 Q;rw[aw]at this;simp at this
  refine⟨V,V,V,?_⟩
  refine dU (n:=(b.args.drop 1).length) V (λk a=>ST y C a x bR (IB d p c s aT H t) aT H t s.aT (rJ s.heap w (b.op==17)) l {f with aR:=dE f.aR ((b.args.drop 1).take k)} r o h A/\To v u C a/\zi C a [u.size]) ⟨by simpa[dE]using K,t1.trans t2,T⟩ ?_
  rintro k m4 al μ hk ⟨g,M,I⟩ ab
  have aa:∀q∈dE f.aR ((b.args.drop 1).take k),0<=q/\q<=1000010:=λq hq=>by
   have:=qK _ f.aR 999999 V aj q hq;have h3:((b.args.drop 1).take k).length<=4:=bE;omega
  refine dit (λY=>?_) λY=>?_
  .let⟨e,B⟩:=cG (b.args.drop 1) k
   have j:=ah e (aq B)
   have D:e<(dE f.aR ((b.args.drop 1).take k)).length:=by rw[lL];omega
   have av:=Fl (i:=e) aa V
   have W:cT (aF (dE f.aR ((b.args.drop 1).take k)) e+1)=aF (dE f.aR ((b.args.drop 1).take k)) e+1:=aQ V V
   obtain⟨_,_,_,_,X,_⟩:=g.fS.iA
   refine⟨V,V,e,by simpa using(Z g.cQ.cx).aF B,o,X,j.1,V,_,(g.Jm (by simp only[lL];omega)).pv j.1 D,j.1,V,g.fS.aR.NP j.1 D,?_⟩
   rw[W]
   intro m5
   let⟨U,E⟩:=g.pL j.1 D (aF (dE f.aR ((b.args.drop 1).take k)) e+1)
   refine⟨E.dH I,ab V _ ⟨?_,M.trans E,I.to E⟩⟩
   rw[aU B,sq];exact U
  .rw[bX V]at g
   refine⟨C,aT,H,t,?_,M⟩
   have:tm s l {f with pc:=R} b={s with heap:=rJ s.heap w (b.op==17),ao:=l++[{f with aR:=dE f.aR (b.args.drop 1)}]}:=by
    unfold tm;simp only[];rw[hw,ae ai,rJ,ae (by simpa using ai),ak]
   rw[this];exact g.cQ
def nE.none{v:Nat->Nat}{u:E}:nE v u .nil []:=⟨[],iF.fZ (gV.nil u u _ _) (λa=>absurd rfl a),rfl,aL,aL⟩
def HD(S:ST y v u x bR (IB d p c s aT z t) aT z t s.aT s.heap l f r o h A)(ad:l.length<=100000)(w:Int)(U:∀g,l.getLast?=some g->0<=f.dst/\f.dst<g.ak.length/\f.dst<g.aR.length):
 aN cg 116 [vp x 0,vi w] u λ_ a=>DH y v u x d p c (match l.getLast? with|none=>{s with cz:=0,value:=w,ao:=[]}|some g=>{s with ao:=l.dropLast++[g.put f.dst w (gG w)]}) a:=by
 apply sD (x,0)
 simp -zeta only[aC,aB]
 have G:=S.fS.xO
 have aa:=S.fS.pY.le
 have B:cT ((t.len:Int) -1)=(l.length:Int):=by rw[aQ V V];omega
 have L:Int.toNat (l.length:Int)=l.length:=V
 have C:af u x 9=some (O.v t):=S.cQ.box.bZ 9
 obtain⟨_,_,g2,_,_,_⟩:=S.fS.iA
 refine⟨t,C,t,C,?_⟩
 rw[B,L]
 refine⟨V,V,f.dst,g2,t,C,V,V,V,S.cQ.ms (i:=9) aL,?_⟩
 intro H
 let⟨q,t2⟩:=S.cQ.jv 9 [.s (t.cut 0 l.length 6)]
 obtain⟨b,_⟩:=q.jI (dp.az _ q.new) (q.ao.U6)
 have ab:(t.cut 0 l.length 6).len=l.length:=by
  cases t with
  |nil=>simp at G
  |zD j I k=>simp at G
  |mk j I e c=>simp[O.cut]
 have e3:Int.toNat (0:Int)=0:=rfl
 refine⟨λD=>?_,λD=>?_⟩
 .have J:l=[]:=by simpa using D
  subst J
  refine⟨b.ms (i:=3) (by simp[kO]),?_⟩
  intro X
  let⟨j,t3⟩:=b.jv 3 [.i 0]
  refine⟨j.ms (i:=4) (by simp[kO]),?_⟩
  intro Y
  let⟨k,E⟩:=j.jv 4 [.i w]
  refine⟨k.ms (i:=9) (by simp[kO]),?_⟩
  intro K
  let⟨n,M⟩:=k.jv 9 [.s .nil]
  obtain⟨F,_⟩:=n.jI (dp.az _ n.new) (nE.none (v:=v) (u:=K))
  exact⟨v,aT,z,.nil,F,((t2.trans t3).trans E).trans M⟩
 .have n:l≠[]:=by simpa using D
  have ae:l.length≠0:=λB=>n (List.length_eq_zero_iff.1 B)
  obtain⟨g,j⟩:∃g,l.getLast?=some g:=⟨_,gC n⟩
  let⟨P,Q,R⟩:=U g j
  rw[j]
  simp only[]
  have W:l=l.dropLast++[g]:=by
   rw[gC n]at j;simp at j;rw[<-j];exact(fq n).symm
  have k:vw y v H x bR (IB d p c s aT z (t.cut 0 l.length 6)) aT z (t.cut 0 l.length 6) s.aT s.heap (l.dropLast++[g]):=
   ⟨b.cx,b.jQ,b.new,b.box,b.Qm,b.aT,b.heap,by rw[<-W];exact b.ao⟩
  let⟨r',I,h',Z,T⟩:=k.ao.fS
  have ac:l.dropLast.length=l.length -1:=aL
  have M:cT ((l.length:Int) -1)=((l.length -1:Nat):Int):=by rw[aQ V V];omega
  have N:Int.toNat ((l.length -1:Nat):Int)=l.dropLast.length:=V
  refine⟨t.cut 0 l.length 6,k.box.bZ 9,?_⟩
  rw[M,N]
  refine⟨V,V,(mR w H).mono ?_⟩
  rintro _ X ⟨rfl,F⟩
  let⟨J,t3⟩:=(ST.mk k T).ext F
  refine⟨_,rfl,F.da (k.box.bZ 9),(qZ J P Q R w (gG w)).mono ?_⟩
  rintro _ Y ⟨K,E⟩
  exact⟨v,aT,z,_,K.cQ,(t2.trans t3).trans E⟩
end
def YD{m M:E}(j:J m M){nb:Nat}(o:m.size<=nb)(t:nb<M.size)(b:Nat)(i:List Ce)
 (c:(b1=M.size\/b1=M.size+1\/b1=M.size+2)/\(b2=M.size\/b2=M.size+1\/b2=M.size+2)/\(b3=M.size\/b3=M.size+1\/b3=M.size+2)/\b1≠b2/\b1≠b3/\b2≠b3):
 qU m (ah (((M.push (.cells (bt (mF [.i (0:Int)] b)) 3)).push (.cells (bt (mF [.i (0:Int)] b)) 3)).push (.cells (bt (mF [.i (0:Int)] b)) 3)) nb 0 i) b1 b2 b3 b (dk b) (dk b) (dk b):=by
 rw[tQ]
 generalize d:M.push (.cells (bt ((dk b).map Ce.i)) 3)=m2
 generalize e:m2.push (.cells (bt ((dk b).map Ce.i)) 3)=m3
 generalize f:m3.push (.cells (bt ((dk b).map Ce.i)) 3)=m4
 have k:m2.size=M.size+1:=by simp[<-d]
 have l:m3.size=M.size+2:=by simp[<-e,k]
 have u:m4.size=M.size+3:=by simp[<-f,l]
 have s:J M m2:=d▸J.push _ _
 have n:J m2 m3:=e▸J.push _ _
 have h:J m3 m4:=f▸J.push _ _
 have p:cE m4 M.size aA ((dk b).map Ce.i):=((d▸cE.push M _ _:cE m2 M.size aA ((dk b).map Ce.i)).ext n).ext h
 have q:cE m4 m2.size aA ((dk b).map Ce.i):=(e▸cE.push m2 _ _:cE m3 m2.size aA ((dk b).map Ce.i)).ext h
 have r:cE m4 m3.size aA ((dk b).map Ce.i):=f▸cE.push m3 _ _
 have g:∀a,(a=M.size\/a=M.size+1\/a=M.size+2)->cE (ah m4 nb 0 i) a aA ((dk b).map Ce.i):=λa c=>by
  have:cE m4 a aA ((dk b).map Ce.i):=by
   rcases c with rfl|rfl|rfl
   .exact p
   .rw[<-k];exact q
   .rw[<-l];exact r
  exact this.congr (bd _ _ _ _ V)
 exact⟨(j.trans ((s.trans n).trans h)).ah o _ _,by have:=j.size;rw[aw];omega,g _ c.1,g _ c.2.1,g _ c.2.2.1,by simp[ka]⟩
def HI{m:E}{d p:O}(f:fw m d p j)(o:0<=g)(h:j.cF[g.toNat]? =some q)(b:0<=q.ak/\q.ak<=2000)(e:Int):
 aN cg 85 [.agg #[O.v d,O.v p],vi g,vi e] m λv a=>∃b1 b2 b3,v=.agg #[vi g,vi 0,vi e,O.v (.mk b1 0 q.ak.toNat q.ak.toNat),O.v (.mk b2 0 q.ak.toNat q.ak.toNat),O.v (.mk b3 0 q.ak.toNat q.ak.toNat)]/\
  qU m a b1 b2 b3 q.ak.toNat (dk q.ak.toNat) (dk q.ak.toNat) (dk q.ak.toNat):=by
 apply Ci
 simp -zeta only[aC,aB]
 intro k c
 have i:J m c:=((J.az m).aK _).aK _
 have s:k.size=m.size+1:=by simp[k]
 have C:c.size=m.size+2:=by simp[c,s]
 have y:=f.cF.len
 have x:=av h
 clear_value c
 obtain⟨u,z,w,_,_,_,_,_,_,r,_⟩:=(f.ext i).cF.aF h
 refine⟨o,V,q.ak,r,⟨b.1,dg _,V,V,?_⟩,⟨b.1,dg _,V,V,?_⟩,⟨b.1,dg _,V,V,?_⟩⟩
 all_goals
  intro l
  refine⟨⟨b.1,dg _,V,V,?_⟩,⟨b.1,dg _,V,V,?_⟩⟩
  all_goals
   intro n
   refine⟨b.1,dg _,V,V,?_⟩
   intro A B
   have t:l.size=c.size+1:=by simp[l]
   have D:n.size=c.size+2:=by simp[n,t]
   exact⟨_,_,_,rfl,YD i V V q.ak.toNat _ V⟩
def qU.Ah{d:E}{ak aR ba:List Int}(N:qU d a b1 b2 b3 b ak aR ba)(e:k<b)(v:Int):fJ a b1 k 1/\qU d (ah a b1 k [.i v]) b1 b2 b3 b (ak.set k v) aR ba:=by
 have c:=N.lo;refine⟨N.kr.fJ (by simp[N.len.1];omega),N.ext.ah c.1 _ _,by rw[aw];exact c,?_,N.ko.congr (bd _ _ _ _ V),N.kh.congr (bd _ _ _ _ V),by simp[N.len]⟩;have:=cE.ah (m:=a) (o:=k) (r:=[.i v]) N.kr;rw[Ag]at this;exact this
def qU.pL{d:E}{ak aR ba:List Int}(N:qU d a b1 b2 b3 b ak aR ba)(e:k<b)(v:Int):fJ a b2 k 1/\qU d (ah a b2 k [.i v]) b1 b2 b3 b ak (aR.set k v) ba:=by
 have c:=N.lo;refine⟨N.ko.fJ (by simp[N.len.2.1];omega),N.ext.ah c.2.1 _ _,by rw[aw];exact c,N.kr.congr (bd _ _ _ _ V),?_,N.kh.congr (bd _ _ _ _ V),by simp[N.len]⟩;have:=cE.ah (m:=a) (o:=k) (r:=[.i v]) N.ko;rw[Ag]at this;exact this
def xT(cR:List Int):∀(e r:List Int)(k:Nat),dK cR k (e++r)=dK cR k e++dK cR (k+e.length) r
 |[],r,k=>by simp[dK]
 |b::e,r,k=>by
  have:=xT cR e r (k+1);simp only[cZ,dK,this,aZ];have a:k+(e.length+1)=k+1+e.length:=V;rw[a]
def Mg{k:Nat}(h:k<b):dk (b -k)=0::dk (b -(k+1)):=by
 have:b -k=(b -(k+1))+1:=V;rw[this];rfl
def VI(h:e.length<b)(v:Int):(e++dk (b -e.length)).set e.length v=(e++[v])++dk (b -(e.length+1)):=by
 rw[Mg h];simp
def Yo(h:e.length<b):e++dk (b -e.length)=(e++[0])++dk (b -(e.length+1)):=by
 rw[Mg h];simp
section
variable{A:E}{t:Nat->Nat}{m:E}{z:Nat}{d p aT y v:O}{c:Int}{s:St}{u:List aX}{w:aX}{r o h:O}{B:List (List Ce)}
def FE(W:ST A t m z bR (IB d p c s aT y v) aT y v s.aT s.heap u w r o h B)(aP:fw A d p j)(am:0<=g)(Z:j.cF[g.toNat]? =some q)(aS:0<=q.ak/\q.ak<=2000){ws:O}{b:List Int}(hw:ap m ws b)(aV:b≠[]->t ws.D=0)(bb:(b.length:Int)<=q.ak)(U:Instr)(ab aX:O)
 (a6:u.length<=10000)(a4:0<=s.bu/\s.bu<=100000):
 aN cg 114 [vp z 0,vi g,O.v ws,xv U ab aX] m λ_ a=>DH A t m z d p c {s with bu:=s.bu+1,ao:=if U.op=24 then u++[bW j g w.dst b]else u++[w,bW j g U.dst b]} a:=by
 apply vI (z,0)
 simp -zeta only[aC,aB]
 intro R
 have aW:J m R:=(J.az m).aK _
 have s1:R.size=m.size+1:=by simp[R]
 let⟨S1,t1⟩:=W.ext aW
 have B1:zi t R [m.size]:=λC D=>by simp at D;subst D;exact⟨V,W.cQ.new _ (ad _)⟩
 clear_value R
 have a5:=W.fS.xO
 have a0:=W.fS.pY.le
 have e0:cT (s.bu+1)=s.bu+1:=aQ V V
 have aF:cT ((v.len:Int) -1)=(u.length:Int):=by rw[aQ V V];omega
 have e2:Int.toNat (u.length:Int)=u.length:=V
 refine⟨s.bu,S1.cQ.box.bZ 5,S1.cQ.ms (i:=5) aL,?_⟩
 rw[e0]
 intro m2
 let⟨P,t2⟩:=S1.jv 5 [.i (s.bu+1)]
 replace P:ST A t m2 z bR (IB d p c {s with bu:=s.bu+1} aT y v) aT y v s.aT s.heap u w r o h B:=P
 replace t2:To t R t m2:=t2
 have B2:=B1.to t2
 have g9:af m2 z 9=some (O.v v):=P.cQ.box.bZ 9
 obtain⟨_,_,g2,_,_,_⟩:=P.fS.iA
 refine⟨t2.dH B1,v,g9,?_⟩
 rw[aF,e2]
 clear_value m2
 have ay:=t1.trans t2
 refine⟨λI a=>∃K X,vw A t a z bR (IB d p c {s with bu:=s.bu+1} aT y X) aT y X s.aT s.heap K/\To t m t a/\zi t a [m.size]/\K.length<=10001/\(if U.op=24 then u++[bW j g w.dst b]else u++[w,bW j g U.dst b])=K++[bW j g I b],⟨λT=>?_,λT=>?_⟩,?_⟩
 .simp at T
  refine⟨v,g9,V,V,w.dst,g2,v,g9,V,V,V,P.cQ.ms (i:=9) aL,?_⟩
  intro Q
  let⟨G,t3⟩:=P.cQ.jv 9 [.s (v.cut 0 u.length 6)]
  obtain⟨k,_⟩:=G.jI (dp.az _ G.new) (G.ao.U6)
  refine⟨t3.dH B2,u,v.cut 0 u.length 6,k,ay.trans t3,B2.to t3,V,?_⟩
  rw[an T]
 .simp at T
  refine⟨u++[w],v,P.cQ,ay,B2,bE,?_⟩
  rw[ae T];simp
 rintro I Q ⟨K,X,G,t3,B3,hX,aH⟩
 rw[aH]
 have ah:dN j g=q:=by simp[dN,Z]
 have ag:=aP.ext G.cx
 refine⟨d,G.box.bZ 0,p,G.box.bZ 1,(HI ag am Z aS I).mono ?_⟩
 rintro _ L ⟨b1,b2,b3,rfl,aa⟩
 have a7:=aa.lo
 have al:∀C∈[m.size],C<Q.size:=λC D=>(B3 C D).1
 have a9:m.size<Q.size:=al _ aL
 refine⟨aa.ext.dv al,_,_,_,_,_,_,rfl,?_⟩
 intro m5 m6
 have aG:J L m6:=((J.az L).aK _).ah (ad _) _ _
 have s6:m6.size=L.size+1:=by simp[m6,m5,aw]
 have N6:=aa.Sf aG
 clear_value m6
 have ba:=hw.len
 have iw:∀{M},J Q M->ap M ws b:=λhx=>(iP hw λk=>t3.eA _ (iE hw k) (by rw[aV k];decide)).ext hx
 obtain⟨pa,pl,pc,_,aO,_,_,k1,_,_,_⟩:=ag.cF.aF Z
 have a8:=av Z
 have a_:=ag.cF.len
 have aq:∀(k:Nat),(q.cR.any λF=>F==(k:Int))=true<->(k:Int)∈q.cR:=λk=>aL
 simp -zeta only[O.jA,O.mT,O.gE,bT]
 refine dU (n:=b.length) V (λk a=>qU Q a b1 b2 b3 q.ak.toNat (b.take k++dk (q.ak.toNat -k)) (dK q.cR 0 (b.take k)++dk (q.ak.toNat -k)) (dk q.ak.toNat)/\L.size<a.size) ⟨by simpa[dK]using N6,V⟩ ?_
 rintro k H aZ μ hk ⟨S,s7⟩ ar
 have tv:∀{ma mc:E},(∀C,C=L.size\/C=m.size->mc[C]? =ma[C]?)->eF [L.size,m.size] ma mc:=λhh C D=>hh C (by simpa using D)
 have tk:(b.take k).length=k:=bE
 have au:(dK q.cR 0 (b.take k)).length=k:=by rw[lS,tk]
 refine dit (λh1=>?_) λh1=>?_
 .let⟨F,hy⟩:=cG b k
  have ek:Int.toNat (k:Int)*1=k:=V
  have aj:k<q.ak.toNat:=V
  let⟨w8,N⟩:=S.Ah aj F
  have er:(b.take k++dk (q.ak.toNat -k)).set k F=b.take (k+1)++dk (q.ak.toNat -(k+1)):=by
   have:=VI (e:=b.take k) (b:=q.ak.toNat) V F;rw[tk]at this;rw[this,aU hy]
  rw[er]at N
  have eo:dK q.cR 0 (b.take (k+1))=dK q.cR 0 (b.take k)++[if q.cR.any (λF=>F==(k:Int))then 0 else gG F]:=by
   rw[aU hy,xT,tk];simp[dK]
  refine⟨V,V,F,by simpa using(iw S.ext).aF hy,V,V,?_⟩
  rw[ek]
  refine⟨w8,?_⟩
  intro m8
  have s8:m8.size=H.size:=aw _ _ _ _
  refine⟨tv λC D=>bd _ _ _ _ V,?_⟩
  replace N:qU Q m8 b1 b2 b3 q.ak.toNat (b.take (k+1)++dk (q.ak.toNat -(k+1))) (dK q.cR 0 (b.take k)++dk (q.ak.toNat -k)) (dk q.ak.toNat):=N
  clear_value m8
  refine⟨p,N.ext.af (G.box.bZ 1),am,V,pl,N.ext.af k1,(lT (aO.ext N.ext) _).mono ?_⟩
  rintro _ m9 ⟨C,rfl,D,ac⟩
  have N9:=N.Sf ac
  have s9:=ac.size
  refine⟨ac.dv bE,C,rfl,λaz=>?_,λax=>?_⟩
  .have aD:¬((k:Int)∈q.cR):=nb D az
   refine(mR F m9).mono ?_
   rintro _ aK ⟨rfl,Y⟩
   have aM:=Y.size
   let⟨aI,ai⟩:=(N9.Sf Y).pL aj (gG F)
   have ak:(dK q.cR 0 (b.take k)++dk (q.ak.toNat -k)).set k (gG F)=dK q.cR 0 (b.take (k+1))++dk (q.ak.toNat -(k+1)):=by
    have:=VI (e:=dK q.cR 0 (b.take k)) (b:=q.ak.toNat) V (gG F);rw[au]at this;rw[this,eo,ae (λhh=>aD ((aq k).1 hh))]
   rw[ak]at ai
   refine⟨Y.dv bE,_,rfl,aJ (Y.same L.size V) 4,V,V,aI,?_⟩
   intro aE
   refine⟨tv λC D=>bd _ _ _ _ V,ar V _ ⟨ai,by simp only[aE,aw];omega⟩⟩
  .have Y:(k:Int)∈q.cR:=yb D ax
   refine ar V _ ⟨?_,V⟩
   have:=Yo (e:=dK q.cR 0 (b.take k)) (b:=q.ak.toNat) V
   rw[au]at this
   rw[eo,an ((aq k).2 Y),<-this];exact N9
 .have aR:k=b.length:=V
  subst aR
  rw[fu]at S
  have hc:dp (λ_=>False) t Q (pI t b1 b2 b3 K.length) H:=S.eH G.new
  let⟨a1,a2,a3⟩:=S.pY (a:=t) (g:=K.length)
  let⟨F,t7⟩:=G.gA (hc.mono λ_=>False.elim) (G.heap.eH hc id id)
  have B7:zi (pI t b1 b2 b3 K.length) H [L.size,m.size]:=λC D=>by
   simp at D;refine⟨V,?_⟩;unfold pI;rw[eU V,eU V,eU V];rcases D with rfl|rfl
   .exact G.new _ V
   .exact(B3 _ aL).2
  refine⟨X,F.box.bZ 9,?_⟩
  intro N
  have ac:J H N:=(J.az H).aK _
  have jt:fP N H.size 0 [.i g,.i 0,.i I,.s (.mk b1 0 q.ak.toNat q.ak.toNat),.s (.mk b2 0 q.ak.toNat q.ak.toNat),.s (.mk b3 0 q.ak.toNat q.ak.toNat)]:=(cE.push H _ _).iA
  let⟨Y,az⟩:=F.ext ac
  have aj:=B7.to az
  clear_value N
  have ch:=λ{k:Nat}{s:O}{e:List Ce}(ab:iF (pI t b1 b2 b3 K.length) H aA 1 k s e)=>ab.eH (dp.eG (λ_=>False) ac F.new) id
  have aM:(bW j g I b).ak=b++dk (q.ak.toNat -b.length):=by simp[bW,ah]
  have aK:(bW j g I b).aR=dK q.cR 0 b++dk (q.ak.toNat -b.length):=by simp[bW,ah]
  have aI:(bW j g I b).ba=dk q.ak.toNat:=by simp[bW,ah]
  refine⟨ac.da (F.box.bZ 9),nE.push Y.ao Y.new (x:=.mk H.size 0 1 1) rfl (a:=bW j g I b) jt (by rw[aM];exact ch a1) (by rw[aK];exact ch a2) (by rw[aI];exact ch a3) V λax qs aY q1 q2=>?_⟩
  have ai:To _ N ax aY:=q2.mono λk hk=>V
  let⟨ak,be⟩:=Y.jI (q2.mono λk hk=>V) q1
  refine⟨ai.dH aj,ak.ms (i:=9) aL,?_⟩
  intro bc
  let⟨aE,aD⟩:=ak.jv 9 [.s qs]
  exact⟨aD.dH (aj.to ai),ax,aT,y,qs,aE,(((t3.trans t7).trans az).trans ai).trans aD⟩
end
end
section
def Mc(ak:List Int):∀(b aR:List Int)(n:Int),(∀q∈aR,n<=q)->∀q∈bD ak aR b,n -b.length<=q
 |[],aR,n,h,q,c=>by have:=h q c;simp;omega
 |r::b,aR,n,h,q,c=>by
  have k:∀d,(∀q∈d,n -1<=q)->q∈bD ak d b->n -(r::b).length<=q:=λd j a=>by
   have:=Mc ak b d (n -1) j q a;simp only[aZ];omega
  rw[bD]at c;refine k _ (λg a=>?_) c;split at a
  .rcases pD a with e|e
   .rcases aW r.toNat aR.length with f|f
    .let⟨y,i⟩:=dB f;have:=h y (aq i);rw[Hv i]at e;omega
    .have:gQ aR r (aF aR r -1)=aR:=by unfold gQ;exact rE f
     rw[this]at a;have:=h g a;omega
   .have:=h g e;omega
  .have:=h g a;omega
section
variable{q:E}{g:Nat->Nat}{m:E}{k:Nat}{d p aT j c:O}{a:St}{b:List aX}{f:aX}{r t h:O}{u:List (List Ce)}
def QQ{z:cN}{v:Instr}(C:zh z a b f v){aR:List Int}(aH:aR=bD f.ak f.aR (bU z v))(hM:kT z a f v aR)
 (aa:ST q g m k bR (IB d p (cq z) a aT j c) aT j c a.aT a.heap b f r t h u)(a9:fw q d p z){ak aV:O}(ha:ap q ak v.args)(hj:ap q aV v.eL)(cH:a.heap.length<=900000000)(cM:a.aT.length<=900000000):
 aN cg 62 [vp k 0,vp c.D (c.off+b.length*6),xv v ak aV] m λ_ Q=>DH q g m k d p (cq z) (fj z a b f v aR) Q:=by
 apply yw (k,0) (c.D,c.off+b.length*6)
 simp -zeta only[aC,aB]
 intro m1
 have co:J m m1:=(J.az m).aK _
 have s1:m1.size=m.size+1:=by simp[m1]
 let⟨S1,t1⟩:=aa.ext co
 have B1:zi g m1 [m.size]:=λP hb=>by simp at hb;subst hb;exact⟨V,aa.cQ.new _ (ad _)⟩
 clear_value m1
 have cI:=C.FW
 have cK:aR.length=f.aR.length:=by rw[aH];exact jZ _ _ _
 have cR:r.len=f.ak.length:=by have:=aa.fS.ak.len;simp at this;omega
 have cJ:t.len=f.aR.length:=by have:=aa.fS.aR.len;simp at this;omega
 have cx:=ha.len
 have bk:v.args.length<=4:=C.ln.1
 have cP:0<=f.pc/\f.pc<=100000:=by
  have cf:=C.F.pc;obtain⟨pq,_,ch,hP,_,_⟩:=C.I;rw[ch]at cf;have cQ:=hP.len;omega
 have e4:cT (f.pc+1)=f.pc+1:=aQ V V
 have cF:b.length<=1000:=by
  have bO:=C.ok.depth;have b9:=C.ok.bu;have cc:=C.ok.dR;rw[C.fr]at bO;simp at bO;omega
 refine(vG (a9.ext S1.cQ.cx) (S1.cQ.box.bZ 1) C.call (ha.ext S1.cQ.cx) V C.ln.2.2.2.1).mono ?_
 rintro _ m2 ⟨ts,lt,rfl,ba,_,bg,bZ,_⟩
 let⟨S2,t2⟩:=S1.ext bg
 have B2:=B1.to t2
 have cU:=IU z v
 have bp:=ba.len
 have b0:bU z v≠[]->g ts.D=0:=λac=>by
  rcases bZ with w|w|w
  .subst w;simp at bp;exact absurd (List.length_eq_zero_iff.1 bp.symm) ac
  .rw[w];refine aa.cQ.jQ _ (iE ha λh0=>?_);let⟨R,B⟩:=Us _ ac;have:=BW B;rw[h0]at this;simp at this
  .exact aa.cQ.new _ V
 refine⟨t2.dH B1,ts,lt,rfl,?_⟩
 refine dU (n:=(bU z v).length) V (λL Q=>ST q g Q k bR (IB d p (cq z) a aT j c) aT j c a.aT a.heap b {f with aR:=bD f.ak f.aR ((bU z v).take L)} r t h u/\To g m2 g Q) ⟨S2,dp.az _ S2.cQ.new⟩ ?_
 rintro L m3 b5 μ hk ⟨S3,t3⟩ bq
 have B3:=B2.to t3
 have ca:(bD f.ak f.aR ((bU z v).take L)).length=f.aR.length:=jZ _ _ _
 refine dit (λh1=>?_) λh1=>?_
 .let⟨R,B⟩:=cG (bU z v) L
  have A:=C.Kh R (aq B)
  obtain⟨_,_,_,G,I,_⟩:=S3.fS.iA
  have K:ap m3 ts (bU z v):=iP ba λac=>t3.eA _ (iE ba ac) (by rw[b0 ac];decide)
  have F:bD f.ak f.aR ((bU z v).take (L+1))=if 1000<=aF f.ak R then gQ (bD f.ak f.aR ((bU z v).take L)) R (aF (bD f.ak f.aR ((bU z v).take L)) R -1)else bD f.ak f.aR ((bU z v).take L):=by
   rw[aU B,uL];rfl
  refine⟨V,V,R,by simpa using K.aF B,r,G,A.1,V,_,(S3.Ac (by show f.ak.length<=_;omega)).pv A.1 A.2,λT=>?_,λT=>?_⟩
  .simp only[nY,ar]at T
   have D:R<(bD f.ak f.aR ((bU z v).take L)).length:=V
   have M: -4<=aF (bD f.ak f.aR ((bU z v).take L)) R/\aF (bD f.ak f.aR ((bU z v).take L)) R<=999999:=by
    let⟨qq,aP,be⟩:=kX _ _ _ _ (ou A.1 D);have Y:=C.OF qq (aq aP);have h8:=Mc f.ak ((bU z v).take L) f.aR 0 (λau hq=>(C.OF au hq).1) _ (fx A.1 D);have h9:((bU z v).take L).length<=4:=bE;omega
   have e5:cT (aF (bD f.ak f.aR ((bU z v).take L)) R -1)=aF (bD f.ak f.aR ((bU z v).take L)) R -1:=aQ V V
   refine⟨t,I,A.1,V,_,(S3.Jm (by show(bD _ _ _).length<=_;omega)).pv A.1 D,A.1,V,S3.fS.aR.NP A.1 D,?_⟩
   rw[e5]
   intro H
   let⟨y,t4⟩:=S3.pL A.1 D (aF (bD f.ak f.aR ((bU z v).take L)) R -1)
   refine⟨t4.dH B3,bq V _ ⟨?_,t3.trans t4⟩⟩
   rw[F,an T];exact y
  .simp only[nY,bL]at T
   refine bq V _ ⟨?_,t3⟩
   rw[F,ae T];exact S3
 rw[bX V,<-aH]at S3
 clear bq ca hk h1 b0 ba bZ bp
 obtain⟨_,g1,_,_,_,_⟩:=S3.fS.iA
 refine⟨f.pc,g1,S3.fS.Vf,?_⟩
 rw[e4]
 intro H
 let⟨y,t4⟩:=S3.NK (f.pc+1)
 have K:zi g H [m.size]:=B3.to t4
 have b2:eF [m.size] m3 H:=t4.dH B3
 have Z:To g m g H:=((t1.trans t2).trans t3).trans t4
 clear t4
 replace y:ST q g H k bR (IB d p (cq z) a aT j c) aT j c a.aT a.heap b {f with aR:=aR,pc:=f.pc+1} r t h u:=y
 refine⟨b2,?_⟩
 clear b2 g1 S3 t3 B3 t2 B2 S2 bg b5 μ
 clear_value H
 have U:∀{M M':E},eF [m.size] M M'->∀am,af M' m.size am=af M m.size am:=λh am=>aJ (h _ aL) am
 have hd:=C.dst
 have bm:f.ak.length=aR.length/\f.ba.length=aR.length/\aR.length<=2000:=V
 have ay:1<=v.args.length->0<=aF v.args 0/\aF v.args 0<f.ak.length:=λh1=>C.arg _ (fx V V)
 have ga:∀{Q},J q Q->1<=v.args.length->af Q ak.D (ak.off+Int.toNat (0:Int)*1)=some (vi (aF v.args 0)):=λhx h1=>(ha.ext hx).pv V V
 have gr:∀{g m bx aT j c lo ax t h u own' pc'},ST q g m k bR bx aT j c lo ax b {f with aR:=own',pc:=pc'} r t h u->∀{am:Int},0<=am->am<f.ak.length->af m r.D (r.off+Int.toNat am*1)=some (vi (aF f.ak am)):=λaa am h0 h1=>(aa.Ac (by simp only[];omega)).pv h0 h1
 have ag:∀{g m bx aT j c lo ax t h u own' pc'},ST q g m k bR bx aT j c lo ax b {f with aR:=own',pc:=pc'} r t h u->af m c.D (c.off+b.length*6+3)=some (O.v r):=λaa=>aa.fS.iA.2.2.2.1
 have cr:∀r',r'∈v.args->aF f.ak r'<1000->gK (aF f.ak r'):=λr' cj aS=>by
  have bV:=C.arg r' cj;rcases C.F.RL _ (fx bV.1 bV.2)with T|T
  .exact T
  .omega
 obtain⟨pq,_,_,_,_,hI⟩:=C.I
 have al:=hI.op
 clear hI
 have bt:∀{bs:Nat->Nat}{bY:O}{ax:List bM}{M:E}(SM:ST q bs M k bR (IB d p (cq z) {a with heap:=ax} aT bY c) aT bY c a.aT ax b {f with aR:=aR,pc:=f.pc+1} r t h u)(tM:To g m bs M)(BM:zi bs M [m.size])(F bb:Int)(s':St),s'={a with heap:=ax,ao:=b++[aX.put {f with aR:=aR,pc:=f.pc+1} v.dst F bb]}->
  aN cg 105 [vp c.D (c.off+b.length*6),vi v.dst,vi F,vi bb] M λ_ Q=>eF [m.size] M Q/\DH q g m k d p (cq z) s' Q:=λSM tM BM F bb s' w=>by
  refine(qZ SM hd.1 (by show v.dst<f.ak.length;omega) (by show v.dst<aR.length;omega) F bb).mono ?_
  rintro _ Q ⟨S',t'⟩
  exact⟨t'.dH BM,_,aT,_,c,by rw[w];exact S'.cQ,tM.trans t'⟩
 have bf:∀{M:E}(hx:J H M)(X:Int)(s':St),s'={a with ao:=b++[{f with aR:=aR,pc:=X}]}->
  fJ M c.D (c.off+b.length*6+1) 1/\eF [m.size] M (ah M c.D (c.off+b.length*6+1) [.i X])/\DH q g m k d p (cq z) s' (ah M c.D (c.off+b.length*6+1) [.i X]):=λhx X s' w=>by
  let⟨SM,tM⟩:=y.ext hx
  let⟨S',t'⟩:=SM.NK X
  exact⟨SM.fS.Vf,t'.dH (K.to tM),g,aT,j,c,by rw[w];exact S'.cQ,(Z.trans tM).trans t'⟩
 refine⟨λw=>?_,λe0=>?_⟩
 .simp only[bQ,aG]at w
  refine(JB y ha C.arg bk w (λe5=>C.ln.2.1 (Or.inl e5)) (λe0 e5=>C.ln.2.2.1 V) (λe0 R B=>cr R B (hM.nH V R B)) bm ⟨hd.1,by show v.dst<aR.length;omega⟩ V).mono ?_
  rintro _ W ⟨aE,aW,aD,aI,L5,B⟩
  refine⟨B.dH K,aE,aW,aD,aI,?_,Z.trans B⟩
  have:fj z a b f v aR=(if v.op=0 then{a with ao:=b++[aX.put {f with aR:=aR,pc:=f.pc+1} v.dst v.bP 0]}else if v.op=5 then{a with aT:=a.aT++[aF f.ak (aF v.args 0)],ao:=b++[aX.put {f with aR:=aR,pc:=f.pc+1} v.dst (aF f.ak (aF v.args 0)) 0]}else{a with ao:=b++[aX.put {f with aR:=aR,pc:=f.pc+1} v.dst (OH v.op (aF f.ak (aF v.args 0)) (aF f.ak (aF v.args 1))) 0]}):=by
   unfold fj;simp only[];by_cases A:v.op=0
   .rw[an A,an A]
   rw[ae A,ae A];by_cases D:v.op=5
   .rw[ae V,an D,an D]
   .rw[an V,ae D]
  rw[this];exact L5
 simp only[br,aj]at e0
 have bd:¬(v.op=1\/v.op=2\/v.op=3\/v.op=4):=V
 have ct:∀F∈f.ba,F≠0->1000<=F/\ix F<a.heap.length:=λF hw ac=>by
  obtain⟨h1,dd,b_,_⟩:=C.KX F hw ac;exact⟨h1,av b_⟩
 refine⟨λw=>?_,λe6=>?_⟩
 .simp only[aG]at w
  have h6:=C.ln.2.2.2.2.1 w
  refine(FI y ha C.arg bk bm ⟨h6.1,h6.2.1⟩ V ct).mono ?_
  rintro _ W ⟨aE,aD,A,N,rfl,S,B,er,eo,ep,ec⟩
  refine⟨B.dH K,_,rfl,U (B.dH K) 1,(qZ S hd.1 (by rw[er];show v.dst<f.ak.length;omega) (by rw[eo];show v.dst<aR.length;omega) (1000+A) 1).mono ?_⟩
  rintro _ D ⟨G,I⟩
  refine⟨I.dH (K.to B),aE,aT,aD,c,?_,(Z.trans B).trans I⟩
  have Y:=ec f.pc
  have ab:N.pc=f.pc+1:=ep
  have h8:({N with pc:=f.pc+1}:aX)=N:=by rw[<-ab]
  rw[h8]at Y
  have:fj z a b f v aR=nt a b {f with aR:=aR} v v.bP:=by
   unfold fj nt;simp only[];rw[ae V,ae bd,ae V,an w];rfl
  rw[this]
  have h9:nt a b {f with aR:=aR} v v.bP={a with heap:=jc a.heap A ⟨1,v.bP,cL f v.args⟩,ao:=b++[aX.put N v.dst (1000+A) 1]}:=Y
  rw[h9];exact G.cQ
 simp only[aj]at e6
 have F4:FP H c.D (c.off+b.length*6) {f with aR:=aR,pc:=f.pc+1} r t h:=y.fp ⟨by show f.ak.length<=_;omega,by show aR.length<=_;omega,by show f.ba.length<=_;omega⟩
 have b4:∀{bv:Value->E->Prop},(∀ws M,ap M ws (cL f v.args)->J H M->(cL f v.args≠[]->g ws.D=0)->bv (O.v ws) M)->aN cg 108 [vp c.D (c.off+b.length*6),O.v ak] H bv:=λhk=>by
  refine(uU F4.g3 F4.ak (ha.ext y.cQ.cx) C.arg V).mono ?_;rintro _ W ⟨ws,rfl,ow,ai⟩;have cn:(cL f v.args).length=v.args.length:=by simp[cL]
  have iw:ap W ws (cL f v.args):=ap.fZ (l:=cL f v.args) ow V;refine hk ws W iw ai λac=>?_;rcases ow.D with w|w
  .subst w;have:=iw.len;simp at this;exact absurd (List.length_eq_zero_iff.1 this.symm) ac
  .exact y.cQ.new _ w
 have bg:(eR z.bo).length<=12:=by
  have:=qW C.ok.fy.nN.types z.bo.length;rw[mP _ _ (ad _)]at this;exact this
 have cA:0<=cq z/\cq z<=12:=by unfold cq;omega
 refine⟨λw=>?_,λbw=>?_⟩
 .simp only[aG]at w
  have ab:=C.ln.2.2.2.2.2.1 w
  refine⟨cq z,y.cQ.box.bZ 2,b4 λws W iw ai _=>?_⟩
  let⟨S,B⟩:=y.ext ai
  have A:=K.to B
  have N:=B.dH K
  have Y:cT (cq z+v.bP)=cq z+v.bP:=aQ V V
  refine⟨N,ws,rfl,U N 2,ai.da (y.cQ.box.bZ 2),U N 1,?_⟩
  rw[Y]
  refine(Dm S (cq z+v.bP) iw (by simp[cL];omega) V).mono ?_
  rintro _ D ⟨rfl,bz,bi,G,I⟩
  have aY:=I.dH A
  refine⟨aY,_,rfl,U aY 1,bt (bY:=bi) (ax:=jc a.heap (dF a.heap) ⟨1,cq z+v.bP,cL f v.args⟩) G ((Z.trans B).trans I) (A.to I) _ _ _ ?_⟩
  unfold fj;simp only[];rw[ae V,ae bd,ae V,ae e6,an w]
 simp only[aj]at bw
 have MI:fj z a b f v aR=(
  if v.op=14 then{a with heap:=mO a.heap (aF f.ak (aF v.args 0)),ao:=b++[{f with aR:=gQ aR (aF v.args 0) (aF aR (aF v.args 0)+1),pc:=f.pc+1}]}
  else if v.op=15 then{a with heap:=nm (gY a.heap [aF f.ak (aF v.args 0)]),ao:=b++[{f with aR:=aR,pc:=f.pc+1}]}
  else if v.op=16\/v.op=17 then tm a b {f with aR:=aR} v
  else if v.op=18 then{a with ao:=b++[aX.put {f with aR:=aR,pc:=f.pc+1} v.dst (aF f.ak (aF v.args 0)) (gG (aF f.ak (aF v.args 0)))]}
  else if v.op=19 then{a with ao:=b++[aX.put {f with aR:=aR,pc:=f.pc+1} v.dst (aF (aM a.heap (aF f.ak (aF v.args 0))).aE v.bP) 0]}
  else if v.op=20 then{a with ao:=b++[{f with aR:=aR,pc:=if aF f.ak (aF v.args 0)=0 then v.bP else f.pc+1}]}
  else if v.op=22 then{a with ao:=b++[{f with aR:=aR,pc:=v.bP}]}
  else if v.op=21 then{a with ao:=b++[{f with aR:=aR,pc:=aF v.eL (tc (cy z.bo v.bP) (aM a.heap (aF f.ak (aF v.args 0))).j8)}]}
  else if v.op=9\/v.op=24 then{a with bu:=a.bu+1,ao:=if v.op=24 then b++[bW z v.bP f.dst (cL f v.args)]else b++[{f with aR:=aR,pc:=f.pc+1},bW z v.bP v.dst (cL f v.args)]}
  else if v.op=11 then{a with bu:=a.bu+1,heap:=apart a.heap (aF f.ak (aF v.args 0)),ao:=b++[{f with aR:=aR,pc:=f.pc+1},bW z ((aM a.heap (aF f.ak (aF v.args 0))).j8 -cq z) v.dst ((aM a.heap (aF f.ak (aF v.args 0))).aE++[aF f.ak (aF v.args 1)])]}
  else match b.getLast? with|none=>{a with cz:=0,value:=aF f.ak (aF v.args 0),ao:=[]}|some aK=>{a with ao:=b.dropLast++[aK.put f.dst (aF f.ak (aF v.args 0)) (gG (aF f.ak (aF v.args 0)))]}):=by
  unfold fj
  simp only[]
  rw[ae V,ae bd,ae V,ae e6,ae bw]
  by_cases a0:v.op=14
  .rw[an a0,an a0]
  rw[ae a0,ae a0]
  by_cases a1:v.op=15
  .rw[an a1,an a1]
  rw[ae a1,ae a1]
  by_cases a2:v.op=16\/v.op=17
  .rw[an a2,an a2];rfl
  rw[ae a2,ae a2]
  by_cases a3:v.op=18
  .rw[an a3,an a3]
  rw[ae a3,ae a3]
  by_cases a4:v.op=19
  .rw[an a4,an a4]
  rw[ae a4,ae a4]
  by_cases a5:v.op=20
  .rw[an a5,an a5]
  rw[ae a5,ae a5]
  by_cases a6:v.op=21
  .rw[an a6,ae V,an a6]
  rw[ae a6]
  by_cases a7:v.op=22
  .rw[an a7,an a7]
  rw[ae a7,ae a7,ae a6]
  by_cases bc:v.op=9
  .rw[an bc,an (Or.inl bc),ae V]
  rw[ae bc]
  by_cases a8:v.op=24
  .rw[an a8,an (Or.inr a8),an a8]
  rw[ae a8,ae (show¬(v.op=9\/v.op=24)by omega)]
  by_cases aZ:v.op=11
  .rw[an aZ,an aZ]
  rw[ae aZ,ae aZ]
  cases b.getLast?<;>rfl
 rw[MI]
 clear MI
 refine⟨λw=>?_,λbA=>?_⟩
 .simp only[aG]at w
  rw[an w]
  have h2:=C.ln.2.1 V
  have A:=ay V
  let⟨ab,bB⟩:=hM.WT w
  let⟨Y,a_⟩:=bS ab
  have aS:=av Y
  have bn:=y.cQ.heap.len
  have bl:=ab.1
  have az:ix (aF f.ak (aF v.args 0))=(aF f.ak (aF v.args 0) -1000).toNat:=rfl
  have e5:cT (aF f.ak (aF v.args 0) -1000)=aF f.ak (aF v.args 0) -1000:=aQ V V
  have bj:cT ((aM a.heap (aF f.ak (aF v.args 0))).aP+1)=(aM a.heap (aF f.ak (aF v.args 0))).aP+1:=aQ V V
  obtain⟨f0,k0,_⟩:=y.cQ.heap.bZ Y
  refine⟨j,y.cQ.box.bZ 8,r,ag y,V,V,_,ga y.cQ.cx V,A.1,V,_,gr y A.1 A.2,?_⟩
  rw[e5,<-az]
  refine⟨V,V,_,k0,V,V,y.cQ.heap.wr (o:=0) aS bh,?_⟩
  rw[bj]
  intro W
  let⟨bo,c5⟩:=y.cQ.heap.rj y.cQ.new Y ((aM a.heap (aF f.ak (aF v.args 0))).aP+1)
  let⟨S,B⟩:=y.gA (c5.mono λL hk=>Or.inl hk) bo
  have aO:aF v.args 0<aR.length:=V
  have bC:0<=aF aR (aF v.args 0)/\aF aR (aF v.args 0)<=999999:=by
   refine⟨hM.nn _ (fx (l:=aR) A.1 aO),?_⟩;have hg:=ou (l:=aR) A.1 aO;rw[aH]at hg;let⟨qq,aP,be⟩:=kX _ _ _ _ hg;have:=(C.OF qq (aq aP)).2;rw[<-aH]at be;omega
  have e7:cT (aF aR (aF v.args 0)+1)=aF aR (aF v.args 0)+1:=aQ V V
  refine⟨B.dH K,t,S.fS.iA.2.2.2.2.1,V,V,_,ga S.cQ.cx V,A.1,V,aF aR (aF v.args 0),(S.Jm (by show aR.length<=_;omega)).pv A.1 aO,A.1,V,S.fS.aR.NP A.1 aO,?_⟩
  rw[e7]
  intro D
  let⟨G,I⟩:=S.pL A.1 aO (aF aR (aF v.args 0)+1)
  exact⟨I.dH (K.to B),g,aT,j,c,G.cQ,(Z.trans B).trans I⟩
 simp only[aj]at bA
 rw[ae bA]
 refine⟨λw=>?_,λbB=>?_⟩
 .simp only[aG]at w
  rw[an w]
  have h2:=C.ln.2.1 V
  have A:=ay V
  have bC:v.args=[aF v.args 0]:=by
   cases hx:v.args with
   |nil=>rw[hx]at h2;simp at h2
   |cons R aO=>cases aO with
    |nil=>rfl
    |cons bj aO=>rw[hx]at h2;simp at h2
  have bj:=C.HE aH hM.nn
  have ht:bU z v=[aF v.args 0]:=by unfold bU;rw[an V];exact bC
  have bo:=bj.1
  rw[ht]at bo
  refine⟨j,y.cQ.box.bZ 8,?_⟩
  intro W D
  let⟨G,I,kb⟩:=y.Ox
  have R:zi (nX g H.size 5) D [m.size]:=K.to I
  replace G:ST q (nX g H.size 5) D k bR (IB d p (cq z) a aT j c) aT j c a.aT a.heap b {f with aR:=aR,pc:=f.pc+1} r t h u:=G
  replace I:To g H (nX g H.size 5) D:=I
  replace kb:cE D H.size eC [.s j]:=kb
  clear_value D
  refine⟨r,ag G,V,V,_,ga G.cQ.cx V,A.1,V,_,gr G A.1 A.2,(FJ G.cQ.heap G.cQ.new kb (fH _ _ _) (W:=λP=>fA b P+de f.ak aR P) (bo.congr λP=>rfl) bj.2 V).mono ?_⟩
  rintro _ m7 ⟨bH,aO,bF,bG,c7⟩
  let⟨S7,t7⟩:=G.gA c7 bF
  refine⟨t7.dH R,aO,bG.bZ 0,S7.cQ.ms (i:=8) aL,?_⟩
  intro m8
  let⟨S8,t8⟩:=S7.jv 8 [.s aO]
  exact⟨t8.dH (R.to t7),bH,aT,aO,c,S8.cQ,((Z.trans I).trans t7).trans t8⟩
 simp only[aj]at bB
 rw[ae bB]
 refine⟨λw=>?_,λb6=>?_⟩
 .simp only[bQ,aG]at w
  rw[an w]
  refine(Oz y ha C.arg ⟨C.ln.2.2.2.1 w,bk⟩ bm V (λau hq=>?_) (hM.Ny w).1 C.ok.heap (show f.pc+1=f.pc+1 from rfl)).mono ?_
  .refine⟨hM.nn au hq,?_⟩
   let⟨L,hk⟩:=List.mem_iff_getElem?.1 hq
   simp only[]at hk
   rw[aH]at hk
   let⟨qq,aP,be⟩:=kX _ _ _ _ hk
   have:=(C.OF qq (aq aP)).2
   omega
  rintro _ W ⟨aE,aW,aD,aI,L5,B⟩
  exact⟨B.dH K,aE,aW,aD,aI,L5,Z.trans B⟩
 simp only[br,aj]at b6
 rw[ae V]
 refine⟨λw=>?_,λbC=>?_⟩
 .simp only[aG]at w
  rw[an w]
  have h2:=C.ln.2.1 V
  have A:=ay V
  refine⟨r,ag y,V,V,_,ga y.cQ.cx V,A.1,V,_,gr y A.1 A.2,(mR _ _).mono ?_⟩
  rintro _ W ⟨rfl,ai⟩
  let⟨S,B⟩:=y.ext ai
  have N:=B.dH K
  exact⟨N,_,rfl,U N 1,bt (ax:=a.heap) S (Z.trans B) (K.to B) _ _ _ rfl⟩
 simp only[aj]at bC
 rw[ae bC]
 refine⟨λw=>?_,λbF=>?_⟩
 .simp only[aG]at w
  rw[an w]
  have h2:=C.ln.2.1 V
  have A:=ay V
  let⟨ab,aO⟩:=hM.load w
  let⟨Y,a_⟩:=bS ab
  have aS:=av Y
  have bn:=y.cQ.heap.len
  have bl:=ab.1
  have az:ix (aF f.ak (aF v.args 0))=(aF f.ak (aF v.args 0) -1000).toNat:=rfl
  have e5:cT (aF f.ak (aF v.args 0) -1000)=aF f.ak (aF v.args 0) -1000:=aQ V V
  obtain⟨f0,_,_,k2,kf,_⟩:=y.cQ.heap.bZ Y
  have aP:=kf.len
  unfold lY at al
  rw[ae V,ae V,ae V,ae V,ae V,ae V,ae V,an w]at al
  refine⟨j,y.cQ.box.bZ 8,r,ag y,V,V,_,ga y.cQ.cx V,A.1,V,_,gr y A.1 A.2,?_⟩
  rw[e5,<-az]
  exact⟨V,V,f0,k2,al.2.1,V,_,kf.pv al.2.1 aO,bt (ax:=a.heap) y Z K _ _ _ rfl⟩
 simp only[aj]at bF
 rw[ae bF]
 refine⟨λw=>?_,λbG=>?_⟩
 .simp only[aG]at w
  rw[an w]
  have h2:=C.ln.2.1 V
  have A:=ay V
  refine⟨r,ag y,V,V,_,ga y.cQ.cx V,A.1,V,_,gr y A.1 A.2,λT=>?_,λT=>?_⟩
  .simp at T;exact bf (J.az _) _ _ (by rw[an T])
  .simp at T;exact⟨g,aT,j,c,by rw[ae T];exact y.cQ,Z⟩
 simp only[aj]at bG
 rw[ae bG]
 refine⟨λw=>?_,λbI=>?_⟩
 .simp only[aG]at w
  rw[an w]
  exact bf (J.az _) _ _ rfl
 simp only[aj]at bI
 rw[ae bI]
 refine⟨λw=>?_,λbH=>?_⟩
 .simp only[aG]at w
  rw[an w]
  have h2:=C.ln.2.1 V
  have A:=ay V
  let⟨ab,bo⟩:=hM.E8 w
  let⟨Y,a_⟩:=bS ab
  have aS:=av Y
  have bn:=y.cQ.heap.len
  have bl:=ab.1
  have az:ix (aF f.ak (aF v.args 0))=(aF f.ak (aF v.args 0) -1000).toNat:=rfl
  have e5:cT (aF f.ak (aF v.args 0) -1000)=aF f.ak (aF v.args 0) -1000:=aQ V V
  obtain⟨f0,_,k1,_⟩:=y.cQ.heap.bZ Y
  unfold lY at al
  rw[ae V,ae V,ae V,ae V,ae V,ae V,ae V,ae V,ae V,ae V,an w]at al
  have bK:tc (cy z.bo v.bP) (aM a.heap (aF f.ak (aF v.args 0))).j8<(cy z.bo v.bP).length:=tS ⟨_,bo,aL⟩
  have bP:=hj.len
  have bN:=al.2.2.1
  refine⟨j,y.cQ.box.bZ 8,r,ag y,V,V,_,ga y.cQ.cx V,A.1,V,_,gr y A.1 A.2,?_⟩
  rw[e5,<-az]
  refine⟨V,V,_,k1,d,y.cQ.box.bZ 0,(tf (a9.ext y.cQ.cx).bo C.ok.fy.nN.types v.bP).mono ?_⟩
  rintro _ W ⟨cs,rfl,bJ,ai⟩
  let⟨S,B⟩:=y.ext ai
  have N:=B.dH K
  refine⟨N,cs,rfl,U N 5,(rY bJ _).mono ?_⟩
  rintro _ D ⟨ri,rfl,aO,be⟩
  let⟨G,I⟩:=S.ext aO
  have aY:=I.dH (K.to B)
  have bj:ri=tc (cy z.bo v.bP) (aM a.heap (aF f.ak (aF v.args 0))).j8:=by
   rcases be with⟨_,aP⟩|⟨_,he⟩
   .exact absurd bo aP
   .exact he
  subst bj
  exact⟨aY,_,rfl,U aY 5,V,V,_,(hj.ext G.cQ.cx).pv V V,bf (ai.trans aO) _ _ rfl⟩
 simp only[aj]at bH
 rw[ae bH]
 have bN:0<=a.bu/\a.bu<=100000:=by
  have b9:=C.ok.bu;have cc:=C.ok.dR;omega
 have aY:=C.ok.fy
 refine⟨λw=>?_,λe9=>?_⟩
 .simp only[bQ,aG]at w
  rw[an w]
  unfold lY at al
  rw[ae V,ae V,ae V,ae V,an w]at al
  let⟨au,be,aO,bK⟩:=al
  have ck:=(aY.dz au (aq aO)).ak
  have h3:=(aY.nN.dz au (aq aO)).1
  have cn:(cL f v.args).length=v.args.length:=by simp[cL]
  refine b4 λws W iw ai bj=>?_
  let⟨S,B⟩:=y.ext ai
  have N:=B.dH K
  refine⟨N,ws,rfl,U N 0,U N 1,U N 2,U N 3,U N 4,U N 5,U N 2,(FE S a9 be aO V iw bj V v ak aV V bN).mono ?_⟩
  rintro _ D ⟨bz,bJ,bi,aP,L6,I⟩
  exact⟨I.dH (K.to B),bz,bJ,bi,aP,L6,(Z.trans B).trans I⟩
 simp only[br,aj]at e9
 rw[ae V]
 refine⟨λw=>?_,λbz=>?_⟩
 .simp only[aG]at w
  rw[an w]
  have h2:=C.ln.2.2.1 V
  have A:=ay V
  have bj:0<=aF v.args 1/\aF v.args 1<f.ak.length:=C.arg _ (fx V V)
  let⟨ab,cm,cS,ce,cb,cC⟩:=hM.apply w
  let⟨Y,a_⟩:=bS ab
  have bK:=C.ok.heap.cell _ (aq Y)
  have cD:=bK.fl
  have bo:=(bK.oL a_).2
  have aS:=av Y
  have bn:=y.cQ.heap.len
  have bl:=ab.1
  have az:ix (aF f.ak (aF v.args 0))=(aF f.ak (aF v.args 0) -1000).toNat:=rfl
  have e5:cT (aF f.ak (aF v.args 0) -1000)=aF f.ak (aF v.args 0) -1000:=aQ V V
  let⟨f0,k0,k1,k2,kf,kr⟩:=y.cQ.heap.bZ Y
  refine⟨r,ag y,V,V,_,ga y.cQ.cx V,A.1,V,_,gr y A.1 A.2,j,y.cQ.box.bZ 8,?_⟩
  rw[e5,<-az]
  generalize hw:aF f.ak (aF v.args 0)=F at*
  have gv:∀{g m bx aT j c lo ax t h u own' pc'},ST q g m k bR bx aT j c lo ax b {f with aR:=own',pc:=pc'} r t h u->af m r.D (r.off+Int.toNat (aF v.args 1)*1)=some (vi (aF f.ak (aF v.args 1))):=λaa=>gr aa bj.1 bj.2
  generalize hv:aF f.ak (aF v.args 1)=X at*
  let⟨au,hq⟩:=cG z.cF (((aM a.heap F).j8 -cq z).toNat)
  have ci:dN z ((aM a.heap F).j8 -cq z)=au:=by simp[dN,hq]
  rw[ci]at ce cb
  have ck:=(aY.dz au (aq hq)).ak
  have h3:=(aY.nN.dz au (aq hq)).1
  refine⟨V,V,_,k0,_,k1,f0,k2,?_⟩
  intro W D
  have bi:J H D:=((J.az H).aK _).ah (ad _) _ _
  have s6:D.size=H.size+1:=by simp[D,W,aw]
  let⟨G,I⟩:=y.ext bi
  clear_value D
  have R:zi g D [H.size,m.size]:=λP hb=>by
   simp at hb;rcases hb with rfl|rfl
   .exact⟨V,y.cQ.new _ (ad _)⟩
   .exact K.to I _ aL
  have be:∀{M},J D M->af M ak.D (ak.off+Int.toNat (1:Int)*1)=some (vi (aF v.args 1)):=λhx=>(ha.ext (G.cQ.cx.trans hx)).pv V V
  have ew:cT ((aM a.heap F).j8 -cq z)=(aM a.heap F).j8 -cq z:=aQ V V
  have tail:∀{M:E}{es:O},J D M->gV D M aA 1 es (((aM a.heap F).aE++[X]).map Ce.i)->
   aN cg 115 [vp k 0,vi F,vb false] M λcv Q=>eF [H.size,m.size] M Q/\∃cu:Bool,cv=vb cu/\∃b3:Int,af Q k (0+2)=some (vi b3)/\
    aN cg 114 [vp k 0,vi (cT ((aM a.heap F).j8 -b3)),O.v es,xv v ak aV] Q λ_ b1=>eF [H.size,m.size] Q b1/\DH q g m k d p (cq z) {a with bu:=a.bu+1,heap:=apart a.heap F,ao:=b++[{f with aR:=aR,pc:=f.pc+1},bW z ((aM a.heap F).j8 -cq z) v.dst ((aM a.heap F).aE++[X])]} b1:=λ{M}{es} hx oe=>by
   let⟨SM,tM⟩:=G.ext hx
   have BM:=R.to tM
   have ie:ap M es ((aM a.heap F).aE++[X]):=ap.fZ oe bE
   have bT:es.D<M.size:=iE ie aL
   have bP:g es.D=0:=by
    rcases oe.D with w|w
    .subst w;have:=ie.len;simp at this
    .exact G.cQ.new _ w
   refine(Dn SM ab false C.ok.heap V).mono ?_
   rintro _ m8 ⟨P,rfl,_,cV,cO,S8,t8⟩
   have hK:rJ a.heap F false=apart a.heap F:=by rw[rJ,ae (sx)]
   rw[hK]at S8
   have cp:ap m8 es ((aM a.heap F).aE++[X]):=iP ie λ_=>t8.eA _ bT (by rw[bP];decide)
   refine⟨t8.dH BM,P,rfl,cq z,S8.cQ.box.bZ 2,?_⟩
   rw[ew]
   refine(FE (s:={a with heap:=apart a.heap F}) S8 a9 cm hq V cp (λ_=>by rw[t8.gT _ bT];exact bP) bE v ak aV V bN).mono ?_
   rintro _ m9 ⟨cw,cs,cd,b7,L9,t9⟩
   refine⟨t9.dH (BM.to t8),cw,cs,cd,b7,?_,(((Z.trans I).trans tM).trans t8).trans t9⟩
   rw[ae V]at L9
   exact L9
  refine⟨r,ag G,V,V,_,be (J.az _),bj.1,V,X,gv G,?_,?_⟩
  .refine(eM (kf.ext bi) V).mono ?_
   rintro _ m7 ⟨cl,rfl,oc,N⟩
   let⟨S7,t7⟩:=G.ext N
   have B7:=R.to t7
   refine⟨t7.dH R,cl,rfl,N.da (gv G),N.da (be (J.az _)),aJ (N.same m.size (R _ aL).1) 4,N.da (ag G),?_⟩
   intro m8
   have S:J m7 m8:=(J.az m7).aK _
   refine⟨aJ (S.same H.size (B7 _ aL).1) 2,nL oc N V λes m9 o9 aO=>⟨?_,tail aO o9⟩⟩
   intro P hb
   have aP:=(R P hb).1
   rw[aO.same P aP,S.same P (oh N.size),N.same P aP]
  .intro m7
   have N:J D m7:=(J.az D).aK _
   have s7:m7.size=D.size+1:=by simp[m7]
   have jt:fP m7 D.size 0 [.i X]:=(cE.push D _ _).iA
   have b8:cE m7 D.size aA [.i X]:=cE.push D _ _
   clear_value m7
   let⟨S7,t7⟩:=G.ext N
   have B7:=R.to t7
   refine⟨aJ (N.same H.size (R _ aL).1) 2,(eM (kf.ext (bi.trans N)) V).mono ?_⟩
   rintro _ m8 ⟨cl,rfl,oc,S⟩
   let⟨S8,t8⟩:=S7.ext S
   have cB:cl.len=(aM a.heap F).aE.length:=by have:=oc.len;simp at this;omega
   refine⟨t8.dH B7,cl,rfl,S.da (gv S7),S.da (be N),aJ (S.same m.size (B7 _ aL).1) 4,S.da (ag S7),?_⟩
   have bJ:=N.trans S
   refine gV.append (zs:=[.i 0]) (x:=.mk D.size 0 1 1) (d:=[.i X]) (oc.cx V) bJ rfl (b8.ext S).iA (by simp only[O.gE];omega) λes m9 o9 aO _ _ _ _=>⟨?_,tail aO (by simpa using o9)⟩
   intro P hb
   have aP:=(R P hb).1
   rw[aO.same P aP,bJ.same P aP]
 simp only[aj]at bz
 rw[ae bz]
 refine⟨λw=>?_,λI=>?_⟩
 .simp only[aG]at w
  have h2:=C.ln.2.1 V
  have A:=ay V
  refine⟨r,ag y,V,V,_,ga y.cQ.cx V,A.1,V,_,gr y A.1 A.2,(HD y V (aF f.ak (aF v.args 0)) (λaK hg=>?_)).mono ?_⟩
  .have ac:b≠[]:=λw=>by rw[w]at hg;simp at hg
   have D:b=b.dropLast++[aK]:=by
    rw[gC ac]at hg;simp at hg;rw[<-hg];exact(fq ac).symm
   have N:b.length=b.dropLast.length+1:=by
    have:=pV List.length D;simpa using this
   let⟨R,S,Y⟩:=C.ok.chain b.dropLast.length aK f (by rw[C.fr,D];simp) (by rw[C.fr,<-N];simp)
   have G:=C.ok.ao aK (by rw[C.fr,D];simp)
   have:=G.lr
   have:=G.lo
   exact⟨R,by show f.dst<_;omega,by show f.dst<_;omega⟩
  rintro _ W ⟨aE,aW,aD,aI,L5,B⟩
  exact⟨B.dH K,aE,aW,aD,aI,L5,Z.trans B⟩
 simp only[aj]at I
 have:=C.Zq
 omega
end
end
section
section
variable{f:E}{e:Nat->Nat}{m:E}{b:Nat}{d p aT c a:O}{s:St}
def OA{h:cN}(L:vw f e m b bR (IB d p (cq h) s aT c a) aT c a s.aT s.heap s.ao)(z:fw f d p h)(u:cU h s)(av:∀t∈s.ao,∀w∈t.ak,w<=9223372036854775807)(ay:s.heap.length<=900000000)(aD:s.aT.length<=900000000):
 aN cg 35 [vp b 0] m λ_ I=>DH f e m b d p (cq h) (lC h s) I:=by
 apply vK (b,0)
 simp -zeta only[aC,aB]
 refine⟨s.cz,L.box.bZ 3,λy=>?_,λy=>?_⟩
 .simp at y
  rw[pQ y]
  exact⟨e,aT,c,a,L,dp.az _ L.new⟩
 have G:s.cz=3:=by simpa using y
 let⟨k,g,r⟩:=u.split G
 have az:s.ao.getLast?=some g:=by rw[r];simp
 have au:s.ao.dropLast=k:=by rw[r];simp
 have C:zh h s k g (eu h g):=⟨u,G,r,rfl,av⟩
 have aH:lC h s=(open Classical in if mS (eu h g).op/\s.bu=s.dR then{s with cz:=1}else if kT h s g (eu h g) (bD g.ak g.aR (bU h (eu h g)))then fj h s k g (eu h g) (bD g.ak g.aR (bU h (eu h g)))else{s with cz:=2}):=by
  unfold lC;rw[ae (by simpa using G),az,au]
 rw[aH]
 generalize eu h g=x at*
 have N:vw f e m b bR (IB d p (cq h) s aT c a) aT c a s.aT s.heap (k++[g]):=by rw[<-r];exact L
 let⟨aj,ai,W,ak,T⟩:=N.ao.fS
 have S:ST f e m b bR (IB d p (cq h) s aT c a) aT c a s.aT s.heap k g aj ai W ak:=⟨N,T⟩
 have aO:=T.xO
 have ab:=u.depth
 have aM:=u.bu
 have aS:=u.dR
 rw[r]at ab
 have aP:k.length<=1000:=by simp at ab;omega
 have e1:cT ((a.len:Int) -1)=(k.length:Int):=by rw[aQ V V];omega
 have e2:Int.toNat (k.length:Int)=k.length:=V
 have U:af m b 9=some (O.v a):=S.cQ.box.bZ 9
 obtain⟨R,g1,_,_,_,_⟩:=T.iA
 let⟨aY,hq,aF,hP,aq,hI⟩:=C.I
 let⟨pa,pl,pc,aU,aW,ag,k0,k1,k2,k3,k4⟩:=z.cF.aF hq
 let⟨F,H,Y,hj,i0,i1,i2,i3,i4,i5⟩:=ag.aF aq
 have aX:=z.cF.len
 have aV:=ag.len
 have X:=C.F
 have aE:=X.fE
 have ac:=X.pc
 rw[aF]at ac
 have l:=S.cQ.cx
 refine⟨a,U,a,U,?_⟩
 rw[e1,e2]
 refine⟨V,V,p,S.cQ.box.bZ 1,_,R,aE.1,V,pc,l.af k4,_,g1,ac.1,V,_,l.af i0,_,l.af i1,_,l.af i2,_,l.af i3,F,l.af i4,H,l.af i5,?_⟩
 intro m1
 have o:J m m1:=(J.az m).aK _
 refine⟨o.da (l.af i0),o.da (l.af i1),o.da (l.af i2),o.da (l.af i3),o.da (l.af i4),o.da (l.af i5),o.da g1,o.da (l.af k4),o.da R,o.da (S.cQ.box.bZ 1),?_⟩
 intro n
 have aI:J m n:=o.ah (ad _) _ _
 have s2:n.size=m.size+1:=by simp[n,m1,aw]
 let⟨j,t2⟩:=S.ext aI
 have A:zi e n [m.size]:=λP l=>by simp at l;subst l;exact⟨V,S.cQ.new _ (ad _)⟩
 clear_value n
 have aR:=C.FW
 have aG:({s with ao:=k++[g]}:St)=s:=by rw[<-r]
 have ax:jx n a (k++[g]):=j.cQ.ao.Ea bE (λt w=>by
  have q:=u.ao t (by rw[r];exact w);obtain⟨Q,_,B,v,_⟩:=q.Jd u.fy;have D:=q.lr;have K:=q.lo;have M:=q.lh;rw[B]at D K M;have:=v.ak;omega)
 have am:RV n b 3 d p aT c a h s:=by
  have:RV n b 3 d p aT c a h {s with ao:=k++[g]}:=⟨z.ext j.cQ.cx,j.cQ.box.bZ 0,j.cQ.box.bZ 1,j.cQ.box.bZ 3,j.cQ.box.bZ 4,j.cQ.box.bZ 5,j.cQ.box.bZ 6,j.cQ.box.bZ 7,j.cQ.box.bZ 8,j.cQ.box.bZ 9,j.cQ.aT.nH V,j.cQ.heap.cells V,ax⟩;rw[aG]at this;exact this
 have F2:FP n a.D (a.off+k.length*6) g aj ai W:=j.fp ⟨V,V,V⟩
 have jM:¬(mS x.op/\s.bu=s.dR)->aN cg 61 [vp b 0,vp a.D (a.off+k.length*6),xv x F H] n λaJ v=>
  eF [m.size] n v/\∃K:Bool,aJ=vb K/\
  ((!K)=true->fJ v b (0+3) 1/\let q:E:=ah v b (0+3) [.i (2:Int)]
   eF [m.size] v q/\DH f e m b d p (cq h) (open Classical in if mS x.op/\s.bu=s.dR then{s with cz:=1}else if kT h s g x (bD g.ak g.aR (bU h x))then fj h s k g x (bD g.ak g.aR (bU h x))else{s with cz:=2}) q)/\
  ((!K)=false->aN cg 62 [vp b 0,vp a.D (a.off+k.length*6),xv x F H] v λt q=>
   eF [m.size] v q/\DH f e m b d p (cq h) (open Classical in if mS x.op/\s.bu=s.dR then{s with cz:=1}else if kT h s g x (bD g.ak g.aR (bU h x))then fj h s k g x (bD g.ak g.aR (bU h x))else{s with cz:=2}) q):=λaA=>by
  refine(PF am (j.cQ.box.bZ 2) C F2 (Y.ext j.cQ.cx) V).mono ?_
  rintro _ m3 ⟨P,rfl,Z,al⟩
  let⟨B,t3⟩:=j.ext al
  have M:=A.to t3
  rw[ae aA]
  refine⟨t3.dH A,P,rfl,λq=>?_,λq=>?_⟩
  .rw[ae (nb Z q)]
   refine⟨B.cQ.ms (i:=3) aL,?_⟩
   intro m4
   let⟨D,t⟩:=B.jv 3 [.i 2]
   refine⟨t.dH M,e,aT,c,a,?_,(t2.trans t3).trans t⟩
   have:=D.cQ
   rw[<-r]at this
   exact this
  .have w:=yb Z q
   rw[an w]
   refine(QQ C rfl w B z Y hj ay aD).mono ?_
   rintro _ m4 ⟨aK,ar,ap,aa,Q,t⟩
   exact⟨t.dH M,aK,ar,ap,aa,Q,(t2.trans t3).trans t⟩
 refine⟨λQ I=>I=n/\(Q=true<->mS x.op),⟨λq=>⟨rfl,by simp at q;simp[mS,q]⟩,λq=>⟨λw=>⟨rfl,by simp at w;simp[mS,w]⟩,λw=>⟨rfl,by simp at q w;simp[mS,q,w]⟩⟩⟩,?_⟩
 rintro Q m3 ⟨rfl,aa⟩
 refine⟨λar=>⟨s.bu,j.cQ.box.bZ 5,s.dR,j.cQ.box.bZ 6,λw=>?_,λw=>?_⟩,λap=>?_⟩
 .simp at w
  refine⟨j.cQ.ms (i:=3) aL,?_⟩
  intro m4
  let⟨D,t⟩:=j.jv 3 [.i 1]
  refine⟨t.dH A,e,aT,c,a,?_,t2.trans t⟩
  rw[an ⟨aa.1 ar,w⟩]
  have:=D.cQ
  rw[<-r]at this
  exact this
 .simp at w
  exact jM λt=>w t.2
 .exact jM λt=>by have:=aa.2 t.1;rw[ap]at this;simp at this
end
end
end Go.Proofs.YtkicoahejfbjhaaGreat
section
namespace Go.Vc
def vD{m:E}{b o:Nat}{v:Value}(h:(af m b o).isSome=true):af (rh m b o v) b o=some v:=by
 unfold af at h⊢;simp only[rh,lG,Mm];cases d:m[b]? with
 |none=>rw[d]at h;simp at h
 |some f=>
  rw[d]at h;cases f with
  |cells c g i=>
   simp only[]at h;have e:o<c.size:=by
    rcases aW o c.size with a|a
    .exact a
    .rw[IY a]at h;simp at h
   simp[e]
  |_=>simp at h
def KL{m:E}{c o a b:Nat}{v:Value}(h:a≠c\/b≠o):af (rh m c o v) a b=af m a b:=by
 by_cases d:a=c
 .subst d;have e:b≠o:=by rcases h with h|h;exact absurd rfl h;exact h
  unfold af;simp only[rh,lG,Mm];cases d:m[a]? with
  |none=>rfl
  |some f=>
   cases f with
   |cells g i j=>simp[kC e]
   |_=>rfl
 .exact aJ (Lq _ _ _ _ d) _
def QH(m:E)(c o:Nat)(v:Value)(a d:Nat):vC (rh m c o v) a d=vC m a d:=by
 by_cases b:a=c
 .subst b;unfold vC;simp only[rh,lG,Mm];cases b:m[a]? with
  |none=>rfl
  |some e=>
   cases e with
   |cells f g h=>rfl
   |_=>rfl
 .unfold vC;rw[Lq _ _ _ _ b]
structure Un(m:E)(k:Int)(pos:List (Nat×Nat))(m':E):Prop where
 size:m.size<=m'.size
 D:∀b,b<m.size->(∀p∈pos,p.1≠b)->m'[b]? =m[b]?
 cell:∀b o,b<m.size->(b,o)∉pos->af m' b o=af m b o
 vC:∀b o,b<m.size->Vc.vC m' b o=Vc.vC m b o
 int:∀p∈pos,∃n,af m' p.1 p.2=some (vi n)
 val:pos.Nodup->∀(j:Nat)(p:Nat×Nat),pos[j]? =some p->af m' p.1 p.2=some (vi (k+j))
def Un.nil{m c:E}(h:J m c)(k:Int):Un m k [] c:=
 ⟨h.size,λb a _=>h.same b a,λb o a _=>aJ (h.same b a) o,λb o a=>by unfold Vc.vC;rw[h.same b a],aL,aL⟩
def Un.lJ{m:E}{b o:Nat}(h:(af m b o).isSome=true)(k:Int):Un m k [(b,o)] (ah m b o [.i k]):=by
 refine⟨tU (aw _ _ _ _).symm,λc f d=>bd _ _ _ _ λe=>d (b,o) aL e.symm,λc q f d=>?_,λc q f=>QH _ _ _ _ _ _,λp a=>?_,λ_ j p a=>?_⟩
 .refine KL ?_;by_cases e:c=b
  .right;intro g;subst e;subst g;simp at d
  .exact Or.inl e
 .simp at a;subst a;exact⟨k,vD h⟩
 .cases j with
  |zero=>
   simp at a;subst a;have e:k+((0:Nat):Int)=k:=V;rw[e];exact vD h
  |succ j=>simp at a
def Un.trans{m l n:E}{k:Int}{e p2:List (Nat×Nat)}(h:Un m k e l)(g:Un l (k+e.length) p2 n):Un m k (e++p2) n:=by
 have v:=h.size;refine⟨bH h.size g.size,λc f b=>?_,λc o f b=>?_,λc o f=>?_,λp a=>?_,λhd j p a=>?_⟩
 .rw[g.D c V λp a=>b p (eD _ a),h.D c f λp a=>b p (bI _ a)]
 .rw[g.cell c o V λa=>b (eD _ a),h.cell c o f λa=>b (bI _ a)]
 .rw[g.vC c o V,h.vC c o f]
 .by_cases i:p∈p2
  .exact g.int p i
  .have d:p∈e:=by rcases List.mem_append.1 a with d|d;exact d;exact absurd d i
   let⟨q,b⟩:=h.int p d;exact⟨q,by rw[g.cell p.1 p.2 (lZ b) i];exact b⟩
 .let⟨i,r,s⟩:=List.nodup_append.1 hd;by_cases u:j<e.length
  .rw[ax u]at a;have d:p∈e:=iv a;let⟨q,b⟩:=h.int p d;rw[g.cell p.1 p.2 (lZ b) λt=>s p d p t rfl];exact h.val i j p a
  .rw[aI V]at a;have:=g.val r _ p a;have d:k+(e.length:Int)+((j -e.length:Nat):Int)=k+j:=V;rw[d]at this;exact this
inductive Uo where
 |nil
 |int (r:Uo)
 |sl (e r:Uo)
def Uo.size:Uo->Nat
 | .nil=>0
 | .int r=>r.size+1
 | .sl _ r=>r.size+1
inductive SS where
 |iA (r:Uo)
 |HY (e:Uo) (n:Nat)
inductive vA(m:E):SS->Nat->Nat->List (Nat×Nat)->Prop where
 |nil (b o:Nat):vA m (.iA .nil) b o []
 |int {b o:Nat} {r:Uo} {p:List (Nat×Nat)} {n:Int} (h:af m b o=some (vi n)) (hf:Vc.vC m b o=false) (hr:vA m (.iA r) b (o+1) p):vA m (.iA (.int r)) b o ((b,o)::p)
 |sl {b o:Nat} {e r:Uo} {p1 p2:List (Nat×Nat)} {s:O} (h:af m b o=some (O.v s)) (hl:s.len<=9223372036854775807) (he:vA m (.HY e s.len) s.D s.off p1) (hr:vA m (.iA r) b (o+1) p2):vA m (.iA (.sl e r)) b o (p1++p2)
 |zero (e:Uo) (b o:Nat):vA m (.HY e 0) b o []
 |succ {b o n:Nat} {e:Uo} {p1 p2:List (Nat×Nat)} (he:vA m (.iA e) b o p1) (hr:vA m (.HY e n) b (o+e.size) p2):vA m (.HY e (n+1)) b o (p1++p2)
def vA.nH{m:E}{K:SS}{f o:Nat}{e:List (Nat×Nat)}(h:vA m K f o e):∀p∈e,∃n,af m p.1 p.2=some (vi n):=by
 induction h with
 |nil=>simp
 |int h c d b=>
  intro p a;rcases List.mem_cons.1 a with rfl|a
  .exact⟨_,h⟩
  .exact b p a
 |sl h i g d b c=>
  intro p a;rcases List.mem_append.1 a with a|a
  .exact b p a
  .exact c p a
 |zero=>simp
 |succ g d b c=>
  intro p a;rcases List.mem_append.1 a with a|a
  .exact b p a
  .exact c p a
def vA.lt{m:E}{K:SS}{b o:Nat}{a:List (Nat×Nat)}(h:vA m K b o a):∀p∈a,p.1<m.size:=λp d=>let⟨_,c⟩:=h.nH p d;lZ c
def Uf(n:Int)(s:O):vi n≠O.v s:=by cases s<;>simp[vi,O.v]
def vA.aaa{m j:E}{u:Int}{q:List (Nat×Nat)}(g:Un m u q j)(t:∀p∈q,∃n,af m p.1 p.2=some (vi n)){K:SS}{b o:Nat}{k:List (Nat×Nat)}(h:vA m K b o k):vA j K b o k:=by
 induction h with
 |nil=>exact .nil _ _
 | @int b o v p n h d i e=>
  have a:=lZ h;by_cases c:(b,o)∈q
  .let⟨l,f⟩:=g.int _ c;exact .int f (by rw[g.vC b o a];exact d) e
  .exact .int (by rw[g.cell b o a c];exact h) (by rw[g.vC b o a];exact d) e
 | @sl b o w v x p2 l h r p i d e=>
  have a:=lZ h;refine .sl (s:=l) ?_ r d e;rw[g.cell b o a λc=>?_]
  .exact h
  .let⟨n,f⟩:=t _ c;rw[h]at f;exact Uf n l (jJ f).symm
 |zero=>exact .zero _ _ _
 |succ p i d e=>exact .succ d e
def vA.ext{m a:E}(d:J m a){K:SS}{b o:Nat}{c:List (Nat×Nat)}(h:vA m K b o c):vA a K b o c:=h.aaa (Un.nil d 0) aL
end Go.Vc
namespace Go.Proofs.YtkicoahejfbjhaaGreat
open Go.Vc
end Go.Proofs.YtkicoahejfbjhaaGreat
end
namespace Go.Proofs.YtkicoahejfbjhaaGreat
open Go.Vc
section
section
variable{m:E}{s t:O}{l r:List Int}
def kM(f:ap m s l)(i:ap m t r):dt cg 19 [O.v s,O.v t] m (l=r):=by
 apply zV;have o:=f.len;have v:=i.len;refine⟨λh=>bV (λe=>?_) (J.az _),λh=>?_⟩
 .subst e;simp at h;omega
 .have u:l.length=r.length:=by simp at h;omega
  refine dU (n:=l.length) (o▸f.gS) (λk a=>J m a/\l.take k=r.take k) ⟨J.az _,aL⟩ ?_;rintro k w I μ q ⟨b,d⟩ p
  refine dit (λj=>?_) λj=>?_
  .let⟨y,g⟩:=cG l k;let⟨z,c⟩:=cG r k;refine⟨V,V,y,by simpa using b.af (f.aF g),V,V,z,by simpa using b.af (i.aF c),λa=>bV (λe=>?_) b,λa=>p V _ ⟨b,?_⟩⟩
   .subst e;rw[g]at c;simp at c a;exact a c
   .simp at a;rw[aU g,aU c,d,a]
  .rw[bX V,bX V]at d;exact iN d b
end
section
variable{m:E}{b P:Nat}{a:O}{S:List Nat}
def I6.ext{a:E}{dq:O}(h:I6 m dq)(x:J m a):I6 a dq:=⟨h.1,λk d=>let⟨v,b,c,g⟩:=h.2 k d;⟨v,b,c,x.af g⟩⟩
end
end
section
variable{n b:Nat}{f:Nat->Int}{d:cN}{s:St}
def sO(n:Nat)(f:Nat->Int):List Int:=(List.range n).map f
def nV(n:Nat)(f:Nat->Int):(sO n f).length=n:=by simp[sO]
def uK(h:b<n):(sO n f)[b]? =some (f b):=by
 unfold sO;rw[cJ,MZ h];rfl
def fB{g:Nat->Int}(h:∀b,b<n->f b=g b):sO n f=sO n g:=by
 unfold sO;exact List.map_congr_left λb a=>h b (List.mem_range.1 a)
def RP(v:Int):(sO n f).set b v=sO n (λa=>if a=b then v else f a):=by
 apply gU;intro i;by_cases a:i<n
 .rw[uK a];by_cases e:b=i
  .subst e;rw[dx (by rw[nV];exact a),an rfl]
  .rw[cr e,uK a,ae (λh=>e h.symm)]
 .rw[cO (by rw[dZ,nV];omega),cO (by rw[nV];omega)]
def Sx(n:Nat):sO n (λ_=>0)=dk n:=by
 unfold sO dk;rw[List.map_const'];simp
structure NZ(h:List bM):Prop where
 jy:nR h
 cells:∀c∈h,nZ h c
 eg:∀(b:Nat)(c:bM),h[b]? =some c->0<c.aP->eg h b<=c.aP
 Mp:SG h
structure Hs(h:List bM)(f:aX):Prop where
 dz:∀(k:Nat)(w o:Int),f.ak[k]? =some w->f.aR[k]? =some o->(gK w\/1000<=w)/\(0<=o/\o<=999999)/\(0<o->fX h w)
structure Kj(d:cN)(h:List bM)(prev:Option aX)(f:aX):Prop where
 fE:0<=f.fE/\f.fE<d.cF.length
 pc:0<=f.pc/\f.pc<(dN d f.fE).dq.length
 lr:(f.ak.length:Int)=(dN d f.fE).ak
 lo:(f.aR.length:Int)=(dN d f.fE).ak
 lh:(f.ba.length:Int)=(dN d f.fE).ak
 ak:Hs h f
 first:prev=none->f.dst=0
 next:∀p,prev=some p->0<=f.dst/\f.dst<p.aR.length/\aF p.aR f.dst=0
def nv(a:List aX):Nat->Option aX
 |0=>none
 |k+1=>a[k]?
structure N3(h:List bM)(fs:List aX):Prop where
 cL:∀f∈fs,∀w∈f.ba,w=0\/(1000<=w/\ix w<h.length)
 kZ:∀(i:Nat)(c:bM),h[i]? =some c->c.aP<0->holds fs i=1
 ng:∀(i:Nat)(c:bM),h[i]? =some c->0<=c.aP->holds fs i=0
structure Ng(d:cN)(s:St):Prop where
 fy:nj d
 cz:0<=s.cz/\s.cz<=3
 done:s.cz=0<->s.ao=[]
 value:gK s.value
 tO:s.value≠0->s.cz=0
 dR:0<=s.dR/\s.dR<=40
 bu:0<=s.bu/\s.bu<=s.dR
 depth:(s.ao.length:Int)<=s.bu+1
 aT:∀n∈s.aT,gK n
 heap:NZ s.heap
 ao:∀(k:Nat)(f:aX),s.ao[k]? =some f->Kj d s.heap (nv s.ao k) f
 ba:N3 s.heap s.ao
 QE:∀(b:Nat)(c:bM),s.heap[b]? =some c->0<c.aP->c.aP=eg s.heap b+fA s.ao b
def PL:∀{c:List aX}{b:Nat},0<fA c b->∃f∈c,0<de f.ak f.aR b
 |[],b,h=>by simp[fA]at h
 |f::c,b,h=>by
  simp only[fA]at h;by_cases d:0<de f.ak f.aR b
  .exact⟨f,aL,d⟩
  .let⟨g,e,i⟩:=PL (c:=c) (b:=b) V;exact⟨g,by simp[e],i⟩
def NA:∀{ak aR:List Int}{b:Nat},0<de ak aR b->∃(k:Nat)(o:Int),ak[k]? =some (1000+(b:Int))/\aR[k]? =some o/\0<o
 |[],aR,b,h=>by simp[de]at h
 |_::_,[],b,h=>by simp[de]at h
 |r::i,o::g,b,h=>by
  simp only[de]at h;by_cases a:r=1000+(b:Int)/\0<o
  .exact⟨0,o,by simp[a.1],rfl,a.2⟩
  .have:0<de i g b:=by
    split at h
    .rename_i e;have:¬0<o:=λc=>a ⟨e,c⟩;omega
    .omega
   let⟨k,f,c,d,e⟩:=NA this;exact⟨k+1,f,by simpa using c,by simpa using d,e⟩
def U0{a:List aX}{f:aX}(c:f∈a)(d:∀g∈a,0<=de g.ak g.aR b):de f.ak f.aR b<=fA a b:=by
 induction a with
 |nil=>simp at c
 |cons g a i=>
  have m:0<=fA a b:=by
   clear i c;induction a with
   |nil=>simp[fA]
   |cons q a j=>
    have k:=d q aL;have l:=j (λx e=>d x (by simp at e⊢;rcases e with h|h;exact Or.inl h;exact Or.inr (Or.inr h)));simp only[fA];omega
  simp only[fA];rcases List.mem_cons.1 c with rfl|c
  .omega
  .have:=i c λx e=>d x (by simp[e]);have:=d g aL;omega
def TW{a:List aX}(c:∀g∈a,0<=de g.ak g.aR b):0<=fA a b:=by
 induction a with
 |nil=>simp[fA]
 |cons q a e=>
  have f:=c q aL;have g:=e λx d=>c x (by simp[d]);simp only[fA];omega
def PE{a:List aX}{f:aX}(c:f∈a):eB f.ba b<=holds a b:=by
 induction a with
 |nil=>simp at c
 |cons g a d=>
  simp only[holds];rcases List.mem_cons.1 c with rfl|c
  .have:=vE a b;omega
  .have:=d c;have:=iC g.ba b;omega
def KS{a:List aX}(h:∀f∈a,∀w∈f.ba,w≠1000+(b:Int)):holds a b=0:=by
 induction a with
 |nil=>rfl
 |cons g a e=>
  simp only[holds];rw[e λf c=>h f (by simp[c]),nK λd=>h g aL _ d rfl];rfl
def vQ{a:List aX}{f:aX}(h:f∈a):∃k:Nat,a[k]? =some f:=List.mem_iff_getElem?.1 h
def LY(h:Ng d s):cU d s:=by
 have r:∀f∈s.ao,∃p,Kj d s.heap p f:=λf c=>let⟨k,g⟩:=vQ c;⟨_,h.ao k f g⟩;have z:∀b,∀j∈s.ao,0<=de j.ak j.aR b:=λb j t=>by
  let⟨p,a⟩:=r j t;refine tn (λo l=>?_) b;let⟨k,g⟩:=List.mem_iff_getElem?.1 l;have u:=av g;have e:=a.lr;have q:=a.lo;let⟨w,i⟩:=cG j.ak k;exact(a.ak.dz k w o i g).2.1.1
 refine⟨h.fy,h.cz,h.done,h.value,h.tO,h.dR,h.bu,h.depth,h.aT,⟨h.heap.cells,h.heap.Mp,h.QE,λb=>TW (z b),λb y=>?_⟩,h.heap.jy,λf c=>?_,λf c=>(h.ao 0 f c).first rfl,λk f j c t=>(h.ao (k+1) j t).next f c,λb⟨m,n,v⟩=>h.ba.kZ b m n v,λb g=>?_⟩
 .let⟨f,c,a⟩:=PL y;let⟨k,o,e,q,x⟩:=NA a;let⟨p,a⟩:=r f c;have:=((a.ak.dz k _ o e q).2.2 x).2;rwa[ly]at this
 .let⟨p,a⟩:=r f c;refine⟨a.fE,a.pc,a.lr,a.lo,a.lh,λw i=>?_,λk o w l i=>?_,λw i=>?_⟩
  .let⟨k,g⟩:=List.mem_iff_getElem?.1 i;have u:=av g;have e:=a.lr;have q:=a.lo;let⟨o,l⟩:=cG f.aR k;exact(a.ak.dz k w o g l).1
  .have:=a.ak.dz k w o i l;exact⟨this.2.1.1,λx=>(this.2.2 x).1⟩
  .rcases h.ba.cL f c w i with e|e
   .exact Or.inl e
   .exact Or.inr e.1
 .rcases aW b s.heap.length with u|A
  .let⟨m,n⟩:=dB u;refine h.ba.ng b m n (Int.not_lt.1 λv=>g ⟨m,n,v⟩)
  .refine KS λf c w i x=>?_;rcases h.ba.cL f c w i with e|e
   .omega
   .have:=e.2;rw[x,ly]at this;omega
def Oi(h:cU d s):Ng d s:=by
 have E:∀b,∀p∈s.ao,0<=de p.ak p.aR b:=λb p D=>tn (h.ao p D).PK b;have y:∀f∈s.ao,∀(k:Nat)(w o:Int),f.ak[k]? =some w->f.aR[k]? =some o->0<o->fX s.heap w/\o<=999999:=λf g k w o i n q=>by
  have m:=((h.ao f g).aR k o w n i).2 q;have A:=ij m;have B:=Lg (h.ao f g).PK i n (d:=ix w) A.symm;have C:=U0 g (E (ix w));have x:=h.heap.lv (ix w) V;let⟨j,e,c⟩:=x;have I:=h.heap.ex _ j e c;have J:=qR s.heap (ix w);have K:=(h.heap.cell j (aq e)).hi;exact⟨⟨m,j,e,c⟩,V⟩
 refine⟨h.fy,h.cz,h.done,h.value,h.tO,h.dR,h.bu,h.depth,h.aT,⟨h.jy,h.heap.cell,λb j e c=>?_,h.heap.Mp⟩,λk f g=>?_,⟨λf g w i=>?_,λu j e z=>h.kZ u ⟨j,e,z⟩,λu j e z=>h.ng u λ⟨H,r,L⟩=>?_⟩,h.heap.ex⟩
 .have:=h.heap.ex b j e c;have:=h.heap.nn b;omega
 .have t:=aq g;have F:=h.ao f t;refine⟨F.fE,F.pc,F.lr,F.lo,F.lh,⟨λv w o i n=>⟨F.RL w (aq i),⟨(F.aR v o w n i).1,?_⟩,λc=>(y f t v w o i n c).1⟩⟩,λc=>?_,λG c=>?_⟩
  .rcases IZ 0 o with q|q
   .exact(y f t v w o i n q).2
   .omega
  .cases k with
   |zero=>exact h.first f g
   |succ k=>
    simp only[nv]at c;have:=av g;rw[List.getElem?_eq_none_iff]at c;omega
  .cases k with
   |zero=>simp[nv]at c
   |succ k=>exact h.chain k G f c g
 .rcases(h.ao f g).ba w i with m|m
  .exact Or.inl m
  .refine Or.inr ⟨m,Nat.lt_of_not_le λt=>?_⟩;have B:=h.ng (ix w) λ⟨j,e,_⟩=>by have:=av e;omega
   have C:=PE g (b:=ix w);have x:=uy (l:=f.ba) (f:=ix w) (by rw[ij m];exact i);omega
 .rw[e]at r;simp at r;subst r;omega
end
section
variable{M d:E}{b e a:Nat}{f:Nat->Int}{h:List bM}{w:Int}{c:bM}
def Hm(w:Int):Prop:=-9223372036854775808<=w/\w<=9223372036854775807
def RY(h:List bM):Prop:=∀c∈h,∀w∈c.aE,Hm w
def tH(B:cE M b aA ((sO e f).map Ce.i))(h:a<e):af M b a=some (vi (f a)):=by
 rw[B.bZ a,cJ,uK h];rfl
def IS(B:cE M b aA ((sO e f).map Ce.i))(a:Nat)(v:Int):cE (ah M b a [.i v]) b aA ((sO e (λx=>if x=a then v else f x)).map Ce.i):=by
 have:=B.ah (m:=M) (o:=a) (r:=[.i v]);rw[Ag,RP]at this;exact this
def NN(B:cE M b aA ((sO e f).map Ce.i))(h:a<e):fJ M b a 1:=B.fJ (by simp[nV];omega)
def OT(B:cE M b aA ((sO e f).map Ce.i))(h:e<=9223372036854775807):ap M (.mk b 0 e e) (sO e f):=
 ⟨by simp[nV],ad _,h,λk x a=>⟨[.i x],rfl,λi c d=>by
  have g:k<e:=by have:=av a;rwa[nV]at this
  rw[uK g]at a;simp at a;cases i with
  |zero=>simp at d;subst d;have:=tH B g;rw[a]at this;simpa[Ce.v]using this
  |succ i=>simp at d⟩⟩
def Ma(M:E)(e:Nat):cE (M.push (.cells (bt (mF [.i (0:Int)] e)) aA)) M.size aA ((sO e (λ_=>0)).map Ce.i):=by
 rw[tQ,Sx];exact cE.push M _ _
def S0(f:Nat)(b:List Value)(d:E)(l:List Int):Prop:=aN cg f b d λv a=>∃s,v=O.v s/\ap a s l/\J d a
def LN{f:O}(i:cX d f h)(k:Hm w):dt cg 179 [O.v f,vi w] d (qy h w):=by
 apply Gz;refine(aY _ _ _ _).then λb m e c=>⟨b,rfl,λa=>iN (Or.inl (e.1 a)) c,λa=>?_⟩;refine(iW (cX.ext c i) k).then λb2 n g l=>⟨b2,rfl,eT ?_ (c.trans l)⟩;rw[g];exact⟨λh=>Or.inr h,λh=>h.resolve_left λj=>fb e a j⟩
def GX{C f:O}(F:cX d C h)(x:ap d f c.aE)(G:∀w∈c.aE,Hm w):dt cg 117 [O.v C,.agg #[vi c.aP,vi c.j8,O.v f]] d (nZ h c):=by
 apply Bm;simp -zeta only[aC,aB];intro o;have e:J d o:=(J.az d).aK _;have P:o.size=d.size+1:=by simp[o]
 clear_value o;have B:=x.len;refine⟨λt=>bV (λa=>by have:=a.fl;simp at t;omega) e,λt=>?_⟩;have y:c.aE.length<=3:=by simp at t;omega
 have q:∀b∈[d.size],b<o.size:=bE;refine(aY _ _ _ _).aH (J.az _) q λb N A i _=>⟨b,rfl,λu=>bV (λa=>nb A u ⟨a.lo,a.hi⟩) (e.trans i),λu=>?_⟩;have m:=yb A u;refine⟨λv=>?_,λv=>?_⟩
 .have k:c.aP<1:=by simpa using v
  refine⟨λl=>?_,λl=>bV (λa=>by simp at l;exact l (a.wL k).1) (e.trans i)⟩;have s:c.j8=0:=by simpa using l
  refine(mg (x.ext (e.trans i))).aH i q λb3 H z j _=>⟨b3,rfl,λg=>?_,λg=>bV (λa=>fb z g (a.wL k).2.1) ((e.trans i).trans j)⟩;have D:=z.1 g;refine⟨λr=>iN ⟨y,m.1,m.2,λ_=>⟨s,D,λp=>by simp at r;omega⟩,λp=>V⟩ ((e.trans i).trans j),λr=>eT ?_ ((e.trans i).trans j)⟩;have E:c.aP=0:=by simp at r;omega
  constructor
  .intro p;have:c.aE=[]:=by simp at p;exact List.length_eq_zero_iff.1 V
   exact⟨y,m.1,m.2,λ_=>⟨s,D,λ_=>this⟩,λp=>V⟩
  .intro a;have:=(a.wL k).2.2 E;rw[this]at B;simp[B]
 .have k:0<c.aP:=by simp at v;omega
  refine dU (n:=c.aE.length) V (λz p=>J o p/\∀w∈c.aE.take z,qy h w) ⟨i,aL⟩ ?_;rintro z H L μ M ⟨j,D⟩ I
  refine dit (λl=>?_) λl=>?_
  .let⟨w,r⟩:=cG c.aE z;refine⟨V,V,w,by simpa using(x.ext (e.trans j)).aF r,(LN (cX.ext (e.trans j) F) (G w (aq r))).aH j q λb4 E p K s=>⟨b4,rfl,λg=>bV (λa=>nb p g ((a.oL k).1 w (aq r))) (e.trans s),λg=>I V E ⟨s,bB r D (yb p g)⟩⟩⟩
  .refine(aY _ _ _ _).aH j q λb4 E p K s=>⟨b4,rfl,eT ?_ (e.trans s)⟩;rw[p];exact⟨λr=>⟨y,m.1,m.2,λg=>V,λ_=>⟨db V D,r⟩⟩,λa=>(a.oL k).2⟩
def NH{i:Nat}(b:h[i]? =some c)(a:Nat):eg (h.take (i+1)) a=eg (h.take i) a+eB c.aE a:=by
 rw[aU b,uA];simp[eg]
def rf{l:List Int}{k:Nat}(b:l[k]? =some w)(a:Nat):eB (l.take (k+1)) a=eB (l.take k) a+(if w=1000+(a:Int)then 1 else 0):=by
 rw[aU b,lR];simp[eB]
def BO:∀(h:List bM)(a:Nat),(∀c∈h,c.aE.length<=3)->eg h a<=3*h.length
 |[],a,_=>by simp[eg]
 |c::h,a,b=>by
  have e:=BO h a λd hd=>b d (by simp[hd]);have f:=km c.aE a;have g:=b c aL;simp only[eg,aZ];omega
def I8(b:∀c∈h,nZ h c)(d:c∈h)(e:w∈c.aE):fX h w\/w<1000:=by
 by_cases f:0<c.aP
 .rcases((b c d).oL f).1 w e with a|a
  .have:=a.2;exact Or.inr V
  .exact Or.inl a
 .have:=((b c d).wL V).2.1 w e;exact Or.inr V
def Bd{B:O}(z:cX d B h)(u:∀c∈h,nZ h c)(R:RY h)(af:h.length<=1000000000):S0 118 [O.v B] d (sO h.length (eg h)):=by
 apply GG;have hl:=z.len;have en:Int.toNat (B.len:Int)=h.length:=V;rw[en];refine⟨V,V,V,V,?_⟩;intro C;have Y:J d C:=(J.az d).aK _;have K:cE C d.size aA ((sO h.length (λ_=>0)).map Ce.i):=Ma d _;clear_value C;have Q:∀i,∀c∈h.take i,c.aE.length<=3:=λi c S=>(u c (dA S)).fl;refine dU (n:=h.length) V (λi e=>J d e/\cE e d.size aA ((sO h.length (λa=>eg (h.take i) a)).map Ce.i)) ⟨Y,by simpa[eg]using K⟩ ?_;rintro i m2 Z μ hi ⟨I,p⟩ X
 refine dit (λN=>?_) λN=>?_
 .let⟨c,v⟩:=cG h i;have x:=aq v;have ab:=(u c x).fl;refine dU (n:=c.aE.length) V (λk e=>J d e/\cE e d.size aA ((sO h.length (λa=>eg (h.take i) a+eB (c.aE.take k) a)).map Ce.i)) ⟨I,by simpa[eB]using p⟩ ?_;rintro k U aa ν hk ⟨m,o⟩ H;obtain⟨f,y,_,_,s⟩:=(cX.ext m z).aF v;have ac:=y.len;refine⟨V,V,f,by simpa using s,dit (λP=>?_) λP=>?_⟩
  .let⟨w,l⟩:=cG c.aE k;have G:=aq l;have F:=R c x w G;refine⟨V,V,f,by simpa using s,V,V,w,by simpa using y.aF l,(iW (cX.ext m z) F).then λb W j e=>⟨b,rfl,λt=>?_,λt=>?_⟩⟩
   .have A:=j.1 t;have E:=av (bS A).1;have L:cT (w -1000)=(ix w:Nat):=by have:=A.1;have:=F.2;unfold ix;rw[aQ V V];omega
    have M:Int.toNat ((ix w:Nat):Int)=ix w:=V;have q:=o.ext e;have q1:=BO (h.take i) (ix w) (Q i);have q2:=km (c.aE.take k) (ix w);have q3:=qR (h.take i) (ix w);have q4:=iC (c.aE.take k) (ix w);have q5:(h.take i).length<=h.length:=bE;have q6:(c.aE.take k).length<=3:=bE;refine⟨V,V,f,by simpa using e.af s,V,V,w,by simpa using(y.ext e).aF l,?_⟩;rw[L,M];simp only[O.gE,O.jA,O.mT,bT,eQ];refine⟨V,V,_,tH q E,V,V,NN q E,?_⟩;rw[show cT (eg (h.take i) (ix w)+eB (c.aE.take k) (ix w)+1)=eg (h.take i) (ix w)+eB (c.aE.take k) (ix w)+1 from aQ V V];refine H V _ ⟨(m.trans e).ah (ad _) _ _,?_⟩;have D:=IS q (ix w) (eg (h.take i) (ix w)+eB (c.aE.take k) (ix w)+1);rw[fB (g:=λa=>eg (h.take i) a+eB (c.aE.take (k+1)) a)]at D
    .exact D
    .intro b j;rw[rf l];by_cases r:b=ix w
     .subst r;rw[an rfl,an (ij A.1).symm];omega
     .rw[ae r,ae (λT=>r (by rw[T,ly]))];omega
   .refine H V W ⟨m.trans e,?_⟩;have q:w<1000:=(I8 u x G).resolve_left (fb j t);rw[fB (g:=λa=>eg (h.take i) a+eB (c.aE.take k) a)]
    .exact o.ext e
    .intro b j;rw[rf l,ae V];omega
  .refine X V U ⟨m,?_⟩
   have e:c.aE.take k=c.aE:=bX V;rw[e]at o;rw[fB (g:=λa=>eg (h.take i) a+eB c.aE a)]
   .exact o
   .intro b j;exact NH v b
 .rw[bX V]at p;exact⟨_,rfl,OT p V,I⟩
end
section
variable{a b c:Nat}{h:List bM}{M g:E}{e:Nat->Bool}
def mC(mk:Nat->Bool):Nat->Nat
 |0=>0
 |c+1=>mC mk c+(if mk c=true then 1 else 0)
def Ft(mk:Nat->Bool):∀c,mC mk c<=c
 |0=>ad _
 |c+1=>by have:=Ft mk c;simp only[mC];split<;>omega
def Kz{mk:Nat->Bool}:∀{c:Nat},(mC mk c=c<->∀i,i<c->mk i=true)
 |0=>by simp[mC]
 |c+1=>by
  have g:=Ft mk c;have a:=Kz (mk:=mk) (c:=c);simp only[mC];constructor
  .intro h i f;have b:mk c=true:=by by_cases e:mk c=true;exact e;rw[ae e]at h;omega
   rw[an b]at h;rcases aW i c with d|d
   .exact a.1 V i d
   .have:i=c:=V;rw[this];exact b
  .intro h;rw[an (h c V),a.2 λi f=>h i V]
def KA{mk a:Nat->Bool}:∀{c:Nat},(∀i,i<c->mk i=a i)->mC mk c=mC a c
 |0,_=>rfl
 |c+1,h=>by simp only[mC];rw[KA λi b=>h i V,h c V]
def mJ(mk:Nat->Bool)(a:Nat):Nat->Bool:=λx=>if x=a then true else mk x
def BR(mk:Nat->Bool)(a:Nat):mJ mk a a=true:=an rfl
def pK{mk:Nat->Bool}(h:b≠a):mJ mk a b=mk b:=ae h
def BT{mk:Nat->Bool}(h:mk b=true):mJ mk a b=true:=by unfold mJ;split;rfl;exact h
def zB{mk:Nat->Bool}{a:Nat}(h:mk a=false):∀{c:Nat},a<c->mC (mJ mk a) c=mC mk c+1
 |0,d=>absurd d (eW _)
 |c+1,d=>by
  simp only[mC];rcases aW a c with b|b
  .rw[zB h b,pK V];omega
  .have e:a=c:=V;subst e;rw[BR,an rfl,h,ae aL,KA (a:=mk) λi f=>pK V]
def Nf(h:List bM)(mk:Nat->Bool):Prop:=
 ∃t:Nat->Nat,(∀j,mk j=true->t j<=mC mk h.length)/\∀(i:Nat)(c:bM),h[i]? =some c->mk i=true->∀w∈c.aE,1000<=w->mk (ix w)=true/\t (ix w)<t i
def Pa(mk:Nat->Bool)(a:List Int):Prop:=∀w∈a,1000<=w->mk (ix w)=true
def Nf.set{mk:Nat->Bool}(u:Nf h mk){j:bM}(l:h[a]? =some j)(e:mk a=false)(s:Pa mk j.aE):Nf h (mJ mk a):=by
 let⟨z,k,r⟩:=u;have t:=av l;have q:=zB e t;refine⟨λx=>if x=a then mC mk h.length+1 else z x,λv n=>?_,λi d hd m w p o=>?_⟩
 .simp only[q];split
  .omega
  .rename_i b;rw[pK b]at n;have:=k v n;omega
 .by_cases f:i=a
  .subst f;rw[l]at hd;simp at hd;subst hd;have b:=s w p o;have g:ix w≠i:=λc=>by rw[c,e]at b;cases b
   simp only[an,ae g];exact⟨BT b,oh (k _ b)⟩
  .rw[pK f]at m;let⟨b,y⟩:=r i d hd m w p o;have g:ix w≠a:=λc=>by rw[c,e]at b;cases b
   simp only[ae f,ae g];exact⟨BT b,y⟩
def Sk{mk:Nat->Bool}(n:Nf h mk)(m:∀a∈h,∀w∈a.aE,1000<=w->ix w<h.length)(k:∀(i:Nat)(a:bM),h[i]? =some a->mk i=true\/¬Pa mk a.aE):
 mC mk h.length=h.length<->SG h:=by
 rw[Kz]
 constructor
 .intro g
  obtain⟨t,_,f⟩:=n
  exact⟨t,λi a b w e d=>(f i a b (g i (av b)) w e d).2⟩
 .rintro⟨j,o⟩
  have q:∀(c i:Nat),j i<c->i<h.length->mk i=true:=by
   intro c;induction c with
   |zero=>intro i g;omega
   |succ c p=>
    intro i g l;let⟨a,b⟩:=dB l;rcases k i a b with f|f
    .exact f
    .refine absurd (λw e d=>?_) f;exact p (ix w) (oh (o i a b w e d)) (m a (aq b) w e d)
  exactλi g=>q (j i+1) i V g
def zw(c:Nat)(e:Nat->Bool):List Ce:=(List.range c).map λa=>Ce.t (e a)
def Fo(c:Nat)(e:Nat->Bool):(zw c e).length=c:=by simp[zw]
def Rk(B:cE M b sP (zw c e))(h:a<c):af M b a=some (vb (e a)):=by
 rw[B.bZ a];unfold zw;rw[cJ,MZ h];rfl
def UF(B:cE M b sP (zw c e))(a:Nat):cE (ah M b a [.t true]) b sP (zw c (mJ e a)):=by
 have j:=B.ah (m:=M) (o:=a) (r:=[.t true]);have d:iZ (zw c e) a [.t true]=zw c (mJ e a):=by
  apply gU;intro i;simp only[iZ];by_cases k:i<c
  .have f:∀g:Nat->Bool,(zw c g)[i]? =some (.t (g i)):=λg=>by unfold zw;rw[cJ,MZ k];rfl
   rw[f];by_cases d:a=i
   .subst d;rw[dx (by rw[Fo];exact k),BR]
   .rw[cr d,f,pK (λh=>d h.symm)]
  .rw[cO (by rw[dZ,Fo];omega),cO (by rw[Fo];omega)]
 rw[d]at j;exact j
def UE(M:E)(c:Nat):cE (M.push (.cells (bt (mF [.t false] c)) sP)) M.size sP (zw c (λ_=>false)):=by
 have e:mF [.t false] c=zw c (λ_=>false):=by
  unfold mF zw;rw[List.map_const'];simp
 rw[e];exact cE.push M _ _
def Gg{mk:Nat->Bool}{e:O}{d:List Int}(B:cE g b sP (zw c mk))(k:ap g e d)(p:∀w∈d,Hm w)(E:∀w∈d,1000<=w->ix w<c):
 dt cg 180 [O.v (.mk b 0 c c),O.v e] g (Pa mk d):=by
 apply Am
 have H:=k.len
 have K:=k.gS
 refine dU (n:=d.length) V (λr a=>J g a/\Pa mk (d.take r)) ⟨J.az _,λw p=>by simp at p⟩ ?_
 rintro r L I μ G ⟨f,l⟩ x
 refine dit (λA=>?_) λA=>?_
 .let⟨w,h⟩:=cG d r
  have q:=aq h
  have C:=p w q
  refine⟨V,V,w,by simpa using(k.ext f).aF h,(dV _ _).then λF u t i=>⟨F,rfl,λo=>?_,λo=>?_⟩⟩
  .have s:=t.1 o
   have D:=E w q s
   have y:cT (w -1000)=(ix w:Nat):=by have:=C.2;unfold ix;rw[aQ V V];omega
   have z:Int.toNat ((ix w:Nat):Int)=ix w:=V
   refine⟨V,V,w,by simpa using(k.ext (f.trans i)).aF h,?_⟩
   rw[y,z]
   simp only[O.gE,O.jA,O.mT,bT,eQ]
   refine⟨V,V,mk (ix w),Rk (B.ext (f.trans i)) D,λj=>bV (λa=>by rw[a w q s]at j;cases j) (f.trans i),λj=>x V u ⟨f.trans i,?_⟩⟩
   rw[Pa,aU h]
   intro v a m
   rcases List.mem_append.1 a with a|a
   .exact l v a m
   .simp at a;subst a;simpa using j
  .refine x V u ⟨f.trans i,?_⟩
   rw[Pa,aU h]
   intro v a m
   rcases List.mem_append.1 a with a|a
   .exact l v a m
   .simp at a;subst a;exact absurd m (fb t o)
 .rw[bX V]at l
  exact iN l f
def Gv{y:O}(L:cX g y h)(hc:∀d∈h,nZ h d)(aa:RY h)(ae:h.length<=1000000000):dt cg 119 [O.v y] g (SG h):=by
 apply AL;have hl:=L.len;have en:Int.toNat (y.len:Int)=h.length:=V;rw[en];have N:∀d∈h,∀G∈d.aE,1000<=G->ix G<h.length:=λd hm G hw y=>by
  rcases I8 hc hm hw with o|o
  .exact av (bS o).1
  .omega
 refine⟨V,V,V,V,?_⟩;intro F;have x1:J g F:=(J.az g).aK _;have W:cE F g.size sP (zw h.length (λ_=>false)):=UE g _;clear_value F;have X:mC (λ_=>false) h.length=0:=by
  generalize h.length=c;induction c with
  |zero=>rfl
  |succ c a=>simp[mC,a]
 refine RS (γ:=(Nat->Bool)×Bool) (λf R gX u=>gX=f.2/\R=(mC f.1 h.length:Nat)/\J g u/\cE u g.size sP (zw h.length f.1)/\Nf h f.1/\(gX=false->∀(i:Nat)(d:bM),h[i]? =some d->f.1 i=true\/¬Pa f.1 d.aE))
  (λf=>if f.2=true then h.length -mC f.1 h.length+1 else 0) (λ_=>false,true) ⟨rfl,by rw[X];rfl,x1,W,⟨λ_=>0,aL,aL⟩,aL⟩ ?_
 rintro⟨mk,gX⟩ R af m2 ab μ ⟨rfl,rfl,U,H,B,I⟩ T
 simp only at H B I T⊢
 refine⟨λo=>?_,λo=>?_⟩
 .refine⟨λS z i u=>∃(k:Nat)(a:Nat->Bool),i=k/\k<=h.length/\S=(mC a h.length:Nat)/\J g u/\cE u g.size sP (zw h.length a)/\Nf h a/\mC mk h.length<=mC a h.length/\(z=true->mC mk h.length<mC a h.length)/\
   (z=false->∀(i:Nat)(d:bM),i<k->h[i]? =some d->a i=true\/¬Pa a d.aE),λ_ _ i _=>((h.length:Int) -i).toNat,⟨0,mk,rfl,dL _,rfl,U,H,B,ad _,aL,λ_ i d j=>absurd j (eW _)⟩,?_⟩
  rintro S z i m3 ⟨k,a,rfl,hk,rfl,v,n,w,Q,E,E3⟩;have ac:=Ft a h.length;have lC:∀{P:Prop},k<h.length->(cT ((k:Int)+1)=((k+1:Nat):Int)->((h.length:Int) -((k+1:Nat):Int)).toNat<((h.length:Int) -(k:Int)).toNat->P)->P:=λM hP=>hP (kA M V) (Dr M);refine dit (λh2=>?_) λh2=>?_
  .have p:k<h.length:=V;let⟨d,s⟩:=dB p;have Y:Int.toNat (k:Int)=k:=V;simp only[O.gE,O.jA,O.mT,bT,eQ,Y];refine⟨V,V,a k,Rk n p,λC=>?_,λC=>?_⟩
   .have x:a k=false:=by simpa using C
    obtain⟨e,hf,_,_,Z⟩:=(cX.ext v L).aF s;refine⟨V,V,e,Z,(Gg n hf (aa d (aq s)) (N d (aq s))).then λb m4 K A=>⟨b,rfl,λD=>?_,λD=>?_⟩⟩
    .have j:=n.ext A;have m:=zB x p;refine⟨V,V,j.fJ (by rw[Fo];omega),?_⟩;refine lC p λr t=>?_;rw[r,show cT ((mC a h.length:Nat)+1:Int)=((mC (mJ a k) h.length:Nat):Int)by rw[m,aQ V V];omega];exact⟨⟨k+1,mJ a k,rfl,V,rfl,(v.trans A).ah (ad _) _ _,UF j k,w.set s x (K.1 D),V,λ_=>V,λl=>by cases l⟩,t⟩
    .refine lC p λr t=>?_;rw[r];refine⟨⟨k+1,a,rfl,V,rfl,v.trans A,n.ext A,w,Q,E,λl j q hj hd=>?_⟩,t⟩;rcases aW j k with m|m
     .exact E3 l j q m hd
     .have:j=k:=V;subst this;rw[s]at hd;simp at hd;subst hd;exact Or.inr (fb K D)
   .have x:a k=true:=by simpa using C
    refine lC p λr t=>?_;rw[r];refine⟨⟨k+1,a,rfl,V,rfl,v,n,w,Q,E,λl j q hj hd=>?_⟩,t⟩;rcases aW j k with m|m
    .exact E3 l j q m hd
    .have:j=k:=V;subst this;exact Or.inl x
  .refine T (a,z) _ _ m3 ⟨rfl,rfl,v,n,w,λl j q hd=>E3 l j q (oh (av hd)) hd⟩ ?_
   simp only[o,Mm];split
   .rename_i m;have:=E m;omega
   .omega
 .refine eT ?_ U;rw[<-Sk B N (I o)];simp;omega
def GZ{r:O}(m:cX g r h)(C:RY h)(K:h.length<=1000000000):dt cg 64 [O.v r] g (NZ h):=by
 apply Bo;have Z:=m.len;refine⟨λs=>s=g/\nR h,⟨λq=>?_,λq=>⟨rfl,λc d=>?_⟩⟩,?_⟩
 .simp at q;rw[aQ V V];let⟨c,d⟩:=cG h (h.length -1);obtain⟨e,B,g1,_,_⟩:=m.aF d;have i:Int.toNat ((r.len:Int) -1)=h.length -1:=V;rw[i];refine⟨V,V,c.aP,g1,λj=>bV (λl=>l.jy c d (by simpa using j)) (J.az _),λj=>⟨rfl,λo hd=>?_⟩⟩;rw[d]at hd;simp at hd;subst hd;simpa using j
 .have:=av d;simp at q;omega
 rintro S ⟨rfl,R⟩;refine dU (n:=h.length) V (λi s=>J S s/\∀c∈h.take i,nZ h c) ⟨J.az _,aL⟩ ?_;rintro i m2 W μ l ⟨p,G⟩ T
 refine dit (λq=>?_) λq=>?_
 .let⟨c,d⟩:=cG h i;let⟨e,B,g1,g2,E⟩:=(cX.ext p m).aF d;refine⟨V,V,c.aP,by simpa using g1,c.j8,by simpa using g2,e,by simpa using E,(GX (cX.ext p m) B (C c (aq d))).then λb D u w=>⟨b,rfl,λj=>bV (λl=>nb u j (l.cells c (aq d))) (p.trans w),λj=>T V D ⟨p.trans w,bB d G (yb u j)⟩⟩⟩
 have A:=db V G;refine(Bd (cX.ext p m) A C K).mono ?_;rintro _ D ⟨U,rfl,I,w⟩;have Q:=I.len;rw[nV]at Q;refine⟨U,rfl,dU (n:=h.length) V (λi s=>J D s/\∀(a:Nat)(c:bM),a<i->h[a]? =some c->0<c.aP->eg h a<=c.aP) ⟨J.az _,λa c t=>absurd t (eW _)⟩ ?_⟩;rintro i L X ν Y ⟨x,H⟩ M;have v:=(p.trans w).trans x;refine dit (λj=>?_) λj=>?_
 .let⟨c,d⟩:=cG h i;let⟨e,B,g1,g2,E⟩:=(cX.ext v m).aF d;have gX:(0<c.aP->eg h i<=c.aP)->∀(a:Nat)(o:bM),a<i+1->h[a]? =some o->0<o.aP->eg h a<=o.aP:=λP a o t hd=>by
   rcases aW a i with F|F
   .exact H a o F hd
   .have:a=i:=V;subst this;rw[d]at hd;simp at hd;subst hd;exact P
  refine⟨V,V,c.aP,by simpa using g1,λy=>?_,λy=>M V L ⟨x,gX λz=>by simp at y;omega⟩⟩;have N:=(I.ext x).aF (k:=i) (uK (f:=eg h) (show i<h.length by omega));refine⟨V,V,c.aP,by simpa using g1,V,V,eg h i,by simpa using N,λz=>bV (λl=>?_) v,λz=>M V L ⟨x,gX λ_=>by simp at z;omega⟩⟩;have:=l.eg i c d (by simpa using y);simp at z;omega
 .refine(Gv (cX.ext v m) A C K).then λb y u o=>⟨b,rfl,eT ?_ (v.trans o)⟩;rw[u];exact⟨λt=>⟨R,A,λa c d r=>H a c (oh (av d)) d r,t⟩,λl=>l.Mp⟩
end
section
variable{m:E}{f:aX}
structure gD(m:E)(aT hp fr:O)(s:St):Prop where
 aT:ap m aT s.aT
 heap:cX m hp s.heap
 ao:jx m fr s.ao
def gD.ext{m d:E}{aT c b:O}{s:St}(h:gD m aT c b s)(a:J m d):gD d aT c b s:=⟨h.aT.ext a,cX.ext a h.heap,jx.ext a h.ao⟩
def RX(f:aX):Prop:=(∀w∈f.ak,Hm w)/\(∀w∈f.aR,Hm w)/\(∀w∈f.ba,Hm w)
structure zk(s:St):Prop where
 bu:Hm s.bu
 heap:RY s.heap
 ao:∀f∈s.ao,RX f
 lh:s.heap.length<=10000000
 lf:s.ao.length<=10000000
 lr:∀f∈s.ao,f.ak.length<=10000000/\f.aR.length<=10000000/\f.ba.length<=10000000
def MY(s:St)(aT b a:O):Value:=.agg #[vi s.cz,vi s.value,vi s.bu,vi s.dR,O.v aT,O.v b,O.v a]
def Eg{f:O}{l:List Int}(c:ap m f l):dt cg 63 [O.v f] m (∀a∈l,gK a):=by
 apply yE;have s:=c.len;have t:=c.gS;refine dU (n:=l.length) V (λk b=>J m b/\∀a∈l.take k,gK a) ⟨J.az _,aL⟩ ?_;rintro k u I μ r ⟨a,g⟩ q
 refine dit (λj=>?_) λj=>?_
 .let⟨w,d⟩:=cG l k;exact⟨V,V,w,by simpa using(c.ext a).aF d,(aY _ _ _ _).then λi p e h=>⟨i,rfl,λb=>bV (λo=>nb e b (o w (aq d))) (a.trans h),λb=>q V p ⟨a.trans h,bB d g (yb e b)⟩⟩⟩
 .exact iN (db V g) a
def Rh(h:List bM)(w o:Int):Prop:=(gK w\/1000<=w)/\(0<=o/\o<=999999)/\(0<o->fX h w)
def G8{x z o aa:O}{h:List bM}(hh:cX m x h)(C:ap m z f.ak)(R:ap m o f.aR)(ad:f.aR.length=f.ak.length)(ab:RX f)(Y A Z:Int):
 dt cg 120 [O.v x,.agg #[vi Y,vi A,vi Z,O.v z,O.v o,O.v aa]] m (Hs h f):=by
 apply Bt
 simp -zeta only[aC,aB]
 intro b
 have p:J m b:=(J.az m).aK _
 have s1:b.size=m.size+1:=by simp[b]
 clear_value b
 have v:∀A∈[m.size],A<b.size:=bE
 have ah:=C.len
 have ag:=R.len
 have ae:=C.gS
 refine dU (n:=f.ak.length) V (λk m'=>J b m'/\∀(j:Nat)(w o:Int),j<k->f.ak[j]? =some w->f.aR[j]? =some o->Rh h w o) ⟨J.az _,λj w o P=>absurd P (eW _)⟩ ?_
 rintro k U K μ Q ⟨I,S⟩ W
 refine dit (λh1=>?_) λh1=>?_
 .let⟨w,i⟩:=cG f.ak k
  let⟨r,B⟩:=cG f.aR k
  have gw:∀{M:E},J b M->af M z.D (z.off+Int.toNat (k:Int)*1)=some (vi w):=λD=>by simpa using(C.ext (p.trans D)).aF i
  have L:∀{M:E},J b M->af M o.D (o.off+Int.toNat (k:Int)*1)=some (vi r):=λD=>by simpa using(R.ext (p.trans D)).aF B
  have gX:Rh h w r->∀(j:Nat)(w o:Int),j<k+1->f.ak[j]? =some w->f.aR[j]? =some o->Rh h w o:=λa j w' G P y q=>by
   rcases aW j k with N|N
   .exact S j w' G N y q
   .have:j=k:=V;subst this;rw[i]at y;rw[B]at q;simp at y q;subst y;subst q;exact a
  have F:¬Rh h w r->¬Hs h f:=λa Q=>a (Q.dz k w r i B)
  have jM:∀{M:E},J b M->(gK w\/1000<=w)->(0:Int)<=(k:Int)/\(k:Int)<(o.len:Int)/\∃X:Int,af M o.D (o.off+Int.toNat (k:Int)*1)=some (vi X)/\
   aN cg 45 [vi X,vi (0:Int),vi (999999:Int)] M λac l=>eF [m.size] M l/\∃H:Bool,ac=vb H/\
   ((!H)=true->∃c:Bool,vb false=.bool c/\(c=true<->Hs h f)/\J m l)/\
   ((!H)=false->(0:Int)<=(k:Int)/\(k:Int)<(o.len:Int)/\∃g:Int,af l o.D (o.off+Int.toNat (k:Int)*1)=some (vi g)/\
   ((decide (g>(0:Int)))=true->aN cg 132 [O.v x,vi w] l λs d=>eF [m.size] l d/\∃e:Bool,s=vb e/\
    ((!e)=true->∃c:Bool,vb false=.bool c/\(c=true<->Hs h f)/\J m d)/\((!e)=false->K (cT ((k:Int)+(1:Int))) d/\μ (cT ((k:Int)+(1:Int))) d<μ k U))/\
   ((decide (g>(0:Int)))=false->K (cT ((k:Int)+(1:Int))) l/\μ (cT ((k:Int)+(1:Int))) l<μ k U)):=λ{M} xM hi=>by
   refine⟨V,V,r,L xM,(aY _ _ _ _).aH xM v λb3 m3 s x3 c=>⟨b3,rfl,λd=>bV (F λa=>nb s d a.2.1) (p.trans c),λd=>?_⟩⟩
   have T:=yb s d
   refine⟨V,V,r,L c,λe=>?_,λe=>W V _ ⟨c,gX ⟨hi,T,λx=>by simp at e;omega⟩⟩⟩
   refine(iW (cX.ext (p.trans c) hh) (ab.1 w (aq i))).aH c v λb4 m4 t x4 u=>⟨b4,rfl,λg=>bV (F λa=>nb t g (a.2.2 (by simpa using e))) (p.trans u),λg=>W V _ ⟨u,gX ⟨hi,T,λ_=>yb t g⟩⟩⟩
  refine⟨V,V,w,gw I,(aY _ _ _ _).aH I v λb3 m3 s x3 c=>⟨b3,rfl,λd=>?_,λd=>jM c (Or.inl (yb s d))⟩⟩
  refine(dV _ _).aH c v λb4 m4 t x4 u=>⟨b4,rfl,λe=>bV (F λa=>?_) (p.trans u),λe=>jM u (Or.inr (yb t e))⟩
  rcases a.1 with g|g
  .exact nb s d g
  .exact nb t e g
 .exact iN ⟨λj w G i q=>S j w G (oh (av i)) i q⟩ (p.trans I)
def EP{Q p aT c R:O}{l:cN}{s:St}(I:fw m Q p l)(i:gD m aT c R s)(ah:zk s){k:Nat}(H:s.ao[k]? =some f):
 dt cg 65 [.agg #[O.v Q,O.v p],MY s aT c R,vi k] m (Kj l s.heap (nv s.ao k) f):=by
 apply yY
 simp -zeta only[aC,aB]
 intro t b
 have x2:J m b:=((J.az m).aK _).aK _
 have s1:t.size=m.size+1:=by simp[t]
 have s2:b.size=m.size+2:=by simp[b,s1]
 clear_value b
 have au:=i.ao.len
 have ax:=i.ao.gS
 have az:=av H
 have aJ:=I.cF.len
 have aL:=I.cF.gS
 let⟨an,am,af,hr,Z,he,g0,g1,g2,g3,g4,g5⟩:=(i.ext x2).ao.aF H
 have ek:Int.toNat (k:Int)=k:=V
 rw[ek]
 refine⟨V,V,_,g0,_,g1,_,g2,an,g3,am,g4,af,g5,?_⟩
 intro m3 n
 have x4:J b n:=((J.az b).aK _).ah (ad _) _ _
 have s4:n.size=b.size+1:=by simp[n,m3,aw]
 clear_value n
 have hl:∀z∈[b.size,t.size,m.size],z<n.size:=bE
 have M:=x2.trans x4
 rw[aQ V V]
 refine(aY _ _ _ _).aH (J.az _) hl λb5 u T x _=>⟨b5,rfl,λA=>bV (λa=>nb T A ⟨a.fE.1,oh a.fE.2⟩) (M.trans x),λA=>?_⟩
 have aj:=yb T A
 have N:=M.trans x
 let⟨v,hq⟩:=cG l.cF f.fE.toNat
 have d:dN l f.fE=v:=by unfold dN;rw[hq];rfl
 let⟨pa,pl,pc,aG,aK,aa,k0,k1,k2,k3,k4⟩:=(I.ext N).cF.aF hq
 have aH:=aa.len
 have aI:=aa.gS
 refine⟨V,V,pa,k0,pl,k1,_,k2,_,k3,pc,k4,?_⟩
 intro m6 o
 have x7:J u o:=((J.az u).aK _).ah (ad _) _ _
 have s7:o.size=u.size+1:=by simp[o,m6,aw]
 have z5:=x.size
 clear_value o
 have K:∀z∈[u.size,b.size,t.size,m.size],z<o.size:=bE
 have P:=N.trans x7
 rw[aQ V V]
 refine(aY _ _ _ _).aH (J.az _) K λb8 m8 U y _=>⟨b8,rfl,λB=>bV (λa=>nb U B ⟨a.pc.1,by have:=a.pc.2;rw[d]at this;omega⟩) (P.trans y),λB=>?_⟩
 have ak:=yb U B
 have e:=P.trans y
 have aN:=hr.len
 have aA:=Z.len
 have ar:=he.len
 refine⟨λC=>bV (λa=>by have:=a.lr;rw[d]at this;simp at C;omega) e,λC=>?_⟩
 have q1:(f.ak.length:Int)=v.ak:=by simp at C;omega
 refine⟨λD=>bV (λa=>by have:=a.lo;rw[d]at this;simp at D;omega) e,λD=>?_⟩
 have q2:(f.aR.length:Int)=v.ak:=by simp at D;omega
 refine⟨λE=>bV (λa=>by have:=a.lh;rw[d]at this;simp at E;omega) e,λE=>?_⟩
 have q3:(f.ba.length:Int)=v.ak:=by simp at E;omega
 have ai:=ah.ao f (aq H)
 have ac:=((x4.trans x).trans x7).trans y
 refine(G8 (i.ext e).heap (hr.ext ac) (Z.ext ac) V ai _ _ _).aH y K λb9 m9 W x9 ao=>⟨b9,rfl,λF=>bV (λa=>nb W F a.ak) (e.trans x9),λF=>?_⟩
 have al:=yb W F
 have q:=e.trans x9
 have mk:(nv s.ao k=none->f.dst=0)->(∀p,nv s.ao k=some p->0<=f.dst/\f.dst<p.aR.length/\aF p.aR f.dst=0)->Kj l s.heap (nv s.ao k) f:=λha hb=>
  ⟨⟨aj.1,V⟩,⟨ak.1,by rw[d];omega⟩,by rw[d];exact q1,by rw[d];exact q2,by rw[d];exact q3,al,ha,hb⟩
 refine⟨λG=>eT ?_ q,λG=>?_⟩
 .have g:k=0:=by simp at G;omega
  subst g
  refine⟨λh=>mk (λ_=>by simpa using h) (λp c=>by simp[nv]at c),λa=>by simpa using a.first rfl⟩
 .have ay:k≠0:=by simp at G;omega
  obtain⟨j,rfl⟩:∃j,k=j+1:=⟨k -1,V⟩
  have ej:cT (((j+1:Nat):Int) -1)=(j:Int):=by rw[aQ V V];omega
  have ag:Int.toNat (j:Int)=j:=V
  rw[ej,ag]
  let⟨g,X⟩:=cG s.ao j
  have r:nv s.ao (j+1)=some g:=X
  obtain⟨r',o',e',aM,L,ap,_,_,_,_,y4,_⟩:=(i.ext q).ao.aF X
  have aD:=L.len
  have aE:=L.gS
  refine⟨V,V,o',y4,?_⟩
  rw[aQ V V]
  refine(aY _ _ _ _).aH ao K λae aO S w _=>⟨ae,rfl,λh=>?_,λh=>bV (λa=>?_) (q.trans w)⟩
  .have hd:=S.1 h
   let⟨ab,hv⟩:=cG g.aR f.dst.toNat
   have ev:aF g.aR f.dst=ab:=Hv hv
   refine⟨V,V,o',w.af y4,V,V,ab,(L.ext w).aF hv,eT ?_ (q.trans w)⟩
   refine⟨λh9=>mk (λY=>by rw[r]at Y;cases Y) (λp c=>by rw[r]at c;simp at c;subst c;exact⟨hd.1,V,by rw[ev];simpa using h9⟩),λa=>?_⟩
   have:=(a.next g r).2.2
   rw[ev]at this;simpa using this
  .have:=a.next g r
   exact fb S h ⟨this.1,V⟩
end
end Go.Proofs.YtkicoahejfbjhaaGreat
