/- Part of a proof, joined by a program. -/
import Derived.Test.YtgnjacfobdjeeaaGreatP11
import Derived.Test.YtgnjacfobdjeeaaGreatP13
import Derived.Test.YtgnjacfobdjeeaaGreatP15
import Derived.Test.YtgnjacfobdjeeaaGreatP16
import Derived.Test.YtgnjacfobdjeeaaGreatP17
set_option linter.unusedVariables false
set_option linter.unusedSimpArgs false
set_option linter.defProp false
set_option linter.constructorNameAsVariable false
set_option maxHeartbeats 8000000
set_option maxRecDepth 100000
namespace Go.Proofs.YtgnjacfobdjeeaaGreat
open Go.Vc
section
variable{w:Int}
def JG:∀(b:List Int)(g:List bQ),(∀v∈b,fQ g v)->∀x,fQ g x->fQ (il g b) x
 |[],g,_,x,c=>c
 |v::b,g,d,x,c=>by
  have e:=d v aX;have up:∀y,fQ g y->fQ (lW g v) y:=λy a=>⟨a.1,(eH.lW e _).2 a.2⟩;exact JG b (lW g v) (λy a=>up y (d y (ai _ a))) x (up x c)
def QL{h:List bQ}(c:fQ h w)(d:(aG h w).aS≠1){x:Int}(a:fQ h x):fQ (eQ h w) x:=by
 obtain⟨b,f⟩:=bY c;refine⟨a.1,?_⟩;by_cases e:ix x=ix w
 ·rw[e];unfold eQ;rw[eH.Bf b];simp only[];omega
 ·exact(eH.ne e).2 a.2
section
variable{t:J}{e:Nat->Nat}{m:J}{j:Nat}{d p bd b g:O}{c:Int}{s:St}{q:List aW}{a:aW}{r v h:O}{u:List (List Ce)}
open Classical in
noncomputable def qR (g:List bQ) (w:Int) (dO:Bool):List bQ:=
 if(aG g w).aS=1/\dO=true then g.set (ix w) ⟨-1,0,cZ (aG g w).aR.length⟩else apart g w
def Cp(S:ST t e m j ba (IB d p c s bd b g) bd b g s.bd s.heap q a r v h u)(ac:fQ s.heap w)(dO:Bool){aA:Nat->Int}(P:ft s.heap aA)(aZ:s.heap.length<=1000000000):
 aL cp 108 [vp j 0,vi w,vb dO] m λx B=>∃H:Bool,x=vb H/\(H=true<->(aG s.heap w).aS=1/\dO=true)/\∃ay au,ST t ay B j ba (IB d p c s bd au g) bd au g s.bd (qR s.heap w dO) q a r v h u/\To e m ay B:=by
 apply ui (j,0)
 simp -zeta only[aC,aB]
 obtain⟨D,a7⟩:=bY ac
 have K:=aD D
 have a2:=S.cH.heap.len
 have a1:=ac.1
 have aO:ix w=(w -1000).toNat:=rfl
 have e4:cR (w -1000)=w -1000:=aP V V
 have ai:=P.cell _ (av D)
 have a4:=ai.hi
 have aX:=ai.fl
 have g8:af m j 8=some (O.v b):=S.cH.box.bV 8
 obtain⟨f0,Z,g1,g2,gf,gr⟩:=S.cH.heap.bV D
 have aY:=gf.len
 rw[e4,<-aO]
 refine⟨b,g8,V,V,λB=>B=m/\¬((aG s.heap w).aS=1/\dO=true),⟨_,Z,λz=>⟨λA=>?_,λA=>⟨rfl,λy=>by rw[A]at y;simp at y⟩⟩,λz=>⟨rfl,λy=>by simp at z;exact z y.1⟩⟩,?_⟩
 ·simp at z
  have X:Int.toNat (f0.len:Int)=(aG s.heap w).aR.length:=V
  refine⟨f0,g2,V,cC _,V,V,?_⟩
  rw[X]
  intro C
  have J:N m C:=(N.az m).aN _
  have L:ij m C aI 1 (.mk m.size 0 (aG s.heap w).aR.length (aG s.heap w).aR.length) ((cZ (aG s.heap w).aR.length).map Ce.i):=by
   have Y:C=m.push (.cells (bC ((cZ (aG s.heap w).aR.length).map Ce.i)) aI):=by rw[<-xe]
   rw[Y];exact LV _
  obtain⟨E,t1⟩:=S.ext J
  clear_value C
  refine⟨E.cH.heap.wr (o:=0) K bh,?_⟩
  intro m2
  obtain⟨G,F⟩:=E.cH.heap.setCell E.cH.new K (-1) 0 (aq.gQ L (by rw[jE];omega)) (Qx.of S.cH.heap (λy=>J.same _ (S.cH.heap.E y).2) (λ_=>L) (λ_=>S.cH.new _ (ad _)) S.cH.ct.size)
  obtain⟨I,t2⟩:=E.fS (F.mono λy A=>Or.inl A) G
  refine⟨true,rfl,by simp[z,A],e,b,?_,t1.trans t2⟩
  rw[qR,an ⟨z,A⟩];exact I
 ·rintro C ⟨rfl,ar⟩
  have am:(false=true<->(aG s.heap w).aS=1/\dO=true):=⟨λh=>by simp at h,λh=>absurd h ar⟩
  rw[show qR s.heap w dO=apart s.heap w by rw[qR,ae ar]]
  refine⟨_,Z,λz=>?_,λz=>?_⟩
  ·simp at z
   refine⟨S.cH.heap.wr (o:=0) K bh,?_⟩
   intro m2
   obtain⟨G,F⟩:=S.cH.heap.setCell S.cH.new K 0 0 (f:=.nil) (b:=[]) ⟨rfl,aJ,aJ,aJ⟩ (λU=>absurd rfl U)
   obtain⟨I,t2⟩:=S.fS (F.mono λy A=>Or.inl A) G
   refine⟨b,I.cH.box.bV 8,?_⟩
   intro m3 m4
   obtain⟨E,R,kb⟩:=I.My
   refine(tO E.cH.heap E.cH.new kb (gX _ _ _) bR).mono ?_
   rintro _ m5 ⟨ab,Q,M⟩
   obtain⟨J,T⟩:=E.fS M ab
   refine⟨_,Q.bV 0,J.cH.lP (i:=8) aJ,?_⟩
   intro m6
   obtain⟨L,W⟩:=J.iJ 8 [.s (b.cut 0 (iA (s.heap.set (ix w) ⟨0,0,[]⟩) (s.heap.set (ix w) ⟨0,0,[]⟩).length) 3)]
   refine⟨false,rfl,am,_,b.cut 0 (iA (s.heap.set (ix w) ⟨0,0,[]⟩) (s.heap.set (ix w) ⟨0,0,[]⟩).length) 3,?_,((t2.trans R).trans T).trans W⟩
   rw[apart,an z];exact L
  ·simp only[ak]at z
   have X:cR ((aG s.heap w).aS -1)=(aG s.heap w).aS -1:=aP V V
   refine⟨_,Z,S.cH.heap.wr (o:=0) K bh,?_⟩
   rw[X]
   intro m2
   obtain⟨G,F⟩:=S.cH.heap.sN S.cH.new D ((aG s.heap w).aS -1)
   obtain⟨f1,k0,k1,k2,kf,kr⟩:=G.bV (dY D)
   simp only[]at kf kr
   have a0:=kf.len
   refine⟨f1,k2,?_⟩
   have al:∀{B},eC (λy=>y=3) e C e B->af B j 8=some (O.v b):=λhc=>by rw[aM (hc.dO _ S.cH.box.lt (by rw[S.cH.LI];decide))];exact g8
   have ap:∀x∈(aG s.heap w).aR,1000<=x->fQ (eQ s.heap w) x:=λx E b=>QL ac z (P.field (av D) E b)
   have aN:∀W∈eQ s.heap w,-10<=W.aS/\W.aS<=999999:=λW hq=>by
    rcases nA hq with rfl|⟨H,_,Q⟩
    ·simp only[];omega
    ·have:=P.cell W (av Q);have h5:=this.lo;have h6:=this.hi;omega
   have aV:eC (λy=>y=3) e C e m2:=F
   refine fB (n:=(aG s.heap w).aR.length) V (λy B=>dH t.size e B b (il (eQ s.heap w) (j7 ((aG s.heap w).aR.take y)))/\eC (λy=>y=3) e C e B/\aq B f1 (aG s.heap w).aR) ⟨G,F,kf⟩ ?_
   rintro y m3 aU μ A ⟨T,I,aw⟩ ax
   refine dit (λh5=>?_) λh5=>?_
   ·obtain⟨x,E⟩:=ag (l:=(aG s.heap w).aR) (k:=y) V
    have aT:x<=9223372036854775807:=by
     rcases dt (1000<=x)with h6|h6
     ·have:=aD (bY (P.field (av D) (av E) h6)).1;unfold ix at this;omega
     ·omega
    have aS:(il (eQ s.heap w) (j7 ((aG s.heap w).aR.take y))).length=s.heap.length:=by rw[vu];simp[eQ]
    have aQ:1000<=x->fQ (il (eQ s.heap w) (j7 ((aG s.heap w).aR.take y))) x:=λb=>JG _ _ (λL J=>ap L (jL (jT.1 J).1) (jT.1 J).2) x (ap x (av E) b)
    refine⟨V,V,x,by simpa using aw.D E,b,al I,(kM (T.cells (by rw[aS];omega)) aT).mono ?_⟩
    rintro _ m4 ⟨az,H,rfl,Q,aH,aa⟩
    have L:eC (λy=>y=3) e C e m4:=I.trans (eC.fP _ aa I.new)
    have J:=T.gC (eC.fP (λ_=>False) aa I.new) id id
    have ah:=aw.ext aa
    refine⟨az,H,rfl,λaj=>?_,λaK=>ax V _ ⟨?_,L,ah⟩⟩
    ·have ao:=Q.1 aj
     have aF:=aH aj
     subst aF
     obtain⟨R,a5⟩:=bY ao
     have aR:=aD R
     have a3:=J.len
     obtain⟨f4,j0,_⟩:=J.bV R
     have aW:=zh _ _ 999999 aN _ (av R)
     have a6:=nD ((aG s.heap w).aR.take y)
     have a8:((aG s.heap w).aR.take y).length<=3:=bR
     have Y:cR ((aG (il (eQ s.heap w) (j7 ((aG s.heap w).aR.take y))) x).aS+1)=(aG (il (eQ s.heap w) (j7 ((aG s.heap w).aR.take y))) x).aS+1:=aP V V
     have aE:Int.toNat ((ix x:Nat):Int)=ix x:=V
     refine⟨b,al L,?_⟩
     rw[aE]
     refine⟨V,V,_,j0,V,V,J.wr (o:=0) aR bh,?_⟩
     rw[Y]
     obtain⟨ab,M⟩:=J.sN L.new R ((aG (il (eQ s.heap w) (j7 ((aG s.heap w).aR.take y))) x).aS+1)
     refine ax V _ ⟨?_,L.trans M,gR ah λU=>M.dO _ (iB ah U) (by rw[(kr U).1];decide)⟩
     have:j7 [x]=[x]:=by simp[j7,ao.1]
     rw[bn E,oA,this,C0]
     exact ab
    ·have M:¬1000<=x:=λb=>fb Q aK (aQ b)
     have:j7 [x]=[]:=by simp[j7];omega
     rw[bn E,oA,this,dD];exact J
   ·rw[cN V]at T
    obtain⟨J,t3⟩:=S.fS (I.mono λy A=>Or.inl A) T
    refine⟨false,rfl,am,e,b,?_,t3⟩
    rw[apart,ae z];exact J
def HU(Z:ST t e m j ba (IB d p c s bd b g) bd b g s.bd s.heap q a r v h u){f:Instr}{aa am:O}(ha:aq t aa f.args)(ak:∀z∈f.args,0<=z/\z<a.ao.length)(ap:f.args.length<=4)(av:f.op=0\/f.op=1\/f.op=2\/f.op=3\/f.op=4\/f.op=5)(h5:f.op=5->f.args.length=1)(h2:f.op≠0->f.op≠5->f.args.length=2)(ac:f.op≠0->∀z∈f.args,jm (D a.ao z))
 (ar:a.ao.length=a.aQ.length/\a.br.length=a.aQ.length/\a.aQ.length<=2000)(hd:0<=f.dst/\f.dst<a.aQ.length)(aw:s.bd.length<=1000000000):
 aL cp 97 [vp j 0,vp g.E (g.off+q.length*6),xv f aa am] m λ_ w=>AX t e m j d p c (if f.op=0 then{s with aA:=q++[a.put f.dst f.bL 0]}else if f.op=5 then{s with bd:=s.bd++[D a.ao (D f.args 0)],aA:=q++[a.put f.dst (D a.ao (D f.args 0)) 0]}else{s with aA:=q++[a.put f.dst (MN f.op (D a.ao (D f.args 0)) (D a.ao (D f.args 1))) 0]}) w:=by
 apply sF (j,0) (g.E,g.off+q.length*6)
 simp -zeta only[aC,aB]
 intro y
 have al:N m y:=(N.az m).aN _
 have s1:y.size=m.size+1:=by simp[y]
 obtain⟨K,t1⟩:=Z.ext al
 have U:yB e y [m.size]:=λab C=>by simp at C;subst C;exact⟨V,Z.cH.new _ (ad _)⟩
 clear_value y
 have Y:=K.fp ⟨V,V,V⟩
 refine(um Y.g3 Y.ao (ha.ext K.cH.ct) ak V).mono ?_
 rintro _ l ⟨ws,rfl,ow,aj⟩
 obtain⟨A,t2⟩:=K.ext aj
 have I:=U.to t2
 have ax:(cy a f.args).length=f.args.length:=by simp[cy]
 have E:aq l ws (cy a f.args):=aq.gQ ow V
 have ay:=E.len
 have ai:=t1.trans t2
 have T:∀{F:Nat},F<f.args.length->(cy a f.args)[F]? =some (D a.ao (D f.args F)):=λ{F} hk=>by
  obtain⟨z,hy⟩:=ag hk;simp[cy,hy,Wc hy]
 have ah:∀{M:J}(hx:N l M)(H:Int),aL cp 98 [vp g.E (g.off+q.length*6),vi f.dst,vi H,vi 0] M λ_ w=>dR [m.size] M w/\AX t e m j d p c {s with aA:=q++[a.put f.dst H 0]} w:=λhx H=>by
  obtain⟨SM,tM⟩:=A.ext hx;refine(qC SM hd.1 V hd.2 H 0).mono ?_;rintro _ w ⟨S',t'⟩;exact⟨t'.dB (I.to tM),e,bd,b,g,S'.cH,(ai.trans tM).trans t'⟩
 refine⟨t2.dB U,ws,rfl,λo=>?_,λn=>⟨λo=>?_,λP=>?_⟩⟩
 ·simp at o;rw[an o];exact ah (N.az _) _
 ·simp at n o
  rw[ae n,an o]
  have h1:=h5 o
  have au:(O.len bd)=s.bd.length:=by have:=A.cH.bd.len;simp at this;omega
  refine⟨V,V,_,E.D (k:=0) (T V),bd,A.cH.box.bV 7,?_⟩
  intro G
  have B:N l G:=(N.az l).aN _
  have jk:fZ G l.size 0 [.i (D a.ao (D f.args ((0:Nat):Int)))]:=(cx.push l _ _).iv
  obtain⟨L,t3⟩:=A.ext B
  have W:=I.to t3
  clear_value G
  refine iD.append (c:=[.i 0]) (x:=.mk l.size 0 1 1) (d:=[.i (D a.ao (D f.args 0))]) L.cH.bd L.cH.new rfl jk (by simp only[O.jt];omega) λaf Q m4 q1 q2=>?_
  have ao:iD af m4 aI 1 2 Q ((s.bd++[D a.ao (D f.args 0)]).map Ce.i):=by simpa using q1
  obtain⟨S4,R⟩:=L.J0 q2 ao
  have X:=W.to R
  refine⟨R.dB W,S4.cH.lP (i:=7) aJ,?_⟩
  intro m5
  obtain⟨S5,S⟩:=S4.iJ 7 [.s Q]
  have B5:=X.to S
  refine⟨S.dB X,(qC S5 hd.1 V hd.2 (D a.ao (D f.args 0)) 0).mono ?_⟩
  rintro _ m6 ⟨S6,t6⟩
  exact⟨t6.dB B5,af,Q,b,g,S6.cH,(((ai.trans t3).trans R).trans S).trans t6⟩
 ·simp at n P
  rw[ae n,ae P]
  have h1:=h2 n P
  refine⟨V,V,_,E.D (k:=0) (T V),V,V,_,E.D (k:=1) (T V),?_⟩
  refine(MA (ac n _ (eR V V)) (ac n _ (eR V V)) l).mono ?_
  rintro _ G ⟨rfl,B⟩
  exact⟨B.dv (λab C=>(I ab C).1),_,rfl,ah B _⟩
end
end
section
variable{b1 b2 b3 b t:Nat}{j:cq}{g:Int}{q:dk}{a:J}{e:List Int}
section
variable{A:J}{y:Nat->Nat}{x:J}{z:Nat}{d p bd B v:O}{c:Int}{s:St}{u:List aW}{f:aW}{r o h:O}{C:List (List Ce)}
def MB(S:ST A y x z ba (IB d p c s bd B v) bd B v s.bd s.heap u f r o h C){b:Instr}{t aF:O}(T:aq A t b.args)(ai:∀e∈b.args,0<=e/\e<f.ao.length)(au:1<=b.args.length/\b.args.length<=4)
 (aO:f.ao.length=f.aQ.length/\f.br.length=f.aQ.length/\f.aQ.length<=2000)(az:s.heap.length<=1000000000)(al:∀q∈f.aQ,0<=q/\q<=999999)
 (aD:fQ s.heap (D f.ao (D b.args 0))){ap:Nat->Int}(hI:ft s.heap ap){W:Int}(am:f.pc=W+1):
 aL cp 103 [vp z 0,vp v.E (v.off+u.length*6),xv b t aF] x λ_ a=>AX A y x z d p c (sJ s u {f with pc:=W} b) a:=by
 apply vh (z,0) (v.E,v.off+u.length*6)
 simp -zeta only[aC,aB]
 intro P
 have aE:N x P:=(N.az x).aN _
 have s1:P.size=x.size+1:=by simp[P]
 obtain⟨R,t1⟩:=S.ext aE
 have B1:yB y P [x.size]:=λah J=>by simp at J;subst J;exact⟨V,S.cH.new _ (ad _)⟩
 clear_value P
 have aS:r.len=f.ao.length:=by have:=S.fI.ao.len;simp at this;omega
 have aR:o.len=f.aQ.length:=by have:=S.fI.aQ.len;simp at this;omega
 have aN:h.len=f.br.length:=by have:=S.fI.br.len;simp at this;omega
 have aI:=T.len
 have aH:=T.cap
 have I:0<=D b.args 0/\D b.args 0<f.ao.length:=ai _ (eR V V)
 have ga:∀{a},N A a->af a t.E (t.off+Int.toNat (0:Int)*1)=some (vi (D b.args 0)):=λhx=>(T.ext hx).pD V V
 obtain⟨_,_,_,g3,_,_⟩:=R.fI.iv
 generalize hw:D f.ao (D b.args 0)=w at*
 refine⟨r,g3,V,V,_,ga R.cH.ct,I.1,V,w,by rw[<-hw];exact(R.zk V).pD I.1 I.2,(Cp R aD (b.op==17) hI az).mono ?_⟩
 rintro _ m2 ⟨ah,rfl,J,F,K,M,t2⟩
 have X:=B1.to t2
 have ar:(b.op==17)=true<->b.op=17:=aJ
 rw[ar]at J
 have e1:Int.toNat (1:Int)=1:=rfl
 have e2:Int.toNat (t.len:Int)=t.len:=V
 have aa:∀{a},N A a->aq a (O.cut t 1 t.len 1) (b.args.drop 1):=λhx=>Te (T.ext hx) au.1
 have aK:(O.cut t 1 t.len 1).len=b.args.length -1:=by have:=(aa (N.az A)).len;simp at this;omega
 have aM:(b.args.drop 1).length=b.args.length -1:=aJ
 have aj:∀e∈b.args.drop 1,0<=e/\e<f.ao.length:=λe E=>ai e (vY E)
 rw[e1,e2]
 refine⟨t2.dB B1,ah,rfl,λay=>?_,λax=>?_⟩
 ·obtain⟨_,_,_,_,_,g5⟩:=M.fI.iv
  have U:=J.1 ay
  refine⟨h,g5,V,V,_,ga M.cH.ct,I.1,V,M.fI.br.OR I.1 V,?_⟩
  intro m3
  obtain⟨S3,t3⟩:=M.AP I.1 V w
  have B3:=X.to t3
  refine⟨t3.dB X,V,V,V,?_⟩
  refine fB (n:=(b.args.drop 1).length) V (λg a=>ST A F a z ba (IB d p c s bd K v) bd K v s.bd (qR s.heap w (b.op==17)) u {f with br:=gF f.br (D b.args 0) w,aQ:=dw f.aQ ((b.args.drop 1).take g)} r o h C/\To y x F a/\yB F a [x.size]) ⟨by rw[List.take_zero];exact S3,(t1.trans t2).trans t3,B3⟩ ?_
  rintro g m4 ao μ hk ⟨j,Q,L⟩ ac
  have ab:∀q∈dw f.aQ ((b.args.drop 1).take g),0<=q/\q<=1000010:=λq hq=>by
   have:=qb _ f.aQ 999999 V al q hq;have h3:((b.args.drop 1).take g).length<=4:=bR;omega
  refine dit (λh1=>?_) λh1=>?_
  ·obtain⟨e,E⟩:=ag (l:=b.args.drop 1) (k:=g) V
   have m:=aj e (av E)
   have G:e<(dw f.aQ ((b.args.drop 1).take g)).length:=by rw[lj];omega
   have aw:=Ec (i:=e) ab V
   have Z:cR (D (dw f.aQ ((b.args.drop 1).take g)) e+1)=D (dw f.aQ ((b.args.drop 1).take g)) e+1:=aP V V
   obtain⟨_,_,_,_,g4,_⟩:=j.fI.iv
   refine⟨V,V,e,by simpa using(aa j.cH.ct).D E,o,g4,m.1,V,_,(j.Hz (by simp only[lj];omega)).pD m.1 G,m.1,V,j.fI.aQ.OR m.1 G,?_⟩
   rw[Z]
   intro m5
   obtain⟨Y,H⟩:=j.ph m.1 G (D (dw f.aQ ((b.args.drop 1).take g)) e+1)
   refine⟨H.dB L,ac V _ ⟨?_,Q.trans H,L.to H⟩⟩
   rw[bn E,rH];exact Y
  ·rw[cN V]at j
   refine⟨F,bd,K,v,?_,Q⟩
   have:sJ s u {f with pc:=W} b={s with heap:=qR s.heap w (b.op==17),aA:=u++[{f with br:=gF f.br (D b.args 0) w,aQ:=dw f.aQ (b.args.drop 1)}]}:=by
    unfold sJ;simp only[];rw[hw,an U,qR,an (by simpa using U),am]
   rw[this];exact j.cH
 ·have ak:¬((aG s.heap w).aS=1/\b.op=17):=λU=>by have:=J.2 U;rw[ax]at this;simp at this
  refine⟨V,V,V,?_⟩
  refine fB (n:=(b.args.drop 1).length) V (λg a=>ST A F a z ba (IB d p c s bd K v) bd K v s.bd (qR s.heap w (b.op==17)) u {f with aQ:=dw f.aQ ((b.args.drop 1).take g)} r o h C/\To y x F a/\yB F a [x.size]) ⟨by simpa[dw]using M,t1.trans t2,X⟩ ?_
  rintro g m4 ao μ hk ⟨j,Q,L⟩ ac
  have ab:∀q∈dw f.aQ ((b.args.drop 1).take g),0<=q/\q<=1000010:=λq hq=>by
   have:=qb _ f.aQ 999999 V al q hq;have h3:((b.args.drop 1).take g).length<=4:=bR;omega
  refine dit (λh1=>?_) λh1=>?_
  ·obtain⟨e,E⟩:=ag (l:=b.args.drop 1) (k:=g) V
   have m:=aj e (av E)
   have G:e<(dw f.aQ ((b.args.drop 1).take g)).length:=by rw[lj];omega
   have aw:=Ec (i:=e) ab V
   have Z:cR (D (dw f.aQ ((b.args.drop 1).take g)) e+1)=D (dw f.aQ ((b.args.drop 1).take g)) e+1:=aP V V
   obtain⟨_,_,_,_,g4,_⟩:=j.fI.iv
   refine⟨V,V,e,by simpa using(aa j.cH.ct).D E,o,g4,m.1,V,_,(j.Hz (by simp only[lj];omega)).pD m.1 G,m.1,V,j.fI.aQ.OR m.1 G,?_⟩
   rw[Z]
   intro m5
   obtain⟨Y,H⟩:=j.ph m.1 G (D (dw f.aQ ((b.args.drop 1).take g)) e+1)
   refine⟨H.dB L,ac V _ ⟨?_,Q.trans H,L.to H⟩⟩
   rw[bn E,rH];exact Y
  ·rw[cN V]at j
   refine⟨F,bd,K,v,?_,Q⟩
   have:sJ s u {f with pc:=W} b={s with heap:=qR s.heap w (b.op==17),aA:=u++[{f with aQ:=dw f.aQ (b.args.drop 1)}]}:=by
    unfold sJ;simp only[];rw[hw,ae ak,qR,ae (by simpa using ak),am]
   rw[this];exact j.cH
def oJ.none{y:Nat->Nat}{x:J}:oJ y x .nil []:=⟨[],iD.gQ (ij.nil x x _ _) (λa=>absurd rfl a),rfl,aJ,aJ⟩
def FT(S:ST A y x z ba (IB d p c s bd B v) bd B v s.bd s.heap u f r o h C)(ad:u.length<=100000)(w:Int)(U:∀g,u.getLast?=some g->0<=f.dst/\f.dst<g.ao.length/\f.dst<g.aQ.length):
 aL cp 109 [vp z 0,vi w] x λ_ a=>AX A y x z d p c (match u.getLast? with|none=>{s with bW:=0,value:=w,aA:=[]}|some g=>{s with aA:=u.dropLast++[g.put f.dst w (fV w)]}) a:=by
 apply rL (z,0)
 simp -zeta only[aC,aB]
 have G:=S.fI.uX
 have aa:=S.fI.p7.le
 have q:cR ((v.len:Int) -1)=(u.length:Int):=by rw[aP V V];omega
 have L:Int.toNat (u.length:Int)=u.length:=V
 have t:af x z 9=some (O.v v):=S.cH.box.bV 9
 obtain⟨_,_,g2,_,_,_⟩:=S.fI.iv
 refine⟨v,t,v,t,?_⟩
 rw[q,L]
 refine⟨V,V,f.dst,g2,v,t,V,V,V,S.cH.lP (i:=9) aJ,?_⟩
 intro H
 obtain⟨n,t2⟩:=S.cH.iJ 9 [.s (v.cut 0 u.length 6)]
 obtain⟨b,_⟩:=n.jb (eC.az _ n.new) (n.aA.Vx)
 have ab:(v.cut 0 u.length 6).len=u.length:=by
  cases v with
  |nil=>simp at G
  |A2 j I k=>simp at G
  |mk j I e c=>simp[O.cut]
 have e3:Int.toNat (0:Int)=0:=rfl
 refine⟨λD=>?_,λD=>?_⟩
 ·have J:u=[]:=by simpa using D
  subst J
  refine⟨b.lP (i:=3) (by simp[jV]),?_⟩
  intro X
  obtain⟨j,t3⟩:=b.iJ 3 [.i 0]
  refine⟨j.lP (i:=4) (by simp[jV]),?_⟩
  intro Y
  obtain⟨k,E⟩:=j.iJ 4 [.i w]
  refine⟨k.lP (i:=9) (by simp[jV]),?_⟩
  intro K
  obtain⟨l,M⟩:=k.iJ 9 [.s .nil]
  obtain⟨F,_⟩:=l.jb (eC.az _ l.new) (oJ.none (y:=y) (x:=K))
  exact⟨y,bd,B,.nil,F,((t2.trans t3).trans E).trans M⟩
 ·have l:u≠[]:=by simpa using D
  have ae:u.length≠0:=λq=>l (List.length_eq_zero_iff.1 q)
  obtain⟨g,j⟩:∃g,u.getLast?=some g:=⟨_,eP l⟩
  obtain⟨P,Q,R⟩:=U g j
  rw[j]
  simp only[]
  have W:u=u.dropLast++[g]:=by
   rw[eP l]at j;simp at j;rw[<-j];exact(eU l).symm
  have k:rl A y H z ba (IB d p c s bd B (v.cut 0 u.length 6)) bd B (v.cut 0 u.length 6) s.bd s.heap (u.dropLast++[g]):=
   ⟨b.ct,b.iY,b.new,b.box,b.LI,b.bd,b.heap,by rw[<-W];exact b.aA⟩
  obtain⟨r',I,h',Z,T⟩:=k.aA.fI
  have ac:u.dropLast.length=u.length -1:=aJ
  have M:cR ((u.length:Int) -1)=((u.length -1:Nat):Int):=by rw[aP V V];omega
  have N:Int.toNat ((u.length -1:Nat):Int)=u.dropLast.length:=V
  refine⟨v.cut 0 u.length 6,k.box.bV 9,?_⟩
  rw[M,N]
  refine⟨V,V,(mD w H).mono ?_⟩
  rintro _ X ⟨rfl,F⟩
  obtain⟨J,t3⟩:=(ST.mk k T).ext F
  refine⟨_,rfl,F.bZ (k.box.bV 9),(qC J P Q R w (fV w)).mono ?_⟩
  rintro _ Y ⟨K,E⟩
  exact⟨y,bd,B,_,K.cH,(t2.trans t3).trans E⟩
end
def WJ{m M:J}(j:N m M){nb:Nat}(o:m.size<=nb)(t:nb<M.size)(b:Nat)(i:List Ce)
 (c:(b1=M.size\/b1=M.size+1\/b1=M.size+2)/\(b2=M.size\/b2=M.size+1\/b2=M.size+2)/\(b3=M.size\/b3=M.size+1\/b3=M.size+2)/\b1≠b2/\b1≠b3/\b2≠b3):
 oE m (ah (((M.push (.cells (bC (nj [.i (0:Int)] b)) 3)).push (.cells (bC (nj [.i (0:Int)] b)) 3)).push (.cells (bC (nj [.i (0:Int)] b)) 3)) nb 0 i) b1 b2 b3 b (cZ b) (cZ b) (cZ b):=by
 rw[xe]
 generalize d:M.push (.cells (bC ((cZ b).map Ce.i)) 3)=m2
 generalize e:m2.push (.cells (bC ((cZ b).map Ce.i)) 3)=m3
 generalize f:m3.push (.cells (bC ((cZ b).map Ce.i)) 3)=m4
 have k:m2.size=M.size+1:=by simp[<-d]
 have l:m3.size=M.size+2:=by simp[<-e,k]
 have u:m4.size=M.size+3:=by simp[<-f,l]
 have s:N M m2:=d▸N.push _ _
 have n:N m2 m3:=e▸N.push _ _
 have h:N m3 m4:=f▸N.push _ _
 have p:cx m4 M.size aI ((cZ b).map Ce.i):=((d▸cx.push M _ _:cx m2 M.size aI ((cZ b).map Ce.i)).ext n).ext h
 have q:cx m4 m2.size aI ((cZ b).map Ce.i):=(e▸cx.push m2 _ _:cx m3 m2.size aI ((cZ b).map Ce.i)).ext h
 have r:cx m4 m3.size aI ((cZ b).map Ce.i):=f▸cx.push m3 _ _
 have g:∀a,(a=M.size\/a=M.size+1\/a=M.size+2)->cx (ah m4 nb 0 i) a aI ((cZ b).map Ce.i):=λa c=>by
  have:cx m4 a aI ((cZ b).map Ce.i):=by
   rcases c with rfl|rfl|rfl
   ·exact p
   ·rw[<-k];exact q
   ·rw[<-l];exact r
  exact this.congr (bt _ _ _ _ V)
 exact⟨(j.trans ((s.trans n).trans h)).ah o _ _,by have:=j.size;rw[ay];omega,g _ c.1,g _ c.2.1,g _ c.2.2.1,by simp[jE]⟩
def vm{m:J}{d p:O}(f:eV m d p j)(o:0<=g)(h:j.cB[g.toNat]? =some q)(b:0<=q.ao/\q.ao<=2000)(e:Int):
 aL cp 51 [.agg #[O.v d,O.v p],vi g,vi e] m λv a=>∃b1 b2 b3,v=.agg #[vi g,vi 0,vi e,O.v (.mk b1 0 q.ao.toNat q.ao.toNat),O.v (.mk b2 0 q.ao.toNat q.ao.toNat),O.v (.mk b3 0 q.ao.toNat q.ao.toNat)]/\
  oE m a b1 b2 b3 q.ao.toNat (cZ q.ao.toNat) (cZ q.ao.toNat) (cZ q.ao.toNat):=by
 apply Be
 simp -zeta only[aC,aB]
 intro k c
 have i:N m c:=((N.az m).aN _).aN _
 have s:k.size=m.size+1:=by simp[k]
 have C:c.size=m.size+2:=by simp[c,s]
 have y:=f.cB.len
 have x:=aD h
 clear_value c
 obtain⟨u,z,w,_,_,_,_,_,_,r,_⟩:=(f.ext i).cB.D h
 refine⟨o,V,q.ao,r,⟨b.1,cC _,V,V,?_⟩,⟨b.1,cC _,V,V,?_⟩,⟨b.1,cC _,V,V,?_⟩⟩
 all_goals
  intro l
  refine⟨⟨b.1,cC _,V,V,?_⟩,⟨b.1,cC _,V,V,?_⟩⟩
  all_goals
   intro n
   refine⟨b.1,cC _,V,V,?_⟩
   intro A B
   have t:l.size=c.size+1:=by simp[l]
   have D:n.size=c.size+2:=by simp[n,t]
   exact⟨_,_,_,rfl,WJ i V V q.ao.toNat _ V⟩
def oE.C2{d:J}{ao aQ br:List Int}(N:oE d a b1 b2 b3 b ao aQ br)(e:t<b)(v:Int):dZ a b1 t 1/\oE d (ah a b1 t [.i v]) b1 b2 b3 b (ao.set t v) aQ br:=by
 have c:=N.lo;refine⟨N.kr.dZ (by simp[N.len.1];omega),N.ext.ah c.1 _ _,by rw[ay];exact c,?_,N.ko.congr (bt _ _ _ _ V),N.kh.congr (bt _ _ _ _ V),by simp[N.len]⟩;have:=cx.ah (m:=a) (o:=t) (r:=[.i v]) N.kr;rw[EI]at this;exact this
def oE.ph{d:J}{ao aQ br:List Int}(N:oE d a b1 b2 b3 b ao aQ br)(e:t<b)(v:Int):dZ a b2 t 1/\oE d (ah a b2 t [.i v]) b1 b2 b3 b ao (aQ.set t v) br:=by
 have c:=N.lo;refine⟨N.ko.dZ (by simp[N.len.2.1];omega),N.ext.ah c.2.1 _ _,by rw[ay];exact c,N.kr.congr (bt _ _ _ _ V),?_,N.kh.congr (bt _ _ _ _ V),by simp[N.len]⟩;have:=cx.ah (m:=a) (o:=t) (r:=[.i v]) N.ko;rw[EI]at this;exact this
def xr(cG:List Int):∀(e r:List Int)(k:Nat),dA cG k (e++r)=dA cG k e++dA cG (k+e.length) r
 |[],r,k=>by simp[dA]
 |b::e,r,k=>by
  have:=xr cG e r (k+1);simp only[cA,dA,this,aZ];have a:k+(e.length+1)=k+1+e.length:=V;rw[a]
def Kx{k:Nat}(h:k<b):cZ (b -k)=0::cZ (b -(k+1)):=by
 have:b -k=(b -(k+1))+1:=V;rw[this];rfl
def Ud(h:e.length<b)(v:Int):(e++cZ (b -e.length)).set e.length v=(e++[v])++cZ (b -(e.length+1)):=by
 rw[Kx h];simp
def Wt(h:e.length<b):e++cZ (b -e.length)=(e++[0])++cZ (b -(e.length+1)):=by
 rw[Kx h];simp
section
variable{B:J}{u:Nat->Nat}{m:J}{A:Nat}{d p bd z w:O}{c:Int}{s:St}{v:List aW}{y:aW}{r o h:O}{C:List (List Ce)}
def Eo(X:ST B u m A ba (IB d p c s bd z w) bd z w s.bd s.heap v y r o h C)(aT:eV B d p j)(ao:0<=g)(hq:j.cB[g.toNat]? =some q)(aV:0<=q.ao/\q.ao<=2000){ws:O}{t:List Int}(hw:aq m ws t)(aW:t≠[]->u ws.E=0)(be:(t.length:Int)<=q.ao)(W:Instr)(ab aY:O)
 (a7:v.length<=10000)(a5:0<=s.bE/\s.bE<=100000):
 aL cp 107 [vp A 0,vi g,O.v ws,xv W ab aY] m λ_ a=>AX B u m A d p c {s with bE:=s.bE+1,aA:=if W.op=24 then v++[bg j g y.dst t]else v++[y,bg j g W.dst t]} a:=by
 apply vg (A,0)
 simp -zeta only[aC,aB]
 intro S
 have aX:N m S:=(N.az m).aN _
 have s1:S.size=m.size+1:=by simp[S]
 obtain⟨S1,t1⟩:=X.ext aX
 have B1:yB u S [m.size]:=λD E=>by simp at E;subst E;exact⟨V,X.cH.new _ (ad _)⟩
 clear_value S
 have a6:=X.fI.uX
 have a4:=X.fI.p7.le
 have e0:cR (s.bE+1)=s.bE+1:=aP V V
 have aG:cR ((w.len:Int) -1)=(v.length:Int):=by rw[aP V V];omega
 have e2:Int.toNat (v.length:Int)=v.length:=V
 refine⟨s.bE,S1.cH.box.bV 5,S1.cH.lP (i:=5) aJ,?_⟩
 rw[e0]
 intro m2
 obtain⟨Q,t2⟩:=S1.iJ 5 [.i (s.bE+1)]
 replace Q:ST B u m2 A ba (IB d p c {s with bE:=s.bE+1} bd z w) bd z w s.bd s.heap v y r o h C:=Q
 replace t2:To u S u m2:=t2
 have B2:=B1.to t2
 have g9:af m2 A 9=some (O.v w):=Q.cH.box.bV 9
 obtain⟨_,_,g2,_,_,_⟩:=Q.fI.iv
 refine⟨t2.dB B1,w,g9,?_⟩
 rw[aG,e2]
 clear_value m2
 have aw:=t1.trans t2
 refine⟨λI a=>∃K Y,rl B u a A ba (IB d p c {s with bE:=s.bE+1} bd z Y) bd z Y s.bd s.heap K/\To u m u a/\yB u a [m.size]/\K.length<=10001/\(if W.op=24 then v++[bg j g y.dst t]else v++[y,bg j g W.dst t])=K++[bg j g I t],⟨λU=>?_,λU=>?_⟩,?_⟩
 ·simp at U
  refine⟨w,g9,V,V,y.dst,g2,w,g9,V,V,V,Q.cH.lP (i:=9) aJ,?_⟩
  intro R
  obtain⟨G,t3⟩:=Q.cH.iJ 9 [.s (w.cut 0 v.length 6)]
  obtain⟨b,_⟩:=G.jb (eC.az _ G.new) (G.aA.Vx)
  refine⟨t3.dB B2,v,w.cut 0 v.length 6,b,aw.trans t3,B2.to t3,V,?_⟩
  rw[an U]
 ·simp at U
  refine⟨v++[y],w,Q.cH,aw,B2,bR,?_⟩
  rw[ae U];simp
 rintro I R ⟨K,Y,G,t3,B3,hX,aN⟩
 rw[aN]
 have ai:dy j g=q:=by simp[dy,hq]
 have ah:=aT.ext G.ct
 refine⟨d,G.box.bV 0,p,G.box.bV 1,(vm ah ao hq aV I).mono ?_⟩
 rintro _ L ⟨b1,b2,b3,rfl,aa⟩
 have a8:=aa.lo
 have aH:=aa.ext
 have am:∀D∈[m.size],D<R.size:=λD E=>(B3 D E).1
 have a_:m.size<R.size:=am _ aJ
 refine⟨aH.dv am,_,_,_,_,_,_,rfl,?_⟩
 intro m5 m6
 have aK:N L m6:=((N.az L).aN _).ah (ad _) _ _
 have s6:m6.size=L.size+1:=by simp[m6,m5,ay]
 have N6:=aa.Ms aK
 clear_value m6
 have bc:=hw.len
 have iw:∀{M},N R M->aq M ws t:=λhx=>(gR hw λb=>t3.dO _ (iB hw b) (by rw[aW b];decide)).ext hx
 obtain⟨pa,pl,pc,_,aS,_,_,k1,_,_,_⟩:=ah.cB.D hq
 have a9:=aD hq
 have bb:=ah.cB.len
 have ap:∀(b:Nat),(q.cG.any λF=>F==(b:Int))=true<->(b:Int)∈q.cG:=λb=>aJ
 simp -zeta only[O.jH,O.ze,O.jt,cO]
 refine fB (n:=t.length) V (λb a=>oE R a b1 b2 b3 q.ao.toNat (t.take b++cZ (q.ao.toNat -b)) (dA q.cG 0 (t.take b)++cZ (q.ao.toNat -b)) (cZ q.ao.toNat)/\L.size<a.size) ⟨by simpa[dA]using N6,V⟩ ?_
 rintro b H a0 μ hk ⟨T,s7⟩ ar
 have sM:∀{ma mc:J},(∀D,D=L.size\/D=m.size->mc[D]? =ma[D]?)->dR [L.size,m.size] ma mc:=λhh D E=>hh D (by simpa using E)
 have tk:(t.take b).length=b:=bR
 have au:(dA q.cG 0 (t.take b)).length=b:=by rw[lA,tk]
 refine dit (λh1=>?_) λh1=>?_
 ·obtain⟨F,hy⟩:=ag (l:=t) (k:=b) V
  have ek:Int.toNat (b:Int)*1=b:=V
  have ak:b<q.ao.toNat:=V
  obtain⟨w8,P⟩:=T.C2 ak F
  have er:(t.take b++cZ (q.ao.toNat -b)).set b F=t.take (b+1)++cZ (q.ao.toNat -(b+1)):=by
   have:=Ud (e:=t.take b) (b:=q.ao.toNat) V F;rw[tk]at this;rw[this,bn hy]
  rw[er]at P
  have eo:dA q.cG 0 (t.take (b+1))=dA q.cG 0 (t.take b)++[if q.cG.any (λF=>F==(b:Int))then 0 else fV F]:=by
   rw[bn hy,xr,tk];simp[dA]
  refine⟨V,V,F,by simpa using(iw T.ext).D hy,V,V,?_⟩
  rw[ek]
  refine⟨w8,?_⟩
  intro m8
  have s8:m8.size=H.size:=ay _ _ _ _
  refine⟨sM λD E=>bt _ _ _ _ V,?_⟩
  replace P:oE R m8 b1 b2 b3 q.ao.toNat (t.take (b+1)++cZ (q.ao.toNat -(b+1))) (dA q.cG 0 (t.take b)++cZ (q.ao.toNat -b)) (cZ q.ao.toNat):=P
  clear_value m8
  refine⟨p,P.ext.af (G.box.bV 1),ao,V,pl,P.ext.af k1,(lC (aS.ext P.ext) _).mono ?_⟩
  rintro _ m9 ⟨D,rfl,E,ac⟩
  have N9:=P.Ms ac
  have s9:=ac.size
  refine⟨ac.dv bR,D,rfl,λaz=>?_,λax=>?_⟩
  ·have aE:¬((b:Int)∈q.cG):=nb E az
   refine(mD F m9).mono ?_
   rintro _ aQ ⟨rfl,Z⟩
   have al:=N9.Ms Z
   have aR:=Z.size
   obtain⟨aO,aj⟩:=al.ph ak (fV F)
   have av:(dA q.cG 0 (t.take b)++cZ (q.ao.toNat -b)).set b (fV F)=dA q.cG 0 (t.take (b+1))++cZ (q.ao.toNat -(b+1)):=by
    have:=Ud (e:=dA q.cG 0 (t.take b)) (b:=q.ao.toNat) V (fV F);rw[au]at this;rw[this,eo,ae (λhh=>aE ((ap b).1 hh))]
   rw[av]at aj
   refine⟨Z.dv bR,_,rfl,aM (Z.same L.size V) 4,V,V,aO,?_⟩
   intro aF
   refine⟨sM λD E=>bt _ _ _ _ V,ar V _ ⟨aj,by simp only[aF,ay];omega⟩⟩
  ·have Z:(b:Int)∈q.cG:=yb E ax
   refine ar V _ ⟨?_,V⟩
   have:=Wt (e:=dA q.cG 0 (t.take b)) (b:=q.ao.toNat) V
   rw[au]at this
   rw[eo,an ((ap b).2 Z),<-this];exact N9
 ·have aU:b=t.length:=V
  subst aU
  rw[fE]at T
  have hc:eC (λ_=>False) u R (lX u b1 b2 b3 K.length) H:=T.gC G.new
  obtain⟨a1,a2,a3⟩:=T.p7 (a:=u) (q:=K.length)
  obtain⟨F,t7⟩:=G.fS (hc.mono λ_=>False.elim) (G.heap.gC hc id id)
  have B7:yB (lX u b1 b2 b3 K.length) H [L.size,m.size]:=λD E=>by
   simp at E;refine⟨V,?_⟩;unfold lX;rw[eF V,eF V,eF V];rcases E with rfl|rfl
   ·exact G.new _ V
   ·exact(B3 _ aJ).2
  refine⟨Y,F.box.bV 9,?_⟩
  intro P
  have ac:N H P:=(N.az H).aN _
  have jk:fZ P H.size 0 [.i g,.i 0,.i I,.s (.mk b1 0 q.ao.toNat q.ao.toNat),.s (.mk b2 0 q.ao.toNat q.ao.toNat),.s (.mk b3 0 q.ao.toNat q.ao.toNat)]:=(cx.push H _ _).iv
  obtain⟨Z,ax⟩:=F.ext ac
  have ak:=B7.to ax
  clear_value P
  have ch:=λ{b:Nat}{s:O}{e:List Ce}(ab:iD (lX u b1 b2 b3 K.length) H aI 1 b s e)=>ab.gC (eC.fP (λ_=>False) ac F.new) id
  have aR:(bg j g I t).ao=t++cZ (q.ao.toNat -t.length):=by simp[bg,ai]
  have aQ:(bg j g I t).aQ=dA q.cG 0 t++cZ (q.ao.toNat -t.length):=by simp[bg,ai]
  have aO:(bg j g I t).br=cZ q.ao.toNat:=by simp[bg,ai]
  refine⟨ac.bZ (F.box.bV 9),oJ.push Z.aA Z.new (x:=.mk H.size 0 1 1) rfl (a:=bg j g I t) jk (by rw[aR];exact ch a1) (by rw[aQ];exact ch a2) (by rw[aO];exact ch a3) V λav qs aZ q1 q2=>?_⟩
  have aj:To _ P av aZ:=q2.mono λb hk=>V
  obtain⟨al,bh⟩:=Z.jb (q2.mono λb hk=>V) q1
  have aE:=ak.to aj
  refine⟨aj.dB ak,al.lP (i:=9) aJ,?_⟩
  intro bf
  obtain⟨aF,az⟩:=al.iJ 9 [.s qs]
  exact⟨az.dB aE,av,bd,z,qs,aF,(((t3.trans t7).trans ax).trans aj).trans az⟩
end
end
section
def Kp(ao:List Int):∀(b aQ:List Int)(n:Int),(∀q∈aQ,n<=q)->∀q∈bB ao aQ b,n -b.length<=q
 |[],aQ,n,h,q,c=>by have:=h q c;simp;omega
 |r::b,aQ,n,h,q,c=>by
  have k:∀d,(∀q∈d,n -1<=q)->q∈bB ao d b->n -(r::b).length<=q:=λd j a=>by
   have:=Kp ao b d (n -1) j q a;simp only[aZ];omega
  rw[bB]at c;refine k _ (λg a=>?_) c;split at a
  ·rcases oW a with e|e
   ·rcases bA r.toNat aQ.length with f|f
    ·obtain⟨y,i⟩:=ag f;have:=h y (av i);rw[CK i]at e;omega
    ·have:gF aQ r (D aQ r -1)=aQ:=by unfold gF;exact qN f
     rw[this]at a;have:=h g a;omega
   ·have:=h g e;omega
  ·have:=h g a;omega
section
variable{t:J}{g:Nat->Nat}{m:J}{q:Nat}{d p bd j c:O}{a:St}{b:List aW}{f:aW}{r u h:O}{v:List (List Ce)}
def Ps{A:cq}{w:Instr}(C:xG A a b f w){aQ:List Int}(aN:aQ=bB f.ao f.aQ (bS A w))(hM:jr A a f w aQ)
 (ac:ST t g m q ba (IB d p (bz A) a bd j c) bd j c a.bd a.heap b f r u h v)(a9:eV t d p A){ao aV:O}(ha:aq t ao w.args)(hj:aq t aV w.dX)(cJ:a.heap.length<=900000000)(cO:a.bd.length<=900000000):
 aL cp 53 [vp q 0,vp c.E (c.off+b.length*6),xv w ao aV] m λ_ T=>AX t g m q d p (bz A) (dJ A a b f w aQ) T:=by
 apply xL (q,0) (c.E,c.off+b.length*6)
 simp -zeta only[aC,aB]
 intro m1
 have cu:N m m1:=(N.az m).aN _
 have s1:m1.size=m.size+1:=by simp[m1]
 obtain⟨S1,t1⟩:=ac.ext cu
 have B1:yB g m1 [m.size]:=λR hb=>by simp at hb;subst hb;exact⟨V,ac.cH.new _ (ad _)⟩
 clear_value m1
 have cK:=C.JD
 have cM:aQ.length=f.aQ.length:=by rw[aN];exact jA _ _ _
 have cT:r.len=f.ao.length:=by have:=ac.fI.ao.len;simp at this;omega
 have cL:u.len=f.aQ.length:=by have:=ac.fI.aQ.len;simp at this;omega
 have cD:=ha.len
 have bo:w.args.length<=4:=C.kv.1
 have cQ:0<=f.pc/\f.pc<=100000:=by
  have cj:=C.F.pc;obtain⟨pq,_,ck,hP,_,_⟩:=C.I;rw[ck]at cj;have cS:=hP.len;omega
 have e4:cR (f.pc+1)=f.pc+1:=aP V V
 have cI:b.length<=1000:=by
  have bV:=C.ok.depth;have cb:=C.ok.bE;have cf:=C.ok.aY;rw[C.fr]at bV;simp at bV;omega
 refine(ve (a9.ext S1.cH.ct) (S1.cH.box.bV 1) C.call (ha.ext S1.cH.ct) V C.kv.2.2.2.1).mono ?_
 rintro _ m2 ⟨ts,lt,rfl,bb,_,bk,b2,_⟩
 obtain⟨S2,t2⟩:=S1.ext bk
 have B2:=B1.to t2
 have cV:=Hd A w
 have bu:=bb.len
 have b3:bS A w≠[]->g ts.E=0:=λaj=>by
  rcases b2 with y|y|y
  ·subst y;simp at bu;exact absurd (List.length_eq_zero_iff.1 bu.symm) aj
  ·rw[y];refine ac.cH.iY _ (iB ha λh0=>?_);obtain⟨U,E⟩:=SF _ aj;have:=AU E;rw[h0]at this;simp at this
  ·exact ac.cH.new _ V
 refine⟨t2.dB B1,ts,lt,rfl,?_⟩
 refine fB (n:=(bS A w).length) V (λP T=>ST t g T q ba (IB d p (bz A) a bd j c) bd j c a.bd a.heap b {f with aQ:=bB f.ao f.aQ ((bS A w).take P)} r u h v/\To g m2 g T) ⟨S2,eC.az _ S2.cH.new⟩ ?_
 rintro P m3 b8 μ hk ⟨S3,t3⟩ bv
 have B3:=B2.to t3
 have cd:(bB f.ao f.aQ ((bS A w).take P)).length=f.aQ.length:=jA _ _ _
 refine dit (λh1=>?_) λh1=>?_
 ·obtain⟨U,E⟩:=ag (l:=bS A w) (k:=P) V
  have B:=C.IS U (av E)
  obtain⟨_,_,_,H,K,_⟩:=S3.fI.iv
  have L:aq m3 ts (bS A w):=gR bb λaj=>t3.dO _ (iB bb aj) (by rw[b3 aj];decide)
  have G:bB f.ao f.aQ ((bS A w).take (P+1))=if 1000<=D f.ao U then gF (bB f.ao f.aQ ((bS A w).take P)) U (D (bB f.ao f.aQ ((bS A w).take P)) U -1)else bB f.ao f.aQ ((bS A w).take P):=by
   rw[bn E,uc];rfl
  refine⟨V,V,U,by simpa using L.D E,r,H,B.1,V,_,(S3.zk (by show f.ao.length<=_;omega)).pD B.1 B.2,λS=>?_,λS=>?_⟩
  ·simp only[Fx,au]at S
   have F:U<(bB f.ao f.aQ ((bS A w).take P)).length:=V
   have M: -4<=D (bB f.ao f.aQ ((bS A w).take P)) U/\D (bB f.ao f.aQ ((bS A w).take P)) U<=999999:=by
    obtain⟨qq,aT,bi⟩:=kj _ _ _ _ (nN B.1 F);have h7:=C.MI qq (av aT);have h8:=Kp f.ao ((bS A w).take P) f.aQ 0 (λaw hq=>(C.MI aw hq).1) _ (eR B.1 F);have h9:((bS A w).take P).length<=4:=bR;omega
   have e5:cR (D (bB f.ao f.aQ ((bS A w).take P)) U -1)=D (bB f.ao f.aQ ((bS A w).take P)) U -1:=aP V V
   refine⟨u,K,B.1,V,_,(S3.Hz (by show(bB _ _ _).length<=_;omega)).pD B.1 F,B.1,V,S3.fI.aQ.OR B.1 F,?_⟩
   rw[e5]
   intro I
   obtain⟨z,t4⟩:=S3.ph B.1 F (D (bB f.ao f.aQ ((bS A w).take P)) U -1)
   refine⟨t4.dB B3,bv V _ ⟨?_,t3.trans t4⟩⟩
   rw[G,an S];exact z
  ·simp only[Fx,bU]at S
   refine bv V _ ⟨?_,t3⟩
   rw[G,ae S];exact S3
 rw[cN V,<-aN]at S3
 clear bv cd hk h1 b3 bb b2 bu
 obtain⟨_,g1,_,_,_,_⟩:=S3.fI.iv
 refine⟨f.pc,g1,S3.fI.TB,?_⟩
 rw[e4]
 intro I
 obtain⟨z,t4⟩:=S3.LP (f.pc+1)
 have L:yB g I [m.size]:=B3.to t4
 have b5:dR [m.size] m3 I:=t4.dB B3
 have ab:To g m g I:=((t1.trans t2).trans t3).trans t4
 clear t4
 replace z:ST t g I q ba (IB d p (bz A) a bd j c) bd j c a.bd a.heap b {f with aQ:=aQ,pc:=f.pc+1} r u h v:=z
 refine⟨b5,?_⟩
 clear b5 g1 S3 t3 B3 t2 B2 S2 bk b8 μ
 clear_value I
 have X:∀{M M':J},dR [m.size] M M'->∀ar,af M' m.size ar=af M m.size ar:=λh ar=>aM (h _ aJ) ar
 have hd:=C.dst
 have br:f.ao.length=aQ.length/\f.br.length=aQ.length/\aQ.length<=2000:=V
 have az:1<=w.args.length->0<=D w.args 0/\D w.args 0<f.ao.length:=λh1=>C.arg _ (eR V V)
 have ga:∀{T},N t T->1<=w.args.length->af T ao.E (ao.off+Int.toNat (0:Int)*1)=some (vi (D w.args 0)):=λhx h1=>(ha.ext hx).pD V V
 have gr:∀{g m bx bd j c lo ax u h v own' pc'},ST t g m q ba bx bd j c lo ax b {f with aQ:=own',pc:=pc'} r u h v->∀{ar:Int},0<=ar->ar<f.ao.length->af m r.E (r.off+Int.toNat ar*1)=some (vi (D f.ao ar)):=λac ar h0 h1=>(ac.zk (by simp only[];omega)).pD h0 h1
 have al:∀{g m bx bd j c lo ax u h v own' pc'},ST t g m q ba bx bd j c lo ax b {f with aQ:=own',pc:=pc'} r u h v->af m c.E (c.off+b.length*6+3)=some (O.v r):=λac=>ac.fI.iv.2.2.2.1
 have cv:∀r',r'∈w.args->D f.ao r'<1000->jm (D f.ao r'):=λr' cn aU=>by
  have b0:=C.arg r' cn;rcases C.F.Nr _ (eR b0.1 b0.2)with S|S
  ·exact S
  ·omega
 obtain⟨pq,_,_,_,_,hI⟩:=C.I
 have ap:=hI.op
 clear hI
 have bA:∀{bw:Nat->Nat}{b1:O}{ax:List bQ}{M:J}(SM:ST t bw M q ba (IB d p (bz A) {a with heap:=ax} bd b1 c) bd b1 c a.bd ax b {f with aQ:=aQ,pc:=f.pc+1} r u h v)(tM:To g m bw M)(BM:yB bw M [m.size])(G bc:Int)(s':St),s'={a with heap:=ax,aA:=b++[aW.put {f with aQ:=aQ,pc:=f.pc+1} w.dst G bc]}->
  aL cp 98 [vp c.E (c.off+b.length*6),vi w.dst,vi G,vi bc] M λ_ T=>dR [m.size] M T/\AX t g m q d p (bz A) s' T:=λSM tM BM G bc s' y=>by
  refine(qC SM hd.1 (by show w.dst<f.ao.length;omega) (by show w.dst<aQ.length;omega) G bc).mono ?_
  rintro _ T ⟨S',t'⟩
  exact⟨t'.dB BM,_,bd,_,c,by rw[y];exact S'.cH,tM.trans t'⟩
 have bj:∀{M:J}(hx:N I M)(Z:Int)(s':St),s'={a with aA:=b++[{f with aQ:=aQ,pc:=Z}]}->
  dZ M c.E (c.off+b.length*6+1) 1/\dR [m.size] M (ah M c.E (c.off+b.length*6+1) [.i Z])/\AX t g m q d p (bz A) s' (ah M c.E (c.off+b.length*6+1) [.i Z]):=λhx Z s' y=>by
  obtain⟨SM,tM⟩:=z.ext hx
  obtain⟨S',t'⟩:=SM.LP Z
  exact⟨SM.fI.TB,t'.dB (L.to tM),g,bd,j,c,by rw[y];exact S'.cH,(ab.trans tM).trans t'⟩
 refine⟨λy=>?_,λe0=>?_⟩
 ·simp only[bT,aE]at y
  have S:=C.kv.2.1
  have h2:=C.kv.2.2.1
  refine(HU z ha C.arg bo y (λe5=>S (Or.inl e5)) (λe0 e5=>h2 V) (λe0 U E=>cv U E (hM.nu V U E)) br ⟨hd.1,by show w.dst<aQ.length;omega⟩ V).mono ?_
  rintro _ Y ⟨aK,aX,aH,aO,L5,E⟩
  refine⟨E.dB L,aK,aX,aH,aO,?_,ab.trans E⟩
  have:dJ A a b f w aQ=(if w.op=0 then{a with aA:=b++[aW.put {f with aQ:=aQ,pc:=f.pc+1} w.dst w.bL 0]}else if w.op=5 then{a with bd:=a.bd++[D f.ao (D w.args 0)],aA:=b++[aW.put {f with aQ:=aQ,pc:=f.pc+1} w.dst (D f.ao (D w.args 0)) 0]}else{a with aA:=b++[aW.put {f with aQ:=aQ,pc:=f.pc+1} w.dst (MN w.op (D f.ao (D w.args 0)) (D f.ao (D w.args 1))) 0]}):=by
   unfold dJ;simp only[];by_cases B:w.op=0
   ·rw[an B,an B]
   rw[ae B,ae B];by_cases F:w.op=5
   ·rw[ae V,an F,an F]
   ·rw[an V,ae F]
  rw[this];exact L5
 simp only[bq,ak]at e0
 have bf:¬(w.op=1\/w.op=2\/w.op=3\/w.op=4):=V
 have cw:∀G∈f.br,G≠0->1000<=G/\ix G<a.heap.length:=λG hw aj=>by
  obtain⟨h1,dd,cc,_⟩:=C.JC G hw aj;exact⟨h1,aD cc⟩
 refine⟨λy=>?_,λe6=>?_⟩
 ·simp only[aE]at y
  have h6:=C.kv.2.2.2.2.1 y
  refine(Er z ha C.arg bo br ⟨h6.1,h6.2.1⟩ V cw).mono ?_
  rintro _ Y ⟨aK,aH,B,Q,rfl,W,E,er,eo,ep,ec⟩
  refine⟨E.dB L,_,rfl,X (E.dB L) 1,(qC W hd.1 (by rw[er];show w.dst<f.ao.length;omega) (by rw[eo];show w.dst<aQ.length;omega) (1000+B) 1).mono ?_⟩
  rintro _ F ⟨H,K⟩
  refine⟨K.dB (L.to E),aK,bd,aH,c,?_,(ab.trans E).trans K⟩
  have h7:=ec f.pc
  have aa:Q.pc=f.pc+1:=ep
  have h8:({Q with pc:=f.pc+1}:aW)=Q:=by rw[<-aa]
  rw[h8]at h7
  have:dJ A a b f w aQ=mZ a b {f with aQ:=aQ} w w.bL:=by
   unfold dJ mZ;simp only[];rw[ae V,ae bf,ae V,an y];rfl
  rw[this]
  have h9:mZ a b {f with aQ:=aQ} w w.bL={a with heap:=gL a.heap B ⟨1,w.bL,cy f w.args⟩,aA:=b++[aW.put Q w.dst (1000+B) 1]}:=h7
  rw[h9];exact H.cH
 simp only[ak]at e6
 have F4:FP I c.E (c.off+b.length*6) {f with aQ:=aQ,pc:=f.pc+1} r u h:=z.fp ⟨by show f.ao.length<=_;omega,by show aQ.length<=_;omega,by show f.br.length<=_;omega⟩
 have b7:∀{bC:Value->J->Prop},(∀ws M,aq M ws (cy f w.args)->N I M->(cy f w.args≠[]->g ws.E=0)->bC (O.v ws) M)->aL cp 101 [vp c.E (c.off+b.length*6),O.v ao] I bC:=λhk=>by
  refine(um F4.g3 F4.ao (ha.ext z.cH.ct) C.arg V).mono ?_;rintro _ Y ⟨ws,rfl,ow,am⟩;have ct:(cy f w.args).length=w.args.length:=by simp[cy]
  have iw:aq Y ws (cy f w.args):=aq.gQ (a:=cy f w.args) ow V;refine hk ws Y iw am λaj=>?_;rcases ow.E with y|y
  ·subst y;have:=iw.len;simp at this;exact absurd (List.length_eq_zero_iff.1 this.symm) aj
  ·exact z.cH.new _ y
 have bk:(eE A.aT).length<=12:=by
  have:=qx C.ok.fC.lY.types A.aT.length;rw[mz _ _ (ad _)]at this;exact this
 have cE:0<=bz A/\bz A<=12:=by unfold bz;omega
 refine⟨λy=>?_,λbD=>?_⟩
 ·simp only[aE]at y
  have aa:=C.kv.2.2.2.2.2.1 y
  refine⟨bz A,z.cH.box.bV 2,b7 λws Y iw am _=>?_⟩
  obtain⟨W,E⟩:=z.ext am
  have B5:=L.to E
  have Q:=E.dB L
  have B:cR (bz A+w.bL)=bz A+w.bL:=aP V V
  refine⟨Q,ws,rfl,X Q 2,am.bZ (z.cH.box.bV 2),X Q 1,?_⟩
  rw[B]
  refine(Co W (bz A+w.bL) iw (by simp[cy];omega) V).mono ?_
  rintro _ F ⟨rfl,bF,bl,H,K⟩
  have aY:=K.dB B5
  refine⟨aY,_,rfl,X aY 1,bA (b1:=bl) (ax:=gL a.heap (dg a.heap) ⟨1,bz A+w.bL,cy f w.args⟩) H ((ab.trans E).trans K) (B5.to K) _ _ _ ?_⟩
  unfold dJ;simp only[];rw[ae V,ae bf,ae V,ae e6,an y]
 simp only[ak]at bD
 have KC:dJ A a b f w aQ=(
  if w.op=14 then{a with heap:=lW a.heap (D f.ao (D w.args 0)),aA:=b++[{f with aQ:=gF aQ (D w.args 0) (D aQ (D w.args 0)+1),pc:=f.pc+1}]}
  else if w.op=15 then{a with heap:=mM (fY a.heap [D f.ao (D w.args 0)]),aA:=b++[{f with aQ:=aQ,pc:=f.pc+1}]}
  else if w.op=16\/w.op=17 then sJ a b {f with aQ:=aQ} w
  else if w.op=18 then{a with aA:=b++[aW.put {f with aQ:=aQ,pc:=f.pc+1} w.dst (D f.ao (D w.args 0)) (fV (D f.ao (D w.args 0)))]}
  else if w.op=19 then{a with aA:=b++[aW.put {f with aQ:=aQ,pc:=f.pc+1} w.dst (D (aG a.heap (D f.ao (D w.args 0))).aR w.bL) 0]}
  else if w.op=20 then{a with aA:=b++[{f with aQ:=aQ,pc:=if D f.ao (D w.args 0)=0 then w.bL else f.pc+1}]}
  else if w.op=22 then{a with aA:=b++[{f with aQ:=aQ,pc:=w.bL}]}
  else if w.op=21 then{a with aA:=b++[{f with aQ:=aQ,pc:=D w.dX (qA (cg A.aT w.bL) (aG a.heap (D f.ao (D w.args 0))).kd)}]}
  else if w.op=9\/w.op=24 then{a with bE:=a.bE+1,aA:=if w.op=24 then b++[bg A w.bL f.dst (cy f w.args)]else b++[{f with aQ:=aQ,pc:=f.pc+1},bg A w.bL w.dst (cy f w.args)]}
  else if w.op=11 then{a with bE:=a.bE+1,heap:=apart a.heap (D f.ao (D w.args 0)),aA:=b++[{f with aQ:=aQ,pc:=f.pc+1},bg A ((aG a.heap (D f.ao (D w.args 0))).kd -bz A) w.dst ((aG a.heap (D f.ao (D w.args 0))).aR++[D f.ao (D w.args 1)])]}
  else match b.getLast? with|none=>{a with bW:=0,value:=D f.ao (D w.args 0),aA:=[]}|some aR=>{a with aA:=b.dropLast++[aR.put f.dst (D f.ao (D w.args 0)) (fV (D f.ao (D w.args 0)))]}):=by
  unfold dJ
  simp only[]
  rw[ae V,ae bf,ae V,ae e6,ae bD]
  by_cases a0:w.op=14
  ·rw[an a0,an a0]
  rw[ae a0,ae a0]
  by_cases a1:w.op=15
  ·rw[an a1,an a1]
  rw[ae a1,ae a1]
  by_cases a2:w.op=16\/w.op=17
  ·rw[an a2,an a2];rfl
  rw[ae a2,ae a2]
  by_cases a3:w.op=18
  ·rw[an a3,an a3]
  rw[ae a3,ae a3]
  by_cases a4:w.op=19
  ·rw[an a4,an a4]
  rw[ae a4,ae a4]
  by_cases a5:w.op=20
  ·rw[an a5,an a5]
  rw[ae a5,ae a5]
  by_cases a6:w.op=21
  ·rw[an a6,ae V,an a6]
  rw[ae a6]
  by_cases a7:w.op=22
  ·rw[an a7,an a7]
  rw[ae a7,ae a7,ae a6]
  by_cases be:w.op=9
  ·rw[an be,an (Or.inl be),ae V]
  rw[ae be]
  by_cases a8:w.op=24
  ·rw[an a8,an (Or.inr a8),an a8]
  rw[ae a8,ae (show¬(w.op=9\/w.op=24)by omega)]
  by_cases aZ:w.op=11
  ·rw[an aZ,an aZ]
  rw[ae aZ,ae aZ]
  cases b.getLast?<;>rfl
 rw[KC]
 clear KC
 refine⟨λy=>?_,λbG=>?_⟩
 ·simp only[aE]at y
  rw[an y]
  have h2:=C.kv.2.1 V
  have B:=az V
  obtain⟨ai,bH⟩:=hM.Th y
  obtain⟨aa,a_⟩:=bY ai
  have aU:=aD aa
  have bs:=z.cH.heap.len
  have bp:=ai.1
  have aF:ix (D f.ao (D w.args 0))=(D f.ao (D w.args 0) -1000).toNat:=rfl
  have e5:cR (D f.ao (D w.args 0) -1000)=D f.ao (D w.args 0) -1000:=aP V V
  have bm:cR ((aG a.heap (D f.ao (D w.args 0))).aS+1)=(aG a.heap (D f.ao (D w.args 0))).aS+1:=aP V V
  obtain⟨f0,k0,_⟩:=z.cH.heap.bV aa
  refine⟨j,z.cH.box.bV 8,r,al z,V,V,_,ga z.cH.ct V,B.1,V,_,gr z B.1 B.2,?_⟩
  rw[e5,<-aF]
  refine⟨V,V,_,k0,V,V,z.cH.heap.wr (o:=0) aU bh,?_⟩
  rw[bm]
  intro Y
  obtain⟨bt,c5⟩:=z.cH.heap.sN z.cH.new aa ((aG a.heap (D f.ao (D w.args 0))).aS+1)
  obtain⟨W,E⟩:=z.fS (c5.mono λP hk=>Or.inl hk) bt
  have B5:=L.to E
  have aS:D w.args 0<aQ.length:=V
  have bI:0<=D aQ (D w.args 0)/\D aQ (D w.args 0)<=999999:=by
   have hm:=eR (c:=aQ) B.1 aS;refine⟨hM.nn _ hm,?_⟩;have hg:=nN (c:=aQ) B.1 aS;rw[aN]at hg;obtain⟨qq,aT,bi⟩:=kj _ _ _ _ hg;have:=(C.MI qq (av aT)).2;rw[<-aN]at bi;omega
  have e7:cR (D aQ (D w.args 0)+1)=D aQ (D w.args 0)+1:=aP V V
  refine⟨E.dB L,u,W.fI.iv.2.2.2.2.1,V,V,_,ga W.cH.ct V,B.1,V,D aQ (D w.args 0),(W.Hz (by show aQ.length<=_;omega)).pD B.1 aS,B.1,V,W.fI.aQ.OR B.1 aS,?_⟩
  rw[e7]
  intro F
  obtain⟨H,K⟩:=W.ph B.1 aS (D aQ (D w.args 0)+1)
  exact⟨K.dB B5,g,bd,j,c,H.cH,(ab.trans E).trans K⟩
 simp only[ak]at bG
 rw[ae bG]
 refine⟨λy=>?_,λbH=>?_⟩
 ·simp only[aE]at y
  rw[an y]
  have h2:=C.kv.2.1 V
  have B:=az V
  have bI:w.args=[D w.args 0]:=by
   cases hx:w.args with
   |nil=>rw[hx]at h2;simp at h2
   |cons U aS=>cases aS with
    |nil=>rfl
    |cons bm aS=>rw[hx]at h2;simp at h2
  have bm:=C.HE aN hM.nn
  have ht:bS A w=[D w.args 0]:=by unfold bS;rw[an V];exact bI
  have bt:=bm.1
  rw[ht]at bt
  refine⟨j,z.cH.box.bV 8,?_⟩
  intro Y F
  obtain⟨H,K,kb⟩:=z.My
  have U:yB (rh g I.size 5) F [m.size]:=L.to K
  replace H:ST t (rh g I.size 5) F q ba (IB d p (bz A) a bd j c) bd j c a.bd a.heap b {f with aQ:=aQ,pc:=f.pc+1} r u h v:=H
  replace K:To g I (rh g I.size 5) F:=K
  replace kb:cx F I.size dT [.s j]:=kb
  clear_value F
  refine⟨r,al H,V,V,_,ga H.cH.ct V,B.1,V,_,gr H B.1 B.2,(Es H.cH.heap H.cH.new kb (gX _ _ _) (W:=λR=>lB b R+fq f.ao aQ R) (bt.congr λR=>rfl) bm.2 V).mono ?_⟩
  rintro _ m7 ⟨bL,aS,bJ,bK,c7⟩
  obtain⟨S7,t7⟩:=H.fS c7 bJ
  have B7:=U.to t7
  refine⟨t7.dB U,aS,bK.bV 0,S7.cH.lP (i:=8) aJ,?_⟩
  intro m8
  obtain⟨S8,t8⟩:=S7.iJ 8 [.s aS]
  exact⟨t8.dB B7,bL,bd,aS,c,S8.cH,((ab.trans K).trans t7).trans t8⟩
 simp only[ak]at bH
 rw[ae bH]
 refine⟨λy=>?_,λb9=>?_⟩
 ·simp only[bT,aE]at y
  rw[an y]
  refine(MB z ha C.arg ⟨C.kv.2.2.2.1 y,bo⟩ br V (λaw hq=>?_) (hM.Ct y).1 C.ok.heap (show f.pc+1=f.pc+1 from rfl)).mono ?_
  ·refine⟨hM.nn aw hq,?_⟩
   obtain⟨P,hk⟩:=List.mem_iff_getElem?.1 hq
   simp only[]at hk
   rw[aN]at hk
   obtain⟨qq,aT,bi⟩:=kj _ _ _ _ hk
   have:=(C.MI qq (av aT)).2
   omega
  rintro _ Y ⟨aK,aX,aH,aO,L5,E⟩
  exact⟨E.dB L,aK,aX,aH,aO,L5,ab.trans E⟩
 simp only[bq,ak]at b9
 rw[ae V]
 refine⟨λy=>?_,λbI=>?_⟩
 ·simp only[aE]at y
  rw[an y]
  have h2:=C.kv.2.1 V
  have B:=az V
  refine⟨r,al z,V,V,_,ga z.cH.ct V,B.1,V,_,gr z B.1 B.2,(mD _ _).mono ?_⟩
  rintro _ Y ⟨rfl,am⟩
  obtain⟨W,E⟩:=z.ext am
  have Q:=E.dB L
  exact⟨Q,_,rfl,X Q 1,bA (ax:=a.heap) W (ab.trans E) (L.to E) _ _ _ rfl⟩
 simp only[ak]at bI
 rw[ae bI]
 refine⟨λy=>?_,λbJ=>?_⟩
 ·simp only[aE]at y
  rw[an y]
  have h2:=C.kv.2.1 V
  have B:=az V
  obtain⟨ai,aS⟩:=hM.load y
  obtain⟨aa,a_⟩:=bY ai
  have aU:=aD aa
  have bs:=z.cH.heap.len
  have bp:=ai.1
  have aF:ix (D f.ao (D w.args 0))=(D f.ao (D w.args 0) -1000).toNat:=rfl
  have e5:cR (D f.ao (D w.args 0) -1000)=D f.ao (D w.args 0) -1000:=aP V V
  obtain⟨f0,_,_,k2,kf,_⟩:=z.cH.heap.bV aa
  have aT:=kf.len
  unfold lp at ap
  rw[ae V,ae V,ae V,ae V,ae V,ae V,ae V,an y]at ap
  refine⟨j,z.cH.box.bV 8,r,al z,V,V,_,ga z.cH.ct V,B.1,V,_,gr z B.1 B.2,?_⟩
  rw[e5,<-aF]
  exact⟨V,V,f0,k2,ap.2.1,V,_,kf.pD ap.2.1 aS,bA (ax:=a.heap) z ab L _ _ _ rfl⟩
 simp only[ak]at bJ
 rw[ae bJ]
 refine⟨λy=>?_,λbK=>?_⟩
 ·simp only[aE]at y
  rw[an y]
  have h2:=C.kv.2.1 V
  have B:=az V
  refine⟨r,al z,V,V,_,ga z.cH.ct V,B.1,V,_,gr z B.1 B.2,λS=>?_,λS=>?_⟩
  ·simp at S;exact bj (N.az _) _ _ (by rw[an S])
  ·simp at S;exact⟨g,bd,j,c,by rw[ae S];exact z.cH,ab⟩
 simp only[ak]at bK
 rw[ae bK]
 refine⟨λy=>?_,λbM=>?_⟩
 ·simp only[aE]at y
  rw[an y]
  exact bj (N.az _) _ _ rfl
 simp only[ak]at bM
 rw[ae bM]
 refine⟨λy=>?_,λbL=>?_⟩
 ·simp only[aE]at y
  rw[an y]
  have h2:=C.kv.2.1 V
  have B:=az V
  obtain⟨ai,bt⟩:=hM.Ax y
  obtain⟨aa,a_⟩:=bY ai
  have aU:=aD aa
  have bs:=z.cH.heap.len
  have bp:=ai.1
  have aF:ix (D f.ao (D w.args 0))=(D f.ao (D w.args 0) -1000).toNat:=rfl
  have e5:cR (D f.ao (D w.args 0) -1000)=D f.ao (D w.args 0) -1000:=aP V V
  obtain⟨f0,_,k1,_⟩:=z.cH.heap.bV aa
  unfold lp at ap
  rw[ae V,ae V,ae V,ae V,ae V,ae V,ae V,ae V,ae V,ae V,an y]at ap
  have bO:qA (cg A.aT w.bL) (aG a.heap (D f.ao (D w.args 0))).kd<(cg A.aT w.bL).length:=lQ ⟨_,bt,aJ⟩
  have bX:=hj.len
  have bP:=ap.2.2.1
  refine⟨j,z.cH.box.bV 8,r,al z,V,V,_,ga z.cH.ct V,B.1,V,_,gr z B.1 B.2,?_⟩
  rw[e5,<-aF]
  refine⟨V,V,_,k1,d,z.cH.box.bV 0,(sE (a9.ext z.cH.ct).aT C.ok.fC.lY.types w.bL).mono ?_⟩
  rintro _ Y ⟨cs,rfl,bN,am⟩
  obtain⟨W,E⟩:=z.ext am
  have B5:=L.to E
  have Q:=E.dB L
  refine⟨Q,cs,rfl,X Q 5,(rq bN _).mono ?_⟩
  rintro _ F ⟨ri,rfl,aS,bi⟩
  obtain⟨H,K⟩:=W.ext aS
  have aY:=K.dB B5
  have bm:ri=qA (cg A.aT w.bL) (aG a.heap (D f.ao (D w.args 0))).kd:=by
   rcases bi with⟨_,aT⟩|⟨_,he⟩
   ·exact absurd bt aT
   ·exact he
  subst bm
  exact⟨aY,_,rfl,X aY 5,V,V,_,(hj.ext H.cH.ct).pD V V,bj (am.trans aS) _ _ rfl⟩
 simp only[ak]at bL
 rw[ae bL]
 have bP:0<=a.bE/\a.bE<=100000:=by
  have cb:=C.ok.bE;have cf:=C.ok.aY;omega
 have aY:=C.ok.fC
 refine⟨λy=>?_,λe9=>?_⟩
 ·simp only[bT,aE]at y
  rw[an y]
  unfold lp at ap
  rw[ae V,ae V,ae V,ae V,an y]at ap
  obtain⟨aw,bi,aS,bO⟩:=ap
  have co:=(aY.dz aw (av aS)).ao
  have h3:=(aY.lY.dz aw (av aS)).1
  have ct:(cy f w.args).length=w.args.length:=by simp[cy]
  refine b7 λws Y iw am bm=>?_
  obtain⟨W,E⟩:=z.ext am
  have B5:=L.to E
  have Q:=E.dB L
  refine⟨Q,ws,rfl,X Q 0,X Q 1,X Q 2,X Q 3,X Q 4,X Q 5,X Q 2,(Eo W a9 bi aS V iw bm V w ao aV V bP).mono ?_⟩
  rintro _ F ⟨bF,bN,bl,aT,L6,K⟩
  exact⟨K.dB B5,bF,bN,bl,aT,L6,(ab.trans E).trans K⟩
 simp only[bq,ak]at e9
 rw[ae V]
 refine⟨λy=>?_,λbF=>?_⟩
 ·simp only[aE]at y
  rw[an y]
  have h2:=C.kv.2.2.1 V
  have B:=az V
  have bm:0<=D w.args 1/\D w.args 1<f.ao.length:=C.arg _ (eR V V)
  obtain⟨ai,cr,cU,ci,ce,cG⟩:=hM.apply y
  obtain⟨aa,a_⟩:=bY ai
  have bO:=C.ok.heap.cell _ (av aa)
  have cH:=bO.fl
  have bt:=(bO.rm a_).2
  have aU:=aD aa
  have bs:=z.cH.heap.len
  have bp:=ai.1
  have aF:ix (D f.ao (D w.args 0))=(D f.ao (D w.args 0) -1000).toNat:=rfl
  have e5:cR (D f.ao (D w.args 0) -1000)=D f.ao (D w.args 0) -1000:=aP V V
  obtain⟨f0,k0,k1,k2,kf,kr⟩:=z.cH.heap.bV aa
  refine⟨r,al z,V,V,_,ga z.cH.ct V,B.1,V,_,gr z B.1 B.2,j,z.cH.box.bV 8,?_⟩
  rw[e5,<-aF]
  generalize hw:D f.ao (D w.args 0)=G at*
  have gv:∀{g m bx bd j c lo ax u h v own' pc'},ST t g m q ba bx bd j c lo ax b {f with aQ:=own',pc:=pc'} r u h v->af m r.E (r.off+Int.toNat (D w.args 1)*1)=some (vi (D f.ao (D w.args 1))):=λac=>gr ac bm.1 bm.2
  generalize hv:D f.ao (D w.args 1)=Z at*
  obtain⟨aw,hq⟩:=ag (l:=A.cB) (k:=((aG a.heap G).kd -bz A).toNat) V
  have cm:dy A ((aG a.heap G).kd -bz A)=aw:=by simp[dy,hq]
  rw[cm]at ci ce
  have co:=(aY.dz aw (av hq)).ao
  have h3:=(aY.lY.dz aw (av hq)).1
  refine⟨V,V,_,k0,_,k1,f0,k2,?_⟩
  intro Y F
  have bl:N I F:=((N.az I).aN _).ah (ad _) _ _
  have s6:F.size=I.size+1:=by simp[F,Y,ay]
  obtain⟨H,K⟩:=z.ext bl
  clear_value F
  have U:yB g F [I.size,m.size]:=λR hb=>by
   simp at hb;rcases hb with rfl|rfl
   ·exact⟨V,z.cH.new _ (ad _)⟩
   ·exact L.to K _ aJ
  have bi:∀{M},N F M->af M ao.E (ao.off+Int.toNat (1:Int)*1)=some (vi (D w.args 1)):=λhx=>(ha.ext (H.cH.ct.trans hx)).pD V V
  have ew:cR ((aG a.heap G).kd -bz A)=(aG a.heap G).kd -bz A:=aP V V
  have tail:∀{M:J}{es:O},N F M->ij F M aI 1 es (((aG a.heap G).aR++[Z]).map Ce.i)->
   aL cp 108 [vp q 0,vi G,vb false] M λcB T=>dR [I.size,m.size] M T/\∃cA:Bool,cB=vb cA/\∃b6:Int,af T q (0+2)=some (vi b6)/\
    aL cp 107 [vp q 0,vi (cR ((aG a.heap G).kd -b6)),O.v es,xv w ao aV] T λ_ b4=>dR [I.size,m.size] T b4/\AX t g m q d p (bz A) {a with bE:=a.bE+1,heap:=apart a.heap G,aA:=b++[{f with aQ:=aQ,pc:=f.pc+1},bg A ((aG a.heap G).kd -bz A) w.dst ((aG a.heap G).aR++[Z])]} b4:=λ{M}{es} hx oe=>by
   obtain⟨SM,tM⟩:=H.ext hx
   have BM:=U.to tM
   have ie:aq M es ((aG a.heap G).aR++[Z]):=aq.gQ oe bR
   have bZ:es.E<M.size:=iB ie aJ
   have bX:g es.E=0:=by
    rcases oe.E with y|y
    ·subst y;have:=ie.len;simp at this
    ·exact H.cH.new _ y
   refine(Cp SM ai false C.ok.heap V).mono ?_
   rintro _ m8 ⟨R,rfl,_,cW,cP,S8,t8⟩
   have B8:=BM.to t8
   have hK:qR a.heap G false=apart a.heap G:=by rw[qR,ae (λQ=>by simp at Q)]
   rw[hK]at S8
   have cs:aq m8 es ((aG a.heap G).aR++[Z]):=gR ie λ_=>t8.dO _ bZ (by rw[bX];decide)
   refine⟨t8.dB BM,R,rfl,bz A,S8.cH.box.bV 2,?_⟩
   rw[ew]
   refine(Eo (s:={a with heap:=apart a.heap G}) S8 a9 cr hq V cs (λ_=>by rw[t8.jU _ bZ];exact bX) bR w ao aV V bP).mono ?_
   rintro _ m9 ⟨cC,cz,ch,b_,L9,t9⟩
   refine⟨t9.dB B8,cC,cz,ch,b_,?_,(((ab.trans K).trans tM).trans t8).trans t9⟩
   rw[ae V]at L9
   exact L9
  refine⟨r,al H,V,V,_,bi (N.az _),bm.1,V,Z,gv H,?_,?_⟩
  ·refine(kG (kf.ext bl) V).mono ?_
   rintro _ m7 ⟨cl,rfl,oc,Q⟩
   obtain⟨S7,t7⟩:=H.ext Q
   have B7:=U.to t7
   refine⟨t7.dB U,cl,rfl,Q.bZ (gv H),Q.bZ (bi (N.az _)),aM (Q.same m.size (U _ aJ).1) 4,Q.bZ (al H),?_⟩
   intro m8
   have W:N m7 m8:=(N.az m7).aN _
   refine⟨aM (W.same I.size (B7 _ aJ).1) 2,nB oc Q V λes m9 o9 aS=>⟨?_,tail aS o9⟩⟩
   intro R hb
   have aT:=(U R hb).1
   rw[aS.same R aT,W.same R (by have:=Q.size;omega),Q.same R aT]
  ·intro m7
   have Q:N F m7:=(N.az F).aN _
   have s7:m7.size=F.size+1:=by simp[m7]
   have jk:fZ m7 F.size 0 [.i Z]:=(cx.push F _ _).iv
   have ca:cx m7 F.size aI [.i Z]:=cx.push F _ _
   clear_value m7
   obtain⟨S7,t7⟩:=H.ext Q
   have B7:=U.to t7
   refine⟨aM (Q.same I.size (U _ aJ).1) 2,(kG (kf.ext (bl.trans Q)) V).mono ?_⟩
   rintro _ m8 ⟨cl,rfl,oc,W⟩
   obtain⟨S8,t8⟩:=S7.ext W
   have cF:cl.len=(aG a.heap G).aR.length:=by have:=oc.len;simp at this;omega
   refine⟨t8.dB B7,cl,rfl,W.bZ (gv S7),W.bZ (bi Q),aM (W.same m.size (B7 _ aJ).1) 4,W.bZ (al S7),?_⟩
   have bN:=Q.trans W
   refine ij.append (c:=[.i 0]) (x:=.mk F.size 0 1 1) (i:=[.i Z]) (oc.ct V) bN rfl (ca.ext W).iv (by simp only[O.jt];omega) λes m9 o9 aS _ _ _ _=>⟨?_,tail aS (by simpa using o9)⟩
   intro R hb
   have aT:=(U R hb).1
   rw[aS.same R aT,bN.same R aT]
 simp only[ak]at bF
 rw[ae bF]
 refine⟨λy=>?_,λK=>?_⟩
 ·simp only[aE]at y
  have h2:=C.kv.2.1 V
  have B:=az V
  refine⟨r,al z,V,V,_,ga z.cH.ct V,B.1,V,_,gr z B.1 B.2,(FT z V (D f.ao (D w.args 0)) (λaR hg=>?_)).mono ?_⟩
  ·have aj:b≠[]:=λy=>by rw[y]at hg;simp at hg
   have F:b=b.dropLast++[aR]:=by
    rw[eP aj]at hg;simp at hg;rw[<-hg];exact(eU aj).symm
   have Q:b.length=b.dropLast.length+1:=by
    have:=pB List.length F;simpa using this
   obtain⟨U,W,q3⟩:=C.ok.chain b.dropLast.length aR f (by rw[C.fr,F];simp) (by rw[C.fr,<-Q];simp)
   have H:=C.ok.aA aR (by rw[C.fr,F];simp)
   have:=H.lr
   have:=H.lo
   exact⟨U,by show f.dst<_;omega,by show f.dst<_;omega⟩
  rintro _ Y ⟨aK,aX,aH,aO,L5,E⟩
  exact⟨E.dB L,aK,aX,aH,aO,L5,ab.trans E⟩
 simp only[ak]at K
 have:=C.XC
 omega
end
end
section
variable{a:cq}{c:J}{e b:Nat}
section
variable{k:J}{j:Nat->Nat}{m:J}{g:Nat}{d p bd h f:O}{s:St}
def Ey(L:rl k j m g ba (IB d p (bz a) s bd h f) bd h f s.bd s.heap s.aA)(z:eV k d p a)(u:dm a s)(au:∀t∈s.aA,∀w∈t.ao,w<=9223372036854775807)(aw:s.heap.length<=900000000)(aD:s.bd.length<=900000000):
 aL cp 31 [vp g 0] m λ_ H=>AX k j m g d p (bz a) (mT a s) H:=by
 apply vj (g,0)
 simp -zeta only[aC,aB]
 refine⟨s.bW,L.box.bV 3,λy=>?_,λy=>?_⟩
 ·simp at y
  rw[rY y]
  exact⟨j,bd,h,f,L,eC.az _ L.new⟩
 have F:s.bW=3:=by simpa using y
 obtain⟨l,b,r⟩:=u.split F
 have ax:s.aA.getLast?=some b:=by rw[r];simp
 have ar:s.aA.dropLast=l:=by rw[r];simp
 have C:xG a s l b (dh a b):=⟨u,F,r,rfl,au⟩
 have aH:mT a s=(open Classical in if mE (dh a b).op/\s.bE=s.aY then{s with bW:=1}else if jr a s b (dh a b) (bB b.ao b.aQ (bS a (dh a b)))then dJ a s l b (dh a b) (bB b.ao b.aQ (bS a (dh a b)))else{s with bW:=2}):=by
  unfold mT;rw[ae (by simpa using F),ax,ar]
 rw[aH]
 generalize dh a b=x at*
 have M:rl k j m g ba (IB d p (bz a) s bd h f) bd h f s.bd s.heap (l++[b]):=by rw[<-r];exact L
 obtain⟨aj,ai,W,ak,T⟩:=M.aA.fI
 have S:ST k j m g ba (IB d p (bz a) s bd h f) bd h f s.bd s.heap l b aj ai W ak:=⟨M,T⟩
 have aO:=T.uX
 have ab:=u.depth
 have aN:=u.bE
 have aS:=u.aY
 rw[r]at ab
 have aQ:l.length<=1000:=by simp at ab;omega
 have e1:cR ((f.len:Int) -1)=(l.length:Int):=by rw[aP V V];omega
 have e2:Int.toNat (l.length:Int)=l.length:=V
 have U:af m g 9=some (O.v f):=S.cH.box.bV 9
 obtain⟨R,g1,_,_,_,_⟩:=T.iv
 obtain⟨aX,hq,aF,hP,ap,hI⟩:=C.I
 obtain⟨pa,pl,pc,aT,aV,ag,k0,k1,k2,k3,k4⟩:=z.cB.D hq
 obtain⟨E,G,Y,hj,i0,i1,i2,i3,i4,i5⟩:=ag.D ap
 have aW:=z.cB.len
 have aU:=ag.len
 have X:=C.F
 have aE:=X.eu
 have ac:=X.pc
 rw[aF]at ac
 have n:=S.cH.ct
 refine⟨f,U,f,U,?_⟩
 rw[e1,e2]
 refine⟨V,V,p,S.cH.box.bV 1,_,R,aE.1,V,pc,n.af k4,_,g1,ac.1,V,_,n.af i0,_,n.af i1,_,n.af i2,_,n.af i3,E,n.af i4,G,n.af i5,?_⟩
 intro m1
 have o:N m m1:=(N.az m).aN _
 refine⟨o.bZ (n.af i0),o.bZ (n.af i1),o.bZ (n.af i2),o.bZ (n.af i3),o.bZ (n.af i4),o.bZ (n.af i5),o.bZ g1,o.bZ (n.af k4),o.bZ R,o.bZ (S.cH.box.bV 1),?_⟩
 intro c
 have aI:N m c:=o.ah (ad _) _ _
 have s2:c.size=m.size+1:=by simp[c,m1,ay]
 obtain⟨e,t2⟩:=S.ext aI
 have A:yB j c [m.size]:=λP n=>by simp at n;subst n;exact⟨V,S.cH.new _ (ad _)⟩
 clear_value c
 have aR:=C.JD
 have aG:({s with aA:=l++[b]}:St)=s:=by rw[<-r]
 have av:ln c f (l++[b]):=e.cH.aA.JP bR (λt w=>by
  have q:=u.aA t (by rw[r];exact w);obtain⟨Q,_,B,v,_⟩:=q.Hp u.fC;have D:=q.lr;have I:=q.lo;have K:=q.lh;rw[B]at D I K;have:=v.ao;omega)
 have am:RV c g 3 d p bd h f a s:=by
  have:RV c g 3 d p bd h f a {s with aA:=l++[b]}:=⟨z.ext e.cH.ct,e.cH.box.bV 0,e.cH.box.bV 1,e.cH.box.bV 3,e.cH.box.bV 4,e.cH.box.bV 5,e.cH.box.bV 6,e.cH.box.bV 7,e.cH.box.bV 8,e.cH.box.bV 9,e.cH.bd.nu V,e.cH.heap.cells V,av⟩;rw[aG]at this;exact this
 have F2:FP c f.E (f.off+l.length*6) b aj ai W:=e.fp ⟨V,V,V⟩
 have mo:¬(mE x.op/\s.bE=s.aY)->aL cp 52 [vp g 0,vp f.E (f.off+l.length*6),xv x E G] c λaK v=>
  dR [m.size] c v/\∃I:Bool,aK=vb I/\
  ((!I)=true->dZ v g (0+3) 1/\let q:J:=ah v g (0+3) [.i (2:Int)]
   dR [m.size] v q/\AX k j m g d p (bz a) (open Classical in if mE x.op/\s.bE=s.aY then{s with bW:=1}else if jr a s b x (bB b.ao b.aQ (bS a x))then dJ a s l b x (bB b.ao b.aQ (bS a x))else{s with bW:=2}) q)/\
  ((!I)=false->aL cp 53 [vp g 0,vp f.E (f.off+l.length*6),xv x E G] v λt q=>
   dR [m.size] v q/\AX k j m g d p (bz a) (open Classical in if mE x.op/\s.bE=s.aY then{s with bW:=1}else if jr a s b x (bB b.ao b.aQ (bS a x))then dJ a s l b x (bB b.ao b.aQ (bS a x))else{s with bW:=2}) q):=λaz=>by
  refine(Oc am (e.cH.box.bV 2) C F2 (Y.ext e.cH.ct) V).mono ?_
  rintro _ m3 ⟨P,rfl,Z,al⟩
  obtain⟨B,t3⟩:=e.ext al
  have K:=A.to t3
  rw[ae az]
  refine⟨t3.dB A,P,rfl,λq=>?_,λq=>?_⟩
  ·rw[ae (nb Z q)]
   refine⟨B.cH.lP (i:=3) aJ,?_⟩
   intro m4
   obtain⟨D,t⟩:=B.iJ 3 [.i 2]
   refine⟨t.dB K,j,bd,h,f,?_,(t2.trans t3).trans t⟩
   have:=D.cH
   rw[<-r]at this
   exact this
  ·have w:=yb Z q
   rw[an w]
   refine(Ps C rfl w B z Y hj aw aD).mono ?_
   rintro _ m4 ⟨aM,aq,ao,aa,Q,t⟩
   exact⟨t.dB K,aM,aq,ao,aa,Q,(t2.trans t3).trans t⟩
 refine⟨λQ H=>H=c/\(Q=true<->mE x.op),⟨λq=>⟨rfl,by simp at q;simp[mE,q]⟩,λq=>⟨λw=>⟨rfl,by simp at w;simp[mE,w]⟩,λw=>⟨rfl,by simp at q w;simp[mE,q,w]⟩⟩⟩,?_⟩
 rintro Q m3 ⟨rfl,aa⟩
 refine⟨λaq=>⟨s.bE,e.cH.box.bV 5,s.aY,e.cH.box.bV 6,λw=>?_,λw=>?_⟩,λao=>?_⟩
 ·simp at w
  refine⟨e.cH.lP (i:=3) aJ,?_⟩
  intro m4
  obtain⟨D,t⟩:=e.iJ 3 [.i 1]
  refine⟨t.dB A,j,bd,h,f,?_,t2.trans t⟩
  rw[an ⟨aa.1 aq,w⟩]
  have:=D.cH
  rw[<-r]at this
  exact this
 ·simp at w
  exact mo λt=>w t.2
 ·exact mo λt=>by have:=aa.2 t.1;rw[ao]at this;simp at this
end
def iG{m:J}{t z:O}(E:eV m t z a)(w:gP a)(aY:Int):
 aL cp 30 [.agg #[O.v t,O.v z],vi aY] m λH h=>∃u,H=.agg #[vi 3,vi 0,vi 0,vi aY,O.v .nil,O.v .nil,O.v u]/\N m h/\∃b1 b2 b3 b4 b,u=.mk b4 0 1 1/\
  oE m h b1 b2 b3 b (bg a 0 0 []).ao (bg a 0 0 []).aQ (bg a 0 0 []).br/\(b4≠b1/\b4≠b2/\b4≠b3/\m.size<=b4/\b4<h.size)/\cx h b4 cQ [.i 0,.i 0,.i 0,.s (.mk b1 0 b b),.s (.mk b2 0 b b),.s (.mk b3 0 b b)]:=by
 apply xO
 simp -zeta only[aC,aB]
 intro i c
 have x:N m c:=((N.az m).aN _).aN _
 have G:i.size=m.size+1:=by simp[i]
 have P:c.size=m.size+2:=by simp[c,G]
 clear_value c
 have I:=w.lY.len
 obtain⟨q,p⟩:=ag (l:=a.cB) (k:=0) V
 have L:=(w.dz q (av p)).ao
 have r:dy a 0=q:=by simp[dy,p]
 refine(vm (E.ext x) (cC 0) p V 0).mono ?_
 rintro _ d ⟨b1,b2,b3,rfl,f⟩
 have o:=f.ext
 have K:=f.lo
 have M:=o.size
 refine⟨o.dv bR,_,_,_,_,_,_,rfl,?_⟩
 intro e s
 have v:N d e:=(N.az d).aN _
 have Q:e.size=d.size+1:=by simp[e]
 have R:s.size=e.size:=ay _ _ _ _
 have F:cx e d.size cQ [.i 0,.i 0,.i 0,.s (.mk b1 0 q.ao.toNat q.ao.toNat),.s (.mk b2 0 q.ao.toNat q.ao.toNat),.s (.mk b3 0 q.ao.toNat q.ao.toNat)]:=cx.push d _ _
 have n:=f.Ms v
 have y:N m s:=(x.trans (o.trans v)).ah (show m.size<=i.size by omega) _ _
 have j:∀g,g≠i.size->s[g]? =e[g]? :=λg D=>bt _ _ _ _ D
 have C:(bg a 0 0 []).ao=cZ q.ao.toNat:=by simp[bg,r]
 have B:(bg a 0 0 []).aQ=cZ q.ao.toNat:=by simp[bg,r,dA]
 have A:(bg a 0 0 []).br=cZ q.ao.toNat:=by simp[bg,r]
 refine⟨_,rfl,y,b1,b2,b3,d.size,q.ao.toNat,rfl,?_,V,F.congr (j _ V)⟩
 rw[C,B,A]
 exact⟨y,V,n.kr.congr (j _ V),n.ko.congr (j _ V),n.kh.congr (j _ V),f.len⟩
def LR{m:J}{KC:List Ce}{j:O}{aY:Int}{b1 b2 b3 b4 d:Nat}(x:j=.mk b4 0 1 1)
 (i:oE m c b1 b2 b3 b (bg a 0 0 []).ao (bg a 0 0 []).aQ (bg a 0 0 []).br)(A:b4≠b1/\b4≠b2/\b4≠b3/\m.size<=b4/\b4<c.size)(z:cx c b4 cQ [.i 0,.i 0,.i 0,.s (.mk b1 0 b b),.s (.mk b2 0 b b),.s (.mk b3 0 b b)])
 (C:m.size<=d/\d≠b1/\d≠b2/\d≠b3/\d≠b4)(kb:cx c d e (KC++[.i 3,.i 0,.i 0,.i aY,.s .nil,.s .nil,.s j])):
 rl m (rh (rh (lX (λ_=>0) b1 b2 b3 0) b4 4) d 1) c d e (KC++[.i 3,.i 0,.i 0,.i aY,.s .nil,.s .nil,.s j]) .nil .nil j [] [] [bg a 0 0 []]:=by
 have B:=i.lo
 have y:N m c:=i.ext
 have D:=kb.lt
 have E:=i.ext.size
 have p:∀g,g≠d->g≠b4->(rh (rh (lX (λ_=>0) b1 b2 b3 0) b4 4) d 1) g=lX (λ_=>0) b1 b2 b3 0 g:=λg k l=>by rw[eF k,eF l]
 obtain⟨v,a2,a3⟩:=i.p7 (a:=λ_=>0) (q:=0)
 have conv:∀{q:Nat}{s:O}{t:List Ce},iD (lX (λ_=>0) b1 b2 b3 0) c aI 1 q s t->s.E≠d->s.E≠b4->iD (rh (rh (lX (λ_=>0) b1 b2 b3 0) b4 4) d 1) c aI 1 q s t:=λu k l=>u.dO (λ_=>rfl) (λ_=>p _ k l)
 refine⟨y,λg w=>?_,λg w=>?_,kb,gX _ _ _,⟨aJ,aJ,Or.inl rfl⟩,⟨[],⟨aJ,aJ,Or.inl rfl⟩,gH.nil _ _,Vl.nil⟩,?_⟩
 ·rw[p g V V];unfold lX;rw[eF V,eF V,eF V]
 ·rw[p g V V];unfold lX;rw[eF V,eF V,eF V]
 ·refine sa.uP (a:=[]) (f:=bg a 0 0 []) (r:=.mk b1 0 b b) (j:=.mk b2 0 b b) (h:=.mk b3 0 b b) (k:=[]) ⟨?_,rfl,aJ,aJ,conv v (by simp only[O.jH];omega) (by simp only[O.jH];omega),conv a2 (by simp only[O.jH];omega) (by simp only[O.jH];omega),conv a3 (by simp only[O.jH];omega) (by simp only[O.jH];omega)⟩
  rw[x]
  refine⟨rfl,ad _,Or.inr ⟨b4,1,[],rfl,?_,?_,rfl⟩⟩
  ·rw[eF V,gX]
  ·rw[dD];exact z
def Ya(m a:J)(s:O)(l:List Int):Prop:=l.length<=1000000000/\aq a s l/\(l≠[]->ij m a aI 1 s (l.map Ce.i))
def SI(m a:J)(x:YW)(v:Value):Prop:=∃bd,v=.tuple #[.agg #[vi x.bW,vi x.value,vi x.bE,O.v bd],vb x.ok]/\Ya m a bd x.bd/\N m a
def iD.Xp{f:Nat->Nat}{d m:J}{g:Nat}{s:O}{l:List Ce}(h:iD f m e g b s l)(j:∀a,a<d.size->f a=0)(n:b≠0)(o:l≠[]):ij d m e g s l:=by
 rcases h.D with c|⟨a,i,tail,c,h2,h3,h4⟩
 ·exact absurd (h.xg c).1 o
 ·refine⟨h.len,Or.inr ⟨a,i,tail,c,uL λk=>n (by rw[<-h2];exact j a k),h3,h4,?_⟩⟩;have:=h.le;rw[c]at this;simpa using this
def AT(a:cq):∀(c b:Nat)(s:St),ar a (c+b) s=ar a b (ar a c s)
 |0,b,s=>by simp[ar]
 |c+1,b,s=>by rw[Nat.succ_add];simp only[ar];exact AT a c b _
def Ny(b i:Nat)(j:List Nat)(m:J)(R:Value->J->Prop):Prop:=
 ∃(c:J->Prop)(μ0:J->Nat),c m/\(∀(a:J),c a->
 ∃e:Int,af a b 3=some (vi e)/\
 ((e==(3:Int))=true->
 aL cp 31 [vp b 0] a λf d=>
 dR j a d/\
 c d/\μ0 d<μ0 a)/\
 ((e==(3:Int))=false->
 ∃d:Int,af a b 3=some (vi d)/\
 ∃f:Int,af a b 4=some (vi f)/\
 ∃g:Int,af a b 5=some (vi g)/\
 ∃h:O,af a b 7=some (O.v h)/\
 let k:J:=ah a i 0 [.i d,.i f,.i g,.s h]
 R (.tuple #[.agg #[vi d,vi f,vi g,O.v h],vb true]) k))
def NW{s M:J}{m v n:O}{aY:Int}{w:Nat->Nat}{u i:Nat}{l:List Nat}(r:gP a)(q:0<=aY/\aY<=40)(G:eV M m v a)(C:N s M)(z:s.size<=i/\i<M.size)(A:∀g∈l,g<M.size)
 (L:rl M w c u ba (IB m v (bz a) (cD a aY) .nil .nil n) .nil .nil n [] [] [bg a 0 0 []]):
 Ny u i l c (λf d=>SI s d (Hi a aY) f):=by
 have B:=vT r q
 refine Nk (λ(b:Nat) d=>b<=100000/\AX M w c u m v (bz a) (ar a b (cD a aY)) d) (λb=>100000 -b) 0 ⟨eY _,w,.nil,.nil,n,L,eC.az _ L.new⟩ ?_
 rintro b D S μ ⟨U,Q,h,X,T,d,t3⟩ K
 have H:=sX b B
 have j:=sY b B (vU a aY) V
 have E:yB Q D l:=λg y=>⟨d.ct.lt (A g y),d.iY g (A g y)⟩
 refine⟨_,d.box.bV 3,λf=>?_,λf=>?_⟩
 ·simp at f
  have W:b<100000:=by
   rcases bA b 100000 with k|k
   ·exact k
   ·have o:b=100000:=V;have p:=(Fo r q).2.2;rw[se,<-o]at p;exact absurd f p
  refine(Ey d G H j.IN (by have:=j.heap;omega) (by have:=j.bd;omega)).mono ?_
  rintro _ t ⟨R,P,I,F,x,p⟩
  refine⟨p.dB E,K (b+1) t ⟨V,R,P,I,F,?_,t3.trans p⟩ (by show 100000 -(b+1)<100000 -b;omega)⟩
  rw[mK];exact x
 ·simp at f
  have I:nh a aY=ar a b (cD a aY):=by
   have o:100000=b+(100000 -b):=V;rw[se,o,AT,lU _ f]
  refine⟨_,d.box.bV 3,_,d.box.bV 4,_,d.box.bV 5,h,d.box.bV 7,?_⟩
  intro t
  have P:=j.bd
  have F:Hi a aY=⟨(ar a b (cD a aY)).bW,(ar a b (cD a aY)).value,(ar a b (cD a aY)).bE,(ar a b (cD a aY)).bd,true⟩:=by
   rw[Hi,an ⟨r,q⟩,I]
  rw[F]
  have k:(ar a b (cD a aY)).bd≠[]->t[h.E]? =D[h.E]? :=λk=>bt _ _ _ _ λe=>by
   have p:h.cap≠0:=λp=>by have:=(d.bd.xg p).1;simp at this;exact k this
   have f:=(d.bd.E p).2;rw[e,d.iY i z.2]at f;omega
  refine⟨h,rfl,⟨by show(ar a b (cD a aY)).bd.length<=_;omega,gR (d.bd.nu V) k,λx=>?_⟩,(C.trans d.ct).ah z.1 _ _⟩
  exact(((d.bd.Xp d.iY bh (by simpa using x)).congr (k x)).ct C.size)
def HQ{d:J}{f p:O}(Z:eV d f p a)(aY:Int):aL cp 9 [.agg #[O.v f,O.v p],vi aY] d λX T=>SI d T (Hi a aY) X:=by
 apply CP;simp -zeta only[aC,aB];intro q c;have R:N d c:=((N.az d).aN _).aN _;have s1:q.size=d.size+1:=by simp[q]
 have s2:c.size=d.size+2:=by simp[c,s1]
 have kI:cx c d.size dK [.s f,.s p]:=(cx.push d _ _).ext (N.push q _);clear_value c;have G:∀n∈[q.size,d.size],n<c.size:=bR;have U:∀{e:J},N c e->¬(gP a/\0<=aY/\aY<=40)->SI d (ah e q.size 0 [.i (0:Int),.i (0:Int),.i (0:Int),.s O.nil]) (Hi a aY) (.tuple #[.agg #[vi (0:Int),vi (0:Int),vi (0:Int),O.v O.nil],vb false]):=λh an=>by
  rw[Hi,ae an];exact⟨.nil,rfl,⟨aJ,⟨rfl,aJ,aJ,aJ⟩,λg=>absurd rfl g⟩,(R.trans h).ah V _ _⟩
 refine(sD (Z.ext R)).aK (N.az _) G λn e k h _=>⟨n,rfl,λK=>U h (λg=>nb k K g.1),λK=>⟨λL=>U h (λg=>by simp at L;omega),λL=>⟨λP=>U h (λg=>by simp at P;omega),λP=>?_⟩⟩⟩;have B:=yb k K;have hm:0<=aY/\aY<=40:=by simp at L P;omega
 have ab:=R.trans h;have s3:=h.size;have A:=Z.ext ab;have ag:=kI.ext h;have ht:=B.lY.types;have Y:∀{M:J},N e M->uR cp 29 [O.v f] M (vi (bz a)):=λz=>mQ (A.ext z).aT ht.len (λg hd=>IL ht g hd);have ks:∀{M l:J},N e M->N M l->(af l d.size 0=af M d.size 0/\af l d.size 1=af M d.size 1):=λx y=>⟨y.bZ ((ag.ext x).bV 0),y.bZ ((ag.ext x).bV 1)⟩;have sm:∀{M l:J},N e M->N M l->dR [q.size,d.size] M l:=λx y=>y.dv λn k=>x.lt (h.lt (G n k));have W:∀{M l:J}{nb:Nat},N e M->N M l->nb<M.size->dR [nb,q.size,d.size] M l:=λx y am=>y.dv λn k=>by
  rcases List.mem_cons.1 k with rfl|k
  ·exact am
  ·exact x.lt (h.lt (G n k))
 have S:∀{M s:J}{g:O}{b1 b2 b3 b4 b w:Nat},N e M->g=.mk b4 0 1 1->oE M s b1 b2 b3 b (bg a 0 0 []).ao (bg a 0 0 []).aQ (bg a 0 0 []).br->(b4≠b1/\b4≠b2/\b4≠b3/\M.size<=b4/\b4<s.size)->cx s b4 cQ [.i 0,.i 0,.i 0,.s (.mk b1 0 b b),.s (.mk b2 0 b b),.s (.mk b3 0 b b)]->
  (M.size<=w/\w≠b1/\w≠b2/\w≠b3/\w≠b4)->cx s w ba ([.s f,.s p,.i (bz a)]++[.i 3,.i 0,.i 0,.i aY,.s .nil,.s .nil,.s g])->Ny w q.size [q.size,d.size] s (λX T=>SI d T (Hi a aY) X):=λz t i F u al kb=>by
  have:=z.size
  exact NW B hm (A.ext z) (ab.trans z) V (λn k=>z.lt (h.lt (G n k))) (LR t i F u al kb)
 refine⟨(Y (N.az _)).mono ?_,?_⟩
 ·rintro _ v ⟨rfl,j⟩;have H:=ks (N.az _) j;refine⟨sm (N.az _) j,_,rfl,H.1,H.2,H.1,H.2,?_,?_⟩
  ·refine(iG (A.ext j) B aY).mono ?_;rintro _ D ⟨g,rfl,E,b1,b2,b3,b4,b,t,i,F,u⟩;have ai:=j.trans E;have ac:=ks j E;refine⟨sm j E,_,_,_,_,_,_,_,rfl,ac.1,ac.2,?_⟩;intro m8;have Q:N D m8:=(N.az D).aN _;have C:=ks ai Q;refine⟨C.1,C.2,C.1,C.1,C.2,?_⟩;intro s;have I:N D s:=Q.ah (ad _) _ _;have kb:cx s D.size ba ([.s f,.s p,.i (bz a)]++[.i 3,.i 0,.i 0,.i aY,.s .nil,.s .nil,.s g]):=cx.ah (m:=m8) (o:=0) (r:=[.s f,.s p,.i (bz a),.i 3,.i 0,.i 0,.i aY,.s .nil,.s .nil,.s g]) (cx.push D _ _);have aa:=i.lo;have s9:=I.size;have s7:=E.size;exact S j t (i.Ms I) V (u.ext I) V kb
  ·intro D;have Q:N v D:=(N.az v).aN _;have ao:D.size=v.size+1:=by simp[D]
   have I:=j.trans Q;have C:=ks j Q;have kz:cx D v.size ba [.s .nil,.s .nil,.i 0,.i 0,.i 0,.i 0,.i 0,.s .nil,.s .nil,.s .nil]:=cx.push v _ _;refine⟨C.1,C.2,C.1,C.1,C.2,?_⟩;clear_value D;refine(iG (A.ext I) B aY).mono ?_;rintro _ ai ⟨g,rfl,E,b1,b2,b3,b4,b,t,i,F,u⟩;have ac:=ks I E;refine⟨W I E V,_,_,_,_,_,_,_,rfl,ac.1,ac.2,?_⟩;intro aj;have aa:=i.lo;have ak:=i.box Q (nb:=v.size) (ad _) V 0 [.s f,.s p,.i (bz a),.i 3,.i 0,.i 0,.i aY,.s .nil,.s .nil,.s g];have kb:cx aj v.size ba ([.s f,.s p,.i (bz a)]++[.i 3,.i 0,.i 0,.i aY,.s .nil,.s .nil,.s g]):=cx.ah (m:=ai) (o:=0) (r:=[.s f,.s p,.i (bz a),.i 3,.i 0,.i 0,.i aY,.s .nil,.s .nil,.s g]) (kz.ext E);have ap:aj.size=ai.size:=ay _ _ _ _;exact S j t ak V (u.congr (bt _ _ _ _ V)) V kb
 ·intro D;have v:N e D:=(N.az e).aN _;have ao:D.size=e.size+1:=by simp[D]
  have C:=ks (N.az _) v;have kz:cx D e.size ba [.s .nil,.s .nil,.i 0,.i 0,.i 0,.i 0,.i 0,.s .nil,.s .nil,.s .nil]:=cx.push e _ _;refine⟨C.1,C.2,C.1,C.1,C.2,?_⟩;clear_value D;refine(Y v).mono ?_;rintro _ ak ⟨rfl,j⟩;have E:=v.trans j;have H:=ks v j;have ap:=j.size;refine⟨W v j V,_,rfl,H.1,H.2,H.1,H.2,?_⟩;refine(iG (A.ext E) B aY).mono ?_;rintro _ ac ⟨g,rfl,I,b1,b2,b3,b4,b,t,i,F,u⟩;have Q:=ks E I;refine⟨W E I V,_,_,_,_,_,_,_,rfl,Q.1,Q.2,?_⟩;intro ai;have aa:=i.lo;have aj:=i.box E (nb:=e.size) (ad _) V 0 [.s f,.s p,.i (bz a),.i 3,.i 0,.i 0,.i aY,.s .nil,.s .nil,.s g];have kb:cx ai e.size ba ([.s f,.s p,.i (bz a)]++[.i 3,.i 0,.i 0,.i aY,.s .nil,.s .nil,.s g]):=cx.ah (m:=ac) (o:=0) (r:=[.s f,.s p,.i (bz a),.i 3,.i 0,.i 0,.i aY,.s .nil,.s .nil,.s g]) (kz.ext (j.trans I));have aq:ai.size=ac.size:=ay _ _ _ _;exact S (N.az _) t aj V (u.congr (bt _ _ _ _ V)) V kb
end
end Go.Proofs.YtgnjacfobdjeeaaGreat
section
namespace Go.Vc
def uZ{m:J}{b o:Nat}{v:Value}(h:(af m b o).isSome=true):af (qE m b o v) b o=some v:=by
 unfold af at h⊢;simp only[qE,kY,KE];cases d:m[b]? with
 |none=>rw[d]at h;simp at h
 |some f=>
  rw[d]at h;cases f with
  |cells c g i=>
   simp only[]at h;have e:o<c.size:=by
    rcases bA o c.size with a|a
    ·exact a
    ·rw[Hg a]at h;simp at h
   simp[e]
  |_=>simp at h
def Jt{m:J}{c o a b:Nat}{v:Value}(h:a≠c\/b≠o):af (qE m c o v) a b=af m a b:=by
 by_cases d:a=c
 ·subst d;have e:b≠o:=by rcases h with h|h;exact absurd rfl h;exact h
  unfold af;simp only[qE,kY,KE];cases d:m[a]? with
  |none=>rfl
  |some f=>
   cases f with
   |cells g i j=>simp[km e]
   |_=>rfl
 ·exact aM (JY _ _ _ _ d) _
def Pj(m:J)(c o:Nat)(v:Value)(a d:Nat):uY (qE m c o v) a d=uY m a d:=by
 by_cases b:a=c
 ·subst b;unfold uY;simp only[qE,kY,KE];cases b:m[a]? with
  |none=>rfl
  |some e=>
   cases e with
   |cells f g h=>rfl
   |_=>rfl
 ·unfold uY;rw[JY _ _ _ _ b]
structure Sz(m:J)(k:Int)(pos:List (Nat×Nat))(m':J):Prop where
 size:m.size<=m'.size
 E:∀b,b<m.size->(∀p∈pos,p.1≠b)->m'[b]? =m[b]?
 cell:∀b o,b<m.size->(b,o)∉pos->af m' b o=af m b o
 uY:∀b o,b<m.size->Vc.uY m' b o=Vc.uY m b o
 int:∀p∈pos,∃n,af m' p.1 p.2=some (vi n)
 val:pos.Nodup->∀(j:Nat)(p:Nat×Nat),pos[j]? =some p->af m' p.1 p.2=some (vi (k+j))
def Sz.nil{m c:J}(h:N m c)(k:Int):Sz m k [] c:=
 ⟨h.size,λb a _=>h.same b a,λb o a _=>aM (h.same b a) o,λb o a=>by unfold Vc.uY;rw[h.same b a],aJ,aJ⟩
def Sz.jZ{m:J}{b o:Nat}(h:(af m b o).isSome=true)(k:Int):Sz m k [(b,o)] (ah m b o [.i k]):=by
 refine⟨tj (ay _ _ _ _).symm,λc f d=>bt _ _ _ _ λe=>d (b,o) aJ e.symm,λc q f d=>?_,λc q f=>Pj _ _ _ _ _ _,λp a=>?_,λ_ j p a=>?_⟩
 ·refine Jt ?_;by_cases e:c=b
  ·right;intro g;subst e;subst g;simp at d
  ·exact Or.inl e
 ·simp at a;subst a;exact⟨k,uZ h⟩
 ·cases j with
  |zero=>
   simp at a;subst a;have e:k+((0:Nat):Int)=k:=V;rw[e];exact uZ h
  |succ j=>simp at a
def Sz.trans{m l n:J}{k:Int}{e p2:List (Nat×Nat)}(h:Sz m k e l)(g:Sz l (k+e.length) p2 n):Sz m k (e++p2) n:=by
 have v:=h.size;refine⟨bX h.size g.size,λc f b=>?_,λc o f b=>?_,λc o f=>?_,λp a=>?_,λhd j p a=>?_⟩
 ·rw[g.E c V λp a=>b p (fw _ a),h.E c f λp a=>b p (bJ _ a)]
 ·rw[g.cell c o V λa=>b (fw _ a),h.cell c o f λa=>b (bJ _ a)]
 ·rw[g.uY c o V,h.uY c o f]
 ·by_cases i:p∈p2
  ·exact g.int p i
  ·have d:p∈e:=by rcases List.mem_append.1 a with d|d;exact d;exact absurd d i
   obtain⟨q,b⟩:=h.int p d;exact⟨q,by rw[g.cell p.1 p.2 (mB b) i];exact b⟩
 ·obtain⟨i,r,s⟩:=List.nodup_append.1 hd;by_cases u:j<e.length
  ·rw[aw u]at a;have d:p∈e:=fL a;obtain⟨q,b⟩:=h.int p d;rw[g.cell p.1 p.2 (mB b) λt=>s p d p t rfl];exact h.val i j p a
  ·rw[aF V]at a;have:=g.val r _ p a;have d:k+(e.length:Int)+((j -e.length:Nat):Int)=k+j:=V;rw[d]at this;exact this
inductive SA where
 |nil
 |int (r:SA)
 |sl (e r:SA)
def SA.size:SA->Nat
 | .nil=>0
 | .int r=>r.size+1
 | .sl _ r=>r.size+1
inductive Re where
 |iv (r:SA)
 |Gk (e:SA) (n:Nat)
inductive uV(m:J):Re->Nat->Nat->List (Nat×Nat)->Prop where
 |nil (b o:Nat):uV m (.iv .nil) b o []
 |int {b o:Nat} {r:SA} {p:List (Nat×Nat)} {n:Int} (h:af m b o=some (vi n)) (hf:Vc.uY m b o=false) (hr:uV m (.iv r) b (o+1) p):uV m (.iv (.int r)) b o ((b,o)::p)
 |sl {b o:Nat} {e r:SA} {p1 p2:List (Nat×Nat)} {s:O} (h:af m b o=some (O.v s)) (hl:s.len<=9223372036854775807) (he:uV m (.Gk e s.len) s.E s.off p1) (hr:uV m (.iv r) b (o+1) p2):uV m (.iv (.sl e r)) b o (p1++p2)
 |zero (e:SA) (b o:Nat):uV m (.Gk e 0) b o []
 |succ {b o n:Nat} {e:SA} {p1 p2:List (Nat×Nat)} (he:uV m (.iv e) b o p1) (hr:uV m (.Gk e n) b (o+e.size) p2):uV m (.Gk e (n+1)) b o (p1++p2)
def uV.nu{m:J}{K:Re}{f o:Nat}{e:List (Nat×Nat)}(h:uV m K f o e):∀p∈e,∃n,af m p.1 p.2=some (vi n):=by
 induction h with
 |nil=>simp
 |int h c d b=>
  intro p a;rcases List.mem_cons.1 a with rfl|a
  ·exact⟨_,h⟩
  ·exact b p a
 |sl h i g d b c=>
  intro p a;rcases List.mem_append.1 a with a|a
  ·exact b p a
  ·exact c p a
 |zero=>simp
 |succ g d b c=>
  intro p a;rcases List.mem_append.1 a with a|a
  ·exact b p a
  ·exact c p a
def uV.lt{m:J}{K:Re}{b o:Nat}{a:List (Nat×Nat)}(h:uV m K b o a):∀p∈a,p.1<m.size:=λp d=>let⟨_,c⟩:=h.nu p d;mB c
def Sq(n:Int)(s:O):vi n≠O.v s:=by cases s<;>simp[vi,O.v]
def uV.Tn{m j:J}{u:Int}{q:List (Nat×Nat)}(g:Sz m u q j)(t:∀p∈q,∃n,af m p.1 p.2=some (vi n)){K:Re}{b o:Nat}{k:List (Nat×Nat)}(h:uV m K b o k):uV j K b o k:=by
 induction h with
 |nil=>exact .nil _ _
 | @int b o v p n h d i e=>
  have a:=mB h;by_cases c:(b,o)∈q
  ·obtain⟨l,f⟩:=g.int _ c;exact .int f (by rw[g.uY b o a];exact d) e
  ·exact .int (by rw[g.cell b o a c];exact h) (by rw[g.uY b o a];exact d) e
 | @sl b o w v x p2 l h r p i d e=>
  have a:=mB h;refine .sl (s:=l) ?_ r d e;rw[g.cell b o a λc=>?_]
  ·exact h
  ·obtain⟨n,f⟩:=t _ c;rw[h]at f;exact Sq n l (Q2 f).symm
 |zero=>exact .zero _ _ _
 |succ p i d e=>exact .succ d e
def uV.ext{m a:J}(d:N m a){K:Re}{b o:Nat}{c:List (Nat×Nat)}(h:uV m K b o c):uV a K b o c:=h.Tn (Sz.nil d 0) aJ
end Go.Vc
namespace Go.Proofs.YtgnjacfobdjeeaaGreat
open Go.Vc
end Go.Proofs.YtgnjacfobdjeeaaGreat
end
namespace Go.Proofs.YtgnjacfobdjeeaaGreat
open Go.Vc
section
section
variable{m:J}{s t:O}{l r:List Int}
end
section
variable{m:J}{b P:Nat}{c:O}{a:List Nat}
def IF(d:Rd b c P m)(i:P+2<=10000000000000000):aL cp 48 [vp b 0] m λv f=>(∃k,v=vi k)/\Fz [b] m f:=by
 apply BZ (b,0);refine(cw d V 12).mono λ_ j⟨k,e,_,_,g,a⟩=>⟨k,e,?_⟩;intro l;refine(Cs (Rs.mk a g) V [40,40,k,0,3,20,40,41,-1] rfl rfl aJ).mono λ_ n⟨t,e,_,h,_⟩=>⟨t,e,⟨t,rfl⟩,h.f⟩
def DV.ext{a:J}{cJ:O}(h:DV m cJ)(x:N m a):DV a cJ:=⟨h.1,λk d=>let⟨v,b,c,g⟩:=h.2 k d;⟨v,b,c,x.af g⟩⟩
def DR(a:List Nat)(m:J)(v:Value)(b:J):Prop:=∃d p c k,v=.tuple #[.agg #[O.v d,O.v p],vi k]/\eV (bM a b) d p c/\N m b
def xR{cJ:O}(h:DV m cJ)(D:∀k∈a,k<m.size):aL cp 27 [O.v cJ] m (DR a m):=by
 apply tx;simp -zeta only[aC,aB];intro b;have n:N m b:=N.push m _;have M:b.size=m.size+1:=by simp[b]
 clear_value b;refine(GM (h.ext n)).mono λ_ L⟨c,e,y,o⟩=>⟨o.dv bR,(b.size,0),e,?_⟩;have K:=y.lt;have P:=o.size;refine(H9 (a:=m.size::b.size::a) (λk t=>?_) aJ y (by simp[Cg])).mono λ_ i⟨q,x,A,e,z,_,I,l⟩=>⟨l.dv bR,q,x,e,?_⟩
 ·simp only[aU]at t;rcases t with h|h|h
  ·omega
  ·omega
  ·have:=D k h;omega
 have Q:=l.size;intro F j;have p:N i j:=(N.push i _).ah (ad _) _ _;have R:j.size=i.size+1:=by simp[j,F,ay]
 clear_value j;refine(IF (I.ext p) (by simp[Cg])).mono λ_ w⟨⟨u,e⟩,d⟩=>⟨d.dv bR,u,e,aM (d.same _ V bR) _,aM (d.same _ V bR) _,?_⟩;intro G;have v:Le (bM (m.size::b.size::a) i) (bM a G):=λf H J E=>by
  obtain⟨g,C⟩:=dV.1 E;have:=d.cW (S:=m.size::b.size::a) aJ f H J (dV.2 ⟨g,p.af C⟩);simp only[aU,tn]at g;exact dV.2 ⟨g.2.2,(aM (bt _ _ _ _ g.1) _).trans (dV.1 this).2⟩
 have r:Fz [b.size] b w:=(((o.fz _).trans l).trans (p.fz _)).trans d;have B:N m w:=⟨by have:=r.size;omega,λf s=>(r.same f (n.lt s) bR).trans (n.same f s)⟩;exact⟨q,x,⟨A.1,A.2⟩,u,rfl,⟨z.1.le v,iP.le v z.2⟩,B.ah (ad _) _ _⟩
end
end
def Zy(n:Nat)(f:Nat->Int):List Int:=(List.range n).map f
structure Vf(h:List bQ):Prop where
 jX:pZ h
 cells:∀c∈h,yD h c
 mj:∀(a:Nat)(c:bQ),h[a]? =some c->0<c.aS->mj h a<=c.aS
 Qz:VZ h
structure Rj(h:List bQ)(f:aW):Prop where
 dz:∀(k:Nat)(w o:Int),f.ao[k]? =some w->f.aQ[k]? =some o->(jm w\/1000<=w)/\(0<=o/\o<=999999)/\(0<o->fQ h w)
structure TJ(im:cq)(h:List bQ)(prev:Option aW)(f:aW):Prop where
 eu:0<=f.eu/\f.eu<im.cB.length
 pc:0<=f.pc/\f.pc<(dy im f.eu).cJ.length
 lr:(f.ao.length:Int)=(dy im f.eu).ao
 lo:(f.aQ.length:Int)=(dy im f.eu).ao
 lh:(f.br.length:Int)=(dy im f.eu).ao
 ao:Rj h f
 first:prev=none->f.dst=0
 next:∀p,prev=some p->0<=f.dst/\f.dst<p.aQ.length/\D p.aQ f.dst=0
def MM(a:List aW):Nat->Option aW
 |0=>none
 |k+1=>a[k]?
structure Vg(h:List bQ)(fs:List aW):Prop where
 cy:∀f∈fs,∀w∈f.br,w=0\/(1000<=w/\ix w<h.length)
 kD:∀(i:Nat)(c:bQ),h[i]? =some c->c.aS<0->holds fs i=1
 px:∀(i:Nat)(c:bQ),h[i]? =some c->0<=c.aS->holds fs i=0
structure TO(im:cq)(s:St):Prop where
 fC:gP im
 bW:0<=s.bW/\s.bW<=3
 done:s.bW=0<->s.aA=[]
 value:jm s.value
 DQ:s.value≠0->s.bW=0
 aY:0<=s.aY/\s.aY<=40
 bE:0<=s.bE/\s.bE<=s.aY
 depth:(s.aA.length:Int)<=s.bE+1
 bd:∀n∈s.bd,jm n
 heap:Vf s.heap
 aA:∀(k:Nat)(f:aW),s.aA[k]? =some f->TJ im s.heap (MM s.aA k) f
 br:Vg s.heap s.aA
 Yu:∀(a:Nat)(c:bQ),s.heap[a]? =some c->0<c.aS->c.aS=mj s.heap a+lB s.aA a
def RP{a:List aW}{f:aW}{b:Nat}(c:f∈a):fR f.br b<=holds a b:=by
 induction a with
 |nil=>simp at c
 |cons g a d=>
  simp only[holds];rcases List.mem_cons.1 c with rfl|c
  ·have:=En a b;omega
  ·have:=d c;have:=ju g.br b;omega
def O2(w:Int):Prop:=-9223372036854775808<=w/\w<=9223372036854775807
def XU(h:List bQ):Prop:=∀c∈h,∀w∈c.aR,O2 w
section
variable{a b:Nat}
def Jg(mk:Nat->Bool):Nat->Nat
 |0=>0
 |n+1=>Jg mk n+(if mk n=true then 1 else 0)
def Jh{mk a:Nat->Bool}:∀{n:Nat},(∀i,i<n->mk i=a i)->Jg mk n=Jg a n
 |0,_=>rfl
 |n+1,h=>by simp only[Jg];rw[Jh λi b=>h i V,h n V]
def Oz(mk:Nat->Bool)(a:Nat):Nat->Bool:=λx=>if x=a then true else mk x
def LN(mk:Nat->Bool)(a:Nat):Oz mk a a=true:=an rfl
def tS{mk:Nat->Bool}(h:b≠a):Oz mk a b=mk b:=ae h
def AO{mk:Nat->Bool}(h:mk b=true):Oz mk a b=true:=by unfold Oz;split;rfl;exact h
def Ji{mk:Nat->Bool}{a:Nat}(h:mk a=false):∀{n:Nat},a<n->Jg (Oz mk a) n=Jg mk n+1
 |0,c=>absurd c (HI _)
 |n+1,c=>by
  simp only[Jg];rcases bA a n with b|b
  ·rw[Ji h b,tS V];omega
  ·have e:a=n:=V;subst e;rw[LN,an rfl,h,ae aJ,Jh (a:=mk) λi d=>tS V]
def Rf(h:List bQ)(mk:Nat->Bool):Prop:=
 ∃t:Nat->Nat,(∀j,mk j=true->t j<=Jg mk h.length)/\∀(i:Nat)(c:bQ),h[i]? =some c->mk i=true->∀w∈c.aR,1000<=w->mk (ix w)=true/\t (ix w)<t i
def XJ(mk:Nat->Bool)(a:List Int):Prop:=∀w∈a,1000<=w->mk (ix w)=true
def Rf.set{h:List bQ}{mk:Nat->Bool}(u:Rf h mk){j:bQ}(l:h[a]? =some j)(e:mk a=false)(s:XJ mk j.aR):Rf h (Oz mk a):=by
 obtain⟨z,k,r⟩:=u;have t:=aD l;have q:=Ji e t;refine⟨λx=>if x=a then Jg mk h.length+1 else z x,λv n=>?_,λi d hd m w p o=>?_⟩
 ·simp only[q];split
  ·omega
  ·rename_i b;rw[tS b]at n;have:=k v n;omega
 ·by_cases f:i=a
  ·subst f;rw[l]at hd;simp at hd;subst hd;have b:=s w p o;have g:ix w≠i:=λc=>by rw[c,e]at b;cases b
   simp only[an,ae g];exact⟨AO b,by have:=k _ b;omega⟩
  ·rw[tS f]at m;obtain⟨b,y⟩:=r i d hd m w p o;have g:ix w≠a:=λc=>by rw[c,e]at b;cases b
   simp only[ae f,ae g];exact⟨AO b,y⟩
end
structure gG(m:J)(bd hp fr:O)(s:St):Prop where
 bd:aq m bd s.bd
 heap:fN m hp s.heap
 aA:ln m fr s.aA
def gG.ext{m d:J}{bd c b:O}{s:St}(h:gG m bd c b s)(a:N m d):gG d bd c b s:=⟨h.bd.ext a,fN.ext a h.heap,ln.ext a h.aA⟩
def Va(f:aW):Prop:=(∀w∈f.ao,O2 w)/\(∀w∈f.aQ,O2 w)/\(∀w∈f.br,O2 w)
structure Q9(s:St):Prop where
 bE:O2 s.bE
 heap:XU s.heap
 aA:∀f∈s.aA,Va f
 lh:s.heap.length<=10000000
 lf:s.aA.length<=10000000
 lr:∀f∈s.aA,f.ao.length<=10000000/\f.aQ.length<=10000000/\f.br.length<=10000000
def ZR(s:St)(bd b a:O):Value:=.agg #[vi s.bW,vi s.value,vi s.bE,vi s.aY,O.v bd,O.v b,O.v a]
section
section
variable{m:J}{d p bd b a:O}{c:cq}{s:St}
end
end
section
section
variable{m:J}{d p bd b a:O}{c:cq}{s:St}
structure V6(h:List bQ)(fs:List aW):Prop where
 len:∀f∈fs,f.aQ.length=f.ao.length
 ao:∀f∈fs,Rj h f
def V6.aQ{h:List bQ}{a:List aW}(H:V6 h a){f:aW}(b:f∈a):∀o∈f.aQ,0<=o/\o<=999999:=λo e=>by
 obtain⟨d,c⟩:=List.mem_iff_getElem?.1 e;obtain⟨w,g⟩:=ag (l:=f.ao) (k:=d) (by have:=aD c;have:=H.len f b;omega);exact((H.ao f b).dz d w o g c).2.1
end
end
section
variable{b:List bQ}{d:bQ}{a:Nat}{W:List Nat}{e:Nat->Int}
structure Nw(b:List bQ)(d:bQ):Prop where
 lo: -1<=d.aS
 kd:0<=d.kd/\d.kd<=99
 fl:d.aR.length<=3
 FK:d.aS<1->d.kd=0
 ic:d.aS=0->d.aR=[]
 cy:∀w∈d.aR,wo b w/\(d.aS<0->w=0)
def Nw.ok(a:Nw b d)(e:d.aS<=999999):yD b d:=
 ⟨a.fl,a.lo,e,λhd=>⟨a.FK hd,λw c=>by
  by_cases f:d.aS<0
  ·exact(a.cy w c).2 f
  ·rw[a.ic V]at c;simp at c,a.ic⟩,λ_=>⟨λw c=>(a.cy w c).1,a.kd⟩⟩
def yD.v(a:yD b d):Nw b d:=by
 refine⟨a.lo,?_,a.fl,λhd=>(a.FK hd).1,λf=>(a.FK V).2.2 f,λw e=>⟨?_,λg=>(a.FK V).2.1 w e⟩⟩
 ·by_cases c:0<d.aS
  ·exact(a.rm c).2
  ·have:=(a.FK V).1;omega
 ·by_cases c:0<d.aS
  ·exact(a.rm c).1 w e
  ·have:=(a.FK V).2.1 w e;exact Or.inl (by subst this;exact⟨bh,bh⟩)
def Nw.cases(c:Nw b d){w:Int}(e:w∈d.aR):fQ b w\/w<1000:=by
 rcases(c.cy w e).1 with a|a
 ·have:=a.2;exact Or.inr V
 ·exact Or.inl a
def JR(mk:Nat->Bool):Nat->List bQ->Nat->Int
 |_,[],_=>0
 |i,d::b,a=>(if mk i=true then 0 else fR d.aR a)+JR mk (i+1) b a
def Ou(mk:Nat->Bool):∀(i:Nat)(b:List bQ)(a:Nat),0<=JR mk i b a
 |_,[],_=>cC 0
 |i,d::b,a=>by have:=Ou mk (i+1) b a;have:=ju d.aR a;simp only[JR];split<;>omega
def Ot{mk:Nat->Bool}:∀{e:Nat}{b:List bQ}{j:Nat}{d:bQ},b[j]? =some d->mk (e+j)=false->∀a,fR d.aR a<=JR mk e b a
 |_,[],_,_,b,_,_=>by simp at b
 |e,l::b,0,d,f,g,a=>by
  simp at f;subst f;have:=Ou mk (e+1) b a;simp only[jF]at g;simp only[JR,g];simp;omega
 |e,l::b,j+1,d,f,g,a=>by
  have:=Ot (mk:=mk) (e:=e+1) (b:=b) (j:=j) (d:=d) (by simpa using f) (by rw[<-g];congr 1;omega) a;have:=ju l.aR a;simp only[JR];split<;>omega
def Vi(b:List bQ)(mk:Nat->Bool):Prop:=
 ∃t:Nat->Nat,(∀j,mk j=true->t j<=Jg mk b.length)/\∀(i:Nat)(d:bQ),b[i]? =some d->∀w∈d.aR,1000<=w->mk (ix w)=true->mk i=true/\t i<t (ix w)
def Vi.set{mk:Nat->Bool}(u:Vi b mk)(t:a<b.length)(k:mk a=false)(B:JR mk 0 b a=0):Vi b (Oz mk a):=by
 obtain⟨A,n,s⟩:=u;have r:=Ji k t;have v:∀(c:Nat)(d:bQ),b[c]? =some d->(1000+(a:Int))∈d.aR->mk c=true:=λc d f g=>by
  cases e:mk c
  ·have g1:=Ot (mk:=mk) (e:=0) f (by rw[cO];exact e) a;have g2:=wy g;omega
  ·rfl
 refine⟨λx=>if x=a then Jg mk b.length+1 else A x,λy o=>?_,λc d f w g q p=>?_⟩
 ·simp only[r];split
  ·omega
  ·rename_i h;rw[tS h]at o;have:=n y o;omega
 ·by_cases h:ix w=a
  ·have e:=v c d f (by rw[<-h,jI q];exact g);have l:c≠a:=λj=>by rw[j,k]at e;cases e
   simp only[an h,ae l];exact⟨AO e,by have:=n c e;omega⟩
  ·rw[tS h]at p;obtain⟨m,z⟩:=s c d f w g q p;have l:c≠a:=λj=>by rw[j,k]at m;cases m
   simp only[ae h,ae l];exact⟨AO m,z⟩
structure Me(b:List bQ)(mk:Nat->Bool)(W:List Nat)(e:Nat->Int):Prop where
 Qj:W.Nodup
 un:∀a∈W,a<b.length/\mk a=false
 zero:∀a,a<b.length->(e a=0<->(mk a=true\/a∈W))
def JL:∀(n:Nat)(W:List Nat),W.Nodup->(∀a∈W,a<n)->W.length<=n
 |0,[],_,_=>ad _
 |0,a::_,_,b=>absurd (b a aJ) (HI _)
 |n+1,W,hd,b=>by
  by_cases d:n∈W
  ·have e:=JL n (W.erase n) (hd.erase n) λa c=>by
    have:=hd.mem_erase_iff.1 c;have:=b a this.2;omega
   rw[List.length_erase_of_mem d]at e;omega
  ·have:=JL n W hd λa c=>by
    have:=b a c;have:a≠n:=λe=>d (e▸c);omega
   omega
def Me.len{mk:Nat->Bool}(K:Me b mk W e):W.length<=b.length:=JL _ _ K.Qj λa c=>(K.un a c).1
def Me.Vx{mk:Nat->Bool}(K:Me b mk (W++[a]) e):Me b (Oz mk a) W e:=by
 obtain⟨g,i,h⟩:=List.nodup_append.1 K.Qj;refine⟨g,λx d=>?_,λx d=>?_⟩
 ·have f:=K.un x (bJ _ d);refine⟨f.1,?_⟩;rw[tS λc=>h x d a aJ c];exact f.2
 ·rw[K.zero x d];by_cases c:x=a
  ·subst c;simp[LN]
  ·rw[tS c];simp[c]
def Me.mT{mk:Nat->Bool}{g:Nat->Int}(K:Me b mk W e)(j:a<b.length)(k:∀x,g x=if x=a then e x -1 else e x)(m:0<e a):
 (g a=0->Me b mk (W++[a]) g)/\(g a≠0->Me b mk W g):=by
 have h:mk a≠true/\a∉W:=by
  have:=(K.zero a j).2;constructor
  ·intro d;have:=this (Or.inl d);omega
  ·intro d;have:=this (Or.inr d);omega
 refine⟨λi=>⟨?_,λx c=>?_,λx c=>?_⟩,λi=>⟨K.Qj,K.un,λx c=>?_⟩⟩
 ·rw[List.nodup_append]
  refine⟨K.Qj,aJ,λx c y l f=>?_⟩
  simp at l;subst l;subst f;exact h.2 c
 ·rcases List.mem_append.1 c with c|c
  ·exact K.un x c
  ·simp at c;subst c;exact⟨j,by simpa using h.1⟩
 ·by_cases f:x=a
  ·subst f;simp[i]
  ·rw[k x,ae f,K.zero x c];simp[f]
 ·by_cases f:x=a
  ·subst f
   constructor
   ·intro d;exact absurd d i
   ·rintro(d|d)
    ·exact absurd d h.1
    ·exact absurd d h.2
  ·rw[k x,ae f,K.zero x c]
end

section
variable{a b:Nat}{m d:J}
structure Vb(im:cq)(f:aW):Prop where
 eu:0<=f.eu/\f.eu<im.cB.length
 pc:0<=f.pc/\f.pc<(dy im f.eu).cJ.length
 lr:(f.ao.length:Int)=(dy im f.eu).ao
 lo:(f.aQ.length:Int)=(dy im f.eu).ao
 lh:(f.br.length:Int)=(dy im f.eu).ao
 dz:∀(k:Nat)(w o:Int),f.ao[k]? =some w->f.aQ[k]? =some o->(jm w\/1000<=w)/\(0<=o/\o<=999999)
def Vb.aQ{e:cq}{f:aW}(h:Vb e f):∀o∈f.aQ,0<=o/\o<=999999:=λo c=>by
 obtain⟨b,a⟩:=List.mem_iff_getElem?.1 c;have:=aD a;have g:=h.lr;have i:=h.lo;obtain⟨w,d⟩:=ag (l:=f.ao) (k:=b) V;exact(h.dz b w o d a).2
structure PX(a b:Nat)(m m':J):Prop where
 size:m.size<=m'.size
 same:∀c,c<m.size->c≠a->c≠b->m'[c]? =m[c]?
def PX.az(a b:Nat)(m:J):PX a b m m:=⟨ad _,λ_ _ _ _=>rfl⟩
def PX.ext{g:J}(h:PX a b m g)(f:N g d):PX a b m d:=⟨bX h.size f.size,λc e i j=>by rw[f.same c (aO e h.size)];exact h.same c e i j⟩
def PX.trans{j:J}(h:PX a b m j)(i:PX a b j d):PX a b m d:=⟨bX h.size i.size,λc g e f=>by rw[i.same c (aO g h.size) e f];exact h.same c g e f⟩
def PX.ah{d:J}(h:PX a b m d){c:Nat}(i:c=a\/c=b)(o:Nat)(l:List Ce):PX a b m (ah d c o l):=
 ⟨by rw[ay];exact h.size,λx j f g=>by rw[bt l d c o (by rcases i with e|e<;>rw[e]<;>assumption)];exact h.same x j f g⟩
def PX.U1{c g:J}(h:PX a b m g)(d:N c m)(i:c.size<=a)(j:c.size<=b):N c g:=
 ⟨bX d.size h.size,λe f=>by rw[h.same e (d.lt f) V V];exact d.same e f⟩
structure Yd(h:List bQ)(f:aW):Prop where
 aQ:∀(k:Nat)(w o:Int),f.ao[k]? =some w->f.aQ[k]? =some o->0<o->fQ h w
 br:∀w∈f.br,w≠0->1000<=w/\∃c,h[ix w]? =some c/\c.aS<0
structure ZL(m:J)(ob hb n:Nat)(fo fh:Nat->Int):Prop where
 aQ:cx m ob aI ((Zy n fo).map Ce.i)
 br:cx m hb aI ((Zy n fh).map Ce.i)
 ne:ob≠hb
end
section
def XT(a:List aW)(k:Nat)(f:aW):Prop:=(MM a k=none->f.dst=0)/\∀p,MM a k=some p->0<=f.dst/\f.dst<p.aQ.length/\D p.aQ f.dst=0
structure Vd(im:cq)(s:St)(k:Nat)(f:aW):Prop where
 v:Vb im f
 dst:XT s.aA k f
 ZT:Yd s.heap f
def Vd.ok{c:cq}{s:St}{k:Nat}{f:aW}(h:Vd c s k f):TJ c s.heap (MM s.aA k) f:=
 ⟨h.v.eu,h.v.pc,h.v.lr,h.v.lo,h.v.lh,⟨λj w o b a=>⟨(h.v.dz j w o b a).1,(h.v.dz j w o b a).2,h.ZT.aQ j w o b a⟩⟩,h.dst.1,h.dst.2⟩
def TO.w{m:cq}{s:St}(h:TO m s){k:Nat}{f:aW}(d:s.aA[k]? =some f):Vd m s k f:=by
 have F:=h.aA k f d;refine⟨⟨F.eu,F.pc,F.lr,F.lo,F.lh,λj w o b c=>⟨(F.ao.dz j w o b c).1,(F.ao.dz j w o b c).2.1⟩⟩,⟨F.first,F.next⟩,λj w o b c=>(F.ao.dz j w o b c).2.2,λw b q=>?_⟩;obtain⟨g,n⟩:=(h.br.cy f (av d) w b).resolve_left q;obtain⟨e,i⟩:=ag n;refine⟨g,e,i,Int.not_le.1 λp=>?_⟩;have r:=h.br.px _ e i p;have t:=RP (av d) (b:=ix w);have u:=wy (l:=f.br) (f:=ix w) (by rw[jI g];exact b);omega
section
variable{m:J}{d p bd b a:O}{c:cq}{s:St}
end
end
end Go.Proofs.YtgnjacfobdjeeaaGreat
section
namespace Go.Vc
def fZ.jY{m:J}{b o:Nat}{l r:List Ce}(h:fZ m b o l)(k:fZ m b (o+l.length) r):fZ m b o (l++r):=λi d a=>by
 rcases bA i l.length with c|c
 ·rw[aw c]at a;exact h i d a
 ·rw[aF c]at a;have:=k _ d a;rwa[show o+l.length+(i -l.length)=o+i by omega]at this
end Go.Vc
namespace Go.Proofs.YtgnjacfobdjeeaaGreat
open Go.Vc
def ij.WM{m c:J}{s:O}{l:List Ce}{e n:Nat}(f:ij m c e n s l)(j:N m c){a:Nat->Nat}(i:∀b,m.size<=b->a b=0)(k:Nat):∃d,eC (λ_=>False) a m d c/\iD d c e n k s l/\∀b,d b=a b\/d b=k:=by
 rcases f.D with h|⟨b,g,tail,h,h2,h3,h4,h5⟩
 ·exact⟨a,eC.fP _ j i,iD.gQ f λo=>absurd h o,λb=>Or.inl rfl⟩
 ·refine⟨rh a b k,eC.rh j i h2 h3.lt k,iD.gQ f λ_=>by rw[h];exact gX _ _ _,λg=>?_⟩;by_cases e:g=b
  ·rw[e];exact Or.inr (gX _ _ _)
  ·exact Or.inl (eF e)
structure ZG(N:Nat)(ro:Nat->Nat)(m:J)(r:O)(h:List bQ)(css0 css:List (List Ce))(k:Nat):Prop where
 p7:iD ro m wZ 3 3 r css.flatten
 len:css.length=h.length
 size:∀cs∈css,cs.length=3
 done:∀(j:Nat)(cs:List Ce)(c:bQ),j<k->css[j]? =some cs->h[j]? =some c->Hh N ro m cs c
 mo:∀j,k<=j->css[j]? =css0[j]?
 Z4:∀(i j:Nat)(ci cj:List Ce)(a b:O),i<k->j<k->css[i]? =some ci->css[j]? =some cj->ci[2]? =some (.s a)->cj[2]? =some (.s b)->i≠j->a.len≠0->b.len≠0->a.E≠b.E
end Go.Proofs.YtgnjacfobdjeeaaGreat
end
namespace Go.Proofs.YtgnjacfobdjeeaaGreat
open Go.Vc
section
variable{a e:Nat->Nat}{m g d:J}
structure Bs(d:J)(a:Nat->Nat)(m:J):Prop where
 ct:N d m
 iY:∀b,b<d.size->a b=0
 new:∀b,m.size<=b->a b=0
structure uf(d:J)(a:Nat->Nat)(m:J)(bd hp fr:O)(s:St):Prop where
 bs:Bs d a m
 bd:iD a m aI 1 2 bd (s.bd.map Ce.i)
 heap:dH d.size a m hp s.heap
 aA:oJ a m fr s.aA
structure I7(s:St):Prop where
 bd:s.bd.length<=900000000
 fl:∀c∈s.heap,c.aR.length<=3
 heap:s.heap.length<=900000000
 depth:s.aA.length<=1000
 aA:∀f∈s.aA,f.ao.length<=1000000/\f.aQ.length<=1000000/\f.br.length<=1000000
abbrev Xs:=eC (λk=>2<=k)
def Xs.none(h:Xs a m e g)(d:∀b,b<m.size->a b<=1):eC (λ_=>False) a m e g:=⟨h.size,h.jU,h.new,λb c _=>h.dO b c (by have:=d b c;omega)⟩
def eC.U1(h:eC (λ_=>False) a m e g):N m g:=⟨h.size,λb c=>h.dO b c id⟩
def Bs.gC(B:Bs d a m)(h:eC (λ_=>False) a m e g):Bs d e g:=⟨B.ct.trans h.U1,λb c=>by rw[h.jU b (B.ct.lt c)];exact B.iY b c,h.new⟩
structure XS(d:J)(a:Nat->Nat)(m:J)(e:Nat->Nat)(M:J)(q r:O)(s:St):Prop where
 gC:Xs a m e M
 bd:iD e M aI 1 2 q (s.bd.map Ce.i)
 heap:dH d.size e M r s.heap
def XS.mT{i j:Nat->Nat}{f g:J}{q r:O}{s:St}(h:XS d a m i f q r s){p:Nat->Prop}(e:eC p i f j g)(c:∀k,p k->4<=k):XS d a m j g q r s:=
 ⟨h.gC.trans (e.mono λk b=>by have:=c k b;omega),h.bd.gC e λb=>by have:=c _ b;omega,h.heap.gC e (λb=>by have:=c _ b;omega) λb=>by have:=c _ b;omega⟩
structure ZF(a:Nat->Nat)(m:J)(r:O)(fs:List aW)(css0 css:List (List Ce))(k:Nat):Prop where
 p7:iD a m cQ 6 4 r css.flatten
 len:css.length=fs.length
 size:∀cs∈css,cs.length=6
 done:∀(j:Nat)(cs:List Ce)(f:aW),j<k->css[j]? =some cs->fs[j]? =some f->Sy a m j cs f
 mo:∀j,k<=j->css[j]? =css0[j]?
end
section
variable{e:Nat->Nat}{d:J}
abbrev z7:List Ce:=[.i 0,.i 0,.i 0,.i 0,.s .nil,.s .nil,.s .nil]
structure PW(m0:J)(ro:Nat->Nat)(m m2:J)(s:St)(ro':Nat->Nat)(M:J)(q r:Option O)(ob:Option Nat):Prop where
 gC:Xs ro m ro' M
 ext:N m2 M
 YL:r=none->∀b,ro' b≠3
 box:∀b,m.size<=b->b<m2.size->ro' b=8
 bd:∀x,q=some x->iD ro' M aI 1 2 x (s.bd.map Ce.i)
 heap:∀x,r=some x->dH m0.size ro' M x s.heap
 ob:∀x,ob=some x->m2.size<=x/\ro' x=8/\cx M x uI z7
section
variable{h:J}{i:Nat->Nat}{m g:J}{s:St}{f:Nat->Nat}{M:J}{q r:Option O}{j:Option Nat}
def PW.jB(k:PW h i m g s f M q r j)(n:eC (λa=>a=3) f M e d)(p:N M d)(C:∀b,m.size<=b->b<g.size->e b=8){u o:Option O}{t:Option Nat}(z:r=none\/eC (λ_=>False) f M e d)(B:o=none->∀b,e b≠3)
 (w:∀x,u=some x->q=some x\/iD e d aI 1 2 x (s.bd.map Ce.i))(y:∀x,o=some x->r=some x\/dH h.size e d x s.heap)(A:∀x,t=some x->j=some x\/(g.size<=x/\e x=8/\cx d x uI z7)):PW h i m g s e d u o t:=
 ⟨k.gC.trans (n.mono λa c=>V),k.ext.trans p,B,C,λx c=>(w x c).elim (λa=>(k.bd x a).gC n bh) id,
  λx c=>(y x c).elim (λa=>z.elim (λl=>by rw[l]at a;cases a) λl=>(k.heap x a).gC l id id) id,
  λx c=>(A x c).elim (λa=>by
   obtain⟨v,b,l⟩:=k.ob x a;exact⟨v,by rw[n.jU _ l.lt];exact b,l.ext p⟩) id⟩
def PW.RS(a:PW h i m g s f M q r j){p:Nat->Prop}(l:eC p f M e d):∀b,m.size<=b->b<g.size->e b=8:=λb k c=>by rw[l.jU b (a.ext.lt c)];exact a.box b k c
def PW.c(b:PW h i m g s f M none r j){x:O}(n:ij M d aI 1 x (s.bd.map Ce.i))(k:N M d):∃e,PW h i m g s e d (some x) r j:=by
 obtain⟨e,C,A,l⟩:=ij.WM n k b.gC.new 2;exact⟨e,b.jB (C.mono λ_=>False.elim) k (b.RS C) (Or.inr C) (λa c=>by have:=l c;have:=b.YL a c;omega) (λy a=>Or.inr (by simp at a;subst a;exact A)) (λy a=>Or.inl a) λy a=>Or.inl a⟩
def PW.a(a:PW h i m g s f M q r j)(b:N M d):PW h i m g s f d q r j:=
 have C:eC (λ_=>False) f M f d:=eC.fP _ b a.gC.new
 a.jB (C.mono λ_=>False.elim) b (a.RS C) (Or.inr C) a.YL (λy e=>Or.inl e) (λy e=>Or.inl e) λy e=>Or.inl e
def PW.b(b:PW h i m g s f M q r none){d:J}(a:d=M.push (.cells (bC z7) uI)):∃e,PW h i m g s e d q r (some M.size):=by
 have l:N M d:=by rw[a];exact N.push _ _
 have C:eC (λ_=>False) f M (rh f M.size 8) d:=eC.rh l b.gC.new (ad _) (by rw[a];simp) 8;refine⟨_,b.jB (C.mono λ_=>False.elim) l (b.RS C) (Or.inr C) (λn c=>?_) (λy a=>Or.inl a) (λy a=>Or.inl a) λy j=>Or.inr ?_⟩
 ·by_cases k:c=M.size
  ·rw[k,gX];decide
  ·rw[eF k];exact b.YL n c
 ·simp at j;subst j;exact⟨b.ext.size,gX _ _ _,by rw[a];exact cx.push _ _ _⟩
end
end
section
variable{n e:Nat}{M a:J}
def PQ:St:=⟨0,0,0,0,[],[],[]⟩
structure Z3 where
 s:St
 ok:Bool
def dm.lI{j:cq}{s:St}(h:dm j s)(b:Sm n s)(o:n<=900000000):I7 s:=by
 refine⟨by have:=b.bd;omega,λc e=>(h.heap.cell c e).fl,by have:=b.heap;omega,?_,λf g=>?_⟩
 ·have:=h.depth;have:=h.bE;have:=h.aY;omega
 ·have a:=h.aA f g;obtain⟨p,_,i,d,_⟩:=a.Hp h.fC;have k:=a.lr;have l:=a.lo;have m:=a.lh;rw[i]at k l m;have:=d.ao;omega
def Q9.sm{s:St}(h:Q9 s)(a:s.heap.length<=n)(b:s.bd.length<=n):Sm n s:=⟨a,b,λg c w d=>((h.aA g c).1 w d).2⟩
section
variable{b:J}{c:Nat->Nat}{m:J}{bd f d:O}{s:St}
def uf.JP(h:uf b c m bd f d s)(a:I7 s):gG m bd f d s:=
 ⟨h.bd.nu (by have:=a.bd;omega),h.heap.cells (by have:=a.heap;omega),h.aA.JP (by have:=a.depth;omega) a.aA⟩
def uf.cH(h:uf b c m bd f d s){g:J}(k:N m g){a:Nat}{i:List Ce}(j:m.size<=a)(kb:cx g a e i):rl b (rh c a 1) g a e i bd f d s.bd s.heap s.aA:=by
 have C:eC (λ_=>False) c m (rh c a 1) g:=eC.rh k h.bs.new j kb.lt 1;have B:=h.bs.gC C;exact⟨B.ct,B.iY,B.new,kb,gX _ _ _,h.bd.gC C id,h.heap.gC C id id,h.aA.gC C λ_ _=>id⟩
def uf.nil{b m:J}(a:N b m):uf b (λ_=>0) m .nil .nil .nil PQ:=
 ⟨⟨a,λ_ _=>rfl,λ_ _=>rfl⟩,⟨by simp[PQ],aJ,Or.inl rfl⟩,⟨[],⟨aJ,aJ,Or.inl rfl⟩,by simpa[PQ]using gH.nil _ _,Vl.nil⟩,oJ.none⟩
def rl.JP{h e:Nat}{a:List Ce}(L:rl b c m h e a bd f d s.bd s.heap s.aA)(g:I7 s):gG m bd f d s:=
 uf.JP (c:=c) ⟨⟨L.ct,L.iY,L.new⟩,L.bd,L.heap,L.aA⟩ g
end
def iD.up{a:Nat->Nat}{m d mx:J}{f k:Nat}{s:O}{l:List Ce}(h:iD a m e f k s l)(j:k≠0)(g:∀b,b<mx.size->a b=0)(i:∀b,mx.size<=b->b<m.size->d[b]? =m[b]?):iD a d e f k s l:=
 h.dO (λc=>i _ (uL λn=>j (by rw[<-(h.E c).2];exact g _ n)) (h.E c).1) λ_=>rfl
def uf.PC{mx m:J}{q:Nat->Nat}{bd p n:O}{s:St}(h:uf mx q M bd p n s)(y:m.size<=mx.size)(z:M.size<=a.size)(c:∀b,mx.size<=b->b<M.size->a[b]? =M[b]?)(w:N m a):uf m q a bd p n s:=by
 have d:=h.bs.iY;refine⟨⟨w,λb f=>d b V,λb f=>h.bs.new b V⟩,h.bd.up bh d c,?_,?_⟩
 ·obtain⟨g,r,a2,a3⟩:=h.heap;refine⟨g,r.up bh d c,a2.mono λj x⟨i,u,k,l⟩=>⟨i,u,gR k λf=>c _ (l f).2.1 (iB k f),λf=>?_⟩,a3⟩;obtain⟨g1,g2,t,tail,v,o⟩:=l f;exact⟨g1,V,t,tail,v,o.congr (c _ g2 o.lt)⟩
 ·obtain⟨g,f⟩:=h.aA;exact⟨g,f.p7.up bh d c,f.len,f.size,λr j i k l=>by
   obtain⟨u,t,o,e,b1,b2,b3⟩:=f.dz r j i k l;exact⟨u,t,o,e,b1.up V d c,b2.up V d c,b3.up V d c⟩⟩
def uf.box{mx m:J}{d:Nat->Nat}{bd b a:O}{s:St}(h:uf mx d M bd b a s)(c:N m mx){nb:Nat}(e:m.size<=nb)(g:nb<mx.size)(o:Nat)(l:List Ce):uf m d (ah M nb o l) bd b a s:=
 h.PC c.size (tj (ay _ _ _ _).symm) (λf i _=>bt _ _ _ _ V) ((c.trans h.bs.ct).ah e _ _)
def uf.ext{e:J}{f:Nat->Nat}{bd d c:O}{s:St}(h:uf e f M bd d c s)(b:N M a):uf e f a bd d c s:=h.PC (ad _) b.size (λg _ i=>b.same g i) (h.bs.ct.trans b)
def Bs.Bf(m:J):Bs m (λ_=>0) m:=⟨N.az _,λ_ _=>rfl,λ_ _=>rfl⟩
section
variable{m:J}{d p bd i f:O}{j:cq}{s:St}
variable(b:eV m d p j)(c:gG m bd i f s)(g:Q9 s)(h:s.bd.length<=10000000)
include b c g h
omit b c in
end
end
section
def uf.old{mx M a:J}{g:Nat->Nat}{bd d c:O}{s:St}(h:uf mx g M bd d c s)(f:M.size<=a.size)(i:∀b,mx.size<=b->b<M.size->a[b]? =M[b]?):uf (a.extract 0 mx.size) g a bd d c s:=
 have e:=bX h.bs.ct.size f
 h.PC (by rw[nC e];exact ad _) f i (N.KC e)
def rl.old{d M b:J}{k:Nat->Nat}{e g:Nat}{f:List Ce}{bd j h:O}{a:St}(L:rl d k M e g f bd j h a.bd a.heap a.aA)(l:d.size<=e)(m:M.size<=b.size)(i:∀c,d.size<=c->c<M.size->b[c]? =M[c]?):rl (b.extract 0 d.size) k b e g f bd j h a.bd a.heap a.aA:=
 have N:=uf.old (s:=a) ⟨⟨L.ct,L.iY,L.new⟩,L.bd,L.heap,L.aA⟩ m i
 ⟨N.bs.ct,N.bs.iY,N.bs.new,L.box.congr (i _ l L.box.lt),L.LI,N.bd,N.heap,N.aA⟩
section
variable{S:List Nat}{m:J}{c P:Nat}{a d p:O}{b:cq}
end
end
end Go.Proofs.YtgnjacfobdjeeaaGreat
